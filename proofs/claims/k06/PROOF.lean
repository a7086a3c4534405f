import PyProof.Rows.All
import Wide.All
import OpenK.AllK
import Wide.FinOn
import KE.DataMinMax
import KE.DataCmp
import KE.SortData
import HandS.RevTup
import HandS.Rev
import HandS.ForExc
import HandS.Wide
import HandS.SortInts
import HandS.SetFor
import HandS.Flow
import HandS.IsInst
import HandS.TupMul
import HandS.Style
import HandS.CallSlots
import HandS.TupAny
import HandS.Deep
import HandS.Comp
import HandS.Walk
import HandS.TryMany
import HandS.ExcIs
import HandS.Defaults
import HandS.Conv
import HandS.Words
import HandS.WordsExc
import HandS.Ends
import HandS.MakeKwOnly
import PySem.Challenge.RW_nextchord_k06_least_form_of_a_family
set_option Elab.async false
set_option linter.all false
set_option maxRecDepth 100000
set_option maxHeartbeats 4000000
namespace ZY
open PySem PySem.Spec PyProof.Rows PySem.W
section
variable {prog : Program} {w : World} {A : Around} {E : Value → Shared → Prop} {s : Shared}
/-! sum of a tuple of whole numbers -/
theorem sum_tup {l : Addr} {its : List Value} {ns : List Int} {Q : Value → Shared → Prop} (hh : A.handled = none) (hl : s.heap.IsTuple l its.toArray) (hi : IntsAre its ns)
    (h : ∀ h' tk t', (∀ b o, s.heap.get? b = some o → h'.get? b = some o) → Q (.int ns.sum t') { s with heap := h', toks := tk }) : wpAny (model prog w) A (call (.builtin "sum") [.ref l]) Q E s := by
  obtain ⟨xs, e⟩ := hi.allInts.items
  have hn : numsOf (intItems xs).toList = ns := by rw [← e]; exact hi.numsOf
  rw [nums_intItems] at hn
  rw [e] at hl
  have hlt : l < s.heap.objs.size := by obtain ⟨_, q, _⟩ := id hl; exact Heap.lt_size q
  refine call_sum_walkG (wpAny_pyIter_tuple hl ?_)
  refine ⟨_, _, _, _, _, _, numAt xs, rfl, Walks.tuple (A := A.in1) hh s.heap.objs.size l (Nat.ne_of_lt hlt) (intItems xs), ⟨⟨_, Heap.get?_push_size _ rfl, rfl, rfl⟩, hl.push _⟩, fun b hb => ?_, (fun _ _ => intItems_at), fun h' tk t' hk => ?_⟩
  · show b < (s.heap.push _).objs.size
    rw [Heap.size_push]
    rcases List.mem_cons.mp hb with rfl | hb
    · exact Nat.lt_succ_self _
    · rcases List.mem_cons.mp hb with rfl | hb
      · exact Nat.lt_succ_of_lt hlt
      · cases hb
  · have := h h' tk t' (fun b o q => by
      refine hk b o (fun hm => ?_) (Heap.get?_push_of_some _ q)
      rcases List.mem_cons.mp hm with e1 | hm
      · exact absurd (e1 ▸ Heap.lt_size q) (Nat.lt_irrefl _)
      · cases hm)
    subst hn
    rw [preSum_eq, List.take_of_length_le (by simp [intItems])]
    exact this
/-! max(a, b) of alike data -/
theorem max_two_data {a b : Value} {da db : PyData} {as : List Addr} {Q : Value → Shared → Prop} (hh : A.handled = none) (r : ReadsAll s.heap [a, b] [da, db] as) (ha : AlikeAll [da, db]) (hu : A.units + 1 + PyData.depthAll [da, db] < cLine)
    (h : ∀ h' tk, (∀ c o, s.heap.get? c = some o → h'.get? c = some o) → Q (if dataLt da db = true then b else a) { s with heap := h', toks := tk }) :
    wpAny (model prog w) A (call (.builtin "max") [a, b]) Q E s := by
  have hname : (toString "max" ++ toString ".loop" : String) = "max.loop" := by decide
  refine call_function_tree F.kind_max F.plain_max F.entry_max (F.args_max2 _ _) ?_
  show wpAny _ A.in1 (Builtin.Builtins.bindParams "max" ["key", "default"] 0 ⟨[], []⟩ >>= _) _ _ s
  refine wpAny_bind (wpAny_of_eq (show Builtin.Builtins.bindParams "max" ["key", "default"] 0 ⟨[], []⟩ = pure [none, none] from rfl) ?_)
  show wpAny _ A.in1 (newTuple [a, b] >>= _) _ _ s
  refine wpAny_bind (wpAny_newObj_type ?_)
  have hT : (s.heap.push { cls := .type "tuple", data := .seq #[a, b] }).IsTuple s.heap.objs.size #[a, b] := ⟨_, Heap.get?_push_size _ rfl, rfl, 0, rfl⟩
  refine wpAny_bind (iter_tupleW (A := A.in1) (s := { s with heap := s.heap.push { cls := .type "tuple", data := .seq #[a, b] } }) hh hT fun s₂ e W st hfp hw hk => ?_)
  refine wpAny_bind (wpAny_newObj_type ?_)
  have hSf : s₂.heap.objs.size ∉ [(s.heap.push { cls := .type "tuple", data := .seq #[a, b] }).objs.size, s.heap.objs.size] := fun hm => Nat.lt_irrefl _ (hfp _ hm)
  rw [hname]
  have r2 : ReadsAll (s.heap.push { cls := .type "tuple", data := .seq #[a, b] }) (#[a, b] : Array Value).toList [da, db] as := ReadsAll.keeps (fun c o q => Heap.get?_push_of_some _ q) r
  have cmp := cmpIn_gt (prog := prog) (w := w) (A := A.in1) (s := { s with heap := s.heap.push { cls := .type "tuple", data := .seq #[a, b] } }) r2 ha hu
  refine wpAny_pure ⟨plainId_quiet F.plain_max_loop _, codeAny_max_loop_firstH W (s.heap.push { cls := .type "tuple", data := .seq #[a, b] }) hw _ cmp s₂.heap.objs.size hSf (fresh_in hk) _ (show 0 < (#[a, b] : Array Value).size from Nat.zero_lt_succ _) (fun b o e => Heap.get?_push_of_some _ (hk b o e)) (W.frame 0 s₂ _ s₂.toks st (Nat.le_refl _) fun b _ o e => Heap.get?_push_of_some _ e) (Heap.get?_push_size _ rfl) fun v s' hP hm => ?_⟩
  obtain ⟨h', tk, rfl, hk'⟩ := moved_old e rfl (Moved.drop_new (tk := s₂.toks) hm (Nat.le_refl _))
  have := h h' tk fun c o q => hk' c o (Heap.get?_push_of_some _ q)
  have ev : v = if dataLt da db = true then b else a := by
    change (#[a, b] : Array Value)[argBest (fun i j => dataLt ([da, db].getD j .none) ([da, db].getD i .none)) 1]? = some v at hP
    by_cases q : dataLt da db = true
    · rw [if_pos q]
      have : argBest (fun i j => dataLt ([da, db].getD j .none) ([da, db].getD i .none)) 1 = 1 := by simp [argBest, q]
      rw [this] at hP
      simpa using hP.symm
    · rw [if_neg q]
      have : argBest (fun i j => dataLt ([da, db].getD j .none) ([da, db].getD i .none)) 1 = 0 := by simp [argBest, q]
      rw [this] at hP
      simpa using hP.symm
  rw [ev]; exact this
/-! list(reversed(x)) -/
theorem extend_rev {R : Result → Shared → Prop} {it l S : Addr} {items : Array Value} {c0 : Nat} (hh : A.handled = none) (hit : s.heap.IsRevIter it l ((items.size : Int) - 1)) (hl : s.heap.IsList l items) (hne : l ≠ it) (hn : items.size ≤ sizeLine)
    (hSi : S ≠ it) (hSl : S ≠ l) (hS : s.heap.get? S = some { cls := .type "list", data := .seq #[] c0 })
    (hR : ∀ (h' : Heap) (tk : Nat) (acc : Array Value) (c' : Nat), (∀ b o, b ≠ it → b ≠ S → s.heap.get? b = some o → h'.get? b = some o) → h'.get? S = some { cls := .type "list", dict := none, data := .seq acc c', slots := #[] } → ItemsOf (fun i v => items[items.size - 1 - i]? = some v) acc items.size → R (.ok (.ret .none)) { s with heap := h', toks := tk }) :
    wpAny (model prog w) A.in1 (Builtin.List.listExtendWith (.ref S) (.ref it) .none)
      (fun fin s' => match fin with | .done f => R (.ok f) s' | .again c' => c'.quiet = true ∧ codeAny (model prog w) A c' R s') (fun e s' => R (.error e) s') s := by
  have W := (Walks.listRev (prog := prog) (w := w) (A := A.in1) hh it l hne items).toS
  have hSf : S ∉ [it, l] := by simp only [List.mem_cons, List.not_mem_nil, or_false, not_or]; exact ⟨hSi, hSl⟩
  have hT : s.TypeIs (.ref it) "list_reverseiterator" := hit.typeIs
  have h1 : Builtin.List.listSameRef (.ref S) (.ref it) = false := by simp [Builtin.List.listSameRef, hSi]
  unfold Builtin.List.listExtendWith
  refine wpAny_bind (wpAny_typeOf hT ?_)
  rw [if_neg (by rw [h1]; decide)]
  refine wpAny_bind (wpAny_pyIter_revIter hit ?_)
  refine wpAny_bind (wpAny_holding ?_)
  unfold Builtin.List.listLengthHint
  refine wpAny_bind (wpAny_specialOf hT RT.nolen_lri ?_)
  show wpAny _ A.in1 (specialOf (Value.ref it) (Str.ofString "__length_hint__") >>= _) _ _ _
  refine wpAny_bind (wpAny_specialOf hT RT.hint_lri ?_)
  generalize hid : ("list_reverseiterator.__length_hint__" : String) = id0
  wp_delta
  rw [show splitId id0 = some ("list_reverseiterator", "__length_hint__") from by subst hid; decide +kernel]
  subst hid
  refine wpAny_bind (wpAny_isInstance (b := true) hT (by rw [isSubtype_type]; kernel_rfl) ?_)
  refine wpAny_pure ?_
  rw [if_neg (by decide)]
  have e0 : ((items.size : Nat) : Int) - 1 - ((0 : Nat) : Int) = (items.size : Int) - 1 := by omega
  refine wpAny_pure ⟨plainId_quiet F.plain_extend_loop _, codeAny_extend_loopS W hn _ hSf _ items.size 0 _ _ _ rfl (Nat.zero_le _) ⟨Nat.zero_le _, by rw [e0]; exact hit, hl⟩ hS (ItemsOf.nil _) fun s' acc' c' hm hS' hacc => ?_⟩
  rw [Moved.eq_with hm]
  refine hR s'.heap s'.toks acc' c' (fun b o hb hb2 e => hm.heap b o (fun hmem => ?_) e) hS' hacc
  rcases List.mem_cons.mp hmem with e' | hmem
  · exact hb2 e'
  · exact hb (List.mem_singleton.mp hmem)
theorem init_rev {R : Result → Shared → Prop} {it l S : Addr} {items : Array Value} (hh : A.handled = none) (hit : s.heap.IsRevIter it l ((items.size : Int) - 1)) (hl : s.heap.IsList l items) (hne : l ≠ it) (hn : items.size ≤ sizeLine)
    (hSi : S ≠ it) (hSl : S ≠ l) (hS : s.heap.get? S = some { cls := .type "list", data := .seq #[] })
    (hR : ∀ (h' : Heap) (tk : Nat) (acc : Array Value) (c' : Nat), (∀ b o, b ≠ it → b ≠ S → s.heap.get? b = some o → h'.get? b = some o) → h'.get? S = some { cls := .type "list", dict := none, data := .seq acc c', slots := #[] } → ItemsOf (fun i v => items[items.size - 1 - i]? = some v) acc items.size → R (.ok (.ret .none)) { s with heap := h', toks := tk }) :
    wpAny (model prog w) A.in1 (Builtin.«list.__init__» ⟨[.ref S, .ref it], []⟩)
      (fun fin s' => match fin with | .done f => R (.ok f) s' | .again c' => c'.quiet = true ∧ codeAny (model prog w) A c' R s') (fun e s' => R (.error e) s') s := by
  show wpAny _ A.in1 (do let old ← Builtin.List.listItems (.ref S); Builtin.List.listUpdate (.ref S) (fun _ => #[]); letGo old.toList.reverse; Builtin.List.listExtendWith (.ref S) (.ref it) .none) _ _ s
  refine wpAny_bind ?_
  unfold Builtin.List.listItems
  refine wpAny_bind (wpAny_seqItems hS rfl (wpAny_pure ?_))
  show wpAny _ A.in1 (updateSeq S (fun _ => #[]) >>= fun _ => letGo (#[] : Array Value).toList.reverse >>= fun _ => Builtin.List.listExtendWith (.ref S) (.ref it) .none) _ _ s
  refine wpAny_bind (wpAny_updateSeq hS rfl ?_)
  have hS2 := Heap.get?_update_self (Obj.mapSeq (fun _ => (#[] : Array Value))) hS rfl
  have oth : ∀ b o, b ≠ S → s.heap.get? b = some o → (s.heap.update S (Obj.mapSeq (fun _ => (#[] : Array Value)))).get? b = some o :=
    fun b o hb e => (Heap.get?_update_other _ _ (Ne.symm hb)).trans e
  refine wpAny_bind (wpAny_letGo ?_)
  obtain ⟨ol, hol, kl⟩ := id hl
  refine extend_rev hh (hit.at fun o e => oth it o (Ne.symm hSi) e) ⟨ol, oth l ol (Ne.symm hSl) hol, kl⟩ hne hn hSi hSl hS2 fun h' tk acc c' hk hS' hacc => ?_
  exact hR h' tk acc c' (fun b o hb hb2 e => hk b o hb hb2 (oth b o hb2 e)) hS' hacc
theorem call_list_rev {it l : Addr} {items : Array Value} {Q : Value → Shared → Prop} (hh : A.handled = none) (hit : s.heap.IsRevIter it l ((items.size : Int) - 1)) (hl : s.heap.IsList l items) (hne : l ≠ it) (hn : items.size ≤ sizeLine)
    (hQ : ∀ (h' : Heap) (tk : Nat) (acc : Array Value) (c' : Nat), (∀ b o, b ≠ it → s.heap.get? b = some o → h'.get? b = some o) → h'.get? s.heap.objs.size = some { cls := .type "list", dict := none, data := .seq acc c', slots := #[] } →
      ItemsOf (fun i v => items[items.size - 1 - i]? = some v) acc items.size → Q (.ref s.heap.objs.size) { s with heap := h', toks := tk }) :
    wpAny (model prog w) A (call (.type "list") [.ref it]) Q E s := by
  obtain ⟨oi, hoi, _⟩ := id hit
  obtain ⟨ol, hol, _⟩ := id hl
  have hSi : s.heap.objs.size ≠ it := Nat.ne_of_gt (Heap.lt_size hoi)
  have hSl : s.heap.objs.size ≠ l := Nat.ne_of_gt (Heap.lt_size hol)
  refine callType_codes (Q₁ := fun obj s₁ => obj = .ref s.heap.objs.size ∧ s₁ = { s with heap := s.heap.push { cls := .type "list", data := .seq #[] } }) F.called_list (F.typeCall_list_1 _) F.entry_list_init
    (code_list_new _ ⟨rfl, rfl⟩) fun obj s₁ h₁ => ?_
  obtain ⟨rfl, rfl⟩ := h₁
  have hS : (s.heap.push { cls := .type "list", data := .seq #[] }).get? s.heap.objs.size = some { cls := .type "list", data := .seq #[] } := Heap.get?_push_size _ rfl
  refine ⟨⟨_, hS, rfl⟩, F.args_list_init_2 _ _, init_rev (A := A.in1) hh (hit.at fun o e => Heap.get?_push_of_some _ e) (hl.push _) hne hn hSi hSl hS fun h' tk acc c' hk hS' hacc => ?_⟩
  exact ⟨rfl, hQ h' tk acc c' (fun b o hb e => hk b o hb (Nat.ne_of_lt (Heap.lt_size e)) (Heap.get?_push_of_some _ e)) hS' hacc⟩
/-! max(t), min(t) of a tuple of whole numbers -/
theorem readsAll_ints {h : Heap} : ∀ {its : List Value} {ns : List Int}, IntsAre its ns → ∃ as, ReadsAll h its (ns.map .int) as
  | _, _, .nil => ⟨_, .nil⟩
  | _, _, .cons n t r => by
    obtain ⟨as, q⟩ := readsAll_ints (h := h) r
    exact ⟨_, .cons (.int n t) q⟩
theorem alikeAll_ints (ns : List Int) : AlikeAll (ns.map .int) := by
  refine ⟨fun x hx y hy => ?_, fun x hx => ?_⟩
  · obtain ⟨i, _, rfl⟩ := List.mem_map.mp hx
    obtain ⟨j, _, rfl⟩ := List.mem_map.mp hy
    simp [alike]
  · obtain ⟨i, _, rfl⟩ := List.mem_map.mp hx
    intro e; cases e
theorem max_tup {l : Addr} {its : List Value} {n : Int} {ns : List Int} {Q : Value → Shared → Prop} (hh : A.handled = none) (hl : s.heap.IsTuple l its.toArray) (hi : IntsAre its (n :: ns)) (hu : A.units + 64 < cLine)
    (h : ∀ h' tk t', (∀ b o, s.heap.get? b = some o → h'.get? b = some o) → Q (.int (ns.foldl max n) t') { s with heap := h', toks := tk }) : wpAny (model prog w) A (call (.builtin "max") [.ref l]) Q E s := by
  obtain ⟨as, r⟩ := readsAll_ints (h := s.heap) hi
  refine max_tuple_data (x := .int n) (xs := ns.map .int) hh hl (by simpa using r) (alikeAll_ints (n :: ns)) ?_ fun i v h' tk bs _ q k => ?_
  · rw [show PyData.int n :: ns.map .int = (n :: ns).map .int from rfl, depth_ints]; omega
  · rw [maxD_ints] at q
    cases q
    exact h h' tk _ k
theorem min_tup {l : Addr} {its : List Value} {n : Int} {ns : List Int} {Q : Value → Shared → Prop} (hh : A.handled = none) (hl : s.heap.IsTuple l its.toArray) (hi : IntsAre its (n :: ns)) (hu : A.units + 64 < cLine)
    (h : ∀ h' tk t', (∀ b o, s.heap.get? b = some o → h'.get? b = some o) → Q (.int (ns.foldl min n) t') { s with heap := h', toks := tk }) : wpAny (model prog w) A (call (.builtin "min") [.ref l]) Q E s := by
  obtain ⟨as, r⟩ := readsAll_ints (h := s.heap) hi
  refine min_tuple_data (x := .int n) (xs := ns.map .int) hh hl (by simpa using r) (alikeAll_ints (n :: ns)) ?_ fun i v h' tk bs _ q k => ?_
  · rw [show PyData.int n :: ns.map .int = (n :: ns).map .int from rfl, depth_ints]; omega
  · rw [minD_ints] at q
    cases q
    exact h h' tk _ k
theorem max_dflt {l : Addr} {its : List Value} {ns : List Int} {d : Value} {Q : Value → Shared → Prop} (hh : A.handled = none) (hl : s.heap.IsList l its.toArray) (hi : IntsAre its ns) (hu : A.units + 64 < cLine)
    (h0 : ns = [] → ∀ h' tk, (∀ b o, s.heap.get? b = some o → h'.get? b = some o) → Q d { s with heap := h', toks := tk })
    (h : ∀ n r h' tk t', ns = n :: r → (∀ b o, s.heap.get? b = some o → h'.get? b = some o) → Q (.int (r.foldl max n) t') { s with heap := h', toks := tk }) : wpAny (model prog w) A (call (.builtin "max") [.ref l] [(Str.ofString "default", d)]) Q E s := by
  obtain ⟨as, r⟩ := readsAll_ints (h := s.heap) hi
  refine max_list_default (xs := ns.map .int) hh hl (by simpa using r) (alikeAll_ints ns) (by rw [depth_ints]; omega) (fun e => h0 (by simpa using e)) fun y ys i v h' tk bs e _ q k => ?_
  cases ns with
  | nil => simp at e
  | cons n ns =>
    simp only [List.map_cons, List.cons.injEq] at e
    obtain ⟨rfl, rfl⟩ := e
    rw [maxD_ints] at q
    cases q
    exact h n ns h' tk _ rfl k
end
end ZY

set_option Elab.async false
set_option linter.all false
set_option maxRecDepth 100000
set_option maxHeartbeats 4000000
namespace ZY
open PySem PySem.Spec PyProof.Rows PySem.W
theorem nolen_rt : typeLookup (.type "reversed") "__len__" = pure none := by rw [typeLookup_type, builtinLookup_eq_fast]; kernel_rfl
theorem hint_rt : typeLookup (.type "reversed") "__length_hint__" = pure (some (.builtin "reversed.__length_hint__")) := by rw [typeLookup_type, builtinLookup_eq_fast]; kernel_rfl
theorem slot_rt_hint : Slot "reversed" "__length_hint__" "reversed.__length_hint__" :=
  .of (owner := "reversed") (n := "__length_hint__") (by rw [typeLookup_type, builtinLookup_eq_fast]; kernel_rfl) (by decide +kernel) (by decide +kernel) (by decide +kernel)
    (by first | exact .inl (by decide +kernel) | exact .inr (by decide +kernel)) (by rw [isSubtype_type]; kernel_rfl)
theorem entry_rt_hint : entryFor table "reversed.__length_hint__" = some Builtin.«reversed.__length_hint__» := entryFor_of_tree (by kernel_rfl)
theorem args_rt_hint (a : Value) : argsOk "reversed.__length_hint__" ⟨[a], []⟩ := by
  unfold argsOk; rw [signature?_of (id := "reversed.__length_hint__") (n := "reversed.__length_hint__".toList.reverse.take 15) (o := ['d', 'e', 's', 'r', 'e', 'v', 'e', 'r']) (by kernel_rfl) RT.owner_rt]; kernel_rfl
section
variable {prog : Program} {w : World} {A : Around} {E : Value → Shared → Prop} {s : Shared}
theorem walks_rt (hh : A.handled = none) (I t : Addr) (hne : t ≠ I) (items : Array Value) (hsz : items.size ≤ sizeLine) :
    Walks prog w A I [I, t] [I] items.size (fun i v => items[items.size - 1 - i]? = some v) (fun i h => i ≤ items.size ∧ RT.IsRt h I t ((items.size : Int) - 1 - (i : Int)) ∧ IsTup h t items) where
  sub := fun b hb => by simp at hb; simp [hb]
  frame := fun _ _ _ x hk => by
    obtain ⟨x1, x2, o, ho, q⟩ := x
    exact ⟨x1, x2.at fun o e => hk I (by simp) o e, o, hk t (by simp) o ho, q⟩
  item := fun i s Q E hi x hQ => by
    have e : (items.size : Int) - 1 - (i : Int) = ((items.size - 1 - i : Nat) : Int) := by omega
    have hit := x.2.1
    rw [e] at hit
    have hx : items[items.size - 1 - i]? = some (items[items.size - 1 - i]'(by omega)) := Array.getElem?_eq_getElem (by omega)
    refine RT.next_rt_item hit x.2.2 hx hsz fun h' hit' hs' => ?_
    have e2 : ((items.size - 1 - i : Nat) : Int) - 1 = (items.size : Int) - 1 - ((i + 1 : Nat) : Int) := by omega
    rw [e2] at hit'
    obtain ⟨o, ho, q⟩ := x.2.2
    exact hQ _ h' (s.toks + 1) hx ⟨hi, hit', o, (hs'.2 t hne).trans ho, q⟩ fun b o hb eo => hs'.extBut b o (fun h => hb (by simp [h])) eo
  done := fun s Q E x hQ => by
    have e : (items.size : Int) - 1 - (items.size : Int) = -1 := by omega
    have hit := x.2.1
    rw [e] at hit
    exact RT.next_rt_end hh hit fun h' he' => hQ h' s.toks fun b o hb eo => he' b o (fun h => hb (by simp [h])) eo
  self := fun _ _ _ _ x hQ => RT.iter_rt x.2.1 hQ
/-- how long the walk will be -/
theorem hint_call {it t : Addr} {items : Array Value} {Q : Value → Shared → Prop} (hit : RT.IsRt s.heap it t ((items.size : Int) - 1)) (ht : IsTup s.heap t items) (hfit : (items.size : Int) < 2 ^ 63)
    (h : ∀ tk u, Q (.int items.size u) { s with toks := tk }) : wpAny (model prog w) A (call (.builtin "reversed.__length_hint__") [.ref it]) Q E s := by
  obtain ⟨o, ho, hc, hd⟩ := id hit
  refine wpAny_call_entry slot_rt_hint hit.typeIs entry_rt_hint ?_ (args_rt_hint _)
  unfold Builtin.«reversed.__length_hint__»
  refine wpAny_bind (wpAny_of_eq (a := Value.ref it) rfl ?_)
  try dsimp only
  refine wpAny_bind (wpAny_field ho hd (x := .ref t) rfl ?_)
  show wpAny _ _ (if ((Value.ref t : Value) == .none) = true then _ else _) _ _ s
  rw [if_neg (by simp)]
  refine wpAny_bind (PyProof.Rows.len_tuple ht hfit ?_)
  refine wpAny_bind ?_
  unfold asInt?
  refine wpAny_pure ?_
  try dsimp only
  refine wpAny_bind (wpAny_field (s := { s with toks := s.toks + 1 + 1 }) ho hd (x := rawInt ((items.size : Int) - 1)) rfl ?_)
  show wpAny _ _ (if (items.size : Int) < (items.size : Int) - 1 + 1 then _ else _) _ _ _
  rw [if_neg (by omega)]
  have e : (items.size : Int) - 1 + 1 = items.size := by omega
  rw [e]
  exact wpAny_bind (wpAny_mkInt (wpAny_pure ⟨_, rfl, h _ _⟩))
theorem extend_rt {R : Result → Shared → Prop} {it t S : Addr} {items : Array Value} {c0 : Nat} (hh : A.handled = none) (hit : RT.IsRt s.heap it t ((items.size : Int) - 1)) (ht : IsTup s.heap t items) (hne : t ≠ it) (hn : items.size ≤ 1000000)
    (hSi : S ≠ it) (hSt : S ≠ t) (hS : s.heap.get? S = some { cls := .type "list", data := .seq #[] c0 })
    (hR : ∀ (h' : Heap) (tk : Nat) (acc : Array Value) (c' : Nat), (∀ b o, b ≠ it → b ≠ S → s.heap.get? b = some o → h'.get? b = some o) → h'.get? S = some { cls := .type "list", dict := none, data := .seq acc c', slots := #[] } → ItemsOf (fun i v => items[items.size - 1 - i]? = some v) acc items.size → R (.ok (.ret .none)) { s with heap := h', toks := tk }) :
    wpAny (model prog w) A.in1 (Builtin.List.listExtendWith (.ref S) (.ref it) .none)
      (fun fin s' => match fin with | .done f => R (.ok f) s' | .again c' => c'.quiet = true ∧ codeAny (model prog w) A c' R s') (fun e s' => R (.error e) s') s := by
  have hz : items.size ≤ sizeLine := by rw [sizeLine_eq]; omega
  have W := (walks_rt (prog := prog) (w := w) (A := A.in1) hh it t hne items hz).toS
  have hSf : S ∉ [it, t] := by simp only [List.mem_cons, List.not_mem_nil, or_false, not_or]; exact ⟨hSi, hSt⟩
  have hT : s.TypeIs (.ref it) "reversed" := hit.typeIs
  have h1 : Builtin.List.listSameRef (.ref S) (.ref it) = false := by simp [Builtin.List.listSameRef, hSi]
  obtain ⟨ot, hot, kt⟩ := id ht
  have key : ∀ (h : Heap) (c₁ tk : Nat), (∀ b o, b ≠ S → s.heap.get? b = some o → h.get? b = some o) →
      h.get? S = some { cls := .type "list", data := .seq #[] c₁ } → codeAny (model prog w) A (.builtin "list.extend.loop" ⟨[.ref S, .ref it, .none], []⟩) R { s with heap := h, toks := tk } := by
    intro h c₁ tk hk hS₁
    have e0 : ((items.size : Nat) : Int) - 1 - ((0 : Nat) : Int) = (items.size : Int) - 1 := by omega
    refine codeAny_extend_loopS W hz S hSf .none items.size 0 _ #[] c₁ rfl (Nat.zero_le _) ⟨Nat.zero_le _, by rw [e0]; exact hit.at fun o e => hk it o (Ne.symm hSi) e, ot, hk t ot (Ne.symm hSt) hot, kt⟩ hS₁ (ItemsOf.nil _) fun s' acc' c' hm hS' hacc => ?_
    rw [Moved.eq_with hm]
    refine hR s'.heap s'.toks acc' c' (fun b o hb hb2 e => hm.heap b o (fun hmem => ?_) (hk b o hb2 e)) hS' hacc
    rcases List.mem_cons.mp hmem with e' | hmem
    · exact hb2 e'
    · exact hb (List.mem_singleton.mp hmem)
  unfold Builtin.List.listExtendWith
  refine wpAny_bind (wpAny_typeOf hT ?_)
  rw [if_neg (by rw [h1]; decide)]
  refine wpAny_bind (RT.iter_rt hit ?_)
  refine wpAny_bind (wpAny_holding ?_)
  unfold Builtin.List.listLengthHint
  refine wpAny_bind (wpAny_specialOf hT nolen_rt ?_)
  show wpAny _ A.in1 (specialOf (Value.ref it) (Str.ofString "__length_hint__") >>= _) _ _ _
  refine wpAny_bind (wpAny_specialOf hT hint_rt ?_)
  generalize hid : ("reversed.__length_hint__" : String) = id0
  wp_delta
  rw [show splitId id0 = some ("reversed", "__length_hint__") from by subst hid; decide +kernel]
  subst hid
  refine wpAny_bind (wpAny_isInstance (b := true) hT (by rw [isSubtype_type]; kernel_rfl) ?_)
  rw [if_neg (by decide)]
  try dsimp only
  rw [if_neg (by decide +kernel)]
  refine wpAny_bind (wpAny_rule ?_)
  refine wpAny_bind (wpAny_of_eq (slot_rt_hint.bind _) ?_)
  try dsimp only
  refine wpAny_bind (wpAny_attempt (hint_call (A := A.in1) hit ht (by omega) fun tk u => ?_))
  try dsimp only
  refine wpAny_bind ?_
  unfold asInt?
  refine wpAny_pure ?_
  try dsimp only
  have f1 : Builtin.List.listFitsIndex (items.size : Int) = true := by
    unfold Builtin.List.listFitsIndex
    simp
    omega
  have f2 : Builtin.List.listTooLong (items.size : Int).toNat = false := by
    unfold Builtin.List.listTooLong
    simp
    omega
  rw [f1, f2]
  rw [if_neg (by decide), if_neg (by omega), if_neg (by decide)]
  refine wpAny_pure ?_
  try dsimp only
  refine wpAny_ite_split (fun _ => ?_) (fun _ => wpAny_pure ⟨plainId_quiet F.plain_extend_loop _, key s.heap _ tk (fun b o _ e => e) hS⟩)
  refine wpAny_bind (wpAny_rule ?_)
  refine wpAny_bind ?_
  show wpAny _ _ (updateSeq S (·.push .none) >>= fun _ => updateSeq S (·.pop)) _ _ _
  refine wpAny_bind (wpAny_updateSeq (hz := Nat.zero_le _) (_hz' := (Nat.succ_le_succ (Nat.zero_le _) : 0 + 1 ≤ sizeLine + 1)) hS rfl ?_)
  have hS₂ := Heap.get?_update_self (Obj.mapSeq (·.push Value.none)) hS rfl
  have z1 : ((#[] : Array Value).push Value.none).size ≤ sizeLine := by rw [sizeLine_eq]; show 1 ≤ _; omega
  refine wpAny_updateSeq (hz := z1) (_hz' := Nat.zero_le _) hS₂ rfl ?_
  have hS₃ := Heap.get?_update_self (Obj.mapSeq (·.pop)) hS₂ rfl
  refine wpAny_pure ⟨plainId_quiet F.plain_extend_loop _, key _ _ tk (fun b o hb e => ?_) hS₃⟩
  exact (Heap.get?_update_other _ _ (Ne.symm hb)).trans ((Heap.get?_update_other _ _ (Ne.symm hb)).trans e)
theorem init_rt {R : Result → Shared → Prop} {it t S : Addr} {items : Array Value} (hh : A.handled = none) (hit : RT.IsRt s.heap it t ((items.size : Int) - 1)) (ht : IsTup s.heap t items) (hne : t ≠ it) (hn : items.size ≤ 1000000)
    (hSi : S ≠ it) (hSt : S ≠ t) (hS : s.heap.get? S = some { cls := .type "list", data := .seq #[] })
    (hR : ∀ (h' : Heap) (tk : Nat) (acc : Array Value) (c' : Nat), (∀ b o, b ≠ it → b ≠ S → s.heap.get? b = some o → h'.get? b = some o) → h'.get? S = some { cls := .type "list", dict := none, data := .seq acc c', slots := #[] } → ItemsOf (fun i v => items[items.size - 1 - i]? = some v) acc items.size → R (.ok (.ret .none)) { s with heap := h', toks := tk }) :
    wpAny (model prog w) A.in1 (Builtin.«list.__init__» ⟨[.ref S, .ref it], []⟩)
      (fun fin s' => match fin with | .done f => R (.ok f) s' | .again c' => c'.quiet = true ∧ codeAny (model prog w) A c' R s') (fun e s' => R (.error e) s') s := by
  show wpAny _ A.in1 (do let old ← Builtin.List.listItems (.ref S); Builtin.List.listUpdate (.ref S) (fun _ => #[]); letGo old.toList.reverse; Builtin.List.listExtendWith (.ref S) (.ref it) .none) _ _ s
  refine wpAny_bind ?_
  unfold Builtin.List.listItems
  refine wpAny_bind (wpAny_seqItems hS rfl (wpAny_pure ?_))
  show wpAny _ A.in1 (updateSeq S (fun _ => #[]) >>= fun _ => letGo (#[] : Array Value).toList.reverse >>= fun _ => Builtin.List.listExtendWith (.ref S) (.ref it) .none) _ _ s
  refine wpAny_bind (wpAny_updateSeq hS rfl ?_)
  have hS2 := Heap.get?_update_self (Obj.mapSeq (fun _ => (#[] : Array Value))) hS rfl
  have oth : ∀ b o, b ≠ S → s.heap.get? b = some o → (s.heap.update S (Obj.mapSeq (fun _ => (#[] : Array Value)))).get? b = some o :=
    fun b o hb e => (Heap.get?_update_other _ _ (Ne.symm hb)).trans e
  refine wpAny_bind (wpAny_letGo ?_)
  obtain ⟨ol, hol, kl⟩ := id ht
  refine extend_rt hh (hit.at fun o e => oth it o (Ne.symm hSi) e) ⟨ol, oth t ol (Ne.symm hSt) hol, kl⟩ hne hn hSi hSt hS2 fun h' tk acc c' hk hS' hacc => ?_
  exact hR h' tk acc c' (fun b o hb hb2 e => hk b o hb hb2 (oth b o hb2 e)) hS' hacc
theorem call_list_rt {it t : Addr} {items : Array Value} {Q : Value → Shared → Prop} (hh : A.handled = none) (hit : RT.IsRt s.heap it t ((items.size : Int) - 1)) (ht : IsTup s.heap t items) (hne : t ≠ it) (hn : items.size ≤ 1000000)
    (hQ : ∀ (h' : Heap) (tk : Nat) (acc : Array Value) (c' : Nat), (∀ b o, b ≠ it → s.heap.get? b = some o → h'.get? b = some o) → h'.get? s.heap.objs.size = some { cls := .type "list", dict := none, data := .seq acc c', slots := #[] } →
      ItemsOf (fun i v => items[items.size - 1 - i]? = some v) acc items.size → Q (.ref s.heap.objs.size) { s with heap := h', toks := tk }) :
    wpAny (model prog w) A (call (.type "list") [.ref it]) Q E s := by
  obtain ⟨oi, hoi, _⟩ := id hit
  obtain ⟨ol, hol, kl⟩ := id ht
  have hSi : s.heap.objs.size ≠ it := Nat.ne_of_gt (Heap.lt_size hoi)
  have hSl : s.heap.objs.size ≠ t := Nat.ne_of_gt (Heap.lt_size hol)
  refine callType_codes (Q₁ := fun obj s₁ => obj = .ref s.heap.objs.size ∧ s₁ = { s with heap := s.heap.push { cls := .type "list", data := .seq #[] } }) F.called_list (F.typeCall_list_1 _) F.entry_list_init
    (code_list_new _ ⟨rfl, rfl⟩) fun obj s₁ h₁ => ?_
  obtain ⟨rfl, rfl⟩ := h₁
  have hS : (s.heap.push { cls := .type "list", data := .seq #[] }).get? s.heap.objs.size = some { cls := .type "list", data := .seq #[] } := Heap.get?_push_size _ rfl
  refine ⟨⟨_, hS, rfl⟩, F.args_list_init_2 _ _, init_rt (A := A.in1) hh (hit.at fun o e => Heap.get?_push_of_some _ e) ⟨ol, Heap.get?_push_of_some _ hol, kl⟩ hne hn hSi hSl hS fun h' tk acc c' hk hS' hacc => ?_⟩
  exact ⟨rfl, hQ h' tk acc c' (fun b o hb e => hk b o hb (Nat.ne_of_lt (Heap.lt_size e)) (Heap.get?_push_of_some _ e)) hS' hacc⟩
end
end ZY

set_option Elab.async false
set_option linter.all false
set_option maxRecDepth 100000
set_option maxHeartbeats 4000000
namespace Z
open PySem PySem.Spec PyProof.Rows L2

/-- data: what a name may hold, without addresses; a tuple is its items, a list is a place in the small heap -/
inductive D where
  | non | bl (b : Bool) | int (i : Int) | str (s : Str) | tup (xs : List D) | ref (n : Nat) | ro (xs : List D) | xv (cls : Str) (fs : List Str) (ds : List D)
instance : Inhabited D := ⟨.non⟩
inductive Cell where
  | lst (xs : List D)
abbrev Hm := List Cell
structure Exn where
  cls : Str
  fs : List Str
  ds : List D
/-- what stands still in a context: the module's facts, the names of its exception classes, the exception that a suite holds (its slot, object, class and dict) -/
structure Gx where
  K : PySem.W.Frag
  mg : Str → Option Value
  xs : List Str
  ex : Option (Nat × Addr × Str × Option Addr)
inductive R where
  | ok (d : D) (h : Hm) | exn (x : Exn) (h : Hm) | bad
def R.bind (r : R) (f : D → Hm → R) : R := match r with
  | .ok d h => f d h
  | .exn x h => .exn x h
  | .bad => .bad
@[simp] theorem R.bind_ok {d h f} : (R.ok d h).bind f = f d h := rfl
@[simp] theorem R.bind_exn {x h f} : (R.exn x h).bind f = .exn x h := rfl
@[simp] theorem R.bind_bad {f} : R.bad.bind f = .bad := rfl
abbrev Env' := List (Option D)

/-- a tuple that is known: its own object laid by us (or the module's), without a dict -/
def TupF (K : PySem.W.Frag) (H : Hp) (a : Addr) (vs : List V) : Prop :=
  (∃ o, H a = some (.frz o (.tup vs)) ∧ o.cls = .type "tuple" ∧ o.dict = none) ∨
    ∃ (o : Obj) (its : Array Value) (n : Nat), K.lookup a = some o ∧ o.cls = .type "tuple" ∧ o.dict = none ∧ o.data = .seq its n ∧ its.size ≤ sizeLine ∧ Vals vs its.toList
theorem TupF.sqT {K : PySem.W.Frag} {H : Hp} {a : Addr} {vs : List V} (h : TupF K H a vs) : SqT K H a vs := by
  rcases h with ⟨o, h, _⟩ | ⟨o, its, n, h1, h2, _, h3, h4, h5⟩
  · exact .inl (.inr ⟨o, h⟩)
  · exact .inr ⟨o, its, n, h1, h2, h3, h4, h5⟩
/-- a list that is known and never written: the script, a list of the module -/
def RoL (K : PySem.W.Frag) (H : Hp) (a : Addr) (vs : List V) : Prop :=
  (∃ o, H a = some (.frz o (.lst vs))) ∨
    ∃ (o : Obj) (its : Array Value) (n : Nat), K.lookup a = some o ∧ o.cls = .type "list" ∧ o.dict = none ∧ o.data = .seq its n ∧ its.size ≤ sizeLine ∧ Vals vs its.toList
theorem RoL.sq {K : PySem.W.Frag} {H : Hp} {a : Addr} {vs : List V} (h : RoL K H a vs) : SqL K H a vs := by
  rcases h with ⟨o, h⟩ | h
  · exact .inl (.inr ⟨o, h⟩)
  · exact .inr h
mutual
inductive Rep (G : Gx) (H : Hp) (π : List Addr) : D → V → Prop
  | non : Rep G H π .non .non
  | bl (b : Bool) : Rep G H π (.bl b) (.bl b)
  | int (i : Int) : Rep G H π (.int i) (.int i)
  | str (s : Str) : Rep G H π (.str s) (.str s)
  | tup {a : Addr} {vs : List V} {ds : List D} : TupF G.K H a vs → Reps G H π ds vs → Rep G H π (.tup ds) (.ref a)
  | ref {n : Nat} {a : Addr} : π[n]? = some a → Rep G H π (.ref n) (.ref a)
  | ro {a : Addr} {vs : List V} {ds : List D} : RoL G.K H a vs → Reps G H π ds vs → Rep G H π (.ro ds) (.ref a)
  | xv {a : Addr} {c : Str} {fs : List Str} {ds : List D} : Rep G H π (.xv c fs ds) (.ref a)
inductive Reps (G : Gx) (H : Hp) (π : List Addr) : List D → List V → Prop
  | nil : Reps G H π [] []
  | cons {d : D} {v : V} {ds : List D} {vs : List V} : Rep G H π d v → Reps G H π ds vs → Reps G H π (d :: ds) (v :: vs)
end

/-- what never goes -/
structure Ext (H H' : Hp) : Prop where
  tups : ∀ a xs, H a = some (.tup xs) → H' a = some (.tup xs)
  frzs : ∀ a o u, H a = some (.frz o u) → H' a = some (.frz o u)
  xds : ∀ a gs, H a = some (.xd gs) → H' a = some (.xd gs)
theorem Ext.refl {H : Hp} : Ext H H := ⟨fun _ _ h => h, fun _ _ _ h => h, fun _ _ h => h⟩
theorem Ext.trans {H H1 H2 : Hp} (a : Ext H H1) (b : Ext H1 H2) : Ext H H2 := ⟨fun x y h => b.tups x y (a.tups x y h), fun x y z h => b.frzs x y z (a.frzs x y z h), fun x y h => b.xds x y (a.xds x y h)⟩
theorem Ext.new {H : Hp} {p : Addr} {o : HO} (hp : H p = none) : Ext H (upd H p o) :=
  ⟨fun a xs h => by rw [upd_ne (ne_of_none h hp)]; exact h, fun a o u h => by rw [upd_ne (ne_of_none h hp)]; exact h, fun a xs h => by rw [upd_ne (ne_of_none h hp)]; exact h⟩
theorem Ext.lst {H : Hp} {p : Addr} {xs : List V} {o : HO} (hp : H p = some (.lst xs)) : Ext H (upd H p o) :=
  ⟨fun a xs h => by rw [upd_ne (ne_of h hp (by intro q; cases q))]; exact h, fun a o u h => by rw [upd_ne (ne_of h hp (by intro q; cases q))]; exact h, fun a xs h => by rw [upd_ne (ne_of h hp (by intro q; cases q))]; exact h⟩
theorem Ext.sqT {K : PySem.W.Frag} {H H' : Hp} (e : Ext H H') {a : Addr} {xs : List V} (h : SqT K H a xs) : SqT K H' a xs := by
  rcases h with h | h
  · rcases h with h | ⟨o, h⟩
    · exact .inl (.inl (e.tups _ _ h))
    · exact .inl (.inr ⟨o, e.frzs _ _ _ h⟩)
  · exact .inr h

theorem Ext.tupF {K : PySem.W.Frag} {H H' : Hp} (e : Ext H H') {a : Addr} {xs : List V} (h : TupF K H a xs) : TupF K H' a xs := by
  rcases h with ⟨o, h, c⟩ | h
  · exact .inl ⟨o, e.frzs _ _ _ h, c⟩
  · exact .inr h
theorem Ext.roL {K : PySem.W.Frag} {H H' : Hp} (e : Ext H H') {a : Addr} {xs : List V} (h : RoL K H a xs) : RoL K H' a xs := by
  rcases h with ⟨o, h⟩ | h
  · exact .inl ⟨o, e.frzs _ _ _ h⟩
  · exact .inr h
theorem pre_get {α : Type} {l l' : List α} (p : l <+: l') {n : Nat} {a : α} (h : l[n]? = some a) : l'[n]? = some a := by
  obtain ⟨t, rfl⟩ := p
  have hn : n < l.length := (List.getElem?_eq_some_iff.mp h).1
  rw [List.getElem?_append_left hn]; exact h

section
variable {G : Gx} {H H' : Hp} {π π' : List Addr}
mutual
theorem Rep.mono (e : Ext H H') (p : π <+: π') : ∀ {d : D} {v : V}, Rep G H π d v → Rep G H' π' d v
  | _, _, .non => .non
  | _, _, .bl b => .bl b
  | _, _, .int i => .int i
  | _, _, .str s => .str s
  | _, _, .tup h r => .tup (e.tupF h) (Reps.mono e p r)
  | _, _, .ref h => .ref (pre_get p h)
  | _, _, .ro h r => .ro (e.roL h) (Reps.mono e p r)
  | _, _, .xv => .xv
theorem Reps.mono (e : Ext H H') (p : π <+: π') : ∀ {ds : List D} {vs : List V}, Reps G H π ds vs → Reps G H' π' ds vs
  | _, _, .nil => .nil
  | _, _, .cons a r => .cons (Rep.mono e p a) (Reps.mono e p r)
end
theorem Reps.length : ∀ {ds : List D} {vs : List V}, Reps G H π ds vs → ds.length = vs.length
  | _, _, .nil => rfl
  | _, _, .cons _ r => by simp [Reps.length r]
theorem Reps.get : ∀ {ds : List D} {vs : List V} {n : Nat} {d : D}, Reps G H π ds vs → ds[n]? = some d → ∃ v, vs[n]? = some v ∧ Rep G H π d v
  | _, _, _, _, .nil, h => by simp at h
  | _, _, 0, _, .cons a r, h => by simp at h; subst h; exact ⟨_, rfl, a⟩
  | _, _, n + 1, _, .cons a r, h => by
    obtain ⟨v, h1, h2⟩ := Reps.get (n := n) r (by simpa using h)
    exact ⟨v, by simpa using h1, h2⟩
theorem Reps.get' : ∀ {ds : List D} {vs : List V} {n : Nat} {v : V}, Reps G H π ds vs → vs[n]? = some v → ∃ d, ds[n]? = some d ∧ Rep G H π d v
  | _, _, _, _, .nil, h => by simp at h
  | _, _, 0, _, .cons a r, h => by simp at h; subst h; exact ⟨_, rfl, a⟩
  | _, _, n + 1, _, .cons a r, h => by
    obtain ⟨v, h1, h2⟩ := Reps.get' (n := n) r (by simpa using h)
    exact ⟨v, by simpa using h1, h2⟩
theorem Reps.append : ∀ {ds es : List D} {vs us : List V}, Reps G H π ds vs → Reps G H π es us → Reps G H π (ds ++ es) (vs ++ us)
  | _, _, _, _, .nil, s => s
  | _, _, _, _, .cons a r, s => .cons a (Reps.append r s)
theorem Reps.set : ∀ {ds : List D} {vs : List V} {d : D} {v : V} (n : Nat), Reps G H π ds vs → Rep G H π d v → Reps G H π (ds.set n d) (vs.set n v)
  | _, _, _, _, _, .nil, _ => .nil
  | _, _, _, _, 0, .cons _ r, s => .cons s r
  | _, _, _, _, n + 1, .cons a r, s => .cons a (Reps.set n r s)
theorem Reps.take : ∀ {ds : List D} {vs : List V} (n : Nat), Reps G H π ds vs → Reps G H π (ds.take n) (vs.take n)
  | _, _, 0, _ => .nil
  | _, _, _ + 1, .nil => .nil
  | _, _, n + 1, .cons a r => .cons a (Reps.take n r)
theorem Reps.drop : ∀ {ds : List D} {vs : List V} (n : Nat), Reps G H π ds vs → Reps G H π (ds.drop n) (vs.drop n)
  | _, _, 0, r => r
  | _, _, _ + 1, .nil => .nil
  | _, _, n + 1, .cons _ r => Reps.drop n r
theorem Reps.reverse {ds : List D} {vs : List V} (r : Reps G H π ds vs) : Reps G H π ds.reverse vs.reverse := by
  induction ds generalizing vs with
  | nil => cases r; exact .nil
  | cons d ds ih => cases r with
    | cons a r => simp only [List.reverse_cons]; exact (ih r).append (.cons a .nil)
theorem Reps.ints : ∀ (ns : List Int), Reps G H π (ns.map .int) (ns.map .int)
  | [] => .nil
  | n :: r => .cons (.int n) (Reps.ints r)
theorem Reps.of_ints : ∀ {ns : List Int} {vs : List V}, Reps G H π (ns.map .int) vs → vs = ns.map .int
  | [], _, .nil => rfl
  | n :: r, _, .cons a s => by
    cases a; rw [Reps.of_ints s]; rfl

/-- a cell and what stands at its address -/
def CellOk (G : Gx) (H : Hp) (π : List Addr) : Cell → Option HO → Prop
  | .lst ds, o => ∃ vs, o = some (.lst vs) ∧ Reps G H π ds vs
structure HmOk (G : Gx) (H : Hp) (π : List Addr) (h : Hm) : Prop where
  len : π.length = h.length
  nd : π.Nodup
  cell : ∀ (n : Nat) (c : Cell) (a : Addr), h[n]? = some c → π[n]? = some a → CellOk G H π c (H a)
theorem CellOk.mono (e : Ext H H') (p : π <+: π') {c : Cell} {o : Option HO} (x : CellOk G H π c o) : CellOk G H' π' c o := by
  cases c with
  | lst ds => obtain ⟨vs, h1, h2⟩ := x; exact ⟨vs, h1, h2.mono e p⟩
theorem CellOk.some {c : Cell} {o : Option HO} (x : CellOk G H π c o) : ∃ u, o = .some u := by
  cases c with
  | lst ds => obtain ⟨vs, h1, h2⟩ := x; exact ⟨_, h1⟩
theorem HmOk.at {h : Hm} (x : HmOk G H π h) {n : Nat} {c : Cell} (hn : h[n]? = some c) : ∃ a, π[n]? = some a ∧ CellOk G H π c (H a) := by
  have hl : n < h.length := (List.getElem?_eq_some_iff.mp hn).1
  have hp : n < π.length := by rw [x.len]; exact hl
  exact ⟨π[n], by simp [hp], x.cell n c _ hn (by simp [hp])⟩
theorem HmOk.lst {h : Hm} (x : HmOk G H π h) {n : Nat} {ds : List D} {v : V} (hn : h[n]? = some (.lst ds)) (r : Rep G H π (.ref n) v) :
    ∃ a vs, v = .ref a ∧ π[n]? = some a ∧ H a = some (.lst vs) ∧ Reps G H π ds vs := by
  cases r with
  | ref hr =>
    obtain ⟨vs, h1, h2⟩ := x.cell n _ _ hn hr
    exact ⟨_, vs, rfl, hr, h1, h2⟩
theorem HmOk.mem {h : Hm} (x : HmOk G H π h) {a : Addr} (ha : a ∈ π) : ∃ u, H a = some u := by
  obtain ⟨n, hn⟩ := List.mem_iff_getElem?.mp ha
  have hl : n < π.length := (List.getElem?_eq_some_iff.mp hn).1
  have hp : n < h.length := by rw [← x.len]; exact hl
  exact (x.cell n h[n] a (by simp [hp]) hn).some
/-- all cells stay, the heap grows in what is not tracked by cells -/
theorem HmOk.ext {h : Hm} (x : HmOk G H π h) (e : Ext H H') (k : ∀ a ∈ π, H' a = H a) : HmOk G H' π h := by
  refine ⟨x.len, x.nd, fun n c a h1 h2 => ?_⟩
  rw [k a (List.mem_of_getElem? h2)]
  exact (x.cell n c a h1 h2).mono e (List.prefix_refl _)
theorem HmOk.ext_new {h : Hm} (x : HmOk G H π h) {p : Addr} {o : HO} (hp : H p = none) : HmOk G (upd H p o) π h :=
  x.ext (.new hp) fun a ha => by
    obtain ⟨u, hu⟩ := x.mem ha
    exact upd_ne (ne_of_none hu hp)
/-- a new cell -/
theorem HmOk.push {h : Hm} (x : HmOk G H π h) {p : Addr} {o : HO} {c : Cell} (hp : H p = none) (co : CellOk G H π c (.some o)) : HmOk G (upd H p o) (π ++ [p]) (h ++ [c]) := by
  have hnp : p ∉ π := fun hm => by
    obtain ⟨u, hu⟩ := x.mem hm
    rw [hp] at hu; cases hu
  refine ⟨by simp [x.len], ?_, fun n c' a h1 h2 => ?_⟩
  · rw [List.nodup_append]
    exact ⟨x.nd, by simp, fun a ha b hb => by simp at hb; subst hb; intro e; subst e; exact hnp ha⟩
  · by_cases hn : n < h.length
    · rw [List.getElem?_append_left hn] at h1
      rw [List.getElem?_append_left (by rw [x.len]; exact hn)] at h2
      have q := x.cell n c' a h1 h2
      obtain ⟨u, hu⟩ := q.some
      rw [upd_ne (ne_of_none hu hp)]
      exact q.mono (.new hp) (List.prefix_append _ _)
    · rw [List.getElem?_append_right (by omega)] at h1
      rw [List.getElem?_append_right (by rw [x.len]; omega)] at h2
      have e1 : n - h.length = 0 := by
        have := (List.getElem?_eq_some_iff.mp h1).1
        simp at this; omega
      rw [x.len, e1] at h2
      rw [e1] at h1
      simp at h1 h2
      subst h1; subst h2
      rw [upd_same]
      exact co.mono (.new hp) (List.prefix_append _ _)
/-- a list's cell changes -/
theorem HmOk.setl {h : Hm} (x : HmOk G H π h) {n : Nat} {a : Addr} {vs us : List V} {es : List D} (hn : π[n]? = some a) (ha : H a = some (.lst vs)) (r : Reps G H π es us) :
    HmOk G (upd H a (.lst us)) π (h.set n (.lst es)) := by
  refine ⟨by simp [x.len], x.nd, fun m c b h1 h2 => ?_⟩
  by_cases hm : m = n
  · subst hm
    rw [hn] at h2; cases h2
    have hl : m < h.length := by rw [← x.len]; exact (List.getElem?_eq_some_iff.mp hn).1
    rw [List.getElem?_set_self hl] at h1
    cases h1
    exact ⟨us, upd_same, r.mono (.lst ha) (List.prefix_refl _)⟩
  · rw [List.getElem?_set_ne (Ne.symm hm)] at h1
    have hba : b ≠ a := fun e => by
      subst e
      have h3 := (List.getElem?_inj (i := m) (j := n) (by exact (List.getElem?_eq_some_iff.mp h2).1) x.nd).mp (h2.trans hn.symm)
      exact hm h3
    rw [upd_ne hba]
    exact (x.cell m c b h1 h2).mono (.lst ha) (List.prefix_refl _)

/-- an exception's attributes as they lie in its dict -/
def XFields (G : Gx) (H : Hp) (π : List Addr) (fs : List Str) (ds : List D) (d : Option Addr) : Prop :=
  (d = none ∧ fs = [] ∧ ds = []) ∨ ∃ dd gs, d = some dd ∧ H dd = some (.xd gs) ∧ gs.map (·.1) = fs ∧ fs ≠ [] ∧ Reps G H π ds (gs.map (·.2))
theorem XFields.mono {fs : List Str} {ds : List D} {d : Option Addr} (x : XFields G H π fs ds d) (e : Ext H H') (p : π <+: π') : XFields G H' π' fs ds d := by
  rcases x with x | ⟨dd, gs, h1, h2, h3, h4, h5⟩
  · exact .inl x
  · exact .inr ⟨dd, gs, h1, e.xds _ _ h2, h3, h4, h5.mono e p⟩
/-- the exception that a suite holds stands at its slot -/
def HeldX (G : Gx) (H : Hp) (π : List Addr) (ρ : Env') (σ : L2.St) : Prop :=
  ∀ i a c d, G.ex = some (i, a, c, d) → σ[i]? = some (some (.ref a)) ∧ ∃ fs ds, ρ[i]? = some (some (.xv c fs ds)) ∧ XFields G H π fs ds d
structure EnvOk (G : Gx) (H : Hp) (π : List Addr) (ρ : Env') (σ : L2.St) : Prop where
  len : ρ.length = σ.length
  at' : ∀ (i : Nat) (d : D), ρ[i]? = some (some d) → ∃ v, σ[i]? = some (some v) ∧ Rep G H π d v
  held : HeldX G H π ρ σ
theorem EnvOk.mono {ρ : Env'} {σ : L2.St} (x : EnvOk G H π ρ σ) (e : Ext H H') (p : π <+: π') : EnvOk G H' π' ρ σ :=
  ⟨x.len, fun i d h => let ⟨v, h1, h2⟩ := x.at' i d h; ⟨v, h1, h2.mono e p⟩, fun i a c d h => let ⟨h1, fs, ds, h2, h3⟩ := x.held i a c d h; ⟨h1, fs, ds, h2, h3.mono e p⟩⟩
theorem HeldX.none {ρ : Env'} {σ : L2.St} (h : G.ex = .none) : HeldX G H π ρ σ := fun i a c d e => by rw [h] at e; cases e
theorem EnvOk.setH {ρ : Env'} {σ : L2.St} (x : EnvOk G H π ρ σ) {i : Nat} (hx : ∀ j a c d, G.ex = some (j, a, c, d) → j ≠ i) {d : D} {v : V} (r : Rep G H π d v) : EnvOk G H π (ρ.set i (some d)) (σ.set i (some v)) := by
  refine ⟨by simp [x.len], fun j e h => ?_, fun j a c d' h => ?_⟩
  · by_cases hj : i = j
    · subst hj
      have hl : i < ρ.length := by have := (List.getElem?_eq_some_iff.mp h).1; simpa using this
      rw [List.getElem?_set_self hl] at h
      cases h
      exact ⟨v, by rw [List.getElem?_set_self (by rw [← x.len]; exact hl)], r⟩
    · rw [List.getElem?_set_ne hj] at h
      rw [List.getElem?_set_ne hj]
      exact x.at' j e h
  · have hj := hx j a c d' h
    rw [List.getElem?_set_ne (Ne.symm hj), List.getElem?_set_ne (Ne.symm hj)]
    exact x.held j a c d' h
theorem EnvOk.set {ρ : Env'} {σ : L2.St} (x : EnvOk G H π ρ σ) (hx : G.ex = none) {i : Nat} {d : D} {v : V} (r : Rep G H π d v) : EnvOk G H π (ρ.set i (some d)) (σ.set i (some v)) := by
  refine ⟨by simp [x.len], fun j e h => ?_, .none hx⟩
  by_cases hj : i = j
  · subst hj
    have hl : i < ρ.length := by have := (List.getElem?_eq_some_iff.mp h).1; simpa using this
    rw [List.getElem?_set_self hl] at h
    cases h
    exact ⟨v, by rw [List.getElem?_set_self (by rw [← x.len]; exact hl)], r⟩
  · rw [List.getElem?_set_ne hj] at h
    rw [List.getElem?_set_ne hj]
    exact x.at' j e h
end

/-- an exception as it lies -/
def XRep (G : Gx) (H : Hp) (π : List Addr) (x : Exn) (cls : Value) (d : Option Addr) : Prop :=
  G.mg x.cls = some cls ∧ x.cls ∈ G.xs ∧ XFields G H π x.fs x.ds d

section
variable {G : Gx} {W : WX} {σ : L2.St} {H : Hp} {π : List Addr}
/-- what an evaluation's result wants -/
def Post (G : Gx) (W : WX) (σ : L2.St) (H : Hp) (π : List Addr) (r : R) (C : D → Hm → V → Hp → List Addr → Prop) : Prop :=
  match r with
  | .ok d h => ∀ v H' π', Ext H H' → π <+: π' → HmOk G H' π' h → Rep G H' π' d v → C d h v H' π'
  | .exn x h => ∀ cls dd H' π', Ext H H' → π <+: π' → HmOk G H' π' h → XRep G H' π' x cls dd → W cls dd σ H'
  | .bad => False
theorem Post.imp {r : R} {C C' : D → Hm → V → Hp → List Addr → Prop} (p : Post G W σ H π r C)
    (h : ∀ d h v H' π', r = .ok d h → Ext H H' → π <+: π' → HmOk G H' π' h → Rep G H' π' d v → C d h v H' π' → C' d h v H' π') : Post G W σ H π r C' := by
  cases r with
  | ok d h1 => exact fun v H' π' a b c e => h _ _ _ _ _ rfl a b c e (p v H' π' a b c e)
  | exn x h1 => exact p
  | bad => exact p
theorem Post.weak {r : R} {H0 : Hp} {π0 : List Addr} {C : D → Hm → V → Hp → List Addr → Prop} (e : Ext H0 H) (q : π0 <+: π) (p : Post G W σ H0 π0 r C) : Post G W σ H π r C := by
  cases r with
  | ok d h1 => exact fun v H' π' a b c z => p v H' π' (e.trans a) (q.trans b) c z
  | exn x h1 => exact fun cls dd H' π' a b c z => p cls dd H' π' (e.trans a) (q.trans b) c z
  | bad => exact p
theorem Post.bind {r : R} {f : D → Hm → R} {C : D → Hm → V → Hp → List Addr → Prop} (p : Post G W σ H π (r.bind f) C) :
    Post G W σ H π r fun d h v H' π' => Post G W σ H' π' (f d h) C := by
  cases r with
  | ok d h1 => exact fun v H' π' a b c e => Post.weak a b p
  | exn x h1 => exact p
  | bad => exact p
end
/-- the reading of an expression whose evaluation is ev -/
def TEv (G : Gx) (W : WX) (ev : Env' → Hm → R) : TE := fun σ H Q =>
  ∃ ρ π h, EnvOk G H π ρ σ ∧ HmOk G H π h ∧ Post G W σ H π (ev ρ h) fun _ _ v H' _ => Q v H'
end Z

set_option Elab.async false
set_option linter.all false
set_option maxRecDepth 100000
set_option maxHeartbeats 4000000
namespace Z
open PySem PySem.Spec PyProof.Rows L2

/-! ### data compared -/
mutual
def D.beq : D → D → Bool
  | .non, .non => true
  | .bl a, .bl b => a == b
  | .int a, .int b => a == b
  | .str a, .str b => a == b
  | .tup a, .tup b => D.beqs a b
  | .ref a, .ref b => a == b
  | .ro a, .ro b => D.beqs a b
  | .xv c f d, .xv c' f' d' => c == c' && (f == f' && D.beqs d d')
  | _, _ => false
def D.beqs : List D → List D → Bool
  | [], [] => true
  | a :: r, b :: s => D.beq a b && D.beqs r s
  | _, _ => false
end
mutual
theorem D.beq_refl : ∀ d : D, D.beq d d = true
  | .non => rfl
  | .bl a => by simp [D.beq]
  | .int a => by simp [D.beq]
  | .str a => by simp [D.beq]
  | .tup a => by simp [D.beq, D.beqs_refl a]
  | .ref a => by simp [D.beq]
  | .ro a => by simp [D.beq, D.beqs_refl a]
  | .xv c f d => by simp [D.beq, D.beqs_refl d]
theorem D.beqs_refl : ∀ d : List D, D.beqs d d = true
  | [] => rfl
  | a :: r => by simp [D.beqs, D.beq_refl a, D.beqs_refl r]
end
mutual
theorem D.beq_eq : ∀ d e : D, D.beq d e = true → d = e
  | .non, e, h => by cases e <;> simp_all [D.beq]
  | .bl a, e, h => by cases e <;> simp_all [D.beq]
  | .int a, e, h => by cases e <;> simp_all [D.beq]
  | .str a, e, h => by cases e <;> simp_all [D.beq]
  | .tup a, e, h => by
    cases e <;> simp only [D.beq, Bool.false_eq_true] at h
    rw [D.beqs_eq _ _ h]
  | .ref a, e, h => by cases e <;> simp_all [D.beq]
  | .ro a, e, h => by
    cases e <;> simp only [D.beq, Bool.false_eq_true] at h
    rw [D.beqs_eq _ _ h]
  | .xv c f d, e, h => by
    cases e <;> simp only [D.beq, Bool.false_eq_true, Bool.and_eq_true, beq_iff_eq] at h
    obtain ⟨h1, h2, h3⟩ := h
    rw [h1, h2, D.beqs_eq _ _ h3]
theorem D.beqs_eq : ∀ d e : List D, D.beqs d e = true → d = e
  | [], e, h => by cases e <;> simp_all [D.beqs]
  | a :: r, e, h => by
    cases e with
    | nil => simp [D.beqs] at h
    | cons b s =>
      simp only [D.beqs, Bool.and_eq_true] at h
      rw [D.beq_eq _ _ h.1, D.beqs_eq _ _ h.2]
end

/-! ### data as the library's pure data -/
mutual
def toP (h : Hm) : Nat → D → Option PyData
  | 0, _ => none
  | _ + 1, .non => some .none
  | _ + 1, .bl b => some (.bool b)
  | _ + 1, .int i => some (.int i)
  | _ + 1, .str s => some (.str s)
  | n + 1, .tup xs => (toPs h n xs).map .tuple
  | n + 1, .ro xs => (toPs h n xs).map .list
  | n + 1, .ref k => match h[k]? with
    | some (.lst xs) => (toPs h n xs).map .list
    | _ => none
  | _ + 1, .xv .. => none
def toPs (h : Hm) : Nat → List D → Option (List PyData)
  | 0, _ => none
  | _ + 1, [] => some []
  | n + 1, x :: r => match toP h n x, toPs h n r with
    | some p, some q => some (p :: q)
    | _, _ => none
end
abbrev deepP : Nat := 1000

/-! ### operations on data -/
inductive Pm where
  | add | sub | mul | fdiv | mod | pow | eq | ne | lt | le | gt | ge | is | isnot | isin | notin | neg
  | len | abs | max2 | min2 | maxl | minl | suml | sorted | list | tuple | int | str | rangel | revl | maxd | sortr | alll | anyl
  | idx | slice | append | pop | popat | count | insert | extend | index | reverse | clear | setix
  | part | isint | isbool | isstr | islist | istup | isseq | isnone
abbrev bigBits : Nat := 9000
def okMul (i j : Int) : Bool := decide (-(2 ^ 64) < i ∧ i < 2 ^ 64) || decide (-(2 ^ 64) < j ∧ j < 2 ^ 64)
def listOf (h : Hm) : D → Option (List D)
  | .tup xs => some xs
  | .ro xs => some xs
  | .ref k => match h[k]? with
    | some (.lst xs) => some xs
    | _ => none
  | _ => none
/-- a list, no tuple -/
def lstOf (h : Hm) : D → Option (List D)
  | .tup _ => none
  | d => listOf h d
/-- a new list -/
def mkl (xs : List D) (h : Hm) : R := if xs.length ≤ sizeLine then .ok (.ref h.length) (h ++ [.lst xs]) else .bad
def mkt (xs : List D) (h : Hm) : R := if xs.length ≤ sizeLine then .ok (.tup xs) h else .bad
def intsOf : List D → Option (List Int)
  | [] => some []
  | .int i :: r => (intsOf r).map (i :: ·)
  | _ => none
def D.flat : D → Bool
  | .non => true | .bl _ => true | .int _ => true | .str _ => true | _ => false
def opAdd (x y : D) (h : Hm) : R := match x, y with
  | .int i, .int j => .ok (.int (i + j)) h
  | .str a, .str b => if a.length + b.length ≤ sizeLine then .ok (.str (a ++ b)) h else .bad
  | .tup a, .tup b => mkt (a ++ b) h
  | .ref a, .ref b => match h[a]?, h[b]? with
    | some (.lst xs), some (.lst ys) => mkl (xs ++ ys) h
    | _, _ => .bad
  | _, _ => .bad
def opSub (x y : D) (h : Hm) : R := match x, y with
  | .int i, .int j => .ok (.int (i - j)) h
  | _, _ => .bad
def opMul (x y : D) (h : Hm) : R := match x, y with
  | .int i, .int j => if okMul i j = true then .ok (.int (i * j)) h else .bad
  | .ref a, .int k => match h[a]? with
    | some (.lst xs) => if k < 2 ^ 62 ∧ -(2 ^ 62) ≤ k ∧ xs.length * k.toNat ≤ sizeLine then .ok (.ref h.length) (h ++ [.lst (List.replicate k.toNat xs).flatten]) else .bad
    | _ => .bad
  | _, _ => .bad
def opFdiv (x y : D) (h : Hm) : R := match x, y with
  | .int i, .int j => if 0 < j ∧ j < 1073741824 then .ok (.int (i / j)) h else if 0 < j ∧ j.natAbs.log2 < 9000 then .ok (.int (i / j)) h else if j ≠ 0 ∧ j.natAbs < 1073741824 then .ok (.int (i.fdiv j)) h else .bad
  | _, _ => .bad
def opMod (x y : D) (h : Hm) : R := match x, y with
  | .int i, .int j => if 0 < j then .ok (.int (i % j)) h else if j ≠ 0 then .ok (.int (i.fmod j)) h else .bad
  | _, _ => .bad
def opPow (x y : D) (h : Hm) : R := match x, y with
  | .int i, .int j => if 0 ≤ j ∧ j ≤ 1000000 ∧ i.natAbs < 2 ^ 64 then .ok (.int (i ^ j.toNat)) h else .bad
  | _, _ => .bad
def eqD (x y : D) (h : Hm) : Option Bool := match x, y with
  | .int i, .int j => some (decide (i = j))
  | _, _ => match toP h deepP x, toP h deepP y with
    | some a, some b => if SeqAt.shaped a = true ∧ SeqAt.shaped b = true then some (PyData.eqv a b) else none
    | _, _ => none
def opEq (x y : D) (h : Hm) : R := match eqD x y h with
  | some b => .ok (.bl b) h
  | none => .bad
def opNe (x y : D) (h : Hm) : R := match eqD x y h with
  | some b => .ok (.bl (!b)) h
  | none => .bad
def dSome : PyData → Bool
  | .none => false
  | _ => true
/-- alike data, not too deep -/
def dOk (a b : PyData) : Bool := PySem.W.alike a b && (dSome a && decide (min a.depth b.depth ≤ 60))
def alikeB (xs : List PyData) : Bool := (xs.all fun x => xs.all fun y => PySem.W.alike x y) && xs.all dSome
def opCmp (p : Int → Int → Bool) (q : PyData → PyData → Bool) (x y : D) (h : Hm) : R := match x, y with
  | .int i, .int j => .ok (.bl (p i j)) h
  | _, _ => match toP h deepP x, toP h deepP y with
    | some a, some b => if dOk a b = true then .ok (.bl (q a b)) h else .bad
    | _, _ => .bad
abbrev qLt (a b : PyData) : Bool := PySem.W.dataLt a b
abbrev qGt (a b : PyData) : Bool := PySem.W.dataLt b a
abbrev qLe (a b : PyData) : Bool := !PySem.W.dataLt b a
abbrev qGe (a b : PyData) : Bool := !PySem.W.dataLt a b
/-- x is None, x is True, x is False -/
def isD (x y : D) : Option Bool := match y with
  | .non => match x with
    | .non => some true | .xv .. => none | _ => some false
  | .bl b => match x with
    | .bl a => some (a == b) | .non => some false | .int _ => some false | .str _ => some false | .tup _ => some false | .ref _ => some false | .ro _ => some false | .xv .. => none
  | _ => none
def opIs (x y : D) (h : Hm) : R := match isD x y with
  | some b => .ok (.bl b) h
  | none => .bad
def opIsnot (x y : D) (h : Hm) : R := match isD x y with
  | some b => .ok (.bl (!b)) h
  | none => .bad
/-- equality of flat things as `in` asks it -/
def flatEq : D → D → Bool
  | .non, .non => true
  | .bl a, .bl b => a == b
  | .bl a, .int j => (if a then 1 else 0) == j
  | .int i, .bl b => i == (if b then 1 else 0)
  | .int i, .int j => i == j
  | .str a, .str b => a == b
  | _, _ => false
def inD (x y : D) (h : Hm) : Option Bool := match listOf h y with
  | some xs => if x.flat = true ∧ xs.all D.flat = true then some (xs.any fun z => flatEq z x) else none
  | none => none
def opIn (x y : D) (h : Hm) : R := match inD x y h with
  | some b => .ok (.bl b) h
  | none => .bad
def opNotin (x y : D) (h : Hm) : R := match inD x y h with
  | some b => .ok (.bl (!b)) h
  | none => .bad
def opNeg (x : D) (h : Hm) : R := match x with
  | .int i => .ok (.int (-i)) h
  | _ => .bad
def opLen (x : D) (h : Hm) : R := match x with
  | .str s => if s.length ≤ sizeLine then .ok (.int s.length) h else .bad
  | _ => match listOf h x with
    | some xs => .ok (.int xs.length) h
    | none => .bad
def opAbs (x : D) (h : Hm) : R := match x with
  | .int i => .ok (.int (if i < 0 then -i else i)) h
  | _ => .bad
def opMax2 (x y : D) (h : Hm) : R := match x, y with
  | .int i, .int j => .ok (.int (if j > i then j else i)) h
  | _, _ => match toP h deepP x, toP h deepP y with
    | some a, some b => if alikeB [a, b] = true ∧ PyData.depthAll [a, b] ≤ 60 then .ok (if PySem.W.dataLt a b = true then y else x) h else .bad
    | _, _ => .bad
def opMin2 (x y : D) (h : Hm) : R := match x, y with
  | .int i, .int j => .ok (.int (if j < i then j else i)) h
  | _, _ => .bad
def maxI : List Int → Int → Int
  | [], m => m
  | x :: r, m => maxI r (if x > m then x else m)
def minI : List Int → Int → Int
  | [], m => m
  | x :: r, m => minI r (if x < m then x else m)
/-- tuples of whole numbers -/
def tupsOf : List D → Option (List (List Int))
  | [] => some []
  | .tup xs :: r => match intsOf xs, tupsOf r with
    | some ns, some l => some (ns :: l)
    | _, _ => none
  | _ => none
def pTup (ns : List Int) : PyData := .tuple (ns.map .int)
def minT (x : List Int) (l : List (List Int)) : List Int := l.foldl (fun a y => if PySem.W.dataLt (pTup y) (pTup a) then y else a) x
def maxT (x : List Int) (l : List (List Int)) : List Int := l.foldl (fun a y => if PySem.W.dataLt (pTup a) (pTup y) then y else a) x
def opMaxl (x : D) (h : Hm) : R := match (listOf h x).bind intsOf with
  | some (a :: r) => .ok (.int (maxI r a)) h
  | _ => match (lstOf h x).bind tupsOf with
    | some (a :: r) => .ok (.tup ((maxT a r).map .int)) h
    | _ => .bad
def opMinl (x : D) (h : Hm) : R := match (listOf h x).bind intsOf with
  | some (a :: r) => .ok (.int (minI r a)) h
  | _ => match (lstOf h x).bind tupsOf with
    | some (a :: r) => .ok (.tup ((minT a r).map .int)) h
    | _ => .bad
/-- max(x, default=d), x a list of whole numbers -/
def opMaxd (x d : D) (h : Hm) : R := match (lstOf h x).bind intsOf with
  | some (a :: r) => .ok (.int (maxI r a)) h
  | some [] => .ok d h
  | none => .bad
def opSum (x : D) (h : Hm) : R := match (listOf h x).bind intsOf with
  | some ns => .ok (.int ns.sum) h
  | _ => .bad
def blsOf : List D → Option (List Bool)
  | [] => some []
  | .bl b :: r => (blsOf r).map (b :: ·)
  | _ => none
def opAll (x : D) (h : Hm) : R := match (lstOf h x).bind blsOf with
  | some bs => .ok (.bl (bs.all id)) h
  | _ => .bad
def opAny (x : D) (h : Hm) : R := match (lstOf h x).bind blsOf with
  | some bs => .ok (.bl (bs.any id)) h
  | _ => .bad
def insI (x : Int) : List Int → List Int
  | [] => [x]
  | y :: r => if x ≤ y then x :: y :: r else y :: insI x r
def sortI : List Int → List Int
  | [] => []
  | x :: r => insI x (sortI r)
def opSorted (x : D) (h : Hm) : R := match (lstOf h x).bind intsOf with
  | some ns => .ok (.ref h.length) (h ++ [.lst ((sortI ns).map .int)])
  | _ => .bad
/-- sorted(x, reverse=True) -/
def opSortr (x : D) (h : Hm) : R := match (lstOf h x).bind intsOf with
  | some ns => .ok (.ref h.length) (h ++ [.lst ((sortI ns).reverse.map .int)])
  | _ => .bad
/-- list(reversed(x)) -/
def opRevl (x : D) (h : Hm) : R := match listOf h x with
  | some xs => if xs.length ≤ 1000000 then .ok (.ref h.length) (h ++ [.lst xs.reverse]) else .bad
  | none => .bad
def opList (x : D) (h : Hm) : R := match listOf h x with
  | some xs => .ok (.ref h.length) (h ++ [.lst xs])
  | none => .bad
def opTuple (x : D) (h : Hm) : R := match listOf h x with
  | some xs => .ok (.tup xs) h
  | none => .bad
def opInt (x : D) (h : Hm) : R := match x with
  | .int i => .ok (.int i) h
  | .bl b => .ok (.int (if b then 1 else 0)) h
  | _ => .bad
def opStr (x : D) (h : Hm) : R := match x with
  | .int i => if i.natAbs.log2 < 1920 then .ok (.str (Str.ofString (toString i))) h else .bad
  | _ => .bad
def atD (xs : List D) (i : Int) : Option D := (ixN xs.length i).bind fun j => xs[j]?
def opIdx (x y : D) (h : Hm) : R := match y with
  | .int i => match x with
    | .str s => if s.length ≤ sizeLine then (match atI s.cps.toList i with | some c => .ok (.str ⟨#[c]⟩) h | none => .bad) else .bad
    | _ => match listOf h x with
      | some xs => match atD xs i with | some d => .ok d h | none => .bad
      | none => .bad
  | _ => .bad
def small (i : Int) : Bool := decide (-(2 ^ 62) ≤ i ∧ i < 2 ^ 62)
def rangeD (lo c : Int) (n : Nat) : List D := (List.range n).map fun (k : Nat) => D.int (lo + k * c)
/-- list(range(n)) -/
def opRangel (x : D) (h : Hm) : R := match x with
  | .int n => if small n = true ∧ n ≤ 16777216 then .ok (.ref h.length) (h ++ [.lst (rangeD 0 1 n.toNat)]) else .bad
  | _ => .bad
def partOf : D → Option (Option Int)
  | .non => some none
  | .int i => if -(2 ^ 62) ≤ i ∧ i < 2 ^ 62 then some (some i) else none
  | _ => none
def opPart (x : D) (h : Hm) : R := match x with
  | .int i => if -(2 ^ 62) ≤ i ∧ i < 2 ^ 62 then .ok (.int i) h else .bad
  | _ => .bad
def cutD {α : Type} (xs : List α) (lo hi : Option Int) : List α := (xs.drop (HT.sIx xs.length 0 lo)).take (HT.sIx xs.length xs.length hi - HT.sIx xs.length 0 lo)
def opSlice (x lo hi : D) (h : Hm) : R := match partOf lo, partOf hi with
  | some l, some u => match x with
    | .tup xs => .ok (.tup (cutD xs l u)) h
    | .str _ => .bad
    | _ => match listOf h x with
      | some xs => .ok (.ref h.length) (h ++ [.lst (cutD xs l u)])
      | none => .bad
  | _, _ => .bad
def onList (x : D) (h : Hm) (f : Nat → List D → R) : R := match x with
  | .ref k => match h[k]? with
    | some (.lst xs) => f k xs
    | _ => .bad
  | _ => .bad
def opAppend (x y : D) (h : Hm) : R := onList x h fun k xs => if xs.length < sizeLine then .ok .non (h.set k (.lst (xs ++ [y]))) else .bad
def opPop (x : D) (h : Hm) : R := onList x h fun k xs => match xs.getLast? with
  | some d => .ok d (h.set k (.lst xs.dropLast))
  | none => .bad
def opPopat (x y : D) (h : Hm) : R := onList x h fun k xs => match y with
  | .int i => match ixN xs.length i with
    | some j => match xs[j]? with | some d => .ok d (h.set k (.lst (xs.eraseIdx j))) | none => .bad
    | none => .bad
  | _ => .bad
def opCount (x y : D) (h : Hm) : R := match listOf h x with
  | some xs => match intsOf xs, y with
    | some ns, .int i => .ok (.int (ns.count i : Nat)) h
    | _, _ => .bad
  | none => .bad
/-- x.index(y), x a list -/
def opIndex (x y : D) (h : Hm) : R := match lstOf h x with
  | some xs => match toPs h (deepP - 1) xs, toP h deepP y with
    | some ps, some q => if SeqAt.shaped (.list ps) = true ∧ SeqAt.shaped q = true then match ps.findIdx? fun z => PyData.eqv z q with
        | some j => .ok (.int (j : Nat)) h
        | none => .bad
      else .bad
    | _, _ => .bad
  | none => .bad
def opInsert (x i y : D) (h : Hm) : R := onList x h fun k xs => match i with
  | .int j => if xs.length < sizeLine ∧ 0 ≤ j ∧ j < 2 ^ 62 then .ok .non (h.set k (.lst (xs.take j.toNat ++ [y] ++ xs.drop j.toNat))) else .bad
  | _ => .bad
def opExtend (x y : D) (h : Hm) : R := onList x h fun k xs => onList y h fun _ ys => if xs.length + ys.length ≤ sizeLine then .ok .non (h.set k (.lst (xs ++ ys))) else .bad
def opReverse (x : D) (h : Hm) : R := onList x h fun k xs => .ok .non (h.set k (.lst xs.reverse))
def opClear (x : D) (h : Hm) : R := onList x h fun k xs => .ok .non (h.set k (.lst []))
def opSetix (x i y : D) (h : Hm) : R := onList x h fun k xs => match i with
  | .int j => match ixN xs.length j with
    | some m => .ok .non (h.set k (.lst (xs.set m y)))
    | none => .bad
  | _ => .bad
def isKind (f : D → Option Bool) (x : D) (h : Hm) : R := match f x with
  | some b => .ok (.bl b) h
  | none => .bad
def kInt : D → Option Bool
  | .int _ => some true | .bl _ => some true | .xv .. => none | .ro _ => none | _ => some false
def kBool : D → Option Bool
  | .bl _ => some true | .xv .. => none | .ro _ => none | _ => some false
def kStr : D → Option Bool
  | .str _ => some true | .xv .. => none | .ro _ => none | _ => some false
def kNone : D → Option Bool
  | .non => some true | .xv .. => none | .ro _ => none | _ => some false
def kTup : D → Option Bool
  | .tup _ => some true | .xv .. => none | .ro _ => none | _ => some false
def kList (h : Hm) : D → Option Bool
  | .ro _ => none
  | .ref k => match h[k]? with
    | some (.lst _) => some true
    | none => none
  | .xv .. => none
  | _ => some false
def kSeq (h : Hm) (d : D) : Option Bool := match kList h d, kTup d with
  | some a, some b => some (a || b)
  | _, _ => none

def evP (p : Pm) (ds : List D) (h : Hm) : R :=
  match ds with
  | [x] => match p with
    | .neg => opNeg x h | .len => opLen x h | .abs => opAbs x h | .maxl => opMaxl x h | .minl => opMinl x h | .suml => opSum x h | .sorted => opSorted x h
    | .sortr => opSortr x h | .revl => opRevl x h | .alll => opAll x h | .anyl => opAny x h | .rangel => opRangel x h | .list => opList x h | .tuple => opTuple x h | .int => opInt x h | .str => opStr x h | .pop => opPop x h | .reverse => opReverse x h | .clear => opClear x h
    | .part => opPart x h | .isint => isKind kInt x h | .isbool => isKind kBool x h | .isstr => isKind kStr x h | .isnone => isKind kNone x h | .istup => isKind kTup x h | .islist => isKind (kList h) x h | .isseq => isKind (kSeq h) x h
    | _ => .bad
  | [x, y] => match p with
    | .add => opAdd x y h | .sub => opSub x y h | .mul => opMul x y h | .fdiv => opFdiv x y h | .mod => opMod x y h | .pow => opPow x y h
    | .eq => opEq x y h | .ne => opNe x y h | .lt => opCmp (fun i j => decide (i < j)) qLt x y h | .le => opCmp (fun i j => decide (i ≤ j)) qLe x y h
    | .gt => opCmp (fun i j => decide (j < i)) qGt x y h | .ge => opCmp (fun i j => decide (j ≤ i)) qGe x y h
    | .is => opIs x y h | .isnot => opIsnot x y h | .isin => opIn x y h | .notin => opNotin x y h
    | .max2 => opMax2 x y h | .min2 => opMin2 x y h | .idx => opIdx x y h | .append => opAppend x y h | .popat => opPopat x y h | .count => opCount x y h
    | .extend => opExtend x y h | .index => opIndex x y h | .maxd => opMaxd x y h
    | _ => .bad
  | [x, y, z] => match p with
    | .slice => opSlice x y z h | .insert => opInsert x y z h | .setix => opSetix x y z h
    | _ => .bad
  | _ => .bad

/-- x op= y: whole numbers and texts alone -/
def evAug (p : Pm) (x y : D) (h : Hm) : R := match p, x, y with
  | .add, .int i, .int j => .ok (.int (i + j)) h
  | .add, .str a, .str b => opAdd (.str a) (.str b) h
  | .sub, .int i, .int j => .ok (.int (i - j)) h
  | .mul, .int i, .int j => opMul (.int i) (.int j) h
  | .fdiv, .int i, .int j => if 0 < j ∧ j < 1073741824 then .ok (.int (i / j)) h else .bad
  | .mod, .int i, .int j => if 0 < j then .ok (.int (i % j)) h else .bad
  | _, _, _ => .bad
/-- the item of a list -/
def opGet (x y : D) (h : Hm) : R := match lstOf h x, y with
  | some xs, .int i => match atD xs i with
    | some d => .ok d h
    | none => .bad
  | _, _ => .bad
/-- may this be the receiver of such a method? -/
def recvOk (p : Pm) (x : D) (h : Hm) : Bool := match p with
  | .count => (listOf h x).isSome
  | _ => (lstOf h x).isSome
def truth (h : Hm) : D → Option Bool
  | .non => some false
  | .bl b => some b
  | .int i => some (decide (i ≠ 0))
  | .str s => if s.length ≤ sizeLine then some (decide (s.length ≠ 0)) else none
  | .tup xs => some (!xs.isEmpty)
  | .ro xs => some (!xs.isEmpty)
  | .ref k => match h[k]? with
    | some (.lst xs) => some (!xs.isEmpty)
    | none => none
  | .xv .. => none

/-! ### the small language -/
inductive Tg where
  | name (i : Nat) | tup2 (i j : Nat) | tup3 (i j k : Nat) | tup4 (i j k l : Nat)
inductive Src where
  | plain | range1 | range2 | range3 | enum | zip | rev
inductive E where
  | var (i : Nat) | lit (d : D) | prim (p : Pm) (args : E) | meth (p : Pm) (o args : E) | call (f : Nat) (args : E) | callD (f : Nat) (args : E) (dl : List D)
  | nil | cons (a r : E) | app (a b : E) | tup (args : E) | lst (args : E)
  | and (a b : E) | or (a b : E) | not (a : E) | ite (c a b : E) | chain (p q : Pm) (a b c : E)
  | comp (own : List Nat) (src : Src) (args : E) (tg : Tg) (cond : E) (elt : E)
  | xis (i : Nat) (cs : List Str)
  | xfld (i : Nat) (f : Str)
inductive S where
  | skip | seq (a b : S) | set (tg : Tg) (e : E) | setix (o i e : E) | aug (p : Pm) (x : Nat) (e : E) | augix (p : Pm) (o i e : E)
  | expr (e : E) | ret (e : E) | retn | ite (c : E) (a b : S) | loop (src : Src) (args : E) (tg : Tg) (body : S) | while (c : E) (body : S)
  | brk | cont | raise (c : Str) (fs : List Str) (args : E)
  | try (body : S) (hs : S) | hnil | hcons (c : Str) (slot : Option Nat) (suite : S) (rest : S)
inductive O where
  | nx (ρ : Env') (h : Hm) | rt (d : D) (h : Hm) | bk (ρ : Env') (h : Hm) | ct (ρ : Env') (h : Hm) | ex (x : Exn) (ρ : Env') (h : Hm) | bad

def setT (tg : Tg) (d : D) (ρ : Env') : Option Env' := match tg, d with
  | .name i, d => some (ρ.set i (some d))
  | .tup2 i j, .tup [a, b] => some ((ρ.set i (some a)).set j (some b))
  | .tup3 i j k, .tup [a, b, c] => some (((ρ.set i (some a)).set j (some b)).set k (some c))
  | .tup4 i j k l, .tup [a, b, c, d] => some ((((ρ.set i (some a)).set j (some b)).set k (some c)).set l (some d))
  | _, _ => none
def wipeE (ρ : Env') : List Nat → Env'
  | [] => ρ
  | v :: vs => (wipeE ρ vs).set v none
/-- the lists that a walk must find unchanged -/
abbrev Gd := List (Nat × List D)
def gdOk (g : Gd) (h : Hm) : Bool := g.all fun p => match h[p.1]? with
  | some (.lst xs) => D.beqs xs p.2
  | none => false
def gdOf : D → List D → Gd
  | .ref k, xs => [(k, xs)]
  | _, _ => []
def enumD : Nat → List D → List D
  | _, [] => []
  | i, x :: r => .tup [.int i, x] :: enumD (i + 1) r
def zipD : List D → List D → List D
  | a :: r, b :: s => .tup [a, b] :: zipD r s
  | _, _ => []
def srcPlain (h : Hm) : List D → Option (List D × Gd)
  | [x] => (listOf h x).map fun xs => (xs, gdOf x xs)
  | _ => none
def srcR1 : List D → Option (List D × Gd)
  | [.int n] => if small n = true then some (rangeD 0 1 n.toNat, []) else none
  | _ => none
def srcR2 : List D → Option (List D × Gd)
  | [.int a, .int b] => if small a = true ∧ small b = true then some (rangeD a 1 (b - a).toNat, []) else none
  | _ => none
def srcR3 : List D → Option (List D × Gd)
  | [.int a, .int b, .int c] => if c ≠ 0 ∧ c.natAbs < 1073741824 ∧ Builtin.Range.small a b c = true ∧ 0 ≤ Builtin.Range.rangeSize a b c then some (rangeD a c (Builtin.Range.rangeSize a b c).toNat, []) else none
  | _ => none
def srcEnum (h : Hm) : List D → Option (List D × Gd)
  | [x] => (listOf h x).map fun xs => (enumD 0 xs, gdOf x xs)
  | _ => none
def srcZip (h : Hm) : List D → Option (List D × Gd)
  | [x, y] => match listOf h x, listOf h y with
    | some xs, some ys => some (zipD xs ys, gdOf x xs ++ gdOf y ys)
    | _, _ => none
  | _ => none
def srcRev (h : Hm) : List D → Option (List D × Gd)
  | [x] => (listOf h x).map fun xs => (xs.reverse, gdOf x xs)
  | _ => none
def evSrc (s : Src) (ds : List D) (h : Hm) : Option (List D × Gd) := match s with
  | .plain => srcPlain h ds
  | .range1 => srcR1 ds
  | .range2 => srcR2 ds
  | .range3 => srcR3 ds
  | .enum => srcEnum h ds
  | .zip => srcZip h ds
  | .rev => srcRev h ds

/-- the items one after another, made into the list at cell n -/
def compL (g : Gd) (tg : Tg) (ρ : Env') (cond elt : Env' → Hm → R) (n : Nat) : List D → Hm → R
  | [], h => if gdOk g h = true then .ok (.ref n) h else .bad
  | x :: xs, h => if gdOk g h = true then
      match setT tg x ρ with
      | none => .bad
      | some ρ1 => match cond ρ1 h with
        | .ok c h1 => match truth h1 c with
          | some true => match elt ρ1 h1 with
            | .ok y h2 => match h2[n]? with
              | some (.lst acc) => if acc.length < sizeLine then compL g tg ρ cond elt n xs (h2.set n (.lst (acc ++ [y]))) else .bad
              | none => .bad
            | _ => .bad
          | some false => compL g tg ρ cond elt n xs h1
          | none => .bad
        | _ => .bad
    else .bad
def argsOf : R → Option (List D × Hm)
  | .ok (.tup xs) h => some (xs, h)
  | _ => none

section
variable (call : Nat → List D → Hm → R)
def evE : E → Env' → Hm → R
  | .var i, ρ, h => match ρ[i]? with
    | some (some d) => .ok d h
    | _ => .bad
  | .lit d, _, h => .ok d h
  | .nil, _, h => .ok (.tup []) h
  | .cons a r, ρ, h => (evE a ρ h).bind fun d h1 => (evE r ρ h1).bind fun ds h2 => match ds with
    | .tup xs => .ok (.tup (d :: xs)) h2
    | _ => .bad
  | .app a b, ρ, h => (evE a ρ h).bind fun ds h1 => match ds with
    | .tup xs => (evE b ρ h1).bind fun es h2 => match es with
      | .tup ys => .ok (.tup (xs ++ ys)) h2
      | _ => .bad
    | _ => .bad
  | .prim p args, ρ, h => (evE args ρ h).bind fun ds h1 => match ds with
    | .tup xs => evP p xs h1
    | _ => .bad
  | .meth p o args, ρ, h => (evE o ρ h).bind fun x h1 => if recvOk p x h1 = true then (evE args ρ h1).bind fun ds h2 => match ds with
    | .tup xs => evP p (x :: xs) h2
    | _ => .bad else .bad
  | .call f args, ρ, h => (evE args ρ h).bind fun ds h1 => match ds with
    | .tup xs => call f xs h1
    | _ => .bad
  | .callD f args dl, ρ, h => (evE args ρ h).bind fun ds h1 => match ds with
    | .tup xs => call f (xs ++ dl) h1
    | _ => .bad
  | .tup args, ρ, h => (evE args ρ h).bind fun ds h1 => match ds with
    | .tup xs => mkt xs h1
    | _ => .bad
  | .lst args, ρ, h => (evE args ρ h).bind fun ds h1 => match ds with
    | .tup xs => mkl xs h1
    | _ => .bad
  | .and a b, ρ, h => (evE a ρ h).bind fun d h1 => match truth h1 d with
    | some true => evE b ρ h1
    | some false => .ok d h1
    | none => .bad
  | .or a b, ρ, h => (evE a ρ h).bind fun d h1 => match truth h1 d with
    | some true => .ok d h1
    | some false => evE b ρ h1
    | none => .bad
  | .not a, ρ, h => (evE a ρ h).bind fun d h1 => match truth h1 d with
    | some b => .ok (.bl (!b)) h1
    | none => .bad
  | .ite c a b, ρ, h => (evE c ρ h).bind fun d h1 => match truth h1 d with
    | some true => evE a ρ h1
    | some false => evE b ρ h1
    | none => .bad
  | .chain p q a b c, ρ, h => (evE a ρ h).bind fun x h1 => (evE b ρ h1).bind fun y h2 => (evP p [x, y] h2).bind fun k h3 => match k with
    | .bl true => (evE c ρ h3).bind fun z h4 => evP q [y, z] h4
    | .bl false => .ok (.bl false) h3
    | _ => .bad
  | .comp own src args tg cond elt, ρ, h => (evE args ρ h).bind fun ds h1 => match ds with
    | .tup xs => match evSrc src xs h1 with
      | some (items, g) => compL g tg (wipeE ρ own) (evE cond) (evE elt) h1.length items (h1 ++ [.lst []])
      | none => .bad
    | _ => .bad
  | .xis i cs, ρ, h => match ρ[i]? with
    | some (some (.xv c [] [])) => .ok (.bl (cs.contains c)) h
    | _ => .bad
  | .xfld i f, ρ, h => match ρ[i]? with
    | some (some (.xv _ fs ds)) => match (fs.zip ds).lookup f with
      | some d => .ok d h
      | none => .bad
    | _ => .bad

/-- the items one after another through a body -/
def forL (g : Gd) (tg : Tg) (body : Env' → Hm → O) : List D → Env' → Hm → O
  | [], ρ, h => if gdOk g h = true then .nx ρ h else .bad
  | x :: xs, ρ, h => if gdOk g h = true then
      match setT tg x ρ with
      | none => .bad
      | some ρ1 => match body ρ1 h with
        | .nx ρ2 h2 => forL g tg body xs ρ2 h2
        | .ct ρ2 h2 => forL g tg body xs ρ2 h2
        | .bk ρ2 h2 => .nx ρ2 h2
        | .rt d h2 => .rt d h2
        | .ex x ρ2 h2 => .ex x ρ2 h2
        | .bad => .bad
    else .bad
def whileL (c : Env' → Hm → R) (body : Env' → Hm → O) : Nat → Env' → Hm → O
  | 0, _, _ => .bad
  | n + 1, ρ, h => match c ρ h with
    | .ok d h1 => match truth h1 d with
      | some true => match body ρ h1 with
        | .nx ρ2 h2 => whileL c body n ρ2 h2
        | .ct ρ2 h2 => whileL c body n ρ2 h2
        | .bk ρ2 h2 => .nx ρ2 h2
        | .rt d h2 => .rt d h2
        | .ex x ρ2 h2 => .ex x ρ2 h2
        | .bad => .bad
      | some false => .nx ρ h1
      | none => .bad
    | .exn x h1 => .ex x ρ h1
    | .bad => .bad
/-- an expression's end, as a statement's -/
def R.to (r : R) (ρ : Env') (f : D → Hm → O) : O := match r with
  | .ok d h => f d h
  | .exn x h => .ex x ρ h
  | .bad => .bad
@[simp] theorem R.to_ok {d h ρ f} : (R.ok d h).to ρ f = f d h := rfl
@[simp] theorem R.to_exn {x h ρ f} : (R.exn x h).to ρ f = .ex x ρ h := rfl
@[simp] theorem R.to_bad {ρ f} : R.bad.to ρ f = .bad := rfl
variable (w : Nat)
variable (sub : Str → Str → Bool)
mutual
def evS : S → Env' → Hm → O
  | .skip, ρ, h => .nx ρ h
  | .seq a b, ρ, h => match evS a ρ h with
    | .nx ρ1 h1 => evS b ρ1 h1
    | o => o
  | .set tg e, ρ, h => (evE call e ρ h).to ρ fun d h1 => match setT tg d ρ with
    | some ρ1 => .nx ρ1 h1
    | none => .bad
  | .setix o i e, ρ, h => (evE call e ρ h).to ρ fun d h1 => (evE call o ρ h1).to ρ fun x h2 => (evE call i ρ h2).to ρ fun k h3 => (opSetix x k d h3).to ρ fun _ h4 => .nx ρ h4
  | .aug p x e, ρ, h => match ρ[x]? with
    | some (some a) => (evE call e ρ h).to ρ fun d h1 => (evAug p a d h1).to ρ fun r h2 => .nx (ρ.set x (some r)) h2
    | _ => .bad
  | .augix p o i e, ρ, h => (evE call o ρ h).to ρ fun x h1 => (evE call i ρ h1).to ρ fun k h2 => (opGet x k h2).to ρ fun a h3 => (evE call e ρ h3).to ρ fun d h4 =>
      (evAug p a d h4).to ρ fun r h5 => (opSetix x k r h5).to ρ fun _ h6 => .nx ρ h6
  | .expr e, ρ, h => (evE call e ρ h).to ρ fun _ h1 => .nx ρ h1
  | .ret e, ρ, h => (evE call e ρ h).to ρ fun d h1 => .rt d h1
  | .retn, _, h => .rt .non h
  | .ite c a b, ρ, h => (evE call c ρ h).to ρ fun d h1 => match truth h1 d with
    | some true => evS a ρ h1
    | some false => evS b ρ h1
    | none => .bad
  | .loop src args tg body, ρ, h => (evE call args ρ h).to ρ fun ds h1 => match ds with
    | .tup xs => match evSrc src xs h1 with
      | some (items, g) => forL g tg (evS body) items ρ h1
      | none => .bad
    | _ => .bad
  | .while c body, ρ, h => whileL (evE call c) (evS body) w ρ h
  | .brk, ρ, h => .bk ρ h
  | .cont, ρ, h => .ct ρ h
  | .raise c fs args, ρ, h => (evE call args ρ h).to ρ fun ds h1 => match ds with
    | .tup xs => if xs.length = fs.length then .ex ⟨c, fs, xs⟩ ρ h1 else .bad
    | _ => .bad
  | .try body hs, ρ, h => match evS body ρ h with
    | .ex x ρ1 h1 => evH hs x ρ1 h1
    | o => o
  | .hnil, _, _ => .bad
  | .hcons _ _ _ _, _, _ => .bad
def evH : S → Exn → Env' → Hm → O
  | .hnil, x, ρ, h => .ex x ρ h
  | .hcons c slot suite rest, x, ρ, h => if sub x.cls c = true then
      match slot with
      | none => match evS suite ρ h with
        | .ex .. => .bad
        | o => o
      | some i => if i < ρ.length then match evS suite (ρ.set i (some (.xv x.cls x.fs x.ds))) h with
        | .nx ρ1 h1 => .nx (ρ1.set i none) h1
        | .bk ρ1 h1 => .bk (ρ1.set i none) h1
        | .ct ρ1 h1 => .ct (ρ1.set i none) h1
        | .rt d h1 => .rt d h1
        | _ => .bad
        else .bad
    else evH rest x ρ h
  | _, _, _, _ => .bad
end
end

/-- a def -/
structure Fn where
  arity : Nat
  slots : Nat
  body : S
/-- the exception classes: each with what it stands under (itself too) -/
structure Pg where
  fns : List Fn
  subs : List (Str × List Str)
def Pg.sub (P : Pg) (x c : Str) : Bool := match P.subs.lookup x with
  | some l => l.contains c
  | none => false
def endO : O → R
  | .nx _ h => .ok .non h
  | .rt d h => .ok d h
  | .ex x _ h => .exn x h
  | _ => .bad
def callF (P : Pg) (w : Nat) : Nat → Nat → List D → Hm → R
  | 0, _, _, _ => .bad
  | k + 1, f, ds, h => match P.fns[f]? with
    | some fn => if ds.length = fn.arity then endO (evS (callF P w k) w P.sub fn.body (ds.map some ++ List.replicate (fn.slots - fn.arity) none) h) else .bad
    | none => .bad
end Z

set_option Elab.async false
set_option linter.all false
set_option maxRecDepth 100000
set_option maxHeartbeats 4000000
namespace Z
open PySem PySem.Spec PyProof.Rows L2

theorem pe_imp {X : Cx} {e : Expr} {t t' : TE} (h : PE X e t) (k : ∀ σ H Q, t' σ H Q → t σ H Q) : PE X e t' := ⟨fun pins s σ H Q I q => h.run pins s σ H Q I (k _ _ _ q)⟩
theorem OpR.or {X : Cx} {f : Value → Value → Sem Value} {r r' : R2} (h : OpR X f r) (h' : OpR X f r') : OpR X f (fun x y H Q => r x y H Q ∨ r' x y H Q) := by
  intro pins s σ H x y v u Q I rx ry q
  rcases q with q | q
  · exact h pins s σ H x y v u Q I rx ry q
  · exact h' pins s σ H x y v u Q I rx ry q

/-! ### readings by evaluations -/
section
variable {G : Gx} {W : WX}
/-- a value is there, and what follows is an evaluation -/
def Aft (G : Gx) (W : WX) (n : Nat) (f : List D → Hm → R) (vs : List V) (H : Hp) (Q : VK) : Prop :=
  ∃ σ π h ds, HmOk G H π h ∧ Reps G H π ds vs ∧ ds.length = n ∧ Post G W σ H π (f ds h) fun _ _ v H' _ => Q v H'
theorem TEv.one {ea : Env' → Hm → R} {f : D → Hm → R} {σ : L2.St} {H : Hp} {Q : VK} (t : TEv G W (fun ρ h => (ea ρ h).bind f) σ H Q) :
    TEv G W ea σ H fun vx H1 => ∃ π h x, HmOk G H1 π h ∧ Rep G H1 π x vx ∧ Post G W σ H1 π (f x h) fun _ _ v H' _ => Q v H' := by
  obtain ⟨ρ, π, h, E, M, P⟩ := t
  exact ⟨ρ, π, h, E, M, P.bind.imp fun d h1 v H1 π1 _ _ _ M1 R1 p1 => ⟨π1, h1, d, M1, R1, p1⟩⟩
theorem TEv.oneE {ea : Env' → Hm → R} {f : Env' → D → Hm → R} {σ : L2.St} {H : Hp} {Q : VK} (t : TEv G W (fun ρ h => (ea ρ h).bind (f ρ)) σ H Q) :
    TEv G W ea σ H fun vx H1 => ∃ ρ π h x, EnvOk G H1 π ρ σ ∧ HmOk G H1 π h ∧ Rep G H1 π x vx ∧ Post G W σ H1 π (f ρ x h) fun _ _ v H' _ => Q v H' := by
  obtain ⟨ρ, π, h, E, M, P⟩ := t
  exact ⟨ρ, π, h, E, M, P.bind.imp fun d h1 v H1 π1 _ e p M1 R1 p1 => ⟨ρ, π1, h1, d, E.mono e p, M1, R1, p1⟩⟩
theorem TEv.two {ea eb : Env' → Hm → R} {f : D → D → Hm → R} {σ : L2.St} {H : Hp} {Q : VK} (t : TEv G W (fun ρ h => (ea ρ h).bind fun x h1 => (eb ρ h1).bind fun y h2 => f x y h2) σ H Q) :
    TEv G W ea σ H fun vx H1 => TEv G W eb σ H1 fun vy H2 => ∃ π h x y, HmOk G H2 π h ∧ Rep G H2 π x vx ∧ Rep G H2 π y vy ∧ Post G W σ H2 π (f x y h) fun _ _ v H' _ => Q v H' := by
  obtain ⟨ρ, π, h, E, M, P⟩ := t
  exact ⟨ρ, π, h, E, M, P.bind.imp fun d h1 v H1 π1 _ e p M1 R1 p1 => ⟨ρ, π1, h1, E.mono e p, M1, p1.bind.imp fun d2 h2 v2 H2 π2 _ e2 p2 M2 R2 q2 => ⟨π2, h2, d, d2, M2, R1.mono e2 p2, R2, q2⟩⟩⟩
/-- two values, then an operation -/
def rA2 (G : Gx) (W : WX) (f : D → D → Hm → R) : R2 := fun vx vy H Q => ∃ σ π h x y, HmOk G H π h ∧ Rep G H π x vx ∧ Rep G H π y vy ∧ Post G W σ H π (f x y h) fun _ _ v H' _ => Q v H'
def rA1 (G : Gx) (W : WX) (f : D → Hm → R) : V → Hp → VK → Prop := fun vx H Q => ∃ σ π h x, HmOk G H π h ∧ Rep G H π x vx ∧ Post G W σ H π (f x h) fun _ _ v H' _ => Q v H'
/-- a call's arguments, then an operation -/
def rAn (G : Gx) (W : WX) (f : List D → Hm → R) : List V → Hp → VK → Prop := fun vs H Q => ∃ σ π h ds, HmOk G H π h ∧ Reps G H π ds vs ∧ Post G W σ H π (f ds h) fun _ _ v H' _ => Q v H'
theorem post_pure {σ : L2.St} {H : Hp} {π : List Addr} {h : Hm} {d : D} {Q : VK} {v : V} (M : HmOk G H π h) (r : Rep G H π d v) (P : Post G W σ H π (.ok d h) fun _ _ v H' _ => Q v H') : Q v H :=
  P v H π .refl (List.prefix_refl _) M r

/-- the list of a datum, as its value is -/
theorem listOf_ok {H : Hp} {π : List Addr} {h : Hm} {x : D} {v : V} {xs : List D} (M : HmOk G H π h) (r : Rep G H π x v) (e : listOf h x = some xs) :
    ∃ a vs, v = .ref a ∧ Reps G H π xs vs ∧ ((x = .tup xs ∧ TupF G.K H a vs) ∨ (RoL G.K H a vs ∧ x = .ro xs) ∨ (∃ n, x = .ref n ∧ h[n]? = some (.lst xs) ∧ π[n]? = some a ∧ H a = some (.lst vs))) := by
  cases r with
  | tup t rs => simp only [listOf, Option.some.injEq] at e; subst e; exact ⟨_, _, rfl, rs, .inl ⟨rfl, t⟩⟩
  | ro t rs => simp only [listOf, Option.some.injEq] at e; subst e; exact ⟨_, _, rfl, rs, .inr (.inl ⟨t, rfl⟩)⟩
  | @ref n a hp =>
    simp only [listOf] at e
    split at e
    · rename_i xs' hn
      simp only [Option.some.injEq] at e
      subst e
      obtain ⟨a', vs, e1, e2, e3, e4⟩ := M.lst hn (.ref hp)
      cases e1
      exact ⟨_, vs, rfl, e4, .inr (.inr ⟨n, rfl, hn, hp, e3⟩)⟩
    · cases e
  | _ => simp [listOf] at e
theorem listOf_sq {H : Hp} {π : List Addr} {h : Hm} {x : D} {v : V} {xs : List D} (M : HmOk G H π h) (r : Rep G H π x v) (e : listOf h x = some xs) :
    ∃ a vs, v = .ref a ∧ Reps G H π xs vs ∧ (SqL G.K H a vs ∨ SqT G.K H a vs) := by
  obtain ⟨a, vs, e1, e2, e3⟩ := listOf_ok M r e
  refine ⟨a, vs, e1, e2, ?_⟩
  rcases e3 with ⟨_, t⟩ | ⟨t, _⟩ | ⟨n, _, _, _, t⟩
  · exact .inr t.sqT
  · exact .inl t.sq
  · exact .inl (.of t)
theorem intsOf_eq : ∀ {xs : List D} {ns : List Int}, intsOf xs = some ns → xs = ns.map .int
  | [], ns, e => by simp [intsOf] at e; subst e; rfl
  | x :: r, ns, e => by
    cases x <;> simp only [intsOf, reduceCtorEq] at e
    rename_i i
    cases q : intsOf r with
    | none => rw [q] at e; cases e
    | some ms => rw [q] at e; simp at e; subst e; rw [intsOf_eq q]; rfl
@[simp] theorem intsOf_map (ns : List Int) : intsOf (ns.map .int) = some ns := by
  induction ns with
  | nil => rfl
  | cons a r ih => simp [intsOf, ih]

/-- a new list is made: what stands behind it -/
theorem post_new {σ : L2.St} {H : Hp} {π : List Addr} {h : Hm} {ds : List D} {vs : List V} {Q : VK} {p : Addr} (M : HmOk G H π h) (r : Reps G H π ds vs) (hp : H p = none)
    (P : Post G W σ H π (.ok (.ref h.length) (h ++ [.lst ds])) fun _ _ v H' _ => Q v H') : Q (.ref p) (upd H p (.lst vs)) := by
  refine P _ _ (π ++ [p]) (.new hp) (List.prefix_append _ _) (M.push hp ⟨vs, rfl, r⟩) (.ref ?_)
  rw [List.getElem?_append_right (by rw [M.len]; exact Nat.le_refl _), M.len]; simp
theorem post_mkl {σ : L2.St} {H : Hp} {π : List Addr} {h : Hm} {ds : List D} {vs : List V} {Q : VK} (M : HmOk G H π h) (r : Reps G H π ds vs)
    (P : Post G W σ H π (mkl ds h) fun _ _ v H' _ => Q v H') : vs.length ≤ sizeLine ∧ ∀ p, H p = none → Q (.ref p) (upd H p (.lst vs)) := by
  unfold mkl at P
  split at P
  · rename_i hz
    exact ⟨by rw [← r.length]; exact hz, fun p hp => post_new M r hp P⟩
  · exact P.elim
/-- a new tuple is made -/
theorem post_tup {σ : L2.St} {H : Hp} {π : List Addr} {h : Hm} {ds : List D} {vs : List V} {Q : VK} {p : Addr} {o : Obj} (M : HmOk G H π h) (r : Reps G H π ds vs) (hp : H p = none) (hc : o.cls = .type "tuple") (hd : o.dict = none)
    (P : Post G W σ H π (.ok (.tup ds) h) fun _ _ v H' _ => Q v H') : Q (.ref p) (upd H p (.frz o (.tup vs))) :=
  P _ _ π (.new hp) (List.prefix_refl _) (M.ext_new hp) (.tup (.inl ⟨o, upd_same, hc, hd⟩) (r.mono (.new hp) (List.prefix_refl _)))
theorem post_set {σ : L2.St} {H : Hp} {π : List Addr} {h : Hm} {ds : List D} {us vs : List V} {Q : VK} {n : Nat} {a : Addr} {d : D} {v : V} (M : HmOk G H π h) (hn : π[n]? = some a) (ha : H a = some (.lst us)) (r : Reps G H π ds vs) (rd : Rep G H π d v)
    (P : Post G W σ H π (.ok d (h.set n (.lst ds))) fun _ _ v H' _ => Q v H') : Q v (upd H a (.lst vs)) :=
  P _ _ π (.lst ha) (List.prefix_refl _) (M.setl hn ha r) (rd.mono (.lst ha) (List.prefix_refl _))
end

/-! ### the operators -/
section
variable {X : Cx} {G : Gx} {W : WX}
theorem rep_int {H : Hp} {π : List Addr} {i : Int} {v : V} (r : Rep G H π (.int i) v) : v = .int i := by cases r; rfl
theorem rep_str {H : Hp} {π : List Addr} {i : Str} {v : V} (r : Rep G H π (.str i) v) : v = .str i := by cases r; rfl
theorem rep_bl {H : Hp} {π : List Addr} {i : Bool} {v : V} (r : Rep G H π (.bl i) v) : v = .bl i := by cases r; rfl
theorem rep_tup {H : Hp} {π : List Addr} {ds : List D} {v : V} (r : Rep G H π (.tup ds) v) : ∃ a vs, v = .ref a ∧ TupF G.K H a vs ∧ Reps G H π ds vs := by cases r with | tup t rs => exact ⟨_, _, rfl, t, rs⟩
/-- an operation of ints alone -/
theorem z_ii {f : Value → Value → Sem Value} {r : R2} {g : D → D → Hm → R} (ho : OpR X f r)
    (hg : ∀ x y h, (∀ i j, x = .int i → y = .int j → False) → g x y h = .bad)
    (hr : ∀ σ π H h i j Q, HmOk G H π h → Post G W σ H π (g (.int i) (.int j) h) (fun _ _ v H' _ => Q v H') → r (.int i) (.int j) H Q) : OpR X f (rA2 G W g) := by
  intro pins s σ H x y v u Q I rx ry ⟨σ', π, h, dx, dy, M, Rx, Ry, P⟩
  by_cases hx : ∃ i j, dx = .int i ∧ dy = .int j
  · obtain ⟨i, j, rfl, rfl⟩ := hx
    cases rep_int Rx; cases rep_int Ry
    exact ho pins s σ H _ _ v u Q I rx ry (hr σ' π H h i j Q M P)
  · rw [hg _ _ _ fun i j e1 e2 => hx ⟨i, j, e1, e2⟩] at P
    exact P.elim
theorem z_sub : OpR X (binaryOp .Sub) (rA2 G W opSub) := z_ii op_sub (fun x y h k => by unfold opSub; split <;> first | rfl | exact (k _ _ rfl rfl).elim)
  fun σ π H h i j Q M P => ⟨i, j, rfl, rfl, post_pure M (.int _) P⟩
theorem z_pow : OpR X (binaryOp .Pow) (rA2 G W opPow) := z_ii op_pow (fun x y h k => by unfold opPow; split <;> first | rfl | exact (k _ _ rfl rfl).elim)
  fun σ π H h i j Q M P => by
    simp only [opPow] at P
    split at P
    · rename_i hc; exact ⟨i, j, rfl, rfl, hc, post_pure M (.int _) P⟩
    · exact P.elim
theorem z_mod : OpR X (binaryOp .Mod) (rA2 G W opMod) := z_ii (OpR.or op_mod op_modN) (fun x y h k => by unfold opMod; split <;> first | rfl | exact (k _ _ rfl rfl).elim)
  fun σ π H h i j Q M P => by
    simp only [opMod] at P
    split at P
    · rename_i hc; exact .inl ⟨i, j, rfl, rfl, hc, post_pure M (.int _) P⟩
    · split at P
      · rename_i hc; exact .inr ⟨i, j, rfl, rfl, hc, post_pure M (.int _) P⟩
      · exact P.elim
theorem z_fdiv : OpR X (binaryOp .FloorDiv) (rA2 G W opFdiv) := z_ii (OpR.or (OpR.or op_fdiv op_fdivW) op_fdivN) (fun x y h k => by unfold opFdiv; split <;> first | rfl | exact (k _ _ rfl rfl).elim)
  fun σ π H h i j Q M P => by
    simp only [opFdiv] at P
    split at P
    · rename_i hc; exact .inl (.inl ⟨i, j, rfl, rfl, hc, post_pure M (.int _) P⟩)
    · split at P
      · rename_i hc; exact .inl (.inr ⟨i, j, rfl, rfl, hc, post_pure M (.int _) P⟩)
      · split at P
        · rename_i hc; exact .inr ⟨i, j, rfl, rfl, hc, post_pure M (.int _) P⟩
        · exact P.elim
theorem z_neg : UnR X (unaryOp .USub) (rA1 G W opNeg) := by
  intro pins s σ H x v Q I rx ⟨σ', π, h, dx, M, Rx, P⟩
  cases dx <;> simp only [opNeg] at P <;> first | exact P.elim | skip
  cases rep_int Rx
  exact un_neg pins s σ H _ v Q I rx ⟨_, rfl, post_pure M (.int _) P⟩

/-- tuples joined, the new one known -/
theorem z_catT {pins : List (Addr × Obj)} {s : Shared} {σ : L2.St} {H : Hp} {v u : Value} {Q : VK} {a b : Addr} {xs ys : List V} (I : Inv X pins σ H s) (rx : RelV (.ref a) v) (ry : RelV (.ref b) u) (ha : TupF X.K H a xs) (hb : TupF X.K H b ys)
    (hz : xs.length + ys.length ≤ sizeLine) (q1 : xs = [] → Q (.ref b) H) (q2 : ys = [] → Q (.ref a) H) (q3 : ∀ o p, o.cls = .type "tuple" → o.dict = none → H p = none → Q (.ref p) (upd H p (.frz o (.tup (xs ++ ys))))) :
    wpAny (model X.prog X.w) X.A (binaryOp .Add v u) (EP X pins σ Q) X.xe s := by
  by_cases hx : xs = []
  · subst hx
    exact op_catA pins s σ H _ _ v u Q I rx ry ⟨a, b, [], ys, rfl, rfl, ha.sqT, hb.sqT, hz, q1, fun z => absurd rfl z, fun z => absurd rfl z⟩
  · by_cases hy : ys = []
    · subst hy
      exact op_catA pins s σ H _ _ v u Q I rx ry ⟨a, b, xs, [], rfl, rfl, ha.sqT, hb.sqT, hz, fun z => absurd z hx, fun _ _ => q2 rfl, fun _ z => absurd rfl z⟩
    · cases rx
      cases ry
      obtain ⟨its, r1, p1, _⟩ := I.tuple ha.sqT
      obtain ⟨its2, r2, p2, _⟩ := I.tuple hb.sqT
      refine HT.cat_tup p1 p2 (fun z => hx (r1.nil_iff.mp z)) (fun z => absurd (r2.nil_iff.mp z) hy) (fun z => ?_) (by rw [← r1.length, ← r2.length]; exact hz)
      refine ⟨.ref s.heap.objs.size, _, I.laid (t' := s.toks) (o := .frz _ (.tup (xs ++ ys))) (fun b ob q => Heap.get?_push_of_some _ q) (Nat.le_refl _) ⟨Heap.get?_push_size _ rfl, ?_⟩, rfl, q3 _ _ rfl rfl (I.hok.fresh (Nat.le_refl _))⟩
      exact ⟨by rw [List.length_append]; exact hz, _, r1.append r2, IsTup.new _ _⟩
theorem nil_of {H : Hp} {π : List Addr} {vs : List V} (r : Reps G H π [] vs) : vs = [] := by cases r; rfl
theorem nil_to {H : Hp} {π : List Addr} {ds : List D} (r : Reps G H π ds []) : ds = [] := by cases r; rfl
theorem z_add (hK : G.K = X.K) : OpR X (binaryOp .Add) (rA2 G W opAdd) := by
  intro pins s σ H x y v u Q I rx ry ⟨σ', π, h, dx, dy, M, Rx, Ry, P⟩
  unfold opAdd at P
  split at P
  · cases rep_int Rx; cases rep_int Ry
    exact op_add pins s σ H _ _ v u Q I rx ry ⟨_, _, rfl, rfl, post_pure M (.int _) P⟩
  · split at P
    · rename_i hz
      cases rep_str Rx; cases rep_str Ry
      exact op_add_str pins s σ H _ _ v u Q I rx ry ⟨_, _, rfl, rfl, hz, post_pure M (.str _) P⟩
    · exact P.elim
  · obtain ⟨a, xs, rfl, ta, ra⟩ := rep_tup Rx
    obtain ⟨b, ys, rfl, tb, rb⟩ := rep_tup Ry
    rw [hK] at ta tb
    unfold mkt at P
    split at P
    · rename_i hz
      have rr := ra.append rb
      refine z_catT I rx ry ta tb (by rw [← ra.length, ← rb.length, ← List.length_append]; exact hz) (fun e => ?_) (fun e => ?_) fun o p hc hd hp => post_tup M rr hp hc hd P
      · subst e
        have e' := nil_to ra
        subst e'
        exact post_pure M Ry P
      · subst e
        have e' := nil_to rb
        subst e'
        rw [List.append_nil] at P
        exact post_pure M Rx P
    · exact P.elim
  · split at P
    · rename_i xs ys h1 h2
      obtain ⟨a, vs, rfl, _, ea, ra⟩ := M.lst h1 Rx
      obtain ⟨b, us, rfl, _, eb, rb⟩ := M.lst h2 Ry
      obtain ⟨hz, q⟩ := post_mkl M (ra.append rb) P
      exact op_cat pins s σ H _ _ v u Q I rx ry ⟨a, b, vs, us, rfl, rfl, ea, eb, by rw [← List.length_append]; exact hz, q⟩
    · exact P.elim
  · exact P.elim
theorem rep_flat {H : Hp} {π : List Addr} {d : D} {v : V} (r : Rep G H π d v) (f : d.flat = true) : flatV v = true := by
  cases r <;> first | rfl | (simp [D.flat] at f)
end
end Z

set_option Elab.async false
set_option linter.all false
set_option maxRecDepth 100000
set_option maxHeartbeats 4000000
namespace Z
open PySem PySem.Spec PyProof.Rows L2
section
variable {X : Cx} {G : Gx} {W : WX}

/-! ### data as the library's -/
section
variable {H : Hp} {π : List Addr} {h : Hm}
mutual
theorem toP_dp (M : HmOk G H π h) : ∀ (n : Nat) (d : D) (v : V) (p : PyData), toP h n d = some p → Rep G H π d v → Dp G.K H v p
  | 0, d, v, p, e, r => by simp [toP] at e
  | n + 1, .non, v, p, e, r => by simp [toP] at e; subst e; cases r; exact .non
  | n + 1, .bl b, v, p, e, r => by simp [toP] at e; subst e; cases r; exact .bl b
  | n + 1, .int b, v, p, e, r => by simp [toP] at e; subst e; cases r; exact .int b
  | n + 1, .str b, v, p, e, r => by simp [toP] at e; subst e; cases r; exact .str b
  | n + 1, .tup xs, v, p, e, r => by
    simp only [toP, Option.map_eq_some_iff] at e
    obtain ⟨ps, e1, e2⟩ := e
    subst e2
    cases r with
    | tup t rs => exact .tup t.sqT (toPs_dp M n xs _ ps e1 rs)
  | n + 1, .ro xs, v, p, e, r => by
    simp only [toP, Option.map_eq_some_iff] at e
    obtain ⟨ps, e1, e2⟩ := e
    subst e2
    cases r with
    | ro t rs => exact .lst t.sq (toPs_dp M n xs _ ps e1 rs)
  | n + 1, .ref k, v, p, e, r => by
    simp only [toP] at e
    split at e
    · rename_i xs hk
      simp only [Option.map_eq_some_iff] at e
      obtain ⟨ps, e1, e2⟩ := e
      subst e2
      obtain ⟨a, vs, rfl, _, ea, rs⟩ := M.lst hk r
      exact .lst (.of ea) (toPs_dp M n xs _ ps e1 rs)
    · cases e
  | n + 1, .xv _ _ _, v, p, e, r => by simp [toP] at e
theorem toPs_dp (M : HmOk G H π h) : ∀ (n : Nat) (ds : List D) (vs : List V) (ps : List PyData), toPs h n ds = some ps → Reps G H π ds vs → DpAll G.K H vs ps
  | 0, d, v, p, e, r => by simp [toPs] at e
  | n + 1, [], v, p, e, r => by simp [toPs] at e; subst e; cases r; exact .nil
  | n + 1, x :: xs, v, p, e, r => by
    simp only [toPs] at e
    split at e
    · rename_i p1 q1 e1 e2
      simp only [Option.some.injEq] at e
      subst e
      cases r with
      | cons a rs => exact .cons (toP_dp M n x _ p1 e1 a) (toPs_dp M n xs _ q1 e2 rs)
    · cases e
end
end
theorem eqD_cases {x y : D} {h : Hm} {b : Bool} (e : eqD x y h = some b) : (∃ i j, x = .int i ∧ y = .int j ∧ b = decide (i = j)) ∨
    ∃ p q, toP h deepP x = some p ∧ toP h deepP y = some q ∧ SeqAt.shaped p = true ∧ SeqAt.shaped q = true ∧ b = PyData.eqv p q := by
  unfold eqD at e
  split at e
  · exact .inl ⟨_, _, rfl, rfl, by simpa using e.symm⟩
  · split at e
    · rename_i p q e1 e2
      split at e
      · rename_i hs; exact .inr ⟨p, q, e1, e2, hs.1, hs.2, by simpa using e.symm⟩
      · cases e
    · cases e
theorem dec_intV {i j : Int} : decide (V.int i = V.int j) = decide (i = j) := by simp
theorem z_eq (hK : G.K = X.K) (hu : X.A.units + 64 < cLine) : OpR X (compareOp .Eq) (rA2 G W opEq) := by
  intro pins s σ H x y v u Q I rx ry ⟨σ', π, h, dx, dy, M, Rx, Ry, P⟩
  unfold opEq at P
  split at P
  · rename_i b hb
    have q := post_pure M (.bl b) P
    rcases eqD_cases hb with ⟨i, j, rfl, rfl, rfl⟩ | ⟨p, r, e1, e2, s1, s2, rfl⟩
    · cases rep_int Rx; cases rep_int Ry
      exact op_eq pins s σ H _ _ v u Q I rx ry ⟨rfl, by rw [dec_intV]; exact q⟩
    · have d1 := toP_dp M _ _ _ _ e1 Rx
      have d2 := toP_dp M _ _ _ _ e2 Ry
      rw [hK] at d1 d2
      exact op_eqD hu pins s σ H _ _ v u Q I rx ry ⟨p, r, d1, d2, s1, s2, q⟩
  · exact P.elim
theorem z_ne (hK : G.K = X.K) (hu : X.A.units + 64 < cLine) : OpR X (compareOp .NotEq) (rA2 G W opNe) := by
  intro pins s σ H x y v u Q I rx ry ⟨σ', π, h, dx, dy, M, Rx, Ry, P⟩
  unfold opNe at P
  split at P
  · rename_i b hb
    have q := post_pure M (.bl _) P
    rcases eqD_cases hb with ⟨i, j, rfl, rfl, rfl⟩ | ⟨p, r, e1, e2, s1, s2, rfl⟩
    · cases rep_int Rx; cases rep_int Ry
      exact op_ne pins s σ H _ _ v u Q I rx ry ⟨rfl, by rw [dec_intV]; exact q⟩
    · have d1 := toP_dp M _ _ _ _ e1 Rx
      have d2 := toP_dp M _ _ _ _ e2 Ry
      rw [hK] at d1 d2
      exact op_neD hu pins s σ H _ _ v u Q I rx ry ⟨p, r, d1, d2, s1, s2, q⟩
  · exact P.elim
/-- comparisons: whole numbers, or data that are alike -/
theorem dSome_ne {a : PyData} (h : dSome a = true) : a ≠ .none := by
  intro e; subst e; cases h
theorem dOk_all {a b : PyData} (h : dOk a b = true) : PySem.W.alike a b = true ∧ a ≠ .none ∧ min a.depth b.depth ≤ 60 := by
  unfold dOk at h
  simp only [Bool.and_eq_true, decide_eq_true_eq] at h
  exact ⟨h.1, dSome_ne h.2.1, h.2.2⟩
theorem opCmp_cases {p : Int → Int → Bool} {q : PyData → PyData → Bool} {x y : D} {h : Hm} {r : Z.R} (e : opCmp p q x y h = r) : (∃ i j, x = .int i ∧ y = .int j ∧ r = .ok (.bl (p i j)) h) ∨ r = .bad ∨
    ∃ a b, toP h deepP x = some a ∧ toP h deepP y = some b ∧ dOk a b = true ∧ r = .ok (.bl (q a b)) h := by
  unfold opCmp at e
  split at e
  · exact .inl ⟨_, _, rfl, rfl, e.symm⟩
  · split at e
    · rename_i a b e1 e2
      split at e
      · rename_i hd; exact .inr (.inr ⟨a, b, e1, e2, hd, e.symm⟩)
      · exact .inr (.inl e.symm)
    · exact .inr (.inl e.symm)
theorem z_cmp {op : CmpOp} {p : Int → Int → Bool} {q : PyData → PyData → Bool} (hK : G.K = X.K) (hu : X.A.units + 64 < cLine) (ho : OpR X (compareOp op) (rI0 fun i j => .bl (p i j)))
    (hd : ∀ (s : Shared) (v u : Value) (a b : PyData) (as bs : List Addr) (Q : Value → Shared → Prop) (E : Value → Shared → Prop), Reads s.heap v a as → Reads s.heap u b bs → PySem.W.alike a b = true → a ≠ .none → X.A.units + min a.depth b.depth < cLine → Q (.bool (q a b)) s → wpAny (model X.prog X.w) X.A (compareOp op v u) Q E s) :
    OpR X (compareOp op) (rA2 G W (opCmp p q)) := by
  intro pins s σ H x y v u Q I rx ry ⟨σ', π, h, dx, dy, M, Rx, Ry, P⟩
  rcases opCmp_cases (rfl : opCmp p q dx dy h = _) with ⟨i, j, rfl, rfl, e⟩ | e | ⟨a, b, e1, e2, hk, e⟩
  · rw [e] at P
    cases rep_int Rx; cases rep_int Ry
    exact ho pins s σ H _ _ v u Q I rx ry ⟨i, j, rfl, rfl, post_pure M (.bl _) P⟩
  · rw [e] at P; exact P.elim
  · rw [e] at P
    have q := post_pure M (.bl _) P
    have d1 := toP_dp M _ _ _ _ e1 Rx
    have d2 := toP_dp M _ _ _ _ e2 Ry
    rw [hK] at d1 d2
    obtain ⟨as, r1⟩ := Dp.reads I a x v d1 rx
    obtain ⟨bs, r2⟩ := Dp.reads I b y u d2 ry
    obtain ⟨h1, h2, h3⟩ := dOk_all hk
    exact hd s v u a b as bs _ _ r1 r2 h1 h2 (by omega) ⟨.bl _, H, I, rfl, q⟩
theorem z_lt (hK : G.K = X.K) (hu : X.A.units + 64 < cLine) : OpR X (compareOp .Lt) (rA2 G W (opCmp (fun i j => decide (i < j)) qLt)) := z_cmp hK hu op_lt fun s v u a b as bs Q E r1 r2 h1 h2 h3 q => PySem.W.lt_data r1 r2 h1 h2 h3 q
theorem z_le (hK : G.K = X.K) (hu : X.A.units + 64 < cLine) : OpR X (compareOp .LtE) (rA2 G W (opCmp (fun i j => decide (i ≤ j)) qLe)) := z_cmp hK hu op_le fun s v u a b as bs Q E r1 r2 h1 h2 h3 q => PySem.W.le_data r1 r2 h1 h2 h3 q
theorem z_gt (hK : G.K = X.K) (hu : X.A.units + 64 < cLine) : OpR X (compareOp .Gt) (rA2 G W (opCmp (fun i j => decide (j < i)) qGt)) := z_cmp hK hu op_gt fun s v u a b as bs Q E r1 r2 h1 h2 h3 q => PySem.W.gt_data r1 r2 h1 h2 h3 q
theorem z_ge (hK : G.K = X.K) (hu : X.A.units + 64 < cLine) : OpR X (compareOp .GtE) (rA2 G W (opCmp (fun i j => decide (j ≤ i)) qGe)) := z_cmp hK hu op_ge fun s v u a b as bs Q E r1 r2 h1 h2 h3 q => PySem.W.ge_data r1 r2 h1 h2 h3 q
/-- is None, is True, is False -/
theorem isD_cases {H : Hp} {π : List Addr} {x y : D} {vx vy : V} {b : Bool} (e : isD x y = some b) (Rx : Rep G H π x vx) (Ry : Rep G H π y vy) :
    (vy = .non ∧ b = decide (vx = .non)) ∨ ∃ c : Bool, vy = .bl c ∧ b = decide (vx = .bl c) := by
  unfold isD at e
  split at e
  · cases Ry
    left
    cases Rx <;> simp at e <;> simp [← e]
  · rename_i c
    cases Ry
    right
    refine ⟨c, rfl, ?_⟩
    cases Rx <;> simp at e <;> simp [← e]
    · rename_i a; cases a <;> cases c <;> rfl
  · cases e
theorem plainIs_bl {x : V} {v : Value} {c : Bool} (rx : RelV x v) : plainIs v (.bool c) = true := by
  cases x with
  | non => cases rx; rfl
  | bl _ => cases rx; rfl
  | int _ => obtain ⟨t, rfl⟩ := rx; rfl
  | str _ => obtain ⟨t, rfl⟩ := rx; rfl
  | byt _ => obtain ⟨t, rfl⟩ := rx; rfl
  | flt _ => obtain ⟨t, rfl⟩ := rx; rfl
  | ref _ => cases rx; rfl
  | ty _ => cases rx; rfl
theorem z_isA {pins : List (Addr × Obj)} {s : Shared} {σ : L2.St} {H : Hp} {x : V} {v : Value} {c : Bool} {Q : VK} (I : Inv X pins σ H s) (rx : RelV x v) (q : Q (.bl (decide (x = .bl c))) H) :
    wpAny (model X.prog X.w) X.A (compareOp .Is v (.bool c)) (EP X pins σ Q) X.xe s := by
  by_cases e : v = Value.bool c
  · subst e
    have ex : x = .bl c := by
      have := rx.abs; simpa [absV] using this.symm
    exact wpAny_is_self rfl ⟨.bl true, H, I, rfl, by simpa [ex] using q⟩
  · have ex : x ≠ .bl c := fun z => e (by subst z; exact rx)
    exact wpAny_is_other (plainIs_bl rx) e ⟨.bl false, H, I, rfl, by simpa [ex] using q⟩
theorem z_isNA {pins : List (Addr × Obj)} {s : Shared} {σ : L2.St} {H : Hp} {x : V} {v : Value} {c : Bool} {Q : VK} (I : Inv X pins σ H s) (rx : RelV x v) (q : Q (.bl (!decide (x = .bl c))) H) :
    wpAny (model X.prog X.w) X.A (compareOp .IsNot v (.bool c)) (EP X pins σ Q) X.xe s := by
  by_cases e : v = Value.bool c
  · subst e
    have ex : x = .bl c := by
      have := rx.abs; simpa [absV] using this.symm
    exact wpAny_isNot_self rfl ⟨.bl false, H, I, rfl, by simpa [ex] using q⟩
  · have ex : x ≠ .bl c := fun z => e (by subst z; exact rx)
    exact wpAny_isNot_other (plainIs_bl rx) e ⟨.bl true, H, I, rfl, by simpa [ex] using q⟩
theorem z_is : OpR X (compareOp .Is) (rA2 G W opIs) := by
  intro pins s σ H x y v u Q I rx ry ⟨σ', π, h, dx, dy, M, Rx, Ry, P⟩
  unfold opIs at P
  split at P
  · rename_i b hb
    have q := post_pure M (.bl _) P
    rcases isD_cases hb Rx Ry with ⟨rfl, rfl⟩ | ⟨c, rfl, rfl⟩
    · exact op_isN pins s σ H _ _ v u Q I rx ry ⟨rfl, q⟩
    · cases ry; exact z_isA I rx q
  · exact P.elim
theorem z_isnot : OpR X (compareOp .IsNot) (rA2 G W opIsnot) := by
  intro pins s σ H x y v u Q I rx ry ⟨σ', π, h, dx, dy, M, Rx, Ry, P⟩
  unfold opIsnot at P
  split at P
  · rename_i b hb
    have q := post_pure M (.bl _) P
    rcases isD_cases hb Rx Ry with ⟨rfl, rfl⟩ | ⟨c, rfl, rfl⟩
    · exact op_notN pins s σ H _ _ v u Q I rx ry ⟨rfl, q⟩
    · cases ry; exact z_isNA I rx q
  · exact P.elim
theorem z_mul : OpR X (binaryOp .Mult) (rA2 G W opMul) := by
  intro pins s σ H x y v u Q I rx ry ⟨σ', π, h, dx, dy, M, Rx, Ry, P⟩
  unfold opMul at P
  split at P
  · split at P
    · rename_i hc
      cases rep_int Rx; cases rep_int Ry
      unfold okMul at hc
      simp only [Bool.or_eq_true, decide_eq_true_eq] at hc
      exact op_mul pins s σ H _ _ v u Q I rx ry ⟨_, _, rfl, rfl, hc, post_pure M (.int _) P⟩
    · exact P.elim
  · split at P
    · split at P
      · rename_i xs hk hc
        obtain ⟨a, vs, rfl, _, ea, rs⟩ := M.lst hk Rx
        cases rep_int Ry
        have rr : ∀ n : Nat, Reps G H π (List.replicate n xs).flatten (List.replicate n vs).flatten := fun n => by
          induction n with
          | zero => exact .nil
          | succ n ih => simp only [List.replicate_succ, List.flatten_cons]; exact rs.append ih
        refine op_rep pins s σ H _ _ v u Q I rx ry ⟨a, _, vs, rfl, rfl, ea, by omega, by omega, ?_, fun p hp => post_new M (rr _) hp P⟩
        rw [← rs.length]; exact hc.2.2
      · exact P.elim
    · exact P.elim
  · exact P.elim
theorem flatEq_V {H : Hp} {π : List Addr} {x y : D} {vx vy : V} (Rx : Rep G H π x vx) (Ry : Rep G H π y vy) (fx : x.flat = true) (fy : y.flat = true) : eqV vy vx = flatEq y x := by
  cases Rx <;> first | (simp [D.flat] at fx; done) | (cases Ry <;> first | (simp [D.flat] at fy; done) | rfl)
theorem in_V {H : Hp} {π : List Addr} {x : D} {vx : V} (Rx : Rep G H π x vx) (fx : x.flat = true) : ∀ {ys : List D} {vs : List V}, Reps G H π ys vs → ys.all D.flat = true → vs.all flatV = true ∧ inV vx vs = ys.any fun z => flatEq z x
  | _, _, .nil, _ => ⟨rfl, rfl⟩
  | _, _, .cons a r, h => by
    simp only [List.all_cons, Bool.and_eq_true] at h
    obtain ⟨h1, h2⟩ := in_V Rx fx r h.2
    refine ⟨by simp [rep_flat a h.1, h1], ?_⟩
    unfold inV at h2 ⊢
    simp only [List.any_cons]
    rw [h2, flatEq_V Rx a fx h.1]
theorem z_in (hK : G.K = X.K) : OpR X (compareOp .In) (rA2 G W opIn) := by
  intro pins s σ H x y v u Q I rx ry ⟨σ', π, h, dx, dy, M, Rx, Ry, P⟩
  unfold opIn at P
  split at P
  · rename_i b hb
    have q := post_pure M (.bl _) P
    unfold inD at hb
    split at hb
    · rename_i xs hl
      split at hb
      · rename_i hf
        obtain ⟨a, vs, rfl, rs, sq⟩ := listOf_sq M Ry hl
        rw [hK] at sq
        obtain ⟨f1, f2⟩ := in_V Rx hf.1 rs hf.2
        refine op_in_seq pins s σ H _ _ v u Q I rx ry ⟨a, vs, rfl, sq, rep_flat Rx hf.1, f1, ?_⟩
        rw [f2]; simp only [Option.some.injEq] at hb; rw [hb]; exact q
      · cases hb
    · cases hb
  · exact P.elim
theorem z_notin (hK : G.K = X.K) : OpR X (compareOp .NotIn) (rA2 G W opNotin) := by
  intro pins s σ H x y v u Q I rx ry ⟨σ', π, h, dx, dy, M, Rx, Ry, P⟩
  unfold opNotin at P
  split at P
  · rename_i b hb
    have q := post_pure M (.bl _) P
    unfold inD at hb
    split at hb
    · rename_i xs hl
      split at hb
      · rename_i hf
        obtain ⟨a, vs, rfl, rs, sq⟩ := listOf_sq M Ry hl
        rw [hK] at sq
        obtain ⟨f1, f2⟩ := in_V Rx hf.1 rs hf.2
        refine op_notIn_seq pins s σ H _ _ v u Q I rx ry ⟨a, vs, rfl, sq, rep_flat Rx hf.1, f1, ?_⟩
        rw [f2]; simp only [Option.some.injEq] at hb; rw [hb]; exact q
      · cases hb
    · cases hb
  · exact P.elim

/-! ### built-ins -/
/-- what one argument's call wants -/
theorem rAn1 {f : List D → Hm → R} {g : D → Hm → R} {vs : List V} {H : Hp} {Q : VK} (hf : ∀ ds h, (∀ x, ds = [x] → False) → f ds h = .bad) (hg : ∀ x h, f [x] h = g x h) (a : rAn G W f vs H Q) : ∃ x, vs = [x] ∧ rA1 G W g x H Q := by
  obtain ⟨σ, π, h, ds, M, r, P⟩ := a
  by_cases q : ∃ x, ds = [x]
  · obtain ⟨x, rfl⟩ := q
    cases r with
    | cons r1 r2 => cases r2; rw [hg] at P; exact ⟨_, rfl, σ, π, h, x, M, r1, P⟩
  · rw [hf ds h fun x e => q ⟨x, e⟩] at P; exact P.elim
theorem rAn2 {f : List D → Hm → R} {g : D → D → Hm → R} {vs : List V} {H : Hp} {Q : VK} (hf : ∀ ds h, (∀ x y, ds = [x, y] → False) → f ds h = .bad) (hg : ∀ x y h, f [x, y] h = g x y h) (a : rAn G W f vs H Q) : ∃ x y, vs = [x, y] ∧ rA2 G W g x y H Q := by
  obtain ⟨σ, π, h, ds, M, r, P⟩ := a
  by_cases q : ∃ x y, ds = [x, y]
  · obtain ⟨x, y, rfl⟩ := q
    cases r with
    | cons r1 r2 => cases r2 with
      | cons r2 r3 => cases r3; rw [hg] at P; exact ⟨_, _, rfl, σ, π, h, x, y, M, r1, r2, P⟩
  · rw [hf ds h fun x y e => q ⟨x, y, e⟩] at P; exact P.elim
def Pm.one : Pm → Bool
  | .neg => true | .len => true | .abs => true | .maxl => true | .minl => true | .suml => true | .sorted => true | .list => true | .tuple => true
  | .int => true | .str => true | .pop => true | .reverse => true | .clear => true | .alll => true | .anyl => true | .sortr => true | .revl => true | .rangel => true
  | .part => true | .isint => true | .isbool => true | .isstr => true | .isnone => true | .istup => true | .islist => true | .isseq => true | _ => false
def Pm.two : Pm → Bool
  | .max2 => true | .min2 => true | .idx => true | .append => true | .popat => true | .count => true | .extend => true | .index => true | .maxd => true | _ => false
theorem evP1 {p : Pm} {ds : List D} {h : Hm} (hp : p.one = true) (q : ∀ x, ds = [x] → False) : evP p ds h = .bad := by
  match ds with
  | [] => rfl
  | [x] => exact (q x rfl).elim
  | [x, y] => cases p <;> first | rfl | cases hp
  | [x, y, z] => cases p <;> first | rfl | cases hp
  | _ :: _ :: _ :: _ :: _ => rfl
theorem evP2 {p : Pm} {ds : List D} {h : Hm} (hp : p.two = true) (q : ∀ x y, ds = [x, y] → False) : evP p ds h = .bad := by
  match ds with
  | [] => rfl
  | [x] => cases p <;> first | rfl | cases hp
  | [x, y] => exact (q x y rfl).elim
  | [x, y, z] => cases p <;> first | rfl | cases hp
  | _ :: _ :: _ :: _ :: _ => rfl
theorem c_len (hK : G.K = X.K) : CallR X (.builtin "len") (rAn G W (evP .len)) := by
  intro pins s σ H xs us Q I r aa
  obtain ⟨x, rfl, σ', π, h, d, M, rd, P⟩ := rAn1 (g := opLen) (fun ds h q => evP1 rfl q) (fun _ _ => rfl) aa
  unfold opLen at P
  split at P
  · split at P
    · rename_i hz
      cases rep_str rd
      exact call_len_str pins s σ H _ us Q I r ⟨_, rfl, hz, post_pure M (.int _) P⟩
    · exact P.elim
  · split at P
    · rename_i xs hl
      obtain ⟨a, vs, rfl, rs, sq⟩ := listOf_sq M rd hl
      rw [hK] at sq
      exact call_len_seq pins s σ H _ us Q I r ⟨a, vs, rfl, sq, by rw [← rs.length]; exact post_pure M (.int _) P⟩
    · exact P.elim
theorem c_abs : CallR X (.builtin "abs") (rAn G W (evP .abs)) := by
  intro pins s σ H xs us Q I r aa
  obtain ⟨x, rfl, σ', π, h, d, M, rd, P⟩ := rAn1 (g := opAbs) (fun ds h q => evP1 rfl q) (fun _ _ => rfl) aa
  unfold opAbs at P
  split at P
  · cases rep_int rd
    exact call_abs pins s σ H _ us Q I r ⟨_, rfl, post_pure M (.int _) P⟩
  · exact P.elim
theorem c_int : CallR X (.type "int") (rAn G W (evP .int)) := by
  intro pins s σ H xs us Q I r aa
  obtain ⟨x, rfl, σ', π, h, d, M, rd, P⟩ := rAn1 (g := opInt) (fun ds h q => evP1 rfl q) (fun _ _ => rfl) aa
  unfold opInt at P
  split at P
  · cases rep_int rd
    exact call_int1 pins s σ H _ us Q I r (.inl ⟨_, rfl, post_pure M (.int _) P⟩)
  · cases rep_bl rd
    exact call_int1 pins s σ H _ us Q I r (.inr ⟨_, rfl, post_pure M (.int _) P⟩)
  · exact P.elim
theorem c_list (hK : G.K = X.K) : CallR X (.type "list") (rAn G W (evP .list)) := by
  intro pins s σ H xs us Q I r aa
  obtain ⟨x, rfl, σ', π, h, d, M, rd, P⟩ := rAn1 (g := opList) (fun ds h q => evP1 rfl q) (fun _ _ => rfl) aa
  unfold opList at P
  split at P
  · rename_i xs hl
    obtain ⟨a, vs, rfl, rs, sq⟩ := listOf_sq M rd hl
    rw [hK] at sq
    exact call_list_of pins s σ H _ us Q I r ⟨a, vs, rfl, sq, fun l hl => post_new M rs hl P⟩
  · exact P.elim
/-- tuple(x), the new one known -/
theorem c_tuple (hK : G.K = X.K) : CallR X (.type "tuple") (rAn G W (evP .tuple)) := by
  intro pins s σ H xs us Q I r aa
  obtain ⟨x, rfl, σ', π, h, d, M, rd, P⟩ := rAn1 (g := opTuple) (fun ds h q => evP1 rfl q) (fun _ _ => rfl) aa
  unfold opTuple at P
  split at P
  · rename_i xs hl
    obtain ⟨a, vs, rfl, rs, kd⟩ := listOf_ok M rd hl
    rw [hK] at kd
    have mk : SqL X.K H a vs → wpAny (model X.prog X.w) X.A (call (.type "tuple") us) (EP X pins σ Q) X.xe s := fun hq => by
      obtain ⟨u, rfl, rx⟩ := vals1 r
      cases rx
      obtain ⟨its, r', pl, hz⟩ := I.list hq
      have hlen := r'.length
      refine call_tuple_list pl.isList (fun h' kp => ?_) (by simp only [List.size_toArray] <;> omega)
      have I1 : Inv X pins σ H { s with heap := h' } := I.kept (t' := s.toks) kp
      have I2 : Inv X pins σ (upd H h'.objs.size (.frz _ (.tup vs))) { s with heap := h'.push { cls := .type "tuple", data := .seq its.toArray } } :=
        I1.laid (t' := s.toks) (fun b o e => Heap.get?_push_of_some _ e) (Nat.le_refl _) ⟨Heap.get?_push_size _ rfl, hz, its, r', IsTup.new _ _⟩
      exact ⟨.ref h'.objs.size, _, I2, rfl, post_tup M rs (I1.hok.fresh (Nat.le_refl _)) rfl rfl P⟩
    rcases kd with ⟨rfl, t⟩ | ⟨t, _⟩ | ⟨n, _, _, _, t⟩
    · exact call_tuple_of pins s σ H _ us Q I r ⟨a, vs, rfl, .inr ⟨t.sqT, post_pure M rd P⟩⟩
    · exact mk t.sq
    · exact mk (.of t)
  · exact P.elim
theorem alikeB_ok {xs : List PyData} (h : alikeB xs = true) : PySem.W.AlikeAll xs := by
  unfold alikeB at h
  simp only [Bool.and_eq_true, List.all_eq_true] at h
  exact ⟨fun x hx y hy => h.1 x hx y hy, fun x hx => dSome_ne (h.2 x hx)⟩
theorem opMax2_cases {x y : D} {h : Hm} {r : Z.R} (e : opMax2 x y h = r) : (∃ i j, x = .int i ∧ y = .int j ∧ r = .ok (.int (if j > i then j else i)) h) ∨ r = .bad ∨
    ∃ a b, toP h deepP x = some a ∧ toP h deepP y = some b ∧ alikeB [a, b] = true ∧ PyData.depthAll [a, b] ≤ 60 ∧ r = .ok (if PySem.W.dataLt a b = true then y else x) h := by
  unfold opMax2 at e
  split at e
  · exact .inl ⟨_, _, rfl, rfl, e.symm⟩
  · split at e
    · rename_i a b e1 e2
      split at e
      · rename_i hd; exact .inr (.inr ⟨a, b, e1, e2, hd.1, hd.2, e.symm⟩)
      · exact .inr (.inl e.symm)
    · exact .inr (.inl e.symm)
theorem c_max2 (hK : G.K = X.K) (hu : X.A.units + 64 < cLine) (hc : X.calm = true) : CallR X (.builtin "max") (rAn G W (evP .max2)) := by
  intro pins s σ H xs us Q I r aa
  obtain ⟨x, y, rfl, σ', π, h, dx, dy, M, rx, ry, P⟩ := rAn2 (g := opMax2) (fun ds h q => evP2 rfl q) (fun _ _ _ => rfl) aa
  rcases opMax2_cases (rfl : opMax2 dx dy h = _) with ⟨i, j, rfl, rfl, e⟩ | e | ⟨a, b, e1, e2, k1, k2, e⟩
  · rw [e] at P
    cases rep_int rx; cases rep_int ry
    exact call_max2 hc pins s σ H _ us Q I r ⟨_, _, rfl, post_pure M (.int _) P⟩
  · rw [e] at P; exact P.elim
  · rw [e] at P
    obtain ⟨u, v, rfl, r1, r2⟩ := vals2 r
    have d1 := toP_dp M _ _ _ _ e1 rx
    have d2 := toP_dp M _ _ _ _ e2 ry
    rw [hK] at d1 d2
    obtain ⟨as, q⟩ := Dp.readsAll I [a, b] [x, y] [u, v] (.cons d1 (.cons d2 .nil)) r
    refine ZY.max_two_data (I.ok.hd hc) q (alikeB_ok k1) (by omega) fun h' tk k => ?_
    by_cases z : PySem.W.dataLt a b = true
    · rw [if_pos z] at P ⊢
      exact ⟨y, H, I.kept k, r2, post_pure M ry P⟩
    · rw [if_neg z] at P ⊢
      exact ⟨x, H, I.kept k, r1, post_pure M rx P⟩
theorem c_min2 (hc : X.calm = true) : CallR X (.builtin "min") (rAn G W (evP .min2)) := by
  intro pins s σ H xs us Q I r aa
  obtain ⟨x, y, rfl, σ', π, h, dx, dy, M, rx, ry, P⟩ := rAn2 (g := opMin2) (fun ds h q => evP2 rfl q) (fun _ _ _ => rfl) aa
  unfold opMin2 at P
  split at P
  · cases rep_int rx; cases rep_int ry
    exact call_min2 hc pins s σ H _ us Q I r ⟨_, _, rfl, post_pure M (.int _) P⟩
  · exact P.elim
end
end Z

set_option Elab.async false
set_option linter.all false
set_option maxRecDepth 100000
set_option maxHeartbeats 4000000
namespace Z
open PySem PySem.Spec PyProof.Rows L2
section
variable {X : Cx} {G : Gx} {W : WX}

/-! ### sorting -/
theorem insI_perm (x : Int) : ∀ l, (insI x l).Perm (x :: l)
  | [] => .refl _
  | y :: r => by
    unfold insI
    split
    · exact .refl _
    · exact ((insI_perm x r).cons y).trans (.swap x y r)
theorem sortI_perm : ∀ l, (sortI l).Perm l
  | [] => .refl _
  | x :: r => (insI_perm x (sortI r)).trans ((sortI_perm r).cons x)
theorem insI_sorted (x : Int) : ∀ l, l.Pairwise (· ≤ ·) → (insI x l).Pairwise (· ≤ ·)
  | [], _ => by simp [insI]
  | y :: r, h => by
    rw [List.pairwise_cons] at h
    unfold insI
    split
    · rename_i hxy
      rw [List.pairwise_cons]
      refine ⟨fun z hz => ?_, List.pairwise_cons.mpr h⟩
      rcases List.mem_cons.mp hz with rfl | hz
      · exact hxy
      · exact Int.le_trans hxy (h.1 z hz)
    · rename_i hxy
      rw [List.pairwise_cons]
      refine ⟨fun z hz => ?_, insI_sorted x r h.2⟩
      rcases List.mem_cons.mp ((insI_perm x r).mem_iff.mp hz) with rfl | hz
      · omega
      · exact h.1 z hz
theorem sortI_sorted : ∀ l, (sortI l).Pairwise (· ≤ ·)
  | [] => .nil
  | x :: r => insI_sorted x _ (sortI_sorted r)

/-! ### lists of ints, as values -/
theorem lstOf_sq {H : Hp} {π : List Addr} {h : Hm} {x : D} {v : V} {xs : List D} (M : HmOk G H π h) (r : Rep G H π x v) (e : lstOf h x = some xs) :
    ∃ a vs, v = .ref a ∧ Reps G H π xs vs ∧ SqL G.K H a vs := by
  have e' : listOf h x = some xs := by
    unfold lstOf at e
    split at e
    · cases e
    · exact e
  obtain ⟨a, vs, e1, e2, e3⟩ := listOf_ok M r e'
  refine ⟨a, vs, e1, e2, ?_⟩
  rcases e3 with ⟨rfl, t⟩ | ⟨t, _⟩ | ⟨n, _, _, _, t⟩
  · simp [lstOf] at e
  · exact t.sq
  · exact .of t
theorem ints_sq {H : Hp} {π : List Addr} {h : Hm} {x : D} {v : V} {ns : List Int} (M : HmOk G H π h) (r : Rep G H π x v) (e : (lstOf h x).bind intsOf = some ns) :
    ∃ a, v = .ref a ∧ SqL G.K H a (ns.map V.int) := by
  cases q : lstOf h x with
  | none => rw [q] at e; cases e
  | some xs =>
    rw [q] at e
    have e2 := intsOf_eq (show intsOf xs = some ns from e)
    obtain ⟨a, vs, e3, e4, e5⟩ := lstOf_sq M r q
    subst e2
    rw [Reps.of_ints e4] at e5
    exact ⟨a, e3, e5⟩
theorem c_sorted (hK : G.K = X.K) : CallR X (.builtin "sorted") (rAn G W (evP .sorted)) := by
  intro pins s σ H xs us Q I r aa
  obtain ⟨x, rfl, σ', π, h, d, M, rd, P⟩ := rAn1 (g := opSorted) (fun ds h q => evP1 rfl q) (fun _ _ => rfl) aa
  unfold opSorted at P
  split at P
  · rename_i ns hl
    obtain ⟨a, rfl, sq⟩ := ints_sq M rd hl
    rw [hK] at sq
    refine cr_sortedI pins s σ H _ us Q I r ⟨a, ns, rfl, sq, fun ns' p h1 h2 h3 => ?_⟩
    have e : ns' = sortI ns := PySem.W.ksm_same (h1.trans (sortI_perm ns).symm) h2 (sortI_sorted ns)
    rw [e]
    exact post_new M (Reps.ints _) h3 P
  · exact P.elim
theorem ints_sqA {H : Hp} {π : List Addr} {h : Hm} {x : D} {v : V} {ns : List Int} (M : HmOk G H π h) (r : Rep G H π x v) (e : (listOf h x).bind intsOf = some ns) :
    ∃ a, v = .ref a ∧ (SqL G.K H a (ns.map V.int) ∨ SqT G.K H a (ns.map V.int)) := by
  cases q : listOf h x with
  | none => rw [q] at e; cases e
  | some xs =>
    rw [q] at e
    have e2 := intsOf_eq (show intsOf xs = some ns from e)
    obtain ⟨a, vs, e3, e4, e5⟩ := listOf_sq M r q
    subst e2
    rw [Reps.of_ints e4] at e5
    exact ⟨a, e3, e5⟩
theorem c_sum (hK : G.K = X.K) (hc : X.calm = true) : CallR X (.builtin "sum") (rAn G W (evP .suml)) := by
  intro pins s σ H xs us Q I r aa
  obtain ⟨x, rfl, σ', π, h, d, M, rd, P⟩ := rAn1 (g := opSum) (fun ds h q => evP1 rfl q) (fun _ _ => rfl) aa
  unfold opSum at P
  split at P
  · rename_i ns hl
    obtain ⟨a, rfl, sq⟩ := ints_sqA M rd hl
    rw [hK] at sq
    rcases sq with sq | sq
    · exact cr_sum hc pins s σ H _ us Q I r ⟨a, ns, rfl, sq, post_pure M (.int _) P⟩
    · obtain ⟨its, rv, p, hz⟩ := I.tuple sq
      rw [Vals.ref1 r]
      exact ZY.sum_tup (I.ok.hd hc) p rv.ints fun h' tk t' k => ⟨.int _, H, I.kept k, ⟨_, rfl⟩, post_pure M (.int _) P⟩
  · exact P.elim
theorem maxI_fold : ∀ (l : List Int) (m : Int), maxI l m = l.foldl max m
  | [], m => rfl
  | x :: r, m => by
    show maxI r _ = r.foldl max (max m x)
    rw [maxI_fold]
    congr 1
    by_cases h : x > m
    · rw [if_pos h]; omega
    · rw [if_neg h]; omega
theorem minI_fold : ∀ (l : List Int) (m : Int), minI l m = l.foldl min m
  | [], m => rfl
  | x :: r, m => by
    show minI r _ = r.foldl min (min m x)
    rw [minI_fold]
    congr 1
    by_cases h : x < m
    · rw [if_pos h]; omega
    · rw [if_neg h]; omega
theorem maxI_ok : ∀ (l : List Int) (m : Int), (maxI l m = m ∨ maxI l m ∈ l) ∧ m ≤ maxI l m ∧ ∀ y ∈ l, y ≤ maxI l m
  | [], m => ⟨.inl rfl, Int.le_refl _, fun _ h => by cases h⟩
  | x :: r, m => by
    obtain ⟨h1, h2, h3⟩ := maxI_ok r (if x > m then x else m)
    have hm : m ≤ (if x > m then x else m) := by split <;> omega
    have hx : x ≤ (if x > m then x else m) := by split <;> omega
    refine ⟨?_, Int.le_trans hm h2, fun y hy => ?_⟩
    · show maxI r _ = m ∨ maxI r _ ∈ x :: r
      rcases h1 with h1 | h1
      · rw [h1]
        split
        · exact .inr (by simp)
        · exact .inl rfl
      · exact .inr (List.mem_cons_of_mem _ h1)
    · rcases List.mem_cons.mp hy with rfl | hy
      · exact Int.le_trans hx h2
      · exact h3 y hy
theorem minI_ok : ∀ (l : List Int) (m : Int), (minI l m = m ∨ minI l m ∈ l) ∧ minI l m ≤ m ∧ ∀ y ∈ l, minI l m ≤ y
  | [], m => ⟨.inl rfl, Int.le_refl _, fun _ h => by cases h⟩
  | x :: r, m => by
    obtain ⟨h1, h2, h3⟩ := minI_ok r (if x < m then x else m)
    have hm : (if x < m then x else m) ≤ m := by split <;> omega
    have hx : (if x < m then x else m) ≤ x := by split <;> omega
    refine ⟨?_, Int.le_trans h2 hm, fun y hy => ?_⟩
    · show minI r _ = m ∨ minI r _ ∈ x :: r
      rcases h1 with h1 | h1
      · rw [h1]
        split
        · exact .inr (by simp)
        · exact .inl rfl
      · exact .inr (List.mem_cons_of_mem _ h1)
    · rcases List.mem_cons.mp hy with rfl | hy
      · exact Int.le_trans h2 hx
      · exact h3 y hy
/-! tuples of whole numbers, the least and the greatest -/
theorem tupsOf_eq : ∀ {xs : List D} {l : List (List Int)}, tupsOf xs = some l → xs = l.map fun ns => .tup (ns.map .int)
  | [], l, e => by simp [tupsOf] at e; subst e; rfl
  | x :: r, l, e => by
    cases x <;> simp only [tupsOf, reduceCtorEq] at e
    rename_i ys
    split at e
    · rename_i ns l' e1 e2
      simp only [Option.some.injEq] at e
      subst e
      rw [intsOf_eq e1, tupsOf_eq e2]; rfl
    · cases e
theorem dp_ints {K : PySem.W.Frag} {H : Hp} : ∀ ns : List Int, DpAll K H (ns.map V.int) (ns.map PyData.int)
  | [] => .nil
  | n :: r => .cons (.int n) (dp_ints r)
theorem tups_dp {H : Hp} {π : List Addr} : ∀ {l : List (List Int)} {vs : List V}, Reps G H π (l.map fun ns => D.tup (ns.map .int)) vs → DpAll G.K H vs (l.map pTup)
  | [], _, .nil => .nil
  | ns :: l, _, .cons a r => by
    refine .cons ?_ (tups_dp r)
    obtain ⟨b, us, rfl, t, rs⟩ := rep_tup a
    rw [Reps.of_ints rs] at t
    exact .tup t.sqT (dp_ints ns)
theorem alike_pTup (a b : List Int) : PySem.W.alike (pTup a) (pTup b) = true := by
  unfold pTup
  rw [PySem.W.alike]
  exact PySem.W.alike_ints a b
theorem alike_tups (l : List (List Int)) : PySem.W.AlikeAll (l.map pTup) := by
  refine ⟨fun x hx y hy => ?_, fun x hx => ?_⟩
  · obtain ⟨a, _, rfl⟩ := List.mem_map.mp hx
    obtain ⟨b, _, rfl⟩ := List.mem_map.mp hy
    exact alike_pTup a b
  · obtain ⟨i, _, rfl⟩ := List.mem_map.mp hx
    intro e; cases e
theorem depth_tups : ∀ l : List (List Int), PyData.depthAll (l.map pTup) ≤ 1
  | [] => by simp [PyData.depthAll]
  | a :: l => by
    have := depth_tups l
    have e : (pTup a).depth = 1 := by
      unfold pTup
      rw [PyData.depth, PySem.W.depth_ints]
    rw [List.map_cons, PyData.depthAll, e]
    omega
theorem pTup_inj {a b : List Int} (h : pTup a = pTup b) : a = b := by
  unfold pTup at h
  injection h with h
  exact List.map_inj_right (fun x y e => by injection e) |>.mp h
theorem minT_eq (x : List Int) (l : List (List Int)) : PySem.W.minD (pTup x) (l.map pTup) = pTup (minT x l) := by
  unfold PySem.W.minD minT
  induction l generalizing x with
  | nil => rfl
  | cons y r ih =>
    rw [List.map_cons, List.foldl_cons, List.foldl_cons, ← ih]
    congr 1
    split <;> rfl
theorem maxT_eq (x : List Int) (l : List (List Int)) : PySem.W.maxD (pTup x) (l.map pTup) = pTup (maxT x l) := by
  unfold PySem.W.maxD maxT
  induction l generalizing x with
  | nil => rfl
  | cons y r ih =>
    rw [List.map_cons, List.foldl_cons, List.foldl_cons, ← ih]
    congr 1
    split <;> rfl
/-- the tuple that reads as m is the one that is meant -/
theorem tup_found {pins : List (Addr × Obj)} {s : Shared} {σ : L2.St} {H : Hp} {π : List Addr} {h' : Heap} {l : List (List Int)} {vs : List V} {its : List Value} {m : List Int} {i : Nat} {v : Value} {bs : List Addr} (hK : G.K = X.K) (I : L2.Inv X pins σ H s) (rs : Reps G H π (l.map fun ns => D.tup (ns.map .int)) vs) (rv : Vals vs its)
    (hv : its[i]? = some v) (k : ∀ b o, s.heap.get? b = some o → h'.get? b = some o) (q : Reads h' v (pTup m) bs) : ∃ vx, RelV vx v ∧ Rep G H π (.tup (m.map .int)) vx := by
  have hi : i < vs.length := by
    have := (List.getElem?_eq_some_iff.mp hv).1
    rw [rv.length]; exact this
  obtain ⟨u, hu, ru⟩ := rv.get (List.getElem?_eq_getElem hi)
  rw [hv] at hu; cases hu
  obtain ⟨d, hd, rd⟩ := rs.get' (List.getElem?_eq_getElem hi)
  rw [List.getElem?_map] at hd
  obtain ⟨ns, hns, rfl⟩ := Option.map_eq_some_iff.mp hd
  refine ⟨vs[i], ru, ?_⟩
  obtain ⟨b, us, e, t, rs2⟩ := rep_tup rd
  have t2 := t
  rw [Reps.of_ints rs2, hK] at t2
  obtain ⟨as, r1⟩ := Dp.reads I (pTup ns) vs[i] v (by rw [e]; exact .tup t2.sqT (dp_ints ns)) ru
  have r2 := PySem.W.reads_keeps k r1
  have e3 := PySem.W.alike_unique _ _ v _ _ (alike_pTup ns m) r2 q
  rw [← pTup_inj e3]
  exact rd
theorem c_max (hK : G.K = X.K) (hu : X.A.units + 64 < cLine) (hc : X.calm = true) : CallR X (.builtin "max") (rAn G W (evP .maxl)) := by
  intro pins s σ H xs us Q I r aa
  obtain ⟨x, rfl, σ', π, h, d, M, rd, P⟩ := rAn1 (g := opMaxl) (fun ds h q => evP1 rfl q) (fun _ _ => rfl) aa
  unfold opMaxl at P
  split at P
  · rename_i n ns hl
    obtain ⟨a, rfl, sq⟩ := ints_sqA M rd hl
    rw [hK] at sq
    rcases sq with sq | sq
    · refine cr_max hc pins s σ H _ us Q I r ⟨a, n :: ns, rfl, sq, by simp, fun m h1 h2 => ?_⟩
      obtain ⟨k1, k2, k3⟩ := maxI_ok ns n
      have e : m = maxI ns n := by
        refine Int.le_antisymm ?_ (h2 _ ?_)
        · rcases List.mem_cons.mp h1 with rfl | h1
          · exact k2
          · exact k3 m h1
        · rcases k1 with k1 | k1
          · rw [k1]; exact List.mem_cons_self
          · exact List.mem_cons_of_mem _ k1
      rw [e]
      exact post_pure M (.int _) P
    · obtain ⟨its, rv, p, hz⟩ := I.tuple sq
      rw [Vals.ref1 r]
      rw [maxI_fold] at P
      exact ZY.max_tup (I.ok.hd hc) p rv.ints hu fun h' tk t' k => ⟨.int _, H, I.kept k, ⟨_, rfl⟩, post_pure M (.int _) P⟩
  · split at P
    · rename_i n ns hl
      cases q : lstOf h d with
      | none => rw [q] at hl; cases hl
      | some zs =>
        rw [q] at hl
        have e2 := tupsOf_eq (show tupsOf zs = some (n :: ns) from hl)
        obtain ⟨a, vs, rfl, rs, sq⟩ := lstOf_sq M rd q
        subst e2
        rw [hK] at sq
        obtain ⟨its, rv, p, hz⟩ := I.list sq
        have dp := tups_dp rs
        rw [hK] at dp
        obtain ⟨as, ra⟩ := Dp.readsAll I _ vs its dp rv
        rw [Vals.ref1 r]
        refine PySem.W.max_list_data (x := pTup n) (xs := ns.map pTup) (I.ok.hd hc) p.isList (by simpa using ra) (alike_tups (n :: ns)) ?_ fun i v h' tk bs hv rr k => ?_
        · have := depth_tups (n :: ns)
          rw [show pTup n :: ns.map pTup = (n :: ns).map pTup from rfl]
          omega
        · rw [maxT_eq] at rr
          obtain ⟨vx, rx, rp⟩ := tup_found hK I rs rv (by simpa using hv) k rr
          exact ⟨vx, H, I.kept k, rx, post_pure M rp P⟩
    · exact P.elim
theorem c_min (hK : G.K = X.K) (hu : X.A.units + 64 < cLine) (hc : X.calm = true) : CallR X (.builtin "min") (rAn G W (evP .minl)) := by
  intro pins s σ H xs us Q I r aa
  obtain ⟨x, rfl, σ', π, h, d, M, rd, P⟩ := rAn1 (g := opMinl) (fun ds h q => evP1 rfl q) (fun _ _ => rfl) aa
  unfold opMinl at P
  split at P
  · rename_i n ns hl
    obtain ⟨a, rfl, sq⟩ := ints_sqA M rd hl
    rw [hK] at sq
    rcases sq with sq | sq
    · refine cr_min hc pins s σ H _ us Q I r ⟨a, n :: ns, rfl, sq, by simp, fun m h1 h2 => ?_⟩
      obtain ⟨k1, k2, k3⟩ := minI_ok ns n
      have e : m = minI ns n := by
        refine Int.le_antisymm (h2 _ ?_) ?_
        · rcases k1 with k1 | k1
          · rw [k1]; exact List.mem_cons_self
          · exact List.mem_cons_of_mem _ k1
        · rcases List.mem_cons.mp h1 with rfl | h1
          · exact k2
          · exact k3 m h1
      rw [e]
      exact post_pure M (.int _) P
    · obtain ⟨its, rv, p, hz⟩ := I.tuple sq
      rw [Vals.ref1 r]
      rw [minI_fold] at P
      exact ZY.min_tup (I.ok.hd hc) p rv.ints hu fun h' tk t' k => ⟨.int _, H, I.kept k, ⟨_, rfl⟩, post_pure M (.int _) P⟩
  · split at P
    · rename_i n ns hl
      cases q : lstOf h d with
      | none => rw [q] at hl; cases hl
      | some zs =>
        rw [q] at hl
        have e2 := tupsOf_eq (show tupsOf zs = some (n :: ns) from hl)
        obtain ⟨a, vs, rfl, rs, sq⟩ := lstOf_sq M rd q
        subst e2
        rw [hK] at sq
        obtain ⟨its, rv, p, hz⟩ := I.list sq
        have dp := tups_dp rs
        rw [hK] at dp
        obtain ⟨as, ra⟩ := Dp.readsAll I _ vs its dp rv
        rw [Vals.ref1 r]
        refine PySem.W.min_list_data (x := pTup n) (xs := ns.map pTup) (I.ok.hd hc) p.isList (by simpa using ra) (alike_tups (n :: ns)) ?_ fun i v h' tk bs hv rr k => ?_
        · have := depth_tups (n :: ns)
          rw [show pTup n :: ns.map pTup = (n :: ns).map pTup from rfl]
          omega
        · rw [minT_eq] at rr
          obtain ⟨vx, rx, rp⟩ := tup_found hK I rs rv (by simpa using hv) k rr
          exact ⟨vx, H, I.kept k, rx, post_pure M rp P⟩
    · exact P.elim
theorem blsOf_eq : ∀ {xs : List D} {bs : List Bool}, blsOf xs = some bs → xs = bs.map .bl
  | [], bs, e => by simp [blsOf] at e; subst e; rfl
  | x :: r, bs, e => by
    cases x <;> simp only [blsOf, reduceCtorEq, Option.map_eq_some_iff] at e
    obtain ⟨cs, e1, rfl⟩ := e
    rw [blsOf_eq e1]; rfl
theorem Reps.of_bls {H : Hp} {π : List Addr} : ∀ {bs : List Bool} {vs : List V}, Reps G H π (bs.map .bl) vs → vs = bs.map .bl
  | [], _, .nil => rfl
  | n :: r, _, .cons a s => by
    cases a; rw [Reps.of_bls s]; rfl
theorem bls_sq {H : Hp} {π : List Addr} {h : Hm} {x : D} {v : V} {bs : List Bool} (M : HmOk G H π h) (r : Rep G H π x v) (e : (lstOf h x).bind blsOf = some bs) : ∃ a, v = .ref a ∧ SqL G.K H a (bs.map V.bl) := by
  cases q : lstOf h x with
  | none => rw [q] at e; cases e
  | some xs =>
    rw [q] at e
    have e2 := blsOf_eq (show blsOf xs = some bs from e)
    obtain ⟨a, vs, e3, e4, e5⟩ := lstOf_sq M r q
    subst e2
    rw [Reps.of_bls e4] at e5
    exact ⟨a, e3, e5⟩
theorem c_all (hK : G.K = X.K) (hc : X.calm = true) : CallR X (.builtin "all") (rAn G W (evP .alll)) := by
  intro pins s σ H xs us Q I r aa
  obtain ⟨x, rfl, σ', π, h, d, M, rd, P⟩ := rAn1 (g := opAll) (fun ds h q => evP1 rfl q) (fun _ _ => rfl) aa
  unfold opAll at P
  split at P
  · rename_i bs hl
    obtain ⟨a, rfl, sq⟩ := bls_sq M rd hl
    rw [hK] at sq
    exact cr_all hc pins s σ H _ us Q I r ⟨a, bs, rfl, sq, post_pure M (.bl _) P⟩
  · exact P.elim
theorem c_any (hK : G.K = X.K) (hc : X.calm = true) : CallR X (.builtin "any") (rAn G W (evP .anyl)) := by
  intro pins s σ H xs us Q I r aa
  obtain ⟨x, rfl, σ', π, h, d, M, rd, P⟩ := rAn1 (g := opAny) (fun ds h q => evP1 rfl q) (fun _ _ => rfl) aa
  unfold opAny at P
  split at P
  · rename_i bs hl
    obtain ⟨a, rfl, sq⟩ := bls_sq M rd hl
    rw [hK] at sq
    exact cr_any hc pins s σ H _ us Q I r ⟨a, bs, rfl, sq, post_pure M (.bl _) P⟩
  · exact P.elim

/-! ### subscripts -/
theorem at_rel {H : Hp} {π : List Addr} {ds : List D} {vs : List V} {i : Int} {d : D} (r : Reps G H π ds vs) (e : atD ds i = some d) : ∃ v, atI vs i = some v ∧ Rep G H π d v := by
  unfold atD at e
  unfold atI
  rw [← r.length]
  cases q : ixN ds.length i with
  | none => rw [q] at e; cases e
  | some j =>
    rw [q] at e
    exact r.get (show ds[j]? = some d from e)
theorem z_idx (hK : G.K = X.K) : IxR X (rA2 G W opIdx) := by
  intro value slice pins s σ H x y v u Q I rx ry ⟨σ', π, h, dx, dy, M, Rx, Ry, P⟩ hs
  unfold opIdx at P
  split at P
  · cases rep_int Ry
    split at P
    · split at P
      · rename_i hz
        split at P
        · rename_i c hc
          cases rep_str Rx
          exact ix_str value slice pins s σ H _ _ v u Q I rx ry ⟨_, _, c, rfl, rfl, hz, hc, post_pure M (.str _) P⟩ hs
        · exact P.elim
      · exact P.elim
    · split at P
      · rename_i xs hl
        split at P
        · rename_i d hd
          obtain ⟨a, vs, rfl, rs, sq⟩ := listOf_sq M Rx hl
          rw [hK] at sq
          obtain ⟨w, h1, h2⟩ := at_rel rs hd
          rcases sq with sq | sq
          · exact ix_list value slice pins s σ H _ _ v u Q I rx ry ⟨a, vs, _, w, rfl, rfl, sq, h1, post_pure M h2 P⟩ hs
          · exact ix_tup value slice pins s σ H _ _ v u Q I rx ry ⟨a, vs, _, w, rfl, rfl, sq, h1, post_pure M h2 P⟩ hs
        · exact P.elim
      · exact P.elim
  · exact P.elim
theorem cut_rel {H : Hp} {π : List Addr} {ds : List D} {vs : List V} {lo hi : Option Int} (r : Reps G H π ds vs) : Reps G H π (cutD ds lo hi) (cutV vs lo hi) := by
  unfold cutD cutV
  rw [← r.length]
  exact (r.drop _).take _
/-- a slice, by its parts -/
def rSl (G : Gx) (W : WX) : V → Option Int → Option Int → Hp → VK → Prop := fun vx lo hi H Q => ∃ σ π h x dl dh, HmOk G H π h ∧ Rep G H π x vx ∧ partOf dl = some lo ∧ partOf dh = some hi ∧ Post G W σ H π (opSlice x dl dh h) fun _ _ v H' _ => Q v H'
theorem z_slice (hK : G.K = X.K) : SlR X (rSl G W) := by
  intro pins s σ H x v vl vu lo hi sl Q I rx hs pl pu ⟨σ', π, h, dx, dl, dh, M, Rx, el, eh, P⟩
  unfold opSlice at P
  rw [el, eh] at P
  simp only at P
  split at P
  · rename_i xs
    obtain ⟨a, vs, rfl, t, rs⟩ := rep_tup Rx
    rw [hK] at t
    cases rx
    obtain ⟨its, r, ht, hz⟩ := I.tuple t.sqT
    have hlen : its.toArray.size = vs.length := by rw [List.size_toArray]; exact r.length.symm
    refine ⟨"tuple", _, PyProof.Rows.slot_tuple_getitem.lookup, ht.typeIs, ?_⟩
    by_cases hw : HT.sIx vs.length 0 lo = 0 ∧ HT.sIx vs.length vs.length hi = vs.length
    · have ec : cutD xs lo hi = xs := by
        unfold cutD
        rw [rs.length, hw.1, hw.2, List.drop_zero, Nat.sub_zero, ← rs.length, List.take_length]
      rw [ec] at P
      exact L2.getItem_tuple_whole ht hs pl pu (by rw [hlen]; exact hw) ⟨.ref a, H, I, rfl, post_pure M Rx P⟩
    · refine HT.getItem_tuple_cut ht hs pl pu (by rw [hlen]; exact hw) ?_ (by rw [hlen]; exact hz)
      rw [hlen]
      refine ⟨.ref s.heap.objs.size, _, I.laid (t' := s.toks) (o := .frz _ (.tup (cutV vs lo hi))) (fun b ob q => Heap.get?_push_of_some _ q) (Nat.le_refl _) ⟨Heap.get?_push_size _ rfl, ?_⟩, rfl, post_tup M (cut_rel rs) (I.hok.fresh (Nat.le_refl _)) rfl rfl P⟩
      exact ⟨Nat.le_trans (cutV_length vs lo hi) hz, _, (r.drop (HT.sIx vs.length 0 lo)).take (HT.sIx vs.length vs.length hi - HT.sIx vs.length 0 lo), IsTup.new _ _⟩
  · exact P.elim
  · rename_i hnt hns
    split at P
    · rename_i xs hl
      have hl' : lstOf h dx = some xs := by
        unfold lstOf
        split
        · rename_i ys; exact (hnt ys rfl).elim
        · exact hl
      obtain ⟨a, vs, rfl, rs, sq⟩ := lstOf_sq M Rx hl'
      rw [hK] at sq
      exact sl_list pins s σ H _ v vl vu lo hi sl Q I rx hs pl pu ⟨a, vs, rfl, sq, fun p hp => post_new M (cut_rel rs) hp P⟩
    · exact P.elim

/-! ### methods of built-in types -/
/-- the object's type is T, and it has no dict -/
def TyOk (X : Cx) (x : V) (H : Hp) (T : String) : Prop := ∀ (pins : List (Addr × Obj)) (s : Shared) (σ : L2.St) (v : Value), Inv X pins σ H s → RelV x v → s.TypeIs v T ∧ ∀ a, v = .ref a → ∃ ob, s.heap.get? a = some ob ∧ ob.dict = none
theorem tyOk_of {x : V} {H : Hp} {T : String} (h : tyV X.K T x H) : TyOk X x H T := fun pins s σ v I r => tyV_is I r h
theorem tyOk_tup {a : Addr} {vs : List V} {H : Hp} (h : TupF X.K H a vs) : TyOk X (.ref a) H "tuple" := fun pins s σ v I r => by
  cases r
  rcases h with ⟨o, e, hc, hd⟩ | ⟨o, its, n, hk, hc, hd, _⟩
  · obtain ⟨g, _⟩ := I.hok a _ e
    exact ⟨⟨o, g, hc⟩, fun b q => by cases q; exact ⟨o, g, hd⟩⟩
  · exact ⟨⟨o, I.kIn a o hk, hc⟩, fun b q => by cases q; exact ⟨o, I.kIn a o hk, hd⟩⟩
/-- the method that a receiver has by this name: what its call wants -/
def Recv (X : Cx) (x : V) (H : Hp) (name : Str) (r : V → List V → Hp → VK → Prop) : Prop :=
  ∃ T id, PlainAttrs T ∧ Slot T name id ∧ typeOf (.builtin id) = pure (.type "method_descriptor") ∧ MtR X id r ∧ TyOk X x H T
def tMt (X : Cx) (name : Str) (to : TE) (t : TA) : TE := fun σ H Q => to σ H fun x H1 => ∃ r, Recv X x H1 name r ∧ t σ H1 fun xs H2 => r x xs H2 Q
theorem pe_mt0 {o : Expr} {to : TE} {name : Str} {apos cpos : Pos} (ho : PE X o to) (hbase : attributeBase o name X.env (eval o X.env) = eval o X.env) (hline : (apos.endLine == cpos.line) = true) :
    PE X (.Call (.Attribute o name apos) [] [] cpos) (tMt X name to tNil) := by
  refine ⟨fun pins s σ H Q I h => ?_⟩
  refine wpAny_Call_method0_late hbase hline (thn (ho.run pins s σ H _ I h) fun v s1 ⟨x, H1, I1, r1, r, ⟨T, id, pa, slot, hty, hm, ty⟩, q1⟩ => ?_)
  obtain ⟨h1, h2⟩ := ty pins s1 σ v I1 r1
  exact ⟨T, id, pa, slot, hty, h1, h2, Calls.callWith_builtin rfl (PySem.evalArgs_none (hm pins s1 σ H1 x [] v [] Q I1 r1 .nil q1))⟩
theorem pe_mt {o e : Expr} {es : List Expr} {to : TE} {t : TA} {name : Str} {apos cpos : Pos} (ho : PE X o to) (ha : PA X (e :: es) t)
    (hbase : attributeBase o name X.env (eval o X.env) = eval o X.env)
    (hfew : ((backTo cpos (starEach (e :: es) X.env)).all (fun x => !x.1) && (backToKw cpos (keywordEach [] X.env)).all (fun x => x.1.isSome)
      && decide ((e :: es).length + ([] : List Keyword).length + (if ([] : List Keyword).isEmpty then 0 else 1) < 30)) = true)
    (hline : (apos.endLine == cpos.line) = true) (hs : starEach (e :: es) X.env = (false, eval e X.env) :: starEach es X.env) (hplain : (backTo cpos (starEach es X.env)).any (·.1) = false) :
    PE X (.Call (.Attribute o name apos) (e :: es) [] cpos) (tMt X name to t) := by
  refine ⟨fun pins s σ H Q I h => ?_⟩
  refine wpAny_Call_method_late hbase hfew hline rfl (thn (ho.run pins s σ H _ I h) fun v s1 ⟨x, H1, I1, r1, r, ⟨T, id, pa, slot, hty, hm, ty⟩, q1⟩ => ?_)
  obtain ⟨h1, h2⟩ := ty pins s1 σ v I1 r1
  refine ⟨T, id, pa, slot, hty, h1, h2, ?_⟩
  have hA := ha.run cpos pins s1 σ H1 _ I1 q1
  rw [hs] at hA ⊢
  refine Calls.callWith_builtin (by show (false || (backTo cpos (starEach es X.env)).any (·.1)) = false; rw [hplain] <;> rfl) (Calls.evalArgs_plain ?_)
  exact thn hA fun us s2 ⟨vs, H2, I2, r2, q2⟩ => hm pins s2 σ H2 x vs v us Q I2 r1 r2 q2

/-- a method's call, the receiver first -/
def rMt (G : Gx) (W : WX) (p : Pm) : V → List V → Hp → VK → Prop := fun vx vs H Q => ∃ σ π h x ds, HmOk G H π h ∧ Rep G H π x vx ∧ Reps G H π ds vs ∧ Post G W σ H π (evP p (x :: ds) h) fun _ _ v H' _ => Q v H'
theorem onList_ok {H : Hp} {π : List Addr} {h : Hm} {σ : L2.St} {x : D} {vx : V} {f : Nat → List D → R} {C : D → Hm → V → Hp → List Addr → Prop} (M : HmOk G H π h) (r : Rep G H π x vx) (P : Post G W σ H π (onList x h f) C) :
    ∃ k a xs vs, x = .ref k ∧ vx = .ref a ∧ h[k]? = some (.lst xs) ∧ π[k]? = some a ∧ H a = some (.lst vs) ∧ Reps G H π xs vs ∧ Post G W σ H π (f k xs) C := by
  unfold onList at P
  split at P
  · rename_i k
    split at P
    · rename_i xs hk
      obtain ⟨a, vs, rfl, e1, e2, e3⟩ := M.lst hk r
      exact ⟨k, a, xs, vs, rfl, rfl, hk, e1, e2, e3, P⟩
    · exact P.elim
  · exact P.elim
theorem rMt0 {p : Pm} {g : D → Hm → R} {vx : V} {vs : List V} {H : Hp} {Q : VK} (hp : p.one = true) (hg : ∀ x h, evP p [x] h = g x h) (a : rMt G W p vx vs H Q) :
    vs = [] ∧ rA1 G W g vx H Q := by
  obtain ⟨σ, π, h, x, ds, M, rx, rs, P⟩ := a
  cases ds with
  | nil => cases rs; rw [hg] at P; exact ⟨rfl, σ, π, h, x, M, rx, P⟩
  | cons y r => rw [evP1 hp (fun z e => by cases e)] at P; exact P.elim
theorem rMt1 {p : Pm} {g : D → D → Hm → R} {vx : V} {vs : List V} {H : Hp} {Q : VK} (hp : p.two = true) (hg : ∀ x y h, evP p [x, y] h = g x y h) (a : rMt G W p vx vs H Q) :
    ∃ y, vs = [y] ∧ rA2 G W g vx y H Q := by
  obtain ⟨σ, π, h, x, ds, M, rx, rs, P⟩ := a
  by_cases q : ∃ y, ds = [y]
  · obtain ⟨y, rfl⟩ := q
    cases rs with
    | cons r1 r2 => cases r2; rw [hg] at P; exact ⟨_, rfl, σ, π, h, x, y, M, rx, r1, P⟩
  · rw [evP2 hp (fun z y e => q ⟨y, by cases e; rfl⟩)] at P; exact P.elim
theorem m_append : MtR X "list.append" (rMt G W .append) := by
  intro pins s σ H x xs v us Q I rx rxs a
  obtain ⟨y, rfl, σ', π, h, dx, dy, M, Rx, Ry, P⟩ := rMt1 (g := opAppend) rfl (fun _ _ _ => rfl) a
  obtain ⟨k, l, ds, vs, rfl, rfl, hk, hp, ha, rs, P⟩ := onList_ok M Rx P
  split at P
  · rename_i hz
    exact mt_append pins s σ H _ _ v us Q I rx rxs ⟨l, vs, y, rfl, rfl, ha, by rw [← rs.length]; exact hz, post_set M hp ha (rs.append (.cons Ry .nil)) .non P⟩
  · exact P.elim
theorem m_pop : MtR X "list.pop" (rMt G W .pop) := by
  intro pins s σ H x xs v us Q I rx rxs a
  obtain ⟨rfl, σ', π, h, dx, M, Rx, P⟩ := rMt0 (g := opPop) rfl (fun _ _ => rfl) a
  obtain ⟨k, l, ds, vs, rfl, rfl, hk, hp, ha, rs, P⟩ := onList_ok M Rx P
  split at P
  · rename_i d hd
    rw [List.getLast?_eq_getElem?] at hd
    obtain ⟨w, h1, h2⟩ := rs.get hd
    refine mt_pop pins s σ H _ _ v us Q I rx rxs ⟨l, vs, w, rfl, rfl, ha, by rw [← rs.length]; exact h1, post_set M hp ha ?_ h2 P⟩
    rw [List.dropLast_eq_take, List.dropLast_eq_take, ← rs.length]
    exact rs.take _
  · exact P.elim
theorem m_reverse : MtR X "list.reverse" (rMt G W .reverse) := by
  intro pins s σ H x xs v us Q I rx rxs a
  obtain ⟨rfl, σ', π, h, dx, M, Rx, P⟩ := rMt0 (g := opReverse) rfl (fun _ _ => rfl) a
  obtain ⟨k, l, ds, vs, rfl, rfl, hk, hp, ha, rs, P⟩ := onList_ok M Rx P
  exact mt_reverse pins s σ H _ _ v us Q I rx rxs ⟨l, vs, rfl, rfl, ha, post_set M hp ha rs.reverse .non P⟩
theorem m_clear : MtR X "list.clear" (rMt G W .clear) := by
  intro pins s σ H x xs v us Q I rx rxs a
  obtain ⟨rfl, σ', π, h, dx, M, Rx, P⟩ := rMt0 (g := opClear) rfl (fun _ _ => rfl) a
  obtain ⟨k, l, ds, vs, rfl, rfl, hk, hp, ha, rs, P⟩ := onList_ok M Rx P
  exact mt_clear pins s σ H _ _ v us Q I rx rxs ⟨l, vs, rfl, rfl, ha, post_set M hp ha .nil .non P⟩
theorem m_extend : MtR X "list.extend" (rMt G W .extend) := by
  intro pins s σ H x xs v us Q I rx rxs a
  obtain ⟨y, rfl, σ', π, h, dx, dy, M, Rx, Ry, P⟩ := rMt1 (g := opExtend) rfl (fun _ _ _ => rfl) a
  obtain ⟨k, l, ds, vs, rfl, rfl, hk, hp, ha, rs, P⟩ := onList_ok M Rx P
  obtain ⟨k2, l2, ds2, vs2, rfl, rfl, hk2, hp2, ha2, rs2, P⟩ := onList_ok M Ry P
  split at P
  · rename_i hz
    exact mt_extend pins s σ H _ _ v us Q I rx rxs ⟨l, l2, vs, vs2, rfl, rfl, ha, ha2, by rw [← rs.length, ← rs2.length]; exact hz, post_set M hp ha (rs.append rs2) .non P⟩
  · exact P.elim
/-- the first place of an equal item -/
theorem m_index (hK : G.K = X.K) (hu : X.A.units + 65 < cLine) : MtR X "list.index" (rMt G W .index) := by
  intro pins s σ H x xs v us Q I rx rxs a
  obtain ⟨y, rfl, σ', π, h, dx, dy, M, Rx, Ry, P⟩ := rMt1 (g := opIndex) rfl (fun _ _ _ => rfl) a
  unfold opIndex at P
  split at P
  · rename_i zs hl
    split at P
    · rename_i ps q e1 e2
      split at P
      · rename_i hs
        split at P
        · rename_i j hj
          obtain ⟨l, vs, rfl, rs, sq⟩ := lstOf_sq M Rx hl
          have d1 := toPs_dp M _ _ _ _ e1 rs
          have d2 := toP_dp M _ _ _ _ e2 Ry
          rw [hK] at sq d1 d2
          rw [List.findIdx?_eq_some_iff_getElem] at hj
          obtain ⟨hjl, hj1, hj2⟩ := hj
          refine mt_indexD hu pins s σ H _ _ v us Q I rx rxs ⟨l, y, q, ps, j, ps[j], rfl, rfl, .lst sq d1, d2, hs.1, hs.2, List.getElem?_eq_getElem hjl, hj1, fun m z' hm hz => ?_, post_pure M (.int _) P⟩
          have := hj2 m hm
          have hml : m < ps.length := Nat.lt_trans hm hjl
          rw [List.getElem?_eq_getElem hml] at hz
          cases hz
          simpa using this
        · exact P.elim
      · exact P.elim
    · exact P.elim
  · exact P.elim
/-- tuple.count of ints -/
def rCntT (K : PySem.W.Frag) : V → List V → Hp → VK → Prop := fun x xs H Q => ∃ (p : Addr) (ns : List Int) (k : Int), x = .ref p ∧ xs = [.int k] ∧ TupF K H p (ns.map V.int) ∧ Q (.int (ns.count k : Nat)) H
theorem mt_tcount : MtR X "tuple.count" (rCntT X.K) := by
  intro pins s σ H x xs v us Q I rx rxs h
  obtain ⟨p, ns, k, rfl, rfl, hs, q⟩ := h
  cases rx
  obtain ⟨u, rfl, ru⟩ := rxs.one
  obtain ⟨t, rfl⟩ := ru
  obtain ⟨its, rv, ⟨⟨cls, dd, data, sl⟩, ho, hc, n, hd⟩, hlen⟩ := I.tuple hs.sqT
  simp only at hc hd
  subst hc hd
  have hi := ints_of_vals rv
  refine call_meets PySem.F.slot_tuple_count ⟨_, ho, rfl⟩ PySem.F.entry_tuple_count (PySem.F.args_tuple_count_2 _ _)
    (SeqAt.tuple_countAt p its.toArray n dd sl (.int k t) (eqk k)) ⟨ho, fun y hy => (eqk_gives hi y (by simpa using hy)).at _ _, ?_⟩
  have ec : its.toArray.toList.countP (eqk k) = ns.count k := eqk_count hi
  refine ⟨.int (ns.count k : Nat), H, I.tok _, ⟨s.toks, ?_⟩, q⟩
  show Value.int ((its.toArray.toList.countP (eqk k) : Nat) : Int) s.toks = Value.int ((ns.count k : Nat) : Int) s.toks
  rw [ec]
theorem opCount_ok {H : Hp} {π : List Addr} {h : Hm} {σ : L2.St} {x y : D} {vx vy : V} {Q : VK} (M : HmOk G H π h) (Rx : Rep G H π x vx) (Ry : Rep G H π y vy) (P : Post G W σ H π (opCount x y h) fun _ _ v H' _ => Q v H') :
    ∃ (a : Addr) (ns : List Int) (k : Int), vx = .ref a ∧ vy = .int k ∧ (TupF G.K H a (ns.map V.int) ∨ SqL G.K H a (ns.map V.int)) ∧ Q (.int (ns.count k : Nat)) H := by
  unfold opCount at P
  split at P
  · rename_i xs hl
    split at P
    · rename_i ns i hn
      have e2 := intsOf_eq hn
      subst e2
      cases rep_int Ry
      obtain ⟨a, vs, rfl, rs, kd⟩ := listOf_ok M Rx hl
      rw [Reps.of_ints rs] at kd
      refine ⟨a, ns, _, rfl, rfl, ?_, post_pure M (.int _) P⟩
      rcases kd with ⟨_, t⟩ | ⟨t, _⟩ | ⟨n, _, _, _, t⟩
      · exact .inl t
      · exact .inr t.sq
      · exact .inr (.of t)
    · exact P.elim
  · exact P.elim
theorem m_tcount (hK : G.K = X.K) {a : Addr} {vs : List V} : MtR X "tuple.count" (fun vx ws H Q => (vx = .ref a ∧ TupF X.K H a vs) ∧ rMt G W .count vx ws H Q) := by
  intro pins s σ H x xs v us Q I rx rxs ⟨⟨ex, ht⟩, aa⟩
  obtain ⟨y, rfl, σ', π, h, dx, dy, M, Rx, Ry, P⟩ := rMt1 (g := opCount) rfl (fun _ _ _ => rfl) aa
  obtain ⟨a', ns, k, e, rfl, kd, q⟩ := opCount_ok M Rx Ry P
  subst e
  have e' : a' = a := by injection ex
  clear ex
  subst e'
  rw [hK] at kd
  rcases kd with t | t
  · exact mt_tcount pins s σ H _ _ v us Q I rx rxs ⟨_, ns, k, rfl, rfl, t, q⟩
  · obtain ⟨its, _, pl, _⟩ := I.list t
    obtain ⟨ob, n, g, hc, hd, _⟩ := pl
    obtain ⟨its2, _, ⟨ob2, g2, hc2, _⟩, _⟩ := I.tuple ht.sqT
    rw [g] at g2; cases g2; rw [hc] at hc2; exact absurd hc2 (by decide)
theorem m_lcountA (hK : G.K = X.K) {a : Addr} : MtR X "list.count" (fun vx ws H Q => (∃ vs, vx = .ref a ∧ SqL X.K H a vs) ∧ rMt G W .count vx ws H Q) := by
  intro pins s σ H x xs v us Q I rx rxs ⟨⟨vs, ex, z⟩, aa⟩
  obtain ⟨y, rfl, σ', π, h, dx, dy, M, Rx, Ry, P⟩ := rMt1 (g := opCount) rfl (fun _ _ _ => rfl) aa
  obtain ⟨a', ns, k, e, rfl, kd, q⟩ := opCount_ok M Rx Ry P
  subst e
  have e' : a' = a := by injection ex
  clear ex
  subst e'
  rw [hK] at kd
  rcases kd with t | t
  · obtain ⟨its, _, pl, _⟩ := I.list z
    obtain ⟨ob, n, g, hc, hd, _⟩ := pl
    obtain ⟨its2, _, ⟨ob2, g2, hc2, _⟩, _⟩ := I.tuple t.sqT
    rw [g] at g2; cases g2; rw [hc] at hc2; exact absurd hc2 (by decide)
  · exact mt_lcount pins s σ H _ _ v us Q I rx rxs ⟨_, ns, k, rfl, rfl, t, q⟩

/-! ### o[i] = v -/
def rSet (G : Gx) (W : WX) : V → V → V → Hp → (Hp → Prop) → Prop := fun vo vi v H Q => ∃ σ π h o i d, HmOk G H π h ∧ Rep G H π o vo ∧ Rep G H π i vi ∧ Rep G H π d v ∧ Post G W σ H π (opSetix o i d h) fun _ _ _ H' _ => Q H'
theorem z_set : PSet X (rSet G W) := by
  intro pins s σ H o i v ov iv u Q I ro ri rv ⟨σ', π, h, dO, di, d, M, Ro, Ri, Rd, P⟩
  obtain ⟨k, l, ds, vs, rfl, rfl, hk, hp, ha, rs, P⟩ := onList_ok M Ro P
  split at P
  · split at P
    · rename_i j hj
      cases rep_int Ri
      exact set_list pins s σ H _ _ _ ov iv u Q I ro ri rv ⟨l, vs, _, j, rfl, rfl, ha, by rw [← rs.length]; exact hj, post_set (Q := fun _ H' => Q H') M hp ha (rs.set j Rd) .non P⟩
    · exact P.elim
  · exact P.elim

/-! ### isinstance -/
def tyN : D → String
  | .non => "NoneType" | .bl _ => "bool" | .int _ => "int" | .str _ => "str" | .tup _ => "tuple" | _ => "list"
def kitA (T C : String) : Bool := T == C || (T == "bool" && C == "int")
theorem kit_all : ∀ T ∈ ["NoneType", "bool", "int", "str", "tuple", "list"], ∀ C ∈ ["int", "bool", "str", "tuple", "list"], kitB T C = some (kitA T C) := by
  intro T hT C hC
  simp only [List.mem_cons, List.not_mem_nil, or_false] at hT hC
  rcases hT with rfl | rfl | rfl | rfl | rfl | rfl <;> rcases hC with rfl | rfl | rfl | rfl | rfl <;> decide +kernel
theorem tyN_mem (d : D) : tyN d ∈ ["NoneType", "bool", "int", "str", "tuple", "list"] := by
  cases d <;> simp [tyN]
/-- the type of what a datum stands for, by its name -/
theorem rep_ty {H : Hp} {π : List Addr} {h : Hm} {d : D} {v : V} (hK : G.K = X.K) (M : HmOk G H π h) (r : Rep G H π d v) (hx : ∀ c f e, d ≠ .xv c f e) (ho : ∀ xs, d ≠ .ro xs) (hr : ∀ k, d = .ref k → ∃ xs, h[k]? = some (.lst xs)) :
    TyX X.K H v (.type (tyN d)) := by
  cases r with
  | non => exact .base .non
  | bl b => exact .base (.bl b)
  | int b => exact .base (.int b)
  | str b => exact .base (.str b)
  | tup t rs =>
    rw [hK] at t
    rcases t with ⟨o, e, _⟩ | ⟨o, its, n, hk, hc, _⟩
    · exact .fTuple e
    · exact .kTuple hk hc
  | @ref n a hp =>
    obtain ⟨xs, hh⟩ := hr n rfl
    obtain ⟨a', vs, e1, e2, e3, e4⟩ := M.lst hh (.ref hp)
    cases e1
    exact .base (.lst e3)
  | ro t rs => exact (ho _ rfl).elim
  | xv => exact (hx _ _ _ rfl).elim
/-- which test of a kind is that of which class -/
def kOf (h : Hm) : String → D → Option Bool
  | "int" => kInt | "bool" => kBool | "str" => kStr | "tuple" => kTup | "list" => kList h | _ => fun _ => none
theorem kOf_ok {h : Hm} {d : D} {C : String} {b : Bool} (hC : C ∈ ["int", "bool", "str", "tuple", "list"]) (e : kOf h C d = some b) (hr : ∀ k, d = .ref k → ∃ xs, h[k]? = some (.lst xs)) :
    b = kitA (tyN d) C ∧ (∀ c f e, d ≠ .xv c f e) ∧ ∀ xs, d ≠ .ro xs := by
  simp only [List.mem_cons, List.not_mem_nil, or_false] at hC
  cases d with
  | xv c f g => rcases hC with rfl | rfl | rfl | rfl | rfl <;> simp [kOf, kInt, kBool, kStr, kTup, kList] at e
  | ro xs => rcases hC with rfl | rfl | rfl | rfl | rfl <;> simp [kOf, kInt, kBool, kStr, kTup, kList] at e
  | ref k =>
    obtain ⟨xs, hk⟩ := hr k rfl
    refine ⟨?_, (fun c f e q => by cases q), fun xs q => by cases q⟩
    rcases hC with rfl | rfl | rfl | rfl | rfl <;> simp [kOf, kInt, kBool, kStr, kTup, kList, hk] at e <;> subst e <;> simp [tyN, kitA]
  | _ =>
    refine ⟨?_, (fun c f e q => by cases q), fun xs q => by cases q⟩
    rcases hC with rfl | rfl | rfl | rfl | rfl <;> simp [kOf, kInt, kBool, kStr, kTup, kList] at e <;> subst e <;> simp [tyN, kitA]
theorem z_isi {H : Hp} {π : List Addr} {h : Hm} {d : D} {v : V} {C : String} {b : Bool} (hK : G.K = X.K) (M : HmOk G H π h) (r : Rep G H π d v) (hC : C ∈ ["int", "bool", "str", "tuple", "list"]) (e : kOf h C d = some b) (hr : ∀ k, d = .ref k → ∃ xs, h[k]? = some (.lst xs)) :
    TyX X.K H v (.type (tyN d)) ∧ PySem.W.kitOne X.K (.type (tyN d)) (.type C) = some b := by
  obtain ⟨h1, h2, hro⟩ := kOf_ok hC e hr
  refine ⟨rep_ty hK M r h2 hro hr, kit_ty ?_⟩
  rw [kit_all _ (tyN_mem d) _ hC, h1]
end
end Z

set_option Elab.async false
set_option linter.all false
set_option maxRecDepth 100000
set_option maxHeartbeats 4000000
namespace Z
open PySem PySem.Spec PyProof.Rows L2

/-- the names of a text: its defs (name, index), its constants, its exception classes (with their attributes) -/
structure Nm where
  fns : List (Str × Nat)
  cst : List (Str × D)
  exc : List (Str × List Str)
  /-- the defs with keyword-only parameters: name, index, these with their defaults -/
  kws : List (Str × Nat × List (Str × D)) := []
/-- what a def promises: the small language's own call -/
def spF (G : Gx) (P : Pg) (w k i : Nat) : Sp := fun vs H Q E =>
  ∃ π h ds, HmOk G H π h ∧ Reps G H π ds vs ∧ Post G (fun cls d _ H' => E cls d H') [] H π (callF P w k i ds h) fun _ _ v H' _ => Q v H'
def bltNames : List Str := ["len", "abs", "max", "min", "sum", "sorted", "list", "tuple", "int", "str", "range", "isinstance", "enumerate", "zip", "reversed", "bool", "all", "any", "divmod", "set", "dict", "type"]
/-- an own exception class without an own __init__ -/
structure XcC (K : PySem.W.Frag) (C : Addr) : Prop where
  ex : PySem.W.excIn K C [.type "ValueError", .type "Exception", .type "BaseException", .type "object"] "ValueError.__new__" = true
  kp : PySem.W.keepIn K (.ref C) = true
  sb : PySem.W.subIn K (.ref C) (.type "BaseException") = some true
  ty : PySem.W.typeIn K (.ref C) = some (.type "type")
/-- isinstance(e, c), isinstance(e, (c, ..)), e the exception that the suite holds -/
def rIsEZ (K : PySem.W.Frag) (D a : Addr) : List V → Hp → VK → Prop := fun xs H Q => rIsE K D a xs H Q ∨
  ∃ tp cs us b, xs = [.ref a, .ref tp] ∧ H tp = some (.tup cs) ∧ Paired ClsV cs us ∧ PySem.W.kitAny K (.ref D) us = some b ∧ Q (.bl b) H
/-- a context in which the small language's reading of an expression holds -/
structure OkE (P : Pg) (w k : Nat) (nm : Nm) (N : List Str) (sc : Scope) (hot : Option Nat) (G : Gx) (W : WX) (X : Cx) : Prop where
  hK : G.K = X.K
  hmg : G.mg = X.mg
  hxs : G.xs = nm.exc.map (·.1)
  hN : X.N = N
  nd : N.Nodup
  kin : sc.kind = .function
  sc1 : ∀ x kd, sc.names.lookup x = some kd → ∃ kd', X.env.scope.names.lookup x = some kd' ∧ (kd' = kd ∨ (kd = .free ∧ kd' = .cell))
  ek : X.env.scope.kind = .function
  sto : ∀ x, (sc.names.lookup x = some .local ∨ sc.names.lookup x = some .cell) → X.fn x = true ∨ X.env.scope.names.lookup x = some .local
  tk : Takes X W
  units : X.A.units + 100 < cLine
  calm : hot = none → X.calm = true
  room : hot = none → Room k X.A
  gex : hot = none → G.ex = none
  fns : ∀ n i, (n, i) ∈ nm.fns → ∃ f fd ps, X.mg n = some (.ref f) ∧ PySem.W.keepIn X.K (.ref f) = true ∧ Binds X.K fd ps [] ∧ FnOk X.prog X.w X.K X.mg X.base (CX X.prog X.w) k f fd ps (spF ⟨X.K, X.mg, nm.exc.map (·.1), none⟩ P w k i)
  kf : ∀ n i dl, (n, i, dl) ∈ nm.kws → ∃ f fd ps us dv, X.mg n = some (.ref f) ∧ PySem.W.keepIn X.K (.ref f) = true ∧ Vals dv us ∧ (∀ G H π, Reps G H π (dl.map (·.2)) dv) ∧ Binds X.K fd ps us ∧ KBn X.K fd ps (ps.length - dl.length) (dl.map (·.1)) (fun a b => a ++ b) (fun a b => a ++ b) ∧ FnOk X.prog X.w X.K X.mg X.base (CX X.prog X.w) k f fd ps (spF ⟨X.K, X.mg, nm.exc.map (·.1), none⟩ P w k i)
  blt : ∀ b, b ∈ bltNames → X.mg b = none
  xn : ∀ c fs, (c, fs) ∈ nm.exc → ∃ C, X.mg c = some (.ref C) ∧ ExcC X.K C ∧ (fs = [] → XcC X.K C)
  xk : ∀ c c' C C', c ∈ nm.exc.map (·.1) → c' ∈ nm.exc.map (·.1) → X.mg c = some (.ref C) → X.mg c' = some (.ref C') → PySem.W.kitOne X.K (.ref C) (.ref C') = some (P.sub c c') ∧ PySem.W.exmOne X.K (.ref C) (.ref C') = some (P.sub c c')
  xb : X.mg "ValueError" = none ∧ ∀ c C, c ∈ nm.exc.map (·.1) → X.mg c = some (.ref C) → PySem.W.kitOne X.K (.ref C) (.type "ValueError") = some (P.sub c "ValueError")
  hx : hot ≠ none → ∀ i a c, G.ex = some (i, a, c, none) → ∃ D, X.mg c = some (.ref D) ∧ c ∈ nm.exc.map (·.1) ∧ CallR X (.builtin "isinstance") (rIsEZ X.K D a)
  hi : ∀ i, hot = some i → ∃ a c d, G.ex = some (i, a, c, d)
  cst : ∀ n d, (n, d) ∈ nm.cst → ∃ v u, X.mg n = some u ∧ RelV v u ∧ ∀ H π, Rep G H π d v
section
variable {P : Pg} {w k : Nat} {nm : Nm} {N : List Str} {sc : Scope} {hot : Option Nat} {G : Gx} {W : WX} {X : Cx}
theorem OkE.vis (o : OkE P w k nm N sc hot G W X) {x : Str} (h : sc.names.lookup x = some .local ∨ sc.names.lookup x = some .cell ∨ sc.names.lookup x = some .free) : Vis X.env.scope x := by
  rcases h with h | h | h
  · obtain ⟨kd, e, q⟩ := o.sc1 x _ h
    rcases q with rfl | ⟨q, _⟩
    · exact .inl e
    · cases q
  · obtain ⟨kd, e, q⟩ := o.sc1 x _ h
    rcases q with rfl | ⟨q, _⟩
    · exact .inr (.inl e)
    · cases q
  · obtain ⟨kd, e, q⟩ := o.sc1 x _ h
    rcases q with rfl | ⟨_, rfl⟩
    · exact .inr (.inr e)
    · exact .inr (.inl e)
theorem OkE.gl (o : OkE P w k nm N sc hot G W X) {x : Str} (h : sc.names.lookup x = some .globalImplicit) : Gl X x := by
  obtain ⟨kd, e, q⟩ := o.sc1 x _ h
  rcases q with rfl | ⟨q, _⟩
  · exact e
  · cases q
theorem OkE.loc (o : OkE P w k nm N sc hot G W X) {x : Str} (h : sc.names.lookup x = some .local ∨ sc.names.lookup x = some .cell) : Loc X.env.scope x := by
  rcases h with h | h
  · obtain ⟨kd, e, q⟩ := o.sc1 x _ h
    rcases q with rfl | ⟨q, _⟩
    · exact .inl e
    · cases q
  · obtain ⟨kd, e, q⟩ := o.sc1 x _ h
    rcases q with rfl | ⟨q, _⟩
    · exact .inr e
    · cases q

/-! ### readings -/
def PostA (G : Gx) (W : WX) (σ : L2.St) (H : Hp) (π : List Addr) (r : R) (C : List D → Hm → List V → Hp → List Addr → Prop) : Prop :=
  match r with
  | .ok (.tup ds) h => ∀ vs H' π', Ext H H' → π <+: π' → HmOk G H' π' h → Reps G H' π' ds vs → C ds h vs H' π'
  | .exn x h => ∀ cls dd H' π', Ext H H' → π <+: π' → HmOk G H' π' h → XRep G H' π' x cls dd → W cls dd σ H'
  | _ => False
def TAv (G : Gx) (W : WX) (ev : Env' → Hm → R) : TA := fun σ H Q => ∃ ρ π h, EnvOk G H π ρ σ ∧ HmOk G H π h ∧ PostA G W σ H π (ev ρ h) fun _ _ vs H' _ => Q vs H'
def TTv (G : Gx) (W : WX) (ev : Env' → Hm → R) : TT := fun σ H Q => ∃ ρ π h, EnvOk G H π ρ σ ∧ HmOk G H π h ∧ Post G W σ H π (ev ρ h) fun d h' _ H' _ => ∃ b, truth h' d = some b ∧ Q b H'
theorem PostA.weak {r : R} {σ : L2.St} {H H0 : Hp} {π π0 : List Addr} {C : List D → Hm → List V → Hp → List Addr → Prop} (e : Ext H0 H) (q : π0 <+: π) (p : PostA G W σ H0 π0 r C) : PostA G W σ H π r C := by
  unfold PostA at p ⊢
  split
  · exact fun v H' π' a b c z => p v H' π' (e.trans a) (q.trans b) c z
  · exact fun cls dd H' π' a b c z => p cls dd H' π' (e.trans a) (q.trans b) c z
  · rename_i h1 h2
    split at p
    · exact (h1 _ _ rfl).elim
    · exact (h2 _ _ rfl).elim
    · exact p
theorem PostA.imp {r : R} {σ : L2.St} {H : Hp} {π : List Addr} {C C' : List D → Hm → List V → Hp → List Addr → Prop} (p : PostA G W σ H π r C)
    (k : ∀ ds h vs H' π', r = .ok (.tup ds) h → Ext H H' → π <+: π' → HmOk G H' π' h → Reps G H' π' ds vs → C ds h vs H' π' → C' ds h vs H' π') : PostA G W σ H π r C' := by
  unfold PostA at p ⊢
  split
  · exact fun v H' π' a b c z => k _ _ _ _ _ rfl a b c z (p v H' π' a b c z)
  · exact p
  · rename_i h1 h2
    split at p
    · exact (h1 _ _ rfl).elim
    · exact (h2 _ _ rfl).elim
    · exact p
/-- a call's arguments, then what is done with them -/
def onArgs (r : R) (f : List D → Hm → R) : R := r.bind fun ds h1 => match ds with
  | .tup xs => f xs h1
  | _ => .bad
theorem Post.args {r : R} {f : List D → Hm → R} {σ : L2.St} {H : Hp} {π : List Addr} {C : D → Hm → V → Hp → List Addr → Prop} (p : Post G W σ H π (onArgs r f) C) :
    PostA G W σ H π r fun ds h vs H' π' => Post G W σ H' π' (f ds h) C := by
  unfold onArgs at p
  cases r with
  | ok d h1 =>
    cases d with
    | tup ds => exact fun vs H' π' a b c e => Post.weak a b p
    | _ => exact p.elim
  | exn x h1 => exact p
  | bad => exact p
theorem TEv.args {ea : Env' → Hm → R} {f : List D → Hm → R} {σ : L2.St} {H : Hp} {Q : VK} (t : TEv G W (fun ρ h => onArgs (ea ρ h) f) σ H Q) : TAv G W ea σ H fun vs H1 => rAn G W f vs H1 Q := by
  obtain ⟨ρ, π, h, E, M, p⟩ := t
  exact ⟨ρ, π, h, E, M, p.args.imp fun ds h1 vs H1 π1 _ _ _ M1 R1 p1 => ⟨σ, π1, h1, ds, M1, R1, p1⟩⟩
theorem pa_imp {es : List Expr} {t t' : TA} (h : PA X es t) (k : ∀ σ H Q, t' σ H Q → t σ H Q) : PA X es t' := ⟨fun pos pins s σ H Q I q => h.run pos pins s σ H Q I (k _ _ _ q)⟩
theorem a_nil : PA X [] (TAv G W fun _ h => .ok (.tup []) h) := pa_imp pa_nil fun σ H Q ⟨ρ, π, h, E, M, p⟩ => p [] H π .refl (List.prefix_refl _) M .nil
theorem a_cons {e : Expr} {es : List Expr} {ea er : Env' → Hm → R} (ha : PE X e (TEv G W ea)) (hr : PA X es (TAv G W er)) (hs : starEach (e :: es) X.env = (false, eval e X.env) :: starEach es X.env) :
    PA X (e :: es) (TAv G W fun ρ h => (ea ρ h).bind fun d h1 => (er ρ h1).bind fun ds h2 => match ds with
      | .tup xs => .ok (.tup (d :: xs)) h2
      | _ => .bad) := by
  refine pa_imp (pa_cons ha hr hs) fun σ H Q ⟨ρ, π, h, E, M, p⟩ => ?_
  refine ⟨ρ, π, h, E, M, ?_⟩
  dsimp only at p
  cases q : ea ρ h with
  | bad => rw [q] at p; exact p.elim
  | exn x h1 => rw [q] at p; exact p
  | ok d h1 =>
    rw [q] at p
    intro v H1 π1 e1 p1 M1 R1
    refine ⟨ρ, π1, h1, E.mono e1 p1, M1, ?_⟩
    simp only [R.bind_ok] at p
    have p := PostA.weak e1 p1 p
    cases q2 : er ρ h1 with
    | bad => rw [q2] at p; exact p.elim
    | exn x h2 => rw [q2] at p; exact p
    | ok ds h2 =>
      rw [q2] at p
      cases ds with
      | tup xs => exact fun vs H2 π2 e2 p2 M2 R2 => p (v :: vs) H2 π2 e2 p2 M2 (.cons (R1.mono e2 p2) R2)
      | _ => exact p.elim

/-! ### truth -/
theorem truth_ok {H : Hp} {π : List Addr} {h : Hm} {d : D} {v : V} {b : Bool} (M : HmOk G H π h) (r : Rep G H π d v) (e : truth h d = some b) : TruV G.K v H b := by
  cases r with
  | non => simp [truth] at e; exact e
  | bl c => simp [truth] at e; exact e.symm
  | int i =>
    simp only [truth, Option.some.injEq] at e
    show b = (i != 0)
    rw [← e]
    by_cases q : i = 0 <;> simp [q]
  | str z =>
    simp only [truth] at e
    split at e
    · rename_i hz
      simp only [Option.some.injEq] at e
      refine ⟨hz, ?_⟩
      rw [← e]
      by_cases q : z.length = 0 <;> simp [q]
    · cases e
  | tup t rs =>
    simp only [truth, Option.some.injEq] at e
    refine .inr (.inl ⟨_, t.sqT, ?_⟩)
    rw [← e]
    cases rs <;> rfl
  | ro t rs =>
    simp only [truth, Option.some.injEq] at e
    refine .inl ⟨_, t.sq, ?_⟩
    rw [← e]
    cases rs <;> rfl
  | @ref n a hp =>
    simp only [truth] at e
    split at e
    · rename_i xs hk
      simp only [Option.some.injEq] at e
      obtain ⟨a', vs, e1, e2, e3, e4⟩ := M.lst hk (.ref hp)
      cases e1
      refine .inl ⟨_, .of e3, ?_⟩
      rw [← e]
      cases e4 <;> rfl
    · cases e
  | xv => simp [truth] at e
theorem pt_imp {e : Expr} {t t' : TT} (h : PT X e t) (k : ∀ σ H Q, t' σ H Q → t σ H Q) : PT X e t' := ⟨fun pins s σ H Q I q => h.run pins s σ H Q I (k _ _ _ q)⟩
/-- a test by its value's truth -/
theorem t_val {e : Expr} {ev : Env' → Hm → R} (hK : G.K = X.K) (h : PE X e (TEv G W ev)) (he : ∀ whole, isTrue e X.env whole = (do let v ← whole; standAt e.pos; holding [v] (truthy v))) : PT X e (TTv G W ev) := by
  refine pt_imp (pt_truth h he) fun σ H Q ⟨ρ, π, h, E, M, p⟩ => ⟨ρ, π, h, E, M, p.imp fun d h1 v H1 π1 _ _ _ M1 R1 ⟨b, hb, q⟩ => ⟨b, ?_, q⟩⟩
  have := truth_ok M1 R1 hb
  rw [hK] at this
  exact this
/-- a comparison as a test -/
theorem t_cmp {a b : Expr} {op : CmpOp} {pos : Pos} {ea eb : Env' → Hm → R} {f : D → D → Hm → R} (ho : OpR X (compareOp op) (rA2 G W f)) (hbl : ∀ x y h d h', f x y h = .ok d h' → ∃ c, d = .bl c) (ha : PE X a (TEv G W ea)) (hb : PE X b (TEv G W eb)) (hm : behindInMarks op b = false) :
    PT X (.Compare a [op] [b] pos) (TTv G W fun ρ h => (ea ρ h).bind fun x h1 => (eb ρ h1).bind fun y h2 => f x y h2) := by
  refine pt_imp (pt_cmpR ho ha hb hm) fun σ H Q ⟨ρ, π, h, E, M, p⟩ => ?_
  refine ⟨ρ, π, h, E, M, p.bind.imp fun d h1 v H1 π1 _ e1 p1 M1 R1 q1 => ⟨ρ, π1, h1, E.mono e1 p1, M1, q1.bind.imp fun d2 h2 v2 H2 π2 _ e2 p2 M2 R2 q2 => ⟨σ, π2, h2, d, d2, M2, R1.mono e2 p2, R2, ?_⟩⟩⟩
  refine q2.imp fun d3 h3 v3 H3 π3 er _ _ _ R3 ⟨c, hc, q3⟩ => ?_
  obtain ⟨c', rfl⟩ := hbl _ _ _ _ _ er
  cases rep_bl R3
  simp only [truth, Option.some.injEq] at hc
  subst hc
  exact ⟨c', rfl, q3⟩
end
end Z

set_option Elab.async false
set_option linter.all false
set_option maxRecDepth 100000
set_option maxHeartbeats 4000000
namespace Z
open PySem PySem.Spec PyProof.Rows L2
section
variable {P : Pg} {w k : Nat} {nm : Nm} {N : List Str} {sc : Scope} {hot : Option Nat} {G : Gx} {W : WX} {X : Cx}

/-! ### walks -/
/-- an item as it comes: represented, or a tuple just made -/
def ItRep (G : Gx) (H : Hp) (π : List Addr) (weak : Bool) (d : D) (v : V) : Prop :=
  (weak = false ∧ Rep G H π d v) ∨ (weak = true ∧ ∃ T vs ds, d = .tup ds ∧ v = .ref T ∧ SqT G.K H T vs ∧ Reps G H π ds vs)
structure WalkZ (G : Gx) (H0 : Hp) (π0 : List Addr) (J : It) (items : List D) (g : Gd) (weak : Bool) : Prop where
  goes : ∀ i H π h, i < items.length → Ext H0 H → π0 <+: π → HmOk G H π h → gdOk g h = true → J.go i H
  stops : ∀ H π h, Ext H0 H → π0 <+: π → HmOk G H π h → gdOk g h = true → J.stop items.length H
  yields : ∀ i H π h x H', i < items.length → Ext H0 H → π0 <+: π → HmOk G H π h → gdOk g h = true → J.yld i H x H' →
    ∃ d, items[i]? = some d ∧ Ext H H' ∧ HmOk G H' π h ∧ ItRep G H' π weak d x
/-- the reading of a source: its arguments, then the walk -/
def TIv (G : Gx) (W : WX) (weak : Bool) (ev : Env' → Hm → R) (src : Src) : TI := fun σ H R =>
  ∃ ρ π h, EnvOk G H π ρ σ ∧ HmOk G H π h ∧ PostA G W σ H π (ev ρ h) fun ds h1 _ H1 π1 => ∃ items g, evSrc src ds h1 = some (items, g) ∧
    ∀ J H2, Ext H1 H2 → HmOk G H2 π1 h1 → WalkZ G H2 π1 J items g weak → R J H2
theorem gdOk_one {k : Nat} {xs : List D} {h : Hm} (e : gdOk [(k, xs)] h = true) : h[k]? = some (.lst xs) := by
  unfold gdOk at e
  simp only [List.all_cons, List.all_nil, Bool.and_true] at e
  split at e
  · rename_i ys hk
    rw [hk, D.beqs_eq _ _ e]
  · cases e
/-- over a list or a tuple -/
def iSeqZ (K : PySem.W.Frag) (tl : TE) : TI := fun σ H R => tl σ H fun x H1 => ∃ a, x = .ref a ∧ (((∃ xs, SqL K H1 a xs) ∧ R (Itl K a) H1) ∨ ((∃ xs, SqT K H1 a xs) ∧ R (Itt K a) H1))
theorem pi_seqZ {tg l : Expr} {tl : TE} (hl : PE X l tl) : PI X tg l (iSeqZ X.K tl) := by
  refine ⟨fun pins s σ H R I h => ?_⟩
  refine thn (hl.run pins s σ H _ I h) fun v s1 ⟨x, H1, I1, r1, q1⟩ => ?_
  obtain ⟨a, e, q⟩ := q1
  subst e
  cases r1
  rcases q with ⟨⟨xs, hq⟩, q⟩ | ⟨⟨xs, hq⟩, q⟩
  · obtain ⟨its, rv, p, hz⟩ := I1.list hq
    refine wpAny_pyIter_list p.isList ?_
    refine ⟨s1.heap.objs.size, [s1.heap.objs.size], _, _, H1, rfl, I1.kept (t' := s1.toks) fun b o e => Heap.get?_push_of_some _ e, turn_list a _, ⟨_, Heap.get?_push_size _ rfl, rfl, rfl⟩, fun b hb => ?_, q⟩
    have e : b = s1.heap.objs.size := by simpa using hb
    subst e
    exact I1.fpOk (Nat.le_refl _) (I1.hok.fresh (Nat.le_refl _))
  · obtain ⟨its, rv, p, hz⟩ := I1.tuple hq
    refine wpAny_pyIter_tuple (show s1.heap.IsTuple a its.toArray from p) ?_
    refine ⟨s1.heap.objs.size, [s1.heap.objs.size], _, _, H1, rfl, I1.kept (t' := s1.toks) fun b o e => Heap.get?_push_of_some _ e, turn_tuple a _, ⟨_, Heap.get?_push_size _ rfl, rfl, rfl⟩, fun b hb => ?_, q⟩
    have e : b = s1.heap.objs.size := by simpa using hb
    subst e
    exact I1.fpOk (Nat.le_refl _) (I1.hok.fresh (Nat.le_refl _))
theorem pi_imp {tg l : Expr} {t t' : TI} (h : PI X tg l t) (q : ∀ σ H R, t' σ H R → t σ H R) : PI X tg l t' := ⟨fun pins s σ H R I z => h.run pins s σ H R I (q _ _ _ z)⟩
theorem pre_get' {α : Type} {l l' : List α} (p : l <+: l') {n : Nat} {a b : α} (h : l[n]? = some a) (h' : l'[n]? = some b) : b = a := by
  rw [pre_get p h] at h'; exact (Option.some.inj h').symm
/-- the walk of a list or tuple that stands there -/
theorem walkZ_seq {H : Hp} {π : List Addr} {h : Hm} {x : D} {v : V} {xs : List D} (M : HmOk G H π h) (r : Rep G H π x v) (e : listOf h x = some xs) :
    ∃ a, v = .ref a ∧ (((∃ ys, SqL G.K H a ys) ∧ WalkZ G H π (Itl G.K a) xs (gdOf x xs) false) ∨ ((∃ ys, SqT G.K H a ys) ∧ WalkZ G H π (Itt G.K a) xs (gdOf x xs) false)) := by
  obtain ⟨a, vs, e1, rs, kd⟩ := listOf_ok M r e
  refine ⟨a, e1, ?_⟩
  have hl := rs.length
  rcases kd with ⟨rfl, t⟩ | ⟨t, rfl⟩ | ⟨n, rfl, hn, hp, t⟩
  · refine .inr ⟨⟨vs, t.sqT⟩, ⟨fun i H2 π2 h2 hi e2 p2 M2 g2 => ?_, fun H2 π2 h2 e2 p2 M2 g2 => ?_, fun i H2 π2 h2 y H3 hi e2 p2 M2 g2 yl => ?_⟩⟩
    · exact walk_tup.goes i H2 (by rw [← hl]; exact hi) (e2.tupF t).sqT
    · rw [hl]; exact walk_tup.stops H2 (e2.tupF t).sqT
    · obtain ⟨rfl, q⟩ := walk_tup.yields i H2 y H3 (by rw [← hl]; exact hi) (e2.tupF t).sqT yl
      obtain ⟨d, h1, h2⟩ := rs.get' q
      exact ⟨d, h1, .refl, M2, .inl ⟨rfl, h2.mono e2 p2⟩⟩
  · have sq : ∀ {H2}, Ext H H2 → SqL G.K H2 a vs := fun e2 => (e2.roL t).sq
    refine .inl ⟨⟨vs, sq .refl⟩, ⟨fun i H2 π2 h2 hi e2 p2 M2 g2 => ?_, fun H2 π2 h2 e2 p2 M2 g2 => ?_, fun i H2 π2 h2 y H3 hi e2 p2 M2 g2 yl => ?_⟩⟩
    · exact walk_list.goes i H2 (by rw [← hl]; exact hi) (sq e2)
    · rw [hl]; exact walk_list.stops H2 (sq e2)
    · obtain ⟨rfl, q⟩ := walk_list.yields i H2 y H3 (by rw [← hl]; exact hi) (sq e2) yl
      obtain ⟨d, h1, h2⟩ := rs.get' q
      exact ⟨d, h1, .refl, M2, .inl ⟨rfl, h2.mono e2 p2⟩⟩
  · have at2 : ∀ {H2 π2 h2}, π <+: π2 → HmOk G H2 π2 h2 → gdOk [(n, xs)] h2 = true → ∃ vs2, SqL G.K H2 a vs2 ∧ Reps G H2 π2 xs vs2 := fun {H2 π2 h2} p2 M2 g2 => by
      obtain ⟨a2, ha2, vs2, q1, q2⟩ := M2.at (gdOk_one g2)
      have : a2 = a := pre_get' p2 hp ha2
      subst this
      exact ⟨vs2, .of q1, q2⟩
    refine .inl ⟨⟨vs, .of t⟩, ⟨fun i H2 π2 h2 hi e2 p2 M2 g2 => ?_, fun H2 π2 h2 e2 p2 M2 g2 => ?_, fun i H2 π2 h2 y H3 hi e2 p2 M2 g2 yl => ?_⟩⟩
    · obtain ⟨vs2, q1, q2⟩ := at2 p2 M2 g2
      exact walk_list.goes i H2 (by rw [← q2.length]; exact hi) q1
    · obtain ⟨vs2, q1, q2⟩ := at2 p2 M2 g2
      rw [q2.length]; exact walk_list.stops H2 q1
    · obtain ⟨vs2, q1, q2⟩ := at2 p2 M2 g2
      obtain ⟨rfl, q⟩ := walk_list.yields i H2 y H3 (by rw [← q2.length]; exact hi) q1 yl
      obtain ⟨d, h1, h2⟩ := q2.get' q
      exact ⟨d, h1, .refl, M2, .inl ⟨rfl, h2⟩⟩
theorem i_plain {tg l : Expr} {ea : Env' → Hm → R} (hK : G.K = X.K) (hl : PE X l (TEv G W ea)) :
    PI X tg l (TIv G W false (fun ρ h => (ea ρ h).bind fun d h1 => (R.ok (.tup []) h1).bind fun ds h2 => match ds with | .tup xs => .ok (.tup (d :: xs)) h2 | _ => .bad) .plain) := by
  refine pi_imp (pi_seqZ hl) fun σ H R ⟨ρ, π, h, E, M, p⟩ => ⟨ρ, π, h, E, M, ?_⟩
  dsimp only at p
  cases q : ea ρ h with
  | bad => rw [q] at p; exact p.elim
  | exn x h1 => rw [q] at p; exact p
  | ok d h1 =>
    rw [q] at p
    intro v H1 π1 e1 p1 M1 R1
    obtain ⟨items, g, es, k2⟩ := p [v] H1 π1 e1 p1 M1 (.cons R1 .nil)
    change (listOf h1 d).map _ = some (items, g) at es
    rw [Option.map_eq_some_iff] at es
    obtain ⟨xs, hl, e2⟩ := es
    cases e2
    obtain ⟨a, rfl, hw⟩ := walkZ_seq M1 R1 hl
    rw [hK] at hw
    refine ⟨a, rfl, ?_⟩
    rcases hw with ⟨hs, hw⟩ | ⟨hs, hw⟩
    · exact .inl ⟨hs, k2 _ _ .refl M1 hw⟩
    · exact .inr ⟨hs, k2 _ _ .refl M1 hw⟩
theorem walkZ_range {H0 : Hp} {π0 : List Addr} {lo : Int} {n : Nat} : WalkZ G H0 π0 (Itr lo n) (rangeD lo 1 n) [] false := by
  have hl : (rangeD lo 1 n).length = n := by simp [rangeD]
  refine ⟨fun i H2 π2 h2 hi e2 p2 M2 g2 => walk_range.goes i H2 (by rw [← hl]; exact hi) trivial, fun H2 π2 h2 e2 p2 M2 g2 => ?_, fun i H2 π2 h2 y H3 hi e2 p2 M2 g2 yl => ?_⟩
  · rw [hl]; exact walk_range.stops H2 trivial
  · obtain ⟨rfl, rfl⟩ := walk_range.yields i H2 y H3 (by rw [← hl]; exact hi) trivial yl
    rw [hl] at hi
    refine ⟨.int (lo + i), ?_, .refl, M2, .inl ⟨rfl, .int _⟩⟩
    unfold rangeD
    rw [List.getElem?_map, List.getElem?_range hi]
    simp
theorem small_ok {i : Int} (h : small i = true) : -(2 ^ 62) ≤ i ∧ i < 2 ^ 62 := of_decide_eq_true h
theorem i_range1 {tg a : Expr} {p pos : Pos} {ea : Env' → Hm → R} (hg : Gl X "range") (hm : X.mg "range" = none) (ha : PA X [a] (TAv G W ea)) (hs : starEach [a] X.env = [(false, eval a X.env)]) :
    PI X tg (.Call (.Name "range" p) [a] [] pos) (TIv G W false ea .range1) := by
  refine pi_imp (pi_range1 hg hm ha hs) fun σ H R ⟨ρ, π, h, E, M, q⟩ => ⟨ρ, π, h, E, M, q.imp fun ds h1 vs H1 π1 _ _ _ M1 R1 ⟨items, g, es, k2⟩ => ?_⟩
  change srcR1 ds = some (items, g) at es
  unfold srcR1 at es
  split at es
  · split at es
    · rename_i j hj
      cases es
      cases R1 with
      | cons r1 r2 =>
        cases r2; cases rep_int r1
        exact ⟨_, rfl, (small_ok hj).1, (small_ok hj).2, k2 _ _ .refl M1 walkZ_range⟩
    · cases es
  · cases es
theorem i_range2 {tg a b : Expr} {p pos : Pos} {ea : Env' → Hm → R} (hg : Gl X "range") (hm : X.mg "range" = none) (ha : PA X [a, b] (TAv G W ea)) (hs : starEach [a, b] X.env = [(false, eval a X.env), (false, eval b X.env)]) (hs2 : starEach [b] X.env = [(false, eval b X.env)]) :
    PI X tg (.Call (.Name "range" p) [a, b] [] pos) (TIv G W false ea .range2) := by
  refine pi_imp (pi_range2 hg hm ha hs hs2) fun σ H R ⟨ρ, π, h, E, M, q⟩ => ⟨ρ, π, h, E, M, q.imp fun ds h1 vs H1 π1 _ _ _ M1 R1 ⟨items, g, es, k2⟩ => ?_⟩
  change srcR2 ds = some (items, g) at es
  unfold srcR2 at es
  split at es
  · split at es
    · rename_i j hj
      cases es
      cases R1 with
      | cons r1 r2 =>
        cases r2 with
        | cons r2 r3 =>
          cases r3; cases rep_int r1; cases rep_int r2
          exact ⟨_, _, rfl, ⟨(small_ok hj.1).1, (small_ok hj.1).2, (small_ok hj.2).1, (small_ok hj.2).2⟩, k2 _ _ .refl M1 walkZ_range⟩
    · cases es
  · cases es

theorem walkZ_rangeC {H0 : Hp} {π0 : List Addr} {lo c : Int} {n : Nat} : WalkZ G H0 π0 (Itc lo c n) (rangeD lo c n) [] false := by
  have hl : (rangeD lo c n).length = n := by simp [rangeD]
  refine ⟨fun i H2 π2 h2 hi e2 p2 M2 g2 => ?_, fun H2 π2 h2 e2 p2 M2 g2 => ?_, fun i H2 π2 h2 y H3 hi e2 p2 M2 g2 yl => ?_⟩
  · rw [hl] at hi; exact hi
  · rw [hl]; exact Nat.le_refl _
  · obtain ⟨rfl, rfl⟩ := yl
    rw [hl] at hi
    refine ⟨.int (lo + i * c), ?_, .refl, M2, .inl ⟨rfl, .int _⟩⟩
    unfold rangeD
    rw [List.getElem?_map, List.getElem?_range hi]
    simp
theorem i_range3 {tg a b c : Expr} {p pos : Pos} {ea : Env' → Hm → R} (hg : Gl X "range") (hm : X.mg "range" = none) (ha : PA X [a, b, c] (TAv G W ea)) (hs : starEach [a, b, c] X.env = [(false, eval a X.env), (false, eval b X.env), (false, eval c X.env)]) (hs2 : starEach [b, c] X.env = [(false, eval b X.env), (false, eval c X.env)]) :
    PI X tg (.Call (.Name "range" p) [a, b, c] [] pos) (TIv G W false ea .range3) := by
  refine pi_imp (pi_range3 hg hm ha (by rw [hs, hs2]) (by rw [hs2]; rfl)) fun σ H R ⟨ρ, π, h, E, M, q⟩ => ⟨ρ, π, h, E, M, q.imp fun ds h1 vs H1 π1 _ _ _ M1 R1 ⟨items, g, es, k2⟩ => ?_⟩
  change srcR3 ds = some (items, g) at es
  unfold srcR3 at es
  split at es
  · split at es
    · rename_i j hj
      cases es
      cases R1 with
      | cons r1 r2 =>
        cases r2 with
        | cons r2 r3 =>
          cases r3 with
          | cons r3 r4 =>
            cases r4; cases rep_int r1; cases rep_int r2; cases rep_int r3
            exact ⟨_, _, _, _, rfl, ⟨hj.1, hj.2.1, hj.2.2.1, (Int.toNat_of_nonneg hj.2.2.2).symm⟩, k2 _ _ .refl M1 walkZ_rangeC⟩
    · cases es
  · cases es
/-- the walk from the end of a list or tuple that stands there -/
theorem walkZ_rev {H : Hp} {π : List Addr} {h : Hm} {x : D} {v : V} {xs : List D} (M : HmOk G H π h) (r : Rep G H π x v) (e : listOf h x = some xs) :
    ∃ a ys, v = .ref a ∧ ((SqL G.K H a ys ∧ WalkZ G H π (Itv G.K a ys.length) xs.reverse (gdOf x xs) false) ∨ (SqT G.K H a ys ∧ WalkZ G H π (RT.ItvT G.K a ys.length) xs.reverse (gdOf x xs) false)) := by
  obtain ⟨a, vs, e1, rs, kd⟩ := listOf_ok M r e
  refine ⟨a, vs, e1, ?_⟩
  have hl := rs.length
  have rev : ∀ {H2 π2 vs2} {i : Nat}, Reps G H2 π2 xs vs2 → i < xs.length → ∃ d y, xs.reverse[i]? = some d ∧ vs2[vs.length - 1 - i]? = some y ∧ Rep G H2 π2 d y := fun {H2 π2 vs2 i} q hi => by
    have e1 : xs.reverse[i]? = xs[xs.length - 1 - i]? := List.getElem?_reverse hi
    have e2 : xs.length - 1 - i < xs.length := by omega
    obtain ⟨y, h1, h2⟩ := q.get (List.getElem?_eq_getElem e2)
    refine ⟨_, y, e1.trans (List.getElem?_eq_getElem e2), ?_, h2⟩
    rw [← hl]; exact h1
  rcases kd with ⟨rfl, t⟩ | ⟨t, rfl⟩ | ⟨n, rfl, hn, hp, t⟩
  · refine .inr ⟨t.sqT, ⟨fun i H2 π2 h2 hi e2 p2 M2 g2 => ?_, fun H2 π2 h2 e2 p2 M2 g2 => ?_, fun i H2 π2 h2 y H3 hi e2 p2 M2 g2 yl => ?_⟩⟩
    · rw [List.length_reverse] at hi
      obtain ⟨d, y, _, q, _⟩ := rev (rs.mono e2 p2) hi
      exact ⟨by rw [← hl]; exact hi, vs, y, (e2.tupF t).sqT, q⟩
    · show vs.length ≤ _
      rw [List.length_reverse, hl]; exact Nat.le_refl _
    · rw [List.length_reverse] at hi
      obtain ⟨d, y2, q0, q, r2⟩ := rev (rs.mono e2 p2) hi
      obtain ⟨rfl, yl⟩ := yl
      have := (yl vs (e2.tupF t).sqT).symm.trans q
      cases this
      exact ⟨d, q0, .refl, M2, .inl ⟨rfl, r2⟩⟩
  · have sq : ∀ {H2}, Ext H H2 → SqL G.K H2 a vs := fun e2 => (e2.roL t).sq
    refine .inl ⟨sq .refl, ⟨fun i H2 π2 h2 hi e2 p2 M2 g2 => ?_, fun H2 π2 h2 e2 p2 M2 g2 => ?_, fun i H2 π2 h2 y H3 hi e2 p2 M2 g2 yl => ?_⟩⟩
    · rw [List.length_reverse] at hi
      obtain ⟨d, y, _, q, _⟩ := rev (rs.mono e2 p2) hi
      exact ⟨by rw [← hl]; exact hi, vs, y, sq e2, q⟩
    · show vs.length ≤ _
      rw [List.length_reverse, hl]; exact Nat.le_refl _
    · rw [List.length_reverse] at hi
      obtain ⟨d, y2, q0, q, r2⟩ := rev (rs.mono e2 p2) hi
      obtain ⟨rfl, yl⟩ := yl
      have := (yl vs (sq e2)).symm.trans q
      cases this
      exact ⟨d, q0, .refl, M2, .inl ⟨rfl, r2⟩⟩
  · have at2 : ∀ {H2 π2 h2}, π <+: π2 → HmOk G H2 π2 h2 → gdOk [(n, xs)] h2 = true → ∃ vs2, SqL G.K H2 a vs2 ∧ Reps G H2 π2 xs vs2 := fun {H2 π2 h2} p2 M2 g2 => by
      obtain ⟨a2, ha2, vs2, q1, q2⟩ := M2.at (gdOk_one g2)
      have : a2 = a := pre_get' p2 hp ha2
      subst this
      exact ⟨vs2, .of q1, q2⟩
    refine .inl ⟨.of t, ⟨fun i H2 π2 h2 hi e2 p2 M2 g2 => ?_, fun H2 π2 h2 e2 p2 M2 g2 => ?_, fun i H2 π2 h2 y H3 hi e2 p2 M2 g2 yl => ?_⟩⟩
    · rw [List.length_reverse] at hi
      obtain ⟨vs2, q1, q2⟩ := at2 p2 M2 g2
      obtain ⟨d, y, _, q, _⟩ := rev q2 hi
      exact ⟨by rw [← hl]; exact hi, vs2, y, q1, q⟩
    · show vs.length ≤ _
      rw [List.length_reverse, hl]; exact Nat.le_refl _
    · rw [List.length_reverse] at hi
      obtain ⟨vs2, q1, q2⟩ := at2 p2 M2 g2
      obtain ⟨d, y2, q0, q, r2⟩ := rev q2 hi
      obtain ⟨rfl, yl⟩ := yl
      have := (yl vs2 q1).symm.trans q
      cases this
      exact ⟨d, q0, .refl, M2, .inl ⟨rfl, r2⟩⟩
theorem i_rev {tg l : Expr} {p pos : Pos} {ea : Env' → Hm → R} (hK : G.K = X.K) (hg : Gl X "reversed") (hm : X.mg "reversed" = none) (hl : PE X l (TEv G W ea)) (hs : starEach [l] X.env = [(false, eval l X.env)]) :
    PI X tg (.Call (.Name "reversed" p) [l] [] pos) (TIv G W false (fun ρ h => (ea ρ h).bind fun d h1 => (R.ok (.tup []) h1).bind fun ds h2 => match ds with | .tup xs => .ok (.tup (d :: xs)) h2 | _ => .bad) .rev) := by
  refine pi_imp (RT.pi_revA hg hm hl (by rw [hs]; rfl)) fun σ H R ⟨ρ, π, h, E, M, p⟩ => ⟨ρ, π, h, E, M, ?_⟩
  dsimp only at p
  cases q : ea ρ h with
  | bad => rw [q] at p; exact p.elim
  | exn x h1 => rw [q] at p; exact p
  | ok d h1 =>
    rw [q] at p
    intro v H1 π1 e1 p1 M1 R1
    obtain ⟨items, g, es, k2⟩ := p [v] H1 π1 e1 p1 M1 (.cons R1 .nil)
    change (listOf h1 d).map _ = some (items, g) at es
    rw [Option.map_eq_some_iff] at es
    obtain ⟨xs, hl, e2⟩ := es
    cases e2
    obtain ⟨a, ys, rfl, hw⟩ := walkZ_rev M1 R1 hl
    rw [hK] at hw
    refine ⟨a, ys, rfl, ?_⟩
    rcases hw with ⟨hs, hw⟩ | ⟨hs, hw⟩
    · exact .inl ⟨hs, k2 _ _ .refl M1 hw⟩
    · exact .inr ⟨hs, k2 _ _ .refl M1 hw⟩

/-! ### targets -/
theorem wipe_idem (σ : L2.St) : ∀ (vs : List Nat) (i : Nat) (v : Option V), i ∈ vs → wipe (σ.set i v) vs = wipe σ vs
  | [], i, v, h => by cases h
  | u :: vs, i, v, h => by
    unfold wipe
    by_cases hi : i ∈ vs
    · rw [wipe_idem σ vs i v hi]
    · have e : i = u := by
        rcases List.mem_cons.mp h with e | e
        · exact e
        · exact absurd e hi
      subst e
      have : ∀ (vs : List Nat), i ∉ vs → wipe (σ.set i v) vs = (wipe σ vs).set i v := by
        intro vs
        induction vs with
        | nil => intro _; rfl
        | cons u vs ih =>
          intro hn
          simp only [List.mem_cons, not_or] at hn
          unfold wipe
          rw [ih hn.2, List.set_comm _ _ (fun e => hn.1 (by omega))]
      rw [this vs hi, List.set_set]
theorem wipe_wipe (σ : L2.St) : ∀ vs : List Nat, wipe (wipe σ vs) vs = wipe σ vs := by
  have : ∀ (us vs : List Nat), (∀ i ∈ us, i ∈ vs) → wipe (wipe σ us) vs = wipe σ vs := by
    intro us
    induction us with
    | nil => intro vs _; rfl
    | cons u us ih =>
      intro vs hs
      show wipe ((wipe σ us).set u none) vs = wipe σ vs
      rw [wipe_idem _ vs u none (hs u List.mem_cons_self)]
      exact ih vs fun i hi => hs i (List.mem_cons_of_mem _ hi)
  exact fun vs => this vs vs fun _ h => h
theorem EnvOk.wipe {H : Hp} {π : List Addr} {ρ : Env'} {σ : L2.St} (x : EnvOk G H π ρ σ) (hx : G.ex = none) : ∀ vs : List Nat, EnvOk G H π (wipeE ρ vs) (L2.wipe σ vs)
  | [] => x
  | v :: vs => by
    have ih := EnvOk.wipe x hx vs
    unfold wipeE L2.wipe
    refine ⟨by simp [ih.len], fun j d h => ?_, .none hx⟩
    by_cases hj : v = j
    · subst hj
      have hl : v < (wipeE ρ vs).length := by have := (List.getElem?_eq_some_iff.mp h).1; simpa using this
      rw [List.getElem?_set_self hl] at h
      cases h
    · rw [List.getElem?_set_ne hj] at h
      rw [List.getElem?_set_ne hj]
      exact ih.at' j d h
/-- the slots that a target stores -/
def Tg.slots : Tg → List Nat
  | .name i => [i] | .tup2 i j => [i, j] | .tup3 i j k => [i, j, k] | .tup4 i j k l => [i, j, k, l]
/-- a target's reading serves the small language's store -/
def TgOk (X : Cx) (G : Gx) (weak : Bool) (tg : Tg) (g : TG) : Prop := ∀ v σ H Q ρ ρ1 π h d, G.ex = none → EnvOk G H π ρ σ → HmOk G H π h → ItRep G H π weak d v → setT tg d ρ = some ρ1 →
  (∀ σ1, EnvOk G H π ρ1 σ1 → (∀ vs, (∀ i ∈ tg.slots, i ∈ vs) → L2.wipe σ1 vs = L2.wipe σ vs) → Q σ1 H) → g v σ H Q
theorem tg_name {i : Nat} : TgOk X G false (.name i) (gName i) := by
  intro v σ H Q ρ ρ1 π h d hx E M r e q
  simp only [setT, Option.some.injEq] at e
  subst e
  rcases r with ⟨_, r⟩ | ⟨z, _⟩
  · exact q _ (E.set hx r) fun vs hv => wipe_idem σ vs i _ (hv i (by simp [Tg.slots]))
  · cases z
theorem itRep_tup {H : Hp} {π : List Addr} {weak : Bool} {ds : List D} {v : V} (r : ItRep G H π weak (.tup ds) v) : ∃ T vs, v = .ref T ∧ SqT G.K H T vs ∧ Reps G H π ds vs := by
  rcases r with ⟨_, r⟩ | ⟨_, T, vs, ds', e, rfl, t, rs⟩
  · obtain ⟨a, vs, rfl, t, rs⟩ := rep_tup r
    exact ⟨a, vs, rfl, t.sqT, rs⟩
  · cases e; exact ⟨T, vs, rfl, t, rs⟩
theorem tg_tup2 {weak : Bool} {i j : Nat} (hK : G.K = X.K) : TgOk X G weak (.tup2 i j) (gTup X.K 2 (gCons (gName i) (gCons (gName j) gNil))) := by
  intro v σ H Q ρ ρ1 π h d hx E M r e q
  unfold setT at e
  split at e <;> first | (rename_i h1 _; cases h1; done) | (rename_i h1; cases h1; done) | skip
  · rename_i a b h1
    cases h1
    simp only [Option.some.injEq] at e
    subst e
    obtain ⟨T, vs, rfl, t, rs⟩ := itRep_tup r
    rw [hK] at t
    cases rs with
    | cons r1 rs => cases rs with
      | cons r2 rs =>
        cases rs
        refine ⟨T, _, rfl, t, rfl, _, _, rfl, _, _, rfl, rfl, q _ ((E.set hx r1).set hx r2) fun vs hv => ?_⟩
        rw [wipe_idem _ vs j _ (hv j (by simp [Tg.slots])), wipe_idem σ vs i _ (hv i (by simp [Tg.slots]))]
  · cases e
theorem tg_tup3 {weak : Bool} {i j k : Nat} (hK : G.K = X.K) : TgOk X G weak (.tup3 i j k) (gTup X.K 3 (gCons (gName i) (gCons (gName j) (gCons (gName k) gNil)))) := by
  intro v σ H Q ρ ρ1 π h d hx E M r e q
  unfold setT at e
  split at e <;> first | (rename_i h1 _; cases h1; done) | (rename_i h1; cases h1; done) | skip
  · rename_i a b c h1
    cases h1
    simp only [Option.some.injEq] at e
    subst e
    obtain ⟨T, vs, rfl, t, rs⟩ := itRep_tup r
    rw [hK] at t
    cases rs with
    | cons r1 rs => cases rs with
      | cons r2 rs => cases rs with
        | cons r3 rs =>
          cases rs
          refine ⟨T, _, rfl, t, rfl, _, _, rfl, _, _, rfl, _, _, rfl, rfl, q _ (((E.set hx r1).set hx r2).set hx r3) fun vs hv => ?_⟩
          rw [wipe_idem _ vs k _ (hv k (by simp [Tg.slots])), wipe_idem _ vs j _ (hv j (by simp [Tg.slots])), wipe_idem σ vs i _ (hv i (by simp [Tg.slots]))]
  · cases e
theorem tg_tup4 {weak : Bool} {i j k l : Nat} (hK : G.K = X.K) : TgOk X G weak (.tup4 i j k l) (gTup X.K 4 (gCons (gName i) (gCons (gName j) (gCons (gName k) (gCons (gName l) gNil))))) := by
  intro v σ H Q ρ ρ1 π h d hx E M r e q
  unfold setT at e
  split at e <;> first | (rename_i h1 _; cases h1; done) | (rename_i h1; cases h1; done) | skip
  · rename_i a b c f h1
    cases h1
    simp only [Option.some.injEq] at e
    subst e
    obtain ⟨T, vs, rfl, t, rs⟩ := itRep_tup r
    rw [hK] at t
    cases rs with
    | cons r1 rs => cases rs with
      | cons r2 rs => cases rs with
        | cons r3 rs => cases rs with
          | cons r4 rs =>
            cases rs
            refine ⟨T, _, rfl, t, rfl, _, _, rfl, _, _, rfl, _, _, rfl, _, _, rfl, rfl, q _ ((((E.set hx r1).set hx r2).set hx r3).set hx r4) fun vs hv => ?_⟩
            rw [wipe_idem _ vs l _ (hv l (by simp [Tg.slots])), wipe_idem _ vs k _ (hv k (by simp [Tg.slots])), wipe_idem _ vs j _ (hv j (by simp [Tg.slots])), wipe_idem σ vs i _ (hv i (by simp [Tg.slots]))]
  · cases e
end
end Z

set_option Elab.async false
set_option linter.all false
set_option maxRecDepth 100000
set_option maxHeartbeats 4000000
namespace Z
open PySem PySem.Spec PyProof.Rows L2
section
variable {P : Pg} {w k : Nat} {nm : Nm} {N : List Str} {sc : Scope} {hot : Option Nat} {G : Gx} {W : WX} {X : Cx}
abbrev W0 : WX := fun _ _ _ _ => False
/-- what a comprehension's evaluation is -/
def evComp (own : List Nat) (src : Src) (tg : Tg) (ea cond elt : Env' → Hm → R) : Env' → Hm → R := fun ρ h => onArgs (ea ρ h) fun xs h1 => match evSrc src xs h1 with
  | some (items, g) => compL g tg (wipeE ρ own) cond elt h1.length items (h1 ++ [.lst []])
  | none => .bad
theorem lc_read (hex : G.ex = none) {own : List Nat} {src : Src} {tg : Tg} {ea cond elt : Env' → Hm → R} {g : TG} {weak : Bool} {σ : L2.St} {H : Hp} {Q : VK} (hg : TgOk X G weak tg g) (hsl : ∀ i ∈ tg.slots, i ∈ own)
    (t : TEv G W (evComp own src tg ea cond elt) σ H Q) : tLc (TIv G W weak ea src) g (TTv G W0 cond) (TEv G W0 elt) own σ H Q := by
  obtain ⟨ρ, π, h, E, M, p⟩ := t
  refine ⟨ρ, π, h, E, M, p.args.imp fun ds h1 vs H1 π1 _ e1 p1 M1 R1 q => ?_⟩
  split at q
  · rename_i items gd hes
    refine ⟨items, gd, hes, fun J H2 e2 M2 wk D hD => ?_⟩
    have E2 : EnvOk G H2 π1 ρ σ := E.mono (e1.trans e2) p1
    have q := Post.weak e2 (List.prefix_refl _) q
    have hn : (π1 ++ [D])[h1.length]? = some D := by
      rw [List.getElem?_append_right (by rw [M2.len]; exact Nat.le_refl _), M2.len]; simp
    have step : ∀ {H : Hp} {π : List Addr} {h : Hm}, π1 ++ [D] <+: π → π1 <+: π := fun a => (List.prefix_append _ _).trans a
    let Wi : Nat → Hp → Prop := fun i H => ∃ π h, Ext H2 H ∧ π1 ++ [D] <+: π ∧ HmOk G H π h ∧ Post G W σ H π (compL gd tg (wipeE ρ own) cond elt h1.length (items.drop i) h) fun _ _ v H' _ => Q v H'
    refine ⟨fun i m H => m = items.length - i ∧ i ≤ items.length ∧ Wi i H, ⟨items.length, by simp, Nat.zero_le _, π1 ++ [D], h1 ++ [.lst []], .new hD, List.prefix_refl _, M2.push hD ⟨[], rfl, .nil⟩, ?_⟩, ?_⟩
    · rw [List.drop_zero]
      exact Post.weak (.new hD) (List.prefix_append _ _) q
    · rintro i m H ⟨rfl, hi, π', h', e', p', M', q'⟩
      by_cases hlt : i < items.length
      · rw [List.drop_eq_getElem_cons hlt] at q'
        unfold compL at q'
        split at q'
        · rename_i hgd
          refine .inr ⟨wk.goes i H π' h' hlt e' (step p' (H := H) (h := h')) M' hgd, Wi (i + 1), fun H' z => ⟨items.length - (i + 1), by omega, rfl, hlt, z⟩, fun x H' y => ?_⟩
          obtain ⟨d, hd, ex, Mx, rx⟩ := wk.yields i H π' h' x H' hlt e' (step p' (H := H) (h := h')) M' hgd y
          have ed : items[i] = d := by
            rw [List.getElem?_eq_getElem hlt] at hd; exact Option.some.inj hd
          rw [ed] at q'
          have q' := Post.weak ex (List.prefix_refl _) q'
          have Ew : EnvOk G H' π' (wipeE ρ own) (wipe σ own) := (E2.mono (e'.trans ex) (step p' (H := H) (h := h'))).wipe hex own
          split at q'
          · exact q'.elim
          · rename_i ρ1 hset
            refine hg x (wipe σ own) H' _ (wipeE ρ own) ρ1 π' h' d hex Ew Mx rx hset fun σ1 E1 hw => ⟨by rw [hw own hsl, wipe_wipe], ρ1, π', h', E1, Mx, ?_⟩
            cases qc : cond ρ1 h' with
            | bad => rw [qc] at q'; exact q'.elim
            | exn x3 h3 => rw [qc] at q'; exact q'.elim
            | ok c h3 =>
              rw [qc] at q'
              intro v3 H3 π3 e3 p3 M3 R3
              have q' := Post.weak e3 p3 q'
              dsimp only at q'
              cases qt : truth h3 c with
              | none => rw [qt] at q'; exact q'.elim
              | some b =>
                rw [qt] at q'
                refine ⟨b, rfl, ?_⟩
                cases b with
                | false =>
                  rw [if_neg Bool.false_ne_true]
                  exact ⟨π3, h3, (e'.trans ex).trans e3, p'.trans p3, M3, q'⟩
                | true =>
                  rw [if_pos rfl]
                  refine ⟨ρ1, π3, h3, E1.mono e3 p3, M3, ?_⟩
                  dsimp only at q'
                  cases qe : elt ρ1 h3 with
                  | bad => rw [qe] at q'; exact q'.elim
                  | exn x4 h4 => rw [qe] at q'; exact q'.elim
                  | ok y4 h4 =>
                    rw [qe] at q'
                    intro v4 H4 π4 e4 p4 M4 R4
                    have q' := Post.weak e4 p4 q'
                    dsimp only at q'
                    split at q'
                    · rename_i acc hacc
                      split at q'
                      · rename_i hz
                        have hp4 : π4[h1.length]? = some D := pre_get ((p'.trans p3).trans p4) hn
                        obtain ⟨a5, vs5, z1, z2, z3, z4⟩ := M4.lst hacc (.ref hp4)
                        cases z1
                        refine ⟨vs5, z3, by rw [← z4.length]; exact hz, π4, _, (((e'.trans ex).trans e3).trans e4).trans (.lst z3), (p'.trans p3).trans p4, M4.setl hp4 z3 (z4.append (.cons R4 .nil)), Post.weak (.lst z3) (List.prefix_refl _) q'⟩
                      · exact q'.elim
                    · exact q'.elim
        · exact q'.elim
      · have e : i = items.length := by omega
        subst e
        rw [List.drop_length] at q'
        unfold compL at q'
        split at q'
        · rename_i hgd
          refine .inl ⟨wk.stops H π' h' e' (step p' (H := H) (h := h')) M' hgd, ?_⟩
          exact post_pure M' (.ref (pre_get p' hn)) q'
        · exact q'.elim
  · exact q.elim
theorem pts_yes : PTs X [] (TTv G W fun _ h => .ok (.bl true) h) := ⟨fun pins s σ H Q I ⟨ρ, π, h, E, M, p⟩ => by
  obtain ⟨b, hb, q⟩ := p (.bl true) H π .refl (List.prefix_refl _) M (.bl true)
  simp only [truth, Option.some.injEq] at hb
  subst hb
  exact pts_nil.run pins s σ H Q I q⟩
/-- a block's context -/
theorem OkE.blk (o : OkE P w k nm N sc none G W X) {scope : Scope} {own : List (Str × Nat)} (bo : BlkOk N X.env.scope scope own) (s : Shared) (H : Hp) (C : Addr) (cl : List (Str × Addr)) (fp : List Addr) :
    OkE P w k nm N scope none G W0 (X.blk s H scope (compEnvC scope cl C X.env) fp) where
  hK := o.hK
  hmg := o.hmg
  hxs := o.hxs
  hN := o.hN
  nd := o.nd
  kin := bo.kind
  sc1 := fun x kd h => by
    show ∃ kd', (relS scope X.env.scope).names.lookup x = some kd' ∧ _
    by_cases hk : kd = .free
    · subst hk
      have hm : (x, NameKind.free) ∈ scope.names := PySem.mem_of_lookup h
      unfold relS
      have : ∀ {names : List (Str × NameKind)}, names.lookup x = some .free → ∃ kd', (names.map fun (n, k) => if (k == NameKind.free && X.env.scope.kind == .function && X.env.scope.names.lookup n == some .cell) then (n, NameKind.cell) else (n, k)).lookup x = some kd' ∧ (kd' = .free ∨ kd' = .cell) := by
        intro names
        induction names with
        | nil => intro h; simp at h
        | cons p r ih =>
          obtain ⟨n, k0⟩ := p
          intro h
          cases hx : x == n with
          | true =>
            simp only [List.lookup_cons, hx] at h
            cases h
            simp only [List.map_cons]
            by_cases hc : (NameKind.free == NameKind.free && X.env.scope.kind == .function && X.env.scope.names.lookup n == some .cell) = true
            · rw [if_pos hc]
              exact ⟨.cell, by simp only [List.lookup_cons, hx], .inr rfl⟩
            · rw [if_neg hc]
              exact ⟨.free, by simp only [List.lookup_cons, hx], .inl rfl⟩
          | false =>
            simp only [List.lookup_cons, hx] at h
            obtain ⟨kd', h1, h2⟩ := ih h
            refine ⟨kd', ?_, h2⟩
            simp only [List.map_cons]
            split <;> (simp only [List.lookup_cons, hx]; exact h1)
      obtain ⟨kd', h1, h2⟩ := this h
      refine ⟨kd', h1, ?_⟩
      rcases h2 with rfl | rfl
      · exact .inl rfl
      · exact .inr ⟨rfl, rfl⟩
    · exact ⟨kd, lookup_relS_keep hk h, .inl rfl⟩
  ek := bo.kind
  sto := fun x h => by
    rcases h with h | h
    · exact .inr (lookup_relS_keep (by decide) h)
    · exact .inl (by show (scope.names.lookup x == some .cell) = true; rw [h]; rfl)
  tk := takes_none5
  units := o.units
  calm := o.calm
  room := o.room
  gex := o.gex
  fns := o.fns
  kf := o.kf
  blt := o.blt
  xn := o.xn
  xk := o.xk
  xb := o.xb
  hx := fun z => absurd rfl z
  hi := fun i z => by cases z
  cst := o.cst
end
end Z

set_option Elab.async false
set_option linter.all false
set_option maxRecDepth 100000
set_option maxHeartbeats 4000000
namespace Z
open PySem PySem.Spec PyProof.Rows L2

/-! ### expressions, each with its reading -/
structure CE (P : Pg) (nm : Nm) (N : List Str) (sc : Scope) (hot : Option Nat) (e : Expr) where
  e' : E
  pe : ∀ w k G W X, OkE P w k nm N sc hot G W X → PE X e (TEv G W (evE (callF P w k) e'))
structure CT (P : Pg) (nm : Nm) (N : List Str) (sc : Scope) (hot : Option Nat) (e : Expr) where
  e' : E
  pt : ∀ w k G W X, OkE P w k nm N sc hot G W X → PT X e (TTv G W (evE (callF P w k) e'))
structure CA (P : Pg) (nm : Nm) (N : List Str) (sc : Scope) (hot : Option Nat) (es : List Expr) where
  a' : E
  pa : ∀ w k G W X, OkE P w k nm N sc hot G W X → PA X es (TAv G W (evE (callF P w k) a'))
  star : ∀ env, starEach es env = es.map fun e => (false, eval e env)
section
variable {P : Pg} {nm : Nm} {N : List Str} {sc : Scope} {hot : Option Nat} {w k : Nat} {G : Gx} {W : WX} {X : Cx}

theorem star_any {es : List Expr} {env : Env} {pos : Pos} (h : starEach es env = es.map fun e => (false, eval e env)) : (backTo pos (starEach es env)).any (·.1) = false := by
  rw [h]
  unfold backTo
  induction es with
  | nil => rfl
  | cons e r ih => simp
theorem star_all {es : List Expr} {env : Env} {pos : Pos} (h : starEach es env = es.map fun e => (false, eval e env)) : (backTo pos (starEach es env)).all (fun x => !x.1) = true := by
  rw [h]
  unfold backTo
  induction es with
  | nil => rfl
  | cons e r ih => simp
theorem star_head {e : Expr} {es : List Expr} {env : Env} (h : starEach (e :: es) env = (e :: es).map fun e => (false, eval e env)) (h2 : starEach es env = es.map fun e => (false, eval e env)) : starEach (e :: es) env = (false, eval e env) :: starEach es env := by
  rw [h, h2]; rfl
/-- no star -/
def noStar : Expr → Bool
  | .Starred .. => false
  | _ => true
theorem star_cons {e : Expr} {es : List Expr} {env : Env} (h : noStar e = true) : starEach (e :: es) env = (false, eval e env) :: starEach es env := by
  cases e <;> first | rfl | cases h

/-! #### names and constants -/
theorem e_var {i : Nat} {x : Str} {pos : Pos} {c : Nat → List D → Hm → Z.R} (o : OkE P w k nm N sc hot G W X) (hi : N[i]? = some x) (hv : sc.names.lookup x = some .local ∨ sc.names.lookup x = some .cell ∨ sc.names.lookup x = some .free)
    (hd : (x == ("__debug__" : Str)) = false) (hcd : (x == ("__classdict__" : Str)) = false) : PE X (.Name x pos) (TEv G W (evE c (.var i))) := by
  refine pe_imp (pe_var (by rw [o.hN]; exact hi) (o.vis hv) hd hcd) fun σ H Q ⟨ρ, π, h, E, M, p⟩ => ?_
  unfold evE at p
  split at p
  · rename_i d hd
    obtain ⟨v, h1, h2⟩ := E.at' i d hd
    exact ⟨v, h1, post_pure M h2 p⟩
  · exact p.elim
theorem e_glob {x : Str} {d : D} {pos : Pos} {c : Nat → List D → Hm → Z.R} (o : OkE P w k nm N sc hot G W X) (hx : (x, d) ∈ nm.cst) (hg : sc.names.lookup x = some .globalImplicit) (hd : (x == ("__debug__" : Str)) = false) :
    PE X (.Name x pos) (TEv G W (evE c (.lit d))) := by
  obtain ⟨v, u, hm, r, hr⟩ := o.cst x d hx
  exact pe_imp (pe_glob (o.gl hg) hm r hd) fun σ H Q ⟨ρ, π, h, E, M, p⟩ => post_pure M (hr H π) p
theorem e_lit {d : D} {v : V} {e : Expr} {c : Nat → List D → Hm → Z.R} (he : PE X e (tC v)) (hr : ∀ H π, Rep G H π d v) : PE X e (TEv G W (evE c (.lit d))) :=
  pe_imp he fun σ H Q ⟨ρ, π, h, E, M, p⟩ => post_pure M (hr H π) p
def cName (x : Str) (pos : Pos) : Option (CE P nm N sc hot (.Name x pos)) :=
  if hd : (x == ("__debug__" : Str)) = false ∧ (x == ("__classdict__" : Str)) = false then
    let i := N.findIdx (· == x)
    if hi : N[i]? = some x then
      if hv : sc.names.lookup x = some .local ∨ sc.names.lookup x = some .cell ∨ sc.names.lookup x = some .free then
        some ⟨.var i, fun w k G W X o => e_var o hi hv hd.1 hd.2⟩
      else none
    else match hc : nm.cst.lookup x with
      | some d => if hg : sc.names.lookup x = some .globalImplicit then some ⟨.lit d, fun w k G W X o => e_glob o (PySem.mem_of_lookup hc) hg hd.1⟩ else none
      | none => none
  else none
def cConst (c : Const) (j : Nat) (pos : Pos) : Option (CE P nm N sc hot (.Constant c j pos)) := match c with
  | .int i => some ⟨.lit (.int i), fun w k G W X o => e_lit pe_int fun _ _ => .int i⟩
  | .bool b => some ⟨.lit (.bl b), fun w k G W X o => e_lit pe_bl fun _ _ => .bl b⟩
  | .none => some ⟨.lit .non, fun w k G W X o => e_lit pe_non fun _ _ => .non⟩
  | .str x => some ⟨.lit (.str x), fun w k G W X o => e_lit pe_str fun _ _ => .str x⟩
  | _ => none

/-! #### operators -/
theorem ev_prim2 {c : Nat → List D → Hm → Z.R} {p : Pm} {a b : E} {ρ : Env'} {h : Hm} :
    evE c (.prim p (.cons a (.cons b .nil))) ρ h = (evE c a ρ h).bind fun x h1 => (evE c b ρ h1).bind fun y h2 => evP p [x, y] h2 := by
  simp only [evE]
  cases evE c a ρ h with
  | ok d h1 =>
    simp only [R.bind_ok]
    cases evE c b ρ h1 <;> rfl
  | _ => rfl
theorem ev_prim1 {c : Nat → List D → Hm → Z.R} {p : Pm} {a : E} {ρ : Env'} {h : Hm} :
    evE c (.prim p (.cons a .nil)) ρ h = (evE c a ρ h).bind fun x h1 => evP p [x] h1 := by
  simp only [evE]
  cases evE c a ρ h <;> rfl
theorem ev_prim3 {c : Nat → List D → Hm → Z.R} {p : Pm} {a b d : E} {ρ : Env'} {h : Hm} :
    evE c (.prim p (.cons a (.cons b (.cons d .nil)))) ρ h = (evE c a ρ h).bind fun x h1 => (evE c b ρ h1).bind fun y h2 => (evE c d ρ h2).bind fun z h3 => evP p [x, y, z] h3 := by
  simp only [evE]
  cases evE c a ρ h with
  | ok x h1 =>
    simp only [R.bind_ok]
    cases evE c b ρ h1 with
    | ok y h2 =>
      simp only [R.bind_ok]
      cases evE c d ρ h2 <;> rfl
    | _ => rfl
  | _ => rfl
/-- an operator's two operands -/
theorem e_op {op : Operator} {p : Pm} {a b : Expr} {pos : Pos} {ea eb : E} {c : Nat → List D → Hm → Z.R} (ho : OpR X (binaryOp op) (rA2 G W fun x y h => evP p [x, y] h)) (ha : PE X a (TEv G W (evE c ea))) (hb : PE X b (TEv G W (evE c eb))) :
    PE X (.BinOp a op b pos) (TEv G W (evE c (.prim p (.cons ea (.cons eb .nil))))) := by
  refine pe_imp (pe_op ho ha hb) fun σ H Q t => ?_
  have t : TEv G W (fun ρ h => (evE c ea ρ h).bind fun x h1 => (evE c eb ρ h1).bind fun y h2 => evP p [x, y] h2) σ H Q := by
    obtain ⟨ρ, π, h, E, M, q⟩ := t
    exact ⟨ρ, π, h, E, M, by rw [ev_prim2] at q; exact q⟩
  obtain ⟨ρ, π, h, E, M, q⟩ := t
  exact ⟨ρ, π, h, E, M, q.bind.imp fun d h1 v H1 π1 _ e p M1 R1 p1 => ⟨ρ, π1, h1, E.mono e p, M1, p1.bind.imp fun d2 h2 v2 H2 π2 _ e2 p2 M2 R2 q2 => ⟨σ, π2, h2, d, d2, M2, R1.mono e2 p2, R2, q2⟩⟩⟩
theorem e_cmp {op : CmpOp} {p : Pm} {a b : Expr} {pos : Pos} {ea eb : E} {c : Nat → List D → Hm → Z.R} (ho : OpR X (compareOp op) (rA2 G W fun x y h => evP p [x, y] h)) (hm : behindInMarks op b = false) (ha : PE X a (TEv G W (evE c ea))) (hb : PE X b (TEv G W (evE c eb))) :
    PE X (.Compare a [op] [b] pos) (TEv G W (evE c (.prim p (.cons ea (.cons eb .nil))))) := by
  refine pe_imp (pe_cmpR ho ha hb hm) fun σ H Q t => ?_
  obtain ⟨ρ, π, h, E, M, q⟩ := t
  rw [ev_prim2] at q
  exact ⟨ρ, π, h, E, M, q.bind.imp fun d h1 v H1 π1 _ e p M1 R1 p1 => ⟨ρ, π1, h1, E.mono e p, M1, p1.bind.imp fun d2 h2 v2 H2 π2 _ e2 p2 M2 R2 q2 => ⟨σ, π2, h2, d, d2, M2, R1.mono e2 p2, R2, q2⟩⟩⟩
def binPm : Operator → Option Pm
  | .Add => some .add | .Sub => some .sub | .Mult => some .mul | .FloorDiv => some .fdiv | .Mod => some .mod | .Pow => some .pow | _ => none
theorem bin_ok (o : OkE P w k nm N sc hot G W X) {op : Operator} {p : Pm} (h : binPm op = some p) : OpR X (binaryOp op) (rA2 G W fun x y h => evP p [x, y] h) := by
  cases op <;> simp only [binPm, Option.some.injEq, reduceCtorEq] at h <;> subst h
  · exact z_add o.hK
  · exact z_sub
  · exact z_mul
  · exact z_mod
  · exact z_pow
  · exact z_fdiv
def cmpPm : CmpOp → Option Pm
  | .Eq => some .eq | .NotEq => some .ne | .Lt => some .lt | .LtE => some .le | .Gt => some .gt | .GtE => some .ge | .Is => some .is | .IsNot => some .isnot | .In => some .isin | .NotIn => some .notin
theorem cmp_ok (o : OkE P w k nm N sc hot G W X) {op : CmpOp} {p : Pm} (h : cmpPm op = some p) : OpR X (compareOp op) (rA2 G W fun x y h => evP p [x, y] h) := by
  cases op <;> simp only [cmpPm, Option.some.injEq] at h <;> subst h
  · exact z_eq o.hK (by have := o.units; omega)
  · exact z_ne o.hK (by have := o.units; omega)
  · exact z_lt o.hK (by have := o.units; omega)
  · exact z_le o.hK (by have := o.units; omega)
  · exact z_gt o.hK (by have := o.units; omega)
  · exact z_ge o.hK (by have := o.units; omega)
  · exact z_is
  · exact z_isnot
  · exact z_in o.hK
  · exact z_notin o.hK
/-- a comparison tells a truth value -/
theorem cmp_bl {op : CmpOp} {p : Pm} (h : cmpPm op = some p) (x y : D) (m : Hm) (d : D) (m' : Hm) (e : evP p [x, y] m = .ok d m') : (∃ c, d = .bl c) ∧ m' = m := by
  have cmp : ∀ {f : Int → Int → Bool} {g : PyData → PyData → Bool}, opCmp f g x y m = .ok d m' → (∃ c, d = .bl c) ∧ m' = m := fun {f g} e => by
    rcases opCmp_cases e with ⟨i, j, _, _, q⟩ | q | ⟨a, b, _, _, _, q⟩
    · cases q; exact ⟨⟨_, rfl⟩, rfl⟩
    · cases q
    · cases q; exact ⟨⟨_, rfl⟩, rfl⟩
  cases op <;> simp only [cmpPm, Option.some.injEq] at h <;> subst h <;> first | exact cmp e | (simp only [evP, opEq, opNe, opIs, opIsnot, opIn, opNotin] at e; (split at e <;> first | (cases e; exact ⟨⟨_, rfl⟩, rfl⟩) | cases e))
theorem e_neg {a : Expr} {pos : Pos} {ea : E} {c : Nat → List D → Hm → Z.R} (ha : PE X a (TEv G W (evE c ea))) : PE X (.UnaryOp .USub a pos) (TEv G W (evE c (.prim .neg (.cons ea .nil)))) := by
  refine pe_imp (pe_un (z_neg (G := G) (W := W)) ha) fun σ H Q t => ?_
  obtain ⟨ρ, π, h, E, M, q⟩ := t
  rw [ev_prim1] at q
  exact ⟨ρ, π, h, E, M, q.bind.imp fun d h1 v H1 π1 _ _ _ M1 R1 p1 => ⟨σ, π1, h1, d, M1, R1, p1⟩⟩
theorem e_chain {op op' : CmpOp} {p p' : Pm} {a b d : Expr} {pos : Pos} {ea eb ed : E} {c : Nat → List D → Hm → Z.R} (hp : cmpPm op = some p) (o : OkE P w k nm N sc hot G W X) (hp' : cmpPm op' = some p') (hm : lastMarks [op, op'] [b, d] = false)
    (ha : PE X a (TEv G W (evE c ea))) (hb : PE X b (TEv G W (evE c eb))) (hd : PE X d (TEv G W (evE c ed))) : PE X (.Compare a [op, op'] [b, d] pos) (TEv G W (evE c (.chain p p' ea eb ed))) := by
  refine pe_imp (pe_chain (cmp_ok o hp) (cmp_ok o hp') ha hb hd hm) fun σ H Q ⟨ρ, π, h, E, M, q⟩ => ⟨ρ, π, h, E, M, ?_⟩
  unfold evE at q
  refine q.bind.imp fun x h1 vx H1 π1 _ e1 p1 M1 R1 q => ⟨ρ, π1, h1, E.mono e1 p1, M1, q.bind.imp fun y h2 vy H2 π2 _ e2 p2 M2 R2 q => ⟨σ, π2, h2, x, y, M2, R1.mono e2 p2, R2, q.bind.imp fun z h3 vz H3 π3 er e3 p3 M3 R3 q => ?_⟩⟩
  obtain ⟨⟨t, rfl⟩, rfl⟩ := cmp_bl hp x y h2 z h3 er
  cases rep_bl R3
  refine ⟨t, rfl, ?_⟩
  cases t with
  | false => rw [if_neg Bool.false_ne_true]; exact post_pure M3 (.bl false) q
  | true =>
    rw [if_pos rfl]
    exact ⟨ρ, π3, _, ((E.mono e1 p1).mono e2 p2).mono e3 p3, M3, q.bind.imp fun u h4 vu H4 π4 _ e4 p4 M4 R4 q => ⟨σ, π4, h4, y, u, M4, (R2.mono e3 p3).mono e4 p4, R4, q⟩⟩
theorem t_chain {op op' : CmpOp} {p p' : Pm} {a b d : Expr} {pos : Pos} {ea eb ed : E} {c : Nat → List D → Hm → Z.R} (hp : cmpPm op = some p) (o : OkE P w k nm N sc hot G W X) (hp' : cmpPm op' = some p') (hm : lastMarks [op, op'] [b, d] = false)
    (ha : PE X a (TEv G W (evE c ea))) (hb : PE X b (TEv G W (evE c eb))) (hd : PE X d (TEv G W (evE c ed))) : PT X (.Compare a [op, op'] [b, d] pos) (TTv G W (evE c (.chain p p' ea eb ed))) := by
  refine pt_imp (pt_chain (cmp_ok o hp) (cmp_ok o hp') ha hb hd hm) fun σ H Q ⟨ρ, π, h, E, M, q⟩ => ⟨ρ, π, h, E, M, ?_⟩
  unfold evE at q
  refine q.bind.imp fun x h1 vx H1 π1 _ e1 p1 M1 R1 q => ⟨ρ, π1, h1, E.mono e1 p1, M1, q.bind.imp fun y h2 vy H2 π2 _ e2 p2 M2 R2 q => ⟨σ, π2, h2, x, y, M2, R1.mono e2 p2, R2, q.bind.imp fun z h3 vz H3 π3 er e3 p3 M3 R3 q => ?_⟩⟩
  obtain ⟨⟨t, rfl⟩, rfl⟩ := cmp_bl hp x y h2 z h3 er
  cases rep_bl R3
  refine ⟨t, rfl, ?_⟩
  cases t with
  | false =>
    rw [if_neg Bool.false_ne_true]
    obtain ⟨b', hb', q⟩ := q (.bl false) H3 π3 .refl (List.prefix_refl _) M3 (.bl false)
    simp only [truth, Option.some.injEq] at hb'
    subst hb'
    exact ⟨false, rfl, q⟩
  | true =>
    rw [if_pos rfl]
    refine ⟨ρ, π3, _, ((E.mono e1 p1).mono e2 p2).mono e3 p3, M3, q.bind.imp fun u h4 vu H4 π4 _ e4 p4 M4 R4 q => ⟨σ, π4, h4, y, u, M4, (R2.mono e3 p3).mono e4 p4, R4, q.imp fun z5 h5 v5 H5 π5 er5 _ _ _ R5 ⟨b', hb', q⟩ => ?_⟩⟩
    obtain ⟨⟨t5, rfl⟩, rfl⟩ := cmp_bl hp' y u h4 z5 h5 er5
    cases rep_bl R5
    simp only [truth, Option.some.injEq] at hb'
    subst hb'
    exact ⟨t5, rfl, q⟩
theorem t_cmp' {op : CmpOp} {p : Pm} {a b : Expr} {pos : Pos} {ea eb : E} {c : Nat → List D → Hm → Z.R} (hp : cmpPm op = some p) (o : OkE P w k nm N sc hot G W X) (hm : behindInMarks op b = false) (ha : PE X a (TEv G W (evE c ea))) (hb : PE X b (TEv G W (evE c eb))) :
    PT X (.Compare a [op] [b] pos) (TTv G W (evE c (.prim p (.cons ea (.cons eb .nil))))) := by
  refine pt_imp (t_cmp (f := fun x y h => evP p [x, y] h) (cmp_ok o hp) (fun x y h d h' e => (cmp_bl hp x y h d h' e).1) ha hb hm) fun σ H Q ⟨ρ, π, h, E, M, q⟩ => ⟨ρ, π, h, E, M, ?_⟩
  rw [ev_prim2] at q
  exact q

/-! #### and, or, not, if -/
theorem e_not {a : Expr} {pos : Pos} {ea : E} {c : Nat → List D → Hm → Z.R} (hK : G.K = X.K) (ha : PE X a (TEv G W (evE c ea))) : PE X (.UnaryOp .Not a pos) (TEv G W (evE c (.not ea))) := by
  refine pe_imp (pe_notT ha) fun σ H Q ⟨ρ, π, h, E, M, q⟩ => ⟨ρ, π, h, E, M, ?_⟩
  unfold evE at q
  refine q.bind.imp fun x h1 vx H1 π1 _ _ _ M1 R1 q => ?_
  split at q
  · rename_i b hb
    have := truth_ok M1 R1 hb
    rw [hK] at this
    exact ⟨b, this, post_pure M1 (.bl _) q⟩
  · exact q.elim
theorem t_not {a : Expr} {pos : Pos} {ea : E} {c : Nat → List D → Hm → Z.R} (ha : PT X a (TTv G W (evE c ea))) : PT X (.UnaryOp .Not a pos) (TTv G W (evE c (.not ea))) := by
  refine pt_imp (pt_not ha) fun σ H Q ⟨ρ, π, h, E, M, q⟩ => ⟨ρ, π, h, E, M, ?_⟩
  unfold evE at q
  refine q.bind.imp fun x h1 vx H1 π1 _ _ _ M1 R1 q => ?_
  split at q
  · rename_i b hb
    obtain ⟨b', hb', q⟩ := q (.bl (!b)) H1 π1 .refl (List.prefix_refl _) M1 (.bl _)
    simp only [truth, Option.some.injEq] at hb'
    subst hb'
    exact ⟨b, hb, q⟩
  · exact q.elim
theorem e_and {a b : Expr} {rest : List Expr} {pos : Pos} {ea eb : E} {c : Nat → List D → Hm → Z.R} (hK : G.K = X.K) (ha : PE X a (TEv G W (evE c ea))) (hb : PE X (.BoolOp .And (b :: rest) pos) (TEv G W (evE c eb))) :
    PE X (.BoolOp .And (a :: b :: rest) pos) (TEv G W (evE c (.and ea eb))) := by
  refine pe_imp (pe_andT ha hb) fun σ H Q ⟨ρ, π, h, E, M, q⟩ => ⟨ρ, π, h, E, M, ?_⟩
  unfold evE at q
  refine q.bind.imp fun x h1 vx H1 π1 _ e1 p1 M1 R1 q => ?_
  split at q
  · rename_i hb
    have := truth_ok M1 R1 hb
    rw [hK] at this
    exact ⟨true, this, by (try dsimp only); rw [if_pos rfl]; exact ⟨ρ, π1, h1, E.mono e1 p1, M1, q⟩⟩
  · rename_i hb
    have := truth_ok M1 R1 hb
    rw [hK] at this
    exact ⟨false, this, by (try dsimp only); rw [if_neg Bool.false_ne_true]; exact post_pure M1 R1 q⟩
  · exact q.elim
theorem e_or {a b : Expr} {rest : List Expr} {pos : Pos} {ea eb : E} {c : Nat → List D → Hm → Z.R} (hK : G.K = X.K) (ha : PE X a (TEv G W (evE c ea))) (hb : PE X (.BoolOp .Or (b :: rest) pos) (TEv G W (evE c eb))) :
    PE X (.BoolOp .Or (a :: b :: rest) pos) (TEv G W (evE c (.or ea eb))) := by
  refine pe_imp (pe_orT ha hb) fun σ H Q ⟨ρ, π, h, E, M, q⟩ => ⟨ρ, π, h, E, M, ?_⟩
  unfold evE at q
  refine q.bind.imp fun x h1 vx H1 π1 _ e1 p1 M1 R1 q => ?_
  split at q
  · rename_i hb
    have := truth_ok M1 R1 hb
    rw [hK] at this
    exact ⟨true, this, by (try dsimp only); rw [if_pos rfl]; exact post_pure M1 R1 q⟩
  · rename_i hb
    have := truth_ok M1 R1 hb
    rw [hK] at this
    exact ⟨false, this, by (try dsimp only); rw [if_neg Bool.false_ne_true]; exact ⟨ρ, π1, h1, E.mono e1 p1, M1, q⟩⟩
  · exact q.elim
theorem pw_imp {e : Expr} {t t' : TT} (h : PW X e t) (q : ∀ σ H Q, t' σ H Q → t σ H Q) : PW X e t' := ⟨fun wh pins s σ H Q I z => h.run wh pins s σ H Q I (q _ _ _ z)⟩
theorem w_and {a b : Expr} {rest : List Expr} {pos : Pos} {ea eb : E} {c : Nat → List D → Hm → Z.R} (ha : PT X a (TTv G W (evE c ea))) (hb : PW X (.BoolOp .And (b :: rest) pos) (TTv G W (evE c eb))) :
    PW X (.BoolOp .And (a :: b :: rest) pos) (TTv G W (evE c (.and ea eb))) := by
  refine pw_imp (pw_and ha hb) fun σ H Q ⟨ρ, π, h, E, M, q⟩ => ⟨ρ, π, h, E, M, ?_⟩
  unfold evE at q
  refine q.bind.imp fun x h1 vx H1 π1 _ e1 p1 M1 R1 q => ?_
  split at q
  · rename_i hb
    exact ⟨true, hb, by (try dsimp only); rw [if_pos rfl]; exact ⟨ρ, π1, h1, E.mono e1 p1, M1, q⟩⟩
  · rename_i hb
    refine ⟨false, hb, ?_⟩
    dsimp only
    rw [if_neg Bool.false_ne_true]
    obtain ⟨b', hb', q⟩ := q vx H1 π1 .refl (List.prefix_refl _) M1 R1
    rw [hb] at hb'
    cases hb'
    exact q
  · exact q.elim
theorem w_or {a b : Expr} {rest : List Expr} {pos : Pos} {ea eb : E} {c : Nat → List D → Hm → Z.R} (ha : PT X a (TTv G W (evE c ea))) (hb : PW X (.BoolOp .Or (b :: rest) pos) (TTv G W (evE c eb))) :
    PW X (.BoolOp .Or (a :: b :: rest) pos) (TTv G W (evE c (.or ea eb))) := by
  refine pw_imp (pw_or ha hb) fun σ H Q ⟨ρ, π, h, E, M, q⟩ => ⟨ρ, π, h, E, M, ?_⟩
  unfold evE at q
  refine q.bind.imp fun x h1 vx H1 π1 _ e1 p1 M1 R1 q => ?_
  split at q
  · rename_i hb
    refine ⟨true, hb, ?_⟩
    dsimp only
    rw [if_pos rfl]
    obtain ⟨b', hb', q⟩ := q vx H1 π1 .refl (List.prefix_refl _) M1 R1
    rw [hb] at hb'
    cases hb'
    exact q
  · rename_i hb
    exact ⟨false, hb, by (try dsimp only); rw [if_neg Bool.false_ne_true]; exact ⟨ρ, π1, h1, E.mono e1 p1, M1, q⟩⟩
  · exact q.elim
theorem e_ite {a b t : Expr} {pos : Pos} {ea eb et : E} {c : Nat → List D → Hm → Z.R} (ht : PT X t (TTv G W (evE c et))) (ha : PE X a (TEv G W (evE c ea))) (hb : PE X b (TEv G W (evE c eb))) :
    PE X (.IfExp t a b pos) (TEv G W (evE c (.ite et ea eb))) := by
  refine pe_imp (pe_ifExp ht ha hb) fun σ H Q ⟨ρ, π, h, E, M, q⟩ => ⟨ρ, π, h, E, M, ?_⟩
  unfold evE at q
  refine q.bind.imp fun x h1 vx H1 π1 _ e1 p1 M1 R1 q => ?_
  split at q
  · rename_i hb
    exact ⟨true, hb, by (try dsimp only); rw [if_pos rfl]; exact ⟨ρ, π1, h1, E.mono e1 p1, M1, q⟩⟩
  · rename_i hb
    exact ⟨false, hb, by (try dsimp only); rw [if_neg Bool.false_ne_true]; exact ⟨ρ, π1, h1, E.mono e1 p1, M1, q⟩⟩
  · exact q.elim
end
end Z

set_option Elab.async false
set_option linter.all false
set_option maxRecDepth 100000
set_option maxHeartbeats 4000000
namespace Z
open PySem PySem.Spec PyProof.Rows L2
section
variable {P : Pg} {nm : Nm} {N : List Str} {sc : Scope} {hot : Option Nat} {w k : Nat} {G : Gx} {W : WX} {X : Cx}

/-! #### calls -/
theorem ev_args {c : Nat → List D → Hm → Z.R} {p : Pm} {a : E} {ρ : Env'} {h : Hm} : evE c (.prim p a) ρ h = onArgs (evE c a ρ h) (evP p) := by
  simp only [evE]; rfl
theorem e_blt {x : Str} {id : String} {p : Pm} {e : Expr} {es : List Expr} {p0 pos : Pos} {a : E} {c : Nat → List D → Hm → Z.R} (hc : CallR X (.builtin id) (rAn G W (evP p))) (hg : Gl X x) (hm : X.mg x = none) (hv : bootBuiltins x = some (.builtin id))
    (ha : PA X (e :: es) (TAv G W (evE c a))) (hn : x ≠ "__name__") (hdb : (x == ("__debug__" : Str)) = false) (he : starEach (e :: es) X.env = (false, eval e X.env) :: starEach es X.env) (hpl : (backTo pos (starEach es X.env)).any (·.1) = false) :
    PE X (.Call (.Name x p0) (e :: es) [] pos) (TEv G W (evE c (.prim p a))) := by
  refine pe_imp (pe_callB hc hg hm hv ha hn hdb he hpl) fun σ H Q ⟨ρ, π, h, E, M, q⟩ => ?_
  rw [ev_args] at q
  exact ⟨ρ, π, h, E, M, q.args.imp fun ds h1 vs H1 π1 _ _ _ M1 R1 p1 => ⟨σ, π1, h1, ds, M1, R1, p1⟩⟩
theorem e_bty {x : Str} {T : String} {p : Pm} {e : Expr} {es : List Expr} {p0 pos : Pos} {a : E} {c : Nat → List D → Hm → Z.R} (hc : CallR X (.type T) (rAn G W (evP p))) (hg : Gl X x) (hm : X.mg x = none) (hv : bootBuiltins x = some (.type T))
    (ha : PA X (e :: es) (TAv G W (evE c a))) (hn : x ≠ "__name__") (hdb : (x == ("__debug__" : Str)) = false) (he : starEach (e :: es) X.env = (false, eval e X.env) :: starEach es X.env) (hpl : (backTo pos (starEach es X.env)).any (·.1) = false) :
    PE X (.Call (.Name x p0) (e :: es) [] pos) (TEv G W (evE c (.prim p a))) := by
  refine pe_imp (pe_callTy hc hg hm hv ha hn hdb he hpl) fun σ H Q ⟨ρ, π, h, E, M, q⟩ => ?_
  rw [ev_args] at q
  exact ⟨ρ, π, h, E, M, q.args.imp fun ds h1 vs H1 π1 _ _ _ M1 R1 p1 => ⟨σ, π1, h1, ds, M1, R1, p1⟩⟩
/-- the built-ins by name and number of arguments -/
inductive Bl where
  | fn (id : String) (p : Pm) | ty (T : String) (p : Pm)
def bltTab : List ((Str × Nat) × Bl) := [(("len", 1), .fn "len" .len), (("abs", 1), .fn "abs" .abs), (("max", 2), .fn "max" .max2), (("min", 2), .fn "min" .min2), (("max", 1), .fn "max" .maxl), (("min", 1), .fn "min" .minl), (("sum", 1), .fn "sum" .suml),
  (("sorted", 1), .fn "sorted" .sorted), (("list", 1), .ty "list" .list), (("tuple", 1), .ty "tuple" .tuple), (("int", 1), .ty "int" .int), (("all", 1), .fn "all" .alll), (("any", 1), .fn "any" .anyl)]
def bltOf (x : Str) (n : Nat) : Option Bl := bltTab.lookup (x, n)
def Bl.pm : Bl → Pm
  | .fn _ p => p
  | .ty _ p => p
def BlOk (G : Gx) (W : WX) (X : Cx) (x : Str) : Bl → Prop
  | .fn id p => CallR X (.builtin id) (rAn G W (evP p)) ∧ bootBuiltins x = some (.builtin id) ∧ x ∈ bltNames ∧ x ≠ "__name__" ∧ (x == ("__debug__" : Str)) = false
  | .ty T p => CallR X (.type T) (rAn G W (evP p)) ∧ bootBuiltins x = some (.type T) ∧ x ∈ bltNames ∧ x ≠ "__name__" ∧ (x == ("__debug__" : Str)) = false
theorem mem_lk {α β : Type} [BEq α] [LawfulBEq α] : ∀ {l : List (α × β)} {x : α} {b : β}, l.lookup x = some b → (x, b) ∈ l
  | [], x, b, h => by cases h
  | (y, c) :: r, x, b, h => by
    rw [List.lookup_cons] at h
    split at h
    · rename_i e
      have := eq_of_beq e
      subst this
      cases h
      exact List.mem_cons_self
    · exact List.mem_cons_of_mem _ (mem_lk h)
theorem blt_ok (o : OkE P w k nm N sc none G W X) {x : Str} {n : Nat} {b : Bl} (h : bltOf x n = some b) : BlOk G W X x b := by
  have hm := mem_lk (l := bltTab) h
  simp only [bltTab, List.mem_cons, List.not_mem_nil, or_false, Prod.mk.injEq] at hm
  have u : X.A.units + 64 < cLine := by have := o.units; omega
  rcases hm with ⟨⟨rfl, _⟩, rfl⟩ | ⟨⟨rfl, _⟩, rfl⟩ | ⟨⟨rfl, _⟩, rfl⟩ | ⟨⟨rfl, _⟩, rfl⟩ | ⟨⟨rfl, _⟩, rfl⟩ | ⟨⟨rfl, _⟩, rfl⟩ | ⟨⟨rfl, _⟩, rfl⟩ | ⟨⟨rfl, _⟩, rfl⟩ | ⟨⟨rfl, _⟩, rfl⟩ | ⟨⟨rfl, _⟩, rfl⟩ | ⟨⟨rfl, _⟩, rfl⟩ | ⟨⟨rfl, _⟩, rfl⟩ | ⟨⟨rfl, _⟩, rfl⟩
  · exact ⟨c_len o.hK, by decide +kernel, by decide +kernel, by decide +kernel, by decide +kernel⟩
  · exact ⟨c_abs, by decide +kernel, by decide +kernel, by decide +kernel, by decide +kernel⟩
  · exact ⟨c_max2 o.hK u (o.calm rfl), by decide +kernel, by decide +kernel, by decide +kernel, by decide +kernel⟩
  · exact ⟨c_min2 (o.calm rfl), by decide +kernel, by decide +kernel, by decide +kernel, by decide +kernel⟩
  · exact ⟨c_max o.hK u (o.calm rfl), by decide +kernel, by decide +kernel, by decide +kernel, by decide +kernel⟩
  · exact ⟨c_min o.hK u (o.calm rfl), by decide +kernel, by decide +kernel, by decide +kernel, by decide +kernel⟩
  · exact ⟨c_sum o.hK (o.calm rfl), by decide +kernel, by decide +kernel, by decide +kernel, by decide +kernel⟩
  · exact ⟨c_sorted o.hK, by decide +kernel, by decide +kernel, by decide +kernel, by decide +kernel⟩
  · exact ⟨c_list o.hK, by decide +kernel, by decide +kernel, by decide +kernel, by decide +kernel⟩
  · exact ⟨c_tuple o.hK, by decide +kernel, by decide +kernel, by decide +kernel, by decide +kernel⟩
  · exact ⟨c_int, by decide +kernel, by decide +kernel, by decide +kernel, by decide +kernel⟩
  · exact ⟨c_all o.hK (o.calm rfl), by decide +kernel, by decide +kernel, by decide +kernel, by decide +kernel⟩
  · exact ⟨c_any o.hK (o.calm rfl), by decide +kernel, by decide +kernel, by decide +kernel, by decide +kernel⟩
theorem e_blt' {x : Str} {n : Nat} {b : Bl} {e : Expr} {es : List Expr} {p0 pos : Pos} {a : E} {c : Nat → List D → Hm → Z.R} (o : OkE P w k nm N sc none G W X) (h : bltOf x n = some b) (hg : sc.names.lookup x = some .globalImplicit) (ha : PA X (e :: es) (TAv G W (evE c a)))
    (he : starEach (e :: es) X.env = (false, eval e X.env) :: starEach es X.env) (hpl : (backTo pos (starEach es X.env)).any (·.1) = false) : PE X (.Call (.Name x p0) (e :: es) [] pos) (TEv G W (evE c (.prim b.pm a))) := by
  have q := blt_ok o h
  cases b with
  | fn id p => obtain ⟨h1, h2, h3, h4, h5⟩ := q; exact e_blt h1 (o.gl hg) (o.blt x h3) h2 ha h4 h5 he hpl
  | ty T p => obtain ⟨h1, h2, h3, h4, h5⟩ := q; exact e_bty h1 (o.gl hg) (o.blt x h3) h2 ha h4 h5 he hpl
/-- a def of the text -/
theorem e_call {x : Str} {i : Nat} {e : Expr} {es : List Expr} {p0 pos : Pos} {a : E} (o : OkE P w k nm N sc none G W X) (hx : (x, i) ∈ nm.fns) (hg : sc.names.lookup x = some .globalImplicit) (hdb : (x == ("__debug__" : Str)) = false)
    (ha : PA X (e :: es) (TAv G W (evE (callF P w k) a))) (he : starEach (e :: es) X.env = (false, eval e X.env) :: starEach es X.env) (hpl : (backTo pos (starEach es X.env)).any (·.1) = false) :
    PE X (.Call (.Name x p0) (e :: es) [] pos) (TEv G W (evE (callF P w k) (.call i a))) := by
  obtain ⟨f, fd, ps, hm, hk, hb, F⟩ := o.fns x i hx
  refine pe_imp (pe_callS F (o.room rfl) (o.gl hg) hm hk hb (fun σ => passAt o.tk σ) ha hdb he hpl) fun σ H Q ⟨ρ, π, h, E, M, q⟩ => ⟨ρ, π, h, E, M, ?_⟩
  have q : Post G W σ H π (onArgs (evE (callF P w k) a ρ h) (callF P w k i)) fun _ _ v H' _ => Q v H' := by
    simp only [evE] at q; exact q
  refine q.args.imp fun ds h1 vs H1 π1 _ _ _ M1 R1 p1 => ?_
  have hG : G = ⟨X.K, X.mg, nm.exc.map (·.1), none⟩ := by
    obtain ⟨K, mg, xs, ex⟩ := G
    have h1 := o.hK; have h2 := o.hmg; have h3 := o.gex rfl; have h4 := o.hxs
    simp only at h1 h2 h3 h4
    rw [h1, h2, h3, h4]
  subst hG
  refine ⟨π1, h1, ds, M1, R1, ?_⟩
  cases z : callF P w k i ds h1 with
  | bad => rw [z] at p1; exact p1.elim
  | ok d h2 => rw [z] at p1; exact p1
  | exn x h2 => rw [z] at p1; exact p1

/-- a def with keyword-only parameters, all left out -/
theorem e_callD {x : Str} {i : Nat} {dl : List (Str × D)} {e : Expr} {es : List Expr} {p0 pos : Pos} {a : E} (o : OkE P w k nm N sc none G W X) (hx : (x, i, dl) ∈ nm.kws) (hg : sc.names.lookup x = some .globalImplicit) (hdb : (x == ("__debug__" : Str)) = false)
    (ha : PA X (e :: es) (TAv G W (evE (callF P w k) a))) (he : starEach (e :: es) X.env = (false, eval e X.env) :: starEach es X.env) (hpl : (backTo pos (starEach es X.env)).any (·.1) = false) :
    PE X (.Call (.Name x p0) (e :: es) [] pos) (TEv G W (evE (callF P w k) (.callD i a (dl.map (·.2))))) := by
  obtain ⟨f, fd, ps, us, dv, hm, hk, hv, hr, hb, _, F⟩ := o.kf x i dl hx
  refine pe_imp (pe_callSD F (o.room rfl) (o.gl hg) hm hk hb hv (fun σ => passAt o.tk σ) ha hdb he hpl) fun σ H Q ⟨ρ, π, h, E, M, q⟩ => ⟨ρ, π, h, E, M, ?_⟩
  have q : Post G W σ H π (onArgs (evE (callF P w k) a ρ h) (fun xs h1 => callF P w k i (xs ++ dl.map (·.2)) h1)) fun _ _ v H' _ => Q v H' := by
    simp only [evE] at q; exact q
  refine q.args.imp fun ds h1 vs H1 π1 _ _ _ M1 R1 p1 => ?_
  have hG : G = ⟨X.K, X.mg, nm.exc.map (·.1), none⟩ := by
    obtain ⟨K, mg, xs, ex⟩ := G
    have h1 := o.hK; have h2 := o.hmg; have h3 := o.gex rfl; have h4 := o.hxs
    simp only at h1 h2 h3 h4
    rw [h1, h2, h3, h4]
  subst hG
  refine ⟨π1, h1, ds ++ dl.map (·.2), M1, R1.append (hr _ _ _), ?_⟩
  cases z : callF P w k i (ds ++ dl.map (·.2)) h1 with
  | bad => rw [z] at p1; exact p1.elim
  | ok d h2 => rw [z] at p1; exact p1
  | exn x h2 => rw [z] at p1; exact p1

/-- how long a written row of arguments is -/
def E.lenC : E → Option Nat
  | .nil => some 0
  | .cons _ r => r.lenC.map (· + 1)
  | _ => none
theorem lenC_ok {c : Nat → List D → Hm → Z.R} : ∀ {e : E} {n : Nat} {ρ : Env'} {h h' : Hm} {xs : List D}, e.lenC = some n → evE c e ρ h = .ok (.tup xs) h' → xs.length = n
  | .nil, n, ρ, h, h', xs, e, q => by
    simp only [E.lenC, Option.some.injEq] at e
    simp only [evE] at q
    cases q; subst e; rfl
  | .cons a r, n, ρ, h, h', xs, e, q => by
    simp only [E.lenC, Option.map_eq_some_iff] at e
    obtain ⟨m, e1, rfl⟩ := e
    simp only [evE] at q
    cases z : evE c a ρ h with
    | bad => rw [z] at q; cases q
    | exn x h1 => rw [z] at q; cases q
    | ok d h1 =>
      rw [z] at q
      simp only [R.bind_ok] at q
      cases z2 : evE c r ρ h1 with
      | bad => rw [z2] at q; cases q
      | exn x h2 => rw [z2] at q; cases q
      | ok ds h2 =>
        rw [z2] at q
        simp only [R.bind_ok] at q
        cases ds <;> simp only [reduceCtorEq] at q
        cases q
        rw [List.length_cons, lenC_ok e1 z2]
  | .var _, _, _, _, _, _, e, _ => by simp [E.lenC] at e
  | .lit _, _, _, _, _, _, e, _ => by simp [E.lenC] at e
  | .prim .., _, _, _, _, _, e, _ => by simp [E.lenC] at e
  | .meth .., _, _, _, _, _, e, _ => by simp [E.lenC] at e
  | .call .., _, _, _, _, _, e, _ => by simp [E.lenC] at e
  | .callD .., _, _, _, _, _, e, _ => by simp [E.lenC] at e
  | .app .., _, _, _, _, _, e, _ => by simp [E.lenC] at e
  | .tup .., _, _, _, _, _, e, _ => by simp [E.lenC] at e
  | .lst .., _, _, _, _, _, e, _ => by simp [E.lenC] at e
  | .and .., _, _, _, _, _, e, _ => by simp [E.lenC] at e
  | .or .., _, _, _, _, _, e, _ => by simp [E.lenC] at e
  | .not .., _, _, _, _, _, e, _ => by simp [E.lenC] at e
  | .ite .., _, _, _, _, _, e, _ => by simp [E.lenC] at e
  | .chain .., _, _, _, _, _, e, _ => by simp [E.lenC] at e
  | .comp .., _, _, _, _, _, e, _ => by simp [E.lenC] at e
  | .xis .., _, _, _, _, _, e, _ => by simp [E.lenC] at e
  | .xfld .., _, _, _, _, _, e, _ => by simp [E.lenC] at e
theorem kw_each (kws : List Keyword) (env : Env) : keywordEach kws env = kws.map fun k => (k.arg, eval k.value env) := by
  induction kws with
  | nil => rfl
  | cons k r ih =>
    obtain ⟨n, v, p⟩ := k
    simp only [keywordEach, ih, List.map_cons]
theorem PostA.tail {r : R} {f : Env' → Hm → R} {ρ : Env'} {g : List D → Hm → R} {h : Hm} {σ : L2.St} {H : Hp} {π : List Addr} {C : D → Hm → V → Hp → List Addr → Prop}
    (p : Post G W σ H π (onArgs (r.bind fun ds h1 => match ds with | .tup xs => ((f ρ h1).bind fun es h2 => match es with | .tup ys => .ok (.tup (xs ++ ys)) h2 | _ => .bad) | _ => .bad) g) C) :
    PostA G W σ H π r fun xs h1 vs H1 π1 => PostA G W σ H1 π1 (f ρ h1) fun ys h2 us H2 π2 => Post G W σ H2 π2 (g (xs ++ ys) h2) C := by
  cases r with
  | bad => exact p.elim
  | exn x h1 => exact p
  | ok d h1 =>
    cases d with
    | tup xs =>
      intro vs H1 π1 e1 p1 M1 R1
      simp only [onArgs, R.bind_ok] at p
      have p := Post.weak e1 p1 p
      cases z : f ρ h1 with
      | bad => rw [z] at p; exact p.elim
      | exn x h2 => rw [z] at p; exact p
      | ok es h2 =>
        rw [z] at p
        cases es with
        | tup ys => exact fun us H2 π2 e2 p2 M2 R2 => Post.weak e2 p2 p
        | _ => exact p.elim
    | _ => exact p.elim
/-! #### methods -/
def mtName : Pm → Option Str
  | .append => some "append" | .pop => some "pop" | .count => some "count" | .extend => some "extend" | .reverse => some "reverse" | .clear => some "clear" | _ => none
def mtOf (x : Str) (n : Nat) : Option Pm :=
  if x = ("append" : Str) ∧ n = 1 then some .append else if x = ("pop" : Str) ∧ n = 0 then some .pop else if x = ("count" : Str) ∧ n = 1 then some .count else if x = ("extend" : Str) ∧ n = 1 then some .extend
  else if x = ("reverse" : Str) ∧ n = 0 then some .reverse else if x = ("clear" : Str) ∧ n = 0 then some .clear else if x = ("index" : Str) ∧ n = 1 then some .index else none
theorem tyOk_sq {a : Addr} {vs : List V} {H : Hp} (h : SqL X.K H a vs) : TyOk X (.ref a) H "list" := tyOk_of (.inl ⟨rfl, vs, h⟩)
theorem recv_ok {p : Pm} {x : Str} {n : Nat} {H : Hp} {π : List Addr} {h : Hm} {d : D} {v : V} (hu : X.A.units + 65 < cLine) (hK : G.K = X.K) (hm : mtOf x n = some p) (M : HmOk G H π h) (r : Rep G H π d v) (e : recvOk p d h = true) :
    ∃ r, Recv X v H x r ∧ ∀ vs H2 Q, (rMt G W p v vs H2 Q ∧ Ext H H2 ∧ ((lstOf h d).isSome = true → ∀ a, v = .ref a → ∃ us', SqL X.K H2 a us')) → r v vs H2 Q := by
  have lst : (lstOf h d).isSome = true → ∃ a vs, v = .ref a ∧ SqL X.K H a vs := fun z => by
    obtain ⟨xs, hx⟩ := Option.isSome_iff_exists.mp z
    obtain ⟨a, vs, e1, _, e3⟩ := lstOf_sq M r hx
    rw [hK] at e3
    exact ⟨a, vs, e1, e3⟩
  unfold mtOf at hm
  repeat' (split at hm)
  all_goals first
    | (cases hm; done)
    | skip
  all_goals (rename_i hx; obtain ⟨rfl, _⟩ := hx; cases hm)
  · obtain ⟨a, vs, rfl, sq⟩ := lst e
    exact ⟨_, ⟨"list", "list.append", PySem.F.plainAttrs_list, PySem.F.slot_list_append, PySem.F.type_list_append, m_append, tyOk_sq sq⟩, fun vs H2 Q q => q.1⟩
  · obtain ⟨a, vs, rfl, sq⟩ := lst e
    exact ⟨_, ⟨"list", "list.pop", PySem.F.plainAttrs_list, PySem.F.slot_list_pop, PySem.F.type_list_pop, m_pop, tyOk_sq sq⟩, fun vs H2 Q q => q.1⟩
  · obtain ⟨xs, hx⟩ := Option.isSome_iff_exists.mp (show (listOf h d).isSome = true from e)
    obtain ⟨a, vs, rfl, _, kd⟩ := listOf_ok M r hx
    rw [hK] at kd
    have fin : (lstOf h d).isSome = true → SqL X.K H a vs → ∃ r, Recv X (.ref a) H ("count" : Str) r ∧ ∀ vs H2 Q, (rMt G W .count (.ref a) vs H2 Q ∧ Ext H H2 ∧ ((lstOf h d).isSome = true → ∀ a_1, V.ref a = .ref a_1 → ∃ us', SqL X.K H2 a_1 us')) → r (.ref a) vs H2 Q := fun hl sq =>
      ⟨_, ⟨"list", "list.count", PySem.F.plainAttrs_list, PySem.F.slot_list_count, PySem.F.type_list_count, m_lcountA hK (a := a), tyOk_sq sq⟩, fun vs' H2 Q q => by
        obtain ⟨us', z⟩ := q.2.2 hl a rfl
        exact ⟨⟨us', rfl, z⟩, q.1⟩⟩
    rcases kd with ⟨rfl, t⟩ | ⟨t, rfl⟩ | ⟨n, rfl, hn, _, t⟩
    · exact ⟨_, ⟨"tuple", "tuple.count", PySem.F.plainAttrs_tuple, PySem.F.slot_tuple_count, PySem.F.type_tuple_count, m_tcount hK (a := a) (vs := vs), tyOk_tup t⟩, fun vs' H2 Q q => ⟨⟨rfl, q.2.1.tupF t⟩, q.1⟩⟩
    · exact fin rfl t.sq
    · exact fin (by show (listOf h (.ref n)).isSome = true; rw [hx]; rfl) (.of t)
  · obtain ⟨a, vs, rfl, sq⟩ := lst e
    exact ⟨_, ⟨"list", "list.extend", PySem.F.plainAttrs_list, PySem.F.slot_list_extend, PySem.F.type_list_extend, m_extend, tyOk_sq sq⟩, fun vs H2 Q q => q.1⟩
  · obtain ⟨a, vs, rfl, sq⟩ := lst e
    exact ⟨_, ⟨"list", "list.reverse", PySem.F.plainAttrs_list, PySem.F.slot_list_reverse, PySem.F.type_list_reverse, m_reverse, tyOk_sq sq⟩, fun vs H2 Q q => q.1⟩
  · obtain ⟨a, vs, rfl, sq⟩ := lst e
    exact ⟨_, ⟨"list", "list.clear", PySem.F.plainAttrs_list, PySem.F.slot_list_clear, PySem.F.type_list_clear, m_clear, tyOk_sq sq⟩, fun vs H2 Q q => q.1⟩
  · obtain ⟨a, vs, rfl, sq⟩ := lst e
    exact ⟨_, ⟨"list", "list.index", PySem.F.plainAttrs_list, PySem.F.slot_list_index, PySem.F.type_list_index, m_index hK hu, tyOk_sq sq⟩, fun vs H2 Q q => q.1⟩
theorem ev_meth {c : Nat → List D → Hm → Z.R} {p : Pm} {o a : E} {ρ : Env'} {h : Hm} :
    evE c (.meth p o a) ρ h = (evE c o ρ h).bind fun x h1 => if recvOk p x h1 = true then onArgs (evE c a ρ h1) (fun xs => evP p (x :: xs)) else .bad := by
  simp only [evE]; rfl
theorem sq_later {H H2 : Hp} {π π2 : List Addr} {h h2 : Hm} {d : D} {v : V} (r : Rep G H π d v) (e : Ext H H2) (p : π <+: π2) (M2 : HmOk G H2 π2 h2) {a : Addr} (ev : v = .ref a) (hx : (lstOf h d).isSome = true) : ∃ us', SqL G.K H2 a us' := by
  subst ev
  cases r with
  | tup t rs => simp [lstOf] at hx
  | ro t rs => exact ⟨_, (e.roL t).sq⟩
  | @ref n a hp =>
    have h2p := pre_get p hp
    have hl : n < h2.length := by rw [← M2.len]; exact (List.getElem?_eq_some_iff.mp h2p).1
    have q := M2.cell n h2[n] _ (by simp [hl]) h2p
    cases hc : h2[n] with
    | lst xs =>
      rw [hc] at q
      obtain ⟨vs, q1, _⟩ := q
      exact ⟨vs, .of q1⟩
  | xv => simp [lstOf, listOf] at hx
theorem meth_read {p : Pm} {x : Str} {n : Nat} {eo ea : Env' → Hm → Z.R} (hu : X.A.units + 65 < cLine) (hK : G.K = X.K) (hm : mtOf x n = some p) {σ : L2.St} {H : Hp} {Q : VK}
    (t : TEv G W (fun ρ h => (eo ρ h).bind fun x h1 => if recvOk p x h1 = true then onArgs (ea ρ h1) (fun xs => evP p (x :: xs)) else .bad) σ H Q) : tMt X x (TEv G W eo) (TAv G W ea) σ H Q := by
  obtain ⟨ρ, π, h, E, M, q⟩ := t
  refine ⟨ρ, π, h, E, M, q.bind.imp fun d h1 v H1 π1 _ e1 p1 M1 R1 q => ?_⟩
  split at q
  · rename_i hr
    obtain ⟨r, hr1, hr2⟩ := recv_ok hu hK hm M1 R1 hr
    refine ⟨r, hr1, ρ, π1, h1, E.mono e1 p1, M1, q.args.imp fun ds h2 vs H2 π2 _ e2 p2 M2 R2 q => hr2 vs H2 Q ⟨⟨σ, π2, h2, d, ds, M2, R1.mono e2 p2, R2, q⟩, e2, fun hx a ev => ?_⟩⟩
    have := sq_later R1 e2 p2 M2 ev hx
    rw [hK] at this
    exact this
  · exact q.elim
theorem e_meth {p : Pm} {m : Str} {ob e : Expr} {es : List Expr} {apos cpos : Pos} {eo a : E} {c : Nat → List D → Hm → Z.R} (hu : X.A.units + 65 < cLine) (hK : G.K = X.K) (hm : mtOf m (e :: es).length = some p) (ho : PE X ob (TEv G W (evE c eo))) (ha : PA X (e :: es) (TAv G W (evE c a)))
    (hbase : attributeBase ob m X.env (eval ob X.env) = eval ob X.env) (hst : starEach (e :: es) X.env = (e :: es).map fun e => (false, eval e X.env)) (hst2 : starEach es X.env = es.map fun e => (false, eval e X.env)) (hfew : (e :: es).length < 30) (hline : (apos.endLine == cpos.line) = true) :
    PE X (.Call (.Attribute ob m apos) (e :: es) [] cpos) (TEv G W (evE c (.meth p eo a))) := by
  refine pe_imp (pe_mt ho ha hbase ?_ hline (star_head hst hst2) (star_any hst2)) fun σ H Q ⟨ρ, π, h, E, M, q⟩ => meth_read hu hK hm ⟨ρ, π, h, E, M, by rw [ev_meth] at q; exact q⟩
  rw [star_all hst]
  simp only [backToKw, keywordEach, List.map_nil, List.all_nil, Bool.and_true, Bool.true_and, decide_eq_true_eq, List.length_nil, List.isEmpty_nil, if_true]
  omega
theorem e_meth0 {p : Pm} {m : Str} {ob : Expr} {apos cpos : Pos} {eo : E} {c : Nat → List D → Hm → Z.R} (hu : X.A.units + 65 < cLine) (hK : G.K = X.K) (hm : mtOf m 0 = some p) (ho : PE X ob (TEv G W (evE c eo)))
    (hbase : attributeBase ob m X.env (eval ob X.env) = eval ob X.env) (hline : (apos.endLine == cpos.line) = true) :
    PE X (.Call (.Attribute ob m apos) [] [] cpos) (TEv G W (evE c (.meth p eo .nil))) := by
  refine pe_imp (pe_mt0 ho hbase hline) fun σ H Q ⟨ρ, π, h, E, M, q⟩ => ?_
  obtain ⟨ρ, π, h, E, M, q⟩ := meth_read (ea := fun _ h => .ok (.tup []) h) hu hK hm ⟨ρ, π, h, E, M, by rw [ev_meth] at q; simp only [evE] at q; exact q⟩
  exact ⟨ρ, π, h, E, M, q.imp fun d h1 v H1 π1 _ _ _ M1 R1 ⟨r, h2, ρ2, π2, hh, E2, M2, q2⟩ => ⟨r, h2, q2 [] H1 π2 .refl (List.prefix_refl _) M2 .nil⟩⟩

/-! #### subscripts, displays -/
theorem e_idx {a b : Expr} {pos : Pos} {ea eb : E} {c : Nat → List D → Hm → Z.R} (hK : G.K = X.K) (hs : PlainIx b) (ha : PE X a (TEv G W (evE c ea))) (hb : PE X b (TEv G W (evE c eb))) :
    PE X (.Subscript a b pos) (TEv G W (evE c (.prim .idx (.cons ea (.cons eb .nil))))) := by
  refine pe_imp (pe_ix (z_idx (W := W) hK) ha hb hs) fun σ H Q ⟨ρ, π, h, E, M, q⟩ => ?_
  rw [ev_prim2] at q
  exact ⟨ρ, π, h, E, M, q.bind.imp fun d h1 v H1 π1 _ e p M1 R1 p1 => ⟨ρ, π1, h1, E.mono e p, M1, p1.bind.imp fun d2 h2 v2 H2 π2 _ e2 p2 M2 R2 q2 => ⟨σ, π2, h2, d, d2, M2, R1.mono e2 p2, R2, q2⟩⟩⟩
/-- a part of a slice -/
def TOv (G : Gx) (W : WX) (ev : Env' → Hm → Z.R) : TO := fun σ H Q => ∃ ρ π h, EnvOk G H π ρ σ ∧ HmOk G H π h ∧ Post G W σ H π (ev ρ h) fun d _ _ H' _ => ∃ o, partOf d = some o ∧ Q o H'
theorem po_imp {e : Option Expr} {t t' : TO} (h : PO X e t) (q : ∀ σ H Q, t' σ H Q → t σ H Q) : PO X e t' := ⟨fun pins s σ H Q I z => h.run pins s σ H Q I (q _ _ _ z)⟩
theorem o_none {c : Nat → List D → Hm → Z.R} : PO X none (TOv G W (evE c (.lit .non))) := po_imp po_none fun σ H Q ⟨ρ, π, h, E, M, q⟩ => by
  obtain ⟨o, h1, h2⟩ := q .non H π .refl (List.prefix_refl _) M .non
  cases h1
  exact h2
theorem o_some {e : Expr} {ea : E} {c : Nat → List D → Hm → Z.R} (h : PE X e (TEv G W (evE c ea))) : PO X (some e) (TOv G W (evE c (.prim .part (.cons ea .nil)))) := po_imp (po_some h) fun σ H Q ⟨ρ, π, h, E, M, q⟩ => by
  rw [ev_prim1] at q
  refine ⟨ρ, π, h, E, M, q.bind.imp fun d h1 v H1 π1 _ _ _ M1 R1 q => ?_⟩
  change Post G W σ H1 π1 (opPart d h1) _ at q
  unfold opPart at q
  split at q
  · split at q
    · rename_i hz
      cases rep_int R1
      obtain ⟨o, h1, h2⟩ := q _ H1 π1 .refl (List.prefix_refl _) M1 (.int _)
      change (if _ then _ else _) = _ at h1
      rw [if_pos hz] at h1
      cases h1
      exact ⟨_, rfl, h2⟩
    · exact q.elim
  · exact q.elim
/-- a part's value serves -/
def PartOk (c : Nat → List D → Hm → Z.R) (el : E) : Prop := ∀ ρ h d h', evE c el ρ h = .ok d h' → ∃ o, partOf d = some o
theorem part_none {c : Nat → List D → Hm → Z.R} : PartOk c (.lit .non) := fun ρ h d h' e => by
  simp only [evE, R.ok.injEq] at e
  rw [← e.1]; exact ⟨none, rfl⟩
theorem part_some {c : Nat → List D → Hm → Z.R} {ea : E} : PartOk c (.prim .part (.cons ea .nil)) := fun ρ h d h' e => by
  rw [ev_prim1] at e
  cases z : evE c ea ρ h with
  | ok d1 h1 =>
    rw [z] at e
    change opPart d1 h1 = .ok d h' at e
    unfold opPart at e
    split at e
    · split at e
      · rename_i hz
        cases e
        exact ⟨_, if_pos hz⟩
      · cases e
    · cases e
  | bad => rw [z] at e; cases e
  | exn x h1 => rw [z] at e; cases e
theorem e_slice {a : Expr} {lo hi : Option Expr} {pos p2 : Pos} {ea el eh : E} {c : Nat → List D → Hm → Z.R} (hK : G.K = X.K) (ha : PE X a (TEv G W (evE c ea))) (hl : PO X lo (TOv G W (evE c el))) (hh : PO X hi (TOv G W (evE c eh))) (pl : PartOk c el) (ph : PartOk c eh) :
    PE X (.Subscript a (.Slice lo hi none p2) pos) (TEv G W (evE c (.prim .slice (.cons ea (.cons el (.cons eh .nil)))))) := by
  refine pe_imp (pe_slice (z_slice (W := W) hK) ha hl hh) fun σ H Q ⟨ρ, π, h, E, M, q⟩ => ⟨ρ, π, h, E, M, ?_⟩
  rw [ev_prim3] at q
  refine q.bind.imp fun d h1 v H1 π1 _ e1 p1 M1 R1 q => ⟨ρ, π1, h1, E.mono e1 p1, M1, q.bind.imp fun d2 h2 v2 H2 π2 er2 e2 p2 M2 R2 q => ?_⟩
  obtain ⟨lo2, el2⟩ := pl _ _ _ _ er2
  refine ⟨lo2, el2, ρ, π2, h2, (E.mono e1 p1).mono e2 p2, M2, q.bind.imp fun d3 h3 v3 H3 π3 er3 e3 p3 M3 R3 q => ?_⟩
  obtain ⟨hi2, eh2⟩ := ph _ _ _ _ er3
  exact ⟨hi2, eh2, σ, π3, h3, d, d2, d3, M3, (R1.mono e2 p2).mono e3 p3, el2, eh2, q⟩
/-- a tuple, the new one known -/
theorem pe_tupZ {es : List Expr} {x1 : Nat} {pos : Pos} {t : TA} (h : PA X es t) : PE X (.Tuple es x1 pos) (fun σ H Q => t σ H fun xs H1 => xs.length ≤ sizeLine ∧ ∀ o p, o.cls = .type "tuple" → o.dict = none → H1 p = none → Q (.ref p) (upd H1 p (.frz o (.tup xs)))) := by
  refine ⟨fun pins s σ H Q I hq => ?_⟩
  refine wpAny_Tuple_spliced (thn (h.run pos pins s σ H _ I hq) fun us s1 ⟨xs, H1, I1, r, z, q⟩ => ⟨by rw [← r.length]; exact z, ?_⟩)
  have hf : H1 s1.heap.objs.size = none := I1.hok.fresh (Nat.le_refl _)
  refine ⟨.ref s1.heap.objs.size, _, I1.laid (o := .frz _ (.tup xs)) (t' := s1.toks) (fun b u e => Heap.get?_push_of_some _ e) (Nat.le_refl _) ⟨Heap.get?_push_size _ rfl, ?_⟩, rfl, q _ _ rfl rfl hf⟩
  exact ⟨z, us, r, ⟨_, Heap.get?_push_size _ rfl, rfl, _, rfl⟩⟩
theorem e_tup {es : List Expr} {x1 : Nat} {pos : Pos} {a : E} {c : Nat → List D → Hm → Z.R} (ha : PA X es (TAv G W (evE c a))) : PE X (.Tuple es x1 pos) (TEv G W (evE c (.tup a))) := by
  refine pe_imp (pe_tupZ ha) fun σ H Q ⟨ρ, π, h, E, M, q⟩ => ⟨ρ, π, h, E, M, ?_⟩
  have q : Post G W σ H π (onArgs (evE c a ρ h) mkt) fun _ _ v H' _ => Q v H' := by simp only [evE] at q; exact q
  refine q.args.imp fun ds h1 vs H1 π1 _ _ _ M1 R1 q => ?_
  unfold mkt at q
  split at q
  · rename_i hz
    exact ⟨by rw [← R1.length]; exact hz, fun o p hc hd hp => post_tup M1 R1 hp hc hd q⟩
  · exact q.elim
theorem e_lst {es : List Expr} {pos : Pos} {a : E} {c : Nat → List D → Hm → Z.R} (ha : PA X es (TAv G W (evE c a))) : PE X (.List es pos) (TEv G W (evE c (.lst a))) := by
  refine pe_imp (pe_lst ha) fun σ H Q ⟨ρ, π, h, E, M, q⟩ => ⟨ρ, π, h, E, M, ?_⟩
  have q : Post G W σ H π (onArgs (evE c a ρ h) mkl) fun _ _ v H' _ => Q v H' := by simp only [evE] at q; exact q
  exact q.args.imp fun ds h1 vs H1 π1 _ _ _ M1 R1 q => post_mkl M1 R1 q

theorem rg_reps {H : Hp} {π : List Addr} {n : Int} : Reps G H π (rangeD 0 1 n.toNat) (rgV 0 n) := by
  unfold rangeD rgV
  have : (n - 0).toNat = n.toNat := by rw [Int.sub_zero]
  rw [this]
  generalize List.range n.toNat = l
  induction l with
  | nil => exact .nil
  | cons x r ih =>
    refine .cons ?_ ih
    have : (0 : Int) + (x : Int) * 1 = 0 + x := by omega
    simp only [this]
    exact .int _
theorem e_listR {a : Expr} {p1 p2 q1 q2 : Pos} {ea : E} {c : Nat → List D → Hm → Z.R} (hc : X.calm = true) (hg : Gl X "list") (hm : X.mg "list" = none) (hg2 : Gl X "range") (hm2 : X.mg "range" = none) (ha : PE X a (TEv G W (evE c ea))) (na : starEach [a] X.env = (false, eval a X.env) :: starEach [] X.env) :
    PE X (.Call (.Name "list" p1) [.Call (.Name "range" q1) [a] [] q2] [] p2) (TEv G W (evE c (.prim .rangel (.cons ea .nil)))) := by
  refine pe_imp (pe_listRg hc hg hm (prg_1 hg2 hm2 ha na) rfl) fun σ H Q t => ?_
  obtain ⟨ρ, π, h, E, M, q⟩ := t
  rw [ev_prim1] at q
  refine ⟨ρ, π, h, E, M, q.bind.imp fun d h1 v H1 π1 _ _ _ M1 R1 p1 => ?_⟩
  change Post G W σ H1 π1 (opRangel d h1) _ at p1
  unfold opRangel at p1
  split at p1
  · split at p1
    · rename_i n _ hn
      cases rep_int R1
      have hs := small_ok hn.1
      exact ⟨n, rfl, ⟨by decide, by decide, hs.1, hs.2, by rw [Int.sub_zero]; omega⟩, fun l hl => post_new M1 rg_reps hl p1⟩
    · exact p1.elim
  · exact p1.elim

/-- list(reversed(x)) -/
def tLstRev (K : PySem.W.Frag) (te : TE) : TE := fun σ H Q => te σ H fun v H1 => ∃ (a : Addr) (xs : List V), v = .ref a ∧ (SqL K H1 a xs ∨ SqT K H1 a xs) ∧ xs.length ≤ 1000000 ∧ ∀ q, H1 q = none → Q (.ref q) (upd H1 q (.lst xs.reverse))
theorem pe_listRev {e : Expr} {te : TE} {p p2 pos pos2 : Pos} (hc : X.calm = true) (hg : Gl X "list") (hm : X.mg "list" = none) (hg2 : Gl X "reversed") (hm2 : X.mg "reversed" = none) (he : PE X e te)
    (hs : starEach [e] X.env = (false, eval e X.env) :: starEach [] X.env)
    (hs2 : starEach [.Call (.Name "reversed" p2) [e] [] pos2] X.env = (false, eval (.Call (.Name "reversed" p2) [e] [] pos2) X.env) :: starEach [] X.env := by rfl) :
    PE X (.Call (.Name "list" p) [.Call (.Name "reversed" p2) [e] [] pos2] [] pos) (tLstRev X.K te) := by
  refine ⟨fun pins s σ H Q I h => ?_⟩
  refine Call_ (ld_blt I hg hm boot_list (PyProof.Rows.callWith_type1 (args_cons (Call_ (ld_blt I hg2 hm2 PyProof.Rows.boot_reversed (PyProof.Rows.callWith_type1 (args_cons (thn (he.run pins s σ H _ I h) fun u s1 ⟨v, H1, I1, r1, q1⟩ => args_nil ?_) hs) hs rfl))) hs2) hs2 rfl))
  obtain ⟨a, xs, ev, hq, hlen, q⟩ := q1
  subst ev
  obtain rfl : u = Value.ref a := r1
  rcases hq with hq | hq
  · obtain ⟨its, rv, p', hz⟩ := I1.list hq
    have hrl := rv.length
    have hl := p'.isList
    obtain ⟨ol, hol, _⟩ := id hl
    have hne : a ≠ s1.heap.objs.size := Nat.ne_of_lt (Heap.lt_size hol)
    have hn : its.toArray.size ≤ sizeLine := by rw [List.size_toArray, ← rv.length]; exact hz
    refine call_reversed_list hl (args_nil ?_)
    refine ZY.call_list_rev (s := { s1 with heap := s1.heap.push (revObj a ((its.toArray.size : Int) - 1)) }) (I1.ok.hd hc) ⟨_, Heap.get?_push_size _ rfl, rfl, rfl⟩ (hl.push _) hne hn fun h' tk acc c' hk hS hi => ?_
    have hk' : ∀ b o, s1.heap.get? b = some o → h'.get? b = some o := fun b o e => hk b o (Nat.ne_of_lt (Heap.lt_size e)) (Heap.get?_push_of_some _ e)
    have hsz : (s1.heap.push (revObj a ((its.toArray.size : Int) - 1))).objs.size = s1.heap.objs.size + 1 := Heap.size_push ..
    refine ⟨.ref _, upd H1 (s1.heap.push (revObj a ((its.toArray.size : Int) - 1))).objs.size (.lst xs.reverse), I1.laid hk' (by rw [hsz]; exact Nat.le_succ _) (show ObjOk X.prog X.w _ _ _ (.lst xs.reverse) from ⟨by rw [List.length_reverse]; exact hz, acc.toList, c', RT.vals_rev rv hi, ?_⟩), rfl, q _ (I1.hok.fresh (by rw [hsz]; exact Nat.le_succ _))⟩
    rw [Array.toArray_toList]; exact hS
  · obtain ⟨its, rv, p', hz⟩ := I1.tuple hq
    have hrl := rv.length
    have ht : IsTup s1.heap a its.toArray := p'
    obtain ⟨ol, hol, kl⟩ := id ht
    have hne : a ≠ s1.heap.objs.size := Nat.ne_of_lt (Heap.lt_size hol)
    have hn : its.toArray.size ≤ 1000000 := by rw [List.size_toArray]; omega
    refine RT.call_reversed_tup ht (fun A E Q k => PyProof.Rows.len_tuple ht (by omega) k) (args_nil ?_)
    refine ZY.call_list_rt (s := { s1 with heap := s1.heap.push (RT.rtObj a ((its.toArray.size : Int) - 1)), toks := s1.toks + 1 + 1 }) (I1.ok.hd hc) ⟨_, Heap.get?_push_size _ rfl, rfl, rfl⟩ ⟨ol, Heap.get?_push_of_some _ hol, kl⟩ hne hn fun h' tk acc c' hk hS hi => ?_
    have hk' : ∀ b o, s1.heap.get? b = some o → h'.get? b = some o := fun b o e => hk b o (Nat.ne_of_lt (Heap.lt_size e)) (Heap.get?_push_of_some _ e)
    have hsz : (s1.heap.push (RT.rtObj a ((its.toArray.size : Int) - 1))).objs.size = s1.heap.objs.size + 1 := Heap.size_push ..
    refine ⟨.ref _, upd H1 (s1.heap.push (RT.rtObj a ((its.toArray.size : Int) - 1))).objs.size (.lst xs.reverse), I1.laid hk' (by rw [hsz]; exact Nat.le_succ _) (show ObjOk X.prog X.w _ _ _ (.lst xs.reverse) from ⟨by rw [List.length_reverse]; exact hz, acc.toList, c', RT.vals_rev rv hi, ?_⟩), rfl, q _ (I1.hok.fresh (by rw [hsz]; exact Nat.le_succ _))⟩
    rw [Array.toArray_toList]; exact hS
theorem e_revl {a : Expr} {p1 p2 q1 q2 : Pos} {ea : E} {c : Nat → List D → Hm → Z.R} (hK : G.K = X.K) (hc : X.calm = true) (hg : Gl X "list") (hm : X.mg "list" = none) (hg2 : Gl X "reversed") (hm2 : X.mg "reversed" = none) (ha : PE X a (TEv G W (evE c ea))) (na : starEach [a] X.env = (false, eval a X.env) :: starEach [] X.env) :
    PE X (.Call (.Name "list" p1) [.Call (.Name "reversed" q1) [a] [] q2] [] p2) (TEv G W (evE c (.prim .revl (.cons ea .nil)))) := by
  refine pe_imp (pe_listRev hc hg hm hg2 hm2 ha na) fun σ H Q t => ?_
  obtain ⟨ρ, π, h, E, M, q⟩ := t
  rw [ev_prim1] at q
  refine ⟨ρ, π, h, E, M, q.bind.imp fun d h1 v H1 π1 _ _ _ M1 R1 p1 => ?_⟩
  change Post G W σ H1 π1 (opRevl d h1) _ at p1
  unfold opRevl at p1
  split at p1
  · rename_i xs hl
    split at p1
    · rename_i hlen
      obtain ⟨a, vs, rfl, rs, sq⟩ := listOf_sq M1 R1 hl
      rw [hK] at sq
      exact ⟨a, vs, rfl, sq, by rw [← rs.length]; exact hlen, fun l hl => post_new M1 rs.reverse hl p1⟩
    · exact p1.elim
  · exact p1.elim
/-- keywords' values -/
def CKs (X : Cx) (kws : List Keyword) (t : TA) : Prop := PK X kws t
theorem k_imp {X : Cx} {kws : List Keyword} {t t' : TA} (h : PK X kws t) (q : ∀ σ H Q, t' σ H Q → t σ H Q) : PK X kws t' := ⟨fun pos pins s σ H Q I z => h.run pos pins s σ H Q I (q _ _ _ z)⟩
theorem k_nil : PK X [] (TAv G W fun _ h => .ok (.tup []) h) := k_imp pk_nil fun σ H Q ⟨ρ, π, h, E, M, p⟩ => p [] H π .refl (List.prefix_refl _) M .nil
theorem k_cons {e : Expr} {kws : List Keyword} {n : Option Str} {kp : Pos} {ea er : Env' → Hm → Z.R} (ha : PE X e (TEv G W ea)) (hr : PK X kws (TAv G W er)) :
    PK X (⟨n, e, kp⟩ :: kws) (TAv G W fun ρ h => (ea ρ h).bind fun d h1 => (er ρ h1).bind fun ds h2 => match ds with
      | .tup xs => .ok (.tup (d :: xs)) h2
      | _ => .bad) := by
  refine k_imp (pk_cons ha hr) fun σ H Q ⟨ρ, π, h, E, M, p⟩ => ?_
  refine ⟨ρ, π, h, E, M, ?_⟩
  dsimp only at p
  cases q : ea ρ h with
  | bad => rw [q] at p; exact p.elim
  | exn x h1 => rw [q] at p; exact p
  | ok d h1 =>
    rw [q] at p
    intro v H1 π1 e1 p1 M1 R1
    refine ⟨ρ, π1, h1, E.mono e1 p1, M1, ?_⟩
    simp only [R.bind_ok] at p
    have p := PostA.weak e1 p1 p
    cases q2 : er ρ h1 with
    | bad => rw [q2] at p; exact p.elim
    | exn x h2 => rw [q2] at p; exact p
    | ok ds h2 =>
      rw [q2] at p
      cases ds with
      | tup xs => exact fun vs H2 π2 e2 p2 M2 R2 => p (v :: vs) H2 π2 e2 p2 M2 (.cons (R1.mono e2 p2) R2)
      | _ => exact p.elim
/-- f(e, .., k = v, ..), what is raised wished for at the caller's slots -/
def tCallNS (n m : Nat) (sp : Sp) (gV : List V → List V → List V) (E : L2.St → XK) (t tk : TA) : TE := fun σ H Q => t σ H fun vs H1 => tk σ H1 fun zs H2 => vs.length = n ∧ zs.length = m ∧ sp (gV vs zs) H2 Q (E σ)
theorem pe_callNS {CX : CXT} {k n : Nat} {f : Addr} {fd : FuncData} {ps ks : List Str} {sp : Sp} {E : L2.St → XK} {x : Str} {p pos : Pos} {e : Expr} {es : List Expr} {kws : List Keyword} {t tk : TA} {g : List Value → List Value → List Value} {gV : List V → List V → List V}
    (F : FnOk X.prog X.w X.K X.mg X.base CX k f fd ps sp) (hr : Room k X.A) (hg : Gl X x) (hm : X.mg x = some (.ref f)) (hk : PySem.W.keepIn X.K (.ref f) = true) (hb : KBn X.K fd ps n ks g gV) (hx : ∀ σ, PassesAt CX X σ (E σ))
    (ha : PA X (e :: es) t) (hkw : PK X kws tk) (hall : (backToKw pos (keywordEach kws X.env)).all (·.1.isSome) = true) (hks : (backToKw pos (keywordEach kws X.env)).filterMap (·.1) = ks)
    (hdb : (x == ("__debug__" : Str)) = false) (he : starEach (e :: es) X.env = (false, eval e X.env) :: starEach es X.env)
    (hpl : ((backTo pos (starEach (e :: es) X.env)).any (·.1) || (backToKw pos (keywordEach kws X.env)).any (·.1.isNone)) = false) :
    PE X (.Call (.Name x p) (e :: es) kws pos) (tCallNS n ks.length sp gV E t tk) := by
  refine ⟨fun pins s σ H Q I h => ?_⟩
  refine wpAny_Call_Name_kw (ld_glob I hg hm ?_ hdb)
  refine PySem.W.callWith_KW (h₀ := X.base) I.ok.mod.kin hk hall (thn (ha.run pos pins s σ H _ I h) fun us s1 ⟨vs, H1, I1, r, q⟩ => ?_) hpl he
  refine thn (hkw.run pos pins s1 σ H1 _ I1 q) fun ws s2 ⟨zs, H2, I2, rz, l1, l2, q2⟩ => ⟨I2.kIn, ?_⟩
  rw [hks]
  have r2 := hb.rel r rz
  refine wpAny_call (codeAny_mono (F.run X.A X.stack s2 H2 ⟨us, ks.zip ws⟩ (g us ws) (gV vs zs) Q (E σ) hr I2.env0 (hb.to s2 us ws I2.kIn (r.length.symm.trans l1) (rz.length.symm.trans l2)) r2 q2) fun r s' hq => ?_)
  cases r with
  | error e => exact hx σ pins H2 s2 e s' I2 hq
  | ok fl =>
    cases fl with
    | ret u => exact I2.after hq
    | next => exact False.elim hq
    | brk => exact False.elim hq
    | cont => exact False.elim hq

/-- a def with keyword-only parameters, all of them written -/
theorem e_callK {x : Str} {i : Nat} {dl : List (Str × D)} {e : Expr} {es : List Expr} {kws : List Keyword} {p0 pos : Pos} {a b : E} (o : OkE P w k nm N sc none G W X) (hx : (x, i, dl) ∈ nm.kws) (hg : sc.names.lookup x = some .globalImplicit) (hdb : (x == ("__debug__" : Str)) = false)
    (ha : PA X (e :: es) (TAv G W (evE (callF P w k) a))) (hb : PK X kws (TAv G W (evE (callF P w k) b))) (hlen : b.lenC = some dl.length) (hkn : kws.map (·.arg) = dl.map fun q => some q.1)
    (he : starEach (e :: es) X.env = (false, eval e X.env) :: starEach es X.env) (hst : starEach (e :: es) X.env = (e :: es).map fun e => (false, eval e X.env)) :
    PE X (.Call (.Name x p0) (e :: es) kws pos) (TEv G W (evE (callF P w k) (.call i (.app a b)))) := by
  obtain ⟨f, fd, ps, us, dv, hm, hk, hv, hr, hbd, kb, F⟩ := o.kf x i dl hx
  have h1 : (backToKw pos (keywordEach kws X.env)).map (·.1) = dl.map fun q => some q.1 := by
    rw [kw_each, ← hkn]
    unfold backToKw
    simp
  have e1 : (backToKw pos (keywordEach kws X.env)).all (·.1.isSome) = true := by
    have : (backToKw pos (keywordEach kws X.env)).all (·.1.isSome) = ((backToKw pos (keywordEach kws X.env)).map (·.1)).all (·.isSome) := by rw [List.all_map]; rfl
    rw [this, h1]
    simp
  have e2 : (backToKw pos (keywordEach kws X.env)).filterMap (·.1) = dl.map (·.1) := by
    have : (backToKw pos (keywordEach kws X.env)).filterMap (·.1) = ((backToKw pos (keywordEach kws X.env)).map (·.1)).filterMap id := by rw [List.filterMap_map]; rfl
    rw [this, h1, List.filterMap_map]
    induction dl with
    | nil => rfl
    | cons q r ih => simp [List.filterMap_cons]
  have e3 : (backToKw pos (keywordEach kws X.env)).any (·.1.isNone) = false := by
    have : (backToKw pos (keywordEach kws X.env)).any (·.1.isNone) = ((backToKw pos (keywordEach kws X.env)).map (·.1)).any (·.isNone) := by rw [List.any_map]; rfl
    rw [this, h1]
    simp
  refine pe_imp (pe_callNS F (o.room rfl) (o.gl hg) hm hk kb (fun σ => passAt o.tk σ) ha hb e1 e2 hdb he (by rw [star_any hst, e3]; rfl)) fun σ H Q ⟨ρ, π, h, E, M, q⟩ => ⟨ρ, π, h, E, M, ?_⟩
  have q : Post G W σ H π (onArgs ((evE (callF P w k) a ρ h).bind fun ds h1 => match ds with | .tup xs => ((evE (callF P w k) b ρ h1).bind fun es h2 => match es with | .tup ys => .ok (.tup (xs ++ ys)) h2 | _ => .bad) | _ => .bad) (callF P w k i)) fun _ _ v H' _ => Q v H' := by
    simp only [evE] at q; exact q
  refine (PostA.tail (f := fun ρ h1 => evE (callF P w k) b ρ h1) (h := h) q).imp fun ds h1 vs H1 π1 _ ex1 px1 M1 R1 p1 => ⟨ρ, π1, h1, E.mono ex1 px1, M1, p1.imp fun es h2 zs H2 π2 er ex2 px2 M2 R2 p2 => ?_⟩
  have hG : G = ⟨X.K, X.mg, nm.exc.map (·.1), none⟩ := by
    obtain ⟨K, mg, xs, ex⟩ := G
    have h1 := o.hK; have h2 := o.hmg; have h3 := o.gex rfl; have h4 := o.hxs
    simp only at h1 h2 h3 h4
    rw [h1, h2, h3, h4]
  subst hG
  have lz : zs.length = dl.length := by rw [← R2.length]; exact lenC_ok hlen er
  have sp : spF ⟨X.K, X.mg, nm.exc.map (·.1), none⟩ P w k i (vs ++ zs) H2 Q (fun cls d H' => W cls d σ H') := by
    refine ⟨π2, h2, ds ++ es, M2, (R1.mono ex2 px2).append R2, ?_⟩
    cases z : callF P w k i (ds ++ es) h2 with
    | bad => rw [z] at p2; exact p2.elim
    | ok d h2 => rw [z] at p2; exact p2
    | exn x h2 => rw [z] at p2; exact p2
  have lps := F.len _ _ _ _ sp
  rw [List.length_append] at lps
  exact ⟨by omega, by rw [lz, List.length_map], sp⟩
/-! #### isinstance of a value -/
/-- the kinds by class name -/
def kindOf (x : Str) : Option (Pm × String) :=
  if x = ("int" : Str) then some (.isint, "int") else if x = ("bool" : Str) then some (.isbool, "bool") else if x = ("str" : Str) then some (.isstr, "str") else if x = ("list" : Str) then some (.islist, "list")
  else if x = ("tuple" : Str) then some (.istup, "tuple") else none
theorem kind_cases {x : Str} {p : Pm} {C : String} (h : kindOf x = some (p, C)) : bootBuiltins x = some (.type C) ∧ x ∈ bltNames ∧ x ≠ "__name__" ∧ (x == ("__debug__" : Str)) = false ∧ C ∈ ["int", "bool", "str", "tuple", "list"] ∧
    ∀ d h, evP p [d] h = isKind (kOf h C) d h := by
  unfold kindOf at h
  repeat' (split at h)
  all_goals first | (cases h; done) | (rename_i hx; subst hx; cases h; exact ⟨by decide +kernel, by decide +kernel, by decide +kernel, by decide +kernel, by decide, fun _ _ => rfl⟩)
/-- an isinstance's value is no script and its list stands -/
theorem isi_read {H : Hp} {π : List Addr} {h : Hm} {d : D} {v : V} {C : String} {b : Bool} (hK : G.K = X.K) (M : HmOk G H π h) (r : Rep G H π d v) (hC : C ∈ ["int", "bool", "str", "tuple", "list"]) (e : kOf h C d = some b):
    TyX X.K H v (.type (tyN d)) ∧ PySem.W.kitOne X.K (.type (tyN d)) (.type C) = some b := by
  refine z_isi hK M r hC e fun k ek => ?_
  subst ek
  cases r with
  | ref hp =>
    have hl : k < h.length := by rw [← M.len]; exact (List.getElem?_eq_some_iff.mp hp).1
    cases hc : h[k] with
    | lst xs => exact ⟨xs, by rw [List.getElem?_eq_getElem hl, hc]⟩
end
end Z

set_option Elab.async false
set_option linter.all false
set_option maxRecDepth 100000
set_option maxHeartbeats 4000000
namespace Z
open PySem PySem.Spec PyProof.Rows L2
section
variable {P : Pg} {nm : Nm} {N : List Str} {sc : Scope} {hot : Option Nat} {w k : Nat} {G : Gx} {W : WX} {X : Cx}

/-- isinstance(e, T), T a built-in class -/
theorem e_isi {T : Str} {p : Pm} {C : String} {a : Expr} {p1 p2 pos : Pos} {ea : E} {c : Nat → List D → Hm → Z.R} (o : OkE P w k nm N sc hot G W X) (hk : kindOf T = some (p, C)) (hg : sc.names.lookup ("isinstance" : Str) = some .globalImplicit) (hT : sc.names.lookup T = some .globalImplicit)
    (ha : PE X a (TEv G W (evE c ea))) (hs : noStar a = true) : PE X (.Call (.Name "isinstance" p1) [a, .Name T p2] [] pos) (TEv G W (evE c (.prim p (.cons ea .nil)))) := by
  obtain ⟨h1, h2, h3, h4, h5, h6⟩ := kind_cases hk
  refine pe_imp (pe_callB call_isi (o.gl hg) (o.blt _ (by decide +kernel)) (by decide +kernel) (pa_cons ha (pa_cons (pe_bltn (v := .ty C) (o.gl hT) (o.blt T h2) h1 rfl h3 h4) pa_nil (by rfl)) (star_cons hs)) (by decide +kernel) (by decide +kernel) (star_cons hs) (by rfl)) fun σ H Q ⟨ρ, π, h, E, M, q⟩ => ⟨ρ, π, h, E, M, ?_⟩
  rw [ev_prim1] at q
  refine q.bind.imp fun d m v H1 π1 _ _ _ M1 R1 q => ?_
  rw [h6] at q
  unfold isKind at q
  split at q
  · rename_i b hb
    obtain ⟨t1, t2⟩ := isi_read o.hK M1 R1 h5 hb
    exact ⟨v, .ty C, _, _, b, rfl, .ty C, t1, t2, post_pure M1 (.bl b) q⟩
  · exact q.elim
/-- isinstance(e, (list, tuple)) -/
theorem e_isi2 {a : Expr} {p1 p2 p3 p4 pos : Pos} {kk : Nat} {ea : E} {c : Nat → List D → Hm → Z.R} (o : OkE P w k nm N sc hot G W X) (hg : sc.names.lookup ("isinstance" : Str) = some .globalImplicit) (hL : sc.names.lookup ("list" : Str) = some .globalImplicit) (hT : sc.names.lookup ("tuple" : Str) = some .globalImplicit)
    (ha : PE X a (TEv G W (evE c ea))) (hs : noStar a = true) : PE X (.Call (.Name "isinstance" p1) [a, .Tuple [.Name "list" p2, .Name "tuple" p3] kk p4] [] pos) (TEv G W (evE c (.prim .isseq (.cons ea .nil)))) := by
  have l1 := kind_cases (x := "list") (p := .islist) (C := "list") (by kernel_rfl)
  have l2 := kind_cases (x := "tuple") (p := .istup) (C := "tuple") (by kernel_rfl)
  refine pe_imp (pe_callB call_isiT (o.gl hg) (o.blt _ (by decide +kernel)) (by decide +kernel) (pa_cons ha (pa_cons (pe_tup (pa_cons (pe_bltn (v := .ty "list") (o.gl hL) (o.blt _ l1.2.1) l1.1 rfl l1.2.2.1 l1.2.2.2.1)
    (pa_cons (pe_bltn (v := .ty "tuple") (o.gl hT) (o.blt _ l2.2.1) l2.1 rfl l2.2.2.1 l2.2.2.2.1) pa_nil (by rfl)) (by rfl))) pa_nil (by rfl)) (star_cons hs)) (by decide +kernel) (by decide +kernel) (star_cons hs) (by rfl)) fun σ H Q ⟨ρ, π, h, E, M, q⟩ => ⟨ρ, π, h, E, M, ?_⟩
  rw [ev_prim1] at q
  refine q.bind.imp fun d m v H1 π1 _ _ _ M1 R1 q => ⟨by decide +kernel, fun tp htp => ?_⟩
  change Post G W σ H1 π1 (isKind (kSeq m) d m) _ at q
  unfold isKind at q
  split at q
  · rename_i b hb
    unfold kSeq at hb
    split at hb
    · rename_i b1 b2 hb1 hb2
      cases hb
      obtain ⟨t1, t2⟩ := isi_read o.hK M1 R1 (C := "list") (by decide) hb1
      obtain ⟨t3, t4⟩ := isi_read o.hK M1 R1 (C := "tuple") (by decide) hb2
      have e1 : Ext H1 (upd H1 tp (.tup [.ty "list", .ty "tuple"])) := .new htp
      have M2 : HmOk G (upd H1 tp (.tup [.ty "list", .ty "tuple"])) π1 m := M1.ext_new htp
      have R2 := R1.mono e1 (List.prefix_refl _)
      obtain ⟨t1, _⟩ := isi_read o.hK M2 R2 (C := "list") (by decide) hb1
      refine ⟨v, tp, [.ty "list", .ty "tuple"], _, [.type "list", .type "tuple"], b1 || b2, rfl, upd_same, .cons (.ty _) (.cons (.ty _) .nil), t1, ?_, post_pure M2 (.bl _) (Post.weak e1 (List.prefix_refl _) q)⟩
      refine kitAny_cons t2 (fun z => ?_) (fun z => by simp [z])
      refine kitAny_cons t4 (fun z2 => ?_) (fun z2 => by simp [z2])
      subst z; subst z2; rfl
    · cases hb
  · exact q.elim

/-! #### comprehensions -/
theorem e_lc {elt tg iter : Expr} {ifs : List Expr} {scope : Scope} {own : List (Str × Nat)} {pos : Pos} {src : Src} {g : TG} {weak : Bool} {t : Tg} {ea ec ee : E} {c : Nat → List D → Hm → Z.R} (o : OkE P w k nm N sc none G W X)
    (hi : PI X tg iter (TIv G W weak (evE c ea) src)) (ok : BlkOk N X.env.scope scope own) (hg : ∀ X', OkE P w k nm N scope none G W0 X' → PG X' tg g) (hgo : TgOk X G weak t g) (hsl : ∀ i ∈ t.slots, i ∈ own.map (·.2))
    (ht : ∀ X', OkE P w k nm N scope none G W0 X' → PTs X' ifs (TTv G W0 (evE c ec))) (he : ∀ X', OkE P w k nm N scope none G W0 X' → PE X' elt (TEv G W0 (evE c ee))) (hs : ∀ x, foldedSetIterable iter X.env x = pure x) :
    PE X (.ListComp elt [⟨tg, iter, ifs, 0⟩] scope pos) (TEv G W (evE c (.comp (own.map (·.2)) src ea t ec ee))) := by
  refine pe_imp (pe_lc (o.calm rfl) (by rw [o.hN]; exact o.nd) hi (by rw [o.hN]; exact ok) (fun s H C cl fp => hg _ (o.blk ok s H C cl fp)) (fun s H C cl fp => ht _ (o.blk ok s H C cl fp)) (fun s H C cl fp => he _ (o.blk ok s H C cl fp)) hs) fun σ H Q ⟨ρ, π, h, E, M, q⟩ => ?_
  refine lc_read (o.gex rfl) hgo hsl ⟨ρ, π, h, E, M, ?_⟩
  simp only [evE] at q
  exact q
theorem s_lc {elt tg iter : Expr} {ifs : List Expr} {scope : Scope} {own : List (Str × Nat)} {pos spos py : Pos} {y : Str} {i : Nat} {src : Src} {g : TG} {weak : Bool} {t : Tg} {ea ec ee : E} {c : Nat → List D → Hm → Z.R} (o : OkE P w k nm N sc none G W X)
    (hy : N[i]? = some y) (hyl : X.env.scope.names.lookup y = some .local) (hsw : swapsWith (.ListComp elt [⟨tg, iter, ifs, 0⟩] scope pos) (some (.Name y py)) spos.line X.env = pure true)
    (hi : PI X tg iter (TIv G W weak (evE c ea) src)) (ok : BlkOk N X.env.scope scope own) (hg : ∀ X', OkE P w k nm N scope none G W0 X' → PG X' tg g) (hgo : TgOk X G weak t g) (hsl : ∀ i ∈ t.slots, i ∈ own.map (·.2))
    (ht : ∀ X', OkE P w k nm N scope none G W0 X' → PTs X' ifs (TTv G W0 (evE c ec))) (he : ∀ X', OkE P w k nm N scope none G W0 X' → PE X' elt (TEv G W0 (evE c ee))) (hs : ∀ x, foldedSetIterable iter X.env x = pure x) :
    PS X (.Assign [.Name y py] (.ListComp elt [⟨tg, iter, ifs, 0⟩] scope pos) spos) (tAsg (TEv G W (evE c (.comp (own.map (·.2)) src ea t ec ee))) (gName i)) := by
  have q := ps_setLc (X := X) (i := i) (o.calm rfl) (by rw [o.hN]; exact o.nd) (by rw [o.hN]; exact hy) hyl hsw hi (by rw [o.hN]; exact ok) (fun s H C cl fp => hg _ (o.blk ok s H C cl fp)) (fun s H C cl fp => ht _ (o.blk ok s H C cl fp)) (fun s H C cl fp => he _ (o.blk ok s H C cl fp)) hs
  refine ⟨fun pins s σ H D I z => q.run pins s σ H D I ?_⟩
  obtain ⟨ρ, π, h, E, M, q⟩ := z
  refine lc_read (o.gex rfl) hgo hsl ⟨ρ, π, h, E, M, ?_⟩
  simp only [evE] at q
  exact q

/-! #### the certified reading of an expression -/
structure CI (P : Pg) (nm : Nm) (N : List Str) (sc : Scope) (iter : Expr) where
  src : Src
  ea : E
  weak : Bool
  pi : ∀ w k G W X tg, OkE P w k nm N sc none G W X → PI X tg iter (TIv G W weak (evE (callF P w k) ea) src)
  fold : ∀ env x, foldedSetIterable iter env x = pure x
/-- a target of names, for the weak items or not -/
structure CG (P : Pg) (nm : Nm) (N : List Str) (sc : Scope) (weak : Bool) (tg : Expr) where
  t : Tg
  g : PySem.W.Frag → TG
  pg : ∀ w k G W X, OkE P w k nm N sc none G W X → PG X tg (g X.K)
  ok : ∀ X G, G.K = X.K → TgOk X G weak t (g X.K)
/-- a name's slot, to be stored -/
def slotOf (N : List Str) (sc : Scope) (x : Str) : Option {i : Nat // N[i]? = some x ∧ (sc.names.lookup x = some .local ∨ sc.names.lookup x = some .cell)} :=
  let i := N.findIdx (· == x)
  if h : N[i]? = some x ∧ (sc.names.lookup x = some .local ∨ sc.names.lookup x = some .cell) then some ⟨i, h⟩ else none
theorem g_name {x : Str} {i : Nat} {pos : Pos} (o : OkE P w k nm N sc hot G W X) (h : N[i]? = some x ∧ (sc.names.lookup x = some .local ∨ sc.names.lookup x = some .cell)) : PG X (.Name x pos) (gName i) :=
  pg_name (by rw [o.hN]; exact o.nd) (by rw [o.hN]; exact h.1) (o.loc h.2) (o.sto x h.2)
def cG (weak : Bool) (tg : Expr) : Option (CG P nm N sc weak tg) := match tg with
  | .Name x pos => match weak with
    | false => match slotOf N sc x with
      | some i => some ⟨.name i.1, fun _ => gName i.1, fun w k G W X o => g_name o i.2, fun X G hK => tg_name⟩
      | none => none
    | true => none
  | .Tuple [.Name x p1, .Name y p2] kk pos => match slotOf N sc x, slotOf N sc y with
    | some i, some j => some ⟨.tup2 i.1 j.1, fun K => gTup K 2 (gCons (gName i.1) (gCons (gName j.1) gNil)), fun w k G W X o => pg_tup (o.calm rfl) (pgs_cons (g_name o i.2) (pgs_cons (g_name o j.2) pgs_nil)), fun X G hK => tg_tup2 hK⟩
    | _, _ => none
  | .Tuple [.Name x p1, .Name y p2, .Name z p3] kk pos => match slotOf N sc x, slotOf N sc y, slotOf N sc z with
    | some i, some j, some l => some ⟨.tup3 i.1 j.1 l.1, fun K => gTup K 3 (gCons (gName i.1) (gCons (gName j.1) (gCons (gName l.1) gNil))), fun w k G W X o => pg_tup (o.calm rfl) (pgs_cons (g_name o i.2) (pgs_cons (g_name o j.2) (pgs_cons (g_name o l.2) pgs_nil))), fun X G hK => tg_tup3 hK⟩
    | _, _, _ => none
  | .Tuple [.Name x p1, .Name y p2, .Name z p3, .Name u p4] kk pos => match slotOf N sc x, slotOf N sc y, slotOf N sc z, slotOf N sc u with
    | some i, some j, some l, some m => some ⟨.tup4 i.1 j.1 l.1 m.1, fun K => gTup K 4 (gCons (gName i.1) (gCons (gName j.1) (gCons (gName l.1) (gCons (gName m.1) gNil)))), fun w k G W X o => pg_tup (o.calm rfl) (pgs_cons (g_name o i.2) (pgs_cons (g_name o j.2) (pgs_cons (g_name o l.2) (pgs_cons (g_name o m.2) pgs_nil)))), fun X G hK => tg_tup4 hK⟩
    | _, _, _, _ => none
  | _ => none
/-- the receivers whose attribute is just read off their value -/
def baseOk : Expr → Bool
  | .Call (.Name _ _) [] [] _ => false
  | _ => true
theorem base_ok {o : Expr} (h : baseOk o = true) (name : Str) (env : Env) (whole : Sem Value) : attributeBase o name env whole = whole := by
  unfold attributeBase
  split
  · cases h
  · rfl
def plainIx (b : Expr) : Option (PLift (PlainIx b)) := match b with
  | .Slice .. => none
  | .BoolOp .. => some ⟨fun _ _ => rfl⟩ | .BinOp .. => some ⟨fun _ _ => rfl⟩ | .UnaryOp .. => some ⟨fun _ _ => rfl⟩ | .IfExp .. => some ⟨fun _ _ => rfl⟩ | .Compare .. => some ⟨fun _ _ => rfl⟩
  | .Call .. => some ⟨fun _ _ => rfl⟩ | .Constant .. => some ⟨fun _ _ => rfl⟩ | .Attribute .. => some ⟨fun _ _ => rfl⟩ | .Subscript .. => some ⟨fun _ _ => rfl⟩ | .Name .. => some ⟨fun _ _ => rfl⟩
  | _ => none
def noSet : Expr → Bool
  | .Set .. => false
  | _ => true
theorem fold_ok {e : Expr} (h : noSet e = true) (env : Env) (x : Value) : foldedSetIterable e env x = pure x := by
  unfold foldedSetIterable
  cases e <;> first | rfl | cases h
/-- an expression whose test is its value's truth -/
def plainTest (e : Expr) : Bool := match e with
  | .UnaryOp .Not _ _ => false | .BoolOp .. => false | .IfExp .. => false | .Compare .. => false | _ => true
theorem plainTest_ok {e : Expr} (h : plainTest e = true) (env : Env) (whole : Sem Value) : isTrue e env whole = (do let v ← whole; standAt e.pos; holding [v] (truthy v)) := by
  cases e with
  | UnaryOp op x pos => cases op <;> first | rfl | cases h
  | _ => first | rfl | cases h
/-- and, or: the values one after another -/
structure CB (P : Pg) (nm : Nm) (N : List Str) (sc : Scope) (hot : Option Nat) (e : Expr) where
  e' : E
  pe : ∀ w k G W X, OkE P w k nm N sc hot G W X → PE X e (TEv G W (evE (callF P w k) e'))
  pw : ∀ w k G W X, OkE P w k nm N sc hot G W X → PW X e (TTv G W (evE (callF P w k) e'))
end
end Z

set_option Elab.async false
set_option linter.all false
set_option maxRecDepth 100000
set_option maxHeartbeats 4000000
namespace Z
open PySem PySem.Spec PyProof.Rows L2
/-! #### exceptions -/
section
variable {X : Cx} {W : WX}
/-- X(), X an own exception class without own __init__ -/
theorem pmk_own0 {C : Addr} {bmB : List Value} {B newId initId : String} {x : Str} {p pos : Pos} (F : ExcBaseFacts B newId initId bmB) (q : PySem.W.excIn X.K C bmB newId = true) (gC : X.mg x = some (.ref C))
    (kC : PySem.W.keepIn X.K (.ref C) = true) (r : Raises X (.ref C)) (hg : Gl X x) (hdb : (x == ("__debug__" : Str)) = false) :
    PMk X (.Call (.Name x p) [] [] pos) (fun σ H Q => Q (.ref C) none H) := by
  intro pins s σ H Q I h
  refine wpAny_Call_Name_kw (ld_glob I hg gC ?_ hdb)
  refine PySem.W.callWith_K0 I.kIn kC ?_
  obtain ⟨bm, N, nm, qn, bs, hdct, sn, sub, ab, col, dd, k0, k1, k2, k3, k5, mN, hC, hN, hni, T⟩ := exc_obj I.kIn q
  refine wpAny_call_exc_subT (rest := []) F T hC hN hni (fun h' e hm => ?_) (by simp)
  exact mk_of I hm r h (I.hok.gone hm.new)
theorem call_isEZ {a D : Addr} {oe : Obj} {pn : List (Addr × Obj)} (C : ExcC X.K D) (hz : Zc (.ref D) none oe) (hf : ∃ vs, oe.data = .fields vs) : CallR (X.suite a ((a, oe) :: pn)) (.builtin "isinstance") (rIsEZ X.K D a) := by
  intro pins s σ H xs us Q I r h
  rcases h with h | ⟨tp, cs, ws, b, rfl, hT, kk, e, q⟩
  · exact call_isE C hz hf pins s σ H xs us Q I r h
  · obtain ⟨u1, u2, rfl, r1, r2⟩ := vals2 r
    cases (show u1 = Value.ref a from r1)
    cases (show u2 = Value.ref tp from r2)
    obtain ⟨hget, _⟩ := I.pin (a, oe) (List.mem_append.mpr (.inl List.mem_cons_self))
    obtain ⟨vs, hv⟩ := hf
    have J : PySem.W.InstAt s.heap a oe D none := by
      obtain ⟨oc, od, oda, osl⟩ := oe
      obtain ⟨h1, h2⟩ := hz
      dsimp only at h1 h2 hv
      subst h1 h2 hv
      exact ⟨hget, rfl, rfl, trivial⟩
    obtain ⟨_, its, rv, o, h1, h2, n, h3⟩ := (show ObjOk X.prog X.w H s.heap tp (.tup cs) from I.hok tp _ hT)
    have e3 := ClsV.all kk rv
    subst e3
    obtain ⟨oc, od, dt, sl⟩ := o
    simp only at h2 h3
    subst h2 h3
    exact PySem.W.kia_tup (PySem.W.handS_kitx_exc C.hg C.hk C.hs C.hd C.ha C.hn C.ht C.hm) I.kIn J h1 e (fun z => nomatch z) fun tk => ⟨.bl b, H, I.tok tk, rfl, q⟩
end
section
variable {P : Pg} {nm : Nm} {N : List Str} {sc : Scope} {hot : Option Nat} {w k : Nat} {G : Gx} {W : WX} {X : Cx}
variable {c : Nat → List D → Hm → Z.R} {sub : Str → Str → Bool}
/-- the exception's name in its suite -/
theorem ex_at {i : Nat} {H : Hp} {π : List Addr} {ρ : Env'} {σ : L2.St} {a : Addr} {cn : Str} {d : Option Addr} {x : Str} {fs : List Str} {ds : List D} (E : EnvOk G H π ρ σ) (hx : G.ex = some (i, a, cn, d)) (hr : ρ[i]? = some (some (.xv x fs ds))) :
    σ[i]? = some (some (.ref a)) ∧ x = cn ∧ XFields G H π fs ds d := by
  obtain ⟨h1, fs', ds', h2, h3⟩ := E.held i a cn d hx
  rw [hr] at h2
  cases h2
  exact ⟨h1, rfl, h3⟩
/-- the classes that a test names -/
structure Cl where
  es : List Expr
  ok : ∀ e ∈ es, ∃ x p, e = .Name x p
theorem x_is1 {n T : Str} {i : Nat} {p1 p2 p3 pos : Pos} {cs : List Str} (o : OkE P w k nm N sc (some i) G W X) (hn : N[i]? = some n) (hv : sc.names.lookup n = some .local ∨ sc.names.lookup n = some .cell ∨ sc.names.lookup n = some .free) (hd : (n == ("__debug__" : Str)) = false) (hcd : (n == ("__classdict__" : Str)) = false)
    (hg : sc.names.lookup ("isinstance" : Str) = some .globalImplicit) (hT : sc.names.lookup T = some .globalImplicit) (hdT : (T == ("__debug__" : Str)) = false) (hk : T ∈ nm.exc.map (·.1) ∨ T = ("ValueError" : Str)) (hcs : cs = (nm.exc.map (·.1)).filter fun z => P.sub z T) :
    PE X (.Call (.Name "isinstance" p1) [.Name n p2, .Name T p3] [] pos) (TEv G W (evE c (.xis i cs))) := by
  have hvar : PE X (.Name n p2) (tVar i) := pe_var (by rw [o.hN]; exact hn) (o.vis hv) hd hcd
  have hcls : ∃ cv u, PE X (.Name T p3) (tC cv) ∧ RelV cv u ∧ (∀ u', RelV cv u' → u' = u) ∧ ∀ z D, z ∈ nm.exc.map (·.1) → X.mg z = some (.ref D) → PySem.W.kitOne X.K (.ref D) u = some (P.sub z T) := by
    rcases hk with hk | rfl
    · obtain ⟨⟨T', fs⟩, h1, h2⟩ := List.mem_map.mp hk
      cases h2
      obtain ⟨C, hm, _⟩ := o.xn _ fs h1
      exact ⟨.ref C, .ref C, pe_glob (o.gl hT) hm rfl hdT, rfl, fun _ z => z, fun z D hz hD => (o.xk z _ D C hz hk hD hm).1⟩
    · exact ⟨.ty "ValueError", .type "ValueError", pe_bltn (o.gl hT) o.xb.1 (by decide +kernel) rfl (by decide +kernel) (by decide +kernel), rfl, fun _ z => z, fun z D hz hD => o.xb.2 z D hz hD⟩
  obtain ⟨cv, u, hcv, hr, hru, hkit⟩ := hcls
  refine ⟨fun pins s σ H Q I ⟨ρ, π, h, E, M, q⟩ => ?_⟩
  simp only [evE] at q
  split at q
  · rename_i x hx
    obtain ⟨a, cn, d, hex⟩ := o.hi i rfl
    obtain ⟨h1, rfl, h3⟩ := ex_at E hex hx
    have hd' : d = none := by
      rcases h3 with ⟨h3, _⟩ | ⟨_, _, _, _, _, h4, _⟩
      · exact h3
      · exact absurd rfl h4
    subst hd'
    obtain ⟨D, hD, hmem, hcall⟩ := o.hx (by simp) i a x hex
    have hin : PE X (.Call (.Name "isinstance" p1) [.Name n p2, .Name T p3] [] pos) _ := pe_callB hcall (o.gl hg) (o.blt _ (by decide +kernel)) (by decide +kernel) (pa_cons hvar (pa_cons hcv pa_nil (by rfl)) (by rfl)) (by decide +kernel) (by decide +kernel) (by rfl) (by rfl)
    refine hin.run pins s σ H Q I ⟨.ref a, h1, .inl ⟨cv, u, P.sub x T, rfl, hru, hkit x D hmem hD, ?_⟩⟩
    have e : cs.contains x = P.sub x T := by
      subst hcs
      rw [Bool.eq_iff_iff, List.contains_iff_mem, List.mem_filter]
      exact ⟨fun z => z.2, fun z => ⟨hmem, z⟩⟩
    rw [← e]
    exact post_pure M (.bl _) q
  · exact q.elim
/-- isinstance(e, (A, B, ..)) -/
theorem pa_cls (o : OkE P w k nm N sc hot G W X) : ∀ (es : List Expr) (ts : List Str), es.length = ts.length → (∀ q ∈ es.zip ts, ∃ p, q.1 = .Name q.2 p) → (∀ T ∈ ts, sc.names.lookup T = some .globalImplicit ∧ (T == ("__debug__" : Str)) = false ∧ T ∈ nm.exc.map (·.1)) →
    ∃ cs us, PA X es (fun _ H Q => Q cs H) ∧ Paired ClsV cs us ∧ cs.length = es.length ∧ ∀ z D, z ∈ nm.exc.map (·.1) → X.mg z = some (.ref D) → PySem.W.kitAny X.K (.ref D) us = some (ts.any fun T => P.sub z T)
  | [], [], _, _, _ => ⟨[], [], pa_nil, .nil, rfl, fun _ _ _ _ => rfl⟩
  | e :: es, T :: ts, hl, hz, ht => by
    obtain ⟨cs, us, h1, h2, h4, h3⟩ := pa_cls o es ts (by simpa using hl) (fun q hq => hz q (List.mem_cons_of_mem _ hq)) fun T hT => ht T (List.mem_cons_of_mem _ hT)
    obtain ⟨p, rfl⟩ : ∃ p, e = .Name T p := hz (e, T) (by simp)
    obtain ⟨g1, g2, g3⟩ := ht T List.mem_cons_self
    obtain ⟨fs, z1⟩ : ∃ fs, (T, fs) ∈ nm.exc := by
      obtain ⟨⟨T', fs⟩, z1, z2⟩ := List.mem_map.mp g3
      exact ⟨fs, z2 ▸ z1⟩
    obtain ⟨C, hm, _⟩ := o.xn _ fs z1
    have hcv : PE X (.Name T p) (tC (.ref C)) := pe_glob (o.gl g1) hm rfl g2
    refine ⟨.ref C :: cs, .ref C :: us, ⟨(pa_cons hcv h1 (by rfl)).run⟩, .cons (.own C) h2, by simp [h4], fun z D hzm hD => ?_⟩
    have q := (o.xk z T D C hzm g3 hD hm).1
    have r := h3 z D hzm hD
    refine kitAny_cons q (fun e => ?_) fun e => ?_
    · rw [r]; simp [e]
    · simp [e]
  | [], _ :: _, hl, _, _ => by simp at hl
  | _ :: _, [], hl, _, _ => by simp at hl
theorem x_is2 {n : Str} {i kk : Nat} {p1 p2 p3 pos : Pos} {cs : List Str} {es : List Expr} {ts : List Str} (o : OkE P w k nm N sc (some i) G W X) (hn : N[i]? = some n) (hv : sc.names.lookup n = some .local ∨ sc.names.lookup n = some .cell ∨ sc.names.lookup n = some .free) (hd : (n == ("__debug__" : Str)) = false) (hcd : (n == ("__classdict__" : Str)) = false)
    (hg : sc.names.lookup ("isinstance" : Str) = some .globalImplicit) (hl : es.length = ts.length) (hz : ∀ q ∈ es.zip ts, ∃ p, q.1 = .Name q.2 p) (ht : ∀ T ∈ ts, sc.names.lookup T = some .globalImplicit ∧ (T == ("__debug__" : Str)) = false ∧ T ∈ nm.exc.map (·.1)) (hs : es.length ≤ 1000)
    (hcs : cs = (nm.exc.map (·.1)).filter fun z => ts.any fun T => P.sub z T) :
    PE X (.Call (.Name "isinstance" p1) [.Name n p2, .Tuple es kk p3] [] pos) (TEv G W (evE c (.xis i cs))) := by
  have hvar : PE X (.Name n p2) (tVar i) := pe_var (by rw [o.hN]; exact hn) (o.vis hv) hd hcd
  obtain ⟨vs, us, h1, h2, h4, h3⟩ := pa_cls o es ts hl hz ht
  refine ⟨fun pins s σ H Q I ⟨ρ, π, h, E, M, q⟩ => ?_⟩
  simp only [evE] at q
  split at q
  · rename_i x hx
    obtain ⟨a, cn, d, hex⟩ := o.hi i rfl
    obtain ⟨k1, rfl, k3⟩ := ex_at E hex hx
    have hd' : d = none := by
      rcases k3 with ⟨k3, _⟩ | ⟨_, _, _, _, _, k4, _⟩
      · exact k3
      · exact absurd rfl k4
    subst hd'
    obtain ⟨D, hD, hmem, hcall⟩ := o.hx (by simp) i a x hex
    have hin : PE X (.Call (.Name "isinstance" p1) [.Name n p2, .Tuple es kk p3] [] pos) _ := pe_callB hcall (o.gl hg) (o.blt _ (by decide +kernel)) (by decide +kernel) (pa_cons hvar (pa_cons (pe_tup h1) pa_nil (by rfl)) (by rfl)) (by decide +kernel) (by decide +kernel) (by rfl) (by rfl)
    refine hin.run pins s σ H Q I ⟨.ref a, k1, by rw [h4, sizeLine_eq]; omega, fun tp htp => .inr ⟨tp, vs, us, ts.any fun T => P.sub x T, rfl, upd_same, h2, h3 x D hmem hD, ?_⟩⟩
    have e : cs.contains x = ts.any fun T => P.sub x T := by
      subst hcs
      rw [Bool.eq_iff_iff, List.contains_iff_mem, List.mem_filter]
      exact ⟨fun z => z.2, fun z => ⟨hmem, z⟩⟩
    rw [← e]
    exact post_pure (M.ext_new htp) (.bl _) (Post.weak (.new htp) (List.prefix_refl _) q)
  · exact q.elim
end
end Z

set_option Elab.async false
set_option linter.all false
set_option maxRecDepth 100000
set_option maxHeartbeats 4000000
namespace Z
open PySem PySem.Spec PyProof.Rows L2
section
variable (P : Pg) (nm : Nm) (N : List Str)
structure Cs where
  e : ∀ (sc : Scope) (hot : Option Nat) (e : Expr), Option (CE P nm N sc hot e)
  t : ∀ (sc : Scope) (hot : Option Nat) (e : Expr), Option (CT P nm N sc hot e)
variable {P nm N}
variable (c : Cs P nm N)
theorem ti_imp {X : Cx} {tg e : Expr} {G : Gx} {W : WX} {weak : Bool} {src : Src} {ev ev' : Env' → Hm → Z.R} (h : PI X tg e (TIv G W weak ev src)) (q : ∀ ρ h, ev' ρ h = ev ρ h) : PI X tg e (TIv G W weak ev' src) := by
  have : ev' = ev := by funext ρ h; exact q ρ h
  rw [this]; exact h
theorem ta_imp {X : Cx} {es : List Expr} {G : Gx} {W : WX} {ev ev' : Env' → Hm → Z.R} (h : PA X es (TAv G W ev)) (q : ∀ ρ h, ev' ρ h = ev ρ h) : PA X es (TAv G W ev') := by
  have : ev' = ev := by funext ρ h; exact q ρ h
  rw [this]; exact h
theorem ts_imp {X : Cx} {es : List Expr} {G : Gx} {W : WX} {ev ev' : Env' → Hm → Z.R} (h : PTs X es (TTv G W ev)) (q : ∀ ρ h, ev' ρ h = ev ρ h) : PTs X es (TTv G W ev') := by
  have : ev' = ev := by funext ρ h; exact q ρ h
  rw [this]; exact h
def cArgs (sc : Scope) (hot : Option Nat) : (es : List Expr) → Option (CA P nm N sc hot es)
  | [] => some ⟨.nil, fun w k G W X o => ta_imp a_nil fun ρ h => by simp only [evE], fun _ => rfl⟩
  | e :: r =>
    if hs : noStar e = true then
      match c.e sc hot e, cArgs sc hot r with
      | some a, some b => some ⟨.cons a.e' b.a', fun w k G W X o => ta_imp (a_cons (a.pe w k G W X o) (b.pa w k G W X o) (star_cons hs)) fun ρ h => by simp only [evE]; try rfl, fun env => by rw [star_cons hs, b.star env]; rfl⟩
      | _, _ => none
    else none
structure CW (P : Pg) (nm : Nm) (N : List Str) (sc : Scope) (hot : Option Nat) (e : Expr) where
  e' : E
  pw : ∀ w k G W X, OkE P w k nm N sc hot G W X → PW X e (TTv G W (evE (callF P w k) e'))
def cBoolE (sc : Scope) (hot : Option Nat) (op : BoolOp) (pos : Pos) : (es : List Expr) → Option (CE P nm N sc hot (.BoolOp op es pos))
  | [] => none
  | [a] => match c.e sc hot a with
    | some x => some ⟨x.e', fun w k G W X o => pe_one (x.pe w k G W X o)⟩
    | _ => none
  | a :: b :: rest => match c.e sc hot a, cBoolE sc hot op pos (b :: rest) with
    | some x, some z => match op with
      | .And => some ⟨.and x.e' z.e', fun w k G W X o => e_and o.hK (x.pe w k G W X o) (z.pe w k G W X o)⟩
      | .Or => some ⟨.or x.e' z.e', fun w k G W X o => e_or o.hK (x.pe w k G W X o) (z.pe w k G W X o)⟩
    | _, _ => none
def cBoolT (sc : Scope) (hot : Option Nat) (op : BoolOp) (pos : Pos) : (es : List Expr) → Option (CW P nm N sc hot (.BoolOp op es pos))
  | [] => none
  | [a] => match c.t sc hot a with
    | some x => match op with
      | .And => some ⟨x.e', fun w k G W X o => pw_and1 (x.pt w k G W X o)⟩
      | .Or => some ⟨x.e', fun w k G W X o => pw_or1 (x.pt w k G W X o)⟩
    | _ => none
  | a :: b :: rest => match c.t sc hot a, cBoolT sc hot op pos (b :: rest) with
    | some x, some z => match op with
      | .And => some ⟨.and x.e' z.e', fun w k G W X o => w_and (x.pt w k G W X o) (z.pw w k G W X o)⟩
      | .Or => some ⟨.or x.e' z.e', fun w k G W X o => w_or (x.pt w k G W X o) (z.pw w k G W X o)⟩
    | _, _ => none
/-- the items of a loop or comprehension -/
def cPlain (sc : Scope) (iter : Expr) : Option (CI P nm N sc iter) :=
  if hs : noSet iter = true then
    match c.e sc none iter with
    | some a => some ⟨.plain, .cons a.e' .nil, false, fun w k G W X tg o => ti_imp (i_plain o.hK (a.pe w k G W X o)) (fun ρ h => by simp only [evE]; try rfl), fun env x => fold_ok hs env x⟩
    | none => none
  else none
def cIter (sc : Scope) (iter : Expr) : Option (CI P nm N sc iter) := match iter with
  | .Call (.Name f p) args kws pos => match kws with
    | [] =>
      if hf : f = ("range" : Str) ∧ sc.names.lookup f = some .globalImplicit then
        match args with
        | [a] => match cArgs c sc none [a] with
          | some x => some ⟨.range1, x.a', false, fun w k G W X tg o => by
              obtain ⟨rfl, hg⟩ := hf
              exact i_range1 (o.gl hg) (o.blt _ (by decide +kernel)) (x.pa w k G W X o) (by rw [x.star]; rfl), fun env x => by rfl⟩
          | none => none
        | [a, b] => match cArgs c sc none [a, b], cArgs c sc none [b] with
          | some x, some y => some ⟨.range2, x.a', false, fun w k G W X tg o => by
              obtain ⟨rfl, hg⟩ := hf
              exact i_range2 (o.gl hg) (o.blt _ (by decide +kernel)) (x.pa w k G W X o) (by rw [x.star]; rfl) (by rw [y.star]; rfl), fun env x => by rfl⟩
          | _, _ => none
        | [a, b, d] => match cArgs c sc none [a, b, d], cArgs c sc none [b, d] with
          | some x, some y => some ⟨.range3, x.a', false, fun w k G W X tg o => by
              obtain ⟨rfl, hg⟩ := hf
              exact i_range3 (o.gl hg) (o.blt _ (by decide +kernel)) (x.pa w k G W X o) (by rw [x.star]; rfl) (by rw [y.star]; rfl), fun env x => by rfl⟩
          | _, _ => none
        | _ => none
      else if hf : f = ("reversed" : Str) ∧ sc.names.lookup f = some .globalImplicit then
        match args with
        | [a] => match c.e sc none a, cArgs c sc none [a] with
          | some x, some y => some ⟨.rev, .cons x.e' .nil, false, fun w k G W X tg o => by
              obtain ⟨rfl, hg⟩ := hf
              exact ti_imp (i_rev o.hK (o.gl hg) (o.blt _ (by decide +kernel)) (x.pe w k G W X o) (by rw [y.star]; rfl)) (fun ρ h => by simp only [evE]; try rfl), fun env x => by rfl⟩
          | _, _ => none
        | _ => none
      else cPlain c sc (.Call (.Name f p) args [] pos)
    | _ => none
  | e => cPlain c sc e
/-- a clause's test -/
structure CTs (P : Pg) (nm : Nm) (N : List Str) (sc : Scope) (ifs : List Expr) where
  e' : E
  pts : ∀ w k G W X, OkE P w k nm N sc none G W X → PTs X ifs (TTv G W (evE (callF P w k) e'))
def cIfs (sc : Scope) (ifs : List Expr) : Option (CTs P nm N sc ifs) := match ifs with
  | [] => some ⟨.lit (.bl true), fun w k G W X o => ts_imp pts_yes fun ρ h => by simp only [evE]⟩
  | [t] => match c.t sc none t with
    | some x => some ⟨x.e', fun w k G W X o => pts_one (x.pt w k G W X o)⟩
    | none => none
  | _ => none
def eqStrs (l m : List Str) : Bool := decide (l = m)
/-- the names that a target stores -/
def tgNames : Expr → List Str
  | .Name x _ => [x]
  | .Tuple [.Name x _, .Name y _] _ _ => [x, y]
  | .Tuple [.Name x _, .Name y _, .Name z _] _ _ => [x, y, z]
  | .Tuple [.Name x _, .Name y _, .Name z _, .Name u _] _ _ => [x, y, z, u]
  | _ => []
/-- a comprehension's parts -/
structure CC (P : Pg) (nm : Nm) (N : List Str) (sc : Scope) (elt : Expr) (gs : List Comprehension) (scope : Scope) where
  own : List (Str × Nat)
  tg : Expr
  iter : Expr
  ifs : List Expr
  eq : gs = [⟨tg, iter, ifs, 0⟩]
  i : CI P nm N sc iter
  g : CG P nm N scope i.weak tg
  ts : CTs P nm N scope ifs
  e : CE P nm N scope none elt
  blk : blkC N sc scope own = true
  sl : ∀ j ∈ g.t.slots, j ∈ own.map (·.2)
def cComp (sc : Scope) (elt : Expr) (gs : List Comprehension) (scope : Scope) : Option (CC P nm N sc elt gs scope) := match gs with
  | [⟨tg, iter, ifs, 0⟩] =>
    let own := (tgNames tg).map fun x => (x, N.findIdx (· == x))
    match cIter c sc iter with
    | some i => match cG (P := P) (nm := nm) (N := N) (sc := scope) i.weak tg, cIfs c scope ifs, c.e scope none elt with
      | some g, some ts, some e =>
        if hb : blkC N sc scope own = true then
          if hs : ∀ j ∈ g.t.slots, j ∈ own.map (·.2) then some ⟨own, tg, iter, ifs, rfl, i, g, ts, e, hb, hs⟩ else none
        else none
      | _, _, _ => none
    | none => none
  | _ => none
theorem blk_to {sc scope : Scope} {own : List (Str × Nat)} {hot : Option Nat} {w k : Nat} {G : Gx} {W : WX} {X : Cx} (o : OkE P w k nm N sc hot G W X) (b : blkC N sc scope own = true) : BlkOk N X.env.scope scope own := by
  have q := blkOk_by b
  refine ⟨q.kind, q.uniq, q.ix, fun y hy e => ?_, q.own⟩
  rcases q.free y hy e with z | z
  · obtain ⟨kd, h1, h2⟩ := o.sc1 _ _ z
    rcases h2 with rfl | ⟨h2, _⟩
    · exact .inl h1
    · cases h2
  · obtain ⟨kd, h1, h2⟩ := o.sc1 _ _ z
    rcases h2 with rfl | ⟨_, rfl⟩
    · exact .inr h1
    · exact .inl h1
def compE {sc : Scope} {elt : Expr} {gs : List Comprehension} {scope : Scope} (x : CC P nm N sc elt gs scope) : E := .comp (x.own.map (·.2)) x.i.src x.i.ea x.g.t x.ts.e' x.e.e'
def mkComp {sc : Scope} {elt : Expr} {gs : List Comprehension} {scope : Scope} {pos : Pos} (x : CC P nm N sc elt gs scope) : CE P nm N sc none (.ListComp elt gs scope pos) :=
  ⟨compE x, fun w k G W X o => by
    obtain ⟨own, tg, iter, ifs, rfl, i, g, ts, e, hb, hs⟩ := x
    exact e_lc o (i.pi w k G W X tg o) (blk_to o hb) (fun X' o' => by
      have z := g.pg w k G W0 X' o'
      rw [← o'.hK, o.hK] at z
      exact z) (by
      intro v σ H Q ρ ρ1 π h d h0 h1 h2 h3 h4 h5
      exact g.ok X G o.hK v σ H Q ρ ρ1 π h d h0 h1 h2 h3 h4 h5) hs (fun X' o' => ts.pts w k G W0 X' o') (fun X' o' => e.pe w k G W0 X' o') (fun z => i.fold _ z)⟩
def cPart (sc : Scope) (hot : Option Nat) (e : Option Expr) : Option {el : E // (∀ w k, PartOk (callF P w k) el) ∧ ∀ w k G W X, OkE P w k nm N sc hot G W X → PO X e (TOv G W (evE (callF P w k) el))} := match e with
  | none => some ⟨.lit .non, fun w k => part_none, fun w k G W X o => o_none⟩
  | some e => match c.e sc hot e with
    | some x => some ⟨.prim .part (.cons x.e' .nil), fun w k => part_some, fun w k G W X o => o_some (x.pe w k G W X o)⟩
    | none => none
def cSub (sc : Scope) (hot : Option Nat) (a b : Expr) (pos : Pos) : Option (CE P nm N sc hot (.Subscript a b pos)) := match b with
  | .Slice lo hi none p2 => match c.e sc hot a, cPart c sc hot lo, cPart c sc hot hi with
    | some x, some l, some h => some ⟨.prim .slice (.cons x.e' (.cons l.1 (.cons h.1 .nil))), fun w k G W X o => e_slice o.hK (x.pe w k G W X o) (l.2.2 w k G W X o) (h.2.2 w k G W X o) (l.2.1 w k) (h.2.1 w k)⟩
    | _, _, _ => none
  | b => match plainIx b, c.e sc hot a, c.e sc hot b with
    | some hp, some x, some y => some ⟨.prim .idx (.cons x.e' (.cons y.e' .nil)), fun w k G W X o => e_idx o.hK hp.down (x.pe w k G W X o) (y.pe w k G W X o)⟩
    | _, _, _ => none
def cCmp (sc : Scope) (hot : Option Nat) (a : Expr) (ops : List CmpOp) (bs : List Expr) (pos : Pos) : Option (CE P nm N sc hot (.Compare a ops bs pos)) := match ops, bs with
  | [op], [b] => match hp : cmpPm op, c.e sc hot a, c.e sc hot b with
    | some p, some x, some y => if hm : behindInMarks op b = false then some ⟨.prim p (.cons x.e' (.cons y.e' .nil)), fun w k G W X o => e_cmp (cmp_ok o hp) hm (x.pe w k G W X o) (y.pe w k G W X o)⟩ else none
    | _, _, _ => none
  | [op, op'], [b, d] => match hp : cmpPm op, hp' : cmpPm op', c.e sc hot a, c.e sc hot b, c.e sc hot d with
    | some p, some p', some x, some y, some z => if hm : lastMarks [op, op'] [b, d] = false then some ⟨.chain p p' x.e' y.e' z.e', fun w k G W X o => e_chain hp o hp' hm (x.pe w k G W X o) (y.pe w k G W X o) (z.pe w k G W X o)⟩ else none
    | _, _, _, _, _ => none
  | _, _ => none
def cCmpT (sc : Scope) (hot : Option Nat) (a : Expr) (ops : List CmpOp) (bs : List Expr) (pos : Pos) : Option (CT P nm N sc hot (.Compare a ops bs pos)) := match ops, bs with
  | [op], [b] => match hp : cmpPm op, c.e sc hot a, c.e sc hot b with
    | some p, some x, some y => if hm : behindInMarks op b = false then some ⟨.prim p (.cons x.e' (.cons y.e' .nil)), fun w k G W X o => t_cmp' hp o hm (x.pe w k G W X o) (y.pe w k G W X o)⟩ else none
    | _, _, _ => none
  | [op, op'], [b, d] => match hp : cmpPm op, hp' : cmpPm op', c.e sc hot a, c.e sc hot b, c.e sc hot d with
    | some p, some p', some x, some y, some z => if hm : lastMarks [op, op'] [b, d] = false then some ⟨.chain p p' x.e' y.e' z.e', fun w k G W X o => t_chain hp o hp' hm (x.pe w k G W X o) (y.pe w k G W X o) (z.pe w k G W X o)⟩ else none
    | _, _, _, _, _ => none
  | _, _ => none
/-- isinstance of a value -/
def cIsi (sc : Scope) (hot : Option Nat) (a t : Expr) (p1 pos : Pos) : Option (CE P nm N sc hot (.Call (.Name "isinstance" p1) [a, t] [] pos)) :=
  if hg : sc.names.lookup ("isinstance" : Str) = some .globalImplicit ∧ noStar a = true then
    match t with
    | .Name T p2 => match hk : kindOf T, c.e sc hot a with
      | some (p, C), some x => if hT : sc.names.lookup T = some .globalImplicit then some ⟨.prim p (.cons x.e' .nil), fun w k G W X o => e_isi o hk hg.1 hT (x.pe w k G W X o) hg.2⟩ else none
      | _, _ => none
    | .Tuple [.Name T p2, .Name U p3] kk p4 =>
      if hT : T = ("list" : Str) ∧ U = ("tuple" : Str) ∧ sc.names.lookup ("list" : Str) = some .globalImplicit ∧ sc.names.lookup ("tuple" : Str) = some .globalImplicit then
        match c.e sc hot a with
        | some x => some ⟨.prim .isseq (.cons x.e' .nil), fun w k G W X o => by
            obtain ⟨rfl, rfl, h1, h2⟩ := hT
            exact e_isi2 o hg.1 h1 h2 (x.pe w k G W X o) hg.2⟩
        | none => none
      else none
    | _ => none
  else none
/-- f(..), f a name -/
def cCallN (sc : Scope) (f : Str) (p0 : Pos) (args : List Expr) (pos : Pos) : Option (CE P nm N sc none (.Call (.Name f p0) args [] pos)) := match args with
  | [] => none
  | e :: es => match cArgs c sc none (e :: es), cArgs c sc none es with
    | some x, some y =>
      if hg : sc.names.lookup f = some .globalImplicit ∧ (f == ("__debug__" : Str)) = false then
        match hi : nm.fns.lookup f with
        | some i => some ⟨.call i x.a', fun w k G W X o => e_call o (PySem.mem_of_lookup hi) hg.1 hg.2 (x.pa w k G W X o) (star_head (x.star _) (y.star _)) (star_any (y.star _))⟩
        | none => match hk : nm.kws.lookup f with
          | some (i, dl) => some ⟨.callD i x.a' (dl.map (·.2)), fun w k G W X o => e_callD o (PySem.mem_of_lookup hk) hg.1 hg.2 (x.pa w k G W X o) (star_head (x.star _) (y.star _)) (star_any (y.star _))⟩
          | none => match hb : bltOf f (e :: es).length with
            | some b => some ⟨.prim b.pm x.a', fun w k G W X o => e_blt' o hb hg.1 (x.pa w k G W X o) (star_head (x.star _) (y.star _)) (star_any (y.star _))⟩
            | none => none
      else none
    | _, _ => none
/-- o.m(..) -/
def cMeth (sc : Scope) (ob : Expr) (m : Str) (apos : Pos) (args : List Expr) (cpos : Pos) : Option (CE P nm N sc none (.Call (.Attribute ob m apos) args [] cpos)) :=
  if h : baseOk ob = true ∧ (apos.endLine == cpos.line) = true ∧ args.length < 30 then
    match args with
    | [] => match hm : mtOf m 0, c.e sc none ob with
      | some p, some x => some ⟨.meth p x.e' .nil, fun w k G W X o => e_meth0 (by have := o.units; omega) o.hK hm (x.pe w k G W X o) (base_ok h.1 _ _ _) h.2.1⟩
      | _, _ => none
    | e :: es => match hm : mtOf m (e :: es).length, c.e sc none ob, cArgs c sc none (e :: es), cArgs c sc none es with
      | some p, some x, some y, some z => if hl : (e :: es).length < 30 then some ⟨.meth p x.e' y.a', fun w k G W X o => e_meth (by have := o.units; omega) o.hK hm (x.pe w k G W X o) (y.pa w k G W X o) (base_ok h.1 _ _ _) (y.star _) (z.star _) hl h.2.1⟩ else none
      | _, _, _, _ => none
  else none
/-- isinstance of the exception that the suite holds -/
def namesOf : List Expr → Option (List Str)
  | [] => some []
  | .Name x _ :: r => (namesOf r).map (x :: ·)
  | _ => none
theorem namesOf_ok : ∀ {es : List Expr} {ts : List Str}, namesOf es = some ts → es.length = ts.length ∧ ∀ q ∈ es.zip ts, ∃ p, q.1 = .Name q.2 p
  | [], ts, h => by simp [namesOf] at h; subst h; exact ⟨rfl, fun q hq => by simp at hq⟩
  | e :: r, ts, h => by
    cases e <;> simp only [namesOf, reduceCtorEq, Option.map_eq_some_iff] at h
    obtain ⟨us, h1, rfl⟩ := h
    obtain ⟨k1, k2⟩ := namesOf_ok h1
    refine ⟨by simp [k1], fun q hq => ?_⟩
    simp only [List.zip_cons_cons, List.mem_cons] at hq
    rcases hq with rfl | hq
    · exact ⟨_, rfl⟩
    · exact k2 q hq
def cXis (sc : Scope) (i : Nat) (a t : Expr) (p1 pos : Pos) : Option (CE P nm N sc (some i) (.Call (.Name "isinstance" p1) [a, t] [] pos)) := match a with
  | .Name n p2 =>
    if h : N[i]? = some n ∧ (sc.names.lookup n = some .local ∨ sc.names.lookup n = some .cell ∨ sc.names.lookup n = some .free) ∧ (n == ("__debug__" : Str)) = false ∧ (n == ("__classdict__" : Str)) = false ∧ sc.names.lookup ("isinstance" : Str) = some .globalImplicit then
      match t with
      | .Name T p3 => if hT : sc.names.lookup T = some .globalImplicit ∧ (T == ("__debug__" : Str)) = false ∧ (T ∈ nm.exc.map (·.1) ∨ T = ("ValueError" : Str)) then
          some ⟨.xis i ((nm.exc.map (·.1)).filter fun z => P.sub z T), fun w k G W X o => x_is1 o h.1 h.2.1 h.2.2.1 h.2.2.2.1 h.2.2.2.2 hT.1 hT.2.1 hT.2.2 rfl⟩
        else none
      | .Tuple es kk p3 => match hn : namesOf es with
        | some ts => if hT : (∀ T ∈ ts, sc.names.lookup T = some .globalImplicit ∧ (T == ("__debug__" : Str)) = false ∧ T ∈ nm.exc.map (·.1)) ∧ es.length ≤ 1000 then
            some ⟨.xis i ((nm.exc.map (·.1)).filter fun z => ts.any fun T => P.sub z T), fun w k G W X o => x_is2 o h.1 h.2.1 h.2.2.1 h.2.2.2.1 h.2.2.2.2 (namesOf_ok hn).1 (namesOf_ok hn).2 hT.1 hT.2 rfl⟩
          else none
        | none => none
      | _ => none
    else none
  | _ => none
def cIs (sc : Scope) (hot : Option Nat) (a t : Expr) (p1 pos : Pos) : Option (CE P nm N sc hot (.Call (.Name "isinstance" p1) [a, t] [] pos)) := match hot with
  | some i => match cXis sc i a t p1 pos with
    | some x => some x
    | none => cIsi c sc (some i) a t p1 pos
  | none => cIsi c sc none a t p1 pos
def isIsi (f : Str) (args : List Expr) : Bool := decide (f = ("isinstance" : Str))
/-- list(range(a)) -/
def cLR (sc : Scope) (f : Str) (p0 : Pos) (args : List Expr) (pos : Pos) : Option (CE P nm N sc none (.Call (.Name f p0) args [] pos)) := match args with
  | [.Call (.Name g q1) [a] [] q2] =>
    if h : (f = ("list" : Str) ∧ g = ("range" : Str)) ∧ sc.names.lookup ("list" : Str) = some .globalImplicit ∧ sc.names.lookup ("range" : Str) = some .globalImplicit then
      match c.e sc none a, cArgs c sc none [a] with
      | some x, some y => some ⟨.prim .rangel (.cons x.e' .nil), fun w k G W X o => by
          obtain ⟨⟨rfl, rfl⟩, h1, h2⟩ := h
          exact e_listR (o.calm rfl) (o.gl h1) (o.blt _ (by decide +kernel)) (o.gl h2) (o.blt _ (by decide +kernel)) (x.pe w k G W X o) (by rw [y.star]; rfl)⟩
      | _, _ => none
    else if h : (f = ("list" : Str) ∧ g = ("reversed" : Str)) ∧ sc.names.lookup ("list" : Str) = some .globalImplicit ∧ sc.names.lookup ("reversed" : Str) = some .globalImplicit then
      match c.e sc none a, cArgs c sc none [a] with
      | some x, some y => some ⟨.prim .revl (.cons x.e' .nil), fun w k G W X o => by
          obtain ⟨⟨rfl, rfl⟩, h1, h2⟩ := h
          exact e_revl o.hK (o.calm rfl) (o.gl h1) (o.blt _ (by decide +kernel)) (o.gl h2) (o.blt _ (by decide +kernel)) (x.pe w k G W X o) (by rw [y.star]; rfl)⟩
      | _, _ => none
    else none
  | _ => none
/-- keywords' values, one after another -/
structure CKw (P : Pg) (nm : Nm) (N : List Str) (sc : Scope) (kws : List Keyword) where
  b' : E
  pk : ∀ w k G W X, OkE P w k nm N sc none G W X → PK X kws (TAv G W (evE (callF P w k) b'))
theorem tk_imp {X : Cx} {kws : List Keyword} {G : Gx} {W : WX} {ev ev' : Env' → Hm → Z.R} (h : PK X kws (TAv G W ev)) (q : ∀ ρ h, ev' ρ h = ev ρ h) : PK X kws (TAv G W ev') := by
  have : ev' = ev := by funext ρ h; exact q ρ h
  rw [this]; exact h
def cKws (sc : Scope) : (kws : List Keyword) → Option (CKw P nm N sc kws)
  | [] => some ⟨.nil, fun w k G W X o => tk_imp k_nil fun ρ h => by simp only [evE]⟩
  | ⟨n, v, p⟩ :: r => match c.e sc none v, cKws sc r with
    | some a, some b => some ⟨.cons a.e' b.b', fun w k G W X o => tk_imp (k_cons (a.pe w k G W X o) (b.pk w k G W X o)) fun ρ h => by simp only [evE]; try rfl⟩
    | _, _ => none
/-- f(.., k = v) -/
def cCallK (sc : Scope) (fn : Expr) (args : List Expr) (kws : List Keyword) (pos : Pos) : Option (CE P nm N sc none (.Call fn args kws pos)) := match fn, args with
  | .Name f p0, e :: es => match cArgs c sc none (e :: es), cArgs c sc none es, cKws c sc kws with
    | some x, some y, some z =>
      if hg : sc.names.lookup f = some .globalImplicit ∧ (f == ("__debug__" : Str)) = false then
        match hk : nm.kws.lookup f with
        | some (i, dl) => if hl : z.b'.lenC = some dl.length ∧ kws.map (·.arg) = dl.map fun q => some q.1 then
            some ⟨.call i (.app x.a' z.b'), fun w k G W X o => e_callK o (PySem.mem_of_lookup hk) hg.1 hg.2 (x.pa w k G W X o) (z.pk w k G W X o) hl.1 hl.2 (star_head (x.star _) (y.star _)) (x.star _)⟩
          else none
        | none => none
      else none
    | _, _, _ => none
  | _, _ => none
def cCall (sc : Scope) (hot : Option Nat) (fn : Expr) (args : List Expr) (pos : Pos) : Option (CE P nm N sc hot (.Call fn args [] pos)) := match fn with
  | .Name f p0 =>
    if hf : f = ("isinstance" : Str) then match args with
      | [a, t] => match cIs c sc hot a t p0 pos with
        | some x => some ⟨x.e', by subst hf; exact x.pe⟩
        | none => none
      | _ => none
    else match hot with
      | none => match cLR c sc f p0 args pos with
        | some x => some x
        | none => cCallN c sc f p0 args pos
      | some _ => none
  | .Attribute ob m apos => match hot with
    | none => cMeth c sc ob m apos args pos
    | some _ => none
  | _ => none
def eStep (sc : Scope) (hot : Option Nat) (e : Expr) : Option (CE P nm N sc hot e) := match e with
  | .Name x pos => cName x pos
  | .Constant v j pos => cConst v j pos
  | .BinOp a op b pos => match hp : binPm op, c.e sc hot a, c.e sc hot b with
    | some p, some x, some y => some ⟨.prim p (.cons x.e' (.cons y.e' .nil)), fun w k G W X o => e_op (bin_ok o hp) (x.pe w k G W X o) (y.pe w k G W X o)⟩
    | _, _, _ => none
  | .UnaryOp .USub a pos => match c.e sc hot a with
    | some x => some ⟨.prim .neg (.cons x.e' .nil), fun w k G W X o => e_neg (x.pe w k G W X o)⟩
    | none => none
  | .UnaryOp .Not a pos => match c.e sc hot a with
    | some x => some ⟨.not x.e', fun w k G W X o => e_not o.hK (x.pe w k G W X o)⟩
    | none => none
  | .BoolOp op es pos => cBoolE c sc hot op pos es
  | .Compare a ops bs pos => cCmp c sc hot a ops bs pos
  | .IfExp t a b pos => match c.t sc hot t, c.e sc hot a, c.e sc hot b with
    | some z, some x, some y => some ⟨.ite z.e' x.e' y.e', fun w k G W X o => e_ite (z.pt w k G W X o) (x.pe w k G W X o) (y.pe w k G W X o)⟩
    | _, _, _ => none
  | .Call fn args kws pos => match kws with
    | [] => cCall c sc hot fn args pos
    | kw :: kws => match hot with
      | none => cCallK c sc fn args (kw :: kws) pos
      | some _ => none
  | .Subscript a b pos => cSub c sc hot a b pos
  | .Tuple es j pos => match cArgs c sc hot es with
    | some x => some ⟨.tup x.a', fun w k G W X o => e_tup (x.pa w k G W X o)⟩
    | none => none
  | .List es pos => match cArgs c sc hot es with
    | some x => some ⟨.lst x.a', fun w k G W X o => e_lst (x.pa w k G W X o)⟩
    | none => none
  | .ListComp elt gs scope pos => match hot with
    | none => match cComp c sc elt gs scope with
      | some x => some (mkComp x)
      | none => none
    | some _ => none
  | _ => none
def tStep (sc : Scope) (hot : Option Nat) (e : Expr) : Option (CT P nm N sc hot e) := match e with
  | .UnaryOp .Not a pos => match c.t sc hot a with
    | some x => some ⟨.not x.e', fun w k G W X o => t_not (x.pt w k G W X o)⟩
    | none => none
  | .BoolOp op es pos => match cBoolT c sc hot op pos es with
    | some x => some ⟨x.e', fun w k G W X o => (x.pw w k G W X o).pt⟩
    | none => none
  | .Compare a ops bs pos => cCmpT c sc hot a ops bs pos
  | e => if ht : plainTest e = true then match c.e sc hot e with
      | some x => some ⟨x.e', fun w k G W X o => t_val o.hK (x.pe w k G W X o) (plainTest_ok ht _)⟩
      | none => none
    else none
def cAll : Nat → Cs P nm N
  | 0 => ⟨fun _ _ _ => none, fun _ _ _ => none⟩
  | n + 1 => ⟨eStep (cAll n), tStep (cAll n)⟩
end
end Z

set_option Elab.async false
set_option linter.all false
set_option maxRecDepth 100000
set_option maxHeartbeats 4000000
namespace Z
open PySem PySem.Spec PyProof.Rows L2
/-! ### statements -/
def PostS (G : Gx) (W : WX) (H : Hp) (π : List Addr) (o : O) (D : Ends) : Prop := match o with
  | .nx ρ h => ∀ σ H' π', Ext H H' → π <+: π' → HmOk G H' π' h → EnvOk G H' π' ρ σ → D.nx σ H'
  | .rt d h => ∀ v H' π', Ext H H' → π <+: π' → HmOk G H' π' h → Rep G H' π' d v → D.rt v H'
  | .bk ρ h => ∀ σ H' π', Ext H H' → π <+: π' → HmOk G H' π' h → EnvOk G H' π' ρ σ → D.bk σ H'
  | .ct ρ h => ∀ σ H' π', Ext H H' → π <+: π' → HmOk G H' π' h → EnvOk G H' π' ρ σ → D.ct σ H'
  | .ex x ρ h => ∀ σ cls dd H' π', Ext H H' → π <+: π' → HmOk G H' π' h → EnvOk G H' π' ρ σ → XRep G H' π' x cls dd → W cls dd σ H'
  | .bad => False
def TSv (G : Gx) (W : WX) (ev : Env' → Hm → O) : TS := fun D σ H => ∃ ρ π h, EnvOk G H π ρ σ ∧ HmOk G H π h ∧ PostS G W H π (ev ρ h) D
structure OkS (P : Pg) (w k : Nat) (nm : Nm) (N : List Str) (sc : Scope) (hot : Option Nat) (G : Gx) (W : WX) (X : Cx) : Prop extends OkE P w k nm N sc hot G W X where
  po : hot = none → PassesOwn (model X.prog X.w) X.A X.env X.xe
  hs : X.stack = X.env :: X.outer
  hf : X.env.frame = some X.env.locals
section
variable {P : Pg} {nm : Nm} {N : List Str} {sc : Scope} {hot : Option Nat} {w k : Nat} {G : Gx} {W : WX} {X : Cx}
theorem PostS.weak {o : O} {H0 H : Hp} {π0 π : List Addr} {D : Ends} (e : Ext H0 H) (q : π0 <+: π) (p : PostS G W H0 π0 o D) : PostS G W H π o D := by
  cases o with
  | nx ρ h => exact fun σ H' π' a b c z => p σ H' π' (e.trans a) (q.trans b) c z
  | rt d h => exact fun σ H' π' a b c z => p σ H' π' (e.trans a) (q.trans b) c z
  | bk ρ h => exact fun σ H' π' a b c z => p σ H' π' (e.trans a) (q.trans b) c z
  | ct ρ h => exact fun σ H' π' a b c z => p σ H' π' (e.trans a) (q.trans b) c z
  | ex x ρ h => exact fun σ cls dd H' π' a b c z y => p σ cls dd H' π' (e.trans a) (q.trans b) c z y
  | bad => exact p
theorem PostS.imp {o : O} {H : Hp} {π : List Addr} {D D' : Ends} (p : PostS G W H π o D) (h1 : ∀ σ H, D.nx σ H → D'.nx σ H) (h2 : ∀ v H, D.rt v H → D'.rt v H) (h3 : ∀ σ H, D.bk σ H → D'.bk σ H) (h4 : ∀ σ H, D.ct σ H → D'.ct σ H) : PostS G W H π o D' := by
  cases o with
  | nx ρ h => exact fun σ H' π' a b c z => h1 _ _ (p σ H' π' a b c z)
  | rt d h => exact fun σ H' π' a b c z => h2 _ _ (p σ H' π' a b c z)
  | bk ρ h => exact fun σ H' π' a b c z => h3 _ _ (p σ H' π' a b c z)
  | ct ρ h => exact fun σ H' π' a b c z => h4 _ _ (p σ H' π' a b c z)
  | ex x ρ h => exact p
  | bad => exact p
theorem PostS.to {r : Z.R} {f : D → Hm → O} {ρ : Env'} {σ : L2.St} {H : Hp} {π : List Addr} {D : Ends} (E : EnvOk G H π ρ σ) (p : PostS G W H π (r.to ρ f) D) :
    Post G W σ H π r fun d h _ H' π' => PostS G W H' π' (f d h) D := by
  cases r with
  | ok d h => exact fun v H' π' a b c z => PostS.weak a b p
  | exn x h => exact fun cls dd H' π' a b c z => p σ cls dd H' π' a b c (E.mono a b) z
  | bad => exact p
theorem PostS.nx_now {ρ : Env'} {h : Hm} {σ : L2.St} {H : Hp} {π : List Addr} {D : Ends} (E : EnvOk G H π ρ σ) (M : HmOk G H π h) (p : PostS G W H π (.nx ρ h) D) : D.nx σ H := p σ H π .refl (List.prefix_refl _) M E
theorem pss_imp {st : List Stmt} {t t' : TS} (h : PSs X st t) (q : ∀ D σ H, t' D σ H → t D σ H) : PSs X st t' := ⟨fun pins s σ H D I z => h.run pins s σ H D I (q _ _ _ z)⟩
theorem ps_imp {st : Stmt} {t t' : TS} (h : PS X st t) (q : ∀ D σ H, t' D σ H → t D σ H) : PS X st t' := ⟨fun pins s σ H D I z => h.run pins s σ H D I (q _ _ _ z)⟩
variable {c : Nat → List D → Hm → Z.R} {sub : Str → Str → Bool}
theorem s_nil : PSs X [] (TSv G W (evS c w sub .skip)) := pss_imp pss_nil fun D σ H ⟨ρ, π, h, E, M, p⟩ => by
  simp only [evS] at p; exact p.nx_now E M
theorem s_cons {st : Stmt} {rest : List Stmt} {a b : S} (h1 : PS X st (TSv G W (evS c w sub a))) (h2 : PSs X rest (TSv G W (evS c w sub b))) : PSs X (st :: rest) (TSv G W (evS c w sub (.seq a b))) := by
  refine pss_imp (pss_cons h1 h2) fun D σ H ⟨ρ, π, h, E, M, p⟩ => ⟨ρ, π, h, E, M, ?_⟩
  simp only [evS] at p
  cases q : evS c w sub a ρ h with
  | nx ρ1 h1 => rw [q] at p; exact fun σ' H' π' a b c z => ⟨ρ1, π', h1, z, c, PostS.weak a b p⟩
  | rt d h1 => rw [q] at p; exact p
  | bk ρ1 h1 => rw [q] at p; exact p
  | ct ρ1 h1 => rw [q] at p; exact p
  | ex x ρ1 h1 => rw [q] at p; exact p
  | bad => rw [q] at p; exact p
theorem s_pass {pos : Pos} : PS X (.Pass pos) (TSv G W (evS c w sub .skip)) := ps_imp ps_pass fun D σ H ⟨ρ, π, h, E, M, p⟩ => by
  simp only [evS] at p; exact p.nx_now E M
theorem s_break {pos : Pos} : PS X (.Break pos) (TSv G W (evS c w sub .brk)) := ps_imp ps_break fun D σ H ⟨ρ, π, h, E, M, p⟩ => by
  simp only [evS] at p; exact p σ H π .refl (List.prefix_refl _) M E
theorem s_cont {pos : Pos} : PS X (.Continue pos) (TSv G W (evS c w sub .cont)) := ps_imp ps_continue fun D σ H ⟨ρ, π, h, E, M, p⟩ => by
  simp only [evS] at p; exact p σ H π .refl (List.prefix_refl _) M E
theorem s_expr {e : Expr} {pos : Pos} {ea : E} (he : PE X e (TEv G W (evE c ea))) (hs : swapsWith e none pos.line X.env = pure false) : PS X (.Expr e pos) (TSv G W (evS c w sub (.expr ea))) := by
  refine ps_imp (ps_expr he hs) fun D σ H ⟨ρ, π, h, E, M, p⟩ => ⟨ρ, π, h, E, M, ?_⟩
  simp only [evS] at p
  exact (p.to E).imp fun d h1 v H1 π1 _ e p M1 R1 q => q.nx_now (E.mono e p) M1
theorem s_ret {e : Expr} {pos : Pos} {ea : E} (he : PE X e (TEv G W (evE c ea))) : PS X (.Return (some e) pos) (TSv G W (evS c w sub (.ret ea))) := by
  refine ps_imp (ps_ret he) fun D σ H ⟨ρ, π, h, E, M, p⟩ => ⟨ρ, π, h, E, M, ?_⟩
  simp only [evS] at p
  exact (p.to E).imp fun d h1 v H1 π1 _ e p M1 R1 q => q v H1 π1 .refl (List.prefix_refl _) M1 R1
theorem s_retN {pos : Pos} : PS X (.Return none pos) (TSv G W (evS c w sub .retn)) := ps_imp ps_retN fun D σ H ⟨ρ, π, h, E, M, p⟩ => by
  simp only [evS] at p; exact p .non H π .refl (List.prefix_refl _) M .non
theorem s_if {t : Expr} {a b : List Stmt} {pos : Pos} {et : E} {sa sb : S} (ht : PT X t (TTv G W (evE c et))) (ha : PSs X a (TSv G W (evS c w sub sa))) (hb : PSs X b (TSv G W (evS c w sub sb))) : PS X (.If t a b pos) (TSv G W (evS c w sub (.ite et sa sb))) := by
  refine ps_imp (ps_if ht ha hb) fun D σ H ⟨ρ, π, h, E, M, p⟩ => ⟨ρ, π, h, E, M, ?_⟩
  simp only [evS] at p
  refine (p.to E).imp fun d h1 v H1 π1 _ e p M1 R1 q => ?_
  split at q
  · rename_i hb
    exact ⟨true, hb, by (try dsimp only); rw [if_pos rfl]; exact ⟨ρ, π1, h1, E.mono e p, M1, q⟩⟩
  · rename_i hb
    exact ⟨false, hb, by (try dsimp only); rw [if_neg Bool.false_ne_true]; exact ⟨ρ, π1, h1, E.mono e p, M1, q⟩⟩
  · exact q.elim
/-- a store's reading -/
theorem set_read (hex : G.ex = none) {ea : E} {t : Tg} {g : TG} {D : Ends} {σ : L2.St} {H : Hp} (hg : TgOk X G false t g) (p : TSv G W (evS c w sub (.set t ea)) D σ H) : tAsg (TEv G W (evE c ea)) g D σ H := by
  obtain ⟨ρ, π, h, E, M, p⟩ := p
  refine ⟨ρ, π, h, E, M, ?_⟩
  simp only [evS] at p
  refine (p.to E).imp fun d h1 v H1 π1 _ e p M1 R1 q => ?_
  split at q
  · rename_i ρ1 hs
    exact hg v σ H1 _ ρ ρ1 π1 h1 d hex (E.mono e p) M1 (.inl ⟨rfl, R1⟩) hs fun σ1 E1 _ => q.nx_now E1 M1
  · exact q.elim
/-- .. in a suite: a name that is not the exception's -/
theorem set_readH {ea : E} {j : Nat} {D : Ends} {σ : L2.St} {H : Hp} (hj : ∀ i a c d, G.ex = some (i, a, c, d) → i ≠ j) (p : TSv G W (evS c w sub (.set (.name j) ea)) D σ H) : tAsg (TEv G W (evE c ea)) (gName j) D σ H := by
  obtain ⟨ρ, π, h, E, M, p⟩ := p
  refine ⟨ρ, π, h, E, M, ?_⟩
  simp only [evS] at p
  refine (p.to E).imp fun d h1 v H1 π1 _ e p M1 R1 q => ?_
  simp only [setT] at q
  exact q.nx_now ((E.mono e p).setH hj R1) M1
theorem s_setix {o i e : Expr} {pos p2 : Pos} {eo ei ea : E} (ho : PE X o (TEv G W (evE c eo))) (hi : PE X i (TEv G W (evE c ei))) (he : PE X e (TEv G W (evE c ea)))
    (ha : ∀ v, assign (.Subscript o i p2) X.env v = (do
      let ov ← holding [v] (eval o X.env)
      let iv ← holding [v, ov] (eval i X.env)
      standAt p2
      holding [v, ov, iv] (setItem ov iv v)
      release [v, ov, iv] [])) (hs : swapsWithSole [.Subscript o i p2] e pos.line X.env = pure false) (hw : swappedStores [.Subscript o i p2] e X.env = pure none) :
    PS X (.Assign [.Subscript o i p2] e pos) (TSv G W (evS c w sub (.setix eo ei ea))) := by
  refine ps_imp (ps_asg he (pg_sub ho hi (z_set (G := G) (W := W)) ha) hs hw) fun D σ H ⟨ρ, π, h, E, M, p⟩ => ⟨ρ, π, h, E, M, ?_⟩
  simp only [evS] at p
  refine (p.to E).imp fun d h1 v H1 π1 _ e1 p1 M1 R1 q => ?_
  have E1 := E.mono e1 p1
  refine ⟨ρ, π1, h1, E1, M1, (q.to E1).imp fun dO h2 vo H2 π2 _ e2 p2 M2 R2 q => ?_⟩
  have E2 := E1.mono e2 p2
  refine ⟨ρ, π2, h2, E2, M2, (q.to E2).imp fun di h3 vi H3 π3 _ e3 p3 M3 R3 q => ?_⟩
  have E3 := E2.mono e3 p3
  exact ⟨σ, π3, h3, dO, di, d, M3, R2.mono e3 p3, R3, (R1.mono e2 p2).mono e3 p3, (q.to E3).imp fun _ h4 v4 H4 π4 _ e4 p4 M4 R4 q => q.nx_now (E3.mono e4 p4) M4⟩
/-! #### x op= e -/
def rAug (G : Gx) (W : WX) (p : Pm) : TIp := rA2 G W (evAug p)
theorem aug_ok {op : Operator} {p : Pm} (h : binPm op = some p) : PIp X op (rAug G W p) := by
  intro pins s σ H x y v u Q I rx ry ⟨σ', π, h, dx, dy, M, Rx, Ry, P⟩
  unfold evAug at P
  split at P
  · cases rep_int Rx; cases rep_int Ry
    have : op = .Add := by cases op <;> simp [binPm] at h <;> rfl
    subst this
    exact iop_add pins s σ H _ _ v u Q I rx ry ⟨_, _, rfl, rfl, post_pure M (.int _) P⟩
  · cases rep_str Rx; cases rep_str Ry
    have : op = .Add := by cases op <;> simp [binPm] at h <;> rfl
    subst this
    simp only [opAdd] at P
    split at P
    · rename_i hz
      exact iop_add_str pins s σ H _ _ v u Q I rx ry ⟨_, _, rfl, rfl, hz, post_pure M (.str _) P⟩
    · exact P.elim
  · cases rep_int Rx; cases rep_int Ry
    have : op = .Sub := by cases op <;> simp [binPm] at h <;> rfl
    subst this
    exact iop_sub pins s σ H _ _ v u Q I rx ry ⟨_, _, rfl, rfl, post_pure M (.int _) P⟩
  · cases rep_int Rx; cases rep_int Ry
    have : op = .Mult := by cases op <;> simp [binPm] at h <;> rfl
    subst this
    simp only [opMul] at P
    split at P
    · rename_i hc
      unfold okMul at hc
      simp only [Bool.or_eq_true, decide_eq_true_eq] at hc
      exact iop_mul pins s σ H _ _ v u Q I rx ry ⟨_, _, rfl, rfl, hc, post_pure M (.int _) P⟩
    · exact P.elim
  · split at P
    · rename_i hc
      cases rep_int Rx; cases rep_int Ry
      have : op = .FloorDiv := by cases op <;> simp [binPm] at h <;> rfl
      subst this
      exact iop_fdiv pins s σ H _ _ v u Q I rx ry ⟨_, _, rfl, rfl, hc, post_pure M (.int _) P⟩
    · exact P.elim
  · split at P
    · rename_i hc
      cases rep_int Rx; cases rep_int Ry
      have : op = .Mod := by cases op <;> simp [binPm] at h <;> rfl
      subst this
      exact iop_mod pins s σ H _ _ v u Q I rx ry ⟨_, _, rfl, rfl, hc, post_pure M (.int _) P⟩
    · exact P.elim
  · exact P.elim
theorem s_aug (hex : G.ex = none) {x : Str} {i : Nat} {op : Operator} {p : Pm} {e : Expr} {pos p2 : Pos} {ea : E} (o : OkE P w k nm N sc hot G W X) (h : N[i]? = some x ∧ (sc.names.lookup x = some .local ∨ sc.names.lookup x = some .cell)) (hp : binPm op = some p) (he : PE X e (TEv G W (evE c ea))) :
    PS X (.AugAssign (.Name x p2) op e pos) (TSv G W (evS c w sub (.aug p i ea))) := by
  refine ps_imp (ps_aug (by rw [o.hN]; exact o.nd) (by rw [o.hN]; exact h.1) (o.loc h.2) he (aug_ok (G := G) (W := W) hp) (o.sto x h.2)) fun D σ H ⟨ρ, π, hh, E, M, q⟩ => ?_
  simp only [evS] at q
  split at q
  · rename_i a ha
    obtain ⟨v, h1, h2⟩ := E.at' i a ha
    refine ⟨v, h1, ρ, π, hh, E, M, (q.to E).imp fun d h3 y H1 π1 _ e1 p1 M1 R1 q => ?_⟩
    have E1 := E.mono e1 p1
    exact ⟨σ, π1, h3, a, d, M1, h2.mono e1 p1, R1, (q.to E1).imp fun r h4 z H2 π2 _ e2 p2 M2 R2 q => q.nx_now ((E1.mono e2 p2).set hex R2) M2⟩
  · exact q.elim
/-- xs[i] of a list, read for xs[i] op= e -/
def rGet (G : Gx) (W : WX) : V → V → Hp → VK → Prop := rA2 G W opGet
theorem get_ok (hK : G.K = X.K) : PGet X (rGet G W) := by
  intro pins s σ H x y v u Q I rx ry ⟨σ', π, h, dx, dy, M, Rx, Ry, P⟩
  unfold opGet at P
  split at P
  · rename_i xs i hl
    split at P
    · rename_i d hd
      obtain ⟨a, vs, rfl, rs, sq⟩ := lstOf_sq M Rx hl
      rw [hK] at sq
      obtain ⟨z, he, R2⟩ := at_rel rs hd
      cases rep_int Ry
      cases rx
      obtain ⟨t, rfl⟩ := ry
      obtain ⟨its, r, pl, hz⟩ := I.list sq
      obtain ⟨j, h1, h2, h3, h4, h5⟩ := atI_get he
      obtain ⟨w, ew, rw'⟩ := r.get h2
      have hl := r.length
      have hn := line63
      have fin : EP X pins σ Q w s := ⟨z, H, I, rw', post_pure M R2 P⟩
      by_cases h0 : 0 ≤ i
      · have hj : i.toNat = j := by
          rw [seqIndex_of h0 h5] at h1
          exact Option.some.inj h1
        exact wpAny_getItem_list pl.isList h0 (by omega) (by rw [hj]; simpa using ew) fin
      · have hj : (i + (its.toArray.size : Int)).toNat = j := by
          rw [seqIndex_neg (by omega) h4] at h1
          rw [List.size_toArray, ← hl]
          exact Option.some.inj h1
        exact wpAny_getItem_list_neg pl.isList (by omega) (by rw [List.size_toArray] <;> omega) (by omega) (by rw [hj]; simpa using ew) fin
    · exact P.elim
  · exact P.elim
theorem s_augix {o i e : Expr} {op : Operator} {p : Pm} {pos p2 : Pos} {eo ei ea : E} (hK : G.K = X.K) (hp : binPm op = some p) (ho : PE X o (TEv G W (evE c eo))) (hi : PE X i (TEv G W (evE c ei))) (he : PE X e (TEv G W (evE c ea)))
    (ha : ∀ ov iv new, augStore i ov iv new = (do holding [new, ov, iv] (setItem ov iv new); release [new, ov, iv] []; pure .next)) : PS X (.AugAssign (.Subscript o i p2) op e pos) (TSv G W (evS c w sub (.augix p eo ei ea))) := by
  refine ps_imp (ps_augS ho hi (get_ok (W := W) hK) he (aug_ok (G := G) (W := W) hp) (z_set (G := G) (W := W)) ha) fun D σ H ⟨ρ, π, h, E, M, q⟩ => ⟨ρ, π, h, E, M, ?_⟩
  simp only [evS] at q
  refine (q.to E).imp fun dO h1 vo H1 π1 _ e1 p1 M1 R1 q => ?_
  have E1 := E.mono e1 p1
  refine ⟨ρ, π1, h1, E1, M1, (q.to E1).imp fun di h2 vi H2 π2 _ e2 p2 M2 R2 q => ?_⟩
  have E2 := E1.mono e2 p2
  refine ⟨σ, π2, h2, dO, di, M2, R1.mono e2 p2, R2, (q.to E2).imp fun da h3 va H3 π3 _ e3 p3 M3 R3 q => ?_⟩
  have E3 := E2.mono e3 p3
  refine ⟨ρ, π3, h3, E3, M3, (q.to E3).imp fun d h4 v4 H4 π4 _ e4 p4 M4 R4 q => ?_⟩
  have E4 := E3.mono e4 p4
  refine ⟨σ, π4, h4, da, d, M4, R3.mono e4 p4, R4, (q.to E4).imp fun r h5 v5 H5 π5 _ e5 p5 M5 R5 q => ?_⟩
  have E5 := E4.mono e5 p5
  exact ⟨σ, π5, h5, dO, di, r, M5, (((R1.mono e2 p2).mono e3 p3).mono e4 p4).mono e5 p5, ((R2.mono e3 p3).mono e4 p4).mono e5 p5, R5, (q.to E5).imp fun _ h6 v6 H6 π6 _ e6 p6 M6 R6 q => q.nx_now (E5.mono e6 p6) M6⟩
end
end Z

set_option Elab.async false
set_option linter.all false
set_option maxRecDepth 100000
set_option maxHeartbeats 4000000
namespace Z
open PySem PySem.Spec PyProof.Rows L2
section
variable {P : Pg} {nm : Nm} {N : List Str} {sc : Scope} {hot : Option Nat} {w k : Nat} {G : Gx} {W : WX} {X : Cx}
variable {c : Nat → List D → Hm → Z.R} {sub : Str → Str → Bool}
/-! #### for -/
theorem for_read (hex : G.ex = none) {src : Src} {tg : Tg} {ea : Env' → Hm → Z.R} {g : TG} {weak : Bool} {body : Env' → Hm → O} {D : Ends} {σ : L2.St} {H : Hp} (hg : TgOk X G weak tg g) {ρ : Env'} {π : List Addr} {h : Hm} (E : EnvOk G H π ρ σ) (M : HmOk G H π h)
    (p : PostA G W σ H π (ea ρ h) fun ds h1 _ H1 π1 => ∃ items gd, evSrc src ds h1 = some (items, gd) ∧ PostS G W H1 π1 (forL gd tg body items ρ h1) D) : tFor (TIv G W weak ea src) g (TSv G W body) D σ H := by
  refine ⟨ρ, π, h, E, M, p.imp fun ds h1 vs H1 π1 _ e1 p1 M1 R1 ⟨items, gd, es, q⟩ => ⟨items, gd, es, fun J H2 e2 M2 wk => ?_⟩⟩
  have E2 : EnvOk G H2 π1 ρ σ := E.mono (e1.trans e2) p1
  have q := PostS.weak e2 (List.prefix_refl _) q
  let Wi : Nat → L2.St → Hp → Prop := fun i σ H => ∃ ρ π h, Ext H2 H ∧ π1 <+: π ∧ HmOk G H π h ∧ EnvOk G H π ρ σ ∧ PostS G W H π (forL gd tg body (items.drop i) ρ h) D
  refine ⟨fun i m σ H => m = items.length - i ∧ i ≤ items.length ∧ Wi i σ H, ⟨items.length, by simp, Nat.zero_le _, ρ, π1, h1, .refl, List.prefix_refl _, M2, E2, q⟩, ?_⟩
  rintro i m σ H ⟨rfl, hi, ρ', π', h', e', p', M', E', q'⟩
  by_cases hlt : i < items.length
  · rw [List.drop_eq_getElem_cons hlt] at q'
    unfold forL at q'
    split at q'
    · rename_i hgd
      refine .inr ⟨wk.goes i H π' h' hlt e' p' M' hgd, Wi (i + 1), fun σ' H' z => ⟨items.length - (i + 1), by omega, rfl, hlt, z⟩, fun x H' y => ?_⟩
      obtain ⟨d, hd, ex, Mx, rx⟩ := wk.yields i H π' h' x H' hlt e' p' M' hgd y
      have ed : items[i] = d := by
        rw [List.getElem?_eq_getElem hlt] at hd; exact Option.some.inj hd
      rw [ed] at q'
      have q' := PostS.weak ex (List.prefix_refl _) q'
      split at q'
      · exact q'.elim
      · rename_i ρ1 hset
        refine hg x σ H' _ ρ' ρ1 π' h' d hex (E'.mono ex (List.prefix_refl _)) Mx rx hset fun σ1 E1 _ => ⟨ρ1, π', h', E1, Mx, ?_⟩
        cases qb : body ρ1 h' with
        | nx ρ2 h2 => rw [qb] at q'; exact fun σ2 H3 π3 e3 p3 M3 E3 => ⟨ρ2, π3, h2, (e'.trans ex).trans e3, p'.trans p3, M3, E3, PostS.weak e3 p3 q'⟩
        | ct ρ2 h2 => rw [qb] at q'; exact fun σ2 H3 π3 e3 p3 M3 E3 => ⟨ρ2, π3, h2, (e'.trans ex).trans e3, p'.trans p3, M3, E3, PostS.weak e3 p3 q'⟩
        | bk ρ2 h2 => rw [qb] at q'; exact q'
        | rt d h2 => rw [qb] at q'; exact q'
        | ex x ρ2 h2 => rw [qb] at q'; exact q'
        | bad => rw [qb] at q'; exact q'
    · exact q'.elim
  · have e : i = items.length := by omega
    subst e
    rw [List.drop_length] at q'
    unfold forL at q'
    split at q'
    · rename_i hgd
      exact .inl ⟨wk.stops H π' h' e' p' M' hgd, q'.nx_now E' M'⟩
    · exact q'.elim
theorem PostS.args {r : Z.R} {f : List D → Hm → O} {ρ : Env'} {σ : L2.St} {H : Hp} {π : List Addr} {D : Ends} (E : EnvOk G H π ρ σ)
    (p : PostS G W H π (r.to ρ fun ds h1 => match ds with | .tup xs => f xs h1 | _ => .bad) D) : PostA G W σ H π r fun ds h _ H' π' => PostS G W H' π' (f ds h) D := by
  cases r with
  | ok d h1 =>
    cases d with
    | tup ds => exact fun vs H' π' a b c e => PostS.weak a b p
    | _ => exact p.elim
  | exn x h1 => exact fun cls dd H' π' a b c z => p σ cls dd H' π' a b c (E.mono a b) z
  | bad => exact p
theorem s_for {tg iter : Expr} {body : List Stmt} {pos : Pos} {src : Src} {t : Tg} {g : TG} {weak : Bool} {ea : E} {sb : S} (o : OkS P w k nm N sc none G W X) (hi : PI X tg iter (TIv G W weak (evE c ea) src)) (hg : PG X tg g) (hgo : TgOk X G weak t g) (hb : PSs X body (TSv G W (evS c w sub sb)))
    (hs : ∀ x, foldedSetIterable iter X.env x = pure x) : PS X (.For tg iter body [] pos) (TSv G W (evS c w sub (.loop src ea t sb))) := by
  refine ps_imp (ps_for (o.po rfl) (o.calm rfl) hi hg hb hs) fun D σ H ⟨ρ, π, h, E, M, p⟩ => ?_
  simp only [evS] at p
  refine for_read (o.gex rfl) hgo E M ((PostS.args (f := fun xs h1 => match evSrc src xs h1 with | some (items, gd) => forL gd t (evS c w sub sb) items ρ h1 | none => .bad) E p).imp fun ds h1 vs H1 π1 _ e1 p1 M1 R1 q => ?_)
  split at q
  · rename_i items gd hes; exact ⟨items, gd, hes, q⟩
  · exact q.elim
/-! #### while -/
theorem s_while {t : Expr} {body : List Stmt} {pos : Pos} {et : E} {sb : S} (o : OkS P w k nm N sc none G W X) (ht : PT X t (TTv G W (evE c et))) (hb : PSs X body (TSv G W (evS c w sub sb))) : PS X (.While t body [] pos) (TSv G W (evS c w sub (.while et sb))) := by
  refine ps_imp (ps_while (o.po rfl) ht hb) fun D σ H ⟨ρ, π, h, E, M, p⟩ => ?_
  simp only [evS] at p
  refine ⟨fun m σ H => ∃ ρ π h, HmOk G H π h ∧ EnvOk G H π ρ σ ∧ PostS G W H π (whileL (evE c et) (evS c w sub sb) m ρ h) D, ⟨w, ρ, π, h, M, E, p⟩, ?_⟩
  rintro m σ H ⟨ρ, π, h, M, E, p⟩
  cases m with
  | zero => exact p.elim
  | succ m =>
    refine ⟨ρ, π, h, E, M, ?_⟩
    unfold whileL at p
    cases q : evE c et ρ h with
    | bad => rw [q] at p; exact p.elim
    | exn x h1 => rw [q] at p; exact fun cls dd H' π' a b cc z => p σ cls dd H' π' a b cc (E.mono a b) z
    | ok d h1 =>
      rw [q] at p
      intro v H1 π1 e1 p1 M1 R1
      have E1 := E.mono e1 p1
      have p := PostS.weak e1 p1 p
      dsimp only at p
      split at p
      · rename_i hb
        refine ⟨true, hb, ?_⟩
        dsimp only
        rw [if_pos rfl]
        refine ⟨fun σ H => ∃ ρ π h, HmOk G H π h ∧ EnvOk G H π ρ σ ∧ PostS G W H π (whileL (evE c et) (evS c w sub sb) m ρ h) D, fun σ' H' z => ⟨m, Nat.lt_succ_self _, z⟩, ρ, π1, h1, E1, M1, ?_⟩
        cases qb : evS c w sub sb ρ h1 with
        | nx ρ2 h2 => rw [qb] at p; exact fun σ2 H3 π3 e3 p3 M3 E3 => ⟨ρ2, π3, h2, M3, E3, PostS.weak e3 p3 p⟩
        | ct ρ2 h2 => rw [qb] at p; exact fun σ2 H3 π3 e3 p3 M3 E3 => ⟨ρ2, π3, h2, M3, E3, PostS.weak e3 p3 p⟩
        | bk ρ2 h2 => rw [qb] at p; exact p
        | rt d h2 => rw [qb] at p; exact p
        | ex x ρ2 h2 => rw [qb] at p; exact p
        | bad => rw [qb] at p; exact p
      · rename_i hb
        refine ⟨false, hb, ?_⟩
        dsimp only
        rw [if_neg Bool.false_ne_true]
        exact p.nx_now E1 M1
      · exact p.elim
end
section
variable {P : Pg} {nm : Nm} {N : List Str} {sc : Scope} {hot : Option Nat} {w k : Nat} {G : Gx} {W : WX} {X : Cx}
variable {c : Nat → List D → Hm → Z.R} {sub : Str → Str → Bool}
/-- raise C(), C an own class without __init__ -/
theorem s_raise0 {x : Str} {p pos p2 : Pos} (o : OkE P w k nm N sc none G W X) (hx : (x, []) ∈ nm.exc) (hg : sc.names.lookup x = some .globalImplicit) (hd : (x == ("__debug__" : Str)) = false) :
    PS X (.Raise (some (.Call (.Name x p) [] [] pos)) none p2) (TSv G W (evS c w sub (.raise x [] .nil))) := by
  obtain ⟨C, hm, _, hc⟩ := o.xn x [] hx
  have hc := hc rfl
  refine ps_imp (ps_raise (o.calm rfl) o.tk (pmk_own0 PySem.F.excBase_ValueError hc.ex hm hc.kp (raises_own hc.sb hc.ty) (o.gl hg) hd)) fun D σ H ⟨ρ, π, h, E, M, q⟩ => ?_
  simp only [evS, evE, R.to_ok] at q
  rw [if_pos (show ([] : List Z.D).length = ([] : List Str).length from rfl)] at q
  exact q σ (.ref C) none H π .refl (List.prefix_refl _) M E ⟨by rw [o.hmg]; exact hm, by rw [o.hxs]; exact List.mem_map.mpr ⟨_, hx, rfl⟩, .inl ⟨rfl, rfl, rfl⟩⟩
end
end Z

set_option Elab.async false
set_option linter.all false
set_option maxRecDepth 100000
set_option maxHeartbeats 4000000
namespace Z
open PySem PySem.Spec PyProof.Rows L2
section
variable {G G' : Gx} {H : Hp} {π : List Addr}
mutual
theorem Rep.conv (e : G.K = G'.K) : ∀ {d : D} {v : V}, Rep G H π d v → Rep G' H π d v
  | _, _, .non => .non
  | _, _, .bl b => .bl b
  | _, _, .int i => .int i
  | _, _, .str s => .str s
  | _, _, .tup h r => .tup (e ▸ h) (Reps.conv e r)
  | _, _, .ref h => .ref h
  | _, _, .ro h r => .ro (e ▸ h) (Reps.conv e r)
  | _, _, .xv => .xv
theorem Reps.conv (e : G.K = G'.K) : ∀ {ds : List D} {vs : List V}, Reps G H π ds vs → Reps G' H π ds vs
  | _, _, .nil => .nil
  | _, _, .cons a r => .cons (Rep.conv e a) (Reps.conv e r)
end
theorem HmOk.conv (e : G.K = G'.K) {h : Hm} (x : HmOk G H π h) : HmOk G' H π h := ⟨x.len, x.nd, fun n c a h1 h2 => by
  have q := x.cell n c a h1 h2
  cases c with
  | lst ds => obtain ⟨vs, q1, q2⟩ := q; exact ⟨vs, q1, q2.conv e⟩⟩
theorem XFields.conv (e : G.K = G'.K) {fs : List Str} {ds : List D} {d : Option Addr} (x : XFields G H π fs ds d) : XFields G' H π fs ds d := by
  rcases x with x | ⟨dd, gs, h1, h2, h3, h4, h5⟩
  · exact .inl x
  · exact .inr ⟨dd, gs, h1, h2, h3, h4, h5.conv e⟩
/-- the exception is bound -/
theorem EnvOk.bind (e : G.K = G'.K) {ρ : Env'} {σ : L2.St} {i : Nat} {a : Addr} {c : Str} {fs : List Str} {ds : List D} {d : Option Addr} (x : EnvOk G H π ρ σ) (hi : i < σ.length) (hx : G'.ex = some (i, a, c, d)) (hf : XFields G H π fs ds d) :
    EnvOk G' H π (ρ.set i (some (.xv c fs ds))) (σ.set i (some (.ref a))) := by
  have hir : i < ρ.length := by rw [x.len]; exact hi
  refine ⟨by simp [x.len], fun j e' h => ?_, fun j a' c' d' h => ?_⟩
  · by_cases hj : i = j
    · subst hj
      rw [List.getElem?_set_self hir] at h
      cases h
      exact ⟨.ref a, by rw [List.getElem?_set_self hi], .xv⟩
    · rw [List.getElem?_set_ne hj] at h
      rw [List.getElem?_set_ne hj]
      obtain ⟨v, h1, h2⟩ := x.at' j e' h
      exact ⟨v, h1, h2.conv e⟩
  · rw [hx] at h
    cases h
    exact ⟨by rw [List.getElem?_set_self hi], fs, ds, by rw [List.getElem?_set_self hir], hf.conv e⟩
/-- .. and gone -/
theorem EnvOk.gone (e : G'.K = G.K) (hx : G.ex = none) {ρ : Env'} {σ : L2.St} {i : Nat} (x : EnvOk G' H π ρ σ) : EnvOk G H π (ρ.set i none) (σ.set i none) := by
  refine ⟨by simp [x.len], fun j e' h => ?_, .none hx⟩
  by_cases hj : i = j
  · subst hj
    by_cases hir : i < ρ.length
    · rw [List.getElem?_set_self hir] at h; cases h
    · rw [List.getElem?_eq_none (by simpa using hir)] at h; cases h
  · rw [List.getElem?_set_ne hj] at h
    rw [List.getElem?_set_ne hj]
    obtain ⟨v, h1, h2⟩ := x.at' j e' h
    exact ⟨v, h1, h2.conv e⟩
end
section
variable {P : Pg} {nm : Nm} {N : List Str} {sc : Scope} {hot : Option Nat} {w k : Nat} {G : Gx} {W : WX} {X : Cx}
variable {c : Nat → List D → Hm → Z.R}
theorem OkS.tr {W' : WX} (o : OkS P w k nm N sc none G W X) (pn : List (Addr × Obj)) (xe : Value → Shared → Prop) (tk : Takes (X.tr pn xe) W') (po : PassesOwn (model X.prog X.w) X.A X.env xe) : OkS P w k nm N sc none G W' (X.tr pn xe) where
  hK := o.hK
  hmg := o.hmg
  hxs := o.hxs
  hN := o.hN
  nd := o.nd
  kin := o.kin
  sc1 := o.sc1
  ek := o.ek
  sto := o.sto
  tk := tk
  units := o.units
  calm := o.calm
  room := o.room
  gex := o.gex
  fns := o.fns
  kf := o.kf
  blt := o.blt
  xn := o.xn
  xk := o.xk
  xb := o.xb
  hx := fun z => absurd rfl z
  hi := fun i z => by cases z
  cst := o.cst
  po := fun _ => po
  hs := o.hs
  hf := o.hf
/-- the context of an except suite -/
abbrev Gx.held (G : Gx) (i : Nat) (a : Addr) (c : Str) (d : Option Addr) : Gx := { G with ex := some (i, a, c, d) }
theorem OkS.suite (o : OkS P w k nm N sc none G W X) {i : Nat} {a : Addr} {oe : Obj} {cls : Value} {d : Option Addr} {cn : Str} {pn : List (Addr × Obj)} (hz : Zc cls d oe) (hf : ∃ vs, oe.data = .fields vs) (hm : X.mg cn = some cls) (hc : cn ∈ nm.exc.map (·.1)) :
    OkS P w k nm N sc (some i) (G.held i a cn d) W0 (X.suite a ((a, oe) :: pn)) where
  hK := o.hK
  hmg := o.hmg
  hxs := o.hxs
  hN := o.hN
  nd := o.nd
  kin := o.kin
  sc1 := o.sc1
  ek := o.ek
  sto := o.sto
  tk := takes_none5
  units := by
    have h := o.units
    have e : (X.A.mark (some (.ref a))).units = X.A.units := by first | rfl | simp [Around.mark]
    show (X.A.mark (some (.ref a))).units + 100 < cLine
    rw [e]; exact h
  calm := fun z => by cases z
  room := fun z => by cases z
  gex := fun z => by cases z
  fns := o.fns
  kf := o.kf
  blt := o.blt
  xn := o.xn
  xk := o.xk
  xb := o.xb
  hx := fun _ i' a' c' h => by
    have h' : some (i, a, cn, d) = some (i', a', c', none) := h
    cases h'
    obtain ⟨⟨T', fs⟩, z1, z2⟩ := List.mem_map.mp hc
    cases z2
    obtain ⟨D, hD, xc, _⟩ := o.xn _ fs z1
    refine ⟨D, hD, hc, call_isEZ xc ?_ hf⟩
    have hD' : X.mg T' = some (.ref D) := hD
    rw [hD'] at hm
    cases hm
    exact hz
  hi := fun i' z => by cases z; exact ⟨a, cn, d, rfl⟩
  cst := fun n d' hd => by
    obtain ⟨v, u, h1, h2, h3⟩ := o.cst n d' hd
    exact ⟨v, u, h1, h2, fun H π => Rep.conv (G := G) (G' := G.held i a cn d) rfl (h3 H π)⟩
  po := fun z => by cases z
  hs := o.hs
  hf := o.hf
theorem pss_ex {st : List Stmt} {α : Type} {p : α → Prop} {t : α → TS} (h : ∀ a, p a → PSs X st (t a)) : PSs X st (fun D σ H => ∃ a, p a ∧ t a D σ H) := ⟨fun pins s σ H D I ⟨a, pa, z⟩ => (h a pa).run pins s σ H D I z⟩
/-- the suite's ends, in the whole's terms -/
theorem suite_end {o : O} {H : Hp} {π : List Addr} {D : Ends} {i : Nat} {a : Addr} {cn : Str} {d : Option Addr} (hex : G.ex = none)
    (p : PostS G W H π (match (generalizing := false) o with
      | .nx ρ1 h1 => .nx (ρ1.set i none) h1
      | .bk ρ1 h1 => .bk (ρ1.set i none) h1
      | .ct ρ1 h1 => .ct (ρ1.set i none) h1
      | .rt d h1 => .rt d h1
      | _ => .bad) D) :
    PostS (G.held i a cn d) W0 H π o { nx := fun σ' H' => D.nx (σ'.set i none) H', rt := D.rt, bk := fun σ' H' => D.bk (σ'.set i none) H', ct := fun σ' H' => D.ct (σ'.set i none) H' } := by
  cases o with
  | nx ρ h => exact fun σ H' π' x y M E => p _ H' π' x y (M.conv (G := G.held i a cn d) (G' := G) rfl) (E.gone (G := G) (G' := G.held i a cn d) rfl hex)
  | bk ρ h => exact fun σ H' π' x y M E => p _ H' π' x y (M.conv (G := G.held i a cn d) (G' := G) rfl) (E.gone (G := G) (G' := G.held i a cn d) rfl hex)
  | ct ρ h => exact fun σ H' π' x y M E => p _ H' π' x y (M.conv (G := G.held i a cn d) (G' := G) rfl) (E.gone (G := G) (G' := G.held i a cn d) rfl hex)
  | rt d1 h => exact fun v H' π' x y M R => p _ H' π' x y (M.conv (G := G.held i a cn d) (G' := G) rfl) (R.conv (G := G.held i a cn d) (G' := G) rfl)
  | ex x ρ h => exact p.elim
  | bad => exact p.elim
theorem s_try1 {body suite : List Stmt} {b0 : Stmt} {x n : Str} {i : Nat} {np pos pos' : Pos} {sb ss : S} (o : OkS P w k nm N sc none G W X) (hi : N[i]? = some n) (hln : sc.names.lookup n = some .local) (hg : sc.names.lookup x = some .globalImplicit) (hd : (x == ("__debug__" : Str)) = false) (hx : x ∈ nm.exc.map (·.1))
    (hb : ∀ (X' : Cx) (W' : WX), OkS P w k nm N sc none G W' X' → PSs X' body (TSv G W' (evS c w P.sub sb))) (hsu : ∀ (X' : Cx) (G' : Gx), OkS P w k nm N sc (some i) G' W0 X' → PSs X' (b0 :: suite) (TSv G' W0 (evS c w P.sub ss))) :
    PS X (.Try body [.ExceptHandler (some (.Name x np)) (some n) (b0 :: suite) pos'] [] [] pos) (TSv G W (evS c w P.sub (.try sb (.hcons x (some i) ss .hnil)))) := by
  obtain ⟨⟨T', fs⟩, z1, z2⟩ := List.mem_map.mp hx
  cases z2
  obtain ⟨C, hm, _⟩ := o.xn _ fs z1
  have hkl : X.env.kindOf n = some .local := by
    obtain ⟨kd, e, q⟩ := o.sc1 n _ hln
    rcases q with rfl | ⟨q, _⟩
    · exact e
    · cases q
  refine ps_imp (ps_try_as (i := i) (c := .ref C) (tb := fun W' => TSv G W' (evS c w P.sub sb)) (ts := fun a cls d D σ H => ∃ cn, (X.mg cn = some cls ∧ cn ∈ nm.exc.map (·.1)) ∧ TSv (G.held i a cn d) W0 (evS c w P.sub ss) D σ H) (Wout := W)
    o.hs o.hf (by rw [o.hN]; exact o.nd) (by rw [o.hN]; exact hi) hkl ⟨o.gl hg, hd, .inl hm⟩ o.tk (fun W' pn xe tk po => hb _ W' (o.tr pn xe tk po)) (fun a oe cls d pn hz hf => pss_ex fun cn hcn => hsu _ _ (o.suite hz hf hcn.1 hcn.2))) fun D σ H ⟨ρ, π, h, E, M, p⟩ => ⟨ρ, π, h, E, M, ?_⟩
  simp only [evS] at p
  have hex := o.gex rfl
  cases q : evS c w P.sub sb ρ h with
  | nx ρ1 h1 => rw [q] at p; exact p
  | rt d h1 => rw [q] at p; exact p
  | bk ρ1 h1 => rw [q] at p; exact p
  | ct ρ1 h1 => rw [q] at p; exact p
  | bad => rw [q] at p; exact p
  | ex x1 ρ1 h1 =>
    rw [q] at p
    dsimp only at p
    simp only [evH] at p
    intro σ1 cls dd H1 π1 e1 p1 M1 E1 XR
    obtain ⟨hmx, hxm, hfl⟩ := XR
    rw [o.hmg] at hmx
    rw [o.hxs] at hxm
    obtain ⟨⟨T1, fs1⟩, y1, y2⟩ := List.mem_map.mp hxm
    have y2 : T1 = x1.cls := y2
    subst y2
    obtain ⟨C1, hm1, _⟩ := o.xn _ fs1 y1
    have ec : cls = .ref C1 := by rw [hm1] at hmx; exact (Option.some.inj hmx).symm
    subst ec
    refine ⟨P.sub x1.cls T', (o.xk _ _ C1 C hxm hx hm1 hm).2, fun hs a ha => ?_, fun hs => ?_⟩
    · rw [if_pos hs] at p
      split at p
      · rename_i il
        rw [E1.len] at il
        exact ⟨x1.cls, ⟨hmx, hxm⟩, _, π1, h1, E1.bind (G := G) (G' := G.held i a x1.cls dd) rfl il rfl hfl, M1.conv (G := G) (G' := G.held i a x1.cls dd) rfl, suite_end hex (PostS.weak e1 p1 p)⟩
      · exact p.elim
    · rw [hs, if_neg Bool.false_ne_true] at p
      exact p σ1 (.ref C1) dd H1 π1 e1 p1 M1 E1 ⟨by rw [o.hmg]; exact hmx, by rw [o.hxs]; exact hxm, hfl⟩
end
end Z

set_option Elab.async false
set_option linter.all false
set_option maxRecDepth 100000
set_option maxHeartbeats 4000000
namespace Z
open PySem PySem.Spec PyProof.Rows L2
structure CSt (P : Pg) (nm : Nm) (N : List Str) (sc : Scope) (hot : Option Nat) (st : Stmt) where
  s' : S
  ps : ∀ w k G W X, OkS P w k nm N sc hot G W X → PS X st (TSv G W (evS (callF P w k) w P.sub s'))
structure CBl (P : Pg) (nm : Nm) (N : List Str) (sc : Scope) (hot : Option Nat) (sts : List Stmt) where
  b' : S
  ps : ∀ w k G W X, OkS P w k nm N sc hot G W X → PSs X sts (TSv G W (evS (callF P w k) w P.sub b'))
section
variable {P : Pg} {nm : Nm} {N : List Str}
def cBlock (sc : Scope) (hot : Option Nat) (f : ∀ st, Option (CSt P nm N sc hot st)) : (sts : List Stmt) → Option (CBl P nm N sc hot sts)
  | [] => some ⟨.skip, fun w k G W X o => s_nil⟩
  | [st] => match f st with
    | some x => some ⟨x.s', fun w k G W X o => pss_one (x.ps w k G W X o)⟩
    | none => none
  | st :: st2 :: r => match f st, cBlock sc hot f (st2 :: r) with
    | some x, some y => some ⟨.seq x.s' y.b', fun w k G W X o => s_cons (x.ps w k G W X o) (y.ps w k G W X o)⟩
    | _, _ => none
/-- no comprehension that gives its list to a name -/
def noComp : Expr → Bool
  | .ListComp .. => false | .SetComp .. => false | .DictComp .. => false | _ => true
theorem swaps_no {e : Expr} (h : noComp e = true) (t : Option Expr) (l : Nat) (env : Env) : swapsWith e t l env = pure false := by
  cases e <;> first | rfl | cases h
theorem swapsSole_no {e : Expr} (h : noComp e = true) (t : Expr) (l : Nat) (env : Env) : swapsWithSole [t] e l env = pure false := swaps_no h (some t) l env
def noTuple : Expr → Bool
  | .Tuple .. => false | _ => true
theorem swapped_no {e : Expr} (h : noTuple e = true) (t : Expr) (env : Env) : swappedStores [t] e env = pure none := by
  unfold swappedStores
  cases e <;> first | (cases t <;> rfl) | cases h
theorem swapped_sub {o i e : Expr} {p : Pos} (env : Env) : swappedStores [.Subscript o i p] e env = pure none := by
  unfold swappedStores
  cases e <;> rfl
theorem swaps_cell {elt : Expr} {gs : List Comprehension} {scope : Scope} {pos py : Pos} {y : Str} {l : Nat} {env : Env} (h : env.scope.names.lookup y = some .cell) : swapsWith (.ListComp elt gs scope pos) (some (.Name y py)) l env = pure false := by
  have ky : env.kindOf y = some .cell := h
  unfold swapsWith
  simp only [ky]
  have e : ((some NameKind.cell : Option NameKind) == some NameKind.local) = false := by decide
  rw [e]
  simp only [Bool.and_false, Bool.false_and]
def SetIx (i : Expr) : Prop := ∀ (o : Expr) (p : Pos) (env : Env) (v : Value), assign (.Subscript o i p) env v = (do
      let ov ← holding [v] (eval o env)
      let iv ← holding [v, ov] (eval i env)
      standAt p
      holding [v, ov, iv] (setItem ov iv v)
      release [v, ov, iv] [])
def plainSet (i : Expr) : Option (PLift (SetIx i)) := match i with
  | .BinOp .. => some ⟨fun _ _ _ _ => rfl⟩ | .UnaryOp .. => some ⟨fun _ _ _ _ => rfl⟩ | .Call .. => some ⟨fun _ _ _ _ => rfl⟩ | .Constant .. => some ⟨fun _ _ _ _ => rfl⟩ | .Attribute .. => some ⟨fun _ _ _ _ => rfl⟩
  | .Subscript .. => some ⟨fun _ _ _ _ => rfl⟩ | .Name .. => some ⟨fun _ _ _ _ => rfl⟩ | .IfExp .. => some ⟨fun _ _ _ _ => rfl⟩
  | _ => none
def AugIx (i : Expr) : Prop := ∀ (ov iv new : Value), augStore i ov iv new = (do holding [new, ov, iv] (setItem ov iv new); release [new, ov, iv] []; pure .next)
def plainAug (i : Expr) : Option (PLift (AugIx i)) := match i with
  | .BinOp .. => some ⟨fun _ _ _ => rfl⟩ | .UnaryOp .. => some ⟨fun _ _ _ => rfl⟩ | .Call .. => some ⟨fun _ _ _ => rfl⟩ | .Constant .. => some ⟨fun _ _ _ => rfl⟩ | .Attribute .. => some ⟨fun _ _ _ => rfl⟩
  | .Subscript .. => some ⟨fun _ _ _ => rfl⟩ | .Name .. => some ⟨fun _ _ _ => rfl⟩ | .IfExp .. => some ⟨fun _ _ _ => rfl⟩
  | _ => none
variable (c : Cs P nm N)
/-- name = [..]: the list is made for the name -/
def cSetComp (sc : Scope) (y : Str) (py : Pos) (elt : Expr) (gs : List Comprehension) (scope : Scope) (pos spos : Pos) : Option (CSt P nm N sc none (.Assign [.Name y py] (.ListComp elt gs scope pos) spos)) :=
  match slotOf N sc y, cComp c sc elt gs scope with
  | some i, some x =>
    if hl : sc.names.lookup y = some .local ∧ (py.line == pos.line) = true ∧ (scope.names.any fun (n, k) => n == y && (k == .local || k == .cell)) = false then
      some ⟨.set (.name i.1) (compE x), fun w k G W X o => by
        obtain ⟨own, tg, iter, ifs, rfl, ci, g, ts, e, hb, hs⟩ := x
        have hyl : X.env.scope.names.lookup y = some .local := by
          obtain ⟨kd, h1, h2⟩ := o.sc1 y _ hl.1
          rcases h2 with rfl | ⟨h2, _⟩
          · exact h1
          · cases h2
        refine ps_imp (s_lc (c := callF P w k) o.toOkE i.2.1 hyl (sw_true o.ek hyl hl.2.1 hl.2.2) (ci.pi w k G W X tg o.toOkE) (blk_to o.toOkE hb) (fun X' o' => by
          have z := g.pg w k G W0 X' o'
          rw [← o'.hK, o.hK] at z
          exact z) (by
          intro v σ H Q ρ ρ1 π h d h0 h1 h2 h3 h4 h5
          exact g.ok X G o.hK v σ H Q ρ ρ1 π h d h0 h1 h2 h3 h4 h5) hs (fun X' o' => ts.pts w k G W0 X' o') (fun X' o' => e.pe w k G W0 X' o') (fun z => ci.fold _ z)) fun D σ H q => set_read (X := X) (o.gex rfl) (tg_name (X := X)) q⟩
    else if hc : sc.names.lookup y = some .cell then
      some ⟨.set (.name i.1) (compE x), fun w k G W X o => by
        have hyl : X.env.scope.names.lookup y = some .cell := by
          obtain ⟨kd, h1, h2⟩ := o.sc1 y _ hc
          rcases h2 with rfl | ⟨h2, _⟩
          · exact h1
          · cases h2
        exact ps_imp (ps_set (i := i.1) (by rw [o.hN]; exact o.nd) (by rw [o.hN]; exact i.2.1) (o.loc i.2.2) ((mkComp x).pe w k G W X o.toOkE) (swaps_cell hyl) (o.sto y i.2.2)) fun D σ H q => set_read (X := X) (o.gex rfl) (tg_name (X := X)) q⟩
    else none
  | _, _ => none
def cAssign (sc : Scope) (t e : Expr) (pos : Pos) : Option (CSt P nm N sc none (.Assign [t] e pos)) := match t with
  | .Name y py => match e with
    | .ListComp elt gs scope p => cSetComp c sc y py elt gs scope p pos
    | e => if hn : noComp e = true then
        match slotOf N sc y, c.e sc none e with
        | some i, some x => some ⟨.set (.name i.1) x.e', fun w k G W X o => ps_imp (ps_set (i := i.1) (by rw [o.hN]; exact o.nd) (by rw [o.hN]; exact i.2.1) (o.loc i.2.2) (x.pe w k G W X o.toOkE) (swaps_no hn _ _ _) (o.sto y i.2.2)) fun D σ H q => set_read (X := X) (o.gex rfl) (tg_name (X := X)) q⟩
        | _, _ => none
      else none
  | .Subscript ob i p2 => if hn : noComp e = true then
      match plainSet i, c.e sc none ob, c.e sc none i, c.e sc none e with
      | some hp, some x, some y, some z => some ⟨.setix x.e' y.e' z.e', fun w k G W X o => s_setix (x.pe w k G W X o.toOkE) (y.pe w k G W X o.toOkE) (z.pe w k G W X o.toOkE) (fun v => hp.down ob p2 _ v) (swapsSole_no hn _ _ _) (swapped_sub _)⟩
      | _, _, _, _ => none
    else none
  | .Tuple es kk p3 => if hn : noComp e = true ∧ noTuple e = true then
      match cG (P := P) (nm := nm) (N := N) (sc := sc) false (.Tuple es kk p3), c.e sc none e with
      | some g, some x => some ⟨.set g.t x.e', fun w k G W X o => ps_imp (ps_asg (x.pe w k G W X o.toOkE) (g.pg w k G W X o.toOkE) (swapsSole_no hn.1 _ _ _) (swapped_no hn.2 _ _) (by rfl)) fun D σ H q => set_read (X := X) (o.gex rfl) (g.ok X G o.hK) q⟩
      | _, _ => none
    else none
  | _ => none
/-- name = value, in a suite -/
def cAssignH (sc : Scope) (i : Nat) (t e : Expr) (pos : Pos) : Option (CSt P nm N sc (some i) (.Assign [t] e pos)) := match t with
  | .Name y py => if hn : noComp e = true then
      match slotOf N sc y, c.e sc (some i) e with
      | some j, some x => if hij : i ≠ j.1 then
          some ⟨.set (.name j.1) x.e', fun w k G W X o => ps_imp (ps_set (i := j.1) (by rw [o.hN]; exact o.nd) (by rw [o.hN]; exact j.2.1) (o.loc j.2.2) (x.pe w k G W X o.toOkE) (swaps_no hn _ _ _) (o.sto y j.2.2)) fun D σ H q => set_readH (fun i' a c d hx => by
            obtain ⟨a', c', d', h'⟩ := o.hi i rfl
            rw [h'] at hx
            cases hx
            exact hij) q⟩
        else none
      | _, _ => none
    else none
  | _ => none
/-- raise -/
def cRaise (sc : Scope) (e : Option Expr) (cause : Option Expr) (pos : Pos) : Option (CSt P nm N sc none (.Raise e cause pos)) := match e, cause with
  | some (.Call (.Name x p) args kws p2), none => match args, kws with
    | [], [] => if h : (x, []) ∈ nm.exc ∧ sc.names.lookup x = some .globalImplicit ∧ (x == ("__debug__" : Str)) = false then
        some ⟨.raise x [] .nil, fun w k G W X o => s_raise0 o.toOkE h.1 h.2.1 h.2.2⟩
      else none
    | _, _ => none
  | _, _ => none
def sStep (f : ∀ sc hot st, Option (CSt P nm N sc hot st)) (sc : Scope) (hot : Option Nat) (st : Stmt) : Option (CSt P nm N sc hot st) := match st with
  | .Pass pos => some ⟨.skip, fun w k G W X o => s_pass⟩
  | .Break pos => some ⟨.brk, fun w k G W X o => s_break⟩
  | .Continue pos => some ⟨.cont, fun w k G W X o => s_cont⟩
  | .Expr e pos => if hn : noComp e = true then
      match c.e sc hot e with
      | some x => some ⟨.expr x.e', fun w k G W X o => s_expr (x.pe w k G W X o.toOkE) (swaps_no hn _ _ _)⟩
      | none => none
    else none
  | .Return e pos => match e with
    | none => some ⟨.retn, fun w k G W X o => s_retN⟩
    | some e => match c.e sc hot e with
      | some x => some ⟨.ret x.e', fun w k G W X o => s_ret (x.pe w k G W X o.toOkE)⟩
      | none => none
  | .If t a b pos => match c.t sc hot t, cBlock sc hot (f sc hot) a, cBlock sc hot (f sc hot) b with
    | some x, some y, some z => some ⟨.ite x.e' y.b' z.b', fun w k G W X o => s_if (x.pt w k G W X o.toOkE) (y.ps w k G W X o) (z.ps w k G W X o)⟩
    | _, _, _ => none
  | .Assign ts e pos => match hot, ts with
    | none, [t] => cAssign c sc t e pos
    | some i, [t] => cAssignH c sc i t e pos
    | _, _ => none
  | .AugAssign t op e pos => match hot with
    | none => match t with
      | .Name x p2 => match hp : binPm op, slotOf N sc x, c.e sc none e with
        | some p, some i, some y => some ⟨.aug p i.1 y.e', fun w k G W X o => s_aug (o.gex rfl) o.toOkE i.2 hp (y.pe w k G W X o.toOkE)⟩
        | _, _, _ => none
      | .Subscript ob i p2 => match hp : binPm op, plainAug i, c.e sc none ob, c.e sc none i, c.e sc none e with
        | some p, some ha, some x, some y, some z => some ⟨.augix p x.e' y.e' z.e', fun w k G W X o => s_augix o.hK hp (x.pe w k G W X o.toOkE) (y.pe w k G W X o.toOkE) (z.pe w k G W X o.toOkE) ha.down⟩
        | _, _, _, _, _ => none
      | _ => none
    | some _ => none
  | .For t iter body orelse pos => match hot, orelse with
    | none, [] => match cIter c sc iter with
      | some i => match cG (P := P) (nm := nm) (N := N) (sc := sc) i.weak t, cBlock sc none (f sc none) body with
        | some g, some b => some ⟨.loop i.src i.ea g.t b.b', fun w k G W X o => s_for o (i.pi w k G W X t o.toOkE) (g.pg w k G W X o.toOkE) (g.ok X G o.hK) (b.ps w k G W X o) (fun z => i.fold _ z)⟩
        | _, _ => none
      | none => none
    | _, _ => none
  | .While t body orelse pos => match hot, orelse with
    | none, [] => match c.t sc none t, cBlock sc none (f sc none) body with
      | some x, some b => some ⟨.while x.e' b.b', fun w k G W X o => s_while o (x.pt w k G W X o.toOkE) (b.ps w k G W X o)⟩
      | _, _ => none
    | _, _ => none
  | .Raise e cause pos => match hot with
    | none => cRaise sc e cause pos
    | some _ => none
  | .Try body hs orelse fin pos => match hot, hs, orelse, fin with
    | none, [.ExceptHandler (some (.Name x np)) (some n) (b0 :: suite) pos'], [], [] =>
      let i := N.findIdx (· == n)
      if h : N[i]? = some n ∧ sc.names.lookup n = some .local ∧ sc.names.lookup x = some .globalImplicit ∧ (x == ("__debug__" : Str)) = false ∧ x ∈ nm.exc.map (·.1) then
        match cBlock sc none (f sc none) body, cBlock sc (some i) (f sc (some i)) (b0 :: suite) with
        | some b, some s => some ⟨.try b.b' (.hcons x (some i) s.b' .hnil), fun w k G W X o => s_try1 o h.1 h.2.1 h.2.2.1 h.2.2.2.1 h.2.2.2.2 (fun X' W' o' => b.ps w k G W' X' o') (fun X' G' o' => s.ps w k G' W0 X' o')⟩
        | _, _ => none
      else none
    | _, _, _, _ => none
  | _ => none
def sAll : Nat → ∀ sc hot st, Option (CSt P nm N sc hot st)
  | 0 => fun _ _ _ => none
  | n + 1 => sStep c (sAll n)
end
end Z

set_option Elab.async false
set_option linter.all false
set_option maxRecDepth 100000
set_option maxHeartbeats 4000000
namespace Z
open PySem PySem.Spec PyProof.Rows L2
/-- a def of the text, read -/
def cFn (P : Pg) (nm : Nm) (N : List Str) (st : Stmt) : Option (CBl P nm N (defScope st) none (defBody st)) :=
  cBlock (defScope st) none (sAll (cAll 60) 60 (defScope st) none) (defBody st)
section
variable (P : Pg) (nm : Nm) (K : PySem.W.Frag) (mg : Str → Option Value)
structure FnFact (n : Str) (i : Nat) : Prop where
  ex : ∃ f fd ps N st b, mg n = some (.ref f) ∧ Fun K n n st f fd ∧ Binds K fd ps [] ∧ FnScope N ps (defScope st) ∧ P.fns[i]? = some ⟨ps.length, N.length, b⟩ ∧ ((cFn P nm N st).map fun x => x.b') = some b
structure KwFact (n : Str) (i : Nat) (dl : List (Str × D)) : Prop where
  ex : ∃ f fd ps N st b us dv, mg n = some (.ref f) ∧ Fun K n n st f fd ∧ Vals dv us ∧ (∀ G H π, Reps G H π (dl.map (·.2)) dv) ∧ Binds K fd ps us ∧ KBn K fd ps (ps.length - dl.length) (dl.map (·.1)) (fun a b => a ++ b) (fun a b => a ++ b) ∧
    FnScope N ps (defScope st) ∧ P.fns[i]? = some ⟨ps.length, N.length, b⟩ ∧ ((cFn P nm N st).map fun x => x.b') = some b
/-- what the module has -/
structure Wd : Prop where
  fns : ∀ n i, (n, i) ∈ nm.fns → FnFact P nm K mg n i
  kws : ∀ n i dl, (n, i, dl) ∈ nm.kws → KwFact P nm K mg n i dl
  blt : ∀ b, b ∈ bltNames → mg b = none
  xn : ∀ c fs, (c, fs) ∈ nm.exc → ∃ C, mg c = some (.ref C) ∧ ExcC K C ∧ (fs = [] → XcC K C)
  xk : ∀ c c' C C', c ∈ nm.exc.map (·.1) → c' ∈ nm.exc.map (·.1) → mg c = some (.ref C) → mg c' = some (.ref C') → PySem.W.kitOne K (.ref C) (.ref C') = some (P.sub c c') ∧ PySem.W.exmOne K (.ref C) (.ref C') = some (P.sub c c')
  xb : mg "ValueError" = none ∧ ∀ c C, c ∈ nm.exc.map (·.1) → mg c = some (.ref C) → PySem.W.kitOne K (.ref C) (.type "ValueError") = some (P.sub c "ValueError")
  cst : ∀ n d, (n, d) ∈ nm.cst → ∃ v u, mg n = some u ∧ RelV v u ∧ ∀ G H π, Rep G H π d v
variable {P nm K mg}
abbrev G0 (nm : Nm) (K : PySem.W.Frag) (mg : Str → Option Value) : Gx := ⟨K, mg, nm.exc.map (·.1), none⟩
theorem env_start {G : Gx} {H : Hp} {π : List Addr} {ds : List D} {vs : List V} {N : List Str} (r : Reps G H π ds vs) (hx : G.ex = none) : EnvOk G H π (ds.map some ++ List.replicate (N.length - ds.length) none) (L2.start N vs) := by
  unfold L2.start
  have hl := r.length
  refine ⟨by simp [hl], fun i d h => ?_, .none hx⟩
  by_cases hi : i < ds.length
  · rw [List.getElem?_append_left (by simpa using hi), List.getElem?_map] at h
    cases q : ds[i]? with
    | none => rw [q] at h; cases h
    | some e =>
      rw [q] at h
      cases h
      obtain ⟨v, h1, h2⟩ := r.get q
      refine ⟨v, ?_, h2⟩
      rw [List.getElem?_append_left (by rw [List.length_map, ← hl]; exact hi), List.getElem?_map, h1]
      rfl
  · rw [List.getElem?_append_right (by simpa using hi)] at h
    rw [List.getElem?_replicate] at h
    split at h <;> cases h
theorem end_post {G : Gx} {E : XK} {H : Hp} {π : List Addr} {o : O} {Q : VK} (p : Post G (fun cls d _ H' => E cls d H') [] H π (endO o) fun _ _ v H' _ => Q v H') :
    PostS G (fun cls d _ H' => E cls d H') H π o { nx := fun _ H' => Q .non H', rt := Q } := by
  cases o with
  | nx ρ h => exact fun σ H' π' x y M E => p .non H' π' x y M .non
  | rt d h => exact p
  | bk ρ h => exact p.elim
  | ct ρ h => exact p.elim
  | ex x ρ h => exact fun σ cls dd H' π' a b c z y => p cls dd H' π' a b c y
  | bad => exact p.elim
variable {prog : Program} {wd : World} {base : Heap}
theorem fn_one (w : Nat) (W : Wd P nm K mg) (k : Nat) (calls : ∀ n i, (n, i) ∈ nm.fns → ∃ f fd ps, mg n = some (.ref f) ∧ PySem.W.keepIn K (.ref f) = true ∧ Binds K fd ps [] ∧ FnOk prog wd K mg base (CX prog wd) k f fd ps (spF (G0 nm K mg) P w k i))
    (callk : ∀ n i dl, (n, i, dl) ∈ nm.kws → ∃ f fd ps us dv, mg n = some (.ref f) ∧ PySem.W.keepIn K (.ref f) = true ∧ Vals dv us ∧ (∀ G H π, Reps G H π (dl.map (·.2)) dv) ∧ Binds K fd ps us ∧ KBn K fd ps (ps.length - dl.length) (dl.map (·.1)) (fun a b => a ++ b) (fun a b => a ++ b) ∧ FnOk prog wd K mg base (CX prog wd) k f fd ps (spF (G0 nm K mg) P w k i))
    {n : Str} {i : Nat} {f : Addr} {fd : FuncData} {ps N : List Str} {st : Stmt} {b : S} (F : Fun K n n st f fd) (S : FnScope N ps (defScope st)) (hp : P.fns[i]? = some ⟨ps.length, N.length, b⟩) (hc : ((cFn P nm N st).map fun x => x.b') = some b) :
    FnOk prog wd K mg base (CX prog wd) (k + 1) f fd ps (spF (G0 nm K mg) P w (k + 1) i) := by
  cases hcf : cFn P nm N st with
  | none => rw [hcf] at hc; cases hc
  | some B =>
    rw [hcf] at hc
    have hB : B.b' = b := by simpa using hc
    have arity : ∀ ds h, callF P w (k + 1) i ds h ≠ .bad → ds.length = ps.length := fun ds h z => by
      unfold callF at z
      rw [hp] at z
      simp only at z
      by_cases e : ds.length = ps.length
      · exact e
      · rw [if_neg e] at z; exact absurd rfl z
    refine F.okX S (fun vs H Q E ⟨π, h, ds, M, r, p⟩ => ?_) fun cdv A outer s H vs Q E hr ⟨π, h, ds, M, r, p⟩ => ?_
    · rw [← r.length]
      exact arity ds h fun z => by rw [z] at p; exact p.elim
    · have hl := arity ds h fun z => by rw [z] at p; exact p.elim
      have o : OkS P w k nm N (defScope st) none (G0 nm K mg) (fun cls d _ H' => E cls d H') (cxOf (CX prog wd) prog wd K mg base N n (defScope st) f cdv A outer s H E) := {
        hK := rfl
        hmg := rfl
        hxs := rfl
        hN := rfl
        nd := S.nd
        kin := S.kind
        sc1 := fun x kd h => ⟨kd, h, .inl rfl⟩
        ek := S.kind
        sto := fun x _ => .inl rfl
        tk := takes_of rfl rfl rfl rfl
        units := Nat.lt_of_le_of_lt (show (A.deeper (envOfC n (defScope st) s.heap.objs.size f cdv)).units + 100 ≤ (A.deeper (envOfC n (defScope st) s.heap.objs.size f cdv)).units + 16 * k + 200 by omega) hr.un
        calm := fun _ => rfl
        room := fun _ => hr
        gex := fun _ => rfl
        fns := calls
        kf := callk
        blt := W.blt
        xn := W.xn
        xk := W.xk
        xb := W.xb
        hx := fun z => absurd rfl z
        hi := fun i z => by cases z
        cst := fun n d h => by
          obtain ⟨v, u, h1, h2, h3⟩ := W.cst n d h
          exact ⟨v, u, h1, h2, fun H π => h3 _ H π⟩
        po := fun _ => passes_of rfl
        hs := rfl
        hf := rfl }
      refine ⟨_, B.ps w k _ _ _ o, ?_⟩
      rw [hB]
      refine ⟨_, π, h, env_start r rfl, M, end_post ?_⟩
      unfold callF at p
      rw [hp] at p
      simp only at p
      rw [if_pos hl] at p
      rw [hl]
      exact p
theorem fn_level2 (w : Nat) (W : Wd P nm K mg) : ∀ k, (∀ n i, (n, i) ∈ nm.fns → ∃ f fd ps, mg n = some (.ref f) ∧ PySem.W.keepIn K (.ref f) = true ∧ Binds K fd ps [] ∧ FnOk prog wd K mg base (CX prog wd) k f fd ps (spF (G0 nm K mg) P w k i)) ∧
    ∀ n i dl, (n, i, dl) ∈ nm.kws → ∃ f fd ps us dv, mg n = some (.ref f) ∧ PySem.W.keepIn K (.ref f) = true ∧ Vals dv us ∧ (∀ G H π, Reps G H π (dl.map (·.2)) dv) ∧ Binds K fd ps us ∧ KBn K fd ps (ps.length - dl.length) (dl.map (·.1)) (fun a b => a ++ b) (fun a b => a ++ b) ∧ FnOk prog wd K mg base (CX prog wd) k f fd ps (spF (G0 nm K mg) P w k i)
  | 0 => by
    refine ⟨fun n i h => ?_, fun n i dl h => ?_⟩
    · obtain ⟨f, fd, ps, N, st, b, hm, F, hb, S, hp, hc⟩ := (W.fns n i h).ex
      exact ⟨f, fd, ps, hm, F.kp, hb, ⟨fun vs H Q E ⟨π, h, ds, M, r, p⟩ => p.elim, fun A outer s H args us vs Q E _ _ _ _ ⟨π, h, ds, M, r, p⟩ => p.elim⟩⟩
    · obtain ⟨f, fd, ps, N, st, b, us, dv, hm, F, h1, h2, hb, h3, S, hp, hc⟩ := (W.kws n i dl h).ex
      exact ⟨f, fd, ps, us, dv, hm, F.kp, h1, h2, hb, h3, ⟨fun vs H Q E ⟨π, h, ds, M, r, p⟩ => p.elim, fun A outer s H args us vs Q E _ _ _ _ ⟨π, h, ds, M, r, p⟩ => p.elim⟩⟩
  | k + 1 => by
    have ih := fn_level2 w W k
    refine ⟨fun n i h => ?_, fun n i dl h => ?_⟩
    · obtain ⟨f, fd, ps, N, st, b, hm, F, hb, S, hp, hc⟩ := (W.fns n i h).ex
      exact ⟨f, fd, ps, hm, F.kp, hb, fn_one w W k ih.1 ih.2 F S hp hc⟩
    · obtain ⟨f, fd, ps, N, st, b, us, dv, hm, F, h1, h2, hb, h3, S, hp, hc⟩ := (W.kws n i dl h).ex
      exact ⟨f, fd, ps, us, dv, hm, F.kp, h1, h2, hb, h3, fn_one w W k ih.1 ih.2 F S hp hc⟩
theorem fn_level (w : Nat) (W : Wd P nm K mg) (k : Nat) : ∀ n i, (n, i) ∈ nm.fns → ∃ f fd ps, mg n = some (.ref f) ∧ PySem.W.keepIn K (.ref f) = true ∧ Binds K fd ps [] ∧ FnOk prog wd K mg base (CX prog wd) k f fd ps (spF (G0 nm K mg) P w k i) := (fn_level2 w W k).1
end
end Z

set_option Elab.async false
set_option linter.all false
set_option maxRecDepth 100000
set_option maxHeartbeats 4000000
namespace Z
open PySem PySem.Spec PyProof.Rows L2
open PySem.W (Frag nsIn findIn subIn hasDictIn specialIn takesIn mroIn excIn keepIn typeIn kitOne exmOne)
/-! ### what the top has left, by one reckoning -/
def excCB (K : Frag) (D : Addr) : Bool :=
  (findIn K (.ref D) "__getattribute__" == some (some (.builtin "BaseException.__getattribute__"))) && ((findIn K (.ref D) "__getattr__" == some none) && ((subIn K (.ref D) (.type "BaseException") == some true) && (hasDictIn K D &&
    ((findIn K (.ref D) "__class__" == some (some (.builtin "object.__class__"))) && ((specialIn K (.builtin "object.__class__") "__get__" == some (some (.builtin "getset_descriptor.__get__"))) && ((takesIn K (.builtin "object.__class__") == some true) && (mroIn K D (.type "object") == some true)))))))
theorem excCB_ok {K : Frag} {D : Addr} (h : excCB K D = true) : ExcC K D := by
  unfold excCB at h
  simp only [Bool.and_eq_true, beq_iff_eq] at h
  obtain ⟨h1, h2, h3, h4, h5, h6, h7, h8⟩ := h
  exact ⟨h1, h2, h3, h4, h5, h6, h7, h8⟩
def xcCB (K : Frag) (C : Addr) : Bool :=
  excIn K C [.type "ValueError", .type "Exception", .type "BaseException", .type "object"] "ValueError.__new__" && (keepIn K (.ref C) && ((subIn K (.ref C) (.type "BaseException") == some true) && (typeIn K (.ref C) == some (.type "type"))))
theorem xcCB_ok {K : Frag} {C : Addr} (h : xcCB K C = true) : XcC K C := by
  unfold xcCB at h
  simp only [Bool.and_eq_true, beq_iff_eq] at h
  obtain ⟨h1, h2, h3, h4⟩ := h
  exact ⟨h1, h2, h3, h4⟩
def refOf (K : Frag) (c : Str) : Option Addr := match nsIn K mainGlobals c with
  | some (some (.ref C)) => some C
  | _ => none
theorem refOf_ok {K : Frag} {c : Str} {C : Addr} (h : refOf K c = some C) : nsIn K mainGlobals c = some (some (.ref C)) := by
  unfold refOf at h
  split at h
  · cases h; assumption
  · cases h
def pairB (K : Frag) (P : Pg) (c : Str) (C : Addr) (c' : Str) : Bool := match refOf K c' with
  | some C' => (kitOne K (.ref C) (.ref C') == some (P.sub c c')) && (exmOne K (.ref C) (.ref C') == some (P.sub c c'))
  | none => false
def clsB (K : Frag) (P : Pg) (nm : Nm) (c : Str × List Str) : Bool := match refOf K c.1 with
  | some C => excCB K C && ((!c.2.isEmpty || xcCB K C) && ((kitOne K (.ref C) (.type "ValueError") == some (P.sub c.1 "ValueError")) && nm.exc.all fun c' => pairB K P c.1 C c'.1))
  | none => false
def cstB (K : Frag) (c : Str × D) : Bool := match nsIn K mainGlobals c.1, c.2 with
  | some (some (.int i _)), .int j => i == j
  | some (some (.str i _)), .str j => i == j
  | _, _ => false
def wdB (K : Frag) (P : Pg) (nm : Nm) : Bool :=
  (bltNames.all fun b => nsIn K mainGlobals b == some none) && ((nsIn K mainGlobals "ValueError" == some none) && ((nm.exc.all fun c => clsB K P nm c) && nm.cst.all fun c => cstB K c))
section
variable {K : Frag} {P : Pg} {nm : Nm} {mg : Str → Option Value} {h : Heap}
theorem wd_of (X : K.In h) (G : h.Ns mainGlobals mg) (hB : wdB K P nm = true) (hf : ∀ n i, (n, i) ∈ nm.fns → FnFact P nm K mg n i) (hkw : ∀ n i dl, (n, i, dl) ∈ nm.kws → KwFact P nm K mg n i dl) : Wd P nm K mg := by
  unfold wdB at hB
  simp only [Bool.and_eq_true, List.all_eq_true, beq_iff_eq] at hB
  obtain ⟨h1, h2, h3, h4⟩ := hB
  have cls : ∀ c fs, (c, fs) ∈ nm.exc → ∃ C, mg c = some (.ref C) ∧ refOf K c = some C ∧ ExcC K C ∧ (fs = [] → XcC K C) ∧ kitOne K (.ref C) (.type "ValueError") = some (P.sub c "ValueError") ∧ ∀ c', c' ∈ nm.exc → pairB K P c C c'.1 = true := fun c fs hc => by
    have q := h3 _ hc
    unfold clsB at q
    split at q
    · rename_i C hC
      simp only [Bool.and_eq_true, List.all_eq_true, beq_iff_eq, Bool.or_eq_true, Bool.not_eq_true'] at q
      obtain ⟨q1, q2, q3, q4⟩ := q
      refine ⟨C, PySem.W.mg_of X G (refOf_ok hC), hC, excCB_ok q1, fun e => ?_, q3, q4⟩
      rcases q2 with q2 | q2
      · subst e; cases q2
      · exact xcCB_ok q2
    · cases q
  refine ⟨hf, hkw, fun b hb => PySem.W.mg_none_of X G (h1 b hb), fun c fs hc => ?_, fun c c' C C' hc hc' m m' => ?_, ⟨PySem.W.mg_none_of X G h2, fun c C hc m => ?_⟩, fun n d hd => ?_⟩
  · obtain ⟨C, e1, _, e3, e4, _⟩ := cls c fs hc
    exact ⟨C, e1, e3, e4⟩
  · obtain ⟨⟨c1, fs1⟩, z1, z2⟩ := List.mem_map.mp hc
    obtain ⟨⟨c2, fs2⟩, y1, y2⟩ := List.mem_map.mp hc'
    simp only at z2 y2
    subst z2; subst y2
    obtain ⟨C1, e1, e2, _, _, _, e6⟩ := cls c1 fs1 z1
    obtain ⟨C2, f1, f2, _⟩ := cls c2 fs2 y1
    rw [m] at e1; rw [m'] at f1
    cases e1; cases f1
    have q := e6 _ y1
    unfold pairB at q
    rw [f2] at q
    simp only [Bool.and_eq_true, beq_iff_eq] at q
    exact q
  · obtain ⟨⟨c1, fs1⟩, z1, z2⟩ := List.mem_map.mp hc
    simp only at z2
    subst z2
    obtain ⟨C1, e1, _, _, _, e5, _⟩ := cls c1 fs1 z1
    rw [m] at e1
    cases e1
    exact e5
  · have q := h4 _ hd
    unfold cstB at q
    split at q
    · rename_i i t j e1 e2
      simp only at e1 e2
      subst e2
      have := beq_iff_eq.mp q
      subst this
      exact ⟨.int i, .int i t, PySem.W.mg_of X G e1, ⟨t, rfl⟩, fun _ _ _ => .int i⟩
    · rename_i i t j e1 e2
      simp only at e1 e2
      subst e2
      have := beq_iff_eq.mp q
      subst this
      exact ⟨.str i, .str i t, PySem.W.mg_of X G e1, ⟨t, rfl⟩, fun _ _ _ => .str i⟩
    · cases q
end
/-- the law's promise: the script a list of ints, the answer True -/
def spLaw (K : Frag) : Sp := fun vs H Q _ => ∃ (a : Addr) (ns : List Int), vs = [.ref a] ∧ RoL K H a (ns.map V.int) ∧ ns.length ≤ 63 ∧ ∀ H', Q (.bl true) H'
theorem law_sp {G : Gx} {P : Pg} {w k i : Nat} (hl : ∀ ns : List Int, ns.length ≤ 63 → ∃ h, callF P w k i [.ro (ns.map .int)] [] = .ok (.bl true) h) (vs : List V) (H : Hp) (Q : VK) (E : XK) (h : spLaw G.K vs H Q E) : spF G P w k i vs H Q E := by
  obtain ⟨a, ns, rfl, hr, hn, q⟩ := h
  obtain ⟨h', e⟩ := hl ns hn
  refine ⟨[], [], [.ro (ns.map .int)], ⟨rfl, .nil, fun n c a h1 _ => by simp at h1⟩, .cons (.ro hr (Reps.ints ns)) .nil, ?_⟩
  rw [e]
  intro v H' π' _ _ _ r
  cases r
  exact q H'
theorem ro_of {K : Frag} {H : Hp} {a : Addr} {vs : List V} (hO : Only H) (h : SqL K H a vs) : RoL K H a vs := by
  rcases h with (h | ⟨o, h⟩) | h
  · rcases hO a with z | ⟨o, xs, z⟩
    · rw [z] at h; cases h
    · rw [z] at h; cases h
  · exact .inl ⟨o, h⟩
  · exact .inr h
theorem walk {l : PySem.W.OpenLaw} {q : Program} {loose : List Str} {XP : (Str → Option Value) → Heap → Prop} {YP : World → Heap → Prop} {d : DefRec} {K : Params → Frag} {k : Nat} (hn : l.most = some 63) (hdf : d.params.defaults = []) (hk : Room k callerA)
    (hY : ∀ (w : World) (h : Heap), YP w h → (K w.params).In h)
    (F : ∀ (w : World) (mg : Str → Option Value) (fa : Addr) (h : Heap), (K w.params).In h → h.Ns mainGlobals mg → mg d.name = some (.ref fa) →
      ∃ fd : FuncData, (∀ (s : Shared) (u : Value), BindsTo s fd ⟨[u], []⟩ [("script", u)]) ∧ ∀ base : Heap, (K w.params).In base → base.Ns mainGlobals mg → FnOk l.prog w (K w.params) mg base (CX l.prog w) k fa fd ["script"] (spLaw (K w.params))) :
    PySem.W.WalkO q loose XP YP l.row.toRowW d [] (fun f vs => PySem.call f vs) :=
  L2.walk_of (n := 63) (k := k) (x := "script") (CX := fun w => CX l.prog w) (sp := fun w => spLaw (K w.params)) hn (by decide) hdf hk hY F (fun w H a ns hl hO hS => ⟨a, ns, rfl, ro_of hO hS, hl, fun _ => rfl⟩)
    fun w H s e s' ⟨_, _, _, _, _, _, _, _, _, _, _, _, z⟩ => z
/-- a def's fact, from what is read off the written part -/
theorem fact_of {K : Frag} {P : Pg} {nm : Nm} {mg : Str → Option Value} {h : Heap} (X : K.In h) (G : h.Ns mainGlobals mg) {n : Str} {i : Nat} {st : Stmt} {N ps : List Str} {b : S} {f : Addr} {oc : Value} {od an : Option Addr} {osl : Array (Option Value)} {kV doc pm cdv ct : Value}
    (a : nsIn K mainGlobals n = some (some (.ref f))) (l : K.lookup f = some ⟨oc, od, .func (PySem.W.fnOf n n (defArgs st) (defBody st) (defScope st) .none kV doc pm an cdv ct), osl⟩) (c : PySem.W.codeIn K cdv n = true) (k : keepIn K (.ref f) = true)
    (S : FnScope N ps (defScope st)) (hp : P.fns[i]? = some ⟨ps.length, N.length, b⟩) (hc : ((cFn P nm N st).map fun x => x.b') = some b)
    (hb : ∀ (kV doc pm : Value) (an : Option Addr) (cdv ct : Value) (us : List Value), us.length = ps.length → bindArgs (PySem.W.fnOf n n (defArgs st) (defBody st) (defScope st) .none kV doc pm an cdv ct) ⟨us, []⟩ = pure (ps.zip us)) : FnFact P nm K mg n i :=
  ⟨f, _, ps, N, st, b, PySem.W.mg_of X G a, fun_mk l c k, (fun_mk l c k).binds hb, S, hp, hc⟩
/-- a keyword's default, as a value -/
def dfV : D → Option V
  | .int i => some (.int i) | .bl b => some (.bl b) | .non => some .non | .str s => some (.str s) | _ => none
theorem dfV_rep {d : D} {v : V} (h : dfV d = some v) (G : Gx) (H : Hp) (π : List Addr) : Rep G H π d v := by
  cases d <;> simp only [dfV, reduceCtorEq, Option.some.injEq] at h <;> subst h <;> constructor
def dfB (K : Frag) (D : Addr) (q : Str × Z.D) : Bool := match nsIn K D q.1, q.2 with
  | some (some (.int i _)), .int j => i == j
  | some (some (.bool a)), .bl b => a == b
  | some (some .none), .non => true
  | some (some (.str i _)), .str j => i == j
  | _, _ => false
theorem dfB_ok {K : Frag} {D : Addr} {q : Str × Z.D} (h : dfB K D q = true) : ∃ u v, nsIn K D q.1 = some (some u) ∧ dfV q.2 = some v ∧ RelV v u := by
  obtain ⟨x, d⟩ := q
  unfold dfB at h
  split at h
  · rename_i i t j e1 e2
    simp only at e1 e2
    subst e2
    have := beq_iff_eq.mp h
    subst this
    exact ⟨_, _, e1, rfl, ⟨t, rfl⟩⟩
  · rename_i a b e1 e2
    simp only at e1 e2
    subst e2
    have := beq_iff_eq.mp h
    subst this
    exact ⟨_, _, e1, rfl, rfl⟩
  · rename_i e1 e2
    simp only at e1 e2
    subst e2
    exact ⟨_, _, e1, rfl, rfl⟩
  · rename_i i t j e1 e2
    simp only at e1 e2
    subst e2
    have := beq_iff_eq.mp h
    subst this
    exact ⟨_, _, e1, rfl, ⟨t, rfl⟩⟩
  · cases h
theorem dfs_ok {K : Frag} {D : Addr} : ∀ {dl : List (Str × Z.D)}, dl.all (dfB K D) = true → ∃ kv : List (Str × V), kv.map (·.1) = dl.map (·.1) ∧ kv.length = dl.length ∧ (∀ q ∈ kv, ∃ u, nsIn K D q.1 = some (some u) ∧ RelV q.2 u) ∧ ∀ (G : Gx) H π, Reps G H π (dl.map (·.2)) (kv.map (·.2))
  | [], _ => ⟨[], rfl, rfl, (fun q hq => by cases hq), fun _ _ _ => .nil⟩
  | q :: r, h => by
    simp only [List.all_cons, Bool.and_eq_true] at h
    obtain ⟨u, v, h1, h2, h3⟩ := dfB_ok h.1
    obtain ⟨kv, k1, k2, k3, k4⟩ := dfs_ok h.2
    refine ⟨(q.1, v) :: kv, by simp [k1], by simp [k2], fun p hp => ?_, fun G H π => .cons (dfV_rep h2 G H π) (k4 G H π)⟩
    rcases List.mem_cons.mp hp with rfl | hp
    · exact ⟨u, h1, h3⟩
    · exact k3 p hp
/-- a def with keyword-only parameters that have defaults -/
theorem kw_fact_of {K : Frag} {P : Pg} {nm : Nm} {mg : Str → Option Value} {h : Heap} (X : K.In h) (G : h.Ns mainGlobals mg) {n : Str} {i : Nat} {st : Stmt} {N ps : List Str} {b : S} {f D : Addr} {dl : List (Str × Z.D)} {oc : Value} {od an : Option Addr} {osl : Array (Option Value)} {doc pm cdv ct : Value}
    (hd : dl ≠ []) (hn : (ps.length - dl.length) + dl.length = ps.length)
    (a : nsIn K mainGlobals n = some (some (.ref f))) (l : K.lookup f = some ⟨oc, od, .func (PySem.W.fnOf n n (defArgs st) (defBody st) (defScope st) .none (.ref D) doc pm an cdv ct), osl⟩) (c : PySem.W.codeIn K cdv n = true) (k : keepIn K (.ref f) = true) (df : dl.all (dfB K D) = true)
    (S : FnScope N ps (defScope st)) (hp : P.fns[i]? = some ⟨ps.length, N.length, b⟩) (hc : ((cFn P nm N st).map fun x => x.b') = some b)
    (hb : ∀ (D : Addr) (doc pm : Value) (an : Option Addr) (cdv ct : Value) (us ks : List Value), us.length = ps.length - dl.length → ks.length = dl.length →
      KwChain D ((dl.map (·.1)).zip ks) (bindArgs (PySem.W.fnOf n n (defArgs st) (defBody st) (defScope st) .none (.ref D) doc pm an cdv ct) ⟨us, []⟩) (ps.zip (us ++ ks)))
    (hkb : ∀ (D : Addr) (doc pm : Value) (an : Option Addr) (cdv ct : Value) (us ws : List Value), us.length = ps.length - dl.length → ws.length = dl.length →
      bindArgs (PySem.W.fnOf n n (defArgs st) (defBody st) (defScope st) .none (.ref D) doc pm an cdv ct) ⟨us, (dl.map (·.1)).zip ws⟩ = pure (ps.zip (us ++ ws))) : KwFact P nm K mg n i dl := by
  obtain ⟨kv, k1, k2, k3, k4⟩ := dfs_ok df
  have F : FunD K n n (defArgs st) (defBody st) (defScope st) [] kv f (PySem.W.fnOf n n (defArgs st) (defBody st) (defScope st) .none (.ref D) doc pm an cdv ct) :=
    ⟨⟨oc, od, .none, .ref D, doc, pm, an, cdv, ct, osl, rfl, l, c, .inl ⟨rfl, rfl⟩, .inr ⟨D, rfl, k3⟩⟩, k⟩
  have kne : kv ≠ [] := fun e => hd (List.eq_nil_of_length_eq_zero (by rw [← k2, e]; rfl))
  obtain ⟨us, v1, v2⟩ := F.binds0 (ps := ps) (ps.length - dl.length) kne (by rw [k2]; exact hn) fun D doc pm an cdv ct us ks l1 l2 => by
    rw [k1]
    exact hb D doc pm an cdv ct us ks l1 (l2.trans k2)
  obtain ⟨mv, kb⟩ := F.kbinds0 (ps := ps) (ps.length - dl.length) (dl.map (·.1)) [] (fun a _ c => a ++ c) kne (fun q hq => by cases hq) (fun r1 _ r3 => r1.append r3) fun D doc pm an cdv ct us mv ws l1 l2 l3 => by
    have : mv = [] := List.eq_nil_of_length_eq_zero l2
    subst this
    show KwChain D [] _ _
    exact hkb D doc pm an cdv ct us ws l1 (by rw [l3, List.length_map])
  exact ⟨f, _, ps, N, st, b, us, kv.map (·.2), PySem.W.mg_of X G a, fun_mk l c k, v1, k4, v2, kb, S, hp, hc⟩
/-- the law's own promise, from what its def computes -/
theorem law_done {K : Frag} {P : Pg} {nm : Nm} {mg : Str → Option Value} {h : Heap} {prog : Program} {wd : World} {fa : Addr} (X : K.In h) (G : h.Ns mainGlobals mg) (W : Wd P nm K mg) {w k i : Nat} {st : Stmt} {N : List Str} {b : S} {f : Addr} {oc : Value} {od an : Option Addr} {osl : Array (Option Value)} {kV doc pm cdv ct : Value}
    (hm : mg ("law" : Str) = some (.ref fa)) (a : nsIn K mainGlobals "law" = some (some (.ref f))) (l : K.lookup f = some ⟨oc, od, .func (PySem.W.fnOf "law" "law" (defArgs st) (defBody st) (defScope st) .none kV doc pm an cdv ct), osl⟩) (c : PySem.W.codeIn K cdv "law" = true) (kp : keepIn K (.ref f) = true)
    (S : FnScope N ["script"] (defScope st)) (hp : P.fns[i]? = some ⟨1, N.length, b⟩) (hc : ((cFn P nm N st).map fun x => x.b') = some b) (hd : ∀ s v, BindsTo s (PySem.W.fnOf "law" "law" (defArgs st) (defBody st) (defScope st) .none kV doc pm an cdv ct) ⟨[v], []⟩ [("script", v)])
    (hl : ∀ ns : List Int, ns.length ≤ 63 → ∃ h, callF P w (k + 1) i [.ro (ns.map .int)] [] = .ok (.bl true) h) :
    ∃ fd : FuncData, (∀ (s : Shared) (u : Value), BindsTo s fd ⟨[u], []⟩ [("script", u)]) ∧ ∀ base : Heap, K.In base → base.Ns mainGlobals mg → FnOk prog wd K mg base (CX prog wd) (k + 1) fa fd ["script"] (spLaw K) := by
  have e := hm.symm.trans (PySem.W.mg_of X G a)
  cases e
  exact ⟨_, hd, fun base _ _ => (fn_one w W k (fn_level2 w W k).1 (fn_level2 w W k).2 (fun_mk l c kp) S hp hc).imp fun vs H Q E z => law_sp (G := G0 nm K mg) hl vs H Q E z⟩
end Z

set_option Elab.async false
set_option linter.all false
set_option maxRecDepth 100000
set_option maxHeartbeats 4000000
namespace Z
open PySem L2
/-! ### what is enough for an end -/
def RW (r : R) (K : D → Hm → Prop) (X : Exn → Hm → Prop) : Prop := match r with
  | .ok d h => K d h
  | .exn x h => X x h
  | .bad => False
abbrev Cal := Nat → List D → Hm → R
def EW (c : Cal) (e : E) (ρ : Env') (h : Hm) (K : D → Hm → Prop) (X : Exn → Hm → Prop) : Prop := RW (evE c e ρ h) K X
def LW (c : Cal) (e : E) (ρ : Env') (h : Hm) (K : List D → Hm → Prop) (X : Exn → Hm → Prop) : Prop := RW (evE c e ρ h) (fun d h => ∃ xs, d = .tup xs ∧ K xs h) X
def PW (p : Pm) (ds : List D) (h : Hm) (K : D → Hm → Prop) (X : Exn → Hm → Prop) : Prop := RW (evP p ds h) K X
def SW (c : Cal) (w : Nat) (sub : Str → Str → Bool) (s : S) (ρ : Env') (h : Hm) (Q : O → Prop) : Prop := Q (evS c w sub s ρ h)
/-- which way a truth leads -/
def TW (h : Hm) (d : D) (A B : Prop) : Prop := match truth h d with
  | some true => A
  | some false => B
  | none => False
def NW (h : Hm) (d : D) (K : D → Hm → Prop) : Prop := match truth h d with
  | some b => K (.bl (!b)) h
  | none => False
theorem RW.mono {r K K' X X'} (h : RW r K X) (k : ∀ d h, K d h → K' d h) (x : ∀ e h, X e h → X' e h) : RW r K' X' := by
  cases r <;> simp only [RW] at h ⊢
  · exact k _ _ h
  · exact x _ _ h
theorem RW.bind {r : R} {f : D → Hm → R} {K X} (h : RW r (fun d h => RW (f d h) K X) X) : RW (r.bind f) K X := by
  cases r <;> simpa [RW, R.bind] using h
variable {c : Cal} {w : Nat} {sub : Str → Str → Bool} {ρ : Env'} {h : Hm} {K : D → Hm → Prop} {KL : List D → Hm → Prop} {X : Exn → Hm → Prop} {Q : O → Prop}
theorem tw_t {A B : Prop} (a : A) : TW h (.bl true) A B := a
theorem tw_f {A B : Prop} (a : B) : TW h (.bl false) A B := a
theorem tw_not {A B : Prop} {b : Bool} (a : TW h (.bl b) B A) : TW h (.bl (!b)) A B := by cases b <;> simpa [TW, truth] using a
theorem tw_dec {A B q : Prop} [i : Decidable q] (a : q → A) (b : ¬ q → B) : TW h (.bl (decide q)) A B := by
  by_cases z : q
  · simpa [TW, truth, z] using a z
  · simpa [TW, truth, z] using b z
theorem tw_b {A B : Prop} {q : Bool} (a : q = true → A) (b : q = false → B) : TW h (.bl q) A B := by
  cases q
  · exact b rfl
  · exact a rfl
theorem nw_b {b : Bool} (a : K (.bl (!b)) h) : NW h (.bl b) K := a
theorem nw_t (a : K (.bl false) h) : NW h (.bl true) K := a
theorem nw_f (a : K (.bl true) h) : NW h (.bl false) K := a
theorem ew_var {i d} (e : ρ[i]? = some (some d)) (k : K d h) : EW c (.var i) ρ h K X := by
  simp only [EW, evE, e, RW]; exact k
theorem ew_lit {d} (k : K d h) : EW c (.lit d) ρ h K X := k
theorem lw_nil (k : KL [] h) : LW c .nil ρ h KL X := ⟨[], rfl, k⟩
theorem lw_cons {a r} (k : EW c a ρ h (fun d h => LW c r ρ h (fun ds h => KL (d :: ds) h) X) X) : LW c (.cons a r) ρ h KL X := by
  unfold LW evE
  refine RW.bind (RW.mono k (fun d h z => ?_) fun _ _ z => z)
  refine RW.bind (RW.mono z (fun d h z => ?_) fun _ _ z => z)
  obtain ⟨xs, rfl, z⟩ := z
  exact ⟨_, rfl, z⟩
theorem lw_to {e : E} {f : List D → Hm → R} {g : D → Hm → R} (hg : ∀ xs h, g (.tup xs) h = f xs h) (k : LW c e ρ h (fun ds h => RW (f ds h) K X) X) : RW ((evE c e ρ h).bind g) K X := by
  refine RW.bind (RW.mono k (fun d h z => ?_) fun _ _ z => z)
  obtain ⟨xs, rfl, z⟩ := z
  rw [hg]; exact z
theorem ew_prim {p args} (k : LW c args ρ h (fun ds h => PW p ds h K X) X) : EW c (.prim p args) ρ h K X := by
  unfold EW evE; exact lw_to (fun _ _ => rfl) k
theorem ew_call {f args} (k : LW c args ρ h (fun ds h => RW (c f ds h) K X) X) : EW c (.call f args) ρ h K X := by
  unfold EW evE; exact lw_to (fun _ _ => rfl) k
theorem ew_tup {args} (k : LW c args ρ h (fun ds h => ds.length ≤ sizeLine ∧ K (.tup ds) h) X) : EW c (.tup args) ρ h K X := by
  unfold EW evE; refine lw_to (f := mkt) (fun _ _ => rfl) (RW.mono k (fun d h z => ?_) fun _ _ z => z)
  obtain ⟨xs, rfl, z1, z2⟩ := z
  exact ⟨xs, rfl, by simp only [mkt, z1, if_true, RW]; exact z2⟩
theorem ew_lst {args} (k : LW c args ρ h (fun ds h => ds.length ≤ sizeLine ∧ K (.ref h.length) (h ++ [.lst ds])) X) : EW c (.lst args) ρ h K X := by
  unfold EW evE; refine lw_to (f := mkl) (fun _ _ => rfl) (RW.mono k (fun d h z => ?_) fun _ _ z => z)
  obtain ⟨xs, rfl, z1, z2⟩ := z
  exact ⟨xs, rfl, by simp only [mkl, z1, if_true, RW]; exact z2⟩
theorem ew_meth {p o args} (k : EW c o ρ h (fun x h => recvOk p x h = true ∧ LW c args ρ h (fun ds h => PW p (x :: ds) h K X) X) X) : EW c (.meth p o args) ρ h K X := by
  unfold EW evE
  refine RW.bind (RW.mono k (fun d h z => ?_) fun _ _ z => z)
  rw [if_pos z.1]
  exact lw_to (f := fun xs h => evP p (d :: xs) h) (fun _ _ => rfl) z.2
theorem tw_to {d} {f g : R} {K X} (k : TW h d (RW f K X) (RW g K X)) : RW (match truth h d with | some true => f | some false => g | none => .bad) K X := by
  unfold TW at k; split <;> simp_all
/-- `and`'s first half is known: the second is asked, or it answers -/
def AW (h : Hm) (d : D) (A : Prop) (K : D → Hm → Prop) : Prop := TW h d A (K d h)
def OW (h : Hm) (d : D) (A : Prop) (K : D → Hm → Prop) : Prop := TW h d (K d h) A
theorem aw_b {A : Prop} {q : Bool} (a : q = true → A) (b : q = false → K (.bl false) h) : AW h (.bl q) A K := by
  cases q
  · exact b rfl
  · exact a rfl
theorem ow_b {A : Prop} {q : Bool} (a : q = true → K (.bl true) h) (b : q = false → A) : OW h (.bl q) A K := by
  cases q
  · exact b rfl
  · exact a rfl
theorem aw_dec {A q : Prop} [i : Decidable q] (a : q → A) (b : ¬ q → K (.bl false) h) : AW h (.bl (decide q)) A K := aw_b (fun e => a (of_decide_eq_true e)) fun e => b (of_decide_eq_false e)
theorem ow_dec {A q : Prop} [i : Decidable q] (a : q → K (.bl true) h) (b : ¬ q → A) : OW h (.bl (decide q)) A K := ow_b (fun e => a (of_decide_eq_true e)) fun e => b (of_decide_eq_false e)
theorem aw_t {A : Prop} (a : A) : AW h (.bl true) A K := a
theorem aw_f {A : Prop} (a : K (.bl false) h) : AW h (.bl false) A K := a
theorem ow_t {A : Prop} (a : K (.bl true) h) : OW h (.bl true) A K := a
theorem ow_f {A : Prop} (a : A) : OW h (.bl false) A K := a
theorem tw_pos {A B q : Prop} [i : Decidable q] (z : q) (a : A) : TW h (.bl (decide q)) A B := tw_dec (fun _ => a) fun n => (n z).elim
theorem tw_neg {A B q : Prop} [i : Decidable q] (z : ¬ q) (a : B) : TW h (.bl (decide q)) A B := tw_dec (fun n => (z n).elim) fun _ => a
theorem aw_pos {A q : Prop} [i : Decidable q] (z : q) (a : A) : AW h (.bl (decide q)) A K := aw_dec (fun _ => a) fun n => (n z).elim
theorem aw_neg {A q : Prop} [i : Decidable q] (z : ¬ q) (a : K (.bl false) h) : AW h (.bl (decide q)) A K := aw_dec (fun n => (z n).elim) fun _ => a
theorem ow_pos {A q : Prop} [i : Decidable q] (z : q) (a : K (.bl true) h) : OW h (.bl (decide q)) A K := ow_dec (fun _ => a) fun n => (n z).elim
theorem ow_neg {A q : Prop} [i : Decidable q] (z : ¬ q) (a : A) : OW h (.bl (decide q)) A K := ow_dec (fun n => (z n).elim) fun _ => a
theorem nw_dec {q : Prop} [i : Decidable q] (a : K (.bl (decide (¬ q))) h) : NW h (.bl (decide q)) K := by
  have : (!decide q) = decide (¬ q) := by simp
  unfold NW truth; simp only [this]; exact a
theorem ew_and {a b} (k : EW c a ρ h (fun d h => AW h d (EW c b ρ h K X) K) X) : EW c (.and a b) ρ h K X := by
  unfold EW evE
  exact RW.bind (RW.mono k (fun d h z => tw_to (g := .ok d h) z) fun _ _ z => z)
theorem ew_or {a b} (k : EW c a ρ h (fun d h => OW h d (EW c b ρ h K X) K) X) : EW c (.or a b) ρ h K X := by
  unfold EW evE
  exact RW.bind (RW.mono k (fun d h z => tw_to (f := .ok d h) z) fun _ _ z => z)
theorem ew_ite {q a b} (k : EW c q ρ h (fun d h => TW h d (EW c a ρ h K X) (EW c b ρ h K X)) X) : EW c (.ite q a b) ρ h K X := by
  unfold EW evE
  exact RW.bind (RW.mono k (fun d h z => tw_to z) fun _ _ z => z)
theorem ew_not {a} (k : EW c a ρ h (fun d h => NW h d K) X) : EW c (.not a) ρ h K X := by
  unfold EW evE
  refine RW.bind (RW.mono k (fun d h z => ?_) fun _ _ z => z)
  unfold NW at z; split <;> simp_all [RW]
/-- a truth that the evaluator asks as it stands -/
def BW (d : D) (A B : Prop) : Prop := match d with
  | .bl true => A
  | .bl false => B
  | _ => False
theorem bw_dec {A B q : Prop} [i : Decidable q] (a : q → A) (b : ¬ q → B) : BW (.bl (decide q)) A B := by
  by_cases z : q
  · simpa [BW, z] using a z
  · simpa [BW, z] using b z
theorem bw_b {A B : Prop} {q : Bool} (a : q = true → A) (b : q = false → B) : BW (.bl q) A B := by
  cases q
  · exact b rfl
  · exact a rfl
theorem bw_pos {A B q : Prop} [i : Decidable q] (z : q) (a : A) : BW (.bl (decide q)) A B := bw_dec (fun _ => a) fun n => (n z).elim
theorem bw_neg {A B q : Prop} [i : Decidable q] (z : ¬ q) (a : B) : BW (.bl (decide q)) A B := bw_dec (fun n => (z n).elim) fun _ => a
theorem ew_chain {p q a b e} (k : EW c a ρ h (fun x h => EW c b ρ h (fun y h => PW p [x, y] h (fun k h => BW k (EW c e ρ h (fun z h => PW q [y, z] h K X) X) (K (.bl false) h)) X) X) X) : EW c (.chain p q a b e) ρ h K X := by
  unfold EW evE
  refine RW.bind (RW.mono k (fun x h z => ?_) fun _ _ z => z)
  refine RW.bind (RW.mono z (fun y h z => ?_) fun _ _ z => z)
  refine RW.bind (RW.mono z (fun k h z => ?_) fun _ _ z => z)
  unfold BW at z
  split at z
  · exact RW.bind (RW.mono z (fun x h z => z) fun _ _ z => z)
  · exact z
  · exact z.elim
theorem ew_xis {i cs x} (e : ρ[i]? = some (some (.xv x [] []))) (k : K (.bl (cs.contains x)) h) : EW c (.xis i cs) ρ h K X := by
  simp only [EW, evE, e, RW]; exact k
theorem ew_xist {i cs x} (e : ρ[i]? = some (some (.xv x [] []))) (z : cs.contains x = true) (k : K (.bl true) h) : EW c (.xis i cs) ρ h K X := ew_xis e (z ▸ k)
theorem ew_xisf {i cs x} (e : ρ[i]? = some (some (.xv x [] []))) (z : cs.contains x = false) (k : K (.bl false) h) : EW c (.xis i cs) ρ h K X := ew_xis e (z ▸ k)
/-! primitives -/
section
variable {i j k : Int} {x y z : D} {xs ys : List D}
theorem pw_add (a : K (.int (i + j)) h) : PW .add [.int i, .int j] h K X := a
theorem pw_addt (l : xs.length + ys.length ≤ sizeLine) (a : K (.tup (xs ++ ys)) h) : PW .add [.tup xs, .tup ys] h K X := by
  have : (xs ++ ys).length ≤ sizeLine := by simpa using l
  simp only [PW, evP, opAdd, mkt, this, if_true, RW]; exact a
theorem pw_sub (a : K (.int (i - j)) h) : PW .sub [.int i, .int j] h K X := a
theorem pw_mul (l : okMul i j = true) (a : K (.int (i * j)) h) : PW .mul [.int i, .int j] h K X := by
  simp only [PW, evP, opMul, l, if_true, RW]; exact a
theorem pw_mul1 (l : -(2 ^ 64) < i) (l' : i < 2 ^ 64) (a : K (.int (i * j)) h) : PW .mul [.int i, .int j] h K X := pw_mul (by simp [okMul]; left; exact ⟨l, l'⟩) a
theorem pw_mul2 (l : -(2 ^ 64) < j) (l' : j < 2 ^ 64) (a : K (.int (i * j)) h) : PW .mul [.int i, .int j] h K X := pw_mul (by simp [okMul]; right; exact ⟨l, l'⟩) a
theorem pw_fdiv (l : 0 < j) (l' : j < 1073741824) (a : K (.int (i / j)) h) : PW .fdiv [.int i, .int j] h K X := by
  simp only [PW, evP, opFdiv, l, l', and_self, if_true, RW]; exact a
theorem pw_fdivw (l : 0 < j) (l' : j.natAbs.log2 < 9000) (a : K (.int (i / j)) h) : PW .fdiv [.int i, .int j] h K X := by
  simp only [PW, evP, opFdiv, l, l', and_self, if_true, true_and]
  split <;> exact a
theorem pw_mod (l : 0 < j) (a : K (.int (i % j)) h) : PW .mod [.int i, .int j] h K X := by
  simp only [PW, evP, opMod, l, if_true, RW]; exact a
theorem pw_pow (l : (0 ≤ j ∧ j ≤ 1000000 ∧ i.natAbs < 2 ^ 64)) (a : K (.int (i ^ j.toNat)) h) : PW .pow [.int i, .int j] h K X := by
  simp only [PW, evP, opPow, if_pos l, RW]; exact a
theorem pw_eq (a : K (.bl (decide (i = j))) h) : PW .eq [.int i, .int j] h K X := a
theorem pw_ne (a : K (.bl (decide (i ≠ j))) h) : PW .ne [.int i, .int j] h K X := by
  have : (!decide (i = j)) = decide (i ≠ j) := by simp
  simp only [PW, evP, opNe, eqD, this, RW]; exact a
theorem pw_lt (a : K (.bl (decide (i < j))) h) : PW .lt [.int i, .int j] h K X := a
theorem pw_le (a : K (.bl (decide (i ≤ j))) h) : PW .le [.int i, .int j] h K X := a
theorem pw_gt (a : K (.bl (decide (j < i))) h) : PW .gt [.int i, .int j] h K X := a
theorem pw_ge (a : K (.bl (decide (j ≤ i))) h) : PW .ge [.int i, .int j] h K X := a
theorem pw_neg (a : K (.int (-i)) h) : PW .neg [.int i] h K X := a
theorem pw_abs (a : K (.int (if i < 0 then -i else i)) h) : PW .abs [.int i] h K X := a
theorem pw_int (a : K (.int i) h) : PW .int [.int i] h K X := a
theorem pw_max2 (a : K (.int (if j > i then j else i)) h) : PW .max2 [.int i, .int j] h K X := a
theorem pw_min2 (a : K (.int (if j < i then j else i)) h) : PW .min2 [.int i, .int j] h K X := a
theorem pw_lent (a : K (.int xs.length) h) : PW .len [.tup xs] h K X := a
theorem pw_len (e : listOf h x = some xs) (hs : ∀ s, x ≠ .str s) (a : K (.int xs.length) h) : PW .len [x] h K X := by
  cases x with
  | str s => exact (hs s rfl).elim
  | _ => simp only [PW, evP, opLen, e, RW]; exact a
theorem pw_lenr {r : Nat} (e : h[r]? = some (.lst xs)) (a : K (.int xs.length) h) : PW .len [.ref r] h K X := by
  simp only [PW, evP, opLen, listOf, e, RW]; exact a
theorem pw_idxt {d} (e : atD xs i = some d) (a : K d h) : PW .idx [.tup xs, .int i] h K X := by
  simp only [PW, evP, opIdx, listOf, e, RW]; exact a
theorem pw_idxr {r : Nat} {d} (e : h[r]? = some (.lst xs)) (e' : atD xs i = some d) (a : K d h) : PW .idx [.ref r, .int i] h K X := by
  simp only [PW, evP, opIdx, listOf, e, e', RW]; exact a
theorem pw_part (l : -(2 ^ 62) ≤ i ∧ i < 2 ^ 62) (a : K (.int i) h) : PW .part [.int i] h K X := by
  simp only [PW, evP, opPart, if_pos l, RW]; exact a
theorem pw_append {r : Nat} (e : h[r]? = some (.lst xs)) (l : xs.length < sizeLine) (a : K .non (h.set r (.lst (xs ++ [y])))) : PW .append [.ref r, y] h K X := by
  simp only [PW, evP, opAppend, onList, e, if_pos l, RW]; exact a
theorem pw_eqD {b} (e : eqD x y h = some b) (a : K (.bl b) h) : PW .eq [x, y] h K X := by
  simp only [PW, evP, opEq, e, RW]; exact a
theorem pw_neD {b} (e : eqD x y h = some b) (a : K (.bl (!b)) h) : PW .ne [x, y] h K X := by
  simp only [PW, evP, opNe, e, RW]; exact a
theorem eqD_bl {a b : Bool} : eqD (.bl a) (.bl b) h = some (decide (a = b)) := by cases a <;> cases b <;> rfl
theorem pw_eqbl {a b : Bool} (q : K (.bl (decide (a = b))) h) : PW .eq [.bl a, .bl b] h K X := pw_eqD eqD_bl q
theorem pw_nebl {a b : Bool} (q : K (.bl (decide (a ≠ b))) h) : PW .ne [.bl a, .bl b] h K X := by
  have : (!decide (a = b)) = decide (a ≠ b) := by simp
  exact pw_neD eqD_bl (by rw [this]; exact q)
theorem pw_is {b} (e : isD x y = some b) (a : K (.bl b) h) : PW .is [x, y] h K X := by
  simp only [PW, evP, opIs, e, RW]; exact a
theorem pw_isnot {b} (e : isD x y = some b) (a : K (.bl (!b)) h) : PW .isnot [x, y] h K X := by
  simp only [PW, evP, opIsnot, e, RW]; exact a
theorem pw_isint {b} (e : kInt x = some b) (a : K (.bl b) h) : PW .isint [x] h K X := by
  simp only [PW, evP, isKind, e, RW]; exact a
theorem pw_isbool {b} (e : kBool x = some b) (a : K (.bl b) h) : PW .isbool [x] h K X := by
  simp only [PW, evP, isKind, e, RW]; exact a
theorem pw_isstr {b} (e : kStr x = some b) (a : K (.bl b) h) : PW .isstr [x] h K X := by
  simp only [PW, evP, isKind, e, RW]; exact a
theorem pw_istup {b} (e : kTup x = some b) (a : K (.bl b) h) : PW .istup [x] h K X := by
  simp only [PW, evP, isKind, e, RW]; exact a
theorem pw_islist {b} (e : kList h x = some b) (a : K (.bl b) h) : PW .islist [x] h K X := by
  simp only [PW, evP, isKind, e, RW]; exact a
theorem pw_isseq {b} (e : kSeq h x = some b) (a : K (.bl b) h) : PW .isseq [x] h K X := by
  simp only [PW, evP, isKind, e, RW]; exact a
theorem pw_count {ns : List Int} (e : listOf h x = some xs) (e' : intsOf xs = some ns) (a : K (.int (ns.count i : Nat)) h) : PW .count [x, .int i] h K X := by
  simp only [PW, evP, opCount, e, e', RW]; exact a
theorem pw_sorted {r : Nat} {ns : List Int} (e : h[r]? = some (.lst (ns.map .int))) (e' : intsOf (ns.map .int) = some ns) (a : K (.ref h.length) (h ++ [.lst ((sortI ns).map .int)])) : PW .sorted [.ref r] h K X := by
  simp only [PW, evP, opSorted, lstOf, listOf, e, Option.bind, e', RW]; exact a
theorem pw_tuple (e : listOf h x = some xs) (a : K (.tup xs) h) : PW .tuple [x] h K X := by
  simp only [PW, evP, opTuple, e, RW]; exact a
theorem pw_list (e : listOf h x = some xs) (a : K (.ref h.length) (h ++ [.lst xs])) : PW .list [x] h K X := by
  simp only [PW, evP, opList, e, RW]; exact a
theorem pw_slicet {lo hi l u} (e : partOf lo = some l) (e' : partOf hi = some u) (a : K (.tup (cutD xs l u)) h) : PW .slice [.tup xs, lo, hi] h K X := by
  simp only [PW, evP, opSlice, e, e', RW]; exact a
theorem pw_slicero {lo hi l u} (e : partOf lo = some l) (e' : partOf hi = some u) (a : K (.ref h.length) (h ++ [.lst (cutD xs l u)])) : PW .slice [.ro xs, lo, hi] h K X := by
  simp only [PW, evP, opSlice, e, e', listOf, RW]; exact a
theorem pw_slicer {r : Nat} {lo hi l u} (q : h[r]? = some (.lst xs)) (e : partOf lo = some l) (e' : partOf hi = some u) (a : K (.ref h.length) (h ++ [.lst (cutD xs l u)])) : PW .slice [.ref r, lo, hi] h K X := by
  simp only [PW, evP, opSlice, e, e', listOf, q, RW]; exact a
end
/-! statements -/
/-- what is left after the first of two -/
def sq (c : Cal) (w : Nat) (sub : Str → Str → Bool) (b : S) (Q : O → Prop) (o : O) : Prop := match o with
  | .nx ρ h => SW c w sub b ρ h Q
  | o => Q o
def endQ (K : D → Hm → Prop) (X : Exn → Hm → Prop) (o : O) : Prop := RW (endO o) K X
theorem sq_nx {b} (k : SW c w sub b ρ h Q) : sq c w sub b Q (.nx ρ h) := k
theorem sq_rt {b d} (k : Q (.rt d h)) : sq c w sub b Q (.rt d h) := k
theorem sq_ex {b x} (k : Q (.ex x ρ h)) : sq c w sub b Q (.ex x ρ h) := k
theorem sq_bk {b} (k : Q (.bk ρ h)) : sq c w sub b Q (.bk ρ h) := k
theorem sq_ct {b} (k : Q (.ct ρ h)) : sq c w sub b Q (.ct ρ h) := k
theorem eq_nx (k : K .non h) : endQ K X (.nx ρ h) := k
theorem eq_rt {d} (k : K d h) : endQ K X (.rt d h) := k
theorem eq_ex {x} (k : X x h) : endQ K X (.ex x ρ h) := k
theorem sw_seq {a b} (k : SW c w sub a ρ h (sq c w sub b Q)) : SW c w sub (.seq a b) ρ h Q := by
  unfold SW sq at k
  unfold SW evS
  split
  · rename_i e; rw [e] at k; exact k
  · rename_i ne
    split at k
    · rename_i ρ1 h1 e; exact (ne _ _ e).elim
    · exact k
/-- the first of two, cut by a word -/
def cq (I : Env' → Hm → Prop) (Q : O → Prop) (o : O) : Prop := match o with
  | .nx ρ h => I ρ h
  | o => Q o
theorem cq_nx {I : Env' → Hm → Prop} (k : I ρ h) : cq I Q (.nx ρ h) := k
theorem cq_rt {I : Env' → Hm → Prop} {d} (k : Q (.rt d h)) : cq I Q (.rt d h) := k
theorem cq_ex {I : Env' → Hm → Prop} {x} (k : Q (.ex x ρ h)) : cq I Q (.ex x ρ h) := k
theorem sw_cut {a b} (I : Env' → Hm → Prop) (k : SW c w sub a ρ h (cq I Q)) (k' : ∀ ρ h, I ρ h → SW c w sub b ρ h Q) : SW c w sub (.seq a b) ρ h Q := by
  refine sw_seq ?_
  unfold SW cq at k
  unfold SW sq
  split at k
  · exact k' _ _ k
  · exact k
theorem sw_skip (k : Q (.nx ρ h)) : SW c w sub .skip ρ h Q := k
theorem sw_brk (k : Q (.bk ρ h)) : SW c w sub .brk ρ h Q := k
theorem sw_cont (k : Q (.ct ρ h)) : SW c w sub .cont ρ h Q := k
theorem sw_retn (k : Q (.rt .non h)) : SW c w sub .retn ρ h Q := k
theorem rw_to {r : R} {f : D → Hm → O} (k : RW r (fun d h => Q (f d h)) (fun x h => Q (.ex x ρ h))) : Q (r.to ρ f) := by
  cases r
  · exact k
  · exact k
  · exact k.elim
theorem sw_set {i e} (k : EW c e ρ h (fun d h => Q (.nx (ρ.set i (some d)) h)) (fun x h => Q (.ex x ρ h))) : SW c w sub (.set (.name i) e) ρ h Q := by
  unfold SW evS; exact rw_to k
theorem sw_sett {tg e} (k : EW c e ρ h (fun d h => ∃ ρ1, setT tg d ρ = some ρ1 ∧ Q (.nx ρ1 h)) (fun x h => Q (.ex x ρ h))) : SW c w sub (.set tg e) ρ h Q := by
  unfold SW evS; refine rw_to (RW.mono k (fun d h z => ?_) fun _ _ z => z)
  obtain ⟨ρ1, e, z⟩ := z
  rw [e]; exact z
theorem sw_expr {e} (k : EW c e ρ h (fun _ h => Q (.nx ρ h)) (fun x h => Q (.ex x ρ h))) : SW c w sub (.expr e) ρ h Q := by
  unfold SW evS; exact rw_to k
theorem sw_ret {e} (k : EW c e ρ h (fun d h => Q (.rt d h)) (fun x h => Q (.ex x ρ h))) : SW c w sub (.ret e) ρ h Q := by
  unfold SW evS; exact rw_to k
theorem sw_ite {q a b} (k : EW c q ρ h (fun d h => TW h d (SW c w sub a ρ h Q) (SW c w sub b ρ h Q)) (fun x h => Q (.ex x ρ h))) : SW c w sub (.ite q a b) ρ h Q := by
  unfold SW evS; refine rw_to (RW.mono k (fun d h z => ?_) fun _ _ z => z)
  unfold TW at z; split <;> simp_all [SW]
theorem sw_aug {p x e a} (er : ρ[x]? = some (some a)) (k : EW c e ρ h (fun d h => RW (evAug p a d h) (fun r h => Q (.nx (ρ.set x (some r)) h)) (fun x h => Q (.ex x ρ h))) (fun x h => Q (.ex x ρ h))) : SW c w sub (.aug p x e) ρ h Q := by
  unfold SW evS; rw [er]; exact rw_to (RW.mono k (fun d h z => rw_to z) fun _ _ z => z)
theorem rw_augadd {i j : Int} (k : K (.int (i + j)) h) : RW (evAug .add (.int i) (.int j) h) K X := k
theorem rw_augsub {i j : Int} (k : K (.int (i - j)) h) : RW (evAug .sub (.int i) (.int j) h) K X := k
theorem rw_augmul {i j : Int} (l : okMul i j = true) (k : K (.int (i * j)) h) : RW (evAug .mul (.int i) (.int j) h) K X := by
  simp only [evAug, opMul, l, if_true, RW]; exact k
theorem rw_augfdiv {i j : Int} (l : 0 < j ∧ j < 1073741824) (k : K (.int (i / j)) h) : RW (evAug .fdiv (.int i) (.int j) h) K X := by
  simp only [evAug, if_pos l, RW]; exact k
theorem rw_augmod {i j : Int} (l : 0 < j) (k : K (.int (i % j)) h) : RW (evAug .mod (.int i) (.int j) h) K X := by
  simp only [evAug, if_pos l, RW]; exact k
theorem sw_setix {o i e} (k : EW c e ρ h (fun d h => EW c o ρ h (fun x h => EW c i ρ h (fun k h => RW (opSetix x k d h) (fun _ h => Q (.nx ρ h)) (fun x h => Q (.ex x ρ h))) (fun x h => Q (.ex x ρ h))) (fun x h => Q (.ex x ρ h))) (fun x h => Q (.ex x ρ h))) : SW c w sub (.setix o i e) ρ h Q := by
  unfold SW evS; exact rw_to (RW.mono k (fun d h z => rw_to (RW.mono z (fun d h z => rw_to (RW.mono z (fun d h z => rw_to z) fun _ _ z => z)) fun _ _ z => z)) fun _ _ z => z)
theorem rw_setix {r m : Nat} {xs : List D} {j : Int} {y : D} (e : h[r]? = some (.lst xs)) (e' : ixN xs.length j = some m) (k : K .non (h.set r (.lst (xs.set m y)))) : RW (opSetix (.ref r) (.int j) y h) K X := by
  simp only [opSetix, onList, e, e', RW]; exact k
theorem rw_get {r : Nat} {xs : List D} {j : Int} {d : D} (e : h[r]? = some (.lst xs)) (e' : atD xs j = some d) (k : K d h) : RW (opGet (.ref r) (.int j) h) K X := by
  simp only [opGet, lstOf, listOf, e, e', RW]; exact k
theorem sw_augix {p o i e} (k : EW c o ρ h (fun x h => EW c i ρ h (fun k h => RW (opGet x k h) (fun a h => EW c e ρ h (fun d h => RW (evAug p a d h) (fun r h => RW (opSetix x k r h) (fun _ h => Q (.nx ρ h)) (fun x h => Q (.ex x ρ h))) (fun x h => Q (.ex x ρ h))) (fun x h => Q (.ex x ρ h))) (fun x h => Q (.ex x ρ h))) (fun x h => Q (.ex x ρ h))) (fun x h => Q (.ex x ρ h))) : SW c w sub (.augix p o i e) ρ h Q := by
  unfold SW evS
  exact rw_to (RW.mono k (fun d h z => rw_to (RW.mono z (fun d h z => rw_to (RW.mono z (fun d h z => rw_to (RW.mono z (fun d h z => rw_to (RW.mono z (fun d h z => rw_to z) fun _ _ z => z)) fun _ _ z => z)) fun _ _ z => z)) fun _ _ z => z)) fun _ _ z => z)
theorem sw_raise {cl fs args} (k : LW c args ρ h (fun ds h => ds.length = fs.length ∧ Q (.ex ⟨cl, fs, ds⟩ ρ h)) (fun x h => Q (.ex x ρ h))) : SW c w sub (.raise cl fs args) ρ h Q := by
  unfold SW evS; refine rw_to (RW.mono k (fun d h z => ?_) fun _ _ z => z)
  obtain ⟨xs, rfl, z1, z2⟩ := z
  simp only [z1, if_true]; exact z2
/-- one item after another -/
def FW (c : Cal) (w : Nat) (sub : Str → Str → Bool) (g : Gd) (tg : Tg) (b : S) (xs : List D) (ρ : Env') (h : Hm) (Q : O → Prop) : Prop := Q (forL g tg (evS c w sub b) xs ρ h)
/-- how a round leads on -/
def rd (I : Env' → Hm → Prop) (Q : O → Prop) (o : O) : Prop := match o with
  | .nx ρ h => I ρ h
  | .ct ρ h => I ρ h
  | .bk ρ h => Q (.nx ρ h)
  | o => Q o
theorem rd_nx {I : Env' → Hm → Prop} (k : I ρ h) : rd I Q (.nx ρ h) := k
theorem rd_ct {I : Env' → Hm → Prop} (k : I ρ h) : rd I Q (.ct ρ h) := k
theorem rd_bk {I : Env' → Hm → Prop} (k : Q (.nx ρ h)) : rd I Q (.bk ρ h) := k
theorem rd_rt {I : Env' → Hm → Prop} {d} (k : Q (.rt d h)) : rd I Q (.rt d h) := k
theorem rd_ex {I : Env' → Hm → Prop} {x} (k : Q (.ex x ρ h)) : rd I Q (.ex x ρ h) := k
theorem fw_inv {g tg b} {xs : List D} (I : List D → Env' → Hm → Prop) (i0 : I xs ρ h)
    (ig : ∀ r ρ h, I r ρ h → gdOk g h = true)
    (is : ∀ x r ρ h, I (x :: r) ρ h → ∃ ρ1, setT tg x ρ = some ρ1 ∧ SW c w sub b ρ1 h (rd (I r) Q))
    (ie : ∀ ρ h, I [] ρ h → Q (.nx ρ h)) : FW c w sub g tg b xs ρ h Q := by
  induction xs generalizing ρ h with
  | nil => simp only [FW, forL, ig _ _ _ i0, if_true]; exact ie _ _ i0
  | cons x r ih =>
    obtain ⟨ρ1, e, z⟩ := is _ _ _ _ i0
    simp only [FW, forL, ig _ _ _ i0, if_true, e]
    unfold SW at z
    cases q : evS c w sub b ρ1 h with
    | nx ρ2 h2 => rw [q] at z; exact ih z
    | ct ρ2 h2 => rw [q] at z; exact ih z
    | bk ρ2 h2 => rw [q] at z; exact z
    | rt d h2 => rw [q] at z; exact z
    | ex x ρ2 h2 => rw [q] at z; exact z
    | bad => rw [q] at z; exact z
theorem sw_loop {s args tg b} (k : LW c args ρ h (fun ds h => ∃ xs g, evSrc s ds h = some (xs, g) ∧ FW c w sub g tg b xs ρ h Q) (fun x h => Q (.ex x ρ h))) : SW c w sub (.loop s args tg b) ρ h Q := by
  unfold SW evS; refine rw_to (RW.mono k (fun d h z => ?_) fun _ _ z => z)
  obtain ⟨ds, rfl, xs, g, e, z⟩ := z
  simp only [e]; exact z
theorem small_of {i : Int} (a : -(2 ^ 62) ≤ i) (b : i < 2 ^ 62) : small i = true := by simp [small]; exact ⟨a, b⟩
theorem src_r1 {n : Int} (a : small n = true) : evSrc .range1 [.int n] h = some (rangeD 0 1 n.toNat, []) := by simp [evSrc, srcR1, a]
theorem src_r2 {n m : Int} (a : small n = true) (b : small m = true) : evSrc .range2 [.int n, .int m] h = some (rangeD n 1 (m - n).toNat, []) := by simp [evSrc, srcR2, a, b]
theorem src_t {xs : List D} : evSrc .plain [.tup xs] h = some (xs, []) := rfl
theorem src_r {r : Nat} {xs : List D} (e : h[r]? = some (.lst xs)) : evSrc .plain [.ref r] h = some (xs, [(r, xs)]) := by simp [evSrc, srcPlain, listOf, e, gdOf]
theorem src_ro {xs : List D} : evSrc .plain [.ro xs] h = some (xs, []) := rfl
theorem gd_nil : gdOk [] h = true := rfl
theorem gd_one {r : Nat} {xs : List D} (e : h[r]? = some (.lst xs)) : gdOk [(r, xs)] h = true := by simp [gdOk, e, D.beqs_refl]
/-- the numbers from lo on, n of them -/
def upD (lo : Int) : Nat → List D
  | 0 => []
  | n + 1 => .int lo :: upD (lo + 1) n
theorem range_up (lo : Int) (n : Nat) : rangeD lo 1 n = upD lo n := by
  induction n generalizing lo with
  | zero => rfl
  | succ n ih =>
    rw [upD, ← ih (lo + 1)]
    simp only [rangeD, List.range_succ_eq_map, List.map_cons, List.map_map]
    congr 1
    · simp
    · apply List.map_congr_left
      intro a _
      simp only [Function.comp, Int.mul_one]
      congr 1
      omega
/-- a walk over numbers: the invariant speaks of the next number -/
theorem fw_up {g tg b lo} {n : Nat} (I : Int → Env' → Hm → Prop) (i0 : I lo ρ h)
    (ig : ∀ k ρ h, I k ρ h → gdOk g h = true)
    (is : ∀ k ρ h, lo ≤ k → k < lo + n → I k ρ h → ∃ ρ1, setT tg (.int k) ρ = some ρ1 ∧ SW c w sub b ρ1 h (rd (I (k + 1)) Q))
    (ie : ∀ ρ h, I (lo + n) ρ h → Q (.nx ρ h)) : FW c w sub g tg b (upD lo n) ρ h Q := by
  induction n generalizing lo ρ h with
  | zero => simp only [FW, upD, forL, ig _ _ _ i0, if_true]; exact ie _ _ (by simpa using i0)
  | succ n ih =>
    obtain ⟨ρ1, e, z⟩ := is lo ρ h (Int.le_refl _) (by omega) i0
    simp only [FW, upD, forL, ig _ _ _ i0, if_true, e]
    unfold SW at z
    have go : ∀ ρ2 h2, I (lo + 1) ρ2 h2 → FW c w sub g tg b (upD (lo + 1) n) ρ2 h2 Q := fun ρ2 h2 z => ih z (fun k ρ h a b => is k ρ h (by omega) (by omega)) (fun ρ h q => ie ρ h ((show lo + 1 + (n : Int) = lo + ((n + 1 : Nat) : Int) by omega) ▸ q))
    cases q : evS c w sub b ρ1 h with
    | nx ρ2 h2 => rw [q] at z; exact go _ _ z
    | ct ρ2 h2 => rw [q] at z; exact go _ _ z
    | bk ρ2 h2 => rw [q] at z; exact z
    | rt d h2 => rw [q] at z; exact z
    | ex x ρ2 h2 => rw [q] at z; exact z
    | bad => rw [q] at z; exact z
/-- a list made item by item -/
theorem rw_comp {g tg q t n} {xs : List D} (I : List D → List D → Hm → Prop) (acc : List D) (i0 : I xs acc h)
    (ig : ∀ r a h, I r a h → gdOk g h = true)
    (ia : ∀ x r a h, I (x :: r) a h → ∃ ρ1, setT tg x ρ = some ρ1 ∧ EW c q ρ1 h (fun d h => TW h d (EW c t ρ1 h (fun y h => h[n]? = some (.lst a) ∧ a.length < sizeLine ∧ I r (a ++ [y]) (h.set n (.lst (a ++ [y])))) (fun _ _ => False)) (I r a h)) (fun _ _ => False))
    (ie : ∀ a h, I [] a h → K (.ref n) h) : RW (compL g tg ρ (evE c q) (evE c t) n xs h) K X := by
  induction xs generalizing acc h with
  | nil => simp only [compL, ig _ _ _ i0, if_true, RW]; exact ie _ _ i0
  | cons x r ih =>
    obtain ⟨ρ1, e, z⟩ := ia _ _ _ _ i0
    simp only [compL, ig _ _ _ i0, if_true, e]
    unfold EW at z
    cases e1 : evE c q ρ1 h with
    | bad => rw [e1] at z; exact z.elim
    | exn _ _ => rw [e1] at z; exact z.elim
    | ok d h1 =>
      rw [e1] at z
      simp only [RW, TW] at z
      simp only
      split
      · rename_i e2
        rw [e2] at z
        simp only at z
        cases e3 : evE c t ρ1 h1 with
        | bad => rw [e3] at z; exact z.elim
        | exn _ _ => rw [e3] at z; exact z.elim
        | ok y h2 =>
          rw [e3] at z
          obtain ⟨z1, z2, z3⟩ := z
          simp only [z1, z2, if_true]
          exact ih _ z3
      · rename_i e2
        rw [e2] at z
        exact ih _ z
      · rename_i e2
        rw [e2] at z
        exact z.elim
theorem ew_comp {own s args tg q t} (k : LW c args ρ h (fun ds h => ∃ xs g, evSrc s ds h = some (xs, g) ∧ RW (compL g tg (wipeE ρ own) (evE c q) (evE c t) h.length xs (h ++ [.lst []])) K X) X) : EW c (.comp own s args tg q t) ρ h K X := by
  unfold EW evE
  refine RW.bind (RW.mono k (fun d h z => ?_) fun _ _ z => z)
  obtain ⟨ds, rfl, xs, g, e, z⟩ := z
  simp only [e]; exact z
/-- try with one except clause that holds the exception -/
def hq (c : Cal) (w : Nat) (sub : Str → Str → Bool) (hs : S) (Q : O → Prop) (o : O) : Prop := match o with
  | .ex x ρ h => Q (evH c w sub hs x ρ h)
  | o => Q o
theorem hq_rt {hs d} (k : Q (.rt d h)) : hq c w sub hs Q (.rt d h) := k
theorem hq_nx {hs} (k : Q (.nx ρ h)) : hq c w sub hs Q (.nx ρ h) := k
theorem hq_bk {hs} (k : Q (.bk ρ h)) : hq c w sub hs Q (.bk ρ h) := k
theorem hq_ct {hs} (k : Q (.ct ρ h)) : hq c w sub hs Q (.ct ρ h) := k
/-- what is left of a suite -/
def xq (i : Nat) (Q : O → Prop) (o : O) : Prop := match o with
  | .nx ρ h => Q (.nx (ρ.set i none) h)
  | .bk ρ h => Q (.bk (ρ.set i none) h)
  | .ct ρ h => Q (.ct (ρ.set i none) h)
  | .rt d h => Q (.rt d h)
  | _ => False
theorem xq_rt {i d} (k : Q (.rt d h)) : xq i Q (.rt d h) := k
theorem xq_nx {i} (k : Q (.nx (ρ.set i none) h)) : xq i Q (.nx ρ h) := k
theorem hq_ex {cl i su rest} {x : Exn} (s : sub x.cls cl = true) (l : i < ρ.length) (k : SW c w sub su (ρ.set i (some (.xv x.cls x.fs x.ds))) h (xq i Q)) : hq c w sub (.hcons cl (some i) su rest) Q (.ex x ρ h) := by
  unfold hq evH
  simp only [s, l, if_true]
  unfold SW xq at k
  split at k <;> simp_all
theorem hq_exn {cl su rest} {x : Exn} (s : sub x.cls cl = true) (k : SW c w sub su ρ h (fun o => match o with | .ex .. => False | o => Q o)) : hq c w sub (.hcons cl none su rest) Q (.ex x ρ h) := by
  unfold hq evH
  simp only [s, if_true]
  unfold SW at k
  dsimp only at k
  split at k <;> simp_all
theorem hq_no {cl i su rest} {x : Exn} (s : sub x.cls cl = false) (k : hq c w sub rest Q (.ex x ρ h)) : hq c w sub (.hcons cl i su rest) Q (.ex x ρ h) := by
  unfold hq at k ⊢
  unfold evH
  simp only [s, Bool.false_eq_true, if_false]
  exact k
theorem hq_end {x : Exn} (k : Q (.ex x ρ h)) : hq c w sub .hnil Q (.ex x ρ h) := k
theorem sw_try {b hs} (k : SW c w sub b ρ h (hq c w sub hs Q)) : SW c w sub (.try b hs) ρ h Q := by
  unfold SW evS
  unfold SW hq at k
  split
  · rename_i e; rw [e] at k; exact k
  · rename_i ne
    split at k
    · rename_i e; exact (ne _ _ _ e).elim
    · exact k
/-- a def entered -/
theorem rw_in {P : Pg} {w k f : Nat} {fn : Fn} {ds : List D} {b : S} (e : P.fns[f]? = some fn) (l : ds.length = fn.arity) (eb : fn.body = b) (er : ds.map some ++ List.replicate (fn.slots - fn.arity) none = ρ)
    (z : SW (callF P w k) w P.sub b ρ h (endQ K X)) : RW (callF P w (k + 1) f ds h) K X := by
  simp only [callF, e, l, if_true, endQ, SW, eb, er] at *
  exact z
theorem rw_use {r : R} {d : D} {h' : Hm} (e : r = .ok d h') (k : K d h') : RW r K X := by rw [e]; exact k
theorem rw_usex {r : R} {x : Exn} {h' : Hm} (e : r = .exn x h') (k : X x h') : RW r K X := by rw [e]; exact k
theorem rw_get_ok {r : R} {q : D} (z : RW r (fun d _ => d = q) (fun _ _ => False)) : ∃ h, r = .ok q h := by
  cases r with
  | ok d h => exact ⟨h, by rw [show d = q from z]⟩
  | exn _ _ => exact z.elim
  | bad => exact z.elim
/-- which of two ends -/
theorem rw_eq {r : R} (z : r = .ok d h') : RW r (fun a b => a = d ∧ b = h') X := by rw [z]; exact ⟨rfl, rfl⟩
theorem atD_pos {xs : List D} {i : Int} (l : i.toNat < xs.length) (i0 : 0 ≤ i) : atD xs i = xs[i.toNat]? := by
  unfold atD ixN
  have a : i < (xs.length : Int) := by omega
  simp [i0, a]
/-! ### the store of the draws -/
def StoreOk (h : Hm) (s : Nat) : Prop := ∃ (a : Nat) (ns : List Int) (i x y z : Int), h[s]? = some (.lst [.ref a, .int i, .int x, .int y, .int z]) ∧ h[a]? = some (.lst (ns.map .int)) ∧ a < s ∧ 0 ≤ i ∧ 0 ≤ x ∧ 0 ≤ z ∧ z < 18446744073709551616 ∧ ns.length ≤ 63
/-- all but the store stands -/
def Fr (s : Nat) (h h' : Hm) : Prop := h.length ≤ h'.length ∧ ∀ i, i < h.length → i ≠ s → h'[i]? = h[i]?
theorem Fr.refl {s : Nat} {h : Hm} : Fr s h h := ⟨Nat.le_refl _, fun _ _ _ => rfl⟩
theorem Fr.trans {s : Nat} {h h1 h2 : Hm} (a : Fr s h h1) (b : Fr s h1 h2) : Fr s h h2 := ⟨Nat.le_trans a.1 b.1, fun i l n => (b.2 i (Nat.lt_of_lt_of_le l a.1) n).trans (a.2 i l n)⟩
theorem Fr.get {s r : Nat} {h h' : Hm} {x : Cell} (a : Fr s h h') (n : r ≠ s) (e : h[r]? = some x) : h'[r]? = some x := by
  have : r < h.length := by
    have := List.getElem?_eq_some_iff.mp e
    exact this.1
  rw [a.2 r this n]; exact e
theorem lt_of_get {r : Nat} {h : Hm} {x : Cell} (e : h[r]? = some x) : r < h.length := (List.getElem?_eq_some_iff.mp e).1
theorem get_app {r : Nat} {h t : Hm} {x : Cell} (e : h[r]? = some x) : (h ++ t)[r]? = some x := by
  rw [List.getElem?_append_left (lt_of_get e)]; exact e
theorem get_new {h : Hm} {x : Cell} : (h ++ [x])[h.length]? = some x := by simp
theorem get_set {r : Nat} {h : Hm} {x y : Cell} (e : h[r]? = some y) : (h.set r x)[r]? = some x := by simp [lt_of_get e]
theorem get_set_ne {r q : Nat} {h : Hm} {x y : Cell} (n : q ≠ r) (e : h[q]? = some y) : (h.set r x)[q]? = some y := by rw [List.getElem?_set_ne (Ne.symm n)]; exact e
theorem Fr.set {s : Nat} {h : Hm} {x : Cell} : Fr s h (h.set s x) := ⟨by simp, fun i l n => by rw [List.getElem?_set_ne (Ne.symm n)]⟩
theorem Fr.app {s : Nat} {h t : Hm} : Fr s h (h ++ t) := ⟨by simp, fun i l n => by rw [List.getElem?_append_left l]⟩
/-- a cell made since then may be written -/
theorem Fr.setn {s r : Nat} {h h' : Hm} {x : Cell} (a : Fr s h h') (l : h.length ≤ r) : Fr s h (h'.set r x) := ⟨by simpa using a.1, fun i l' n => by rw [List.getElem?_set_ne (by omega)]; exact a.2 i l' n⟩
theorem StoreOk.lt {s : Nat} {h : Hm} (a : StoreOk h s) : s < h.length := by
  obtain ⟨_, _, _, _, _, _, e, _⟩ := a
  exact lt_of_get e
theorem StoreOk.app {s : Nat} {h t : Hm} (a : StoreOk h s) : StoreOk (h ++ t) s := by
  obtain ⟨a, ns, i, x, y, z, e, e', q⟩ := a
  exact ⟨a, ns, i, x, y, z, get_app e, get_app e', q⟩
theorem StoreOk.setn {s r : Nat} {h : Hm} {x : Cell} (a : StoreOk h s) (l : s < r) : StoreOk (h.set r x) s := by
  obtain ⟨a, ns, i, x, y, z, e, e', q⟩ := a
  exact ⟨a, ns, i, x, y, z, get_set_ne (by omega) e, get_set_ne (by omega) e', q⟩
theorem recv_r {p : Pm} {r : Nat} {xs : List D} (e : h[r]? = some (.lst xs)) : recvOk p (.ref r) h = true := by cases p <;> simp [recvOk, lstOf, listOf, e]
theorem recv_t {xs : List D} : recvOk .count (.tup xs) h = true := rfl
theorem le_size {n : Nat} (l : n ≤ 16) : n ≤ sizeLine := Nat.le_trans l (by decide)
theorem small_k {i : Int} (a : 0 ≤ i) (b : i < 1073741824) : small i = true := small_of (by omega) (by omega)
/-! ### more of the same -/
section
variable {c : Cal} {w : Nat} {sub : Str → Str → Bool} {ρ : Env'} {h : Hm} {K : D → Hm → Prop} {KL : List D → Hm → Prop} {X : Exn → Hm → Prop} {Q : O → Prop}
theorem ew_callD {f args dl} (k : LW c args ρ h (fun ds h => RW (c f (ds ++ dl) h) K X) X) : EW c (.callD f args dl) ρ h K X := by
  unfold EW evE; exact lw_to (f := fun ds h => c f (ds ++ dl) h) (fun _ _ => rfl) k
theorem lw_app {a b} (k : LW c a ρ h (fun xs h => LW c b ρ h (fun ys h => KL (xs ++ ys) h) X) X) : LW c (.app a b) ρ h KL X := by
  unfold LW evE
  refine RW.bind (RW.mono k (fun d h z => ?_) fun _ _ z => z)
  obtain ⟨xs, rfl, z⟩ := z
  refine RW.bind (RW.mono z (fun d h z => ?_) fun _ _ z => z)
  obtain ⟨ys, rfl, z⟩ := z
  exact ⟨_, rfl, z⟩
theorem pw_revl {x : D} {xs : List D} (e : listOf h x = some xs) (l : xs.length ≤ 1000000) (a : K (.ref h.length) (h ++ [.lst xs.reverse])) : PW .revl [x] h K X := by
  simp only [PW, evP, opRevl, e, l, if_true, RW]; exact a
theorem pw_sumt {ns : List Int} (a : K (.int ns.sum) h) : PW .suml [.tup (ns.map .int)] h K X := by
  simp only [PW, evP, opSum, listOf, Option.bind, intsOf_map, RW]; exact a
theorem pw_sumr {r : Nat} {ns : List Int} (e : h[r]? = some (.lst (ns.map .int))) (a : K (.int ns.sum) h) : PW .suml [.ref r] h K X := by
  simp only [PW, evP, opSum, listOf, e, Option.bind, intsOf_map, RW]; exact a
theorem pw_addr {a b : Nat} {xs ys : List D} (ea : h[a]? = some (.lst xs)) (eb : h[b]? = some (.lst ys)) (l : xs.length + ys.length ≤ sizeLine) (k : K (.ref h.length) (h ++ [.lst (xs ++ ys)])) : PW .add [.ref a, .ref b] h K X := by
  have : (xs ++ ys).length ≤ sizeLine := by simpa using l
  simp only [PW, evP, opAdd, ea, eb, mkl, this, if_true, RW]; exact k
theorem pw_mulr {r : Nat} {xs : List D} {k : Int} (e : h[r]? = some (.lst xs)) (l : k < 2 ^ 62 ∧ -(2 ^ 62) ≤ k ∧ xs.length * k.toNat ≤ sizeLine) (a : K (.ref h.length) (h ++ [.lst (List.replicate k.toNat xs).flatten])) : PW .mul [.ref r, .int k] h K X := by
  simp only [PW, evP, opMul, e, if_pos l, RW]; exact a
theorem pw_listr {r : Nat} {xs : List D} (e : h[r]? = some (.lst xs)) (a : K (.ref h.length) (h ++ [.lst xs])) : PW .list [.ref r] h K X := pw_list (x := .ref r) (by simp only [listOf, e]) a
theorem pw_tupr {r : Nat} {xs : List D} (e : h[r]? = some (.lst xs)) (a : K (.tup xs) h) : PW .tuple [.ref r] h K X := pw_tuple (x := .ref r) (by simp only [listOf, e]) a
theorem flat_rep1 {α : Type} (x : α) (n : Nat) : (List.replicate n [x]).flatten = List.replicate n x := by
  induction n with
  | zero => rfl
  | succ n ih => simp [List.replicate_succ, ih]
/-- the heap that only grew -/
theorem gd_app {g : Gd} {t : Hm} (e : gdOk g h = true) : gdOk g (h ++ t) = true := by
  unfold gdOk at e ⊢
  rw [List.all_eq_true] at e ⊢
  intro p hp
  have := e p hp
  split at this
  · rename_i xs hx; rw [get_app hx]; exact this
  · cases this
/-- a list made of whole numbers, each by itself -/
theorem rw_compI {g tg q t} {ns : List Int} (f : Int → D) (p : Int → Bool) (hg : gdOk g h = true) (l : ns.length ≤ sizeLine)
    (ia : ∀ n ∈ ns, ∀ u : Hm, ∃ ρ1, setT tg (.int n) ρ = some ρ1 ∧ EW c q ρ1 (h ++ u) (fun d h' => d = .bl (p n) ∧ h' = h ++ u) (fun _ _ => False) ∧ (p n = true → EW c t ρ1 (h ++ u) (fun d h' => d = f n ∧ h' = h ++ u) (fun _ _ => False)))
    (ie : K (.ref h.length) (h ++ [.lst ((ns.filter p).map f)])) : RW (compL g tg ρ (evE c q) (evE c t) h.length (ns.map .int) (h ++ [.lst []])) K X := by
  refine rw_comp (I := fun xs acc h' => ∃ a b : List Int, ns = a ++ b ∧ xs = b.map .int ∧ acc = (a.filter p).map f ∧ h' = h ++ [.lst acc]) [] ⟨[], ns, rfl, rfl, rfl, rfl⟩ ?_ ?_ ?_
  · rintro _ _ _ ⟨_, _, _, _, _, rfl⟩
    exact gd_app hg
  · rintro x r acc h' ⟨a, b, e, eb, ea, rfl⟩
    cases b with
    | nil => simp at eb
    | cons n b =>
      simp only [List.map_cons, List.cons.injEq] at eb
      obtain ⟨rfl, rfl⟩ := eb
      obtain ⟨ρ1, e1, e2, e3⟩ := ia n (by rw [e]; simp) [.lst acc]
      refine ⟨ρ1, e1, RW.mono e2 (fun d h2 z => ?_) fun _ _ z => z⟩
      obtain ⟨rfl, rfl⟩ := z
      cases hp : p n with
      | false =>
        exact tw_f ⟨a ++ [n], b, by simp [e], rfl, by rw [ea]; simp [List.filter_append, hp], rfl⟩
      | true =>
        refine tw_t (RW.mono (e3 hp) (fun d h2 z => ?_) fun _ _ z => z)
        obtain ⟨rfl, rfl⟩ := z
        have la : acc.length < sizeLine := by
          rw [ea, List.length_map]
          have := List.length_filter_le p a
          have : ns.length = a.length + (b.length + 1) := by rw [e]; simp
          omega
        refine ⟨get_new, la, a ++ [n], b, by simp [e], rfl, by rw [ea]; simp [List.filter_append, hp], by simp⟩
  · rintro acc h' ⟨a, b, e, eb, ea, rfl⟩
    have : b = [] := by simpa using eb.symm
    subst this
    rw [List.append_nil] at e
    subst e
    rw [ea]
    exact ie
end
/-- what stood, stands at the head -/
def Gr (h H : Hm) : Prop := ∃ t, H = h ++ t
theorem Gr.refl {h : Hm} : Gr h h := ⟨[], by simp⟩
theorem Gr.app {h t : Hm} : Gr h (h ++ t) := ⟨t, rfl⟩
theorem Gr.trans {h H H' : Hm} (a : Gr h H) (b : Gr H H') : Gr h H' := by
  obtain ⟨t, rfl⟩ := a
  obtain ⟨u, rfl⟩ := b
  exact ⟨t ++ u, by simp⟩
theorem Gr.get {h H : Hm} {r : Nat} {x : Cell} (a : Gr h H) (e : h[r]? = some x) : H[r]? = some x := by
  obtain ⟨t, rfl⟩ := a
  exact get_app e
theorem Gr.len {h H : Hm} (a : Gr h H) : h.length ≤ H.length := by
  obtain ⟨t, rfl⟩ := a
  simp
theorem Gr.set {h H : Hm} {r : Nat} {x : Cell} (a : Gr h H) (l : h.length ≤ r) : Gr h (H.set r x) := by
  obtain ⟨t, rfl⟩ := a
  exact ⟨t.set (r - h.length) x, List.set_append_right _ _ l⟩
theorem Gr.add {h H t : Hm} (a : Gr h H) : Gr h (H ++ t) := a.trans .app
theorem Gr.store {h H : Hm} {s : Nat} (a : Gr h H) (hs : StoreOk h s) : StoreOk H s := by
  obtain ⟨t, rfl⟩ := a
  exact hs.app
theorem Gr.fr {h H : Hm} {s : Nat} (a : Gr h H) : Fr s h H := by
  obtain ⟨t, rfl⟩ := a
  exact .app
theorem atD_zero {x : D} {r : List D} : atD (x :: r) 0 = some x := by
  rw [atD_pos (by simp) (by decide)]; rfl
theorem ixN_zero {n : Nat} : ixN (n + 1) 0 = some 0 := by
  unfold ixN
  rw [if_pos (by decide)]
  simp
/-! ### sorted -/
/-- rising numbers from low on, under top -/
def Up (top : Int) : Int → List Int → Prop
  | _, [] => True
  | low, t :: r => low ≤ t ∧ t < top ∧ Up top t r
theorem up_of {top : Int} : ∀ {l : List Int} {low : Int}, l.Pairwise (· ≤ ·) → (∀ t ∈ l, low ≤ t ∧ t < top) → Up top low l
  | [], _, _, _ => trivial
  | t :: r, low, h, b => ⟨(b t (by simp)).1, (b t (by simp)).2, up_of (List.pairwise_cons.mp h).2 fun u hu => ⟨(List.pairwise_cons.mp h).1 u hu, (b u (by simp [hu])).2⟩⟩
theorem up_all {top : Int} : ∀ {l : List Int} {low : Int}, Up top low l → ∀ t ∈ l, low ≤ t ∧ t < top
  | t :: r, low, h, u, hu => by
    rcases List.mem_cons.mp hu with rfl | hu
    · exact ⟨h.1, h.2.1⟩
    · have := up_all h.2.2 u hu
      exact ⟨Int.le_trans h.1 this.1, this.2⟩
end Z

set_option Elab.async false
set_option linter.all false
set_option maxRecDepth 100000
set_option maxHeartbeats 4000000
namespace Z
open PySem L2
/-! ### data of whole numbers: equal, less, least -/
section
variable {c : Cal} {w : Nat} {sub : Str → Str → Bool} {ρ : Env'} {h : Hm} {K : D → Hm → Prop} {X : Exn → Hm → Prop} {Q : O → Prop}
theorem toPs_ints (h : Hm) : ∀ {ns : List Int} {n : Nat}, ns.length + 1 < n → toPs h n (ns.map .int) = some (ns.map PyData.int)
  | [], n + 1, _ => rfl
  | a :: r, n + 2, l => by
    simp only [List.length_cons] at l
    simp only [List.map_cons, toPs, toP, toPs_ints h (ns := r) (n := n + 1) (by omega)]
  | [], 0, l => by omega
  | _ :: _, 0, l => by omega
  | _ :: _, 1, l => by simp at l
theorem toP_tup {ns : List Int} (l : ns.length ≤ 900) : toP h deepP (.tup (ns.map .int)) = some (pTup ns) := by
  show (toPs h 999 (ns.map .int)).map PyData.tuple = _
  rw [toPs_ints h (by omega)]
  rfl
theorem toP_ref {a : Nat} {ns : List Int} (e : h[a]? = some (.lst (ns.map .int))) (l : ns.length ≤ 900) : toP h deepP (.ref a) = some (.list (ns.map .int)) := by
  show (match h[a]? with | some (.lst xs) => (toPs h 999 xs).map PyData.list | _ => none) = _
  rw [e]
  show (toPs h 999 (ns.map .int)).map PyData.list = _
  rw [toPs_ints h (by omega)]
  rfl
theorem lay_ints : ∀ ns : List Int, PyData.canLayAll0 (ns.map .int) = true
  | [] => by simp [PyData.canLayAll0]
  | a :: r => by simp [PyData.canLayAll0, PyData.canLay0, lay_ints r]
theorem shaped_tup (ns : List Int) : SeqAt.shaped (pTup ns) = true := by
  unfold SeqAt.shaped pTup
  rw [PyData.canLay0, lay_ints, PyData.depth, PySem.W.depth_ints]
  rfl
theorem shaped_lst (ns : List Int) : SeqAt.shaped (.list (ns.map .int)) = true := by
  unfold SeqAt.shaped
  rw [PyData.canLay0, lay_ints, PyData.depth, PySem.W.depth_ints]
  rfl
theorem eqvAll_ints : ∀ as bs : List Int, PyData.eqvAll (as.map .int) (bs.map .int) = decide (as = bs)
  | [], [] => by simp [PyData.eqvAll]
  | [], _ :: _ => by simp [PyData.eqvAll]
  | _ :: _, [] => by simp [PyData.eqvAll]
  | a :: r, b :: s => by
    simp only [List.map_cons, PyData.eqvAll, PyData.eqv, eqvAll_ints r s]
    by_cases e : a = b
    · by_cases e2 : r = s
      · simp [e, e2]
      · simp [e, e2]
    · simp [e]
theorem eqv_tup (as bs : List Int) : PyData.eqv (pTup as) (pTup bs) = decide (as = bs) := by
  unfold pTup
  rw [PyData.eqv, eqvAll_ints]
theorem eqD_tup {as bs : List Int} (la : as.length ≤ 900) (lb : bs.length ≤ 900) : eqD (.tup (as.map .int)) (.tup (bs.map .int)) h = some (decide (as = bs)) := by
  unfold eqD
  rw [toP_tup la, toP_tup lb]
  simp only
  rw [if_pos ⟨shaped_tup _, shaped_tup _⟩, eqv_tup]
theorem eqD_ref {a b : Nat} {as bs : List Int} (ea : h[a]? = some (.lst (as.map .int))) (eb : h[b]? = some (.lst (bs.map .int))) (la : as.length ≤ 900) (lb : bs.length ≤ 900) : eqD (.ref a) (.ref b) h = some (decide (as = bs)) := by
  unfold eqD
  rw [toP_ref ea la, toP_ref eb lb]
  simp only
  rw [if_pos ⟨shaped_lst _, shaped_lst _⟩, PyData.eqv, eqvAll_ints]
theorem dataLt_tup (as bs : List Int) : PySem.W.dataLt (pTup as) (pTup bs) = decide (as < bs) := by
  unfold pTup
  rw [PySem.W.dataLt_tuple]
  exact PySem.W.dataLt_ints as bs
theorem dataLt_lst (as bs : List Int) : PySem.W.dataLt (.list (as.map .int)) (.list (bs.map .int)) = decide (as < bs) := by
  rw [PySem.W.dataLt_list]
  exact PySem.W.dataLt_ints as bs
theorem dOk_tup (as bs : List Int) : dOk (pTup as) (pTup bs) = true := by
  unfold dOk
  rw [alike_pTup]
  simp [dSome, pTup, PyData.depth, PySem.W.depth_ints]
theorem dOk_lst (as bs : List Int) : dOk (.list (as.map .int)) (.list (bs.map .int)) = true := by
  unfold dOk
  rw [PySem.W.alike, PySem.W.alike_ints]
  simp [dSome, PyData.depth, PySem.W.depth_ints]
theorem pw_ltT {as bs : List Int} (la : as.length ≤ 900) (lb : bs.length ≤ 900) (a : K (.bl (decide (as < bs))) h) : PW .lt [.tup (as.map .int), .tup (bs.map .int)] h K X := by
  have : opCmp (fun i j => decide (i < j)) qLt (.tup (as.map .int)) (.tup (bs.map .int)) h = .ok (.bl (decide (as < bs))) h := by
    unfold opCmp
    rw [toP_tup la, toP_tup lb]
    simp only
    rw [if_pos (dOk_tup _ _)]
    unfold qLt
    rw [dataLt_tup]
  exact rw_use this a
theorem pw_gtR {x y : Nat} {as bs : List Int} (ea : h[x]? = some (.lst (as.map .int))) (eb : h[y]? = some (.lst (bs.map .int))) (la : as.length ≤ 900) (lb : bs.length ≤ 900) (a : K (.bl (decide (bs < as))) h) : PW .gt [.ref x, .ref y] h K X := by
  have : opCmp (fun i j => decide (j < i)) qGt (.ref x) (.ref y) h = .ok (.bl (decide (bs < as))) h := by
    unfold opCmp
    rw [toP_ref ea la, toP_ref eb lb]
    simp only
    rw [if_pos (dOk_lst _ _)]
    unfold qGt
    rw [dataLt_lst]
  exact rw_use this a
theorem pw_max2R {x y : Nat} {as bs : List Int} (ea : h[x]? = some (.lst (as.map .int))) (eb : h[y]? = some (.lst (bs.map .int))) (la : as.length ≤ 900) (lb : bs.length ≤ 900) (a : K (if as < bs then .ref y else .ref x) h) : PW .max2 [.ref x, .ref y] h K X := by
  have al : alikeB [PyData.list (as.map .int), PyData.list (bs.map .int)] = true := by
    unfold alikeB
    simp [PySem.W.alike, PySem.W.alike_ints, dSome]
  have dp : PyData.depthAll [PyData.list (as.map .int), PyData.list (bs.map .int)] ≤ 60 := by
    simp [PyData.depthAll, PyData.depth, PySem.W.depth_ints]
  have : opMax2 (.ref x) (.ref y) h = .ok (if as < bs then .ref y else .ref x) h := by
    unfold opMax2
    rw [toP_ref ea la, toP_ref eb lb]
    simp only
    rw [if_pos ⟨al, dp⟩, dataLt_lst]
    by_cases z : as < bs
    · rw [if_pos z, if_pos (by simpa using z)]
    · rw [if_neg z, if_neg (by simpa using z)]
  exact rw_use this a
theorem tupsOf_map : ∀ l : List (List Int), tupsOf (l.map fun ns => D.tup (ns.map .int)) = some l
  | [] => rfl
  | ns :: r => by simp only [List.map_cons, tupsOf, intsOf_map, tupsOf_map r]
theorem intsOf_tup {ns : List Int} {r : List D} : intsOf (.tup (ns.map .int) :: r) = none := rfl
theorem pw_minT {x : Nat} {a : List Int} {l : List (List Int)} (e : h[x]? = some (.lst ((a :: l).map fun ns => D.tup (ns.map .int)))) (k : K (.tup ((minT a l).map .int)) h) : PW .minl [.ref x] h K X := by
  have : opMinl (.ref x) h = .ok (.tup ((minT a l).map .int)) h := by
    unfold opMinl
    have e1 : listOf h (.ref x) = some ((a :: l).map fun ns => D.tup (ns.map .int)) := by simp only [listOf, e]
    have e2 : lstOf h (.ref x) = some ((a :: l).map fun ns => D.tup (ns.map .int)) := e1
    rw [e1, e2]
    simp only [Option.bind]
    rw [List.map_cons, intsOf_tup]
    simp only
    rw [← List.map_cons (f := fun ns : List Int => D.tup (ns.map .int)), tupsOf_map]
  exact rw_use this k
theorem minT_ok : ∀ (l : List (List Int)) (x : List Int), minT x l ∈ x :: l ∧ ∀ y ∈ x :: l, ¬ y < minT x l
  | [], x => ⟨by simp [minT], fun y hy => by
      simp only [List.mem_cons, List.not_mem_nil, or_false] at hy
      subst hy
      exact List.lt_irrefl _⟩
  | z :: r, x => by
    have e : minT x (z :: r) = minT (if z < x then z else x) r := by
      unfold minT
      rw [List.foldl_cons]
      congr 1
      rw [dataLt_tup]
      simp
    obtain ⟨h1, h2⟩ := minT_ok r (if z < x then z else x)
    rw [e]
    refine ⟨?_, fun y hy => ?_⟩
    · rcases List.mem_cons.mp h1 with h1 | h1
      · rw [h1]
        split
        · simp
        · simp
      · simp [h1]
    · by_cases zx : z < x
      · rw [if_pos zx] at h2 ⊢
        rcases List.mem_cons.mp hy with rfl | hy
        · intro q
          exact h2 z (by simp) (List.lt_trans zx q)
        · exact h2 y hy
      · rw [if_neg zx] at h2 ⊢
        rcases List.mem_cons.mp hy with rfl | hy
        · exact h2 y (by simp)
        · rcases List.mem_cons.mp hy with rfl | hy
          · intro q
            have h3 := h2 x (by simp)
            have l1 := List.not_lt.mp zx
            have l2 := List.not_lt.mp h3
            exact absurd q (List.not_lt.mpr (List.le_trans l2 l1))
          · exact h2 y (by simp [hy])
theorem toPs_tups (h : Hm) : ∀ {l : List (List Int)} {n : Nat}, (∀ a ∈ l, a.length ≤ 40) → l.length + 100 < n → toPs h n (l.map fun ns => D.tup (ns.map .int)) = some (l.map pTup)
  | [], n + 1, _, _ => rfl
  | a :: r, n + 2, ha, l => by
    simp only [List.length_cons] at l
    have e : toP h (n + 1) (.tup (a.map .int)) = some (pTup a) := by
      show (toPs h n (a.map .int)).map PyData.tuple = _
      rw [toPs_ints h (by have := ha a (by simp); omega)]
      rfl
    simp only [List.map_cons, toPs, e, toPs_tups h (l := r) (n := n + 1) (fun b hb => ha b (by simp [hb])) (by omega)]
  | [], 0, _, l => by omega
  | _ :: _, 0, _, l => by omega
  | _ :: _, 1, _, l => by simp at l
theorem lay_tups : ∀ l : List (List Int), PyData.canLayAll0 (l.map pTup) = true
  | [] => by simp [PyData.canLayAll0]
  | a :: r => by simp [PyData.canLayAll0, PyData.canLay0, pTup, lay_ints a, lay_tups r]
theorem pw_indexT {x j : Nat} {l : List (List Int)} {m : List Int} (e : h[x]? = some (.lst (l.map fun ns => D.tup (ns.map .int)))) (ha : ∀ a ∈ l, a.length ≤ 40) (hl : l.length ≤ 800) (lm : m.length ≤ 40) (jl : l[j]? = some m) (jf : ∀ i, i < j → l[i]? ≠ some m) (k : K (.int j) h) : PW .index [.ref x, .tup (m.map .int)] h K X := by
  have jj : j < l.length := (List.getElem?_eq_some_iff.mp jl).1
  have : opIndex (.ref x) (.tup (m.map .int)) h = .ok (.int j) h := by
    unfold opIndex
    have e2 : lstOf h (.ref x) = some (l.map fun ns => D.tup (ns.map .int)) := by simp only [lstOf, listOf, e]
    rw [e2]
    simp only
    rw [toPs_tups h ha (by show l.length + 100 < 999; omega), toP_tup (by omega)]
    simp only
    have sh : SeqAt.shaped (.list (l.map pTup)) = true := by
      unfold SeqAt.shaped
      rw [PyData.canLay0, lay_tups, PyData.depth]
      have := depth_tups l
      simp
      omega
    rw [if_pos ⟨sh, shaped_tup _⟩]
    have : (l.map pTup).findIdx? (fun z => PyData.eqv z (pTup m)) = some j := by
      rw [List.findIdx?_eq_some_iff_getElem]
      refine ⟨by simpa using jj, ?_, fun i hi => ?_⟩
      · rw [List.getElem_map, eqv_tup]
        have := (List.getElem?_eq_some_iff.mp jl).2
        simpa using this
      · have il : i < l.length := by omega
        have := jf i hi
        rw [List.getElem?_eq_getElem il] at this
        rw [List.getElem_map, eqv_tup]
        simpa using this
    rw [this]
  exact rw_use this k
/-- a list made of things, the heap growing -/
theorem rw_compG {α : Type} {g tg q t} {ns : List α} (g' f : α → D) (p : α → Bool) (hg : gdOk g h = true) (l : ns.length ≤ sizeLine)
    (ia : ∀ n ∈ ns, ∀ H, Gr h H → ∃ ρ1, setT tg (g' n) ρ = some ρ1 ∧ EW c q ρ1 H (fun d H' => d = .bl (p n) ∧ Gr H H') (fun _ _ => False) ∧ (p n = true → ∀ H', Gr H H' → EW c t ρ1 H' (fun d H2 => d = f n ∧ Gr H' H2) (fun _ _ => False)))
    (ie : ∀ H, Gr h H → H[h.length]? = some (.lst ((ns.filter p).map f)) → K (.ref h.length) H) : RW (compL g tg ρ (evE c q) (evE c t) h.length (ns.map g') (h ++ [.lst []])) K X := by
  refine rw_comp (I := fun xs acc h' => ∃ a b : List α, ns = a ++ b ∧ xs = b.map g' ∧ acc = (a.filter p).map f ∧ Gr h h' ∧ h'[h.length]? = some (.lst acc)) [] ⟨[], ns, rfl, rfl, rfl, .app, get_new⟩ ?_ ?_ ?_
  · rintro _ _ _ ⟨_, _, _, _, _, gr, _⟩
    obtain ⟨u, rfl⟩ := gr
    exact gd_app hg
  · rintro x r acc h' ⟨a, b, e, eb, ea, gr, eh⟩
    cases b with
    | nil => simp at eb
    | cons n b =>
      simp only [List.map_cons, List.cons.injEq] at eb
      obtain ⟨rfl, rfl⟩ := eb
      obtain ⟨ρ1, e1, e2, e3⟩ := ia n (by rw [e]; simp) h' gr
      refine ⟨ρ1, e1, RW.mono e2 (fun d h2 z => ?_) fun _ _ z => z⟩
      obtain ⟨rfl, g2⟩ := z
      cases hp : p n with
      | false =>
        exact tw_f ⟨a ++ [n], b, by simp [e], rfl, by rw [ea]; simp [List.filter_append, hp], gr.trans g2, g2.get eh⟩
      | true =>
        refine tw_t (RW.mono (e3 hp h2 g2) (fun d h3 z => ?_) fun _ _ z => z)
        obtain ⟨rfl, g3⟩ := z
        have la : acc.length < sizeLine := by
          rw [ea, List.length_map]
          have := List.length_filter_le p a
          have : ns.length = a.length + (b.length + 1) := by rw [e]; simp
          omega
        have e4 := g3.get (g2.get eh)
        exact ⟨e4, la, a ++ [n], b, by simp [e], rfl, by rw [ea]; simp [List.filter_append, hp], ((gr.trans g2).trans g3).set (Nat.le_refl _), get_set e4⟩
  · rintro acc h' ⟨a, b, e, eb, ea, gr, eh⟩
    have : b = [] := by simpa using eb.symm
    subst this
    rw [List.append_nil] at e
    subst e
    rw [ea] at eh
    exact ie h' gr eh
theorem range_nat (n : Nat) : rangeD 0 1 n = (List.range n).map fun (k : Nat) => D.int k := by
  unfold rangeD
  apply List.map_congr_left
  intro a _
  congr 1
  omega
end
end Z

section
open PySem L2 Z
local macro_rules | `(tactic| walk_at "zs") => `(tactic| (first | assumption | decide | omega | exact rfl | (simp only [List.length_cons, List.length_nil]; omega)))
local macro_rules | `(tactic| walk_at "zh") => `(tactic| (first | assumption | exact get_set (by walk_at "zh") | exact get_set_ne (by first | assumption | omega) (by walk_at "zh") | exact get_new | exact get_app (by walk_at "zh")))
local macro_rules | `(tactic| walk_at "z1") => `(tactic| (first | (with_reducible show Z.EW _ _ _ _ _ _; first | (with_reducible first | refine ew_prim ?_ | refine ew_lit ?_ | refine ew_call ?_ | refine ew_not ?_ | refine ew_and ?_ | refine ew_or ?_ | refine ew_chain ?_ | refine ew_ite ?_ | refine ew_tup ?_ | refine ew_lst ?_ | refine ew_meth ?_ | refine ew_callD ?_) | refine ew_var rfl ?_ | refine ew_xist rfl (by decide +kernel) ?_ | refine ew_xisf rfl (by decide +kernel) ?_) | (with_reducible show Z.LW _ _ _ _ _ _; with_reducible first | refine lw_cons ?_ | refine lw_nil ?_ | refine lw_app ?_) | (with_reducible show Z.SW _ _ _ _ _ _ _; first | (with_reducible first | refine sw_seq ?_ | refine sw_ite ?_ | refine sw_ret ?_ | refine sw_set ?_ | refine sw_sett ?_ | refine sw_expr ?_ | refine sw_skip ?_ | refine sw_setix ?_ | refine sw_augix ?_ | refine sw_brk ?_ | refine sw_cont ?_ | refine sw_retn ?_ | refine sw_raise ?_ | refine sw_try ?_ | refine sw_loop ?_) | refine sw_aug rfl ?_) | (with_reducible show Z.PW _ _ _ _ _; first | (with_reducible first | refine pw_add ?_ | refine pw_sub ?_ | refine pw_eq ?_ | refine pw_ne ?_ | refine pw_lt ?_ | refine pw_le ?_ | refine pw_gt ?_ | refine pw_ge ?_ | refine pw_neg ?_ | refine pw_abs ?_ | refine pw_int ?_ | refine pw_max2 ?_ | refine pw_min2 ?_ | refine pw_lent ?_ | refine pw_eqbl ?_ | refine pw_nebl ?_ | refine pw_mod (by walk_at "zs") ?_ | refine pw_fdiv (by walk_at "zs") (by walk_at "zs") ?_ | refine pw_mul1 (by walk_at "zs") (by walk_at "zs") ?_ | refine pw_mul2 (by walk_at "zs") (by walk_at "zs") ?_ | (show Z.PW .len [.ref _] _ _ _; refine pw_lenr (by walk_at "zh") ?_) | (show Z.PW .append [.ref _, _] _ _ _; refine pw_append (by walk_at "zh") (by walk_at "zs") ?_)) | refine pw_pow (by decide) ?_ | refine pw_part (by decide) ?_ | (with_reducible show Z.PW .is _ _ _ _; refine pw_is rfl ?_) | (with_reducible show Z.PW .isint _ _ _ _; refine pw_isint rfl ?_) | (with_reducible show Z.PW .isbool _ _ _ _; refine pw_isbool rfl ?_) | (with_reducible show Z.PW .isstr _ _ _ _; refine pw_isstr rfl ?_) | (with_reducible show Z.PW .istup _ _ _ _; refine pw_istup rfl ?_) | (with_reducible show Z.PW .islist _ _ _ _; refine pw_islist rfl ?_) | (with_reducible show Z.PW .isseq _ _ _ _; refine pw_isseq rfl ?_) | (with_reducible show Z.PW .slice [.tup _, _, _] _ _ _; refine pw_slicet rfl rfl ?_) | (with_reducible show Z.PW .idx [.tup _, _] _ _ _; refine pw_idxt rfl ?_) | (with_reducible show Z.PW .idx [.ref _, _] _ _ _; refine pw_idxr (by walk_at "zh") rfl ?_)) | (with_reducible first | refine sq_nx ?_ | refine sq_rt ?_ | refine sq_ex ?_ | refine sq_bk ?_ | refine sq_ct ?_ | refine eq_nx ?_ | refine eq_rt ?_ | refine eq_ex ?_ | refine hq_rt ?_ | refine hq_nx ?_ | refine hq_bk ?_ | refine hq_ct ?_ | refine xq_rt ?_ | refine xq_nx ?_ | refine rd_rt ?_ | refine rd_ex ?_ | refine rd_bk ?_ | refine cq_rt ?_ | refine cq_ex ?_ | refine nw_dec ?_ | refine nw_t ?_ | refine nw_f ?_ | refine nw_b ?_ | refine tw_not ?_ | refine tw_t ?_ | refine tw_f ?_ | refine aw_t ?_ | refine aw_f ?_ | refine ow_t ?_ | refine ow_f ?_ | refine rw_augadd ?_ | refine rw_augsub ?_) | (with_reducible show recvOk _ (.tup _) _ = true ∧ _; refine And.intro rfl ?_) | (with_reducible show recvOk _ (.ref _) _ = true ∧ _; refine And.intro (recv_r (by walk_at "zh")) ?_) | (with_reducible show List.length _ = List.length _ ∧ _; refine And.intro rfl ?_) | (with_reducible show List.length _ ≤ sizeLine ∧ _; with_reducible refine And.intro (le_size (by simp only [List.length_cons, List.length_nil]; omega)) ?_) | (with_reducible show Z.RW (Z.opSetix _ _ _ _) _ _; refine rw_setix (by walk_at "zh") rfl ?_) | (with_reducible show Z.RW (Z.opGet _ _ _) _ _; refine rw_get (by walk_at "zh") rfl ?_)))
local macro_rules | `(tactic| walk_at "z2") => `(tactic| (with_reducible first | refine tw_pos (by walk_at "zs") ?_ | refine tw_neg (by walk_at "zs") ?_ | refine aw_pos (by walk_at "zs") ?_ | refine aw_neg (by walk_at "zs") ?_ | refine ow_pos (by walk_at "zs") ?_ | refine ow_neg (by walk_at "zs") ?_ | refine bw_pos (by walk_at "zs") ?_ | refine bw_neg (by walk_at "zs") ?_))
local macro_rules | `(tactic| walk_at "zz") => `(tactic| (repeat (first | walk_at "z1" | walk_at "z2")))

set_option maxRecDepth 100000
namespace K06
open PySem Z
/-- check_ring: ring -/
abbrev i_check_ring : Nat := 0
def b_check_ring : S := (.seq (.ite (.not (.chain .le .le (.lit (.int 1)) (.var 0) (.lit (.int 48)))) (.raise (Str.ofString "RingError") [] .nil) .skip) (.ret (.var 0)))
def f_check_ring : Fn := ⟨1, 1, b_check_ring⟩
/-- check_chord: ring chord low tone -/
abbrev i_check_chord : Nat := 1
def b_check_chord : S := (.seq (.expr (.call 0 (.cons (.var 0) .nil))) (.seq (.ite (.not (.chain .le .le (.lit (.int 1)) (.prim .len (.cons (.var 1) .nil)) (.lit (.int 8)))) (.raise (Str.ofString "ShapeError") [] .nil) .skip) (.seq (.set (.name 2) (.lit (.int 0))) (.seq (.loop .plain (.cons (.var 1) .nil) (.name 3) (.seq (.ite (.not (.chain .le .lt (.var 2) (.var 3) (.var 0))) (.raise (Str.ofString "ShapeError") [] .nil) .skip) (.set (.name 2) (.var 3)))) (.ret (.var 1))))))
def f_check_chord : Fn := ⟨2, 4, b_check_chord⟩
/-- sorted_tones: ring pitches pitch -/
abbrev i_sorted_tones : Nat := 2
def b_sorted_tones : S := (.ret (.prim .tuple (.cons (.prim .sorted (.cons (.comp [2] .plain (.cons (.var 1) .nil) (.name 2) (.lit (.bl true)) (.prim .mod (.cons (.var 2) (.cons (.var 0) .nil)))) .nil)) .nil)))
def f_sorted_tones : Fn := ⟨2, 3, b_sorted_tones⟩
/-- mirror_chord: ring chord axis tone -/
abbrev i_mirror_chord : Nat := 3
def b_mirror_chord : S := (.seq (.expr (.call 1 (.cons (.var 0) (.cons (.var 1) .nil)))) (.ret (.call 2 (.cons (.var 0) (.cons (.comp [3] .plain (.cons (.var 1) .nil) (.name 3) (.lit (.bl true)) (.prim .sub (.cons (.var 2) (.cons (.var 3) .nil)))) .nil)))))
def f_mirror_chord : Fn := ⟨3, 4, b_mirror_chord⟩
/-- transposed_rows: ring chord by tone -/
abbrev i_transposed_rows : Nat := 4
def b_transposed_rows : S := (.ret (.comp [2] .range1 (.cons (.var 0) .nil) (.name 2) (.lit (.bl true)) (.call 2 (.cons (.var 0) (.cons (.comp [3] .plain (.cons (.var 1) .nil) (.name 3) (.lit (.bl true)) (.prim .add (.cons (.var 3) (.cons (.var 2) .nil)))) .nil)))))
def f_transposed_rows : Fn := ⟨2, 4, b_transposed_rows⟩
/-- least_form: ring chord rows form -/
abbrev i_least_form : Nat := 5
def b_least_form : S := (.seq (.expr (.call 1 (.cons (.var 0) (.cons (.var 1) .nil)))) (.seq (.set (.name 2) (.call 4 (.cons (.var 0) (.cons (.var 1) .nil)))) (.seq (.set (.name 3) (.prim .minl (.cons (.var 2) .nil))) (.ret (.tup (.cons (.var 3) (.cons (.meth .index (.var 2) (.cons (.var 3) .nil)) .nil)))))))
def f_least_form : Fn := ⟨2, 4, b_least_form⟩
/-- least_both: ring chord straight mirrored -/
abbrev i_least_both : Nat := 6
def b_least_both : S := (.seq (.set (.name 2) (.prim .idx (.cons (.call 5 (.cons (.var 0) (.cons (.var 1) .nil))) (.cons (.lit (.int 0)) .nil)))) (.seq (.set (.name 3) (.prim .idx (.cons (.call 5 (.cons (.var 0) (.cons (.callD 3 (.cons (.var 0) (.cons (.var 1) .nil)) [(.int 0)]) .nil))) (.cons (.lit (.int 0)) .nil)))) (.seq (.ite (.prim .lt (.cons (.var 3) (.cons (.var 2) .nil))) (.ret (.var 3)) .skip) (.ret (.var 2)))))
def f_least_both : Fn := ⟨2, 4, b_least_both⟩
/-- fold_count: ring chord row -/
abbrev i_fold_count : Nat := 7
def b_fold_count : S := (.seq (.expr (.call 1 (.cons (.var 0) (.cons (.var 1) .nil)))) (.ret (.prim .len (.cons (.comp [2] .plain (.cons (.call 4 (.cons (.var 0) (.cons (.var 1) .nil))) .nil) (.name 2) (.prim .eq (.cons (.var 2) (.cons (.var 1) .nil))) (.var 2)) .nil))))
def f_fold_count : Fn := ⟨2, 3, b_fold_count⟩
/-- _law_store: script cell -/
abbrev i_law_store : Nat := 8
def b_law_store : S := (.ret (.lst (.cons (.comp [1] .plain (.cons (.prim .slice (.cons (.var 0) (.cons (.lit .non) (.cons (.prim .part (.cons (.lit (.int 63)) .nil)) .nil)))) .nil) (.name 1) (.lit (.bl true)) (.prim .int (.cons (.var 1) .nil))) (.cons (.lit (.int 0)) (.cons (.lit (.int 0)) (.cons (.lit (.int 0)) (.cons (.lit (.int 1)) .nil)))))))
def f_law_store : Fn := ⟨1, 2, b_law_store⟩
/-- _law_take: store many half cell drawn -/
abbrev i_law_take : Nat := 9
def b_law_take : S := (.seq (.ite (.prim .lt (.cons (.var 1) (.cons (.lit (.int 2)) .nil))) (.ret (.lit (.int 0))) .skip) (.seq (.ite (.and (.prim .eq (.cons (.prim .idx (.cons (.var 0) (.cons (.lit (.int 2)) .nil))) (.cons (.lit (.int 0)) .nil))) (.and (.prim .eq (.cons (.prim .idx (.cons (.var 0) (.cons (.lit (.int 3)) .nil))) (.cons (.lit (.int 0)) .nil))) (.prim .lt (.cons (.prim .idx (.cons (.var 0) (.cons (.lit (.int 1)) .nil))) (.cons (.prim .len (.cons (.prim .idx (.cons (.var 0) (.cons (.lit (.int 0)) .nil))) .nil)) .nil))))) (.seq (.set (.name 3) (.prim .int (.cons (.prim .idx (.cons (.prim .idx (.cons (.var 0) (.cons (.lit (.int 0)) .nil))) (.cons (.prim .idx (.cons (.var 0) (.cons (.lit (.int 1)) .nil))) .nil))) .nil))) (.seq (.augix .add (.var 0) (.lit (.int 1)) (.lit (.int 1))) (.seq (.setix (.var 0) (.lit (.int 4)) (.prim .mod (.cons (.prim .int (.cons (.prim .mul (.cons (.prim .add (.cons (.prim .add (.cons (.prim .idx (.cons (.var 0) (.cons (.lit (.int 4)) .nil))) (.cons (.prim .mul (.cons (.lit (.int 2)) (.cons (.var 3) .nil))) .nil))) (.cons (.lit (.int 1)) .nil))) (.cons (.lit (.int 6364136223846793005)) .nil))) .nil)) (.cons (.lit (.int 18446744073709551616)) .nil)))) (.ite (.prim .ge (.cons (.prim .abs (.cons (.var 3) .nil)) (.cons (.prim .pow (.cons (.lit (.int 10)) (.cons (.lit (.int 18)) .nil))) .nil))) (.setix (.var 0) (.lit (.int 2)) (.prim .abs (.cons (.var 3) .nil))) (.setix (.var 0) (.lit (.int 3)) (.lit (.int 3))))))) .skip) (.seq (.ite (.prim .gt (.cons (.prim .idx (.cons (.var 0) (.cons (.lit (.int 2)) .nil))) (.cons (.lit (.int 0)) .nil))) (.seq (.set (.name 4) (.prim .mod (.cons (.prim .int (.cons (.prim .idx (.cons (.var 0) (.cons (.lit (.int 2)) .nil))) .nil)) (.cons (.var 1) .nil)))) (.seq (.setix (.var 0) (.lit (.int 2)) (.prim .fdiv (.cons (.prim .int (.cons (.prim .idx (.cons (.var 0) (.cons (.lit (.int 2)) .nil))) .nil)) (.cons (.var 1) .nil)))) (.ret (.var 4)))) .skip) (.seq (.setix (.var 0) (.lit (.int 3)) (.prim .max2 (.cons (.lit (.int 0)) (.cons (.prim .sub (.cons (.prim .idx (.cons (.var 0) (.cons (.lit (.int 3)) .nil))) (.cons (.lit (.int 1)) .nil))) .nil)))) (.seq (.setix (.var 0) (.lit (.int 4)) (.prim .mod (.cons (.prim .int (.cons (.prim .add (.cons (.prim .mul (.cons (.prim .idx (.cons (.var 0) (.cons (.lit (.int 4)) .nil))) (.cons (.lit (.int 6364136223846793005)) .nil))) (.cons (.lit (.int 1442695040888963407)) .nil))) .nil)) (.cons (.lit (.int 18446744073709551616)) .nil)))) (.seq (.set (.name 2) (.prim .fdiv (.cons (.prim .int (.cons (.prim .idx (.cons (.var 0) (.cons (.lit (.int 4)) .nil))) .nil)) (.cons (.lit (.int 4294967296)) .nil)))) (.ret (.prim .mod (.cons (.prim .int (.cons (.prim .fdiv (.cons (.prim .add (.cons (.prim .mul (.cons (.var 2) (.cons (.var 2) .nil))) (.cons (.prim .idx (.cons (.var 0) (.cons (.lit (.int 4)) .nil))) .nil))) (.cons (.lit (.int 131072)) .nil))) .nil)) (.cons (.var 1) .nil))))))))))
def f_law_take : Fn := ⟨2, 5, b_law_take⟩
/-- _law_odds: store part whole -/
abbrev i_law_odds : Nat := 10
def b_law_odds : S := (.ret (.prim .lt (.cons (.call 9 (.cons (.var 0) (.cons (.var 2) .nil))) (.cons (.var 1) .nil))))
def f_law_odds : Fn := ⟨3, 3, b_law_odds⟩
/-- _law_span: store least greatest -/
abbrev i_law_span : Nat := 11
def b_law_span : S := (.ret (.prim .add (.cons (.var 1) (.cons (.call 9 (.cons (.var 0) (.cons (.prim .add (.cons (.prim .sub (.cons (.var 2) (.cons (.var 1) .nil))) (.cons (.lit (.int 1)) .nil))) .nil))) .nil))))
def f_law_span : Fn := ⟨3, 3, b_law_span⟩
/-- _law_near: store least greatest kind -/
abbrev i_law_near : Nat := 12
def b_law_near : S := (.seq (.ite (.prim .le (.cons (.var 2) (.cons (.var 1) .nil))) (.ret (.var 1)) .skip) (.seq (.set (.name 3) (.call 9 (.cons (.var 0) (.cons (.lit (.int 9)) .nil)))) (.seq (.ite (.prim .eq (.cons (.var 3) (.cons (.lit (.int 0)) .nil))) (.ret (.var 1)) .skip) (.seq (.ite (.prim .eq (.cons (.var 3) (.cons (.lit (.int 1)) .nil))) (.ret (.var 2)) .skip) (.seq (.ite (.prim .eq (.cons (.var 3) (.cons (.lit (.int 2)) .nil))) (.ret (.prim .add (.cons (.var 1) (.cons (.lit (.int 1)) .nil)))) .skip) (.seq (.ite (.prim .eq (.cons (.var 3) (.cons (.lit (.int 3)) .nil))) (.ret (.prim .sub (.cons (.var 2) (.cons (.lit (.int 1)) .nil)))) .skip) (.ret (.call 11 (.cons (.var 0) (.cons (.var 1) (.cons (.var 2) .nil)))))))))))
def f_law_near : Fn := ⟨3, 4, b_law_near⟩
/-- _law_pick: store things -/
abbrev i_law_pick : Nat := 13
def b_law_pick : S := (.ret (.prim .idx (.cons (.var 1) (.cons (.call 9 (.cons (.var 0) (.cons (.prim .len (.cons (.var 1) .nil)) .nil))) .nil))))
def f_law_pick : Fn := ⟨2, 2, b_law_pick⟩
/-- _law_is_whole: x -/
abbrev i_law_is_whole : Nat := 14
def b_law_is_whole : S := (.ret (.and (.prim .isint (.cons (.var 0) .nil)) (.not (.prim .isbool (.cons (.var 0) .nil)))))
def f_law_is_whole : Fn := ⟨1, 1, b_law_is_whole⟩
/-- _law_same: told due k -/
abbrev i_law_same : Nat := 15
def b_law_same : S := (.seq (.ite (.prim .is (.cons (.var 1) (.cons (.lit .non) .nil))) (.ret (.prim .is (.cons (.var 0) (.cons (.lit .non) .nil)))) .skip) (.seq (.ite (.prim .is (.cons (.var 1) (.cons (.lit (.bl true)) .nil))) (.ret (.prim .is (.cons (.var 0) (.cons (.lit (.bl true)) .nil)))) .skip) (.seq (.ite (.prim .is (.cons (.var 1) (.cons (.lit (.bl false)) .nil))) (.ret (.prim .is (.cons (.var 0) (.cons (.lit (.bl false)) .nil)))) .skip) (.seq (.ite (.prim .isint (.cons (.var 1) .nil)) (.ret (.and (.call 14 (.cons (.var 0) .nil)) (.prim .eq (.cons (.var 0) (.cons (.var 1) .nil))))) .skip) (.seq (.ite (.prim .isstr (.cons (.var 1) .nil)) (.ret (.and (.prim .isstr (.cons (.var 0) .nil)) (.prim .eq (.cons (.var 0) (.cons (.var 1) .nil))))) .skip) (.seq (.ite (.or (.prim .ne (.cons (.prim .islist (.cons (.var 1) .nil)) (.cons (.prim .islist (.cons (.var 0) .nil)) .nil))) (.prim .ne (.cons (.prim .istup (.cons (.var 1) .nil)) (.cons (.prim .istup (.cons (.var 0) .nil)) .nil)))) (.ret (.lit (.bl false))) .skip) (.seq (.ite (.or (.not (.prim .isseq (.cons (.var 1) .nil))) (.prim .ne (.cons (.prim .len (.cons (.var 0) .nil)) (.cons (.prim .len (.cons (.var 1) .nil)) .nil)))) (.ret (.lit (.bl false))) .skip) (.seq (.loop .range1 (.cons (.prim .len (.cons (.var 1) .nil)) .nil) (.name 2) (.ite (.not (.call 15 (.cons (.prim .idx (.cons (.var 0) (.cons (.var 2) .nil))) (.cons (.prim .idx (.cons (.var 1) (.cons (.var 2) .nil))) .nil)))) (.ret (.lit (.bl false))) .skip)) (.ret (.lit (.bl true)))))))))))
def f_law_same : Fn := ⟨2, 3, b_law_same⟩
/-- _law_ring: store greatest kind -/
abbrev i_law_ring : Nat := 16
def b_law_ring : S := (.seq (.set (.name 2) (.call 9 (.cons (.var 0) (.cons (.lit (.int 8)) .nil)))) (.seq (.ite (.prim .eq (.cons (.var 2) (.cons (.lit (.int 0)) .nil))) (.ret (.lit (.int 1))) .skip) (.seq (.ite (.prim .eq (.cons (.var 2) (.cons (.lit (.int 1)) .nil))) (.ret (.var 1)) .skip) (.seq (.ite (.prim .eq (.cons (.var 2) (.cons (.lit (.int 2)) .nil))) (.ret (.prim .min2 (.cons (.lit (.int 2)) (.cons (.var 1) .nil)))) .skip) (.seq (.ite (.prim .lt (.cons (.var 2) (.cons (.lit (.int 5)) .nil))) (.ret (.prim .min2 (.cons (.lit (.int 12)) (.cons (.var 1) .nil)))) .skip) (.ret (.call 11 (.cons (.var 0) (.cons (.lit (.int 1)) (.cons (.var 1) .nil))))))))))
def f_law_ring : Fn := ⟨2, 3, b_law_ring⟩
/-- _law_bad_ring: store kind -/
abbrev i_law_bad_ring : Nat := 17
def b_law_bad_ring : S := (.seq (.set (.name 1) (.call 9 (.cons (.var 0) (.cons (.lit (.int 6)) .nil)))) (.seq (.ite (.prim .eq (.cons (.var 1) (.cons (.lit (.int 0)) .nil))) (.ret (.lit (.int 0))) .skip) (.seq (.ite (.prim .eq (.cons (.var 1) (.cons (.lit (.int 1)) .nil))) (.ret (.lit (.int 49))) .skip) (.seq (.ite (.prim .eq (.cons (.var 1) (.cons (.lit (.int 2)) .nil))) (.ret (.prim .sub (.cons (.prim .neg (.cons (.lit (.int 1)) .nil)) (.cons (.call 9 (.cons (.var 0) (.cons (.lit (.int 50)) .nil))) .nil)))) .skip) (.seq (.ite (.prim .eq (.cons (.var 1) (.cons (.lit (.int 3)) .nil))) (.ret (.prim .add (.cons (.lit (.int 50)) (.cons (.call 9 (.cons (.var 0) (.cons (.lit (.int 1000)) .nil))) .nil)))) .skip) (.seq (.ite (.prim .eq (.cons (.var 1) (.cons (.lit (.int 4)) .nil))) (.ret (.prim .sub (.cons (.prim .pow (.cons (.lit (.int 10)) (.cons (.lit (.int 30)) .nil))) (.cons (.lit (.int 1)) .nil)))) .skip) (.ret (.prim .sub (.cons (.lit (.int 1)) (.cons (.prim .pow (.cons (.lit (.int 10)) (.cons (.lit (.int 30)) .nil))) .nil))))))))))
def f_law_bad_ring : Fn := ⟨1, 2, b_law_bad_ring⟩
/-- _law_chord: store ring many kind tones k -/
abbrev i_law_chord : Nat := 18
def b_law_chord : S := (.seq (.set (.name 3) (.call 9 (.cons (.var 0) (.cons (.lit (.int 6)) .nil)))) (.seq (.set (.name 4) (.lst .nil)) (.seq (.loop .range1 (.cons (.var 2) .nil) (.name 5) (.ite (.and (.prim .eq (.cons (.var 3) (.cons (.lit (.int 0)) .nil))) (.prim .gt (.cons (.var 5) (.cons (.lit (.int 0)) .nil)))) (.expr (.meth .append (.var 4) (.cons (.prim .idx (.cons (.var 4) (.cons (.lit (.int 0)) .nil))) .nil))) (.ite (.prim .eq (.cons (.var 3) (.cons (.lit (.int 1)) .nil))) (.expr (.meth .append (.var 4) (.cons (.prim .mul (.cons (.prim .sub (.cons (.var 1) (.cons (.lit (.int 1)) .nil))) (.cons (.call 9 (.cons (.var 0) (.cons (.lit (.int 2)) .nil))) .nil))) .nil))) (.ite (.prim .eq (.cons (.var 3) (.cons (.lit (.int 2)) .nil))) (.expr (.meth .append (.var 4) (.cons (.prim .mod (.cons (.prim .int (.cons (.prim .add (.cons (.prim .fdiv (.cons (.prim .mul (.cons (.var 5) (.cons (.var 1) .nil))) (.cons (.var 2) .nil))) (.cons (.call 9 (.cons (.var 0) (.cons (.lit (.int 2)) .nil))) .nil))) .nil)) (.cons (.var 1) .nil))) .nil))) (.expr (.meth .append (.var 4) (.cons (.call 9 (.cons (.var 0) (.cons (.var 1) .nil))) .nil))))))) (.ret (.prim .tuple (.cons (.prim .sorted (.cons (.var 4) .nil)) .nil))))))
def f_law_chord : Fn := ⟨3, 6, b_law_chord⟩
/-- _law_bad_chord: store ring many kind tones rises k at held -/
abbrev i_law_bad_chord : Nat := 19
def b_law_bad_chord : S := (.seq (.set (.name 3) (.call 9 (.cons (.var 0) (.cons (.lit (.int 7)) .nil)))) (.seq (.ite (.prim .eq (.cons (.var 3) (.cons (.lit (.int 0)) .nil))) (.ret (.tup .nil)) .skip) (.seq (.ite (.prim .eq (.cons (.var 3) (.cons (.lit (.int 1)) .nil))) (.ret (.prim .add (.cons (.call 18 (.cons (.var 0) (.cons (.var 1) (.cons (.lit (.int 8)) .nil)))) (.cons (.tup (.cons (.prim .sub (.cons (.var 1) (.cons (.lit (.int 1)) .nil))) .nil)) .nil)))) .skip) (.seq (.set (.name 4) (.prim .list (.cons (.call 18 (.cons (.var 0) (.cons (.var 1) (.cons (.var 2) .nil)))) .nil))) (.seq (.set (.name 5) (.comp [6] .range1 (.cons (.prim .sub (.cons (.var 2) (.cons (.lit (.int 1)) .nil))) .nil) (.name 6) (.prim .lt (.cons (.prim .idx (.cons (.var 4) (.cons (.var 6) .nil))) (.cons (.prim .idx (.cons (.var 4) (.cons (.prim .add (.cons (.var 6) (.cons (.lit (.int 1)) .nil))) .nil))) .nil))) (.var 6))) (.seq (.ite (.prim .eq (.cons (.var 3) (.cons (.lit (.int 2)) .nil))) (.setix (.var 4) (.lit (.int 0)) (.prim .sub (.cons (.prim .neg (.cons (.lit (.int 1)) .nil)) (.cons (.call 9 (.cons (.var 0) (.cons (.lit (.int 3)) .nil))) .nil)))) (.ite (.or (.prim .eq (.cons (.var 3) (.cons (.lit (.int 3)) .nil))) (.prim .eq (.cons (.prim .len (.cons (.var 5) .nil)) (.cons (.lit (.int 0)) .nil)))) (.setix (.var 4) (.prim .sub (.cons (.var 2) (.cons (.lit (.int 1)) .nil))) (.prim .add (.cons (.var 1) (.cons (.call 9 (.cons (.var 0) (.cons (.lit (.int 3)) .nil))) .nil)))) (.seq (.set (.name 7) (.call 13 (.cons (.var 0) (.cons (.var 5) .nil)))) (.seq (.set (.name 8) (.prim .idx (.cons (.var 4) (.cons (.var 7) .nil)))) (.seq (.setix (.var 4) (.var 7) (.prim .idx (.cons (.var 4) (.cons (.prim .add (.cons (.var 7) (.cons (.lit (.int 1)) .nil))) .nil)))) (.setix (.var 4) (.prim .add (.cons (.var 7) (.cons (.lit (.int 1)) .nil))) (.var 8))))))) (.ret (.prim .tuple (.cons (.var 4) .nil)))))))))
def f_law_bad_chord : Fn := ⟨3, 9, b_law_bad_chord⟩
/-- _law_told: door ring chord e others -/
abbrev i_law_told : Nat := 20
def b_law_told : S := (.try (.seq (.ite (.prim .eq (.cons (.var 0) (.cons (.lit (.int 0)) .nil))) (.ret (.tup (.cons (.lit (.str (Str.ofString "answer"))) (.cons (.call 5 (.cons (.var 1) (.cons (.var 2) .nil))) .nil)))) .skip) (.seq (.ite (.prim .eq (.cons (.var 0) (.cons (.lit (.int 1)) .nil))) (.ret (.tup (.cons (.lit (.str (Str.ofString "answer"))) (.cons (.call 6 (.cons (.var 1) (.cons (.var 2) .nil))) .nil)))) .skip) (.ret (.tup (.cons (.lit (.str (Str.ofString "answer"))) (.cons (.call 7 (.cons (.var 1) (.cons (.var 2) .nil))) .nil)))))) (.hcons (Str.ofString "ChordError") (some 3) (.seq (.set (.name 4) (.xis 3 [(Str.ofString "ToneError"), (Str.ofString "FigureError"), (Str.ofString "EffortError"), (Str.ofString "NotBent"), (Str.ofString "LeadError"), (Str.ofString "RangeError"), (Str.ofString "StyleError"), (Str.ofString "NoFit"), (Str.ofString "TooMany"), (Str.ofString "WebError"), (Str.ofString "NoWay"), (Str.ofString "PaperError"), (Str.ofString "SheetError"), (Str.ofString "ScriptError")])) (.seq (.ite (.or (.var 4) (.or (.not (.xis 3 [(Str.ofString "ChordError"), (Str.ofString "RingError"), (Str.ofString "ToneError"), (Str.ofString "ShapeError"), (Str.ofString "FigureError"), (Str.ofString "EffortError"), (Str.ofString "NotBent"), (Str.ofString "LeadError"), (Str.ofString "RangeError"), (Str.ofString "StyleError"), (Str.ofString "NoFit"), (Str.ofString "TooMany"), (Str.ofString "WebError"), (Str.ofString "NoWay"), (Str.ofString "PaperError"), (Str.ofString "SheetError"), (Str.ofString "ScriptError")])) (.prim .eq (.cons (.xis 3 [(Str.ofString "RingError")]) (.cons (.xis 3 [(Str.ofString "ShapeError")]) .nil))))) (.ret (.tup (.cons (.lit (.str (Str.ofString "another"))) .nil))) .skip) (.seq (.ite (.xis 3 [(Str.ofString "RingError")]) (.ret (.tup (.cons (.lit (.str (Str.ofString "ring"))) .nil))) .skip) (.ret (.tup (.cons (.lit (.str (Str.ofString "shape"))) .nil)))))) .hnil))
def f_law_told : Fn := ⟨3, 5, b_law_told⟩
/-- _law_row: ring chord row tone -/
abbrev i_law_row : Nat := 21
def b_law_row : S := (.seq (.set (.name 2) (.prim .mul (.cons (.lst (.cons (.lit (.int 0)) .nil)) (.cons (.var 0) .nil)))) (.seq (.loop .plain (.cons (.var 1) .nil) (.name 3) (.augix .add (.var 2) (.var 3) (.lit (.int 1)))) (.ret (.var 2))))
def f_law_row : Fn := ⟨2, 4, b_law_row⟩
/-- _law_turned: row by -/
abbrev i_law_turned : Nat := 22
def b_law_turned : S := (.ret (.prim .add (.cons (.prim .slice (.cons (.var 0) (.cons (.prim .part (.cons (.prim .sub (.cons (.prim .len (.cons (.var 0) .nil)) (.cons (.var 1) .nil))) .nil)) (.cons (.lit .non) .nil)))) (.cons (.prim .slice (.cons (.var 0) (.cons (.lit .non) (.cons (.prim .part (.cons (.prim .sub (.cons (.prim .len (.cons (.var 0) .nil)) (.cons (.var 1) .nil))) .nil)) .nil)))) .nil))))
def f_law_turned : Fn := ⟨2, 2, b_law_turned⟩
/-- _law_of_row: row tones tone -/
abbrev i_law_of_row : Nat := 23
def b_law_of_row : S := (.seq (.set (.name 1) (.lst .nil)) (.seq (.loop .range1 (.cons (.prim .len (.cons (.var 0) .nil)) .nil) (.name 2) (.set (.name 1) (.prim .add (.cons (.var 1) (.cons (.prim .mul (.cons (.lst (.cons (.var 2) .nil)) (.cons (.prim .idx (.cons (.var 0) (.cons (.var 2) .nil))) .nil))) .nil))))) (.ret (.prim .tuple (.cons (.var 1) .nil)))))
def f_law_of_row : Fn := ⟨1, 3, b_law_of_row⟩
/-- _law_greatest: row best least by turned -/
abbrev i_law_greatest : Nat := 24
def b_law_greatest : S := (.seq (.set (.name 1) (.var 0)) (.seq (.set (.name 2) (.lit (.int 0))) (.seq (.loop .range2 (.cons (.lit (.int 1)) (.cons (.prim .len (.cons (.var 0) .nil)) .nil)) (.name 3) (.seq (.set (.name 4) (.call 22 (.cons (.var 0) (.cons (.var 3) .nil)))) (.ite (.prim .gt (.cons (.var 4) (.cons (.var 1) .nil))) (.seq (.set (.name 1) (.var 4)) (.set (.name 2) (.var 3))) .skip))) (.ret (.lst (.cons (.var 1) (.cons (.var 2) .nil)))))))
def f_law_greatest : Fn := ⟨1, 5, b_law_greatest⟩
/-- _law_mirrored: ring chord center tone -/
abbrev i_law_mirrored : Nat := 25
def b_law_mirrored : S := (.ret (.prim .tuple (.cons (.prim .sorted (.cons (.comp [3] .plain (.cons (.var 1) .nil) (.name 3) (.lit (.bl true)) (.prim .mod (.cons (.prim .int (.cons (.prim .sub (.cons (.var 2) (.cons (.var 3) .nil))) .nil)) (.cons (.var 0) .nil)))) .nil)) .nil)))
def f_law_mirrored : Fn := ⟨3, 4, b_law_mirrored⟩
/-- _law_folded: store ring steps step times tones folded k tone -/
abbrev i_law_folded : Nat := 26
def b_law_folded : S := (.seq (.set (.name 2) (.comp [3] .range2 (.cons (.lit (.int 1)) (.cons (.prim .add (.cons (.var 1) (.cons (.lit (.int 1)) .nil))) .nil)) (.name 3) (.and (.prim .eq (.cons (.prim .mod (.cons (.prim .int (.cons (.var 1) .nil)) (.cons (.var 3) .nil))) (.cons (.lit (.int 0)) .nil))) (.prim .le (.cons (.prim .fdiv (.cons (.var 1) (.cons (.var 3) .nil))) (.cons (.lit (.int 8)) .nil)))) (.var 3))) (.seq (.set (.name 3) (.call 13 (.cons (.var 0) (.cons (.var 2) .nil)))) (.seq (.set (.name 4) (.prim .fdiv (.cons (.var 1) (.cons (.var 3) .nil)))) (.seq (.set (.name 5) (.comp [7] .range1 (.cons (.call 12 (.cons (.var 0) (.cons (.lit (.int 1)) (.cons (.prim .fdiv (.cons (.lit (.int 8)) (.cons (.var 4) .nil))) .nil)))) .nil) (.name 7) (.lit (.bl true)) (.call 9 (.cons (.var 0) (.cons (.var 3) .nil))))) (.seq (.set (.name 6) (.lst .nil)) (.seq (.loop .range1 (.cons (.var 4) .nil) (.name 7) (.set (.name 6) (.prim .add (.cons (.var 6) (.cons (.comp [8] .plain (.cons (.var 5) .nil) (.name 8) (.lit (.bl true)) (.prim .add (.cons (.var 8) (.cons (.prim .mul (.cons (.var 3) (.cons (.var 7) .nil))) .nil)))) .nil))))) (.ret (.prim .tuple (.cons (.prim .sorted (.cons (.var 6) .nil)) .nil)))))))))
def f_law_folded : Fn := ⟨2, 9, b_law_folded⟩
/-- _law_chord_right: ring chord row found mirrored both folds by -/
abbrev i_law_chord_right : Nat := 27
def b_law_chord_right : S := (.seq (.set (.name 2) (.call 21 (.cons (.var 0) (.cons (.var 1) .nil)))) (.seq (.set (.name 3) (.call 24 (.cons (.var 2) .nil))) (.seq (.set (.name 4) (.call 24 (.cons (.call 21 (.cons (.var 0) (.cons (.call 25 (.cons (.var 0) (.cons (.var 1) (.cons (.lit (.int 0)) .nil)))) .nil))) .nil))) (.seq (.set (.name 5) (.prim .max2 (.cons (.prim .idx (.cons (.var 3) (.cons (.lit (.int 0)) .nil))) (.cons (.prim .idx (.cons (.var 4) (.cons (.lit (.int 0)) .nil))) .nil)))) (.seq (.set (.name 6) (.prim .len (.cons (.comp [7] .range1 (.cons (.var 0) .nil) (.name 7) (.prim .eq (.cons (.call 22 (.cons (.var 2) (.cons (.var 7) .nil))) (.cons (.var 2) .nil))) (.var 7)) .nil))) (.seq (.ite (.not (.call 15 (.cons (.call 20 (.cons (.lit (.int 0)) (.cons (.var 0) (.cons (.var 1) .nil)))) (.cons (.tup (.cons (.lit (.str (Str.ofString "answer"))) (.cons (.tup (.cons (.call 23 (.cons (.prim .idx (.cons (.var 3) (.cons (.lit (.int 0)) .nil))) .nil)) (.cons (.prim .idx (.cons (.var 3) (.cons (.lit (.int 1)) .nil))) .nil))) .nil))) .nil)))) (.ret (.lit (.bl false))) .skip) (.seq (.ite (.not (.call 15 (.cons (.call 20 (.cons (.lit (.int 1)) (.cons (.var 0) (.cons (.var 1) .nil)))) (.cons (.tup (.cons (.lit (.str (Str.ofString "answer"))) (.cons (.call 23 (.cons (.var 5) .nil)) .nil))) .nil)))) (.ret (.lit (.bl false))) .skip) (.ret (.call 15 (.cons (.call 20 (.cons (.lit (.int 2)) (.cons (.var 0) (.cons (.var 1) .nil)))) (.cons (.tup (.cons (.lit (.str (Str.ofString "answer"))) (.cons (.var 6) .nil))) .nil)))))))))))
def f_law_chord_right : Fn := ⟨2, 8, b_law_chord_right⟩
/-- law: script store ring chord by moved turned folded other_ring other wrong_ring wrong one door form again tone -/
abbrev i_law : Nat := 28
def b_law : S := (.seq (.set (.name 1) (.call 8 (.cons (.var 0) .nil))) (.seq (.set (.name 2) (.call 16 (.cons (.var 1) (.cons (.lit (.int 48)) .nil)))) (.seq (.set (.name 3) (.call 18 (.cons (.var 1) (.cons (.var 2) (.cons (.call 12 (.cons (.var 1) (.cons (.lit (.int 1)) (.cons (.lit (.int 8)) .nil)))) .nil))))) (.seq (.set (.name 4) (.call 9 (.cons (.var 1) (.cons (.var 2) .nil)))) (.seq (.set (.name 5) (.prim .tuple (.cons (.prim .sorted (.cons (.comp [16] .plain (.cons (.var 3) .nil) (.name 16) (.lit (.bl true)) (.prim .mod (.cons (.prim .int (.cons (.prim .add (.cons (.var 16) (.cons (.var 4) .nil))) .nil)) (.cons (.var 2) .nil)))) .nil)) .nil))) (.seq (.set (.name 6) (.call 25 (.cons (.var 2) (.cons (.var 3) (.cons (.var 4) .nil))))) (.seq (.set (.name 7) (.call 26 (.cons (.var 1) (.cons (.var 2) .nil)))) (.seq (.set (.name 8) (.call 16 (.cons (.var 1) (.cons (.lit (.int 48)) .nil)))) (.seq (.set (.name 9) (.call 18 (.cons (.var 1) (.cons (.var 8) (.cons (.call 12 (.cons (.var 1) (.cons (.lit (.int 1)) (.cons (.lit (.int 8)) .nil)))) .nil))))) (.seq (.set (.name 10) (.call 17 (.cons (.var 1) .nil))) (.seq (.set (.name 11) (.call 19 (.cons (.var 1) (.cons (.var 2) (.cons (.prim .len (.cons (.var 3) .nil)) .nil))))) (.seq (.ite (.or (.not (.call 27 (.cons (.var 2) (.cons (.var 3) .nil)))) (.not (.call 27 (.cons (.var 8) (.cons (.var 9) .nil))))) (.ret (.lit (.bl false))) .skip) (.seq (.loop .plain (.cons (.tup (.cons (.var 5) (.cons (.var 6) (.cons (.var 7) .nil)))) .nil) (.name 12) (.ite (.not (.call 27 (.cons (.var 2) (.cons (.var 12) .nil)))) (.ret (.lit (.bl false))) .skip)) (.seq (.loop .range1 (.cons (.lit (.int 3)) .nil) (.name 13) (.seq (.ite (.not (.call 15 (.cons (.call 20 (.cons (.var 13) (.cons (.var 10) (.cons (.var 3) .nil)))) (.cons (.tup (.cons (.lit (.str (Str.ofString "ring"))) .nil)) .nil)))) (.ret (.lit (.bl false))) .skip) (.seq (.ite (.not (.call 15 (.cons (.call 20 (.cons (.var 13) (.cons (.var 10) (.cons (.var 11) .nil)))) (.cons (.tup (.cons (.lit (.str (Str.ofString "ring"))) .nil)) .nil)))) (.ret (.lit (.bl false))) .skip) (.seq (.ite (.not (.call 15 (.cons (.call 20 (.cons (.var 13) (.cons (.var 2) (.cons (.var 11) .nil)))) (.cons (.tup (.cons (.lit (.str (Str.ofString "shape"))) .nil)) .nil)))) (.ret (.lit (.bl false))) .skip) (.ite (.and (.prim .gt (.cons (.prim .idx (.cons (.var 3) (.cons (.prim .neg (.cons (.lit (.int 1)) .nil)) .nil))) (.cons (.lit (.int 0)) .nil))) (.not (.call 15 (.cons (.call 20 (.cons (.var 13) (.cons (.prim .idx (.cons (.var 3) (.cons (.prim .neg (.cons (.lit (.int 1)) .nil)) .nil))) (.cons (.var 3) .nil)))) (.cons (.tup (.cons (.lit (.str (Str.ofString "shape"))) .nil)) .nil))))) (.ret (.lit (.bl false))) .skip))))) (.seq (.set (.name 14) (.call 20 (.cons (.lit (.int 0)) (.cons (.var 2) (.cons (.var 3) .nil))))) (.seq (.set (.name 15) (.call 20 (.cons (.lit (.int 0)) (.cons (.var 2) (.cons (.var 5) .nil))))) (.ret (.and (.prim .eq (.cons (.prim .idx (.cons (.prim .idx (.cons (.var 14) (.cons (.lit (.int 1)) .nil))) (.cons (.lit (.int 0)) .nil))) (.cons (.prim .idx (.cons (.prim .idx (.cons (.var 15) (.cons (.lit (.int 1)) .nil))) (.cons (.lit (.int 0)) .nil))) .nil))) (.call 27 (.cons (.var 2) (.cons (.var 3) .nil)))))))))))))))))))))
def f_law : Fn := ⟨1, 17, b_law⟩
def subs : List (Str × List Str) := [((Str.ofString "ChordError"), [(Str.ofString "ChordError"), (Str.ofString "ValueError"), (Str.ofString "Exception"), (Str.ofString "BaseException")]), ((Str.ofString "RingError"), [(Str.ofString "RingError"), (Str.ofString "ChordError"), (Str.ofString "ValueError"), (Str.ofString "Exception"), (Str.ofString "BaseException")]), ((Str.ofString "ToneError"), [(Str.ofString "ToneError"), (Str.ofString "ChordError"), (Str.ofString "ValueError"), (Str.ofString "Exception"), (Str.ofString "BaseException")]), ((Str.ofString "ShapeError"), [(Str.ofString "ShapeError"), (Str.ofString "ChordError"), (Str.ofString "ValueError"), (Str.ofString "Exception"), (Str.ofString "BaseException")]), ((Str.ofString "FigureError"), [(Str.ofString "FigureError"), (Str.ofString "ChordError"), (Str.ofString "ValueError"), (Str.ofString "Exception"), (Str.ofString "BaseException")]), ((Str.ofString "EffortError"), [(Str.ofString "EffortError"), (Str.ofString "ChordError"), (Str.ofString "ValueError"), (Str.ofString "Exception"), (Str.ofString "BaseException")]), ((Str.ofString "NotBent"), [(Str.ofString "NotBent"), (Str.ofString "ChordError"), (Str.ofString "ValueError"), (Str.ofString "Exception"), (Str.ofString "BaseException")]), ((Str.ofString "LeadError"), [(Str.ofString "LeadError"), (Str.ofString "ChordError"), (Str.ofString "ValueError"), (Str.ofString "Exception"), (Str.ofString "BaseException")]), ((Str.ofString "RangeError"), [(Str.ofString "RangeError"), (Str.ofString "ChordError"), (Str.ofString "ValueError"), (Str.ofString "Exception"), (Str.ofString "BaseException")]), ((Str.ofString "StyleError"), [(Str.ofString "StyleError"), (Str.ofString "ChordError"), (Str.ofString "ValueError"), (Str.ofString "Exception"), (Str.ofString "BaseException")]), ((Str.ofString "NoFit"), [(Str.ofString "NoFit"), (Str.ofString "ChordError"), (Str.ofString "ValueError"), (Str.ofString "Exception"), (Str.ofString "BaseException")]), ((Str.ofString "TooMany"), [(Str.ofString "TooMany"), (Str.ofString "ChordError"), (Str.ofString "ValueError"), (Str.ofString "Exception"), (Str.ofString "BaseException")]), ((Str.ofString "WebError"), [(Str.ofString "WebError"), (Str.ofString "ChordError"), (Str.ofString "ValueError"), (Str.ofString "Exception"), (Str.ofString "BaseException")]), ((Str.ofString "NoWay"), [(Str.ofString "NoWay"), (Str.ofString "ChordError"), (Str.ofString "ValueError"), (Str.ofString "Exception"), (Str.ofString "BaseException")]), ((Str.ofString "PaperError"), [(Str.ofString "PaperError"), (Str.ofString "ChordError"), (Str.ofString "ValueError"), (Str.ofString "Exception"), (Str.ofString "BaseException")]), ((Str.ofString "SheetError"), [(Str.ofString "SheetError"), (Str.ofString "ChordError"), (Str.ofString "ValueError"), (Str.ofString "Exception"), (Str.ofString "BaseException")]), ((Str.ofString "ScriptError"), [(Str.ofString "ScriptError"), (Str.ofString "ChordError"), (Str.ofString "ValueError"), (Str.ofString "Exception"), (Str.ofString "BaseException")])]
def nm : Nm := ⟨[((Str.ofString "check_ring"), 0), ((Str.ofString "check_chord"), 1), ((Str.ofString "sorted_tones"), 2), ((Str.ofString "transposed_rows"), 4), ((Str.ofString "least_form"), 5), ((Str.ofString "least_both"), 6), ((Str.ofString "fold_count"), 7), ((Str.ofString "_law_store"), 8), ((Str.ofString "_law_take"), 9), ((Str.ofString "_law_span"), 11), ((Str.ofString "_law_near"), 12), ((Str.ofString "_law_pick"), 13), ((Str.ofString "_law_is_whole"), 14), ((Str.ofString "_law_same"), 15), ((Str.ofString "_law_ring"), 16), ((Str.ofString "_law_bad_ring"), 17), ((Str.ofString "_law_chord"), 18), ((Str.ofString "_law_bad_chord"), 19), ((Str.ofString "_law_told"), 20), ((Str.ofString "_law_row"), 21), ((Str.ofString "_law_turned"), 22), ((Str.ofString "_law_of_row"), 23), ((Str.ofString "_law_greatest"), 24), ((Str.ofString "_law_mirrored"), 25), ((Str.ofString "_law_folded"), 26), ((Str.ofString "_law_chord_right"), 27), ((Str.ofString "law"), 28)], [], [((Str.ofString "ChordError"), []), ((Str.ofString "RingError"), []), ((Str.ofString "ToneError"), [(Str.ofString "at")]), ((Str.ofString "ShapeError"), []), ((Str.ofString "FigureError"), [(Str.ofString "at")]), ((Str.ofString "EffortError"), [(Str.ofString "at")]), ((Str.ofString "NotBent"), [(Str.ofString "at")]), ((Str.ofString "LeadError"), []), ((Str.ofString "RangeError"), [(Str.ofString "singer")]), ((Str.ofString "StyleError"), []), ((Str.ofString "NoFit"), [(Str.ofString "bar")]), ((Str.ofString "TooMany"), [(Str.ofString "limit")]), ((Str.ofString "WebError"), []), ((Str.ofString "NoWay"), []), ((Str.ofString "PaperError"), [(Str.ofString "line")]), ((Str.ofString "SheetError"), [(Str.ofString "line"), (Str.ofString "at")]), ((Str.ofString "ScriptError"), [(Str.ofString "line")])], [((Str.ofString "mirror_chord"), 3, [((Str.ofString "axis"),  (.int 0))])]⟩
def pg : Pg := ⟨[f_check_ring, f_check_chord, f_sorted_tones, f_mirror_chord, f_transposed_rows, f_least_form, f_least_both, f_fold_count, f_law_store, f_law_take, f_law_odds, f_law_span, f_law_near, f_law_pick, f_law_is_whole, f_law_same, f_law_ring, f_law_bad_ring, f_law_chord, f_law_bad_chord, f_law_told, f_law_row, f_law_turned, f_law_of_row, f_law_greatest, f_law_mirrored, f_law_folded, f_law_chord_right, f_law], subs⟩
end K06

set_option Elab.async false
set_option linter.all false
set_option maxRecDepth 100000
set_option maxHeartbeats 4000000
namespace K06
open PySem L2 Z
variable {k : Nat} {h : Hm} {K : D → Hm → Prop} {X : Exn → Hm → Prop} {s : Nat}
abbrev fuel : Nat := 1
abbrev C (k f : Nat) (ds : List D) (h : Hm) (K : D → Hm → Prop) (X : Exn → Hm → Prop) : Prop := RW (callF pg fuel k f ds h) K X
abbrev tupI (ts : List Int) : D := .tup (ts.map .int)
theorem pow18 : (10 : Int) ^ (18 : Int).toNat = 1000000000000000000 := by decide
theorem take_wp {many : Int} (hs : StoreOk h s) (m1 : 1 ≤ many) (m2 : many < 1073741824) (q : ∀ d h', 0 ≤ d → d < many → StoreOk h' s → Fr s h h' → K (.int d) h') : C (k + 1) i_law_take [.ref s, .int many] h K X := by
  obtain ⟨a, ns, i, x, y, z, e, e', na, i0, x0, z0, z1, ln⟩ := hs
  refine rw_in (fn := f_law_take) (b := b_law_take) rfl rfl rfl (ρ := [some (.ref s), some (.int many), none, none, none]) rfl ?_; delta b_law_take
  refine sw_seq ?_
  walk_at "zz"
  (with_reducible first | refine tw_dec (fun c => ?_) (fun c => ?_) | refine aw_dec (fun c => ?_) (fun c => ?_) | refine ow_dec (fun c => ?_) (fun c => ?_) | refine bw_dec (fun c => ?_) (fun c => ?_) | refine tw_b (fun c => ?_) (fun c => ?_) | refine aw_b (fun c => ?_) (fun c => ?_) | refine ow_b (fun c => ?_) (fun c => ?_) | refine bw_b (fun c => ?_) (fun c => ?_))
  · walk_at "zz"
    exact q 0 h (Int.le_refl _) (by omega) ⟨a, ns, i, x, y, z, e, e', na, i0, x0, z0, z1, ln⟩ .refl
  refine sw_skip (sq_nx (sw_cut (fun ρ2 h2 => ∃ v j x y z, ρ2 = [some (.ref s), some (.int many), none, v, none] ∧ h2[s]? = some (.lst [.ref a, .int j, .int x, .int y, .int z]) ∧ h2[a]? = some (.lst (ns.map .int)) ∧ 0 ≤ j ∧ 0 ≤ x ∧ 0 ≤ z ∧ z < 18446744073709551616 ∧ Fr s h h2) ?_ ?_))
  · walk_at "zz"
    (with_reducible first | refine tw_dec (fun c1 => ?_) (fun c1 => ?_) | refine aw_dec (fun c1 => ?_) (fun c1 => ?_) | refine ow_dec (fun c1 => ?_) (fun c1 => ?_) | refine bw_dec (fun c1 => ?_) (fun c1 => ?_) | refine tw_b (fun c1 => ?_) (fun c1 => ?_) | refine aw_b (fun c1 => ?_) (fun c1 => ?_) | refine ow_b (fun c1 => ?_) (fun c1 => ?_) | refine bw_b (fun c1 => ?_) (fun c1 => ?_))
    · walk_at "zz"
      (with_reducible first | refine tw_dec (fun c2 => ?_) (fun c2 => ?_) | refine aw_dec (fun c2 => ?_) (fun c2 => ?_) | refine ow_dec (fun c2 => ?_) (fun c2 => ?_) | refine bw_dec (fun c2 => ?_) (fun c2 => ?_) | refine tw_b (fun c2 => ?_) (fun c2 => ?_) | refine aw_b (fun c2 => ?_) (fun c2 => ?_) | refine ow_b (fun c2 => ?_) (fun c2 => ?_) | refine bw_b (fun c2 => ?_) (fun c2 => ?_))
      · walk_at "zz"
        (with_reducible first | refine tw_dec (fun c3 => ?_) (fun c3 => ?_) | refine aw_dec (fun c3 => ?_) (fun c3 => ?_) | refine ow_dec (fun c3 => ?_) (fun c3 => ?_) | refine bw_dec (fun c3 => ?_) (fun c3 => ?_) | refine tw_b (fun c3 => ?_) (fun c3 => ?_) | refine aw_b (fun c3 => ?_) (fun c3 => ?_) | refine ow_b (fun c3 => ?_) (fun c3 => ?_) | refine bw_b (fun c3 => ?_) (fun c3 => ?_))
        · walk_at "zz"
          have il : i.toNat < ns.length := by
            rw [List.length_map] at c3
            omega
          have ea : atD (ns.map .int) i = some (.int (ns[i.toNat]'il)) := by
            have : (ns.map D.int)[i.toNat]? = some (.int (ns[i.toNat]'il)) := by simp [il]
            rw [← this]
            exact atD_pos (by rw [List.length_map]; exact il) i0
          refine pw_idxr e' ea ?_
          generalize (ns[i.toNat]'il) = cell
          walk_at "zz"
          have z2 := Int.emod_nonneg ((z + 2 * cell + 1) * 6364136223846793005) (b := 18446744073709551616) (by decide)
          have z3 := Int.emod_lt_of_pos ((z + 2 * cell + 1) * 6364136223846793005) (b := 18446744073709551616) (by decide)
          (with_reducible first | refine tw_dec (fun c4 => ?_) (fun c4 => ?_) | refine aw_dec (fun c4 => ?_) (fun c4 => ?_) | refine ow_dec (fun c4 => ?_) (fun c4 => ?_) | refine bw_dec (fun c4 => ?_) (fun c4 => ?_) | refine tw_b (fun c4 => ?_) (fun c4 => ?_) | refine aw_b (fun c4 => ?_) (fun c4 => ?_) | refine ow_b (fun c4 => ?_) (fun c4 => ?_) | refine bw_b (fun c4 => ?_) (fun c4 => ?_))
          · walk_at "zz"
            exact cq_nx ⟨_, _, _, _, _, rfl, by walk_at "zh", by walk_at "zh", by omega, by split <;> omega, z2, z3, .trans .set (.trans .set .set)⟩
          · walk_at "zz"
            exact cq_nx ⟨_, _, _, _, _, rfl, by walk_at "zh", by walk_at "zh", by omega, by omega, z2, z3, .trans .set (.trans .set .set)⟩
        · walk_at "zz"
          exact cq_nx ⟨_, _, _, _, _, rfl, e, e', i0, x0, z0, z1, .refl⟩
      · walk_at "zz"
        exact cq_nx ⟨_, _, _, _, _, rfl, e, e', i0, x0, z0, z1, .refl⟩
    · walk_at "zz"
      exact cq_nx ⟨_, _, _, _, _, rfl, e, e', i0, x0, z0, z1, .refl⟩
  clear e e' i0 x0 z0 z1 i x y z
  rintro _ h2 ⟨v, j, x, y, z, rfl, e, e', j0, x0, z0, z1, fr⟩
  walk_at "zz"
  (with_reducible first | refine tw_dec (fun cx => ?_) (fun cx => ?_) | refine aw_dec (fun cx => ?_) (fun cx => ?_) | refine ow_dec (fun cx => ?_) (fun cx => ?_) | refine bw_dec (fun cx => ?_) (fun cx => ?_) | refine tw_b (fun cx => ?_) (fun cx => ?_) | refine aw_b (fun cx => ?_) (fun cx => ?_) | refine ow_b (fun cx => ?_) (fun cx => ?_) | refine bw_b (fun cx => ?_) (fun cx => ?_))
  · walk_at "zz"
    refine q _ _ (Int.emod_nonneg _ (by omega)) (Int.emod_lt_of_pos _ (by omega)) ⟨a, ns, j, x / many, y, z, by walk_at "zh", by walk_at "zh", na, j0, Int.ediv_nonneg x0 (by omega), z0, z1, ln⟩ (fr.trans .set)
  · walk_at "zz"
    refine pw_fdivw (j := 4294967296) (by decide) (by decide) ?_
    have z2 := Int.emod_nonneg (z * 6364136223846793005 + 1442695040888963407) (b := 18446744073709551616) (by decide)
    have z3 := Int.emod_lt_of_pos (z * 6364136223846793005 + 1442695040888963407) (b := 18446744073709551616) (by decide)
    generalize (z * 6364136223846793005 + 1442695040888963407) % 18446744073709551616 = zn at *
    walk_at "zz"
    refine q _ _ (Int.emod_nonneg _ (by omega)) (Int.emod_lt_of_pos _ (by omega)) ⟨a, ns, j, x, _, zn, by walk_at "zh", by walk_at "zh", na, j0, x0, z2, z3, ln⟩ (fr.trans (.trans .set .set))
end K06

set_option Elab.async false
set_option linter.all false
set_option maxRecDepth 100000
set_option maxHeartbeats 4000000
namespace K06
open PySem L2 Z
variable {k : Nat} {h : Hm} {K : D → Hm → Prop} {X : Exn → Hm → Prop} {s : Nat}
theorem odds_wp {part whole : Int} (hs : StoreOk h s) (m1 : 1 ≤ whole) (m2 : whole < 1073741824) (q : ∀ b h', StoreOk h' s → Fr s h h' → K (.bl b) h') : C (k + 2) i_law_odds [.ref s, .int part, .int whole] h K X := by
  refine rw_in (fn := f_law_odds) (b := b_law_odds) rfl rfl rfl (ρ := [some (.ref s), some (.int part), some (.int whole)]) rfl ?_; delta b_law_odds
  walk_at "zz"
  refine take_wp hs m1 m2 fun d h' d0 d1 hs' fr => ?_
  walk_at "zz"
  exact q _ _ hs' fr
theorem span_wp {lo hi : Int} (hs : StoreOk h s) (m1 : lo ≤ hi) (m2 : hi - lo < 1000000000) (q : ∀ d h', lo ≤ d → d ≤ hi → StoreOk h' s → Fr s h h' → K (.int d) h') : C (k + 2) i_law_span [.ref s, .int lo, .int hi] h K X := by
  refine rw_in (fn := f_law_span) (b := b_law_span) rfl rfl rfl (ρ := [some (.ref s), some (.int lo), some (.int hi)]) rfl ?_; delta b_law_span
  walk_at "zz"
  refine take_wp hs (by omega) (by omega) fun d h' d0 d1 hs' fr => ?_
  walk_at "zz"
  exact q _ _ (by omega) (by omega) hs' fr
theorem near_wp {lo hi : Int} (hs : StoreOk h s) (m1 : lo ≤ hi) (m2 : hi - lo < 1000000000) (q : ∀ d h', lo ≤ d → d ≤ hi → StoreOk h' s → Fr s h h' → K (.int d) h') : C (k + 3) i_law_near [.ref s, .int lo, .int hi] h K X := by
  refine rw_in (fn := f_law_near) (b := b_law_near) rfl rfl rfl (ρ := [some (.ref s), some (.int lo), some (.int hi), none]) rfl ?_; delta b_law_near
  walk_at "zz"
  (with_reducible first | refine tw_dec (fun c => ?_) (fun c => ?_) | refine aw_dec (fun c => ?_) (fun c => ?_) | refine ow_dec (fun c => ?_) (fun c => ?_) | refine bw_dec (fun c => ?_) (fun c => ?_) | refine tw_b (fun c => ?_) (fun c => ?_) | refine aw_b (fun c => ?_) (fun c => ?_) | refine ow_b (fun c => ?_) (fun c => ?_) | refine bw_b (fun c => ?_) (fun c => ?_))
  · walk_at "zz"
    exact q _ _ (by omega) (by omega) hs .refl
  walk_at "zz"
  refine take_wp hs (by omega) (by omega) fun d h' d0 d1 hs' fr => ?_
  walk_at "zz"
  (with_reducible first | refine tw_dec (fun c => ?_) (fun c => ?_) | refine aw_dec (fun c => ?_) (fun c => ?_) | refine ow_dec (fun c => ?_) (fun c => ?_) | refine bw_dec (fun c => ?_) (fun c => ?_) | refine tw_b (fun c => ?_) (fun c => ?_) | refine aw_b (fun c => ?_) (fun c => ?_) | refine ow_b (fun c => ?_) (fun c => ?_) | refine bw_b (fun c => ?_) (fun c => ?_))
  · walk_at "zz"
    exact q _ _ (by omega) (by omega) hs' fr
  walk_at "zz"
  (with_reducible first | refine tw_dec (fun c => ?_) (fun c => ?_) | refine aw_dec (fun c => ?_) (fun c => ?_) | refine ow_dec (fun c => ?_) (fun c => ?_) | refine bw_dec (fun c => ?_) (fun c => ?_) | refine tw_b (fun c => ?_) (fun c => ?_) | refine aw_b (fun c => ?_) (fun c => ?_) | refine ow_b (fun c => ?_) (fun c => ?_) | refine bw_b (fun c => ?_) (fun c => ?_))
  · walk_at "zz"
    exact q _ _ (by omega) (by omega) hs' fr
  walk_at "zz"
  (with_reducible first | refine tw_dec (fun c => ?_) (fun c => ?_) | refine aw_dec (fun c => ?_) (fun c => ?_) | refine ow_dec (fun c => ?_) (fun c => ?_) | refine bw_dec (fun c => ?_) (fun c => ?_) | refine tw_b (fun c => ?_) (fun c => ?_) | refine aw_b (fun c => ?_) (fun c => ?_) | refine ow_b (fun c => ?_) (fun c => ?_) | refine bw_b (fun c => ?_) (fun c => ?_))
  · walk_at "zz"
    exact q _ _ (by omega) (by omega) hs' fr
  walk_at "zz"
  (with_reducible first | refine tw_dec (fun c => ?_) (fun c => ?_) | refine aw_dec (fun c => ?_) (fun c => ?_) | refine ow_dec (fun c => ?_) (fun c => ?_) | refine bw_dec (fun c => ?_) (fun c => ?_) | refine tw_b (fun c => ?_) (fun c => ?_) | refine aw_b (fun c => ?_) (fun c => ?_) | refine ow_b (fun c => ?_) (fun c => ?_) | refine bw_b (fun c => ?_) (fun c => ?_))
  · walk_at "zz"
    exact q _ _ (by omega) (by omega) hs' fr
  walk_at "zz"
  refine span_wp hs' m1 m2 fun d h2 d0 d1 hs2 fr2 => ?_
  walk_at "zz"
  exact q _ _ d0 d1 hs2 (fr.trans fr2)
theorem pickt_wp {xs : List D} (hs : StoreOk h s) (m1 : 1 ≤ xs.length) (m2 : xs.length < 1073741824) (q : ∀ d h', d ∈ xs → StoreOk h' s → Fr s h h' → K d h') : C (k + 2) i_law_pick [.ref s, .tup xs] h K X := by
  refine rw_in (fn := f_law_pick) (b := b_law_pick) rfl rfl rfl (ρ := [some (.ref s), some (.tup xs)]) rfl ?_; delta b_law_pick
  walk_at "zz"
  refine take_wp hs (by omega) (by omega) fun d h' d0 d1 hs' fr => ?_
  walk_at "zz"
  have l : d.toNat < xs.length := by omega
  refine pw_idxt (d := xs[d.toNat]) ((atD_pos l d0).trans (by simp [l])) ?_
  walk_at "zz"
  exact q _ _ (List.getElem_mem l) hs' fr
theorem pickr_wp {xs : List D} {r : Nat} (hs : StoreOk h s) (e : h[r]? = some (.lst xs)) (n : r ≠ s) (m1 : 1 ≤ xs.length) (m2 : xs.length < 1073741824) (q : ∀ d h', d ∈ xs → StoreOk h' s → Fr s h h' → K d h') : C (k + 2) i_law_pick [.ref s, .ref r] h K X := by
  refine rw_in (fn := f_law_pick) (b := b_law_pick) rfl rfl rfl (ρ := [some (.ref s), some (.ref r)]) rfl ?_; delta b_law_pick
  walk_at "zz"
  refine take_wp hs (by omega) (by omega) fun d h' d0 d1 hs' fr => ?_
  have e' := fr.get n e
  walk_at "zz"
  have l : d.toNat < xs.length := by omega
  refine pw_idxr (d := xs[d.toNat]) e' ((atD_pos l d0).trans (by simp [l])) ?_
  walk_at "zz"
  exact q _ _ (List.getElem_mem l) hs' fr
end K06

set_option Elab.async false
set_option linter.all false
set_option maxRecDepth 100000
set_option maxHeartbeats 4000000
namespace K06
open PySem L2 Z
variable {k : Nat} {h : Hm} {K : D → Hm → Prop} {X : Exn → Hm → Prop} {s : Nat}
theorem ring_wp {g : Int} (hs : StoreOk h s) (m1 : 2 ≤ g) (m2 : g < 1000000) (q : ∀ d h', 1 ≤ d → d ≤ g → StoreOk h' s → Fr s h h' → K (.int d) h') : C (k + 3) i_law_ring [.ref s, .int g] h K X := by
  refine rw_in (fn := f_law_ring) (b := b_law_ring) rfl rfl rfl (ρ := [some (.ref s), some (.int g), none]) rfl ?_; delta b_law_ring
  walk_at "zz"
  refine take_wp hs (by omega) (by omega) fun d h' d0 d1 hs' fr => ?_
  walk_at "zz"
  (with_reducible first | refine tw_dec (fun c => ?_) (fun c => ?_) | refine aw_dec (fun c => ?_) (fun c => ?_) | refine ow_dec (fun c => ?_) (fun c => ?_) | refine bw_dec (fun c => ?_) (fun c => ?_) | refine tw_b (fun c => ?_) (fun c => ?_) | refine aw_b (fun c => ?_) (fun c => ?_) | refine ow_b (fun c => ?_) (fun c => ?_) | refine bw_b (fun c => ?_) (fun c => ?_))
  · walk_at "zz"
    exact q _ _ (by omega) (by omega) hs' fr
  walk_at "zz"
  (with_reducible first | refine tw_dec (fun c => ?_) (fun c => ?_) | refine aw_dec (fun c => ?_) (fun c => ?_) | refine ow_dec (fun c => ?_) (fun c => ?_) | refine bw_dec (fun c => ?_) (fun c => ?_) | refine tw_b (fun c => ?_) (fun c => ?_) | refine aw_b (fun c => ?_) (fun c => ?_) | refine ow_b (fun c => ?_) (fun c => ?_) | refine bw_b (fun c => ?_) (fun c => ?_))
  · walk_at "zz"
    exact q _ _ (by omega) (by omega) hs' fr
  walk_at "zz"
  (with_reducible first | refine tw_dec (fun c => ?_) (fun c => ?_) | refine aw_dec (fun c => ?_) (fun c => ?_) | refine ow_dec (fun c => ?_) (fun c => ?_) | refine bw_dec (fun c => ?_) (fun c => ?_) | refine tw_b (fun c => ?_) (fun c => ?_) | refine aw_b (fun c => ?_) (fun c => ?_) | refine ow_b (fun c => ?_) (fun c => ?_) | refine bw_b (fun c => ?_) (fun c => ?_))
  · walk_at "zz"
    exact q _ _ (by split <;> omega) (by split <;> omega) hs' fr
  walk_at "zz"
  (with_reducible first | refine tw_dec (fun c => ?_) (fun c => ?_) | refine aw_dec (fun c => ?_) (fun c => ?_) | refine ow_dec (fun c => ?_) (fun c => ?_) | refine bw_dec (fun c => ?_) (fun c => ?_) | refine tw_b (fun c => ?_) (fun c => ?_) | refine aw_b (fun c => ?_) (fun c => ?_) | refine ow_b (fun c => ?_) (fun c => ?_) | refine bw_b (fun c => ?_) (fun c => ?_))
  · walk_at "zz"
    exact q _ _ (by split <;> omega) (by split <;> omega) hs' fr
  walk_at "zz"
  refine span_wp hs' (by omega) (by omega) fun d h2 d0 d1 hs2 fr2 => ?_
  walk_at "zz"
  exact q _ _ d0 d1 hs2 (fr.trans fr2)
theorem badring_wp (hs : StoreOk h s) (q : ∀ d h', (d < 1 ∨ 48 < d) → StoreOk h' s → Fr s h h' → K (.int d) h') : C (k + 2) i_law_bad_ring [.ref s] h K X := by
  refine rw_in (fn := f_law_bad_ring) (b := b_law_bad_ring) rfl rfl rfl (ρ := [some (.ref s), none]) rfl ?_; delta b_law_bad_ring
  walk_at "zz"
  refine take_wp hs (by omega) (by omega) fun d h' d0 d1 hs' fr => ?_
  walk_at "zz"
  (with_reducible first | refine tw_dec (fun c => ?_) (fun c => ?_) | refine aw_dec (fun c => ?_) (fun c => ?_) | refine ow_dec (fun c => ?_) (fun c => ?_) | refine bw_dec (fun c => ?_) (fun c => ?_) | refine tw_b (fun c => ?_) (fun c => ?_) | refine aw_b (fun c => ?_) (fun c => ?_) | refine ow_b (fun c => ?_) (fun c => ?_) | refine bw_b (fun c => ?_) (fun c => ?_))
  · walk_at "zz"
    exact q _ _ (by omega) hs' fr
  walk_at "zz"
  (with_reducible first | refine tw_dec (fun c => ?_) (fun c => ?_) | refine aw_dec (fun c => ?_) (fun c => ?_) | refine ow_dec (fun c => ?_) (fun c => ?_) | refine bw_dec (fun c => ?_) (fun c => ?_) | refine tw_b (fun c => ?_) (fun c => ?_) | refine aw_b (fun c => ?_) (fun c => ?_) | refine ow_b (fun c => ?_) (fun c => ?_) | refine bw_b (fun c => ?_) (fun c => ?_))
  · walk_at "zz"
    exact q _ _ (by omega) hs' fr
  walk_at "zz"
  (with_reducible first | refine tw_dec (fun c => ?_) (fun c => ?_) | refine aw_dec (fun c => ?_) (fun c => ?_) | refine ow_dec (fun c => ?_) (fun c => ?_) | refine bw_dec (fun c => ?_) (fun c => ?_) | refine tw_b (fun c => ?_) (fun c => ?_) | refine aw_b (fun c => ?_) (fun c => ?_) | refine ow_b (fun c => ?_) (fun c => ?_) | refine bw_b (fun c => ?_) (fun c => ?_))
  · walk_at "zz"
    refine take_wp hs' (by omega) (by omega) fun d h2 d0 d1 hs2 fr2 => ?_
    walk_at "zz"
    exact q _ _ (by omega) hs2 (fr.trans fr2)
  walk_at "zz"
  (with_reducible first | refine tw_dec (fun c => ?_) (fun c => ?_) | refine aw_dec (fun c => ?_) (fun c => ?_) | refine ow_dec (fun c => ?_) (fun c => ?_) | refine bw_dec (fun c => ?_) (fun c => ?_) | refine tw_b (fun c => ?_) (fun c => ?_) | refine aw_b (fun c => ?_) (fun c => ?_) | refine ow_b (fun c => ?_) (fun c => ?_) | refine bw_b (fun c => ?_) (fun c => ?_))
  · walk_at "zz"
    refine take_wp hs' (by omega) (by omega) fun d h2 d0 d1 hs2 fr2 => ?_
    walk_at "zz"
    exact q _ _ (by omega) hs2 (fr.trans fr2)
  walk_at "zz"
  (with_reducible first | refine tw_dec (fun c => ?_) (fun c => ?_) | refine aw_dec (fun c => ?_) (fun c => ?_) | refine ow_dec (fun c => ?_) (fun c => ?_) | refine bw_dec (fun c => ?_) (fun c => ?_) | refine tw_b (fun c => ?_) (fun c => ?_) | refine aw_b (fun c => ?_) (fun c => ?_) | refine ow_b (fun c => ?_) (fun c => ?_) | refine bw_b (fun c => ?_) (fun c => ?_))
  · walk_at "zz"
    exact q _ _ (.inr (by decide)) hs' fr
  walk_at "zz"
  exact q _ _ (.inl (by decide)) hs' fr
end K06

set_option Elab.async false
set_option linter.all false
set_option maxRecDepth 100000
set_option maxHeartbeats 4000000
namespace K06
open PySem L2 Z
variable {k : Nat} {h : Hm} {K : D → Hm → Prop} {X : Exn → Hm → Prop} {s : Nat}
theorem cut_map (ns : List Int) (l u : Option Int) : cutD (ns.map D.int) l u = (cutD ns l u).map D.int := by
  simp [cutD, List.map_drop, List.map_take]
theorem store_wp {ns : List Int} (l : ns.length ≤ 63) (q : ∀ s h', StoreOk h' s → K (.ref s) h') : C (k + 1) i_law_store [.ro (ns.map .int)] h K X := by
  refine rw_in (fn := f_law_store) (b := b_law_store) rfl rfl rfl (ρ := [some (.ro (ns.map .int)), none]) rfl ?_; delta b_law_store
  walk_at "zz"
  refine ew_comp ?_
  walk_at "zz"
  refine pw_slicero rfl rfl ?_
  rw [cut_map]
  have l2 : (cutD ns none (some 63)).length ≤ 63 := by
    refine Nat.le_trans ?_ l
    unfold cutD
    rw [List.length_take, List.length_drop]
    omega
  generalize cutD ns none (some 63) = ms at l2 ⊢
  walk_at "zz"
  refine ⟨_, _, src_r get_new, ?_⟩
  refine rw_comp (I := fun xs acc h' => ∃ r a : List Int, xs = r.map .int ∧ acc = a.map .int ∧ a.length + r.length ≤ 63 ∧ h'[h.length]? = some (.lst (ms.map .int)) ∧ h'[h.length + 1]? = some (.lst acc) ∧ h'.length = h.length + 2) [] ⟨ms, [], rfl, rfl, by simpa using l2, by simp, by simp, by simp⟩ ?_ ?_ ?_
  · rintro r a h' ⟨_, _, _, _, _, e, _⟩
    exact gd_one e
  · rintro x r acc h' ⟨r', a, er, rfl, la, e1, e2, e3⟩
    cases r' with
    | nil => simp at er
    | cons y r' =>
      simp only [List.map_cons, List.cons.injEq] at er
      obtain ⟨rfl, rfl⟩ := er
      refine ⟨_, rfl, ?_⟩
      walk_at "zz"
      have : (h ++ [Cell.lst (ms.map D.int)]).length = h.length + 1 := by simp
      rw [this]
      refine ⟨e2, ?_, r', a ++ [y], rfl, by simp, by simp at la ⊢; omega, ?_, get_set e2, by simpa using e3⟩
      · simp only [List.length_map]
        simp only [List.length_cons] at la
        exact Nat.lt_of_le_of_lt (show a.length ≤ 63 by omega) (by decide)
      · exact get_set_ne (by omega) e1
  · rintro acc h' ⟨r, a, er, rfl, la, e1, e2, e3⟩
    have : (h ++ [Cell.lst (ms.map D.int)]).length = h.length + 1 := by simp
    rw [this]
    walk_at "zz"
    exact q _ _ ⟨_, _, _, _, _, _, get_new, get_app e2, by omega, by decide, by decide, by decide, by decide, by omega⟩
end K06

set_option Elab.async false
set_option linter.all false
set_option maxRecDepth 100000
set_option maxHeartbeats 4000000
namespace K06
open PySem L2 Z
variable {k : Nat} {h : Hm} {K : D → Hm → Prop} {X : Exn → Hm → Prop} {s : Nat}
theorem getD_zero {ts : List Int} {n : Nat} (l : ts.length = n) (n0 : 0 < n) : ∃ t, t ∈ ts ∧ atD (ts.map D.int) 0 = some (.int t) := by
  cases ts with
  | nil => simp at l; omega
  | cons t r => exact ⟨t, by simp, by rw [atD_pos (by simp) (by decide)]; simp⟩
theorem chord_wp {ring many : Int} (hs : StoreOk h s) (r1 : 1 ≤ ring) (r2 : ring < 1000000) (m1 : 1 ≤ many) (m2 : many < 1000000) (q : ∀ (ts : List Int) h', (ts.length : Int) = many → Up ring 0 ts → StoreOk h' s → Fr s h h' → K (.tup (ts.map .int)) h') : C (k + 2) i_law_chord [.ref s, .int ring, .int many] h K X := by
  refine rw_in (fn := f_law_chord) (b := b_law_chord) rfl rfl rfl (ρ := [some (.ref s), some (.int ring), some (.int many), none, none, none]) rfl ?_; delta b_law_chord
  walk_at "zz"
  refine take_wp hs (by omega) (by omega) fun d h1 d0 d1 hs1 fr1 => ?_
  have hl := fr1.1
  have hn := hs1.lt
  have hn0 := hs.lt
  walk_at "zz"
  refine ⟨_, _, src_r1 (small_k (by omega) (by omega)), ?_⟩
  rw [range_up]
  refine fw_up (I := fun j ρ2 h2 => ∃ (ts : List Int) (v : Option D), ρ2 = [some (.ref s), some (.int ring), some (.int many), some (.int d), some (.ref h1.length), v] ∧ h2[h1.length]? = some (.lst (ts.map .int)) ∧ (ts.length : Int) = j ∧ (∀ t ∈ ts, 0 ≤ t ∧ t < ring) ∧ StoreOk h2 s ∧ Fr s h h2) ⟨[], none, rfl, get_new, rfl, by simp, hs1.app, fr1.trans .app⟩ (fun _ _ _ _ => rfl) ?_ ?_
  · rintro j _ h3 j0 j1 ⟨ts, v, rfl, e, lt, ht, hs3, fr3⟩
    have app : ∀ (t : Int) (h4 : Hm) , 0 ≤ t → t < ring → h4[h1.length]? = some (.lst (ts.map .int)) → StoreOk h4 s → Fr s h h4 → ∃ (us : List Int) (v : Option D), [some (D.ref s), some (.int ring), some (.int many), some (.int d), some (.ref h1.length), some (.int j)] = [some (.ref s), some (.int ring), some (.int many), some (.int d), some (.ref h1.length), v] ∧ (h4.set h1.length (.lst (ts.map .int ++ [.int t])))[h1.length]? = some (.lst (us.map .int)) ∧ (us.length : Int) = j + 1 ∧ (∀ t ∈ us, 0 ≤ t ∧ t < ring) ∧ StoreOk (h4.set h1.length (.lst (ts.map .int ++ [.int t]))) s ∧ Fr s h (h4.set h1.length (.lst (ts.map .int ++ [.int t]))) := by
      intro t h4 t0 t1 e4 hs4 fr4
      refine ⟨ts ++ [t], _, rfl, (get_set e4).trans (by simp), by simp; omega, ?_, ?_, fr4.setn (by omega)⟩
      · intro u hu
        rcases List.mem_append.mp hu with hu | hu
        · exact ht u hu
        · simp only [List.mem_singleton] at hu
          subst hu
          exact ⟨t0, t1⟩
      · exact hs4.setn (by omega)
    have szl : (ts.map D.int).length < sizeLine := by
      rw [List.length_map]
      exact Nat.lt_of_lt_of_le (show ts.length < 1000000 by omega) (by decide)
    refine ⟨_, rfl, ?_⟩
    have ne : h1.length ≠ s := by omega
    refine sw_ite (ew_and ?_)
    walk_at "zz"
    (with_reducible first | refine tw_dec (fun c => ?_) (fun c => ?_) | refine aw_dec (fun c => ?_) (fun c => ?_) | refine ow_dec (fun c => ?_) (fun c => ?_) | refine bw_dec (fun c => ?_) (fun c => ?_) | refine tw_b (fun c => ?_) (fun c => ?_) | refine aw_b (fun c => ?_) (fun c => ?_) | refine ow_b (fun c => ?_) (fun c => ?_) | refine bw_b (fun c => ?_) (fun c => ?_))
    · walk_at "zz"
      (with_reducible first | refine tw_dec (fun c2 => ?_) (fun c2 => ?_) | refine aw_dec (fun c2 => ?_) (fun c2 => ?_) | refine ow_dec (fun c2 => ?_) (fun c2 => ?_) | refine bw_dec (fun c2 => ?_) (fun c2 => ?_) | refine tw_b (fun c2 => ?_) (fun c2 => ?_) | refine aw_b (fun c2 => ?_) (fun c2 => ?_) | refine ow_b (fun c2 => ?_) (fun c2 => ?_) | refine bw_b (fun c2 => ?_) (fun c2 => ?_))
      · obtain ⟨t, tm, te⟩ := getD_zero (n := ts.length) rfl (by omega)
        walk_at "zz"
        refine pw_idxr e te ?_
        walk_at "zz"
        exact rd_nx (app t h3 (ht t tm).1 (ht t tm).2 e hs3 fr3)
      · walk_at "zz"
        refine take_wp hs3 (by omega) (by omega) fun u h4 u0 u1 hs4 fr4 => ?_
        have e4 := fr4.get ne e
        walk_at "zz"
        exact rd_nx (app u h4 u0 u1 e4 hs4 (fr3.trans fr4))
    · walk_at "zz"
      (with_reducible first | refine tw_dec (fun c2 => ?_) (fun c2 => ?_) | refine aw_dec (fun c2 => ?_) (fun c2 => ?_) | refine ow_dec (fun c2 => ?_) (fun c2 => ?_) | refine bw_dec (fun c2 => ?_) (fun c2 => ?_) | refine tw_b (fun c2 => ?_) (fun c2 => ?_) | refine aw_b (fun c2 => ?_) (fun c2 => ?_) | refine ow_b (fun c2 => ?_) (fun c2 => ?_) | refine bw_b (fun c2 => ?_) (fun c2 => ?_))
      · walk_at "zz"
        refine take_wp hs3 (by omega) (by omega) fun u h4 u0 u1 hs4 fr4 => ?_
        have e4 := fr4.get ne e
        walk_at "zz"
        refine rd_nx (app _ h4 ?_ ?_ e4 hs4 (fr3.trans fr4))
        · exact Int.mul_nonneg (by omega) u0
        · have : u = 0 ∨ u = 1 := by omega
          rcases this with rfl | rfl
          · simp; omega
          · simp; omega
      · walk_at "zz"
        (with_reducible first | refine tw_dec (fun c3 => ?_) (fun c3 => ?_) | refine aw_dec (fun c3 => ?_) (fun c3 => ?_) | refine ow_dec (fun c3 => ?_) (fun c3 => ?_) | refine bw_dec (fun c3 => ?_) (fun c3 => ?_) | refine tw_b (fun c3 => ?_) (fun c3 => ?_) | refine aw_b (fun c3 => ?_) (fun c3 => ?_) | refine ow_b (fun c3 => ?_) (fun c3 => ?_) | refine bw_b (fun c3 => ?_) (fun c3 => ?_))
        · walk_at "zz"
          refine take_wp hs3 (by omega) (by omega) fun u h4 u0 u1 hs4 fr4 => ?_
          have e4 := fr4.get ne e
          walk_at "zz"
          exact rd_nx (app _ h4 (Int.emod_nonneg _ (by omega)) (Int.emod_lt_of_pos _ (by omega)) e4 hs4 (fr3.trans fr4))
        · walk_at "zz"
          refine take_wp hs3 (by omega) (by omega) fun u h4 u0 u1 hs4 fr4 => ?_
          have e4 := fr4.get ne e
          walk_at "zz"
          exact rd_nx (app u h4 u0 u1 e4 hs4 (fr3.trans fr4))
  · rintro _ h3 ⟨ts, v, rfl, e, lt, ht, hs3, fr3⟩
    walk_at "zz"
    refine pw_sorted e (intsOf_map ts) ?_
    walk_at "zz"
    refine pw_tuple (x := .ref _) (xs := (sortI ts).map .int) (by simp only [Z.listOf, get_new]) ?_
    walk_at "zz"
    refine q (sortI ts) _ ?_ ?_ hs3.app (fr3.trans .app)
    · rw [(sortI_perm ts).length_eq]; omega
    · exact up_of (sortI_sorted ts) fun t tm => ht t ((sortI_perm ts).mem_iff.mp tm)
end K06

set_option Elab.async false
set_option linter.all false
set_option maxRecDepth 100000
set_option maxHeartbeats 4000000
namespace K06
open PySem L2 Z
variable {k : Nat} {h : Hm} {K : D → Hm → Prop} {X : Exn → Hm → Prop} {s : Nat}
theorem up_sorted {top : Int} : ∀ {l : List Int} {low : Int}, Up top low l → l.Pairwise (· ≤ ·)
  | [], _, _ => .nil
  | t :: r, _, h => .cons (fun u hu => (up_all h.2.2 u hu).1) (up_sorted h.2.2)
theorem atD_get {ts : List Int} {i : Int} (i0 : 0 ≤ i) (l : i.toNat < ts.length) : atD (ts.map D.int) i = some (.int (ts[i.toNat]'l)) := by
  rw [atD_pos (by simpa using l) i0]
  simp [l]
theorem ixN_get {n : Nat} {i : Int} (i0 : 0 ≤ i) (l : i < n) : ixN n i = some i.toNat := by simp [ixN, i0, l]
/-- what a wrong chord is -/
def Wrong (ring : Int) (ts : List Int) : Prop := ¬(1 ≤ ts.length ∧ ts.length ≤ 8 ∧ Up ring 0 ts)
theorem wrong_set {ring v : Int} {ts : List Int} {m : Nat} (l : m < ts.length) (hv : v < 0 ∨ ring ≤ v) : Wrong ring (ts.set m v) := by
  rintro ⟨_, _, u⟩
  have := up_all u v (by
    refine List.mem_iff_getElem.mpr ⟨m, by simpa using l, by simp⟩)
  omega
theorem wrong_swap {ring : Int} {ts : List Int} {m : Nat} (l : m + 1 < ts.length) (lt : ts[m]'(by omega) < ts[m + 1]) : Wrong ring ((ts.set m ts[m + 1]).set (m + 1) (ts[m]'(by omega))) := by
  rintro ⟨_, _, u⟩
  have p := List.pairwise_iff_getElem.mp (up_sorted u) m (m + 1) (by simp; omega) (by simp; omega) (by omega)
  simp [List.getElem_set] at p
  omega
theorem tup_set {r m : Nat} {v : Int} {ts : List Int} (e : h[r]? = some (.lst (ts.map .int))) : Z.listOf (h.set r (.lst ((ts.map D.int).set m (.int v)))) (.ref r) = some ((ts.set m v).map .int) := by
  simp only [Z.listOf, get_set e, List.map_set]
theorem badchord_wp {ring many : Int} (hs : StoreOk h s) (r1 : 1 ≤ ring) (r2 : ring < 1000000) (m1 : 1 ≤ many) (m2 : many < 1000000) (q : ∀ (ts : List Int) h', Wrong ring ts → StoreOk h' s → Fr s h h' → K (.tup (ts.map .int)) h') : C (k + 3) i_law_bad_chord [.ref s, .int ring, .int many] h K X := by
  refine rw_in (fn := f_law_bad_chord) (b := b_law_bad_chord) rfl rfl rfl (ρ := [some (.ref s), some (.int ring), some (.int many), none, none, none, none, none, none]) rfl ?_; delta b_law_bad_chord
  walk_at "zz"
  refine take_wp hs (by omega) (by omega) fun d h1 d0 d1 hs1 fr1 => ?_
  walk_at "zz"
  (with_reducible first | refine tw_dec (fun c => ?_) (fun c => ?_) | refine aw_dec (fun c => ?_) (fun c => ?_) | refine ow_dec (fun c => ?_) (fun c => ?_) | refine bw_dec (fun c => ?_) (fun c => ?_) | refine tw_b (fun c => ?_) (fun c => ?_) | refine aw_b (fun c => ?_) (fun c => ?_) | refine ow_b (fun c => ?_) (fun c => ?_) | refine bw_b (fun c => ?_) (fun c => ?_))
  · walk_at "zz"
    exact q [] _ (fun z => by simp at z) hs1 fr1
  walk_at "zz"
  (with_reducible first | refine tw_dec (fun c => ?_) (fun c => ?_) | refine aw_dec (fun c => ?_) (fun c => ?_) | refine ow_dec (fun c => ?_) (fun c => ?_) | refine bw_dec (fun c => ?_) (fun c => ?_) | refine tw_b (fun c => ?_) (fun c => ?_) | refine aw_b (fun c => ?_) (fun c => ?_) | refine ow_b (fun c => ?_) (fun c => ?_) | refine bw_b (fun c => ?_) (fun c => ?_))
  · walk_at "zz"
    refine chord_wp hs1 r1 r2 (by omega) (by omega) fun ts h2 l u hs2 fr2 => ?_
    walk_at "zz"
    refine pw_addt (by simp only [List.length_map, List.length_cons, List.length_nil]; exact le_size (by omega)) ?_
    walk_at "zz"
    have : ts.map D.int ++ [D.int (ring - 1)] = (ts ++ [ring - 1]).map .int := by simp
    rw [this]
    exact q _ _ (fun z => by simp at z; omega) hs2 (fr1.trans fr2)
  walk_at "zz"
  refine chord_wp hs1 r1 r2 (by omega) (by omega) fun ts h2 l u hs2 fr2 => ?_
  walk_at "zz"
  refine pw_list (x := .tup _) rfl ?_
  have hs3 : StoreOk (h2 ++ [.lst (ts.map .int)]) s := hs2.app
  have fr3 : Fr s h (h2 ++ [.lst (ts.map .int)]) := fr1.trans (fr2.trans .app)
  have e3 : (h2 ++ [.lst (ts.map .int)])[h2.length]? = some (.lst (ts.map .int)) := get_new
  have lr : s < h2.length := hs2.lt
  have lh : h.length ≤ h2.length := (fr1.trans fr2).1
  generalize h2.length = r at e3 lr lh ⊢
  generalize h2 ++ [.lst (ts.map .int)] = h3 at hs3 fr3 e3 ⊢
  clear hs2 fr2
  walk_at "zz"
  refine ew_comp ?_
  walk_at "zz"
  refine ⟨_, _, src_r1 (small_k (by omega) (by omega)), ?_⟩
  have l3 : s < h3.length := hs3.lt
  have l33 : h.length ≤ h3.length := fr3.1
  have l3r : r < h3.length := lt_of_get e3
  rw [range_up]
  refine rw_comp (I := fun xs acc h' => ∃ (js : List Int) (lo : Int) (n : Nat), xs = upD lo n ∧ 0 ≤ lo ∧ lo + n = (many - 1).toNat ∧ acc = js.map .int ∧ (js.length : Int) ≤ lo ∧ (∀ j ∈ js, ∃ (j0 : 0 ≤ j) (jl : j.toNat + 1 < ts.length), ts[j.toNat]'(by omega) < ts[j.toNat + 1]) ∧ h' = h3 ++ [.lst (js.map .int)]) [] ⟨[], 0, _, rfl, by omega, by omega, rfl, by simp, by simp, rfl⟩ (fun _ _ _ _ => rfl) ?_ ?_
  · rintro x xs acc h' ⟨js, lo, n, en, lo0, ln, rfl, lj, hj, rfl⟩
    cases n with
    | zero => simp [upD] at en
    | succ n =>
      simp only [upD, List.cons.injEq] at en
      obtain ⟨rfl, rfl⟩ := en
      refine ⟨_, rfl, ?_⟩
      walk_at "zz"
      refine pw_idxr (get_app e3) (atD_get lo0 (by omega)) ?_
      walk_at "zz"
      refine pw_idxr (get_app e3) (atD_get (by omega) (by omega)) ?_
      walk_at "zz"
      (with_reducible first | refine tw_dec (fun cc => ?_) (fun cc => ?_) | refine aw_dec (fun cc => ?_) (fun cc => ?_) | refine ow_dec (fun cc => ?_) (fun cc => ?_) | refine bw_dec (fun cc => ?_) (fun cc => ?_) | refine tw_b (fun cc => ?_) (fun cc => ?_) | refine aw_b (fun cc => ?_) (fun cc => ?_) | refine ow_b (fun cc => ?_) (fun cc => ?_) | refine bw_b (fun cc => ?_) (fun cc => ?_))
      · walk_at "zz"
        refine ⟨get_new, ?_, js ++ [lo], lo + 1, n, rfl, by omega, by omega, by simp, by simp; omega, ?_, ?_⟩
        · rw [List.length_map]
          exact Nat.lt_of_lt_of_le (show js.length < 1000000 by omega) (by decide)
        · intro j hjm
          rcases List.mem_append.mp hjm with hjm | hjm
          · exact hj j hjm
          · simp only [List.mem_singleton] at hjm
            subst hjm
            refine ⟨lo0, by omega, ?_⟩
            have : (j + 1).toNat = j.toNat + 1 := by omega
            simpa [this] using cc
        · simp
      · exact ⟨js, lo + 1, n, rfl, by omega, by omega, rfl, by omega, hj, rfl⟩
  rintro acc h' ⟨js, lo, n, en, lo0, ln, rfl, lj, hj, rfl⟩
  have e4 : (h3 ++ [.lst (js.map .int)])[r]? = some (.lst (ts.map .int)) := get_app e3
  have ej : (h3 ++ [.lst (js.map .int)])[h3.length]? = some (.lst (js.map .int)) := get_new
  have hs4 : StoreOk (h3 ++ [.lst (js.map .int)]) s := hs3.app
  have fr4 : Fr s h (h3 ++ [.lst (js.map .int)]) := fr3.trans .app
  generalize h3 ++ [.lst (js.map .int)] = h4 at e4 ej hs4 fr4 ⊢
  have nrs : r ≠ s := by omega
  have jlr : h3.length ≠ s := by omega
  have tl : (ts.map D.int).length = ts.length := by simp
  walk_at "zz"
  (with_reducible first | refine tw_dec (fun c2 => ?_) (fun c2 => ?_) | refine aw_dec (fun c2 => ?_) (fun c2 => ?_) | refine ow_dec (fun c2 => ?_) (fun c2 => ?_) | refine bw_dec (fun c2 => ?_) (fun c2 => ?_) | refine tw_b (fun c2 => ?_) (fun c2 => ?_) | refine aw_b (fun c2 => ?_) (fun c2 => ?_) | refine ow_b (fun c2 => ?_) (fun c2 => ?_) | refine bw_b (fun c2 => ?_) (fun c2 => ?_))
  · walk_at "zz"
    refine take_wp hs4 (by omega) (by omega) fun u h5 u0 u1 hs5 fr5 => ?_
    have e5 := fr5.get nrs e4
    walk_at "zz"
    refine rw_setix e5 (ixN_get (by omega) (by omega)) ?_
    walk_at "zz"
    refine pw_tuple (x := .ref r) (tup_set e5) ?_
    walk_at "zz"
    exact q _ _ (wrong_set (by omega) (.inl (by omega))) (hs5.setn (by omega)) ((fr4.trans fr5).setn lh)
  have last : ∀ {Q : O → Prop} {ρ : Env'}, ρ[0]? = some (some (.ref s)) → ρ[1]? = some (some (.int ring)) → ρ[2]? = some (some (.int many)) → ρ[4]? = some (some (.ref r)) →
      (∀ u h5, 0 ≤ u → StoreOk h5 s → Fr s h4 h5 → h5[r]? = some (.lst (ts.map .int)) → Q (.nx ρ (h5.set r (.lst ((ts.map D.int).set (many - 1).toNat (.int (ring + u))))))) →
      SW (callF pg fuel (k + 2)) fuel pg.sub (.setix (.var 4) (.prim .sub (.cons (.var 2) (.cons (.lit (.int 1)) .nil))) (.prim .add (.cons (.var 1) (.cons (.call i_law_take (.cons (.var 0) (.cons (.lit (.int 3)) .nil))) .nil)))) ρ h4 Q := by
    intro Q ρ e0 e1 e2 e4' kk
    refine sw_setix (ew_prim (lw_cons (ew_var e1 (lw_cons (ew_call (lw_cons (ew_var e0 (lw_cons (ew_lit (lw_nil ?_))))))))))
    refine take_wp hs4 (by omega) (by omega) fun u h5 u0 u1 hs5 fr5 => ?_
    have e5 := fr5.get nrs e4
    refine lw_nil (pw_add (ew_var e4' (ew_prim (lw_cons (ew_var e2 (lw_cons (ew_lit (lw_nil (pw_sub ?_)))))))))
    refine rw_setix e5 (ixN_get (by omega) (by omega)) ?_
    exact kk u h5 u0 hs5 fr5 e5
  walk_at "zz"
  (with_reducible first | refine tw_dec (fun c3 => ?_) (fun c3 => ?_) | refine aw_dec (fun c3 => ?_) (fun c3 => ?_) | refine ow_dec (fun c3 => ?_) (fun c3 => ?_) | refine bw_dec (fun c3 => ?_) (fun c3 => ?_) | refine tw_b (fun c3 => ?_) (fun c3 => ?_) | refine aw_b (fun c3 => ?_) (fun c3 => ?_) | refine ow_b (fun c3 => ?_) (fun c3 => ?_) | refine bw_b (fun c3 => ?_) (fun c3 => ?_))
  · refine tw_t (last rfl rfl rfl rfl fun u h5 u0 hs5 fr5 e5 => ?_)
    walk_at "zz"
    refine pw_tuple (x := .ref r) (tup_set e5) ?_
    walk_at "zz"
    exact q _ _ (wrong_set (by omega) (.inr (by omega))) (hs5.setn (by omega)) ((fr4.trans fr5).setn lh)
  walk_at "zz"
  (with_reducible first | refine tw_dec (fun c4 => ?_) (fun c4 => ?_) | refine aw_dec (fun c4 => ?_) (fun c4 => ?_) | refine ow_dec (fun c4 => ?_) (fun c4 => ?_) | refine bw_dec (fun c4 => ?_) (fun c4 => ?_) | refine tw_b (fun c4 => ?_) (fun c4 => ?_) | refine aw_b (fun c4 => ?_) (fun c4 => ?_) | refine ow_b (fun c4 => ?_) (fun c4 => ?_) | refine bw_b (fun c4 => ?_) (fun c4 => ?_))
  · refine last rfl rfl rfl rfl fun u h5 u0 hs5 fr5 e5 => ?_
    walk_at "zz"
    refine pw_tuple (x := .ref r) (tup_set e5) ?_
    walk_at "zz"
    exact q _ _ (wrong_set (by omega) (.inr (by omega))) (hs5.setn (by omega)) ((fr4.trans fr5).setn lh)
  rw [List.length_map] at c4
  walk_at "zz"
  refine pickr_wp hs4 ej jlr (by rw [List.length_map]; omega) (by rw [List.length_map]; omega) fun d h5 hd hs5 fr5 => ?_
  obtain ⟨j, jm, rfl⟩ := List.mem_map.mp hd
  obtain ⟨j0, jl, jlt⟩ := hj j jm
  have e5 := fr5.get nrs e4
  have j1 : (j + 1).toNat = j.toNat + 1 := by omega
  walk_at "zz"
  refine pw_idxr e5 (atD_get j0 (by omega)) ?_
  walk_at "zz"
  refine pw_idxr e5 (atD_get (by omega) (by omega)) ?_
  walk_at "zz"
  refine rw_setix e5 (ixN_get (by omega) (by omega)) ?_
  walk_at "zz"
  refine rw_setix (get_set e5) (ixN_get (by omega) (by rw [List.length_set]; omega)) ?_
  walk_at "zz"
  refine pw_tuple (x := .ref r) (xs := ((ts.set j.toNat (ts[j.toNat + 1]'jl)).set (j.toNat + 1) (ts[j.toNat]'(by omega))).map .int) ?_ ?_
  · simp only [Z.listOf, get_set (get_set e5), List.map_set, j1]
  walk_at "zz"
  exact q _ _ (wrong_swap jl jlt) ((hs5.setn (by omega)).setn (by omega)) (((fr4.trans fr5).setn lh).setn lh)
end K06

set_option Elab.async false
set_option linter.all false
set_option maxRecDepth 100000
set_option maxHeartbeats 4000000
namespace K06
open PySem L2 Z
variable {k : Nat} {h : Hm} {K : D → Hm → Prop} {X : Exn → Hm → Prop} {s : Nat}
abbrev xR : Exn := ⟨Str.ofString "RingError", [], []⟩
abbrev xS : Exn := ⟨Str.ofString "ShapeError", [], []⟩

theorem cr_wp {r : Int} (a : 1 ≤ r → r ≤ 48 → K (.int r) h) (b : (r < 1 ∨ 48 < r) → X xR h) : C (k + 1) i_check_ring [.int r] h K X := by
  refine rw_in (fn := f_check_ring) (b := b_check_ring) rfl rfl rfl (ρ := [some (.int r)]) rfl ?_; delta b_check_ring
  walk_at "zz"
  (with_reducible first | refine tw_dec (fun c => ?_) (fun c => ?_) | refine aw_dec (fun c => ?_) (fun c => ?_) | refine ow_dec (fun c => ?_) (fun c => ?_) | refine bw_dec (fun c => ?_) (fun c => ?_) | refine tw_b (fun c => ?_) (fun c => ?_) | refine aw_b (fun c => ?_) (fun c => ?_) | refine ow_b (fun c => ?_) (fun c => ?_) | refine bw_b (fun c => ?_) (fun c => ?_))
  · walk_at "zz"
    (with_reducible first | refine tw_dec (fun c2 => ?_) (fun c2 => ?_) | refine aw_dec (fun c2 => ?_) (fun c2 => ?_) | refine ow_dec (fun c2 => ?_) (fun c2 => ?_) | refine bw_dec (fun c2 => ?_) (fun c2 => ?_) | refine tw_b (fun c2 => ?_) (fun c2 => ?_) | refine aw_b (fun c2 => ?_) (fun c2 => ?_) | refine ow_b (fun c2 => ?_) (fun c2 => ?_) | refine bw_b (fun c2 => ?_) (fun c2 => ?_))
    · walk_at "zz"
      exact b (by omega)
    · walk_at "zz"
      exact a c (by omega)
  · walk_at "zz"
    exact b (by omega)
theorem cc_wp {ring : Int} {ts : List Int} (ok : 1 ≤ ring → ring ≤ 48 → 1 ≤ ts.length → ts.length ≤ 8 → Up ring 0 ts → K (tupI ts) h) (bad : (ring < 1 ∨ 48 < ring) → X xR h) (wr : 1 ≤ ring → ring ≤ 48 → Wrong ring ts → X xS h) : C (k + 2) i_check_chord [.int ring, tupI ts] h K X := by
  refine rw_in (fn := f_check_chord) (b := b_check_chord) rfl rfl rfl (ρ := [some (.int ring), some (tupI ts), none, none]) rfl ?_; delta b_check_chord
  walk_at "zz"
  refine cr_wp (fun r1 r2 => ?_) fun q => ?_
  · walk_at "zz"
    have tl : (ts.map D.int).length = ts.length := by simp
    (with_reducible first | refine tw_dec (fun c => ?_) (fun c => ?_) | refine aw_dec (fun c => ?_) (fun c => ?_) | refine ow_dec (fun c => ?_) (fun c => ?_) | refine bw_dec (fun c => ?_) (fun c => ?_) | refine tw_b (fun c => ?_) (fun c => ?_) | refine aw_b (fun c => ?_) (fun c => ?_) | refine ow_b (fun c => ?_) (fun c => ?_) | refine bw_b (fun c => ?_) (fun c => ?_))
    · walk_at "zz"
      (with_reducible first | refine tw_dec (fun c2 => ?_) (fun c2 => ?_) | refine aw_dec (fun c2 => ?_) (fun c2 => ?_) | refine ow_dec (fun c2 => ?_) (fun c2 => ?_) | refine bw_dec (fun c2 => ?_) (fun c2 => ?_) | refine tw_b (fun c2 => ?_) (fun c2 => ?_) | refine aw_b (fun c2 => ?_) (fun c2 => ?_) | refine ow_b (fun c2 => ?_) (fun c2 => ?_) | refine bw_b (fun c2 => ?_) (fun c2 => ?_))
      · walk_at "zz"
        exact wr r1 r2 (fun z => by omega)
      · walk_at "zz"
        refine ⟨_, _, src_t, ?_⟩
        refine fw_inv (I := fun r ρ2 h2 => ∃ (us : List Int) (low : Int) (v : Option D), r = us.map .int ∧ ρ2 = [some (.int ring), some (tupI ts), some (.int low), v] ∧ h2 = h ∧ (Up ring low us ↔ Up ring 0 ts)) ⟨ts, 0, none, rfl, rfl, rfl, .rfl⟩ (fun _ _ _ _ => rfl) ?_ ?_
        · rintro x r _ _ ⟨us, low, v, er, rfl, rfl, hu⟩
          cases us with
          | nil => simp at er
          | cons t us =>
            simp only [List.map_cons, List.cons.injEq] at er
            obtain ⟨rfl, rfl⟩ := er
            refine ⟨_, rfl, ?_⟩
            walk_at "zz"
            (with_reducible first | refine tw_dec (fun c3 => ?_) (fun c3 => ?_) | refine aw_dec (fun c3 => ?_) (fun c3 => ?_) | refine ow_dec (fun c3 => ?_) (fun c3 => ?_) | refine bw_dec (fun c3 => ?_) (fun c3 => ?_) | refine tw_b (fun c3 => ?_) (fun c3 => ?_) | refine aw_b (fun c3 => ?_) (fun c3 => ?_) | refine ow_b (fun c3 => ?_) (fun c3 => ?_) | refine bw_b (fun c3 => ?_) (fun c3 => ?_))
            · walk_at "zz"
              (with_reducible first | refine tw_dec (fun c4 => ?_) (fun c4 => ?_) | refine aw_dec (fun c4 => ?_) (fun c4 => ?_) | refine ow_dec (fun c4 => ?_) (fun c4 => ?_) | refine bw_dec (fun c4 => ?_) (fun c4 => ?_) | refine tw_b (fun c4 => ?_) (fun c4 => ?_) | refine aw_b (fun c4 => ?_) (fun c4 => ?_) | refine ow_b (fun c4 => ?_) (fun c4 => ?_) | refine bw_b (fun c4 => ?_) (fun c4 => ?_))
              · walk_at "zz"
                exact wr r1 r2 (fun z => c4 (hu.mpr z.2.2).2.1)
              · walk_at "zz"
                exact rd_nx ⟨us, t, _, rfl, rfl, rfl, ⟨fun q => hu.mp ⟨c3, by omega, q⟩, fun q => (hu.mpr q).2.2⟩⟩
            · walk_at "zz"
              exact wr r1 r2 (fun z => c3 (hu.mpr z.2.2).1)
        · rintro _ _ ⟨us, low, v, er, rfl, rfl, hu⟩
          have : us = [] := by simpa using er.symm
          subst this
          walk_at "zz"
          exact ok r1 r2 (by omega) (by omega) (hu.mp trivial)
    · walk_at "zz"
      exact wr r1 r2 (fun z => by omega)
  · walk_at "zz"
    exact bad q
end K06

set_option Elab.async false
set_option linter.all false
set_option maxRecDepth 100000
set_option maxHeartbeats 4000000
namespace K06
open PySem L2 Z
variable {k : Nat} {h : Hm} {K : D → Hm → Prop} {X : Exn → Hm → Prop} {s : Nat}
theorem whole_is {d : D} {b : Bool} (e : kInt d = some b) (e2 : kBool d = some (!b) ∨ kBool d = some false) (q : K (.bl b) h) (z : b = true → kBool d = some false) : C (k + 1) i_law_is_whole [d] h K X := by
  refine rw_in (fn := f_law_is_whole) (b := b_law_is_whole) rfl rfl rfl (ρ := [some d]) rfl ?_; delta b_law_is_whole
  walk_at "zz"
  refine pw_isint e ?_
  (with_reducible first | refine tw_dec (fun c => ?_) (fun c => ?_) | refine aw_dec (fun c => ?_) (fun c => ?_) | refine ow_dec (fun c => ?_) (fun c => ?_) | refine bw_dec (fun c => ?_) (fun c => ?_) | refine tw_b (fun c => ?_) (fun c => ?_) | refine aw_b (fun c => ?_) (fun c => ?_) | refine ow_b (fun c => ?_) (fun c => ?_) | refine bw_b (fun c => ?_) (fun c => ?_))
  · walk_at "zz"
    refine pw_isbool (z c) ?_
    walk_at "zz"
    subst c
    exact q
  · subst c
    walk_at "zz"
    exact q
/-- the same, as the law asks it -/
def Sm (h : Hm) : Nat → D → D → Prop
  | _, .non, .non => True
  | _, .bl a, .bl b => a = b
  | _, .int i, .int j => i = j
  | _, .str s, .str t => s = t ∧ SeqAt.shaped (PyData.str s) = true
  | n + 1, .tup xs, .tup ys => xs.length = ys.length ∧ xs.length ≤ 1000000 ∧ ∀ (i : Nat) x y, xs[i]? = some x → ys[i]? = some y → Sm h n x y
  | n + 1, .ref a, .ref b => ∃ xs ys, h[a]? = some (.lst xs) ∧ h[b]? = some (.lst ys) ∧ xs.length = ys.length ∧ xs.length ≤ 1000000 ∧ ∀ (i : Nat) x y, xs[i]? = some x → ys[i]? = some y → Sm h n x y
  | _, _, _ => False
theorem eqD_str {a : Str} (z : SeqAt.shaped (PyData.str a) = true) : eqD (.str a) (.str a) h = some true := by
  show (if SeqAt.shaped (PyData.str a) = true ∧ SeqAt.shaped (PyData.str a) = true then some (PyData.eqv (.str a) (.str a)) else none) = some true
  rw [if_pos ⟨z, z⟩]
  simp [PyData.eqv]
theorem kl_ref {r : Nat} {xs : List D} (e : h[r]? = some (.lst xs)) : kList h (.ref r) = some true := by simp [kList, e]
theorem ks_ref {r : Nat} {xs : List D} (e : h[r]? = some (.lst xs)) : kSeq h (.ref r) = some true := by simp [kSeq, kl_ref e, Z.kTup]
theorem same_flat {n : Nat} {d e : D} (t : Sm h n d e) (fl : d.flat = true) (q : K (.bl true) h) : C (k + 2) i_law_same [d, e] h K X := by
  refine rw_in (fn := f_law_same) (b := b_law_same) rfl rfl rfl (ρ := [some d, some e, none]) rfl ?_; delta b_law_same
  cases d with
  | non => cases e <;> first | (cases n <;> exact t.elim) | (walk_at "zz"; exact q)
  | bl b =>
    cases e with
    | bl c => have t : b = c := by { cases n <;> exact t }; subst t; cases b <;> (walk_at "zz"; exact q)
    | _ => cases n <;> exact t.elim
  | int i =>
    cases e with
    | int j =>
      have t : i = j := by { cases n <;> exact t }
      subst t
      walk_at "zz"
      refine whole_is (b := true) rfl (.inr rfl) ?_ (fun _ => rfl)
      walk_at "zz"
      simpa using q
    | _ => cases n <;> exact t.elim
  | str s =>
    cases e with
    | str s' =>
      have t : s = s' ∧ SeqAt.shaped (PyData.str s) = true := by { cases n <;> exact t }
      obtain ⟨rfl, t2⟩ := t
      walk_at "zz"
      refine pw_eqD (eqD_str t2) ?_
      walk_at "zz"
      exact q
    | _ => cases n <;> exact t.elim
  | tup xs => cases fl
  | ref r => cases fl
  | ro xs => cases fl
  | xv a b c => cases fl
theorem atD_some {xs : List D} {j : Int} (j0 : 0 ≤ j) (jl : j.toNat < xs.length) : atD xs j = some (xs[j.toNat]'jl) := (atD_pos jl j0).trans (by simp [jl])
theorem same_wp : ∀ (n : Nat) {d e : D}, Sm h n d e → ∀ {k : Nat} {K : D → Hm → Prop} {X : Exn → Hm → Prop}, K (.bl true) h → C (k + n + 2) i_law_same [d, e] h K X := by
  intro n
  induction n with
  | zero =>
    intro d e t k K X q
    cases d with
    | tup xs => cases e <;> exact t.elim
    | ref r => cases e <;> exact t.elim
    | ro xs => exact t.elim
    | xv a b c => exact t.elim
    | _ => exact same_flat t rfl q
  | succ n ih =>
    intro d e t k K X q
    cases d with
    | tup xs =>
      cases e with
      | tup ys =>
        obtain ⟨l1, l2, t⟩ := t
        refine rw_in (fn := f_law_same) (b := b_law_same) rfl rfl rfl (ρ := [some (.tup xs), some (.tup ys), none]) rfl ?_; delta b_law_same
        walk_at "zz"
        refine ow_f ?_
        walk_at "zz"
        refine ⟨_, _, src_r1 (small_k (by omega) (by omega)), ?_⟩
        rw [range_up]
        refine fw_up (I := fun j ρ2 h2 => ∃ (v : Option D), ρ2 = [some (.tup xs), some (.tup ys), v] ∧ h2 = h) ⟨none, rfl, rfl⟩ (fun _ _ _ _ => rfl) ?_ ?_
        · intro j ρ2 h2 j0 j1 hh
          obtain ⟨v, e1, e2⟩ := hh
          subst e1 e2
          refine ⟨_, rfl, ?_⟩
          have jl : j.toNat < xs.length := by omega
          have jl2 : j.toNat < ys.length := by omega
          walk_at "zz"
          refine pw_idxt (atD_some j0 jl) ?_
          walk_at "zz"
          refine pw_idxt (atD_some j0 jl2) ?_
          walk_at "zz"
          refine ih (t j.toNat _ _ (List.getElem?_eq_getElem jl) (List.getElem?_eq_getElem jl2)) ?_
          walk_at "zz"
          exact rd_nx ⟨_, rfl, rfl⟩
        · intro ρ2 h2 hh
          obtain ⟨v, e1, e2⟩ := hh
          subst e1 e2
          walk_at "zz"
          exact q
      | _ => exact t.elim
    | ref a =>
      cases e with
      | ref b =>
        obtain ⟨xs, ys, ea, eb, l1, l2, t⟩ := t
        refine rw_in (fn := f_law_same) (b := b_law_same) rfl rfl rfl (ρ := [some (.ref a), some (.ref b), none]) rfl ?_; delta b_law_same
        walk_at "zz"
        refine pw_islist (kl_ref eb) ?_
        walk_at "zz"
        refine pw_islist (kl_ref ea) ?_
        walk_at "zz"
        refine pw_isseq (ks_ref eb) ?_
        walk_at "zz"
        refine ⟨_, _, src_r1 (small_k (by omega) (by omega)), ?_⟩
        rw [range_up]
        refine fw_up (I := fun j ρ2 h2 => ∃ (v : Option D), ρ2 = [some (.ref a), some (.ref b), v] ∧ h2 = h) ⟨none, rfl, rfl⟩ (fun _ _ _ _ => rfl) ?_ ?_
        · intro j ρ2 h2 j0 j1 hh
          obtain ⟨v, e1, e2⟩ := hh
          subst e1 e2
          refine ⟨_, rfl, ?_⟩
          have jl : j.toNat < xs.length := by omega
          have jl2 : j.toNat < ys.length := by omega
          walk_at "zz"
          refine pw_idxr ea (atD_some j0 jl) ?_
          walk_at "zz"
          refine pw_idxr eb (atD_some j0 jl2) ?_
          walk_at "zz"
          refine ih (t j.toNat _ _ (List.getElem?_eq_getElem jl) (List.getElem?_eq_getElem jl2)) ?_
          walk_at "zz"
          exact rd_nx ⟨_, rfl, rfl⟩
        · intro ρ2 h2 hh
          obtain ⟨v, e1, e2⟩ := hh
          subst e1 e2
          walk_at "zz"
          exact q
      | _ => exact t.elim
    | ro xs => exact t.elim
    | xv a b c => exact t.elim
    | _ => exact same_flat (k := k + n + 1) t rfl q
/-- data without lists are the same as themselves -/
def Tre : Nat → D → Prop
  | _, .non => True
  | _, .bl _ => True
  | _, .int _ => True
  | _, .str s => SeqAt.shaped (PyData.str s) = true
  | n + 1, .tup xs => xs.length ≤ 1000000 ∧ ∀ x ∈ xs, Tre n x
  | _, _ => False
theorem sm_refl : ∀ (n : Nat) {d : D}, Tre n d → Sm h n d d
  | n, .non, _ => by cases n <;> exact trivial
  | n, .bl b, _ => by cases n <;> exact rfl
  | n, .int i, _ => by cases n <;> exact rfl
  | n, .str s, t => by cases n <;> exact ⟨rfl, t⟩
  | 0, .tup xs, t => t.elim
  | n + 1, .tup xs, t => ⟨rfl, t.1, fun i x y e1 e2 => by
      rw [e1] at e2; cases e2
      exact sm_refl n (t.2 x (List.mem_of_getElem? e1))⟩
  | n, .ref r, t => by cases n <;> exact t.elim
  | n, .ro xs, t => by cases n <;> exact t.elim
  | n, .xv a b c, t => by cases n <;> exact t.elim
abbrev ans (d : D) : D := .tup [.str (Str.ofString "answer"), d]
theorem tre_tupI {ts : List Int} (l : ts.length ≤ 1000000) : Tre 1 (tupI ts) := ⟨by simpa using l, fun x hx => by
  obtain ⟨n, _, rfl⟩ := List.mem_map.mp hx
  trivial⟩
theorem tre_one {a : Str} (z : SeqAt.shaped (PyData.str a) = true) : Tre 2 (.tup [.str a]) := ⟨by simp, fun x hx => by
  simp only [List.mem_cons, List.not_mem_nil, or_false] at hx
  subst hx
  exact z⟩
theorem tre_ans {d : D} (t : Tre 1 d) : Tre 2 (ans d) := ⟨by simp, fun x hx => by
  simp only [List.mem_cons, List.not_mem_nil, or_false] at hx
  rcases hx with rfl | rfl
  · exact (by decide +kernel : SeqAt.shaped (PyData.str (Str.ofString "answer")) = true)
  · exact t⟩
theorem sm_ints {a b : Nat} {ns : List Int} (ea : h[a]? = some (.lst (ns.map .int))) (eb : h[b]? = some (.lst (ns.map .int))) (l : ns.length ≤ 1000000) : Sm h 1 (.ref a) (.ref b) :=
  ⟨_, _, ea, eb, rfl, by simpa using l, fun i x y e1 e2 => by
    rw [e1] at e2; cases e2
    rw [List.getElem?_map] at e1
    obtain ⟨n, _, rfl⟩ := Option.map_eq_some_iff.mp e1
    exact rfl⟩
end K06

set_option Elab.async false
set_option linter.all false
set_option maxRecDepth 100000
set_option maxHeartbeats 4000000
namespace K06
open PySem L2 Z
variable {k : Nat} {h : Hm} {K : D → Hm → Prop} {X : Exn → Hm → Prop} {s : Nat}
/-- the tones of some pitches, in order -/
def sortT (ring : Int) (ps : List Int) : List Int := sortI (ps.map fun p => p % ring)
theorem sortT_len {ring : Int} {ps : List Int} : (sortT ring ps).length = ps.length := by
  unfold sortT
  rw [(sortI_perm _).length_eq, List.length_map]
theorem sortT_up {ring : Int} {ps : List Int} (r1 : 1 ≤ ring) : Up ring 0 (sortT ring ps) := by
  refine up_of (sortI_sorted _) fun t ht => ?_
  have := (sortI_perm _).mem_iff.mp ht
  obtain ⟨p, _, rfl⟩ := List.mem_map.mp this
  exact ⟨Int.emod_nonneg _ (by omega), Int.emod_lt_of_pos _ (by omega)⟩
theorem sort_eq {a b : List Int} (p : a.Perm b) : sortI a = sortI b := PySem.W.ksm_same (((sortI_perm a).trans p).trans (sortI_perm b).symm) (sortI_sorted a) (sortI_sorted b)
theorem sort_self {a : List Int} (p : a.Pairwise (· ≤ ·)) : sortI a = a := PySem.W.ksm_same (sortI_perm a) (sortI_sorted a) p
/-- what is done with the tones of some pitches is done with the pitches -/
theorem sortT_map {ring : Int} {ps : List Int} (f : Int → Int) (hf : ∀ p, f (p % ring) % ring = f p % ring) : sortT ring ((sortT ring ps).map f) = sortT ring (ps.map f) := by
  unfold sortT
  refine sort_eq ?_
  rw [List.map_map, List.map_map]
  have p := ((sortI_perm (ps.map fun p => p % ring)).map (fun p => f p % ring))
  rw [List.map_map] at p
  have e : (ps.map ((fun p => f p % ring) ∘ fun p => p % ring)) = ps.map ((fun p => p % ring) ∘ f) := by
    apply List.map_congr_left
    intro a _
    exact hf a
  rw [e] at p
  exact p
theorem sortT_self {ring : Int} {ts : List Int} (u : Up ring 0 ts) : sortT ring ts = ts := by
  unfold sortT
  have : (ts.map fun p => p % ring) = ts := by
    conv => rhs; rw [← List.map_id ts]
    apply List.map_congr_left
    intro a ha
    have := up_all u a ha
    exact Int.emod_eq_of_lt this.1 this.2
  rw [this]
  exact sort_self (up_sorted u)
theorem sortT_id {ring : Int} {ps : List Int} (f : Int → Int) (hf : ∀ p, f p % ring = p % ring) : sortT ring (ps.map f) = sortT ring ps := by
  unfold sortT
  congr 1
  rw [List.map_map]
  exact List.map_congr_left fun a _ => hf a
theorem filt_true (ns : List Int) : ns.filter (fun _ => true) = ns := List.filter_eq_self.mpr (by simp)
section
variable {ring : Int}
theorem st_wp {r : Nat} {ps : List Int} (e : h[r]? = some (.lst (ps.map .int))) (r1 : 1 ≤ ring) (l : ps.length ≤ 1000) (q : ∀ t, K (tupI (sortT ring ps)) (h ++ t)) : C (k + 1) i_sorted_tones [.int ring, .ref r] h K X := by
  refine rw_in (fn := f_sorted_tones) (b := b_sorted_tones) rfl rfl rfl (ρ := [some (.int ring), some (.ref r), none]) rfl ?_; delta b_sorted_tones
  walk_at "zz"
  refine ew_comp ?_
  walk_at "zz"
  refine ⟨_, _, src_r e, ?_⟩
  refine rw_compI (fun n => .int (n % ring)) (fun _ => true) (gd_one e) (Nat.le_trans l (by decide)) (fun n _ u => ⟨_, rfl, ?_, fun _ => ?_⟩) ?_
  · walk_at "zz"
    exact ⟨rfl, rfl⟩
  · walk_at "zz"
    exact ⟨rfl, rfl⟩
  rw [filt_true]
  have em : (ps.map fun n => D.int (n % ring)) = (ps.map fun p => p % ring).map .int := by rw [List.map_map]; rfl
  rw [em]
  walk_at "zz"
  refine pw_sorted get_new (intsOf_map _) ?_
  walk_at "zz"
  refine pw_tupr get_new ?_
  walk_at "zz"
  have := q [.lst ((ps.map fun p => p % ring).map .int), .lst ((sortT ring ps).map .int)]
  rw [List.append_assoc]
  exact this
end
end K06

set_option Elab.async false
set_option linter.all false
set_option maxRecDepth 100000
set_option maxHeartbeats 4000000
namespace K06
open PySem L2 Z
variable {k : Nat} {h : Hm} {K : D → Hm → Prop} {X : Exn → Hm → Prop} {s : Nat}
/-- a list of drawn things, one for each number -/
theorem draws_wp {c : Cal} {i : Nat} {e : E} {ρ : Env'} {m : Nat} (P : D → Prop) (hs : StoreOk h s) (l : m < 1000000)
    (hd : ∀ (j : Int) (h1 : Hm), StoreOk h1 s → Fr s h h1 → EW c e (ρ.set i (some (.int j))) h1 (fun d h2 => P d ∧ StoreOk h2 s ∧ Fr s h1 h2) (fun _ _ => False))
    (q : ∀ (ds : List D) h', ds.length = m → (∀ d ∈ ds, P d) → h'[h.length]? = some (.lst ds) → StoreOk h' s → Fr s h h' → K (.ref h.length) h') :
    RW (compL [] (.name i) ρ (evE c (.lit (.bl true))) (evE c e) h.length (upD 0 m) (h ++ [.lst []])) K X := by
  have ls := hs.lt
  refine rw_comp (I := fun xs acc h' => ∃ (lo : Int) (n : Nat), xs = upD lo n ∧ acc.length + n = m ∧ (∀ d ∈ acc, P d) ∧ h'[h.length]? = some (.lst acc) ∧ StoreOk h' s ∧ Fr s h h') [] ⟨0, m, rfl, by simp, by simp, get_new, hs.app, .app⟩ (fun _ _ _ _ => rfl) ?_ ?_
  · rintro x xs acc h' ⟨lo, n, en, la, pa, ea, hs', fr⟩
    cases n with
    | zero => simp [upD] at en
    | succ n =>
      simp only [upD, List.cons.injEq] at en
      obtain ⟨rfl, rfl⟩ := en
      refine ⟨_, rfl, ew_lit (tw_t (RW.mono (hd lo h' hs' fr) (fun d h2 z => ?_) fun _ _ z => z))⟩
      obtain ⟨pd, hs2, fr2⟩ := z
      have e2 := fr2.get (by omega) ea
      have sz : acc.length < sizeLine := Nat.lt_of_lt_of_le (show acc.length < 1000000 by omega) (by decide)
      refine ⟨e2, sz, lo + 1, n, rfl, by simp; omega, ?_, get_set e2, hs2.setn ls, (fr.trans fr2).setn (Nat.le_refl _)⟩
      intro d' hd'
      rcases List.mem_append.mp hd' with hd' | hd'
      · exact pa d' hd'
      · simp only [List.mem_singleton] at hd'
        subst hd'; exact pd
  · rintro acc h' ⟨lo, n, en, la, pa, ea, hs', fr⟩
    have : n = 0 := by
      cases n with
      | zero => rfl
      | succ n => simp [upD] at en
    subst this
    exact q acc h' (by omega) pa ea hs' fr
/-- whole numbers all -/
theorem all_ints {ds : List D} (P : Int → Prop) (h : ∀ d ∈ ds, ∃ n : Int, d = .int n ∧ P n) : ∃ ns : List Int, ds = ns.map .int ∧ ∀ n ∈ ns, P n := by
  induction ds with
  | nil => exact ⟨[], rfl, by simp⟩
  | cons d r ih =>
    obtain ⟨n, rfl, p⟩ := h d (by simp)
    obtain ⟨ns, rfl, q⟩ := ih fun d hd => h d (by simp [hd])
    exact ⟨n :: ns, rfl, fun m hm => by
      rcases List.mem_cons.mp hm with rfl | hm
      · exact p
      · exact q m hm⟩
end K06

set_option Elab.async false
set_option linter.all false
set_option maxRecDepth 100000
set_option maxHeartbeats 4000000
namespace K06
open PySem L2 Z
/-! rows of counts, and the order of chords -/
/-- how often i, i + 1, .. stand -/
def rowF (i : Int) : Nat → List Int → List Int
  | 0, _ => []
  | m + 1, ts => (ts.count i : Nat) :: rowF (i + 1) m ts
theorem rowF_len {m : Nat} : ∀ {i : Int} {ts : List Int}, (rowF i m ts).length = m := by
  induction m with
  | zero => intros; rfl
  | succ m ih => intro i ts; simp [rowF, ih]
theorem rowF_get {m : Nat} : ∀ {i : Int} {ts : List Int} {j : Nat}, j < m → (rowF i m ts)[j]? = some ((ts.count (i + j) : Nat) : Int) := by
  induction m with
  | zero => intro i ts j h; omega
  | succ m ih =>
    intro i ts j h
    cases j with
    | zero => simp [rowF]
    | succ j =>
      rw [rowF, List.getElem?_cons_succ, ih (by omega), show i + 1 + (j : Int) = i + ((j + 1 : Nat) : Int) by omega]
theorem rowF_skip {m : Nat} : ∀ {i a : Int} {ts : List Int}, a < i → rowF i m (a :: ts) = rowF i m ts := by
  induction m with
  | zero => intros; rfl
  | succ m ih =>
    intro i a ts l
    rw [rowF, rowF, ih (by omega), List.count_cons_of_ne (by omega)]
theorem count_zero_of {i : Int} {ts : List Int} (h : ∀ t ∈ ts, i < t) : ts.count i = 0 := by
  rw [List.count_eq_zero]
  intro m
  have := h i m
  omega
theorem row_lt : ∀ (m : Nat) (i : Int) (ts us : List Int), ts.Pairwise (· ≤ ·) → us.Pairwise (· ≤ ·) → (∀ t ∈ ts, i ≤ t ∧ t < i + m) → (∀ t ∈ us, i ≤ t ∧ t < i + m) → ts.length = us.length → ts < us → rowF i m us < rowF i m ts := by
  intro m
  induction m with
  | zero =>
    intro i ts us _ _ ht hu hl lt
    cases ts with
    | nil => cases us with
      | nil => exact absurd lt (List.lt_irrefl _)
      | cons b us => simp at hl
    | cons a ts => have := ht a (by simp); omega
  | succ m ihm =>
    intro i ts
    induction ts with
    | nil =>
      intro us _ _ _ _ hl lt
      cases us with
      | nil => exact absurd lt (List.lt_irrefl _)
      | cons b us => simp at hl
    | cons a ts ih =>
      intro us p1 p2 ht hu hl lt
      cases us with
      | nil => simp at hl
      | cons b us =>
        obtain ⟨q1, q1'⟩ := List.pairwise_cons.mp p1
        obtain ⟨q2, q2'⟩ := List.pairwise_cons.mp p2
        have ha := ht a (by simp)
        have hb := hu b (by simp)
        rw [rowF, rowF, List.cons_lt_cons_iff]
        rcases List.cons_lt_cons_iff.mp lt with c | ⟨rfl, c⟩
        · by_cases e : a = i
          · subst e
            left
            have : (b :: us).count a = 0 := count_zero_of fun t ht' => by
              rcases List.mem_cons.mp ht' with rfl | ht'
              · exact c
              · have := q2 t ht'; omega
            rw [this, List.count_cons_self]
            omega
          · right
            have e1 : (b :: us).count i = 0 := count_zero_of fun t ht' => by
              rcases List.mem_cons.mp ht' with rfl | ht'
              · omega
              · have := q2 t ht'; omega
            have e2 : (a :: ts).count i = 0 := count_zero_of fun t ht' => by
              rcases List.mem_cons.mp ht' with rfl | ht'
              · omega
              · have := q1 t ht'; omega
            rw [e1, e2]
            refine ⟨rfl, ihm (i + 1) (a :: ts) (b :: us) p1 p2 (fun t h => ?_) (fun t h => ?_) hl lt⟩
            · have h1 := ht t h
              have : t ≠ i := fun z => by subst z; exact (List.count_eq_zero.mp e2) h
              omega
            · have h1 := hu t h
              have : t ≠ i := fun z => by subst z; exact (List.count_eq_zero.mp e1) h
              omega
        · by_cases e : a = i
          · subst e
            have r := ih us q1' q2' (fun t h => ht t (by simp [h])) (fun t h => hu t (by simp [h])) (by simpa using hl) c
            rw [rowF, rowF, List.cons_lt_cons_iff] at r
            rw [List.count_cons_self, List.count_cons_self, rowF_skip (by omega), rowF_skip (by omega)]
            rcases r with r | ⟨r1, r2⟩
            · left; omega
            · right; exact ⟨by omega, r2⟩
          · right
            have e1 : (a :: us).count i = 0 := count_zero_of fun t ht' => by
              rcases List.mem_cons.mp ht' with rfl | ht'
              · omega
              · have := q2 t ht'; omega
            have e2 : (a :: ts).count i = 0 := count_zero_of fun t ht' => by
              rcases List.mem_cons.mp ht' with rfl | ht'
              · omega
              · have := q1 t ht'; omega
            rw [e1, e2]
            refine ⟨rfl, ihm (i + 1) (a :: ts) (a :: us) p1 p2 (fun t h => ?_) (fun t h => ?_) hl lt⟩
            · have h1 := ht t h
              have : t ≠ i := fun z => by subst z; exact (List.count_eq_zero.mp e2) h
              omega
            · have h1 := hu t h
              have : t ≠ i := fun z => by subst z; exact (List.count_eq_zero.mp e1) h
              omega
/-- the row of counts of a chord of the ring -/
abbrev rowI (ring : Int) (ts : List Int) : List Int := rowF 0 ring.toNat ts
section
variable {ring : Int} {ts us : List Int}
theorem up_rng (u : Up ring 0 ts) : ∀ t ∈ ts, 0 ≤ t ∧ t < 0 + (ring.toNat : Int) := fun t h => by
  have := up_all u t h
  omega
theorem up_srt {top : Int} : ∀ {l : List Int} {low : Int}, Up top low l → l.Pairwise (· ≤ ·)
  | [], _, _ => .nil
  | t :: r, _, h => .cons (fun u hu => (up_all h.2.2 u hu).1) (up_srt h.2.2)
theorem row_iff (u : Up ring 0 ts) (v : Up ring 0 us) (l : ts.length = us.length) : ts < us ↔ rowI ring us < rowI ring ts := by
  constructor
  · exact row_lt _ 0 ts us (up_srt u) (up_srt v) (up_rng u) (up_rng v) l
  · intro h
    have c1 : ¬ us < ts := fun z => by
      have := row_lt _ 0 us ts (up_srt v) (up_srt u) (up_rng v) (up_rng u) l.symm z
      exact absurd h (List.not_lt.mpr (List.le_of_lt this))
    have c2 : us ≠ ts := fun z => by
      subst z
      exact List.lt_irrefl _ h
    have c3 := List.not_lt.mp c1
    rcases List.le_iff_lt_or_eq.mp c3 with z | z
    · exact z
    · exact absurd z.symm c2
theorem anti {a b : List Int} (h1 : ¬ a < b) (h2 : ¬ b < a) : a = b := List.le_antisymm (List.not_lt.mp h2) (List.not_lt.mp h1)
theorem row_eq (u : Up ring 0 ts) (v : Up ring 0 us) (l : ts.length = us.length) : ts = us ↔ rowI ring ts = rowI ring us := by
  constructor
  · intro h; rw [h]
  · intro h
    refine anti (fun z => ?_) (fun z => ?_)
    · have := (row_iff u v l).mp z
      rw [h] at this
      exact List.lt_irrefl _ this
    · have := (row_iff v u l.symm).mp z
      rw [h] at this
      exact List.lt_irrefl _ this
end
end K06

set_option Elab.async false
set_option linter.all false
set_option maxRecDepth 100000
set_option maxHeartbeats 4000000
namespace K06
open PySem L2 Z
def turnI (row : List Int) (b : Nat) : List Int := row.drop (row.length - b) ++ row.take (row.length - b)
section
variable {ring : Int} {ts us : List Int}
theorem turn_len {row : List Int} {b : Nat} : (turnI row b).length = row.length := by
  unfold turnI
  rw [List.length_append, List.length_drop, List.length_take]
  omega
theorem turn_get {row : List Int} {b j : Nat} (hb : b ≤ row.length) (hj : j < row.length) : (turnI row b)[j]? = row[if j < b then row.length - b + j else j - b]? := by
  unfold turnI
  by_cases c : j < b
  · rw [if_pos c, List.getElem?_append_left (by rw [List.length_drop]; omega), List.getElem?_drop]
  · rw [if_neg c, List.getElem?_append_right (by rw [List.length_drop]; omega), List.length_drop, List.getElem?_take_of_lt (by omega)]
    congr 1
    omega
theorem mod_turn {t b j n : Int} (t0 : 0 ≤ t) (t1 : t < n) (b0 : 0 ≤ b) (b1 : b < n) (j0 : 0 ≤ j) (j1 : j < n) : (t + b) % n = j ↔ t = if j < b then n - b + j else j - b := by
  by_cases c : t + b < n
  · rw [Int.emod_eq_of_lt (by omega) c]
    split <;> omega
  · have : (t + b) % n = t + b - n := by
      rw [← Int.emod_eq_of_lt (a := t + b - n) (b := n) (by omega) (by omega)]
      simp
    rw [this]
    split <;> omega
theorem row_turn (r1 : 1 ≤ ring) (u : Up ring 0 ts) {b : Nat} (hb : b < ring.toNat) : rowI ring (sortT ring (ts.map fun t => t + (b : Int))) = turnI (rowI ring ts) b := by
  have nl : (rowI ring ts).length = ring.toNat := rowF_len
  apply List.ext_getElem?
  intro j
  by_cases jl : j < ring.toNat
  · rw [turn_get (by omega) (by omega), nl]
    unfold rowI
    rw [rowF_get jl, rowF_get (by split <;> omega)]
    congr 2
    unfold sortT
    rw [(sortI_perm _).count_eq, List.map_map, List.count, List.countP_map, List.count]
    apply List.countP_congr
    intro t ht
    have tt := up_all u t ht
    have m := mod_turn (j := (j : Int)) (b := (b : Int)) tt.1 tt.2 (by omega) (by omega) (by omega) (by omega)
    simp only [Function.comp, beq_iff_eq]
    constructor
    · intro z
      have z : (t + (b : Int)) % ring = j := by omega
      have := m.mp z
      split at this <;> split <;> omega
    · intro z
      have : (t + (b : Int)) % ring = j := by
        refine m.mpr ?_
        split at z <;> split <;> omega
      omega
  · rw [List.getElem?_eq_none (by rw [rowF_len]; omega), List.getElem?_eq_none (by rw [turn_len, nl]; omega)]
/-- the transpositions -/
abbrev tr (ring : Int) (ts : List Int) (b : Nat) : List Int := sortT ring (ts.map fun t => t + (b : Int))
theorem tr_len {b : Nat} : (tr ring ts b).length = ts.length := by rw [sortT_len, List.length_map]
theorem tr_up (r1 : 1 ≤ ring) {b : Nat} : Up ring 0 (tr ring ts b) := sortT_up r1
theorem tr_zero (u : Up ring 0 ts) : tr ring ts 0 = ts := by
  unfold tr
  rw [sortT_id (fun t => t + ((0 : Nat) : Int)) (fun p => by simp), sortT_self u]
theorem tr_lt (r1 : 1 ≤ ring) (u : Up ring 0 ts) {a b : Nat} (ha : a < ring.toNat) (hb : b < ring.toNat) : tr ring ts a < tr ring ts b ↔ turnI (rowI ring ts) b < turnI (rowI ring ts) a := by
  rw [row_iff (tr_up r1) (tr_up r1) (by rw [tr_len, tr_len]), row_turn r1 u ha, row_turn r1 u hb]
theorem tr_eq (r1 : 1 ≤ ring) (u : Up ring 0 ts) {a b : Nat} (ha : a < ring.toNat) (hb : b < ring.toNat) : tr ring ts a = tr ring ts b ↔ turnI (rowI ring ts) a = turnI (rowI ring ts) b := by
  rw [row_eq (tr_up r1) (tr_up r1) (by rw [tr_len, tr_len]), row_turn r1 u ha, row_turn r1 u hb]
/-- the greatest turn and the first number that gives it -/
def Best (row : List Int) (L : Nat) (n : Nat) : Prop := L < n ∧ (∀ i, i < n → ¬ turnI row L < turnI row i) ∧ ∀ i, i < L → turnI row i < turnI row L
/-- the transpositions, as the program lists them -/
abbrev trs (ring : Int) (ts : List Int) : List (List Int) := (List.range ring.toNat).map (tr ring ts)
theorem trs_cons (r1 : 1 ≤ ring) (u : Up ring 0 ts) : ∃ l, trs ring ts = ts :: l := by
  obtain ⟨n, hn⟩ : ∃ n, ring.toNat = n + 1 := ⟨ring.toNat - 1, by omega⟩
  unfold trs
  rw [hn, List.range_succ_eq_map, List.map_cons, tr_zero u]
  exact ⟨_, rfl⟩
theorem trs_get {b : Nat} (hb : b < ring.toNat) : (trs ring ts)[b]? = some (tr ring ts b) := by
  unfold trs
  rw [List.getElem?_map, List.getElem?_range hb]
  rfl
theorem least_is (r1 : 1 ≤ ring) (u : Up ring 0 ts) {L : Nat} (hL : Best (rowI ring ts) L ring.toNat) {a : List Int} {l : List (List Int)} (e : trs ring ts = a :: l) : minT a l = tr ring ts L := by
  obtain ⟨h1, h2⟩ := minT_ok l a
  rw [← e] at h1 h2
  obtain ⟨b, hb, eb⟩ := List.mem_map.mp h1
  rw [List.mem_range] at hb
  refine anti (fun z => ?_) (h2 _ (List.mem_map.mpr ⟨L, by rw [List.mem_range]; exact hL.1, rfl⟩))
  rw [← eb, tr_lt r1 u hb hL.1] at z
  exact hL.2.1 b hb z
theorem first_is (r1 : 1 ≤ ring) (u : Up ring 0 ts) {L : Nat} (hL : Best (rowI ring ts) L ring.toNat) : ∀ i, i < L → (trs ring ts)[i]? ≠ some (tr ring ts L) := by
  intro i hi z
  rw [trs_get (by have := hL.1; omega)] at z
  have := (tr_eq r1 u (by have := hL.1; omega) hL.1).mp (Option.some.inj z)
  have l := hL.2.2 i hi
  rw [this] at l
  exact List.lt_irrefl _ l
/-- a transposed chord's transpositions are the chord's -/
theorem tr_tr (r1 : 1 ≤ ring) {a b : Nat} : ∃ c, c < ring.toNat ∧ tr ring (tr ring ts a) b = tr ring ts c := by
  refine ⟨(((a : Int) + b) % ring).toNat, ?_, ?_⟩
  · have := Int.emod_lt_of_pos ((a : Int) + b) (b := ring) (by omega)
    have := Int.emod_nonneg ((a : Int) + b) (b := ring) (by omega)
    omega
  · unfold tr
    rw [sortT_map (fun t => t + (b : Int)) (fun p => by simp), List.map_map]
    unfold sortT
    congr 1
    rw [List.map_map, List.map_map]
    apply List.map_congr_left
    intro t _
    have := Int.emod_nonneg ((a : Int) + b) (b := ring) (by omega)
    simp only [Function.comp]
    rw [Int.toNat_of_nonneg this]
    simp [Int.add_assoc]
theorem tr_back (r1 : 1 ≤ ring) (u : Up ring 0 ts) {a b : Nat} (hb : b < ring.toNat) : ∃ c, c < ring.toNat ∧ tr ring (tr ring ts a) c = tr ring ts b := by
  refine ⟨(((b : Int) - a) % ring).toNat, ?_, ?_⟩
  · have := Int.emod_lt_of_pos ((b : Int) - a) (b := ring) (by omega)
    have := Int.emod_nonneg ((b : Int) - a) (b := ring) (by omega)
    omega
  · unfold tr
    rw [sortT_map (fun t => t + (((((b : Int) - a) % ring).toNat : Nat) : Int)) (fun p => by simp), List.map_map]
    unfold sortT
    congr 1
    rw [List.map_map, List.map_map]
    apply List.map_congr_left
    intro t _
    have := Int.emod_nonneg ((b : Int) - a) (b := ring) (by omega)
    simp only [Function.comp]
    rw [Int.toNat_of_nonneg this]
    simp only [Int.add_emod_emod]
    congr 1
    omega
theorem least_same (r1 : 1 ≤ ring) (u : Up ring 0 ts) {a L L' : Nat} (hL : Best (rowI ring ts) L ring.toNat) (hL' : Best (rowI ring (tr ring ts a)) L' ring.toNat) : tr ring ts L = tr ring (tr ring ts a) L' := by
  refine anti (fun z => ?_) (fun z => ?_)
  · obtain ⟨c, hc, e⟩ := tr_back (a := a) r1 u hL.1
    rw [← e, tr_lt r1 (tr_up r1) hc hL'.1] at z
    exact hL'.2.1 c hc z
  · obtain ⟨c, hc, e⟩ := tr_tr (ring := ring) (ts := ts) (a := a) (b := L') r1
    rw [e, tr_lt r1 u hc hL.1] at z
    exact hL.2.1 c hc z
end
end K06

set_option Elab.async false
set_option linter.all false
set_option maxRecDepth 100000
set_option maxHeartbeats 4000000
namespace K06
open PySem L2 Z
variable {k : Nat} {h : Hm} {K : D → Hm → Prop} {X : Exn → Hm → Prop} {s : Nat}
section
variable {ring : Int} {ts : List Int}
theorem turn_zero {row : List Int} : turnI row 0 = row := by simp [turnI]
theorem best_ex {row : List Int} : ∀ n, 1 ≤ n → ∃ L, Best row L n := by
  intro n
  induction n with
  | zero => intro h; omega
  | succ n ih =>
    intro _
    by_cases n1 : 1 ≤ n
    · obtain ⟨L, h1, h2, h3⟩ := ih n1
      by_cases c : turnI row L < turnI row n
      · refine ⟨n, by omega, fun i hi z => ?_, fun i hi => ?_⟩
        · by_cases e : i = n
          · subst e; exact List.lt_irrefl _ z
          · exact h2 i (by omega) (List.lt_trans c z)
        · have := h2 i hi
          exact List.lt_of_le_of_lt (List.not_lt.mp this) c
      · refine ⟨L, by omega, fun i hi z => ?_, h3⟩
        by_cases e : i = n
        · subst e; exact c z
        · exact h2 i (by omega) z
    · have : n = 0 := by omega
      subst this
      exact ⟨0, by omega, fun i hi z => by
        have : i = 0 := by omega
        subst this
        exact List.lt_irrefl _ z, fun i hi => by omega⟩
theorem best_un {row : List Int} {L L' n : Nat} (a : Best row L n) (b : Best row L' n) : L = L' := by
  rcases Nat.lt_trichotomy L L' with c | c | c
  · exact (a.2.1 L' b.1 (b.2.2 L c)).elim
  · exact c
  · exact (b.2.1 L a.1 (a.2.2 L' c)).elim
theorem rows_wp (r1 : 1 ≤ ring) (r2 : ring ≤ 48) (l2 : ts.length ≤ 8) (q : ∀ H, Gr h H → H[h.length]? = some (.lst ((trs ring ts).map tupI)) → K (.ref h.length) H) : C (k + 2) i_transposed_rows [.int ring, tupI ts] h K X := by
  refine rw_in (fn := f_transposed_rows) (b := b_transposed_rows) rfl rfl rfl (ρ := [some (.int ring), some (tupI ts), none, none]) rfl ?_; delta b_transposed_rows
  walk_at "zz"
  refine ew_comp ?_
  walk_at "zz"
  refine ⟨_, _, src_r1 (small_k (by omega) (by omega)), ?_⟩
  rw [range_nat]
  refine rw_compG (fun k : Nat => D.int k) (fun k => tupI (tr ring ts k)) (fun _ => true) rfl (by rw [List.length_range]; exact Nat.le_trans (show ring.toNat ≤ 48 by omega) (by decide)) (fun n hn H g => ⟨_, rfl, ?_, fun _ H' g' => ?_⟩) fun H g e => ?_
  · walk_at "zz"
    exact ⟨rfl, .refl⟩
  · refine ew_call (lw_cons (ew_var rfl (lw_cons (ew_comp (lw_cons (ew_var rfl (lw_nil ⟨_, _, src_t, ?_⟩)))))))
    refine rw_compI (fun m => .int (m + (n : Int))) (fun _ => true) rfl (Nat.le_trans l2 (by decide)) (fun m _ u => ⟨_, rfl, ?_, fun _ => ?_⟩) ?_
    · walk_at "zz"
      exact ⟨rfl, rfl⟩
    · walk_at "zz"
      exact ⟨rfl, rfl⟩
    rw [filt_true, show (ts.map fun m => D.int (m + (n : Int))) = (ts.map fun m => m + (n : Int)).map .int by rw [List.map_map]; rfl]
    refine lw_nil (st_wp get_new r1 (by rw [List.length_map]; omega) fun t => ?_)
    exact ⟨rfl, Gr.app.add⟩
  · rw [show (List.range ring.toNat).filter (fun _ => true) = List.range ring.toNat from List.filter_eq_self.mpr (by simp)] at e
    walk_at "zz"
    refine q H g ?_
    rw [e]
    unfold trs
    rw [List.map_map]
    rfl
theorem trs_small (l2 : ts.length ≤ 8) : ∀ a ∈ trs ring ts, a.length ≤ 40 := by
  intro a ha
  obtain ⟨b, _, rfl⟩ := List.mem_map.mp ha
  rw [tr_len]
  omega
theorem form_wp (ok : 1 ≤ ring → ring ≤ 48 → 1 ≤ ts.length → ts.length ≤ 8 → Up ring 0 ts → ∀ L H, Best (rowI ring ts) L ring.toNat → Gr h H → K (.tup [tupI (tr ring ts L), .int (L : Int)]) H) (bad : (ring < 1 ∨ 48 < ring) → X xR h) (wr : 1 ≤ ring → ring ≤ 48 → Wrong ring ts → X xS h) : C (k + 3) i_least_form [.int ring, tupI ts] h K X := by
  refine rw_in (fn := f_least_form) (b := b_least_form) rfl rfl rfl (ρ := [some (.int ring), some (tupI ts), none, none]) rfl ?_; delta b_least_form
  walk_at "zz"
  refine cc_wp (fun r1 r2 l1 l2 u => ?_) (fun q => ?_) fun r1 r2 q => ?_
  · walk_at "zz"
    refine rows_wp r1 r2 l2 fun H g e => ?_
    obtain ⟨L, hL⟩ := best_ex (row := rowI ring ts) ring.toNat (by omega)
    obtain ⟨l, el⟩ := trs_cons r1 u
    have e' : H[h.length]? = some (.lst ((ts :: l).map fun ns => D.tup (ns.map .int))) := by rw [e, el]
    refine sq_nx (sw_seq (sw_set (ew_prim (lw_cons (ew_var rfl (lw_nil (pw_minT e' ?_)))))))
    rw [least_is r1 u hL el]
    refine sq_nx (sw_ret (ew_tup (lw_cons (ew_var rfl (lw_cons (ew_meth (ew_var rfl ⟨recv_r e, lw_cons (ew_var rfl (lw_nil ?_))⟩)))))))
    refine pw_indexT (l := trs ring ts) e (trs_small l2) (by simp; omega) (by rw [tr_len]; omega) (trs_get hL.1) (first_is r1 u hL) ?_
    refine lw_nil ⟨le_size (by simp), ?_⟩
    exact ok r1 r2 l1 l2 u L H hL g
  · walk_at "zz"
    exact bad q
  · walk_at "zz"
    exact wr r1 r2 q
theorem mirr_wp {by' : Int} (ok : 1 ≤ ring → ring ≤ 48 → 1 ≤ ts.length → ts.length ≤ 8 → Up ring 0 ts → ∀ t, K (tupI (sortT ring (ts.map (by' - ·)))) (h ++ t)) (bad : (ring < 1 ∨ 48 < ring) → X xR h) (wr : 1 ≤ ring → ring ≤ 48 → Wrong ring ts → X xS h) : C (k + 3) i_mirror_chord [.int ring, tupI ts, .int by'] h K X := by
  refine rw_in (fn := f_mirror_chord) (b := b_mirror_chord) rfl rfl rfl (ρ := [some (.int ring), some (tupI ts), some (.int by'), none]) rfl ?_; delta b_mirror_chord
  walk_at "zz"
  refine cc_wp (fun r1 r2 l1 l2 u => ?_) (fun q => ?_) fun r1 r2 q => ?_
  · walk_at "zz"
    refine ew_comp ?_
    walk_at "zz"
    refine ⟨_, _, src_t, ?_⟩
    refine rw_compI (fun n => .int (by' - n)) (fun _ => true) rfl (Nat.le_trans l2 (by decide)) (fun n _ u => ⟨_, rfl, ?_, fun _ => ?_⟩) ?_
    · walk_at "zz"
      exact ⟨rfl, rfl⟩
    · walk_at "zz"
      exact ⟨rfl, rfl⟩
    rw [filt_true]
    have em : (ts.map fun n => D.int (by' - n)) = (ts.map (by' - ·)).map .int := by rw [List.map_map]; rfl
    rw [em]
    walk_at "zz"
    refine st_wp get_new r1 (by rw [List.length_map]; omega) fun t => ?_
    walk_at "zz"
    rw [List.append_assoc]
    exact ok r1 r2 l1 l2 u _
  · walk_at "zz"
    exact bad q
  · walk_at "zz"
    exact wr r1 r2 q
abbrev mir (ring : Int) (ts : List Int) : List Int := sortT ring (ts.map (0 - ·))
theorem both_wp (ok : 1 ≤ ring → ring ≤ 48 → 1 ≤ ts.length → ts.length ≤ 8 → Up ring 0 ts → ∀ L M H, Best (rowI ring ts) L ring.toNat → Best (rowI ring (mir ring ts)) M ring.toNat → Gr h H → K (tupI (if tr ring (mir ring ts) M < tr ring ts L then tr ring (mir ring ts) M else tr ring ts L)) H) (bad : (ring < 1 ∨ 48 < ring) → X xR h) (wr : 1 ≤ ring → ring ≤ 48 → Wrong ring ts → X xS h) : C (k + 4) i_least_both [.int ring, tupI ts] h K X := by
  refine rw_in (fn := f_least_both) (b := b_least_both) rfl rfl rfl (ρ := [some (.int ring), some (tupI ts), none, none]) rfl ?_; delta b_least_both
  walk_at "zz"
  refine form_wp (fun r1 r2 l1 l2 u L H hL g => ?_) (fun q => ?_) fun r1 r2 q => ?_
  · walk_at "zz"
    refine mirr_wp (fun _ _ _ _ _ t => ?_) (fun q => by omega) fun _ _ q => (q ⟨l1, l2, u⟩).elim
    walk_at "zz"
    have ml : (mir ring ts).length = ts.length := by rw [sortT_len, List.length_map]
    have mu : Up ring 0 (mir ring ts) := sortT_up r1
    refine form_wp (ts := mir ring ts) (fun _ _ _ _ _ M H' hM g' => ?_) (fun q => by omega) fun _ _ q => (q ⟨by omega, by omega, mu⟩).elim
    have ok' := ok r1 r2 l1 l2 u L M H' hL hM (g.add.trans g')
    walk_at "zz"
    refine pw_ltT (by rw [tr_len]; omega) (by rw [tr_len]; omega) ?_
    (with_reducible first | refine tw_dec (fun c => ?_) (fun c => ?_) | refine aw_dec (fun c => ?_) (fun c => ?_) | refine ow_dec (fun c => ?_) (fun c => ?_) | refine bw_dec (fun c => ?_) (fun c => ?_) | refine tw_b (fun c => ?_) (fun c => ?_) | refine aw_b (fun c => ?_) (fun c => ?_) | refine ow_b (fun c => ?_) (fun c => ?_) | refine bw_b (fun c => ?_) (fun c => ?_))
    · rw [if_pos c] at ok'
      walk_at "zz"
      exact ok'
    · rw [if_neg c] at ok'
      walk_at "zz"
      exact ok'
  · walk_at "zz"
    exact bad q
  · walk_at "zz"
    exact wr r1 r2 q
def folds (ring : Int) (ts : List Int) : Nat := ((trs ring ts).filter fun r => decide (r = ts)).length
theorem fold_wp (ok : 1 ≤ ring → ring ≤ 48 → 1 ≤ ts.length → ts.length ≤ 8 → Up ring 0 ts → ∀ H, Gr h H → K (.int (folds ring ts)) H) (bad : (ring < 1 ∨ 48 < ring) → X xR h) (wr : 1 ≤ ring → ring ≤ 48 → Wrong ring ts → X xS h) : C (k + 3) i_fold_count [.int ring, tupI ts] h K X := by
  refine rw_in (fn := f_fold_count) (b := b_fold_count) rfl rfl rfl (ρ := [some (.int ring), some (tupI ts), none]) rfl ?_; delta b_fold_count
  walk_at "zz"
  refine cc_wp (fun r1 r2 l1 l2 u => ?_) (fun q => ?_) fun r1 r2 q => ?_
  · walk_at "zz"
    refine ew_comp ?_
    walk_at "zz"
    refine rows_wp r1 r2 l2 fun H g e => ?_
    refine lw_nil ⟨_, _, src_r e, ?_⟩
    refine rw_compG tupI tupI (fun r => decide (r = ts)) (gd_one e) (by rw [List.length_map, List.length_range]; exact Nat.le_trans (show ring.toNat ≤ 48 by omega) (by decide)) (fun r hr H' g' => ⟨_, rfl, ?_, fun _ H2 g2 => ?_⟩) fun H' g' e' => ?_
    · walk_at "zz"
      refine pw_eqD (eqD_tup (by have := trs_small l2 r hr; omega) (by omega)) ?_
      exact ⟨rfl, .refl⟩
    · walk_at "zz"
      exact ⟨rfl, .refl⟩
    · refine lw_nil (pw_lenr e' ?_)
      rw [List.length_map]
      walk_at "zz"
      exact ok r1 r2 l1 l2 u H' (g.trans g')
  · walk_at "zz"
    exact bad q
  · walk_at "zz"
    exact wr r1 r2 q
end
end K06

set_option Elab.async false
set_option linter.all false
set_option maxRecDepth 100000
set_option maxHeartbeats 4000000
namespace K06
open PySem L2 Z
variable {k : Nat} {h : Hm} {K : D → Hm → Prop} {X : Exn → Hm → Prop} {s : Nat}
abbrev hnd : S := match b_law_told with
  | .try _ hs => hs
  | s => s
theorem hnd_r {a b c : Option D} (q : K (.tup [.str (Str.ofString "ring")]) h) : hq (callF pg fuel k) fuel pg.sub hnd (endQ K X) (.ex xR [a, b, c, none, none] h) := by
  unfold hnd
  delta b_law_told
  refine hq_ex (by decide +kernel) (by simp) ?_
  walk_at "zz"
  exact q
theorem hnd_s {a b c : Option D} (q : K (.tup [.str (Str.ofString "shape")]) h) : hq (callF pg fuel k) fuel pg.sub hnd (endQ K X) (.ex xS [a, b, c, none, none] h) := by
  unfold hnd
  delta b_law_told
  refine hq_ex (by decide +kernel) (by simp) ?_
  walk_at "zz"
  exact q
section
variable {ring : Int} {ts : List Int}
theorem told0_wp (r1 : 1 ≤ ring) (r2 : ring ≤ 48) (l1 : 1 ≤ ts.length) (l2 : ts.length ≤ 8) (u : Up ring 0 ts) (q : ∀ L H, Best (rowI ring ts) L ring.toNat → Gr h H → K (ans (.tup [tupI (tr ring ts L), .int (L : Int)])) H) : C (k + 5) i_law_told [.int 0, .int ring, tupI ts] h K X := by
  refine rw_in (fn := f_law_told) (b := b_law_told) rfl rfl rfl (ρ := [some (.int 0), some (.int ring), some (tupI ts), none, none]) rfl ?_; delta b_law_told
  walk_at "zz"
  refine form_wp (fun _ _ _ _ _ L H hL g => ?_) (fun z => by omega) fun _ _ z => (z ⟨l1, l2, u⟩).elim
  walk_at "zz"
  exact q L H hL g
theorem told1_wp (r1 : 1 ≤ ring) (r2 : ring ≤ 48) (l1 : 1 ≤ ts.length) (l2 : ts.length ≤ 8) (u : Up ring 0 ts) (q : ∀ L M H, Best (rowI ring ts) L ring.toNat → Best (rowI ring (mir ring ts)) M ring.toNat → Gr h H → K (ans (tupI (if tr ring (mir ring ts) M < tr ring ts L then tr ring (mir ring ts) M else tr ring ts L))) H) : C (k + 5) i_law_told [.int 1, .int ring, tupI ts] h K X := by
  refine rw_in (fn := f_law_told) (b := b_law_told) rfl rfl rfl (ρ := [some (.int 1), some (.int ring), some (tupI ts), none, none]) rfl ?_; delta b_law_told
  walk_at "zz"
  refine both_wp (fun _ _ _ _ _ L M H hL hM g => ?_) (fun z => by omega) fun _ _ z => (z ⟨l1, l2, u⟩).elim
  walk_at "zz"
  exact q L M H hL hM g
theorem told2_wp (r1 : 1 ≤ ring) (r2 : ring ≤ 48) (l1 : 1 ≤ ts.length) (l2 : ts.length ≤ 8) (u : Up ring 0 ts) (q : ∀ H, Gr h H → K (ans (.int (folds ring ts))) H) : C (k + 5) i_law_told [.int 2, .int ring, tupI ts] h K X := by
  refine rw_in (fn := f_law_told) (b := b_law_told) rfl rfl rfl (ρ := [some (.int 2), some (.int ring), some (tupI ts), none, none]) rfl ?_; delta b_law_told
  walk_at "zz"
  refine fold_wp (fun _ _ _ _ _ H g => ?_) (fun z => by omega) fun _ _ z => (z ⟨l1, l2, u⟩).elim
  walk_at "zz"
  exact q H g
theorem toldr_wp {door : Int} (d0 : 0 ≤ door) (d1 : door < 3) (r : ring < 1 ∨ 48 < ring) (q : K (.tup [.str (Str.ofString "ring")]) h) : C (k + 5) i_law_told [.int door, .int ring, tupI ts] h K X := by
  have : door = 0 ∨ door = 1 ∨ door = 2 := by omega
  refine rw_in (fn := f_law_told) (b := b_law_told) rfl rfl rfl (ρ := [some (.int door), some (.int ring), some (tupI ts), none, none]) rfl ?_; delta b_law_told
  rcases this with rfl | rfl | rfl
  · walk_at "zz"
    refine form_wp (fun _ _ _ _ _ => by omega) (fun z => ?_) fun _ _ z => by omega
    walk_at "zz"
    exact hnd_r q
  · walk_at "zz"
    refine both_wp (fun _ _ _ _ _ => by omega) (fun z => ?_) fun _ _ z => by omega
    walk_at "zz"
    exact hnd_r q
  · walk_at "zz"
    refine fold_wp (fun _ _ _ _ _ => by omega) (fun z => ?_) fun _ _ z => by omega
    walk_at "zz"
    exact hnd_r q
theorem tolds_wp {door : Int} (d0 : 0 ≤ door) (d1 : door < 3) (r1 : 1 ≤ ring) (r2 : ring ≤ 48) (w : Wrong ring ts) (q : K (.tup [.str (Str.ofString "shape")]) h) : C (k + 5) i_law_told [.int door, .int ring, tupI ts] h K X := by
  have : door = 0 ∨ door = 1 ∨ door = 2 := by omega
  refine rw_in (fn := f_law_told) (b := b_law_told) rfl rfl rfl (ρ := [some (.int door), some (.int ring), some (tupI ts), none, none]) rfl ?_; delta b_law_told
  rcases this with rfl | rfl | rfl
  · walk_at "zz"
    refine form_wp (fun _ _ a b c => (w ⟨a, b, c⟩).elim) (fun z => by omega) fun _ _ z => ?_
    walk_at "zz"
    exact hnd_s q
  · walk_at "zz"
    refine both_wp (fun _ _ a b c => (w ⟨a, b, c⟩).elim) (fun z => by omega) fun _ _ z => ?_
    walk_at "zz"
    exact hnd_s q
  · walk_at "zz"
    refine fold_wp (fun _ _ a b c => (w ⟨a, b, c⟩).elim) (fun z => by omega) fun _ _ z => ?_
    walk_at "zz"
    exact hnd_s q
/-! the law's own rows -/
theorem rowI_get {i : Nat} (l : i < ring.toNat) : ((rowI ring ts).map D.int)[i]? = some (.int ((ts.count (i : Int) : Nat) : Int)) := by
  unfold rowI
  rw [List.getElem?_map, rowF_get l]
  simp
theorem row_step {p : Int} (p0 : 0 ≤ p) (p1 : p < ring) : ((rowI ring ts).map D.int).set p.toNat (.int (((ts.count p : Nat) : Int) + 1)) = (rowI ring (ts ++ [p])).map .int := by
  apply List.ext_getElem?
  intro i
  by_cases l : i < ring.toNat
  · rw [rowI_get (ts := ts ++ [p]) l, List.count_append, List.count_singleton]
    by_cases e : p.toNat = i
    · subst e
      have : ((p.toNat : Nat) : Int) = p := by omega
      rw [List.getElem?_set_self (by rw [List.length_map, rowF_len]; exact l), this]
      simp
    · rw [List.getElem?_set_ne e, rowI_get l]
      have : ¬ (p == (i : Int)) = true := by simp; omega
      rw [if_neg this]
      simp
  · rw [List.getElem?_eq_none (by rw [List.length_set, List.length_map, rowF_len]; omega), List.getElem?_eq_none (by rw [List.length_map, rowF_len]; omega)]
theorem row_nil : (List.replicate ring.toNat [D.int 0]).flatten = (rowI ring []).map .int := by
  rw [flat_rep1]
  symm
  rw [List.eq_replicate_iff]
  refine ⟨by rw [List.length_map, rowF_len], fun b hb => ?_⟩
  obtain ⟨i, hi, rfl⟩ := List.mem_map.mp hb
  obtain ⟨j, hj, e⟩ := List.mem_iff_getElem.mp hi
  rw [rowF_len] at hj
  have := rowF_get (i := 0) (ts := []) hj
  rw [List.getElem?_eq_getElem (by rw [rowF_len]; exact hj), e] at this
  simpa using this
theorem set_snd {a b c : Cell} : (h ++ [a, b]).set (h.length + 1) c = h ++ [a, c] := by
  rw [List.set_append_right _ _ (by omega)]
  have : h.length + 1 - h.length = 1 := by omega
  rw [this]
  rfl
theorem get_snd {a b : Cell} : (h ++ [a, b])[h.length + 1]? = some b := by
  rw [List.getElem?_append_right (by omega)]
  have : h.length + 1 - h.length = 1 := by omega
  rw [this]
  rfl
theorem lrow_wp (r1 : 1 ≤ ring) (r2 : ring ≤ 48) (hr : ∀ t ∈ ts, 0 ≤ t ∧ t < ring) (q : ∀ H r, Gr h H → H[r]? = some (.lst ((rowI ring ts).map .int)) → K (.ref r) H) : C (k + 1) i_law_row [.int ring, tupI ts] h K X := by
  refine rw_in (fn := f_law_row) (b := b_law_row) rfl rfl rfl (ρ := [some (.int ring), some (tupI ts), none, none]) rfl ?_; delta b_law_row
  refine sw_seq (sw_set (ew_prim (lw_cons (ew_lst (lw_cons (ew_lit (lw_nil ⟨by decide, ?_⟩)))))))
  refine lw_cons (ew_var rfl (lw_nil (pw_mulr get_new ⟨by omega, by omega, ?_⟩ ?_)))
  · simp only [List.length_cons, List.length_nil]
    exact Nat.le_trans (show (0 + 1) * ring.toNat ≤ 48 by omega) (by decide)
  rw [row_nil]
  have eh : (h ++ [Cell.lst [D.int 0]]).length = h.length + 1 := by simp
  rw [eh, List.append_assoc]
  walk_at "zz"
  refine ⟨_, _, src_t, ?_⟩
  refine fw_inv (I := fun x ρ2 h2 => ∃ (a b : List Int) (v : Option D), ts = a ++ b ∧ x = b.map .int ∧ ρ2 = [some (.int ring), some (tupI ts), some (.ref (h.length + 1)), v] ∧ h2 = h ++ [.lst [.int 0], .lst ((rowI ring a).map .int)]) ⟨[], ts, none, rfl, rfl, rfl, rfl⟩ (fun _ _ _ _ => rfl) ?_ ?_
  · rintro x xs _ _ ⟨a, b, v, ep, eb, rfl, rfl⟩
    cases b with
    | nil => simp at eb
    | cons p b =>
      simp only [List.map_cons, List.cons.injEq] at eb
      obtain ⟨rfl, rfl⟩ := eb
      have hp := hr p (by rw [ep]; simp)
      refine ⟨_, rfl, ?_⟩
      have g1 : atD ((rowI ring a).map D.int) p = some (.int ((a.count p : Nat) : Int)) := by
        rw [atD_pos (by rw [List.length_map, rowF_len]; omega) hp.1, rowI_get (by omega)]
        have : ((p.toNat : Nat) : Int) = p := by omega
        rw [this]
      refine sw_augix (ew_var rfl (ew_var rfl (rw_get get_snd g1 (ew_lit (rw_augadd ?_)))))
      refine rw_setix get_snd (by simp only [List.length_map, rowF_len]; exact ixN_get hp.1 (by omega)) ?_
      rw [set_snd, row_step hp.1 hp.2]
      exact rd_nx ⟨a ++ [p], b, _, by rw [ep]; simp, rfl, rfl, rfl⟩
  · rintro _ _ ⟨a, b, v, ep, eb, rfl, rfl⟩
    have : b = [] := by simpa using eb.symm
    subst this
    rw [List.append_nil] at ep
    subst ep
    walk_at "zz"
    exact q _ _ .app get_snd
theorem cut_drop {α : Type} {xs : List α} {i : Int} (i0 : 0 ≤ i) : cutD xs (some i) none = xs.drop i.toNat := by
  unfold cutD
  rw [show HT.sIx xs.length 0 (some i) = min i.toNat xs.length from if_neg (by omega)]
  show List.take (xs.length - _) _ = _
  rw [List.take_of_length_le (by rw [List.length_drop]; omega)]
  by_cases l : i.toNat ≤ xs.length
  · rw [Nat.min_eq_left l]
  · rw [Nat.min_eq_right (by omega), List.drop_of_length_le (Nat.le_refl _), List.drop_of_length_le (by omega)]
theorem cut_take {α : Type} {xs : List α} {i : Int} (i0 : 0 ≤ i) : cutD xs none (some i) = xs.take i.toNat := by
  unfold cutD
  rw [show HT.sIx xs.length xs.length (some i) = min i.toNat xs.length from if_neg (by omega)]
  show List.take (_ - 0) (List.drop 0 _) = _
  rw [List.drop_zero, Nat.sub_zero]
  by_cases l : i.toNat ≤ xs.length
  · rw [Nat.min_eq_left l]
  · rw [Nat.min_eq_right (by omega), List.take_of_length_le (Nat.le_refl _), List.take_of_length_le (by omega)]
theorem turned_wp {row : List Int} {r : Nat} {b : Int} (e : h[r]? = some (.lst (row.map .int))) (b0 : 0 ≤ b) (b1 : b ≤ row.length) (l : row.length ≤ 1000) (q : ∀ H r, Gr h H → H[r]? = some (.lst ((turnI row b.toNat).map .int)) → K (.ref r) H) : C (k + 1) i_law_turned [.ref r, .int b] h K X := by
  refine rw_in (fn := f_law_turned) (b := b_law_turned) rfl rfl rfl (ρ := [some (.ref r), some (.int b)]) rfl ?_; delta b_law_turned
  refine sw_ret (ew_prim (lw_cons ?_))
  refine ew_prim (lw_cons (ew_var rfl (lw_cons ?_)))
  refine ew_prim (lw_cons ?_)
  refine ew_prim (lw_cons ?_)
  refine ew_prim (lw_cons (ew_var rfl (lw_nil (pw_lenr e ?_))))
  refine lw_cons (ew_var rfl (lw_nil (pw_sub ?_)))
  rw [List.length_map]
  refine lw_nil (pw_part ⟨by omega, by omega⟩ ?_)
  refine lw_cons (ew_lit (lw_nil (pw_slicer (l := some ((row.length : Int) - b)) (u := none) e (if_pos ⟨by omega, by omega⟩) rfl ?_)))
  refine lw_cons ?_
  refine ew_prim (lw_cons (ew_var rfl (lw_cons (ew_lit (lw_cons ?_)))))
  refine ew_prim (lw_cons ?_)
  refine ew_prim (lw_cons ?_)
  refine ew_prim (lw_cons (ew_var rfl (lw_nil (pw_lenr (get_app e) ?_))))
  refine lw_cons (ew_var rfl (lw_nil (pw_sub ?_)))
  rw [List.length_map]
  refine lw_nil (pw_part ⟨by omega, by omega⟩ ?_)
  refine lw_nil (pw_slicer (l := none) (u := some ((row.length : Int) - b)) (get_app e) rfl (if_pos ⟨by omega, by omega⟩) ?_)
  refine lw_nil (pw_addr (get_app get_new) get_new ?_ ?_)
  · rw [cut_map, cut_map, List.length_map, List.length_map]
    unfold cutD
    simp only [List.length_take, List.length_drop]
    exact Nat.le_trans (show _ ≤ 2000 by omega) (by decide)
  have et : cutD (row.map D.int) (some ((row.length : Int) - b)) none ++ cutD (row.map D.int) none (some ((row.length : Int) - b)) = (turnI row b.toNat).map .int := by
    rw [cut_map, cut_map, ← List.map_append, cut_drop (by omega), cut_take (by omega)]
    unfold turnI
    have : ((row.length : Int) - b).toNat = row.length - b.toNat := by omega
    rw [this]
  rw [et]
  walk_at "zz"
  exact q _ _ (Gr.app.add.add) get_new
end
end K06

set_option Elab.async false
set_option linter.all false
set_option maxRecDepth 100000
set_option maxHeartbeats 4000000
namespace K06
open PySem L2 Z
variable {k : Nat} {h : Hm} {K : D → Hm → Prop} {X : Exn → Hm → Prop} {s : Nat}
section
variable {ring : Int} {ts : List Int}
/-- the tones below j, each as often as it stands -/
def tonesC (ts : List Int) : Nat → List Int
  | 0 => []
  | j + 1 => tonesC ts j ++ List.replicate (ts.count (j : Int)) (j : Int)
theorem tonesC_lt {j : Nat} : ∀ t ∈ tonesC ts j, 0 ≤ t ∧ t < j := by
  induction j with
  | zero => intro t h; cases h
  | succ j ih =>
    intro t h
    rcases List.mem_append.mp h with h | h
    · have := ih t h; omega
    · have := (List.mem_replicate.mp h).2
      omega
theorem tonesC_sorted (j : Nat) : (tonesC ts j).Pairwise (· ≤ ·) := by
  induction j with
  | zero => exact .nil
  | succ j ih =>
    rw [tonesC, List.pairwise_append]
    refine ⟨ih, ?_, fun a ha b hb => ?_⟩
    · rw [List.pairwise_replicate]
      exact .inr (Int.le_refl _)
    · have := tonesC_lt a ha
      have := (List.mem_replicate.mp hb).2
      omega
theorem tonesC_count (j : Nat) (a : Int) : (tonesC ts j).count a = if 0 ≤ a ∧ a < j then ts.count a else 0 := by
  induction j with
  | zero => rw [tonesC, if_neg (by omega)]; rfl
  | succ j ih =>
    rw [tonesC, List.count_append, ih, List.count_replicate]
    by_cases e : (j : Int) = a
    · subst e
      rw [if_neg (by omega), if_pos (by simp), if_pos (by omega)]
      simp
    · rw [if_neg (by simpa using e : ¬ ((j : Int) == a) = true)]
      by_cases e2 : 0 ≤ a ∧ a < (j : Int)
      · rw [if_pos e2, if_pos (by omega)]; simp
      · rw [if_neg e2, if_neg (by omega)]
theorem tonesC_all (u : Up ring 0 ts) : tonesC ts ring.toNat = ts := by
  refine PySem.W.ksm_same ?_ (tonesC_sorted _) (up_sorted u)
  rw [List.perm_iff_count]
  intro a
  rw [tonesC_count]
  by_cases c : 0 ≤ a ∧ a < (ring.toNat : Int)
  · rw [if_pos c]
  · rw [if_neg c]
    symm
    rw [List.count_eq_zero]
    intro m
    have := up_all u a m
    omega
theorem tonesC_mono {i j : Nat} (l : i ≤ j) : (tonesC ts i).length ≤ (tonesC ts j).length := by
  induction j with
  | zero => have : i = 0 := by omega
            subst this; exact Nat.le_refl _
  | succ j ih =>
    by_cases e : i = j + 1
    · subst e; exact Nat.le_refl _
    · have := ih (by omega)
      rw [tonesC, List.length_append]
      omega
theorem of_row_wp {r : Nat} (r1 : 1 ≤ ring) (r2 : ring ≤ 48) (l2 : ts.length ≤ 8) (u : Up ring 0 ts) (e : h[r]? = some (.lst ((rowI ring ts).map .int))) (q : ∀ H, Gr h H → K (tupI ts) H) : C (k + 1) i_law_of_row [.ref r] h K X := by
  refine rw_in (fn := f_law_of_row) (b := b_law_of_row) rfl rfl rfl (ρ := [some (.ref r), none, none]) rfl ?_; delta b_law_of_row
  refine sw_seq (sw_set (ew_lst (lw_nil ⟨by decide, ?_⟩)))
  refine sq_nx (sw_seq (sw_loop ?_))
  refine lw_cons (ew_prim (lw_cons (ew_var rfl (lw_nil (pw_lenr (get_app e) ?_)))))
  rw [List.length_map, rowF_len]
  refine lw_nil ⟨_, _, src_r1 (small_k (by omega) (by omega)), ?_⟩
  rw [range_up, Int.toNat_natCast]
  refine fw_up (I := fun j ρ2 h2 => ∃ (a : Nat) (v : Option D), ρ2 = [some (.ref r), some (.ref a), v] ∧ Gr h h2 ∧ h2[a]? = some (.lst ((tonesC ts j.toNat).map .int))) ⟨_, none, rfl, .app, get_new⟩ (fun _ _ _ _ => rfl) ?_ ?_
  · rintro j _ h2 j0 j1 ⟨a, v, rfl, g, ea⟩
    refine ⟨_, rfl, ?_⟩
    have jr : j.toNat < ring.toNat := by omega
    have jj : ((j.toNat : Nat) : Int) = j := by omega
    have cl : ts.count j ≤ 8 := Nat.le_trans List.count_le_length l2
    refine sw_set (ew_prim (lw_cons (ew_var rfl (lw_cons (ew_prim (lw_cons ?_))))))
    refine ew_lst (lw_cons (ew_var rfl (lw_nil ⟨le_size (by simp), ?_⟩)))
    refine lw_cons (ew_prim (lw_cons (ew_var rfl (lw_cons (ew_var rfl (lw_nil ?_))))))
    refine pw_idxr (get_app (g.get e)) (d := .int ((ts.count j : Nat) : Int)) ?_ ?_
    · rw [atD_pos (by rw [List.length_map, rowF_len]; omega) j0, rowI_get jr, jj]
    refine lw_nil (pw_mulr get_new ⟨by omega, by omega, ?_⟩ ?_)
    · simp only [List.length_cons, List.length_nil]
      exact Nat.le_trans (show (0 + 1) * _ ≤ 48 by omega) (by decide)
    rw [flat_rep1, Int.toNat_natCast]
    have er : (List.replicate (ts.count j) (D.int j)) = (List.replicate (ts.count j) j).map .int := by simp
    rw [er]
    refine lw_nil (pw_addr (get_app (get_app ea)) get_new ?_ ?_)
    · simp only [List.length_map, List.length_replicate]
      have := tonesC_mono (ts := ts) (i := j.toNat) (j := ring.toNat) (by omega)
      rw [tonesC_all u] at this
      exact Nat.le_trans (show _ ≤ 48 by omega) (by decide)
    refine rd_nx ⟨_, _, rfl, g.add.add.add, ?_⟩
    rw [get_new, ← List.map_append]
    have : (j + 1).toNat = j.toNat + 1 := by omega
    rw [this, tonesC, jj]
  · rintro _ h2 ⟨a, v, rfl, g, ea⟩
    have ea : h2[a]? = some (.lst (ts.map .int)) := by
      rw [ea]
      have : ((0 : Int) + (ring.toNat : Nat)).toNat = ring.toNat := by omega
      rw [this, tonesC_all u]
    refine sq_nx (sw_ret (ew_prim (lw_cons (ew_var rfl (lw_nil (pw_tupr ea ?_))))))
    exact q _ g
theorem best_new {row : List Int} {L n : Nat} (b : Best row L n) (c : turnI row L < turnI row n) : Best row n (n + 1) := by
  obtain ⟨h1, h2, h3⟩ := b
  refine ⟨by omega, fun i hi z => ?_, fun i hi => ?_⟩
  · by_cases e : i = n
    · subst e; exact List.lt_irrefl _ z
    · exact h2 i (by omega) (List.lt_trans c z)
  · exact List.lt_of_le_of_lt (List.not_lt.mp (h2 i hi)) c
theorem best_old {row : List Int} {L n : Nat} (b : Best row L n) (c : ¬ turnI row L < turnI row n) : Best row L (n + 1) := by
  obtain ⟨h1, h2, h3⟩ := b
  refine ⟨by omega, fun i hi z => ?_, h3⟩
  by_cases e : i = n
  · subst e; exact c z
  · exact h2 i (by omega) z
theorem greatest_wp {r : Nat} {row : List Int} (l1 : 1 ≤ row.length) (l2 : row.length ≤ 48) (e : h[r]? = some (.lst (row.map .int))) (q : ∀ (a b L : Nat) H, Gr h H → Best row L row.length → H[a]? = some (.lst [.ref b, .int (L : Int)]) → H[b]? = some (.lst ((turnI row L).map .int)) → K (.ref a) H) : C (k + 2) i_law_greatest [.ref r] h K X := by
  refine rw_in (fn := f_law_greatest) (b := b_law_greatest) rfl rfl rfl (ρ := [some (.ref r), none, none, none, none]) rfl ?_; delta b_law_greatest
  refine sw_seq (sw_set (ew_var rfl (sq_nx (sw_seq (sw_set (ew_lit (sq_nx (sw_seq (sw_loop ?_)))))))))
  refine lw_cons (ew_lit (lw_cons (ew_prim (lw_cons (ew_var rfl (lw_nil (pw_lenr e ?_)))))))
  rw [List.length_map]
  refine lw_nil ⟨_, _, src_r2 (by decide) (small_k (by omega) (by omega)), ?_⟩
  rw [range_up]
  refine fw_up (I := fun j ρ2 h2 => ∃ (b L : Nat) (v w : Option D), ρ2 = [some (.ref r), some (.ref b), some (.int (L : Int)), v, w] ∧ Gr h h2 ∧ Best row L j.toNat ∧ h2[b]? = some (.lst ((turnI row L).map .int))) ⟨r, 0, none, none, rfl, .refl, ⟨by decide, fun i hi z => ?_, fun i hi => by omega⟩, ?_⟩ (fun _ _ _ _ => rfl) ?_ ?_
  · have : i = 0 := by have : (1 : Int).toNat = 1 := rfl; omega
    subst this
    exact List.lt_irrefl _ z
  · rw [turn_zero]; exact e
  · rintro j _ h2 j0 j1 ⟨b, L, v, w, rfl, g, hb, eb⟩
    refine ⟨_, rfl, ?_⟩
    refine sw_seq (sw_set (ew_call (lw_cons (ew_var rfl (lw_cons (ew_var rfl (lw_nil ?_)))))))
    refine turned_wp (g.get e) (by omega) (by omega) (by omega) fun H a g2 ea => ?_
    have eb2 := g2.get eb
    have tl : ∀ m, (turnI row m).length ≤ 900 := fun m => by
      unfold turnI
      rw [List.length_append, List.length_drop, List.length_take]
      omega
    have jn : (j + 1).toNat = j.toNat + 1 := by omega
    have jj : ((j.toNat : Nat) : Int) = j := by omega
    refine sq_nx (sw_ite (ew_prim (lw_cons (ew_var rfl (lw_cons (ew_var rfl (lw_nil ?_)))))))
    refine pw_gtR ea eb2 (tl _) (tl _) ?_
    (with_reducible first | refine tw_dec (fun c => ?_) (fun c => ?_) | refine aw_dec (fun c => ?_) (fun c => ?_) | refine ow_dec (fun c => ?_) (fun c => ?_) | refine bw_dec (fun c => ?_) (fun c => ?_) | refine tw_b (fun c => ?_) (fun c => ?_) | refine aw_b (fun c => ?_) (fun c => ?_) | refine ow_b (fun c => ?_) (fun c => ?_) | refine bw_b (fun c => ?_) (fun c => ?_))
    · walk_at "zz"
      exact rd_nx ⟨a, j.toNat, _, _, by rw [jj]; rfl, g.trans g2, by rw [jn]; exact best_new hb c, ea⟩
    · walk_at "zz"
      exact rd_nx ⟨b, L, _, _, rfl, g.trans g2, by rw [jn]; exact best_old hb c, eb2⟩
  · rintro _ h2 ⟨b, L, v, w, rfl, g, hb, eb⟩
    have nn : (1 + ((((row.length : Nat) : Int) - 1).toNat : Int)).toNat = row.length := by omega
    rw [nn] at hb
    refine sq_nx (sw_ret (ew_lst (lw_cons (ew_var rfl (lw_cons (ew_var rfl (lw_nil ⟨le_size (by simp), ?_⟩)))))))
    exact q _ _ _ _ g.add hb get_new (get_app eb)
theorem mirrored_wp {c : Int} (r1 : 1 ≤ ring) (l2 : ts.length ≤ 8) (q : ∀ H, Gr h H → K (tupI (sortT ring (ts.map (c - ·)))) H) : C (k + 1) i_law_mirrored [.int ring, tupI ts, .int c] h K X := by
  refine rw_in (fn := f_law_mirrored) (b := b_law_mirrored) rfl rfl rfl (ρ := [some (.int ring), some (tupI ts), some (.int c), none]) rfl ?_; delta b_law_mirrored
  walk_at "zz"
  refine ew_comp ?_
  walk_at "zz"
  refine ⟨_, _, src_t, ?_⟩
  refine rw_compI (fun n => .int ((c - n) % ring)) (fun _ => true) rfl (Nat.le_trans l2 (by decide)) (fun n _ u => ⟨_, rfl, ?_, fun _ => ?_⟩) ?_
  · walk_at "zz"
    exact ⟨rfl, rfl⟩
  · walk_at "zz"
    exact ⟨rfl, rfl⟩
  rw [filt_true]
  have em : (ts.map fun n => D.int ((c - n) % ring)) = ((ts.map (c - ·)).map fun p => p % ring).map .int := by rw [List.map_map, List.map_map]; rfl
  rw [em]
  refine lw_nil (pw_sorted get_new (intsOf_map _) ?_)
  refine lw_nil (pw_tupr get_new ?_)
  exact q _ (Gr.app.add)
end
end K06

set_option Elab.async false
set_option linter.all false
set_option maxRecDepth 100000
set_option maxHeartbeats 4000000
namespace K06
open PySem L2 Z
variable {k : Nat} {h : Hm} {K : D → Hm → Prop} {X : Exn → Hm → Prop} {s : Nat}
section
variable {ring : Int} {ts : List Int}
theorem range_nat1 (n : Nat) : rangeD 1 1 n = (List.range n).map fun (k : Nat) => D.int ((k : Int) + 1) := by
  unfold rangeD
  apply List.map_congr_left
  intro a _
  congr 1
  omega
theorem folded_wp (hs : StoreOk h s) (r1 : 1 ≤ ring) (r2 : ring ≤ 48) (q : ∀ (us : List Int) h', 1 ≤ us.length → us.length ≤ 8 → Up ring 0 us → StoreOk h' s → Fr s h h' → K (tupI us) h') : C (k + 4) i_law_folded [.ref s, .int ring] h K X := by
  refine rw_in (fn := f_law_folded) (b := b_law_folded) rfl rfl rfl (ρ := [some (.ref s), some (.int ring), none, none, none, none, none, none, none]) rfl ?_; delta b_law_folded
  walk_at "zz"
  refine ew_comp ?_
  walk_at "zz"
  refine ⟨_, _, src_r2 (by decide) (small_k (by omega) (by omega)), ?_⟩
  rw [range_nat1]
  have en : (ring + 1 - 1).toNat = ring.toNat := by omega
  rw [en]
  refine rw_compG (fun k : Nat => D.int ((k : Int) + 1)) (fun k => .int ((k : Int) + 1)) (fun k => decide (ring % ((k : Int) + 1) = 0) && decide (ring / ((k : Int) + 1) ≤ 8)) rfl (by rw [List.length_range]; exact Nat.le_trans (show ring.toNat ≤ 48 by omega) (by decide)) (fun n hn H g => ⟨_, rfl, ?_, fun _ H' g' => ?_⟩) fun H g e => ?_
  · have hn' := List.mem_range.mp hn
    have hn3 : (n : Int) + 1 < 1073741824 := by omega
    walk_at "zz"
    (with_reducible first | refine tw_dec (fun c => ?_) (fun c => ?_) | refine aw_dec (fun c => ?_) (fun c => ?_) | refine ow_dec (fun c => ?_) (fun c => ?_) | refine bw_dec (fun c => ?_) (fun c => ?_) | refine tw_b (fun c => ?_) (fun c => ?_) | refine aw_b (fun c => ?_) (fun c => ?_) | refine ow_b (fun c => ?_) (fun c => ?_) | refine bw_b (fun c => ?_) (fun c => ?_))
    · walk_at "zz"
      exact ⟨by simp [c], .refl⟩
    · exact ⟨by simp [c], .refl⟩
  · walk_at "zz"
    exact ⟨rfl, .refl⟩
  have ls := hs.lt
  have hs1 := g.store hs
  have f1 : Fr s h H := g.fr
  walk_at "zz"
  refine pickr_wp hs1 e (by omega) ?_ ?_ fun d h2 hd hs2 f2 => ?_
  · rw [List.length_map]
    refine List.length_pos_of_mem (a := ring.toNat - 1) (List.mem_filter.mpr ⟨by rw [List.mem_range]; omega, ?_⟩)
    have : ((ring.toNat - 1 : Nat) : Int) + 1 = ring := by omega
    rw [this, Int.emod_self, Int.ediv_self (by omega)]
    rfl
  · rw [List.length_map]
    have := List.length_filter_le (fun k : Nat => decide (ring % ((k : Int) + 1) = 0) && decide (ring / ((k : Int) + 1) ≤ 8)) (List.range ring.toNat)
    rw [List.length_range] at this
    omega
  obtain ⟨n, hn, rfl⟩ := List.mem_map.mp hd
  obtain ⟨hn1, hn2⟩ := List.mem_filter.mp hn
  rw [List.mem_range] at hn1
  simp only [Bool.and_eq_true, decide_eq_true_eq] at hn2
  have s1 : 1 ≤ (n : Int) + 1 := by omega
  have s2 : (n : Int) + 1 ≤ ring := by omega
  generalize (n : Int) + 1 = step at hn2 s1 s2 ⊢
  obtain ⟨m0, t8⟩ := hn2
  have te : step * (ring / step) = ring := Int.mul_ediv_cancel' (Int.dvd_of_emod_eq_zero m0)
  have t1 : 1 ≤ ring / step := (Int.le_ediv_iff_mul_le (by omega)).mpr (by omega)
  walk_at "zz"
  generalize ring / step = times at t8 te t1 ⊢
  have m1 : 1 ≤ 8 / times := (Int.le_ediv_iff_mul_le (by omega)).mpr (by omega)
  have m2 : times * (8 / times) ≤ 8 := Int.mul_ediv_self_le (by omega)
  have m3 : 8 / times ≤ 8 := Int.ediv_le_self _ (by omega)
  refine ew_comp ?_
  walk_at "zz"
  refine near_wp hs2 m1 (by omega) fun many h3 n1 n2 hs3 f3 => ?_
  walk_at "zz"
  refine ⟨_, _, src_r1 (small_k (by omega) (by omega)), ?_⟩
  rw [range_up]
  refine draws_wp (fun d => ∃ n : Int, d = .int n ∧ (0 ≤ n ∧ n < step)) hs3 (by omega) (fun j h4 hs4 _ => ?_) fun ds h4 l p e4 hs4 f4 => ?_
  · walk_at "zz"
    refine take_wp hs4 (by omega) (by omega) fun d h5 d0 d1 hs5 f5 => ?_
    exact ⟨⟨d, rfl, d0, d1⟩, hs5, f5⟩
  obtain ⟨ns, rfl, hns⟩ := all_ints _ p
  rw [List.length_map] at l
  have f5 := f1.trans (f2.trans (f3.trans f4))
  clear f1 f2 f3 f4 hs1 hs2 hs3 hn hd e g
  generalize h3.length = r5 at e4 ⊢
  refine sq_nx (sw_seq (sw_set (ew_lst (lw_nil ⟨by decide, ?_⟩))))
  refine sq_nx (sw_seq (sw_loop (lw_cons (ew_var rfl (lw_nil ⟨_, _, src_r1 (small_k (by omega) (by omega)), ?_⟩)))))
  rw [range_up]
  refine fw_up (I := fun j ρ2 h2 => ∃ (a : Nat) (us : List Int) (v : Option D), ρ2 = [some (.ref s), some (.int ring), some (.ref h.length), some (.int step), some (.int times), some (.ref r5), some (.ref a), v, none] ∧ Gr h4 h2 ∧ h2[a]? = some (.lst (us.map .int)) ∧ us.length = j.toNat * ns.length ∧ ∀ u ∈ us, 0 ≤ u ∧ u < step * j) ⟨_, [], none, rfl, .app, get_new, by simp, by simp⟩ (fun _ _ _ _ => rfl) ?_ ?_
  · rintro j _ h2 j0 j1 ⟨a, us, v, rfl, g, ea, ul, hu⟩
    refine ⟨_, rfl, ?_⟩
    have nl : ns.length ≤ 8 := by omega
    have jl : j.toNat * ns.length ≤ 8 * 8 := Nat.mul_le_mul (by omega) nl
    refine sw_set (ew_prim (lw_cons (ew_var rfl (lw_cons (ew_comp ?_)))))
    refine lw_cons (ew_var rfl (lw_nil ⟨_, _, src_r (g.get e4), ?_⟩))
    refine rw_compI (fun n => .int (n + step * j)) (fun _ => true) (gd_one (g.get e4)) (Nat.le_trans nl (by decide)) (fun n _ u => ⟨_, rfl, ?_, fun _ => ?_⟩) ?_
    · walk_at "zz"
      exact ⟨rfl, rfl⟩
    · walk_at "zz"
      exact ⟨rfl, rfl⟩
    rw [filt_true]
    have em : (ns.map fun n => D.int (n + step * j)) = (ns.map (· + step * j)).map .int := by rw [List.map_map]; rfl
    rw [em]
    refine lw_nil (pw_addr (get_app ea) get_new ?_ ?_)
    · simp only [List.length_map]
      exact Nat.le_trans (show _ ≤ 100 by omega) (by decide)
    refine rd_nx ⟨_, us ++ ns.map (· + step * j), _, rfl, g.add.add, by rw [get_new, List.map_append], ?_, ?_⟩
    · have : (j + 1).toNat = j.toNat + 1 := by omega
      rw [List.length_append, List.length_map, this, Nat.succ_mul, ul]
    · intro u hm
      rw [Int.mul_add, Int.mul_one]
      rcases List.mem_append.mp hm with hm | hm
      · have := hu u hm
        omega
      · obtain ⟨n, hn, rfl⟩ := List.mem_map.mp hm
        have := hns n hn
        have : 0 ≤ step * j := Int.mul_nonneg (by omega) (by omega)
        omega
  · rintro _ h2 ⟨a, us, v, rfl, g, ea, ul, hu⟩
    have tt : ((0 : Int) + (times.toNat : Nat)) = times := by omega
    rw [tt] at ul hu
    rw [te] at hu
    have nn : times * many ≤ 8 := Int.le_trans (Int.mul_le_mul_of_nonneg_left n2 (by omega)) m2
    have ui : (us.length : Int) = times * many := by
      rw [ul, Int.natCast_mul, l]
      have a : ((times.toNat : Nat) : Int) = times := by omega
      have b : ((many.toNat : Nat) : Int) = many := by omega
      rw [a, b]
    have u1 : 1 * 1 ≤ times * many := Int.mul_le_mul t1 n1 (by omega) (by omega)
    refine sq_nx (sw_ret (ew_prim (lw_cons (ew_prim (lw_cons (ew_var rfl (lw_nil (pw_sorted ea (intsOf_map _) ?_))))))))
    refine lw_nil (pw_tupr get_new ?_)
    have pl := (sortI_perm us).length_eq
    refine q (sortI us) _ (by omega) (by omega) ?_ (g.add.store hs4) (f5.trans g.add.fr)
    exact up_of (sortI_sorted _) fun t ht => hu t ((sortI_perm us).mem_iff.mp ht)
end
end K06

set_option Elab.async false
set_option linter.all false
set_option maxRecDepth 100000
set_option maxHeartbeats 4000000
namespace K06
open PySem L2 Z
variable {k : Nat} {h : Hm} {K : D → Hm → Prop} {X : Exn → Hm → Prop} {s : Nat}
section
variable {ring : Int} {ts : List Int}
theorem atD_fst {x y : D} : atD [x, y] 1 = some y := by
  rw [atD_pos (by simp) (by decide)]; rfl
theorem sm_form {us : List Int} {L : Int} (l : us.length ≤ 8) : Sm h 3 (ans (.tup [tupI us, .int L])) (ans (.tup [tupI us, .int L])) := by
  refine sm_refl 3 ⟨by simp, fun x hx => ?_⟩
  simp only [List.mem_cons, List.not_mem_nil, or_false] at hx
  rcases hx with rfl | rfl
  · exact (by decide +kernel : SeqAt.shaped (PyData.str (Str.ofString "answer")) = true)
  · refine ⟨by simp, fun x hx => ?_⟩
    simp only [List.mem_cons, List.not_mem_nil, or_false] at hx
    rcases hx with rfl | rfl
    · exact tre_tupI (by omega)
    · trivial
theorem sm_ansT {us : List Int} (l : us.length ≤ 8) : Sm h 2 (ans (tupI us)) (ans (tupI us)) := sm_refl 2 (tre_ans (tre_tupI (by omega)))
theorem sm_ansI {i : Int} : Sm h 2 (ans (.int i)) (ans (.int i)) := sm_refl 2 (tre_ans trivial)
theorem folds_is (r1 : 1 ≤ ring) (u : Up ring 0 ts) : folds ring ts = ((List.range ring.toNat).filter fun k => decide (turnI (rowI ring ts) k = rowI ring ts)).length := by
  unfold folds trs
  rw [List.filter_map, List.length_map]
  congr 1
  apply List.filter_congr
  intro n hn
  rw [List.mem_range] at hn
  simp only [Function.comp, decide_eq_decide]
  have := tr_eq r1 u hn (b := 0) (by omega)
  rw [tr_zero u, turn_zero] at this
  exact this
theorem right_wp (r1 : 1 ≤ ring) (r2 : ring ≤ 48) (l1 : 1 ≤ ts.length) (l2 : ts.length ≤ 8) (u : Up ring 0 ts) (q : ∀ H, Gr h H → K (.bl true) H) : C (k + 8) i_law_chord_right [.int ring, tupI ts] h K X := by
  refine rw_in (fn := f_law_chord_right) (b := b_law_chord_right) rfl rfl rfl (ρ := [some (.int ring), some (tupI ts), none, none, none, none, none, none]) rfl ?_; delta b_law_chord_right
  have ml : (mir ring ts).length = ts.length := by rw [sortT_len, List.length_map]
  have mu : Up ring 0 (mir ring ts) := sortT_up r1
  have rl : ∀ us : List Int, (rowI ring us).length = ring.toNat := fun us => rowF_len
  walk_at "zz"
  refine lrow_wp r1 r2 (up_all u) fun H r g e => ?_
  walk_at "zz"
  refine greatest_wp (by rw [rl]; omega) (by rw [rl]; omega) e fun a1 b1 L H1 g1 hL ea1 eb1 => ?_
  walk_at "zz"
  refine mirrored_wp r1 l2 fun H2 g2 => ?_
  walk_at "zz"
  refine lrow_wp r1 r2 (up_all mu) fun H3 r3 g3 e3 => ?_
  walk_at "zz"
  refine greatest_wp (by rw [rl]; omega) (by rw [rl]; omega) e3 fun a2 b2 M H4 g4 hM ea2 eb2 => ?_
  have g14 := g2.trans (g3.trans g4)
  have e := g14.get (g1.get e)
  have ea1 := g14.get ea1
  have eb1 := g14.get eb1
  have g := g.trans (g1.trans g14)
  clear g1 g2 g3 g4 g14 e3
  rw [rl] at hL hM
  have tl : ∀ us m, (turnI (rowI ring us) m).length ≤ 900 := fun us m => by
    unfold turnI
    rw [List.length_append, List.length_drop, List.length_take, rl]
    omega
  refine sq_nx (sw_seq (sw_set (ew_prim (lw_cons (ew_prim (lw_cons (ew_var rfl (lw_cons (ew_lit (lw_nil (pw_idxr ea1 atD_zero ?_)))))))))))
  refine lw_cons (ew_prim (lw_cons (ew_var rfl (lw_cons (ew_lit (lw_nil (pw_idxr ea2 atD_zero ?_)))))))
  refine lw_nil (pw_max2R eb1 eb2 (tl _ _) (tl _ _) ?_)
  have et : (if turnI (rowI ring ts) L < turnI (rowI ring (mir ring ts)) M then D.ref b2 else D.ref b1) = .ref (if turnI (rowI ring ts) L < turnI (rowI ring (mir ring ts)) M then b2 else b1) := by split <;> rfl
  rw [et]
  have ebb : H4[(if turnI (rowI ring ts) L < turnI (rowI ring (mir ring ts)) M then b2 else b1)]? = some (.lst ((rowI ring (if tr ring (mir ring ts) M < tr ring ts L then tr ring (mir ring ts) M else tr ring ts L)).map .int)) := by
    have : tr ring (mir ring ts) M < tr ring ts L ↔ turnI (rowI ring ts) L < turnI (rowI ring (mir ring ts)) M := by
      rw [row_iff (tr_up r1) (tr_up r1) (by rw [tr_len, tr_len, ml]), row_turn r1 u hL.1, row_turn r1 mu hM.1]
    by_cases c : turnI (rowI ring ts) L < turnI (rowI ring (mir ring ts)) M
    · rw [if_pos c, if_pos (this.mpr c), row_turn r1 mu hM.1]; exact eb2
    · rw [if_neg c, if_neg (fun z => c (this.mp z)), row_turn r1 u hL.1]; exact eb1
  generalize (if turnI (rowI ring ts) L < turnI (rowI ring (mir ring ts)) M then b2 else b1) = bb at ebb ⊢
  have eb1' : H4[b1]? = some (.lst ((rowI ring (tr ring ts L)).map .int)) := by rw [row_turn r1 u hL.1]; exact eb1
  refine sq_nx (sw_seq (sw_set (ew_prim (lw_cons (ew_comp ?_)))))
  refine lw_cons (ew_var rfl (lw_nil ⟨_, _, src_r1 (small_k (by omega) (by omega)), ?_⟩))
  rw [range_nat]
  refine rw_compG (fun k : Nat => D.int k) (fun k => D.int k) (fun k => decide (turnI (rowI ring ts) k = rowI ring ts)) rfl (by rw [List.length_range]; exact Nat.le_trans (show ring.toNat ≤ 48 by omega) (by decide)) (fun n hn H5 g5 => ⟨_, rfl, ?_, fun _ H' g' => ?_⟩) fun H5 g5 e5 => ?_
  · rw [List.mem_range] at hn
    refine ew_prim (lw_cons (ew_call (lw_cons (ew_var rfl (lw_cons (ew_var rfl (lw_nil ?_)))))))
    refine turned_wp (g5.get e) (by omega) (by rw [rl]; omega) (by rw [rl]; omega) fun H6 r6 g6 e6 => ?_
    refine lw_cons (ew_var rfl (lw_nil ?_))
    have : ((n : Int)).toNat = n := by omega
    rw [this] at e6
    refine pw_eqD (eqD_ref e6 (g6.get (g5.get e)) (tl _ _) (by rw [rl]; omega)) ?_
    exact ⟨rfl, g6⟩
  · walk_at "zz"
    exact ⟨rfl, .refl⟩
  refine lw_nil (pw_lenr e5 ?_)
  rw [List.length_map, ← folds_is r1 u]
  have ea1 := g5.get ea1
  have eb1 := g5.get eb1'
  have ebb := g5.get ebb
  have g := g.trans g5
  clear g5 e5 ea2 eb2 eb1' e
  have bl : ∀ us m, (tr ring us m).length = us.length := fun us m => tr_len
  walk_at "zz"
  refine told0_wp r1 r2 l1 l2 u fun L' H6 hL' g6 => ?_
  have := best_un hL' hL
  subst this
  have ea1 := g6.get ea1
  have eb1 := g6.get eb1
  have ebb := g6.get ebb
  have g := g.trans g6
  clear g6
  refine lw_cons (ew_tup (lw_cons (ew_lit (lw_cons ?_))))
  refine ew_tup (lw_cons (ew_call (lw_cons ?_)))
  refine ew_prim (lw_cons (ew_var rfl (lw_cons (ew_lit (lw_nil (pw_idxr ea1 atD_zero ?_))))))
  refine lw_nil (of_row_wp (ts := tr ring ts L') r1 r2 (by rw [bl]; exact l2) (tr_up r1) eb1 fun H7 g7 => ?_)
  have ea1 := g7.get ea1
  have ebb := g7.get ebb
  have g := g.trans g7
  clear g7
  refine lw_cons (ew_prim (lw_cons (ew_var rfl (lw_cons (ew_lit (lw_nil (pw_idxr ea1 atD_fst ?_)))))))
  refine lw_nil ⟨le_size (by simp), lw_nil ⟨le_size (by simp), lw_nil ?_⟩⟩
  with_reducible refine same_wp 3 (sm_form (by rw [bl]; exact l2)) ?_
  walk_at "zz"
  refine told1_wp r1 r2 l1 l2 u fun L2 M2 H8 hL2 hM2 g8 => ?_
  have := best_un hL2 hL
  subst this
  have := best_un hM2 hM
  subst this
  have bl2 : (if tr ring (mir ring ts) M2 < tr ring ts L2 then tr ring (mir ring ts) M2 else tr ring ts L2).length ≤ 8 := by
    split <;> rw [bl] <;> omega
  have bu : Up ring 0 (if tr ring (mir ring ts) M2 < tr ring ts L2 then tr ring (mir ring ts) M2 else tr ring ts L2) := by
    split <;> exact tr_up r1
  generalize (if tr ring (mir ring ts) M2 < tr ring ts L2 then tr ring (mir ring ts) M2 else tr ring ts L2) = bs at ebb bl2 bu ⊢
  have ebb := g8.get ebb
  have g := g.trans g8
  clear g8
  refine lw_cons (ew_tup (lw_cons (ew_lit (lw_cons (ew_call (lw_cons (ew_var rfl (lw_nil ?_))))))))
  refine of_row_wp r1 r2 bl2 bu ebb fun H9 g9 => ?_
  refine lw_nil ⟨le_size (by simp), lw_nil ?_⟩
  with_reducible refine same_wp 2 (sm_ansT bl2) ?_
  walk_at "zz"
  refine told2_wp r1 r2 l1 l2 u fun H10 g10 => ?_
  walk_at "zz"
  with_reducible refine same_wp 2 sm_ansI ?_
  exact q _ (g.trans (g9.trans g10))
end
end K06

set_option Elab.async false
set_option linter.all false
set_option maxRecDepth 100000
set_option maxHeartbeats 4000000
namespace K06
open PySem L2 Z
variable {k : Nat} {h : Hm} {K : D → Hm → Prop} {X : Exn → Hm → Prop} {s : Nat}
theorem atD_last {ts : List Int} (l : 1 ≤ ts.length) : atD (ts.map D.int) (-1) = some (.int (ts[ts.length - 1]'(by omega))) := by
  unfold atD ixN
  have a : -((ts.map D.int).length : Int) ≤ -1 := by simp; omega
  have b : (-1 + ((ts.map D.int).length : Int)).toNat = ts.length - 1 := by simp; omega
  rw [if_neg (by decide), if_pos a, Option.bind_some, b]
  simp
theorem sm_one {a : Str} {h : Hm} (z : SeqAt.shaped (PyData.str a) = true) : Sm h 2 (.tup [.str a]) (.tup [.str a]) := sm_refl 2 (tre_one z)
theorem law_wp {ns : List Int} (l : ns.length ≤ 63) : C (k + 12) i_law [.ro (ns.map .int)] [] (fun d _ => d = .bl true) (fun _ _ => False) := by
  refine rw_in (fn := f_law) (b := b_law) rfl rfl rfl (ρ := [some (.ro (ns.map .int)), none, none, none, none, none, none, none, none, none, none, none, none, none, none, none, none]) rfl ?_; delta b_law
  walk_at "zz"
  with_reducible refine store_wp l fun s h1 hs1 => ?_
  walk_at "zz"
  with_reducible refine ring_wp hs1 (by omega) (by omega) fun ring h2 r1 r2 hs2 f2 => ?_
  walk_at "zz"
  with_reducible refine near_wp hs2 (by omega) (by omega) fun m h3 m1 m2 hs3 f3 => ?_
  walk_at "zz"
  with_reducible refine chord_wp hs3 r1 (by omega) m1 (by omega) fun ts h4 l4 u hs4 f4 => ?_
  walk_at "zz"
  with_reducible refine take_wp hs4 (by omega) (by omega) fun by' h5 b0 b1 hs5 f5 => ?_
  have l1 : 1 ≤ ts.length := by omega
  have l2 : ts.length ≤ 8 := by omega
  walk_at "zz"
  refine ew_comp ?_
  walk_at "zz"
  refine ⟨_, _, src_t, ?_⟩
  refine rw_compI (fun n => .int ((n + by') % ring)) (fun _ => true) rfl (Nat.le_trans l2 (by decide)) (fun n _ u => ⟨_, rfl, ?_, fun _ => ?_⟩) ?_
  · walk_at "zz"
    exact ⟨rfl, rfl⟩
  · walk_at "zz"
    exact ⟨rfl, rfl⟩
  rw [filt_true]
  have em : (ts.map fun n => D.int ((n + by') % ring)) = ((ts.map (· + by')).map fun p => p % ring).map .int := by rw [List.map_map, List.map_map]; rfl
  rw [em]
  refine lw_nil (pw_sorted get_new (intsOf_map _) ?_)
  refine lw_nil (pw_tupr get_new ?_)
  have emv : sortI ((ts.map (· + by')).map fun p => p % ring) = tr ring ts by'.toNat := by
    unfold tr
    have : ((by'.toNat : Nat) : Int) = by' := by omega
    rw [this]
    rfl
  rw [emv]
  have hs6 : StoreOk (h5 ++ [Cell.lst (((ts.map (· + by')).map fun p => p % ring).map .int)] ++ [Cell.lst ((tr ring ts by'.toNat).map .int)]) s := hs5.app.app
  generalize h5 ++ [Cell.lst (((ts.map (· + by')).map fun p => p % ring).map .int)] ++ [Cell.lst ((tr ring ts by'.toNat).map .int)] = h6 at hs6 ⊢
  have mu : Up ring 0 (tr ring ts by'.toNat) := tr_up r1
  have ml : (tr ring ts by'.toNat).length = ts.length := tr_len
  clear f2 f3 f4 f5 hs1 hs2 hs3 hs4 hs5 em emv
  walk_at "zz"
  refine mirrored_wp r1 l2 fun h7 g7 => ?_
  have hs7 := g7.store hs6
  have tu : Up ring 0 (sortT ring (ts.map (by' - ·))) := sortT_up r1
  have tl : (sortT ring (ts.map (by' - ·))).length = ts.length := by rw [sortT_len, List.length_map]
  generalize sortT ring (ts.map (by' - ·)) = us at tu tl ⊢
  walk_at "zz"
  with_reducible refine folded_wp hs7 r1 r2 fun vs h8 v1 v2 vu hs8 _ => ?_
  walk_at "zz"
  with_reducible refine ring_wp hs8 (by omega) (by omega) fun ring' h9 r1' r2' hs9 _ => ?_
  walk_at "zz"
  with_reducible refine near_wp hs9 (by omega) (by omega) fun m' h10 m1' m2' hs10 _ => ?_
  walk_at "zz"
  with_reducible refine chord_wp hs10 r1' (by omega) m1' (by omega) fun ts' h11 l11 u' hs11 _ => ?_
  walk_at "zz"
  with_reducible refine badring_wp hs11 fun bring h12 br hs12 _ => ?_
  walk_at "zz"
  rw [List.length_map]
  walk_at "zz"
  with_reducible refine badchord_wp hs12 r1 (by omega) (by omega) (by omega) fun wts h13 wr _ _ => ?_
  clear hs6 hs7 hs8 hs9 hs10 hs11 hs12 g7
  walk_at "zz"
  with_reducible refine right_wp r1 r2 l1 l2 u fun h14 _ => ?_
  walk_at "zz"
  with_reducible refine right_wp r1' r2' (by omega) (by omega) u' fun h15 _ => ?_
  walk_at "zz"
  refine ⟨_, _, src_t, ?_⟩
  refine fw_inv (I := fun xs ρ2 h2 => (∃ v : Option D, ρ2 = [some (.ro (ns.map .int)), some (.ref s), some (.int ring), some (tupI ts), some (.int by'), some (tupI (tr ring ts by'.toNat)), some (tupI us), some (tupI vs), some (.int ring'), some (tupI ts'), some (.int bring), some (tupI wts), v, none, none, none, none]) ∧ ∀ x ∈ xs, ∃ ws : List Int, x = tupI ws ∧ 1 ≤ ws.length ∧ ws.length ≤ 8 ∧ Up ring 0 ws) ⟨⟨none, rfl⟩, ?_⟩ (fun _ _ _ _ => rfl) ?_ ?_
  · intro x hx
    simp only [List.mem_cons, List.not_mem_nil, or_false] at hx
    rcases hx with rfl | rfl | rfl
    · exact ⟨_, rfl, by omega, by omega, mu⟩
    · exact ⟨_, rfl, by omega, by omega, tu⟩
    · exact ⟨_, rfl, v1, v2, vu⟩
  · rintro x xs _ h2 ⟨⟨v, rfl⟩, hx⟩
    obtain ⟨ws, rfl, w1, w2, wu⟩ := hx x (by simp)
    refine ⟨_, rfl, ?_⟩
    walk_at "zz"
    with_reducible refine right_wp r1 r2 w1 w2 wu fun h3 _ => ?_
    walk_at "zz"
    exact rd_nx ⟨⟨_, rfl⟩, fun y hy => hx y (by simp [hy])⟩
  rintro _ h16 ⟨⟨v, rfl⟩, _⟩
  refine sq_nx (sw_cut (fun ρ2 h2 => ∃ w : Option D, ρ2 = [some (.ro (ns.map .int)), some (.ref s), some (.int ring), some (tupI ts), some (.int by'), some (tupI (tr ring ts by'.toNat)), some (tupI us), some (tupI vs), some (.int ring'), some (tupI ts'), some (.int bring), some (tupI wts), v, w, none, none, none]) ?_ ?_)
  · walk_at "zz"
    refine ⟨_, _, src_r1 (by decide +kernel), ?_⟩
    rw [range_up]
    refine fw_up (I := fun _ ρ2 h2 => ∃ w : Option D, ρ2 = [some (.ro (ns.map .int)), some (.ref s), some (.int ring), some (tupI ts), some (.int by'), some (tupI (tr ring ts by'.toNat)), some (tupI us), some (tupI vs), some (.int ring'), some (tupI ts'), some (.int bring), some (tupI wts), v, w, none, none, none]) ⟨none, rfl⟩ (fun _ _ _ _ => rfl) ?_ ?_
    · rintro j _ h2 j0 j1 ⟨w, rfl⟩
      have j1 : j < 3 := by simpa using j1
      refine ⟨_, rfl, ?_⟩
      walk_at "zz"
      with_reducible refine toldr_wp j0 j1 br ?_
      walk_at "zz"
      with_reducible refine same_wp 2 (sm_one (by decide +kernel)) ?_
      walk_at "zz"
      with_reducible refine toldr_wp j0 j1 br ?_
      walk_at "zz"
      with_reducible refine same_wp 2 (sm_one (by decide +kernel)) ?_
      walk_at "zz"
      with_reducible refine tolds_wp j0 j1 r1 r2 wr ?_
      walk_at "zz"
      with_reducible refine same_wp 2 (sm_one (by decide +kernel)) ?_
      walk_at "zz"
      refine pw_idxt (atD_last l1) ?_
      walk_at "zz"
      have lm := up_all u _ (List.getElem_mem (show ts.length - 1 < ts.length by omega))
      (with_reducible first | refine tw_dec (fun c2 => ?_) (fun c2 => ?_) | refine aw_dec (fun c2 => ?_) (fun c2 => ?_) | refine ow_dec (fun c2 => ?_) (fun c2 => ?_) | refine bw_dec (fun c2 => ?_) (fun c2 => ?_) | refine tw_b (fun c2 => ?_) (fun c2 => ?_) | refine aw_b (fun c2 => ?_) (fun c2 => ?_) | refine ow_b (fun c2 => ?_) (fun c2 => ?_) | refine bw_b (fun c2 => ?_) (fun c2 => ?_))
      · walk_at "zz"
        refine pw_idxt (atD_last l1) ?_
        walk_at "zz"
        have wl : Wrong (ts[ts.length - 1]'(by omega)) ts := fun z => by
          have := up_all z.2.2 _ (List.getElem_mem (show ts.length - 1 < ts.length by omega))
          omega
        with_reducible refine tolds_wp j0 j1 (by omega) (by omega) wl ?_
        walk_at "zz"
        with_reducible refine same_wp 2 (sm_one (by decide +kernel)) ?_
        walk_at "zz"
        exact rd_nx ⟨_, rfl⟩
      · walk_at "zz"
        exact rd_nx ⟨_, rfl⟩
    · intro ρ2 h2 hh
      exact cq_nx hh
  rintro _ h17 ⟨w, rfl⟩
  walk_at "zz"
  with_reducible refine told0_wp r1 r2 l1 l2 u fun L h18 hL _ => ?_
  walk_at "zz"
  with_reducible refine told0_wp r1 r2 (by omega) (by omega) mu fun L' h19 hL' _ => ?_
  refine sq_nx (sw_ret (ew_and ?_))
  refine ew_prim (lw_cons (ew_prim (lw_cons (ew_prim (lw_cons (ew_var rfl (lw_cons (ew_lit (lw_nil (pw_idxt atD_fst ?_))))))))))
  refine lw_cons (ew_lit (lw_nil (pw_idxt atD_zero ?_)))
  refine lw_cons (ew_prim (lw_cons (ew_prim (lw_cons (ew_var rfl (lw_cons (ew_lit (lw_nil (pw_idxt atD_fst ?_)))))))))
  refine lw_cons (ew_lit (lw_nil (pw_idxt atD_zero ?_)))
  rw [← least_same r1 u hL hL']
  have bl : (tr ring ts L).length ≤ 900 := by rw [tr_len]; omega
  refine lw_nil (pw_eqD (eqD_tup bl bl) ?_)
  walk_at "zz"
  with_reducible refine right_wp r1 r2 l1 l2 u fun h20 _ => ?_
  rfl
theorem law_true : ∀ ns : List Int, ns.length ≤ 63 → ∃ h, callF pg fuel 30 i_law [.ro (ns.map .int)] [] = .ok (.bl true) h := fun ns l => rw_get_ok (law_wp (k := 18) l)
end K06

end
set_option Elab.async false
set_option linter.all false
set_option maxRecDepth 100000
set_option maxHeartbeats 4000000
namespace K06
open PySem L2 Z
abbrev top (i : Nat) : Stmt := PySem.Challenge.pw_nextchord_k06_least_form_of_a_family.main.body.getD i (.Pass ⟨0, 0, 0, 0⟩)
theorem s_check_ring : FnScope ([(Str.ofString "ring")] : List Str) ([(Str.ofString "ring")] : List Str) (defScope (top 19)) := ⟨rfl, rfl, rfl, by decide +kernel, rfl, by decide +kernel, by decide +kernel⟩
theorem c_check_ring : ((cFn pg nm ([(Str.ofString "ring")] : List Str) (top 19)).map fun x => x.b') = some b_check_ring := by kernel_rfl
theorem s_check_chord : FnScope ([(Str.ofString "ring"), (Str.ofString "chord"), (Str.ofString "low"), (Str.ofString "tone")] : List Str) ([(Str.ofString "ring"), (Str.ofString "chord")] : List Str) (defScope (top 20)) := ⟨rfl, rfl, rfl, by decide +kernel, rfl, by decide +kernel, by decide +kernel⟩
theorem c_check_chord : ((cFn pg nm ([(Str.ofString "ring"), (Str.ofString "chord"), (Str.ofString "low"), (Str.ofString "tone")] : List Str) (top 20)).map fun x => x.b') = some b_check_chord := by kernel_rfl
theorem s_sorted_tones : FnScope ([(Str.ofString "ring"), (Str.ofString "pitches"), (Str.ofString "pitch")] : List Str) ([(Str.ofString "ring"), (Str.ofString "pitches")] : List Str) (defScope (top 22)) := ⟨rfl, rfl, rfl, by decide +kernel, rfl, by decide +kernel, by decide +kernel⟩
theorem c_sorted_tones : ((cFn pg nm ([(Str.ofString "ring"), (Str.ofString "pitches"), (Str.ofString "pitch")] : List Str) (top 22)).map fun x => x.b') = some b_sorted_tones := by kernel_rfl
theorem s_mirror_chord : FnScope ([(Str.ofString "ring"), (Str.ofString "chord"), (Str.ofString "axis"), (Str.ofString "tone")] : List Str) ([(Str.ofString "ring"), (Str.ofString "chord"), (Str.ofString "axis")] : List Str) (defScope (top 23)) := ⟨rfl, rfl, rfl, by decide +kernel, rfl, by decide +kernel, by decide +kernel⟩
theorem c_mirror_chord : ((cFn pg nm ([(Str.ofString "ring"), (Str.ofString "chord"), (Str.ofString "axis"), (Str.ofString "tone")] : List Str) (top 23)).map fun x => x.b') = some b_mirror_chord := by kernel_rfl
theorem s_transposed_rows : FnScope ([(Str.ofString "ring"), (Str.ofString "chord"), (Str.ofString "by"), (Str.ofString "tone")] : List Str) ([(Str.ofString "ring"), (Str.ofString "chord")] : List Str) (defScope (top 25)) := ⟨rfl, rfl, rfl, by decide +kernel, rfl, by decide +kernel, by decide +kernel⟩
theorem c_transposed_rows : ((cFn pg nm ([(Str.ofString "ring"), (Str.ofString "chord"), (Str.ofString "by"), (Str.ofString "tone")] : List Str) (top 25)).map fun x => x.b') = some b_transposed_rows := by kernel_rfl
theorem s_least_form : FnScope ([(Str.ofString "ring"), (Str.ofString "chord"), (Str.ofString "rows"), (Str.ofString "form")] : List Str) ([(Str.ofString "ring"), (Str.ofString "chord")] : List Str) (defScope (top 26)) := ⟨rfl, rfl, rfl, by decide +kernel, rfl, by decide +kernel, by decide +kernel⟩
theorem c_least_form : ((cFn pg nm ([(Str.ofString "ring"), (Str.ofString "chord"), (Str.ofString "rows"), (Str.ofString "form")] : List Str) (top 26)).map fun x => x.b') = some b_least_form := by kernel_rfl
theorem s_least_both : FnScope ([(Str.ofString "ring"), (Str.ofString "chord"), (Str.ofString "straight"), (Str.ofString "mirrored")] : List Str) ([(Str.ofString "ring"), (Str.ofString "chord")] : List Str) (defScope (top 27)) := ⟨rfl, rfl, rfl, by decide +kernel, rfl, by decide +kernel, by decide +kernel⟩
theorem c_least_both : ((cFn pg nm ([(Str.ofString "ring"), (Str.ofString "chord"), (Str.ofString "straight"), (Str.ofString "mirrored")] : List Str) (top 27)).map fun x => x.b') = some b_least_both := by kernel_rfl
theorem s_fold_count : FnScope ([(Str.ofString "ring"), (Str.ofString "chord"), (Str.ofString "row")] : List Str) ([(Str.ofString "ring"), (Str.ofString "chord")] : List Str) (defScope (top 28)) := ⟨rfl, rfl, rfl, by decide +kernel, rfl, by decide +kernel, by decide +kernel⟩
theorem c_fold_count : ((cFn pg nm ([(Str.ofString "ring"), (Str.ofString "chord"), (Str.ofString "row")] : List Str) (top 28)).map fun x => x.b') = some b_fold_count := by kernel_rfl
theorem s_law_store : FnScope ([(Str.ofString "script"), (Str.ofString "cell")] : List Str) ([(Str.ofString "script")] : List Str) (defScope (top 30)) := ⟨rfl, rfl, rfl, by decide +kernel, rfl, by decide +kernel, by decide +kernel⟩
theorem c_law_store : ((cFn pg nm ([(Str.ofString "script"), (Str.ofString "cell")] : List Str) (top 30)).map fun x => x.b') = some b_law_store := by kernel_rfl
theorem s_law_take : FnScope ([(Str.ofString "store"), (Str.ofString "many"), (Str.ofString "half"), (Str.ofString "cell"), (Str.ofString "drawn")] : List Str) ([(Str.ofString "store"), (Str.ofString "many")] : List Str) (defScope (top 31)) := ⟨rfl, rfl, rfl, by decide +kernel, rfl, by decide +kernel, by decide +kernel⟩
theorem c_law_take : ((cFn pg nm ([(Str.ofString "store"), (Str.ofString "many"), (Str.ofString "half"), (Str.ofString "cell"), (Str.ofString "drawn")] : List Str) (top 31)).map fun x => x.b') = some b_law_take := by kernel_rfl
theorem s_law_odds : FnScope ([(Str.ofString "store"), (Str.ofString "part"), (Str.ofString "whole")] : List Str) ([(Str.ofString "store"), (Str.ofString "part"), (Str.ofString "whole")] : List Str) (defScope (top 32)) := ⟨rfl, rfl, rfl, by decide +kernel, rfl, by decide +kernel, by decide +kernel⟩
theorem c_law_odds : ((cFn pg nm ([(Str.ofString "store"), (Str.ofString "part"), (Str.ofString "whole")] : List Str) (top 32)).map fun x => x.b') = some b_law_odds := by kernel_rfl
theorem s_law_span : FnScope ([(Str.ofString "store"), (Str.ofString "least"), (Str.ofString "greatest")] : List Str) ([(Str.ofString "store"), (Str.ofString "least"), (Str.ofString "greatest")] : List Str) (defScope (top 33)) := ⟨rfl, rfl, rfl, by decide +kernel, rfl, by decide +kernel, by decide +kernel⟩
theorem c_law_span : ((cFn pg nm ([(Str.ofString "store"), (Str.ofString "least"), (Str.ofString "greatest")] : List Str) (top 33)).map fun x => x.b') = some b_law_span := by kernel_rfl
theorem s_law_near : FnScope ([(Str.ofString "store"), (Str.ofString "least"), (Str.ofString "greatest"), (Str.ofString "kind")] : List Str) ([(Str.ofString "store"), (Str.ofString "least"), (Str.ofString "greatest")] : List Str) (defScope (top 34)) := ⟨rfl, rfl, rfl, by decide +kernel, rfl, by decide +kernel, by decide +kernel⟩
theorem c_law_near : ((cFn pg nm ([(Str.ofString "store"), (Str.ofString "least"), (Str.ofString "greatest"), (Str.ofString "kind")] : List Str) (top 34)).map fun x => x.b') = some b_law_near := by kernel_rfl
theorem s_law_pick : FnScope ([(Str.ofString "store"), (Str.ofString "things")] : List Str) ([(Str.ofString "store"), (Str.ofString "things")] : List Str) (defScope (top 35)) := ⟨rfl, rfl, rfl, by decide +kernel, rfl, by decide +kernel, by decide +kernel⟩
theorem c_law_pick : ((cFn pg nm ([(Str.ofString "store"), (Str.ofString "things")] : List Str) (top 35)).map fun x => x.b') = some b_law_pick := by kernel_rfl
theorem s_law_is_whole : FnScope ([(Str.ofString "x")] : List Str) ([(Str.ofString "x")] : List Str) (defScope (top 36)) := ⟨rfl, rfl, rfl, by decide +kernel, rfl, by decide +kernel, by decide +kernel⟩
theorem c_law_is_whole : ((cFn pg nm ([(Str.ofString "x")] : List Str) (top 36)).map fun x => x.b') = some b_law_is_whole := by kernel_rfl
theorem s_law_same : FnScope ([(Str.ofString "told"), (Str.ofString "due"), (Str.ofString "k")] : List Str) ([(Str.ofString "told"), (Str.ofString "due")] : List Str) (defScope (top 37)) := ⟨rfl, rfl, rfl, by decide +kernel, rfl, by decide +kernel, by decide +kernel⟩
theorem c_law_same : ((cFn pg nm ([(Str.ofString "told"), (Str.ofString "due"), (Str.ofString "k")] : List Str) (top 37)).map fun x => x.b') = some b_law_same := by kernel_rfl
theorem s_law_ring : FnScope ([(Str.ofString "store"), (Str.ofString "greatest"), (Str.ofString "kind")] : List Str) ([(Str.ofString "store"), (Str.ofString "greatest")] : List Str) (defScope (top 38)) := ⟨rfl, rfl, rfl, by decide +kernel, rfl, by decide +kernel, by decide +kernel⟩
theorem c_law_ring : ((cFn pg nm ([(Str.ofString "store"), (Str.ofString "greatest"), (Str.ofString "kind")] : List Str) (top 38)).map fun x => x.b') = some b_law_ring := by kernel_rfl
theorem s_law_bad_ring : FnScope ([(Str.ofString "store"), (Str.ofString "kind")] : List Str) ([(Str.ofString "store")] : List Str) (defScope (top 39)) := ⟨rfl, rfl, rfl, by decide +kernel, rfl, by decide +kernel, by decide +kernel⟩
theorem c_law_bad_ring : ((cFn pg nm ([(Str.ofString "store"), (Str.ofString "kind")] : List Str) (top 39)).map fun x => x.b') = some b_law_bad_ring := by kernel_rfl
theorem s_law_chord : FnScope ([(Str.ofString "store"), (Str.ofString "ring"), (Str.ofString "many"), (Str.ofString "kind"), (Str.ofString "tones"), (Str.ofString "k")] : List Str) ([(Str.ofString "store"), (Str.ofString "ring"), (Str.ofString "many")] : List Str) (defScope (top 40)) := ⟨rfl, rfl, rfl, by decide +kernel, rfl, by decide +kernel, by decide +kernel⟩
theorem c_law_chord : ((cFn pg nm ([(Str.ofString "store"), (Str.ofString "ring"), (Str.ofString "many"), (Str.ofString "kind"), (Str.ofString "tones"), (Str.ofString "k")] : List Str) (top 40)).map fun x => x.b') = some b_law_chord := by kernel_rfl
theorem s_law_bad_chord : FnScope ([(Str.ofString "store"), (Str.ofString "ring"), (Str.ofString "many"), (Str.ofString "kind"), (Str.ofString "tones"), (Str.ofString "rises"), (Str.ofString "k"), (Str.ofString "at"), (Str.ofString "held")] : List Str) ([(Str.ofString "store"), (Str.ofString "ring"), (Str.ofString "many")] : List Str) (defScope (top 41)) := ⟨rfl, rfl, rfl, by decide +kernel, rfl, by decide +kernel, by decide +kernel⟩
theorem c_law_bad_chord : ((cFn pg nm ([(Str.ofString "store"), (Str.ofString "ring"), (Str.ofString "many"), (Str.ofString "kind"), (Str.ofString "tones"), (Str.ofString "rises"), (Str.ofString "k"), (Str.ofString "at"), (Str.ofString "held")] : List Str) (top 41)).map fun x => x.b') = some b_law_bad_chord := by kernel_rfl
theorem s_law_told : FnScope ([(Str.ofString "door"), (Str.ofString "ring"), (Str.ofString "chord"), (Str.ofString "e"), (Str.ofString "others")] : List Str) ([(Str.ofString "door"), (Str.ofString "ring"), (Str.ofString "chord")] : List Str) (defScope (top 42)) := ⟨rfl, rfl, rfl, by decide +kernel, rfl, by decide +kernel, by decide +kernel⟩
theorem c_law_told : ((cFn pg nm ([(Str.ofString "door"), (Str.ofString "ring"), (Str.ofString "chord"), (Str.ofString "e"), (Str.ofString "others")] : List Str) (top 42)).map fun x => x.b') = some b_law_told := by kernel_rfl
theorem s_law_row : FnScope ([(Str.ofString "ring"), (Str.ofString "chord"), (Str.ofString "row"), (Str.ofString "tone")] : List Str) ([(Str.ofString "ring"), (Str.ofString "chord")] : List Str) (defScope (top 43)) := ⟨rfl, rfl, rfl, by decide +kernel, rfl, by decide +kernel, by decide +kernel⟩
theorem c_law_row : ((cFn pg nm ([(Str.ofString "ring"), (Str.ofString "chord"), (Str.ofString "row"), (Str.ofString "tone")] : List Str) (top 43)).map fun x => x.b') = some b_law_row := by kernel_rfl
theorem s_law_turned : FnScope ([(Str.ofString "row"), (Str.ofString "by")] : List Str) ([(Str.ofString "row"), (Str.ofString "by")] : List Str) (defScope (top 44)) := ⟨rfl, rfl, rfl, by decide +kernel, rfl, by decide +kernel, by decide +kernel⟩
theorem c_law_turned : ((cFn pg nm ([(Str.ofString "row"), (Str.ofString "by")] : List Str) (top 44)).map fun x => x.b') = some b_law_turned := by kernel_rfl
theorem s_law_of_row : FnScope ([(Str.ofString "row"), (Str.ofString "tones"), (Str.ofString "tone")] : List Str) ([(Str.ofString "row")] : List Str) (defScope (top 45)) := ⟨rfl, rfl, rfl, by decide +kernel, rfl, by decide +kernel, by decide +kernel⟩
theorem c_law_of_row : ((cFn pg nm ([(Str.ofString "row"), (Str.ofString "tones"), (Str.ofString "tone")] : List Str) (top 45)).map fun x => x.b') = some b_law_of_row := by kernel_rfl
theorem s_law_greatest : FnScope ([(Str.ofString "row"), (Str.ofString "best"), (Str.ofString "least"), (Str.ofString "by"), (Str.ofString "turned")] : List Str) ([(Str.ofString "row")] : List Str) (defScope (top 46)) := ⟨rfl, rfl, rfl, by decide +kernel, rfl, by decide +kernel, by decide +kernel⟩
theorem c_law_greatest : ((cFn pg nm ([(Str.ofString "row"), (Str.ofString "best"), (Str.ofString "least"), (Str.ofString "by"), (Str.ofString "turned")] : List Str) (top 46)).map fun x => x.b') = some b_law_greatest := by kernel_rfl
theorem s_law_mirrored : FnScope ([(Str.ofString "ring"), (Str.ofString "chord"), (Str.ofString "center"), (Str.ofString "tone")] : List Str) ([(Str.ofString "ring"), (Str.ofString "chord"), (Str.ofString "center")] : List Str) (defScope (top 47)) := ⟨rfl, rfl, rfl, by decide +kernel, rfl, by decide +kernel, by decide +kernel⟩
theorem c_law_mirrored : ((cFn pg nm ([(Str.ofString "ring"), (Str.ofString "chord"), (Str.ofString "center"), (Str.ofString "tone")] : List Str) (top 47)).map fun x => x.b') = some b_law_mirrored := by kernel_rfl
theorem s_law_folded : FnScope ([(Str.ofString "store"), (Str.ofString "ring"), (Str.ofString "steps"), (Str.ofString "step"), (Str.ofString "times"), (Str.ofString "tones"), (Str.ofString "folded"), (Str.ofString "k"), (Str.ofString "tone")] : List Str) ([(Str.ofString "store"), (Str.ofString "ring")] : List Str) (defScope (top 48)) := ⟨rfl, rfl, rfl, by decide +kernel, rfl, by decide +kernel, by decide +kernel⟩
theorem c_law_folded : ((cFn pg nm ([(Str.ofString "store"), (Str.ofString "ring"), (Str.ofString "steps"), (Str.ofString "step"), (Str.ofString "times"), (Str.ofString "tones"), (Str.ofString "folded"), (Str.ofString "k"), (Str.ofString "tone")] : List Str) (top 48)).map fun x => x.b') = some b_law_folded := by kernel_rfl
theorem s_law_chord_right : FnScope ([(Str.ofString "ring"), (Str.ofString "chord"), (Str.ofString "row"), (Str.ofString "found"), (Str.ofString "mirrored"), (Str.ofString "both"), (Str.ofString "folds"), (Str.ofString "by")] : List Str) ([(Str.ofString "ring"), (Str.ofString "chord")] : List Str) (defScope (top 49)) := ⟨rfl, rfl, rfl, by decide +kernel, rfl, by decide +kernel, by decide +kernel⟩
theorem c_law_chord_right : ((cFn pg nm ([(Str.ofString "ring"), (Str.ofString "chord"), (Str.ofString "row"), (Str.ofString "found"), (Str.ofString "mirrored"), (Str.ofString "both"), (Str.ofString "folds"), (Str.ofString "by")] : List Str) (top 49)).map fun x => x.b') = some b_law_chord_right := by kernel_rfl
theorem s_law : FnScope ([(Str.ofString "script"), (Str.ofString "store"), (Str.ofString "ring"), (Str.ofString "chord"), (Str.ofString "by"), (Str.ofString "moved"), (Str.ofString "turned"), (Str.ofString "folded"), (Str.ofString "other_ring"), (Str.ofString "other"), (Str.ofString "wrong_ring"), (Str.ofString "wrong"), (Str.ofString "one"), (Str.ofString "door"), (Str.ofString "form"), (Str.ofString "again"), (Str.ofString "tone")] : List Str) ([(Str.ofString "script")] : List Str) (defScope (top 50)) := ⟨rfl, rfl, rfl, by decide +kernel, rfl, by decide +kernel, by decide +kernel⟩
theorem c_law : ((cFn pg nm ([(Str.ofString "script"), (Str.ofString "store"), (Str.ofString "ring"), (Str.ofString "chord"), (Str.ofString "by"), (Str.ofString "moved"), (Str.ofString "turned"), (Str.ofString "folded"), (Str.ofString "other_ring"), (Str.ofString "other"), (Str.ofString "wrong_ring"), (Str.ofString "wrong"), (Str.ofString "one"), (Str.ofString "door"), (Str.ofString "form"), (Str.ofString "again"), (Str.ofString "tone")] : List Str) (top 50)).map fun x => x.b') = some b_law := by kernel_rfl
end K06
open PySem PySem.W PyProof.Rows in
set_option maxRecDepth 100000 in
set_option maxHeartbeats 0 in
theorem PySem.Challenge.cw_nextchord_k06_least_form_of_a_family_holds : PySem.Challenge.rw_nextchord_k06_least_form_of_a_family.Holds := by
  w_on; o_law; k_head; (case hw => w_witness2)
  k_fill
  refine Z.walk (l := PySem.Challenge.rw_nextchord_k06_least_form_of_a_family) (k := 30) rfl rfl ⟨rfl, by decide, by decide⟩ (fun w h Y => PySem.W.kIn_of Y) ?F
  case F =>
    intro w mg fa h KX G hmg
    have W := Z.wd_of (P := K06.pg) (nm := K06.nm) KX G (by kernel_rfl) (by
      intro n i hx
      simp only [K06.nm, List.mem_cons, List.not_mem_nil, or_false, Prod.mk.injEq] at hx
      rcases hx with ⟨rfl, rfl⟩ | ⟨rfl, rfl⟩ | ⟨rfl, rfl⟩ | ⟨rfl, rfl⟩ | ⟨rfl, rfl⟩ | ⟨rfl, rfl⟩ | ⟨rfl, rfl⟩ | ⟨rfl, rfl⟩ | ⟨rfl, rfl⟩ | ⟨rfl, rfl⟩ | ⟨rfl, rfl⟩ | ⟨rfl, rfl⟩ | ⟨rfl, rfl⟩ | ⟨rfl, rfl⟩ | ⟨rfl, rfl⟩ | ⟨rfl, rfl⟩ | ⟨rfl, rfl⟩ | ⟨rfl, rfl⟩ | ⟨rfl, rfl⟩ | ⟨rfl, rfl⟩ | ⟨rfl, rfl⟩ | ⟨rfl, rfl⟩ | ⟨rfl, rfl⟩ | ⟨rfl, rfl⟩ | ⟨rfl, rfl⟩ | ⟨rfl, rfl⟩ | ⟨rfl, rfl⟩
      · apply Z.fact_of KX G (st := K06.top 19) ?a19 ?l19 ?c19 ?k19 K06.s_check_ring rfl K06.c_check_ring (fun _ _ _ _ _ _ us hl => match us, hl with | [_], _ => rfl)
        (case a19 => k_is); (case l19 => k_is); (case c19 => k_is); (case k19 => k_is)
      · apply Z.fact_of KX G (st := K06.top 20) ?a20 ?l20 ?c20 ?k20 K06.s_check_chord rfl K06.c_check_chord (fun _ _ _ _ _ _ us hl => match us, hl with | [_, _], _ => rfl)
        (case a20 => k_is); (case l20 => k_is); (case c20 => k_is); (case k20 => k_is)
      · apply Z.fact_of KX G (st := K06.top 22) ?a22 ?l22 ?c22 ?k22 K06.s_sorted_tones rfl K06.c_sorted_tones (fun _ _ _ _ _ _ us hl => match us, hl with | [_, _], _ => rfl)
        (case a22 => k_is); (case l22 => k_is); (case c22 => k_is); (case k22 => k_is)
      · apply Z.fact_of KX G (st := K06.top 25) ?a25 ?l25 ?c25 ?k25 K06.s_transposed_rows rfl K06.c_transposed_rows (fun _ _ _ _ _ _ us hl => match us, hl with | [_, _], _ => rfl)
        (case a25 => k_is); (case l25 => k_is); (case c25 => k_is); (case k25 => k_is)
      · apply Z.fact_of KX G (st := K06.top 26) ?a26 ?l26 ?c26 ?k26 K06.s_least_form rfl K06.c_least_form (fun _ _ _ _ _ _ us hl => match us, hl with | [_, _], _ => rfl)
        (case a26 => k_is); (case l26 => k_is); (case c26 => k_is); (case k26 => k_is)
      · apply Z.fact_of KX G (st := K06.top 27) ?a27 ?l27 ?c27 ?k27 K06.s_least_both rfl K06.c_least_both (fun _ _ _ _ _ _ us hl => match us, hl with | [_, _], _ => rfl)
        (case a27 => k_is); (case l27 => k_is); (case c27 => k_is); (case k27 => k_is)
      · apply Z.fact_of KX G (st := K06.top 28) ?a28 ?l28 ?c28 ?k28 K06.s_fold_count rfl K06.c_fold_count (fun _ _ _ _ _ _ us hl => match us, hl with | [_, _], _ => rfl)
        (case a28 => k_is); (case l28 => k_is); (case c28 => k_is); (case k28 => k_is)
      · apply Z.fact_of KX G (st := K06.top 30) ?a30 ?l30 ?c30 ?k30 K06.s_law_store rfl K06.c_law_store (fun _ _ _ _ _ _ us hl => match us, hl with | [_], _ => rfl)
        (case a30 => k_is); (case l30 => k_is); (case c30 => k_is); (case k30 => k_is)
      · apply Z.fact_of KX G (st := K06.top 31) ?a31 ?l31 ?c31 ?k31 K06.s_law_take rfl K06.c_law_take (fun _ _ _ _ _ _ us hl => match us, hl with | [_, _], _ => rfl)
        (case a31 => k_is); (case l31 => k_is); (case c31 => k_is); (case k31 => k_is)
      · apply Z.fact_of KX G (st := K06.top 33) ?a33 ?l33 ?c33 ?k33 K06.s_law_span rfl K06.c_law_span (fun _ _ _ _ _ _ us hl => match us, hl with | [_, _, _], _ => rfl)
        (case a33 => k_is); (case l33 => k_is); (case c33 => k_is); (case k33 => k_is)
      · apply Z.fact_of KX G (st := K06.top 34) ?a34 ?l34 ?c34 ?k34 K06.s_law_near rfl K06.c_law_near (fun _ _ _ _ _ _ us hl => match us, hl with | [_, _, _], _ => rfl)
        (case a34 => k_is); (case l34 => k_is); (case c34 => k_is); (case k34 => k_is)
      · apply Z.fact_of KX G (st := K06.top 35) ?a35 ?l35 ?c35 ?k35 K06.s_law_pick rfl K06.c_law_pick (fun _ _ _ _ _ _ us hl => match us, hl with | [_, _], _ => rfl)
        (case a35 => k_is); (case l35 => k_is); (case c35 => k_is); (case k35 => k_is)
      · apply Z.fact_of KX G (st := K06.top 36) ?a36 ?l36 ?c36 ?k36 K06.s_law_is_whole rfl K06.c_law_is_whole (fun _ _ _ _ _ _ us hl => match us, hl with | [_], _ => rfl)
        (case a36 => k_is); (case l36 => k_is); (case c36 => k_is); (case k36 => k_is)
      · apply Z.fact_of KX G (st := K06.top 37) ?a37 ?l37 ?c37 ?k37 K06.s_law_same rfl K06.c_law_same (fun _ _ _ _ _ _ us hl => match us, hl with | [_, _], _ => rfl)
        (case a37 => k_is); (case l37 => k_is); (case c37 => k_is); (case k37 => k_is)
      · apply Z.fact_of KX G (st := K06.top 38) ?a38 ?l38 ?c38 ?k38 K06.s_law_ring rfl K06.c_law_ring (fun _ _ _ _ _ _ us hl => match us, hl with | [_, _], _ => rfl)
        (case a38 => k_is); (case l38 => k_is); (case c38 => k_is); (case k38 => k_is)
      · apply Z.fact_of KX G (st := K06.top 39) ?a39 ?l39 ?c39 ?k39 K06.s_law_bad_ring rfl K06.c_law_bad_ring (fun _ _ _ _ _ _ us hl => match us, hl with | [_], _ => rfl)
        (case a39 => k_is); (case l39 => k_is); (case c39 => k_is); (case k39 => k_is)
      · apply Z.fact_of KX G (st := K06.top 40) ?a40 ?l40 ?c40 ?k40 K06.s_law_chord rfl K06.c_law_chord (fun _ _ _ _ _ _ us hl => match us, hl with | [_, _, _], _ => rfl)
        (case a40 => k_is); (case l40 => k_is); (case c40 => k_is); (case k40 => k_is)
      · apply Z.fact_of KX G (st := K06.top 41) ?a41 ?l41 ?c41 ?k41 K06.s_law_bad_chord rfl K06.c_law_bad_chord (fun _ _ _ _ _ _ us hl => match us, hl with | [_, _, _], _ => rfl)
        (case a41 => k_is); (case l41 => k_is); (case c41 => k_is); (case k41 => k_is)
      · apply Z.fact_of KX G (st := K06.top 42) ?a42 ?l42 ?c42 ?k42 K06.s_law_told rfl K06.c_law_told (fun _ _ _ _ _ _ us hl => match us, hl with | [_, _, _], _ => rfl)
        (case a42 => k_is); (case l42 => k_is); (case c42 => k_is); (case k42 => k_is)
      · apply Z.fact_of KX G (st := K06.top 43) ?a43 ?l43 ?c43 ?k43 K06.s_law_row rfl K06.c_law_row (fun _ _ _ _ _ _ us hl => match us, hl with | [_, _], _ => rfl)
        (case a43 => k_is); (case l43 => k_is); (case c43 => k_is); (case k43 => k_is)
      · apply Z.fact_of KX G (st := K06.top 44) ?a44 ?l44 ?c44 ?k44 K06.s_law_turned rfl K06.c_law_turned (fun _ _ _ _ _ _ us hl => match us, hl with | [_, _], _ => rfl)
        (case a44 => k_is); (case l44 => k_is); (case c44 => k_is); (case k44 => k_is)
      · apply Z.fact_of KX G (st := K06.top 45) ?a45 ?l45 ?c45 ?k45 K06.s_law_of_row rfl K06.c_law_of_row (fun _ _ _ _ _ _ us hl => match us, hl with | [_], _ => rfl)
        (case a45 => k_is); (case l45 => k_is); (case c45 => k_is); (case k45 => k_is)
      · apply Z.fact_of KX G (st := K06.top 46) ?a46 ?l46 ?c46 ?k46 K06.s_law_greatest rfl K06.c_law_greatest (fun _ _ _ _ _ _ us hl => match us, hl with | [_], _ => rfl)
        (case a46 => k_is); (case l46 => k_is); (case c46 => k_is); (case k46 => k_is)
      · apply Z.fact_of KX G (st := K06.top 47) ?a47 ?l47 ?c47 ?k47 K06.s_law_mirrored rfl K06.c_law_mirrored (fun _ _ _ _ _ _ us hl => match us, hl with | [_, _, _], _ => rfl)
        (case a47 => k_is); (case l47 => k_is); (case c47 => k_is); (case k47 => k_is)
      · apply Z.fact_of KX G (st := K06.top 48) ?a48 ?l48 ?c48 ?k48 K06.s_law_folded rfl K06.c_law_folded (fun _ _ _ _ _ _ us hl => match us, hl with | [_, _], _ => rfl)
        (case a48 => k_is); (case l48 => k_is); (case c48 => k_is); (case k48 => k_is)
      · apply Z.fact_of KX G (st := K06.top 49) ?a49 ?l49 ?c49 ?k49 K06.s_law_chord_right rfl K06.c_law_chord_right (fun _ _ _ _ _ _ us hl => match us, hl with | [_, _], _ => rfl)
        (case a49 => k_is); (case l49 => k_is); (case c49 => k_is); (case k49 => k_is)
      · apply Z.fact_of KX G (st := K06.top 50) ?a50 ?l50 ?c50 ?k50 K06.s_law rfl K06.c_law (fun _ _ _ _ _ _ us hl => match us, hl with | [_], _ => rfl)
        (case a50 => k_is); (case l50 => k_is); (case c50 => k_is); (case k50 => k_is)
      )
      (by
      intro n i dl hx
      simp only [K06.nm, List.mem_cons, List.not_mem_nil, or_false, Prod.mk.injEq] at hx
      rcases hx with ⟨rfl, rfl, rfl⟩
      · apply Z.kw_fact_of KX G (st := K06.top 23) (by simp) rfl ?a23 ?l23 ?c23 ?k23 ?d23 K06.s_mirror_chord rfl K06.c_mirror_chord (fun _ _ _ _ _ _ us ks h1 h2 => match us, h1, ks, h2 with | [_, _], _, [_], _ => ⟨_, _, _, _, _, _, rfl, rfl, rfl⟩) (fun _ _ _ _ _ _ us ws h1 h2 => match us, h1, ws, h2 with | [_, _], _, [_], _ => rfl)
        (case a23 => k_is); (case l23 => k_is); (case c23 => k_is); (case k23 => k_is); (case d23 => kernel_rfl)
      )
    apply Z.law_done (w := K06.fuel) (k := 29) KX G W (st := K06.top 50) hmg ?a ?l ?c ?k K06.s_law rfl K06.c_law (fun s v => .of_eq rfl) K06.law_true
    (case a => k_is)
    (case l => k_is)
    (case c => k_is)
    (case k => k_is)

