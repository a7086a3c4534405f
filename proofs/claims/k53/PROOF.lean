import PyProof.Rows.All
import Wide.All
import OpenK.AllK
import Wide.FinOn
import KE.DataMinMax
import KE.DataCmp
import KE.SortData
import HandS.RevTup
import HandS.Rev
import HandS.ForExc
import HandS.Strs
import HandS.Wide
import HandS.SortInts
import HandS.SetFor
import HandS.Flow
import HandS.IsInst
import HandS.TupMul
import HandS.Style
import HandS.CallSlots
import HandS.TupAny
import HandS.Deep
import HandS.More
import HandS.Comp
import HandS.Walk
import HandS.ExcCtx
import HandS.HotCalls
import HandS.ExcIs
import HandS.ExcInit
import HandS.ExcField
import HandS.Words
import HandS.TryMany
import HandS.Defaults
import HandS.Property
import HandS.Conv
import HandS.SortKw
import HandS.SetBool
import HandS.Zip
import HandS.Iter
import HandS.TryOnly
import HandS.WordsExc
import HandS.Ends
import HandS.MakeKwOnly
import PySem.Challenge.RW_nextchord_k53_every_span_or_a_quarrel
set_option Elab.async false
set_option linter.all false
set_option maxRecDepth 100000
set_option maxHeartbeats 4000000
namespace ZY
open PySem PySem.Spec PyProof.Rows PySem.W
section
variable {prog : Program} {w : World} {A : Around} {E : Value → Shared → Prop} {s : Shared}
/-! sum of a tuple of whole numbers -/
theorem sum_tup {l : Addr} {its : List Value} {ns : List Int} {Q : Value → Shared → Prop} (hh : A.handled = none) (hl : s.heap.IsTuple l its.toArray) (hi : IntsAre its ns)
    (h : ∀ h' tk t', (∀ b o, s.heap.get? b = some o → h'.get? b = some o) → Q (.int ns.sum t') { s with heap := h', toks := tk }) : wpAny (model prog w) A (call (.builtin "sum") [.ref l]) Q E s := by
  obtain ⟨xs, e⟩ := hi.allInts.items
  have hn : numsOf (intItems xs).toList = ns := by rw [← e]; exact hi.numsOf
  rw [nums_intItems] at hn
  rw [e] at hl
  have hlt : l < s.heap.objs.size := by obtain ⟨_, q, _⟩ := id hl; exact Heap.lt_size q
  refine call_sum_walkG (wpAny_pyIter_tuple hl ?_)
  refine ⟨_, _, _, _, _, _, numAt xs, rfl, Walks.tuple (A := A.in1) hh s.heap.objs.size l (Nat.ne_of_lt hlt) (intItems xs), ⟨⟨_, Heap.get?_push_size _ rfl, rfl, rfl⟩, hl.push _⟩, fun b hb => ?_, (fun _ _ => intItems_at), fun h' tk t' hk => ?_⟩
  · show b < (s.heap.push _).objs.size
    rw [Heap.size_push]
    rcases List.mem_cons.mp hb with rfl | hb
    · exact Nat.lt_succ_self _
    · rcases List.mem_cons.mp hb with rfl | hb
      · exact Nat.lt_succ_of_lt hlt
      · cases hb
  · have := h h' tk t' (fun b o q => by
      refine hk b o (fun hm => ?_) (Heap.get?_push_of_some _ q)
      rcases List.mem_cons.mp hm with e1 | hm
      · exact absurd (e1 ▸ Heap.lt_size q) (Nat.lt_irrefl _)
      · cases hm)
    subst hn
    rw [preSum_eq, List.take_of_length_le (by simp [intItems])]
    exact this
/-! max(a, b) of alike data -/
theorem max_two_data {a b : Value} {da db : PyData} {as : List Addr} {Q : Value → Shared → Prop} (hh : A.handled = none) (r : ReadsAll s.heap [a, b] [da, db] as) (ha : AlikeAll [da, db]) (hu : A.units + 1 + PyData.depthAll [da, db] < cLine)
    (h : ∀ h' tk, (∀ c o, s.heap.get? c = some o → h'.get? c = some o) → Q (if dataLt da db = true then b else a) { s with heap := h', toks := tk }) :
    wpAny (model prog w) A (call (.builtin "max") [a, b]) Q E s := by
  have hname : (toString "max" ++ toString ".loop" : String) = "max.loop" := by decide
  refine call_function_tree F.kind_max F.plain_max F.entry_max (F.args_max2 _ _) ?_
  show wpAny _ A.in1 (Builtin.Builtins.bindParams "max" ["key", "default"] 0 ⟨[], []⟩ >>= _) _ _ s
  refine wpAny_bind (wpAny_of_eq (show Builtin.Builtins.bindParams "max" ["key", "default"] 0 ⟨[], []⟩ = pure [none, none] from rfl) ?_)
  show wpAny _ A.in1 (newTuple [a, b] >>= _) _ _ s
  refine wpAny_bind (wpAny_newObj_type ?_)
  have hT : (s.heap.push { cls := .type "tuple", data := .seq #[a, b] }).IsTuple s.heap.objs.size #[a, b] := ⟨_, Heap.get?_push_size _ rfl, rfl, 0, rfl⟩
  refine wpAny_bind (iter_tupleW (A := A.in1) (s := { s with heap := s.heap.push { cls := .type "tuple", data := .seq #[a, b] } }) hh hT fun s₂ e W st hfp hw hk => ?_)
  refine wpAny_bind (wpAny_newObj_type ?_)
  have hSf : s₂.heap.objs.size ∉ [(s.heap.push { cls := .type "tuple", data := .seq #[a, b] }).objs.size, s.heap.objs.size] := fun hm => Nat.lt_irrefl _ (hfp _ hm)
  rw [hname]
  have r2 : ReadsAll (s.heap.push { cls := .type "tuple", data := .seq #[a, b] }) (#[a, b] : Array Value).toList [da, db] as := ReadsAll.keeps (fun c o q => Heap.get?_push_of_some _ q) r
  have cmp := cmpIn_gt (prog := prog) (w := w) (A := A.in1) (s := { s with heap := s.heap.push { cls := .type "tuple", data := .seq #[a, b] } }) r2 ha hu
  refine wpAny_pure ⟨plainId_quiet F.plain_max_loop _, codeAny_max_loop_firstH W (s.heap.push { cls := .type "tuple", data := .seq #[a, b] }) hw _ cmp s₂.heap.objs.size hSf (fresh_in hk) _ (show 0 < (#[a, b] : Array Value).size from Nat.zero_lt_succ _) (fun b o e => Heap.get?_push_of_some _ (hk b o e)) (W.frame 0 s₂ _ s₂.toks st (Nat.le_refl _) fun b _ o e => Heap.get?_push_of_some _ e) (Heap.get?_push_size _ rfl) fun v s' hP hm => ?_⟩
  obtain ⟨h', tk, rfl, hk'⟩ := moved_old e rfl (Moved.drop_new (tk := s₂.toks) hm (Nat.le_refl _))
  have := h h' tk fun c o q => hk' c o (Heap.get?_push_of_some _ q)
  have ev : v = if dataLt da db = true then b else a := by
    change (#[a, b] : Array Value)[argBest (fun i j => dataLt ([da, db].getD j .none) ([da, db].getD i .none)) 1]? = some v at hP
    by_cases q : dataLt da db = true
    · rw [if_pos q]
      have : argBest (fun i j => dataLt ([da, db].getD j .none) ([da, db].getD i .none)) 1 = 1 := by simp [argBest, q]
      rw [this] at hP
      simpa using hP.symm
    · rw [if_neg q]
      have : argBest (fun i j => dataLt ([da, db].getD j .none) ([da, db].getD i .none)) 1 = 0 := by simp [argBest, q]
      rw [this] at hP
      simpa using hP.symm
  rw [ev]; exact this
/-! list(reversed(x)) -/
theorem extend_rev {R : Result → Shared → Prop} {it l S : Addr} {items : Array Value} {c0 : Nat} (hh : A.handled = none) (hit : s.heap.IsRevIter it l ((items.size : Int) - 1)) (hl : s.heap.IsList l items) (hne : l ≠ it) (hn : items.size ≤ sizeLine)
    (hSi : S ≠ it) (hSl : S ≠ l) (hS : s.heap.get? S = some { cls := .type "list", data := .seq #[] c0 })
    (hR : ∀ (h' : Heap) (tk : Nat) (acc : Array Value) (c' : Nat), (∀ b o, b ≠ it → b ≠ S → s.heap.get? b = some o → h'.get? b = some o) → h'.get? S = some { cls := .type "list", dict := none, data := .seq acc c', slots := #[] } → ItemsOf (fun i v => items[items.size - 1 - i]? = some v) acc items.size → R (.ok (.ret .none)) { s with heap := h', toks := tk }) :
    wpAny (model prog w) A.in1 (Builtin.List.listExtendWith (.ref S) (.ref it) .none)
      (fun fin s' => match fin with | .done f => R (.ok f) s' | .again c' => c'.quiet = true ∧ codeAny (model prog w) A c' R s') (fun e s' => R (.error e) s') s := by
  have W := (Walks.listRev (prog := prog) (w := w) (A := A.in1) hh it l hne items).toS
  have hSf : S ∉ [it, l] := by simp only [List.mem_cons, List.not_mem_nil, or_false, not_or]; exact ⟨hSi, hSl⟩
  have hT : s.TypeIs (.ref it) "list_reverseiterator" := hit.typeIs
  have h1 : Builtin.List.listSameRef (.ref S) (.ref it) = false := by simp [Builtin.List.listSameRef, hSi]
  unfold Builtin.List.listExtendWith
  refine wpAny_bind (wpAny_typeOf hT ?_)
  rw [if_neg (by rw [h1]; decide)]
  refine wpAny_bind (wpAny_pyIter_revIter hit ?_)
  refine wpAny_bind (wpAny_holding ?_)
  unfold Builtin.List.listLengthHint
  refine wpAny_bind (wpAny_specialOf hT RT.nolen_lri ?_)
  show wpAny _ A.in1 (specialOf (Value.ref it) (Str.ofString "__length_hint__") >>= _) _ _ _
  refine wpAny_bind (wpAny_specialOf hT RT.hint_lri ?_)
  generalize hid : ("list_reverseiterator.__length_hint__" : String) = id0
  wp_delta
  rw [show splitId id0 = some ("list_reverseiterator", "__length_hint__") from by subst hid; decide +kernel]
  subst hid
  refine wpAny_bind (wpAny_isInstance (b := true) hT (by rw [isSubtype_type]; kernel_rfl) ?_)
  refine wpAny_pure ?_
  rw [if_neg (by decide)]
  have e0 : ((items.size : Nat) : Int) - 1 - ((0 : Nat) : Int) = (items.size : Int) - 1 := by omega
  refine wpAny_pure ⟨plainId_quiet F.plain_extend_loop _, codeAny_extend_loopS W hn _ hSf _ items.size 0 _ _ _ rfl (Nat.zero_le _) ⟨Nat.zero_le _, by rw [e0]; exact hit, hl⟩ hS (ItemsOf.nil _) fun s' acc' c' hm hS' hacc => ?_⟩
  rw [Moved.eq_with hm]
  refine hR s'.heap s'.toks acc' c' (fun b o hb hb2 e => hm.heap b o (fun hmem => ?_) e) hS' hacc
  rcases List.mem_cons.mp hmem with e' | hmem
  · exact hb2 e'
  · exact hb (List.mem_singleton.mp hmem)
theorem init_rev {R : Result → Shared → Prop} {it l S : Addr} {items : Array Value} (hh : A.handled = none) (hit : s.heap.IsRevIter it l ((items.size : Int) - 1)) (hl : s.heap.IsList l items) (hne : l ≠ it) (hn : items.size ≤ sizeLine)
    (hSi : S ≠ it) (hSl : S ≠ l) (hS : s.heap.get? S = some { cls := .type "list", data := .seq #[] })
    (hR : ∀ (h' : Heap) (tk : Nat) (acc : Array Value) (c' : Nat), (∀ b o, b ≠ it → b ≠ S → s.heap.get? b = some o → h'.get? b = some o) → h'.get? S = some { cls := .type "list", dict := none, data := .seq acc c', slots := #[] } → ItemsOf (fun i v => items[items.size - 1 - i]? = some v) acc items.size → R (.ok (.ret .none)) { s with heap := h', toks := tk }) :
    wpAny (model prog w) A.in1 (Builtin.«list.__init__» ⟨[.ref S, .ref it], []⟩)
      (fun fin s' => match fin with | .done f => R (.ok f) s' | .again c' => c'.quiet = true ∧ codeAny (model prog w) A c' R s') (fun e s' => R (.error e) s') s := by
  show wpAny _ A.in1 (do let old ← Builtin.List.listItems (.ref S); Builtin.List.listUpdate (.ref S) (fun _ => #[]); letGo old.toList.reverse; Builtin.List.listExtendWith (.ref S) (.ref it) .none) _ _ s
  refine wpAny_bind ?_
  unfold Builtin.List.listItems
  refine wpAny_bind (wpAny_seqItems hS rfl (wpAny_pure ?_))
  show wpAny _ A.in1 (updateSeq S (fun _ => #[]) >>= fun _ => letGo (#[] : Array Value).toList.reverse >>= fun _ => Builtin.List.listExtendWith (.ref S) (.ref it) .none) _ _ s
  refine wpAny_bind (wpAny_updateSeq hS rfl ?_)
  have hS2 := Heap.get?_update_self (Obj.mapSeq (fun _ => (#[] : Array Value))) hS rfl
  have oth : ∀ b o, b ≠ S → s.heap.get? b = some o → (s.heap.update S (Obj.mapSeq (fun _ => (#[] : Array Value)))).get? b = some o :=
    fun b o hb e => (Heap.get?_update_other _ _ (Ne.symm hb)).trans e
  refine wpAny_bind (wpAny_letGo ?_)
  obtain ⟨ol, hol, kl⟩ := id hl
  refine extend_rev hh (hit.at fun o e => oth it o (Ne.symm hSi) e) ⟨ol, oth l ol (Ne.symm hSl) hol, kl⟩ hne hn hSi hSl hS2 fun h' tk acc c' hk hS' hacc => ?_
  exact hR h' tk acc c' (fun b o hb hb2 e => hk b o hb hb2 (oth b o hb2 e)) hS' hacc
theorem call_list_rev {it l : Addr} {items : Array Value} {Q : Value → Shared → Prop} (hh : A.handled = none) (hit : s.heap.IsRevIter it l ((items.size : Int) - 1)) (hl : s.heap.IsList l items) (hne : l ≠ it) (hn : items.size ≤ sizeLine)
    (hQ : ∀ (h' : Heap) (tk : Nat) (acc : Array Value) (c' : Nat), (∀ b o, b ≠ it → s.heap.get? b = some o → h'.get? b = some o) → h'.get? s.heap.objs.size = some { cls := .type "list", dict := none, data := .seq acc c', slots := #[] } →
      ItemsOf (fun i v => items[items.size - 1 - i]? = some v) acc items.size → Q (.ref s.heap.objs.size) { s with heap := h', toks := tk }) :
    wpAny (model prog w) A (call (.type "list") [.ref it]) Q E s := by
  obtain ⟨oi, hoi, _⟩ := id hit
  obtain ⟨ol, hol, _⟩ := id hl
  have hSi : s.heap.objs.size ≠ it := Nat.ne_of_gt (Heap.lt_size hoi)
  have hSl : s.heap.objs.size ≠ l := Nat.ne_of_gt (Heap.lt_size hol)
  refine callType_codes (Q₁ := fun obj s₁ => obj = .ref s.heap.objs.size ∧ s₁ = { s with heap := s.heap.push { cls := .type "list", data := .seq #[] } }) F.called_list (F.typeCall_list_1 _) F.entry_list_init
    (code_list_new _ ⟨rfl, rfl⟩) fun obj s₁ h₁ => ?_
  obtain ⟨rfl, rfl⟩ := h₁
  have hS : (s.heap.push { cls := .type "list", data := .seq #[] }).get? s.heap.objs.size = some { cls := .type "list", data := .seq #[] } := Heap.get?_push_size _ rfl
  refine ⟨⟨_, hS, rfl⟩, F.args_list_init_2 _ _, init_rev (A := A.in1) hh (hit.at fun o e => Heap.get?_push_of_some _ e) (hl.push _) hne hn hSi hSl hS fun h' tk acc c' hk hS' hacc => ?_⟩
  exact ⟨rfl, hQ h' tk acc c' (fun b o hb e => hk b o hb (Nat.ne_of_lt (Heap.lt_size e)) (Heap.get?_push_of_some _ e)) hS' hacc⟩
/-! max(t), min(t) of a tuple of whole numbers -/
theorem readsAll_ints {h : Heap} : ∀ {its : List Value} {ns : List Int}, IntsAre its ns → ∃ as, ReadsAll h its (ns.map .int) as
  | _, _, .nil => ⟨_, .nil⟩
  | _, _, .cons n t r => by
    obtain ⟨as, q⟩ := readsAll_ints (h := h) r
    exact ⟨_, .cons (.int n t) q⟩
theorem alikeAll_ints (ns : List Int) : AlikeAll (ns.map .int) := by
  refine ⟨fun x hx y hy => ?_, fun x hx => ?_⟩
  · obtain ⟨i, _, rfl⟩ := List.mem_map.mp hx
    obtain ⟨j, _, rfl⟩ := List.mem_map.mp hy
    simp [alike]
  · obtain ⟨i, _, rfl⟩ := List.mem_map.mp hx
    intro e; cases e
theorem max_tup {l : Addr} {its : List Value} {n : Int} {ns : List Int} {Q : Value → Shared → Prop} (hh : A.handled = none) (hl : s.heap.IsTuple l its.toArray) (hi : IntsAre its (n :: ns)) (hu : A.units + 64 < cLine)
    (h : ∀ h' tk t', (∀ b o, s.heap.get? b = some o → h'.get? b = some o) → Q (.int (ns.foldl max n) t') { s with heap := h', toks := tk }) : wpAny (model prog w) A (call (.builtin "max") [.ref l]) Q E s := by
  obtain ⟨as, r⟩ := readsAll_ints (h := s.heap) hi
  refine max_tuple_data (x := .int n) (xs := ns.map .int) hh hl (by simpa using r) (alikeAll_ints (n :: ns)) ?_ fun i v h' tk bs _ q k => ?_
  · rw [show PyData.int n :: ns.map .int = (n :: ns).map .int from rfl, depth_ints]; omega
  · rw [maxD_ints] at q
    cases q
    exact h h' tk _ k
theorem min_tup {l : Addr} {its : List Value} {n : Int} {ns : List Int} {Q : Value → Shared → Prop} (hh : A.handled = none) (hl : s.heap.IsTuple l its.toArray) (hi : IntsAre its (n :: ns)) (hu : A.units + 64 < cLine)
    (h : ∀ h' tk t', (∀ b o, s.heap.get? b = some o → h'.get? b = some o) → Q (.int (ns.foldl min n) t') { s with heap := h', toks := tk }) : wpAny (model prog w) A (call (.builtin "min") [.ref l]) Q E s := by
  obtain ⟨as, r⟩ := readsAll_ints (h := s.heap) hi
  refine min_tuple_data (x := .int n) (xs := ns.map .int) hh hl (by simpa using r) (alikeAll_ints (n :: ns)) ?_ fun i v h' tk bs _ q k => ?_
  · rw [show PyData.int n :: ns.map .int = (n :: ns).map .int from rfl, depth_ints]; omega
  · rw [minD_ints] at q
    cases q
    exact h h' tk _ k
theorem max_dflt {l : Addr} {its : List Value} {ns : List Int} {d : Value} {Q : Value → Shared → Prop} (hh : A.handled = none) (hl : s.heap.IsList l its.toArray) (hi : IntsAre its ns) (hu : A.units + 64 < cLine)
    (h0 : ns = [] → ∀ h' tk, (∀ b o, s.heap.get? b = some o → h'.get? b = some o) → Q d { s with heap := h', toks := tk })
    (h : ∀ n r h' tk t', ns = n :: r → (∀ b o, s.heap.get? b = some o → h'.get? b = some o) → Q (.int (r.foldl max n) t') { s with heap := h', toks := tk }) : wpAny (model prog w) A (call (.builtin "max") [.ref l] [(Str.ofString "default", d)]) Q E s := by
  obtain ⟨as, r⟩ := readsAll_ints (h := s.heap) hi
  refine max_list_default (xs := ns.map .int) hh hl (by simpa using r) (alikeAll_ints ns) (by rw [depth_ints]; omega) (fun e => h0 (by simpa using e)) fun y ys i v h' tk bs e _ q k => ?_
  cases ns with
  | nil => simp at e
  | cons n ns =>
    simp only [List.map_cons, List.cons.injEq] at e
    obtain ⟨rfl, rfl⟩ := e
    rw [maxD_ints] at q
    cases q
    exact h n ns h' tk _ rfl k
end
end ZY

set_option Elab.async false
set_option linter.all false
set_option maxRecDepth 100000
set_option maxHeartbeats 4000000
namespace ZY
open PySem PySem.Spec PyProof.Rows PySem.W
theorem nolen_rt : typeLookup (.type "reversed") "__len__" = pure none := by rw [typeLookup_type, builtinLookup_eq_fast]; kernel_rfl
theorem hint_rt : typeLookup (.type "reversed") "__length_hint__" = pure (some (.builtin "reversed.__length_hint__")) := by rw [typeLookup_type, builtinLookup_eq_fast]; kernel_rfl
theorem slot_rt_hint : Slot "reversed" "__length_hint__" "reversed.__length_hint__" :=
  .of (owner := "reversed") (n := "__length_hint__") (by rw [typeLookup_type, builtinLookup_eq_fast]; kernel_rfl) (by decide +kernel) (by decide +kernel) (by decide +kernel)
    (by first | exact .inl (by decide +kernel) | exact .inr (by decide +kernel)) (by rw [isSubtype_type]; kernel_rfl)
theorem entry_rt_hint : entryFor table "reversed.__length_hint__" = some Builtin.«reversed.__length_hint__» := entryFor_of_tree (by kernel_rfl)
theorem args_rt_hint (a : Value) : argsOk "reversed.__length_hint__" ⟨[a], []⟩ := by
  unfold argsOk; rw [signature?_of (id := "reversed.__length_hint__") (n := "reversed.__length_hint__".toList.reverse.take 15) (o := ['d', 'e', 's', 'r', 'e', 'v', 'e', 'r']) (by kernel_rfl) RT.owner_rt]; kernel_rfl
section
variable {prog : Program} {w : World} {A : Around} {E : Value → Shared → Prop} {s : Shared}
theorem walks_rt (hh : A.handled = none) (I t : Addr) (hne : t ≠ I) (items : Array Value) (hsz : items.size ≤ sizeLine) :
    Walks prog w A I [I, t] [I] items.size (fun i v => items[items.size - 1 - i]? = some v) (fun i h => i ≤ items.size ∧ RT.IsRt h I t ((items.size : Int) - 1 - (i : Int)) ∧ IsTup h t items) where
  sub := fun b hb => by simp at hb; simp [hb]
  frame := fun _ _ _ x hk => by
    obtain ⟨x1, x2, o, ho, q⟩ := x
    exact ⟨x1, x2.at fun o e => hk I (by simp) o e, o, hk t (by simp) o ho, q⟩
  item := fun i s Q E hi x hQ => by
    have e : (items.size : Int) - 1 - (i : Int) = ((items.size - 1 - i : Nat) : Int) := by omega
    have hit := x.2.1
    rw [e] at hit
    have hx : items[items.size - 1 - i]? = some (items[items.size - 1 - i]'(by omega)) := Array.getElem?_eq_getElem (by omega)
    refine RT.next_rt_item hit x.2.2 hx hsz fun h' hit' hs' => ?_
    have e2 : ((items.size - 1 - i : Nat) : Int) - 1 = (items.size : Int) - 1 - ((i + 1 : Nat) : Int) := by omega
    rw [e2] at hit'
    obtain ⟨o, ho, q⟩ := x.2.2
    exact hQ _ h' (s.toks + 1) hx ⟨hi, hit', o, (hs'.2 t hne).trans ho, q⟩ fun b o hb eo => hs'.extBut b o (fun h => hb (by simp [h])) eo
  done := fun s Q E x hQ => by
    have e : (items.size : Int) - 1 - (items.size : Int) = -1 := by omega
    have hit := x.2.1
    rw [e] at hit
    exact RT.next_rt_end hh hit fun h' he' => hQ h' s.toks fun b o hb eo => he' b o (fun h => hb (by simp [h])) eo
  self := fun _ _ _ _ x hQ => RT.iter_rt x.2.1 hQ
/-- how long the walk will be -/
theorem hint_call {it t : Addr} {items : Array Value} {Q : Value → Shared → Prop} (hit : RT.IsRt s.heap it t ((items.size : Int) - 1)) (ht : IsTup s.heap t items) (hfit : (items.size : Int) < 2 ^ 63)
    (h : ∀ tk u, Q (.int items.size u) { s with toks := tk }) : wpAny (model prog w) A (call (.builtin "reversed.__length_hint__") [.ref it]) Q E s := by
  obtain ⟨o, ho, hc, hd⟩ := id hit
  refine wpAny_call_entry slot_rt_hint hit.typeIs entry_rt_hint ?_ (args_rt_hint _)
  unfold Builtin.«reversed.__length_hint__»
  refine wpAny_bind (wpAny_of_eq (a := Value.ref it) rfl ?_)
  try dsimp only
  refine wpAny_bind (wpAny_field ho hd (x := .ref t) rfl ?_)
  show wpAny _ _ (if ((Value.ref t : Value) == .none) = true then _ else _) _ _ s
  rw [if_neg (by simp)]
  refine wpAny_bind (PyProof.Rows.len_tuple ht hfit ?_)
  refine wpAny_bind ?_
  unfold asInt?
  refine wpAny_pure ?_
  try dsimp only
  refine wpAny_bind (wpAny_field (s := { s with toks := s.toks + 1 + 1 }) ho hd (x := rawInt ((items.size : Int) - 1)) rfl ?_)
  show wpAny _ _ (if (items.size : Int) < (items.size : Int) - 1 + 1 then _ else _) _ _ _
  rw [if_neg (by omega)]
  have e : (items.size : Int) - 1 + 1 = items.size := by omega
  rw [e]
  exact wpAny_bind (wpAny_mkInt (wpAny_pure ⟨_, rfl, h _ _⟩))
theorem extend_rt {R : Result → Shared → Prop} {it t S : Addr} {items : Array Value} {c0 : Nat} (hh : A.handled = none) (hit : RT.IsRt s.heap it t ((items.size : Int) - 1)) (ht : IsTup s.heap t items) (hne : t ≠ it) (hn : items.size ≤ 1000000)
    (hSi : S ≠ it) (hSt : S ≠ t) (hS : s.heap.get? S = some { cls := .type "list", data := .seq #[] c0 })
    (hR : ∀ (h' : Heap) (tk : Nat) (acc : Array Value) (c' : Nat), (∀ b o, b ≠ it → b ≠ S → s.heap.get? b = some o → h'.get? b = some o) → h'.get? S = some { cls := .type "list", dict := none, data := .seq acc c', slots := #[] } → ItemsOf (fun i v => items[items.size - 1 - i]? = some v) acc items.size → R (.ok (.ret .none)) { s with heap := h', toks := tk }) :
    wpAny (model prog w) A.in1 (Builtin.List.listExtendWith (.ref S) (.ref it) .none)
      (fun fin s' => match fin with | .done f => R (.ok f) s' | .again c' => c'.quiet = true ∧ codeAny (model prog w) A c' R s') (fun e s' => R (.error e) s') s := by
  have hz : items.size ≤ sizeLine := by rw [sizeLine_eq]; omega
  have W := (walks_rt (prog := prog) (w := w) (A := A.in1) hh it t hne items hz).toS
  have hSf : S ∉ [it, t] := by simp only [List.mem_cons, List.not_mem_nil, or_false, not_or]; exact ⟨hSi, hSt⟩
  have hT : s.TypeIs (.ref it) "reversed" := hit.typeIs
  have h1 : Builtin.List.listSameRef (.ref S) (.ref it) = false := by simp [Builtin.List.listSameRef, hSi]
  obtain ⟨ot, hot, kt⟩ := id ht
  have key : ∀ (h : Heap) (c₁ tk : Nat), (∀ b o, b ≠ S → s.heap.get? b = some o → h.get? b = some o) →
      h.get? S = some { cls := .type "list", data := .seq #[] c₁ } → codeAny (model prog w) A (.builtin "list.extend.loop" ⟨[.ref S, .ref it, .none], []⟩) R { s with heap := h, toks := tk } := by
    intro h c₁ tk hk hS₁
    have e0 : ((items.size : Nat) : Int) - 1 - ((0 : Nat) : Int) = (items.size : Int) - 1 := by omega
    refine codeAny_extend_loopS W hz S hSf .none items.size 0 _ #[] c₁ rfl (Nat.zero_le _) ⟨Nat.zero_le _, by rw [e0]; exact hit.at fun o e => hk it o (Ne.symm hSi) e, ot, hk t ot (Ne.symm hSt) hot, kt⟩ hS₁ (ItemsOf.nil _) fun s' acc' c' hm hS' hacc => ?_
    rw [Moved.eq_with hm]
    refine hR s'.heap s'.toks acc' c' (fun b o hb hb2 e => hm.heap b o (fun hmem => ?_) (hk b o hb2 e)) hS' hacc
    rcases List.mem_cons.mp hmem with e' | hmem
    · exact hb2 e'
    · exact hb (List.mem_singleton.mp hmem)
  unfold Builtin.List.listExtendWith
  refine wpAny_bind (wpAny_typeOf hT ?_)
  rw [if_neg (by rw [h1]; decide)]
  refine wpAny_bind (RT.iter_rt hit ?_)
  refine wpAny_bind (wpAny_holding ?_)
  unfold Builtin.List.listLengthHint
  refine wpAny_bind (wpAny_specialOf hT nolen_rt ?_)
  show wpAny _ A.in1 (specialOf (Value.ref it) (Str.ofString "__length_hint__") >>= _) _ _ _
  refine wpAny_bind (wpAny_specialOf hT hint_rt ?_)
  generalize hid : ("reversed.__length_hint__" : String) = id0
  wp_delta
  rw [show splitId id0 = some ("reversed", "__length_hint__") from by subst hid; decide +kernel]
  subst hid
  refine wpAny_bind (wpAny_isInstance (b := true) hT (by rw [isSubtype_type]; kernel_rfl) ?_)
  rw [if_neg (by decide)]
  try dsimp only
  rw [if_neg (by decide +kernel)]
  refine wpAny_bind (wpAny_rule ?_)
  refine wpAny_bind (wpAny_of_eq (slot_rt_hint.bind _) ?_)
  try dsimp only
  refine wpAny_bind (wpAny_attempt (hint_call (A := A.in1) hit ht (by omega) fun tk u => ?_))
  try dsimp only
  refine wpAny_bind ?_
  unfold asInt?
  refine wpAny_pure ?_
  try dsimp only
  have f1 : Builtin.List.listFitsIndex (items.size : Int) = true := by
    unfold Builtin.List.listFitsIndex
    simp
    omega
  have f2 : Builtin.List.listTooLong (items.size : Int).toNat = false := by
    unfold Builtin.List.listTooLong
    simp
    omega
  rw [f1, f2]
  rw [if_neg (by decide), if_neg (by omega), if_neg (by decide)]
  refine wpAny_pure ?_
  try dsimp only
  refine wpAny_ite_split (fun _ => ?_) (fun _ => wpAny_pure ⟨plainId_quiet F.plain_extend_loop _, key s.heap _ tk (fun b o _ e => e) hS⟩)
  refine wpAny_bind (wpAny_rule ?_)
  refine wpAny_bind ?_
  show wpAny _ _ (updateSeq S (·.push .none) >>= fun _ => updateSeq S (·.pop)) _ _ _
  refine wpAny_bind (wpAny_updateSeq (hz := Nat.zero_le _) (_hz' := (Nat.succ_le_succ (Nat.zero_le _) : 0 + 1 ≤ sizeLine + 1)) hS rfl ?_)
  have hS₂ := Heap.get?_update_self (Obj.mapSeq (·.push Value.none)) hS rfl
  have z1 : ((#[] : Array Value).push Value.none).size ≤ sizeLine := by rw [sizeLine_eq]; show 1 ≤ _; omega
  refine wpAny_updateSeq (hz := z1) (_hz' := Nat.zero_le _) hS₂ rfl ?_
  have hS₃ := Heap.get?_update_self (Obj.mapSeq (·.pop)) hS₂ rfl
  refine wpAny_pure ⟨plainId_quiet F.plain_extend_loop _, key _ _ tk (fun b o hb e => ?_) hS₃⟩
  exact (Heap.get?_update_other _ _ (Ne.symm hb)).trans ((Heap.get?_update_other _ _ (Ne.symm hb)).trans e)
theorem init_rt {R : Result → Shared → Prop} {it t S : Addr} {items : Array Value} (hh : A.handled = none) (hit : RT.IsRt s.heap it t ((items.size : Int) - 1)) (ht : IsTup s.heap t items) (hne : t ≠ it) (hn : items.size ≤ 1000000)
    (hSi : S ≠ it) (hSt : S ≠ t) (hS : s.heap.get? S = some { cls := .type "list", data := .seq #[] })
    (hR : ∀ (h' : Heap) (tk : Nat) (acc : Array Value) (c' : Nat), (∀ b o, b ≠ it → b ≠ S → s.heap.get? b = some o → h'.get? b = some o) → h'.get? S = some { cls := .type "list", dict := none, data := .seq acc c', slots := #[] } → ItemsOf (fun i v => items[items.size - 1 - i]? = some v) acc items.size → R (.ok (.ret .none)) { s with heap := h', toks := tk }) :
    wpAny (model prog w) A.in1 (Builtin.«list.__init__» ⟨[.ref S, .ref it], []⟩)
      (fun fin s' => match fin with | .done f => R (.ok f) s' | .again c' => c'.quiet = true ∧ codeAny (model prog w) A c' R s') (fun e s' => R (.error e) s') s := by
  show wpAny _ A.in1 (do let old ← Builtin.List.listItems (.ref S); Builtin.List.listUpdate (.ref S) (fun _ => #[]); letGo old.toList.reverse; Builtin.List.listExtendWith (.ref S) (.ref it) .none) _ _ s
  refine wpAny_bind ?_
  unfold Builtin.List.listItems
  refine wpAny_bind (wpAny_seqItems hS rfl (wpAny_pure ?_))
  show wpAny _ A.in1 (updateSeq S (fun _ => #[]) >>= fun _ => letGo (#[] : Array Value).toList.reverse >>= fun _ => Builtin.List.listExtendWith (.ref S) (.ref it) .none) _ _ s
  refine wpAny_bind (wpAny_updateSeq hS rfl ?_)
  have hS2 := Heap.get?_update_self (Obj.mapSeq (fun _ => (#[] : Array Value))) hS rfl
  have oth : ∀ b o, b ≠ S → s.heap.get? b = some o → (s.heap.update S (Obj.mapSeq (fun _ => (#[] : Array Value)))).get? b = some o :=
    fun b o hb e => (Heap.get?_update_other _ _ (Ne.symm hb)).trans e
  refine wpAny_bind (wpAny_letGo ?_)
  obtain ⟨ol, hol, kl⟩ := id ht
  refine extend_rt hh (hit.at fun o e => oth it o (Ne.symm hSi) e) ⟨ol, oth t ol (Ne.symm hSt) hol, kl⟩ hne hn hSi hSt hS2 fun h' tk acc c' hk hS' hacc => ?_
  exact hR h' tk acc c' (fun b o hb hb2 e => hk b o hb hb2 (oth b o hb2 e)) hS' hacc
theorem call_list_rt {it t : Addr} {items : Array Value} {Q : Value → Shared → Prop} (hh : A.handled = none) (hit : RT.IsRt s.heap it t ((items.size : Int) - 1)) (ht : IsTup s.heap t items) (hne : t ≠ it) (hn : items.size ≤ 1000000)
    (hQ : ∀ (h' : Heap) (tk : Nat) (acc : Array Value) (c' : Nat), (∀ b o, b ≠ it → s.heap.get? b = some o → h'.get? b = some o) → h'.get? s.heap.objs.size = some { cls := .type "list", dict := none, data := .seq acc c', slots := #[] } →
      ItemsOf (fun i v => items[items.size - 1 - i]? = some v) acc items.size → Q (.ref s.heap.objs.size) { s with heap := h', toks := tk }) :
    wpAny (model prog w) A (call (.type "list") [.ref it]) Q E s := by
  obtain ⟨oi, hoi, _⟩ := id hit
  obtain ⟨ol, hol, kl⟩ := id ht
  have hSi : s.heap.objs.size ≠ it := Nat.ne_of_gt (Heap.lt_size hoi)
  have hSl : s.heap.objs.size ≠ t := Nat.ne_of_gt (Heap.lt_size hol)
  refine callType_codes (Q₁ := fun obj s₁ => obj = .ref s.heap.objs.size ∧ s₁ = { s with heap := s.heap.push { cls := .type "list", data := .seq #[] } }) F.called_list (F.typeCall_list_1 _) F.entry_list_init
    (code_list_new _ ⟨rfl, rfl⟩) fun obj s₁ h₁ => ?_
  obtain ⟨rfl, rfl⟩ := h₁
  have hS : (s.heap.push { cls := .type "list", data := .seq #[] }).get? s.heap.objs.size = some { cls := .type "list", data := .seq #[] } := Heap.get?_push_size _ rfl
  refine ⟨⟨_, hS, rfl⟩, F.args_list_init_2 _ _, init_rt (A := A.in1) hh (hit.at fun o e => Heap.get?_push_of_some _ e) ⟨ol, Heap.get?_push_of_some _ hol, kl⟩ hne hn hSi hSl hS fun h' tk acc c' hk hS' hacc => ?_⟩
  exact ⟨rfl, hQ h' tk acc c' (fun b o hb e => hk b o hb (Nat.ne_of_lt (Heap.lt_size e)) (Heap.get?_push_of_some _ e)) hS' hacc⟩
end
end ZY

set_option Elab.async false
set_option linter.all false
set_option maxRecDepth 100000
set_option maxHeartbeats 4000000
namespace Z
open PySem PySem.Spec PyProof.Rows L2

/-- data: what a name may hold, without addresses; a tuple is its items, a list is a place in the small heap -/
inductive D where
  | non | bl (b : Bool) | int (i : Int) | str (s : Str) | tup (xs : List D) | ref (n : Nat) | ro (xs : List D) | xv (cls : Str) (fs : List Str) (ds : List D)
instance : Inhabited D := ⟨.non⟩
inductive Cell where
  | lst (xs : List D)
  /-- an instance: its class, the names that its class gives no attribute, its own attributes -/
  | ins (c : Str) (F : List Str) (fs : List (Str × D))
  /-- a set of whole numbers that a comprehension makes -/
  | set (acc : List Int)
abbrev Hm := List Cell
structure Exn where
  cls : Str
  fs : List Str
  ds : List D
/-- what stands still in a context: the module's facts, the names of its exception classes, the exception that a suite holds (its slot, object, class and dict) -/
structure Gx where
  K : PySem.W.Frag
  mg : Str → Option Value
  xs : List Str
  ex : Option (Nat × Addr × Str × Option Addr)
  w : World
inductive R where
  | ok (d : D) (h : Hm) | exn (x : Exn) (h : Hm) | bad
def R.bind (r : R) (f : D → Hm → R) : R := match r with
  | .ok d h => f d h
  | .exn x h => .exn x h
  | .bad => .bad
@[simp] theorem R.bind_ok {d h f} : (R.ok d h).bind f = f d h := rfl
@[simp] theorem R.bind_exn {x h f} : (R.exn x h).bind f = .exn x h := rfl
@[simp] theorem R.bind_bad {f} : R.bad.bind f = .bad := rfl
abbrev Env' := List (Option D)

/-- a tuple that is known: its own object laid by us (or the module's), without a dict -/
def TupF (K : PySem.W.Frag) (H : Hp) (a : Addr) (vs : List V) : Prop :=
  (∃ o, H a = some (.frz o (.tup vs)) ∧ o.cls = .type "tuple" ∧ o.dict = none) ∨
    ∃ (o : Obj) (its : Array Value) (n : Nat), K.lookup a = some o ∧ o.cls = .type "tuple" ∧ o.dict = none ∧ o.data = .seq its n ∧ its.size ≤ sizeLine ∧ Vals vs its.toList
theorem TupF.sqT {K : PySem.W.Frag} {H : Hp} {a : Addr} {vs : List V} (h : TupF K H a vs) : SqT K H a vs := by
  rcases h with ⟨o, h, _⟩ | ⟨o, its, n, h1, h2, _, h3, h4, h5⟩
  · exact .inl (.inr ⟨o, h⟩)
  · exact .inr ⟨o, its, n, h1, h2, h3, h4, h5⟩
/-- a list that is known and never written: the script, a list of the module -/
def RoL (K : PySem.W.Frag) (H : Hp) (a : Addr) (vs : List V) : Prop :=
  (∃ o, H a = some (.frz o (.lst vs))) ∨
    ∃ (o : Obj) (its : Array Value) (n : Nat), K.lookup a = some o ∧ o.cls = .type "list" ∧ o.dict = none ∧ o.data = .seq its n ∧ its.size ≤ sizeLine ∧ Vals vs its.toList
theorem RoL.sq {K : PySem.W.Frag} {H : Hp} {a : Addr} {vs : List V} (h : RoL K H a vs) : SqL K H a vs := by
  rcases h with ⟨o, h⟩ | h
  · exact .inl (.inr ⟨o, h⟩)
  · exact .inr h
mutual
inductive Rep (G : Gx) (H : Hp) (π : List Addr) : D → V → Prop
  | non : Rep G H π .non .non
  | bl (b : Bool) : Rep G H π (.bl b) (.bl b)
  | int (i : Int) : Rep G H π (.int i) (.int i)
  | str (s : Str) : Rep G H π (.str s) (.str s)
  | tup {a : Addr} {vs : List V} {ds : List D} : TupF G.K H a vs → Reps G H π ds vs → Rep G H π (.tup ds) (.ref a)
  | ref {n : Nat} {a : Addr} : π[n]? = some a → Rep G H π (.ref n) (.ref a)
  | ro {a : Addr} {vs : List V} {ds : List D} : RoL G.K H a vs → Reps G H π ds vs → Rep G H π (.ro ds) (.ref a)
  | xv {a : Addr} {c : Str} {fs : List Str} {ds : List D} : Rep G H π (.xv c fs ds) (.ref a)
inductive Reps (G : Gx) (H : Hp) (π : List Addr) : List D → List V → Prop
  | nil : Reps G H π [] []
  | cons {d : D} {v : V} {ds : List D} {vs : List V} : Rep G H π d v → Reps G H π ds vs → Reps G H π (d :: ds) (v :: vs)
end

/-- what never goes -/
structure Ext (H H' : Hp) : Prop where
  tups : ∀ a xs, H a = some (.tup xs) → H' a = some (.tup xs)
  frzs : ∀ a o u, H a = some (.frz o u) → H' a = some (.frz o u)
  xds : ∀ a gs, H a = some (.xd gs) → H' a = some (.xd gs)
  lsts : ∀ a xs, H a = some (.lst xs) → ∃ ys, H' a = some (.lst ys)
  inss : ∀ a C dx fs, H a = some (.ins C dx fs) → ∃ gs, H' a = some (.ins C dx gs)
theorem Ext.refl {H : Hp} : Ext H H := ⟨fun _ _ h => h, fun _ _ _ h => h, fun _ _ h => h, fun _ _ h => ⟨_, h⟩, fun _ _ _ _ h => ⟨_, h⟩⟩
theorem Ext.trans {H H1 H2 : Hp} (a : Ext H H1) (b : Ext H1 H2) : Ext H H2 := ⟨fun x y h => b.tups x y (a.tups x y h), fun x y z h => b.frzs x y z (a.frzs x y z h), fun x y h => b.xds x y (a.xds x y h),
  fun x y h => let ⟨y1, h1⟩ := a.lsts x y h; b.lsts x y1 h1, fun x C dx y h => let ⟨y1, h1⟩ := a.inss x C dx y h; b.inss x C dx y1 h1⟩
theorem Ext.new {H : Hp} {p : Addr} {o : HO} (hp : H p = none) : Ext H (upd H p o) :=
  ⟨fun a xs h => by rw [upd_ne (ne_of_none h hp)]; exact h, fun a o u h => by rw [upd_ne (ne_of_none h hp)]; exact h, fun a xs h => by rw [upd_ne (ne_of_none h hp)]; exact h,
    fun a xs h => ⟨xs, by rw [upd_ne (ne_of_none h hp)]; exact h⟩, fun a C dx xs h => ⟨xs, by rw [upd_ne (ne_of_none h hp)]; exact h⟩⟩
theorem Ext.lst {H : Hp} {p : Addr} {xs ys : List V} (hp : H p = some (.lst xs)) : Ext H (upd H p (.lst ys)) :=
  ⟨fun a xs h => by rw [upd_ne (ne_of h hp (by intro q; cases q))]; exact h, fun a o u h => by rw [upd_ne (ne_of h hp (by intro q; cases q))]; exact h, fun a xs h => by rw [upd_ne (ne_of h hp (by intro q; cases q))]; exact h,
    fun a zs h => by
      by_cases e : a = p
      · subst e; exact ⟨_, upd_same⟩
      · exact ⟨zs, by rw [upd_ne e]; exact h⟩, fun a C dx zs h => ⟨zs, by rw [upd_ne (ne_of h hp (by intro q; cases q))]; exact h⟩⟩
theorem Ext.ins {H : Hp} {p C dx : Addr} {xs ys : List (Str × V)} (hp : H p = some (.ins C dx xs)) : Ext H (upd H p (.ins C dx ys)) :=
  ⟨fun a xs h => by rw [upd_ne (ne_of h hp (by intro q; cases q))]; exact h, fun a o u h => by rw [upd_ne (ne_of h hp (by intro q; cases q))]; exact h, fun a xs h => by rw [upd_ne (ne_of h hp (by intro q; cases q))]; exact h,
    fun a zs h => ⟨zs, by rw [upd_ne (ne_of h hp (by intro q; cases q))]; exact h⟩, fun a C' dx' zs h => by
      by_cases e : a = p
      · subst e
        rw [hp] at h
        cases h
        exact ⟨_, upd_same⟩
      · exact ⟨zs, by rw [upd_ne e]; exact h⟩⟩
theorem Ext.ext {H : Hp} {p : Addr} {q q' : Heap → Prop} (hp : H p = some (.ext q)) : Ext H (upd H p (.ext q')) :=
  ⟨fun a xs h => by rw [upd_ne (ne_of h hp (by intro q; cases q))]; exact h, fun a o u h => by rw [upd_ne (ne_of h hp (by intro q; cases q))]; exact h, fun a xs h => by rw [upd_ne (ne_of h hp (by intro q; cases q))]; exact h,
    fun a zs h => ⟨zs, by rw [upd_ne (ne_of h hp (by intro q; cases q))]; exact h⟩, fun a C dx zs h => ⟨zs, by rw [upd_ne (ne_of h hp (by intro q; cases q))]; exact h⟩⟩
theorem Ext.sqT {K : PySem.W.Frag} {H H' : Hp} (e : Ext H H') {a : Addr} {xs : List V} (h : SqT K H a xs) : SqT K H' a xs := by
  rcases h with h | h
  · rcases h with h | ⟨o, h⟩
    · exact .inl (.inl (e.tups _ _ h))
    · exact .inl (.inr ⟨o, e.frzs _ _ _ h⟩)
  · exact .inr h

theorem Ext.tupF {K : PySem.W.Frag} {H H' : Hp} (e : Ext H H') {a : Addr} {xs : List V} (h : TupF K H a xs) : TupF K H' a xs := by
  rcases h with ⟨o, h, c⟩ | h
  · exact .inl ⟨o, e.frzs _ _ _ h, c⟩
  · exact .inr h
theorem Ext.roL {K : PySem.W.Frag} {H H' : Hp} (e : Ext H H') {a : Addr} {xs : List V} (h : RoL K H a xs) : RoL K H' a xs := by
  rcases h with ⟨o, h⟩ | h
  · exact .inl ⟨o, e.frzs _ _ _ h⟩
  · exact .inr h
theorem pre_get {α : Type} {l l' : List α} (p : l <+: l') {n : Nat} {a : α} (h : l[n]? = some a) : l'[n]? = some a := by
  obtain ⟨t, rfl⟩ := p
  have hn : n < l.length := (List.getElem?_eq_some_iff.mp h).1
  rw [List.getElem?_append_left hn]; exact h

section
variable {G : Gx} {H H' : Hp} {π π' : List Addr}
mutual
theorem Rep.mono (e : Ext H H') (p : π <+: π') : ∀ {d : D} {v : V}, Rep G H π d v → Rep G H' π' d v
  | _, _, .non => .non
  | _, _, .bl b => .bl b
  | _, _, .int i => .int i
  | _, _, .str s => .str s
  | _, _, .tup h r => .tup (e.tupF h) (Reps.mono e p r)
  | _, _, .ref h => .ref (pre_get p h)
  | _, _, .ro h r => .ro (e.roL h) (Reps.mono e p r)
  | _, _, .xv => .xv
theorem Reps.mono (e : Ext H H') (p : π <+: π') : ∀ {ds : List D} {vs : List V}, Reps G H π ds vs → Reps G H' π' ds vs
  | _, _, .nil => .nil
  | _, _, .cons a r => .cons (Rep.mono e p a) (Reps.mono e p r)
end
theorem Reps.length : ∀ {ds : List D} {vs : List V}, Reps G H π ds vs → ds.length = vs.length
  | _, _, .nil => rfl
  | _, _, .cons _ r => by simp [Reps.length r]
theorem Reps.get : ∀ {ds : List D} {vs : List V} {n : Nat} {d : D}, Reps G H π ds vs → ds[n]? = some d → ∃ v, vs[n]? = some v ∧ Rep G H π d v
  | _, _, _, _, .nil, h => by simp at h
  | _, _, 0, _, .cons a r, h => by simp at h; subst h; exact ⟨_, rfl, a⟩
  | _, _, n + 1, _, .cons a r, h => by
    obtain ⟨v, h1, h2⟩ := Reps.get (n := n) r (by simpa using h)
    exact ⟨v, by simpa using h1, h2⟩
theorem Reps.get' : ∀ {ds : List D} {vs : List V} {n : Nat} {v : V}, Reps G H π ds vs → vs[n]? = some v → ∃ d, ds[n]? = some d ∧ Rep G H π d v
  | _, _, _, _, .nil, h => by simp at h
  | _, _, 0, _, .cons a r, h => by simp at h; subst h; exact ⟨_, rfl, a⟩
  | _, _, n + 1, _, .cons a r, h => by
    obtain ⟨v, h1, h2⟩ := Reps.get' (n := n) r (by simpa using h)
    exact ⟨v, by simpa using h1, h2⟩
theorem Reps.append : ∀ {ds es : List D} {vs us : List V}, Reps G H π ds vs → Reps G H π es us → Reps G H π (ds ++ es) (vs ++ us)
  | _, _, _, _, .nil, s => s
  | _, _, _, _, .cons a r, s => .cons a (Reps.append r s)
theorem Reps.set : ∀ {ds : List D} {vs : List V} {d : D} {v : V} (n : Nat), Reps G H π ds vs → Rep G H π d v → Reps G H π (ds.set n d) (vs.set n v)
  | _, _, _, _, _, .nil, _ => .nil
  | _, _, _, _, 0, .cons _ r, s => .cons s r
  | _, _, _, _, n + 1, .cons a r, s => .cons a (Reps.set n r s)
theorem Reps.take : ∀ {ds : List D} {vs : List V} (n : Nat), Reps G H π ds vs → Reps G H π (ds.take n) (vs.take n)
  | _, _, 0, _ => .nil
  | _, _, _ + 1, .nil => .nil
  | _, _, n + 1, .cons a r => .cons a (Reps.take n r)
theorem Reps.drop : ∀ {ds : List D} {vs : List V} (n : Nat), Reps G H π ds vs → Reps G H π (ds.drop n) (vs.drop n)
  | _, _, 0, r => r
  | _, _, _ + 1, .nil => .nil
  | _, _, n + 1, .cons _ r => Reps.drop n r
theorem Reps.reverse {ds : List D} {vs : List V} (r : Reps G H π ds vs) : Reps G H π ds.reverse vs.reverse := by
  induction ds generalizing vs with
  | nil => cases r; exact .nil
  | cons d ds ih => cases r with
    | cons a r => simp only [List.reverse_cons]; exact (ih r).append (.cons a .nil)
theorem Reps.ints : ∀ (ns : List Int), Reps G H π (ns.map .int) (ns.map .int)
  | [] => .nil
  | n :: r => .cons (.int n) (Reps.ints r)
theorem Reps.of_ints : ∀ {ns : List Int} {vs : List V}, Reps G H π (ns.map .int) vs → vs = ns.map .int
  | [], _, .nil => rfl
  | n :: r, _, .cons a s => by
    cases a; rw [Reps.of_ints s]; rfl

/-- a cell and what stands at its address -/
def CellOk (G : Gx) (H : Hp) (π : List Addr) : Cell → Addr → Option HO → Prop
  | .set acc, a, o => ∃ S : Int → Bool, o = some (SetO G.w a S acc.length) ∧ ∀ j, S j = true ↔ j ∈ acc
  | .lst ds, _, o => ∃ vs, o = some (.lst vs) ∧ Reps G H π ds vs
  | .ins c F fs, _, o => ∃ C dx vs, o = some (.ins C dx vs) ∧ G.mg c = some (.ref C) ∧ vs.map (·.1) = fs.map (·.1) ∧ Reps G H π (fs.map (·.2)) (vs.map (·.2)) ∧ Cls G.K C ∧ ∀ f ∈ F, NoAttr G.K C f
structure HmOk (G : Gx) (H : Hp) (π : List Addr) (h : Hm) : Prop where
  len : π.length = h.length
  nd : π.Nodup
  cell : ∀ (n : Nat) (c : Cell) (a : Addr), h[n]? = some c → π[n]? = some a → CellOk G H π c a (H a)
theorem CellOk.mono (e : Ext H H') (p : π <+: π') {c : Cell} {a : Addr} {o : Option HO} (x : CellOk G H π c a o) : CellOk G H' π' c a o := by
  cases c with
  | lst ds => obtain ⟨vs, h1, h2⟩ := x; exact ⟨vs, h1, h2.mono e p⟩
  | ins c F fs => obtain ⟨C, dx, vs, h1, h2, h3, h4, h5⟩ := x; exact ⟨C, dx, vs, h1, h2, h3, h4.mono e p, h5⟩
  | set acc => exact x
theorem CellOk.some {c : Cell} {a : Addr} {o : Option HO} (x : CellOk G H π c a o) : ∃ u, o = .some u := by
  cases c with
  | lst ds => obtain ⟨vs, h1, h2⟩ := x; exact ⟨_, h1⟩
  | ins c F fs => obtain ⟨C, dx, vs, h1, _⟩ := x; exact ⟨_, h1⟩
  | set acc => obtain ⟨S, h1, _⟩ := x; exact ⟨_, h1⟩
theorem HmOk.at {h : Hm} (x : HmOk G H π h) {n : Nat} {c : Cell} (hn : h[n]? = some c) : ∃ a, π[n]? = some a ∧ CellOk G H π c a (H a) := by
  have hl : n < h.length := (List.getElem?_eq_some_iff.mp hn).1
  have hp : n < π.length := by rw [x.len]; exact hl
  exact ⟨π[n], by simp [hp], x.cell n c _ hn (by simp [hp])⟩
theorem HmOk.lst {h : Hm} (x : HmOk G H π h) {n : Nat} {ds : List D} {v : V} (hn : h[n]? = some (.lst ds)) (r : Rep G H π (.ref n) v) :
    ∃ a vs, v = .ref a ∧ π[n]? = some a ∧ H a = some (.lst vs) ∧ Reps G H π ds vs := by
  cases r with
  | ref hr =>
    obtain ⟨vs, h1, h2⟩ := x.cell n _ _ hn hr
    exact ⟨_, vs, rfl, hr, h1, h2⟩
theorem HmOk.ins {h : Hm} (x : HmOk G H π h) {n : Nat} {c : Str} {F : List Str} {fs : List (Str × D)} {v : V} (hn : h[n]? = some (.ins c F fs)) (r : Rep G H π (.ref n) v) :
    ∃ a C dx vs, v = .ref a ∧ π[n]? = some a ∧ H a = some (.ins C dx vs) ∧ G.mg c = some (.ref C) ∧ vs.map (·.1) = fs.map (·.1) ∧ Reps G H π (fs.map (·.2)) (vs.map (·.2)) ∧ Cls G.K C ∧ ∀ f ∈ F, NoAttr G.K C f := by
  cases r with
  | ref hr =>
    obtain ⟨C, dx, vs, h1, h2⟩ := x.cell n _ _ hn hr
    exact ⟨_, C, dx, vs, rfl, hr, h1, h2⟩
theorem HmOk.mem {h : Hm} (x : HmOk G H π h) {a : Addr} (ha : a ∈ π) : ∃ u, H a = some u := by
  obtain ⟨n, hn⟩ := List.mem_iff_getElem?.mp ha
  have hl : n < π.length := (List.getElem?_eq_some_iff.mp hn).1
  have hp : n < h.length := by rw [← x.len]; exact hl
  exact (x.cell n h[n] a (by simp [hp]) hn).some
/-- all cells stay, the heap grows in what is not tracked by cells -/
theorem HmOk.ext {h : Hm} (x : HmOk G H π h) (e : Ext H H') (k : ∀ a ∈ π, H' a = H a) : HmOk G H' π h := by
  refine ⟨x.len, x.nd, fun n c a h1 h2 => ?_⟩
  rw [k a (List.mem_of_getElem? h2)]
  exact (x.cell n c a h1 h2).mono e (List.prefix_refl _)
theorem HmOk.ext_new {h : Hm} (x : HmOk G H π h) {p : Addr} {o : HO} (hp : H p = none) : HmOk G (upd H p o) π h :=
  x.ext (.new hp) fun a ha => by
    obtain ⟨u, hu⟩ := x.mem ha
    exact upd_ne (ne_of_none hu hp)
/-- a new cell -/
theorem HmOk.push {h : Hm} (x : HmOk G H π h) {p : Addr} {o : HO} {c : Cell} (hp : H p = none) (co : CellOk G H π c p (.some o)) : HmOk G (upd H p o) (π ++ [p]) (h ++ [c]) := by
  have hnp : p ∉ π := fun hm => by
    obtain ⟨u, hu⟩ := x.mem hm
    rw [hp] at hu; cases hu
  refine ⟨by simp [x.len], ?_, fun n c' a h1 h2 => ?_⟩
  · rw [List.nodup_append]
    exact ⟨x.nd, by simp, fun a ha b hb => by simp at hb; subst hb; intro e; subst e; exact hnp ha⟩
  · by_cases hn : n < h.length
    · rw [List.getElem?_append_left hn] at h1
      rw [List.getElem?_append_left (by rw [x.len]; exact hn)] at h2
      have q := x.cell n c' a h1 h2
      obtain ⟨u, hu⟩ := q.some
      rw [upd_ne (ne_of_none hu hp)]
      exact q.mono (.new hp) (List.prefix_append _ _)
    · rw [List.getElem?_append_right (by omega)] at h1
      rw [List.getElem?_append_right (by rw [x.len]; omega)] at h2
      have e1 : n - h.length = 0 := by
        have := (List.getElem?_eq_some_iff.mp h1).1
        simp at this; omega
      rw [x.len, e1] at h2
      rw [e1] at h1
      simp at h1 h2
      subst h1; subst h2
      rw [upd_same]
      exact co.mono (.new hp) (List.prefix_append _ _)
/-- a list's cell changes -/
theorem HmOk.setl {h : Hm} (x : HmOk G H π h) {n : Nat} {a : Addr} {vs us : List V} {es : List D} (hn : π[n]? = some a) (ha : H a = some (.lst vs)) (r : Reps G H π es us) :
    HmOk G (upd H a (.lst us)) π (h.set n (.lst es)) := by
  refine ⟨by simp [x.len], x.nd, fun m c b h1 h2 => ?_⟩
  by_cases hm : m = n
  · subst hm
    rw [hn] at h2; cases h2
    have hl : m < h.length := by rw [← x.len]; exact (List.getElem?_eq_some_iff.mp hn).1
    rw [List.getElem?_set_self hl] at h1
    cases h1
    exact ⟨us, upd_same, r.mono (.lst ha) (List.prefix_refl _)⟩
  · rw [List.getElem?_set_ne (Ne.symm hm)] at h1
    have hba : b ≠ a := fun e => by
      subst e
      have h3 := (List.getElem?_inj (i := m) (j := n) (by exact (List.getElem?_eq_some_iff.mp h2).1) x.nd).mp (h2.trans hn.symm)
      exact hm h3
    rw [upd_ne hba]
    exact (x.cell m c b h1 h2).mono (.lst ha) (List.prefix_refl _)

/-- a set's cell changes -/
theorem HmOk.sets {h : Hm} (x : HmOk G H π h) {n m : Nat} {a : Addr} {S S' : Int → Bool} {acc : List Int} (hn : π[n]? = some a) (ha : H a = some (SetO G.w a S m)) (r : ∀ j, S' j = true ↔ j ∈ acc) :
    HmOk G (upd H a (SetO G.w a S' acc.length)) π (h.set n (.set acc)) := by
  refine ⟨by simp [x.len], x.nd, fun m d b h1 h2 => ?_⟩
  by_cases hm : m = n
  · subst hm
    rw [hn] at h2; cases h2
    have hl : m < h.length := by rw [← x.len]; exact (List.getElem?_eq_some_iff.mp hn).1
    rw [List.getElem?_set_self hl] at h1
    cases h1
    rw [upd_same]
    exact ⟨S', rfl, r⟩
  · rw [List.getElem?_set_ne (Ne.symm hm)] at h1
    have hba : b ≠ a := fun e => by
      subst e
      have h3 := (List.getElem?_inj (i := m) (j := n) (by exact (List.getElem?_eq_some_iff.mp h2).1) x.nd).mp (h2.trans hn.symm)
      exact hm h3
    rw [upd_ne hba]
    exact (x.cell m d b h1 h2).mono (.ext ha) (List.prefix_refl _)

/-- an instance's cell changes -/
theorem HmOk.seti {h : Hm} (x : HmOk G H π h) {n : Nat} {a C dx : Addr} {ws : List (Str × V)} {us : List (Str × V)} {c : Cell} (hn : π[n]? = some a) (ha : H a = some (.ins C dx ws)) (r : CellOk G H π c a (.some (.ins C dx us))) :
    HmOk G (upd H a (.ins C dx us)) π (h.set n c) := by
  refine ⟨by simp [x.len], x.nd, fun m d b h1 h2 => ?_⟩
  by_cases hm : m = n
  · subst hm
    rw [hn] at h2; cases h2
    have hl : m < h.length := by rw [← x.len]; exact (List.getElem?_eq_some_iff.mp hn).1
    rw [List.getElem?_set_self hl] at h1
    cases h1
    rw [upd_same]
    exact r.mono (.ins ha) (List.prefix_refl _)
  · rw [List.getElem?_set_ne (Ne.symm hm)] at h1
    have hba : b ≠ a := fun e => by
      subst e
      have h3 := (List.getElem?_inj (i := m) (j := n) (by exact (List.getElem?_eq_some_iff.mp h2).1) x.nd).mp (h2.trans hn.symm)
      exact hm h3
    rw [upd_ne hba]
    exact (x.cell m d b h1 h2).mono (.ins ha) (List.prefix_refl _)

/-- an exception's attributes as they lie in its dict -/
def XFields (G : Gx) (H : Hp) (π : List Addr) (fs : List Str) (ds : List D) (d : Option Addr) : Prop :=
  (d = none ∧ fs = [] ∧ ds = []) ∨ ∃ dd gs, d = some dd ∧ H dd = some (.xd gs) ∧ gs.map (·.1) = fs ∧ fs ≠ [] ∧ Reps G H π ds (gs.map (·.2))
theorem XFields.mono {fs : List Str} {ds : List D} {d : Option Addr} (x : XFields G H π fs ds d) (e : Ext H H') (p : π <+: π') : XFields G H' π' fs ds d := by
  rcases x with x | ⟨dd, gs, h1, h2, h3, h4, h5⟩
  · exact .inl x
  · exact .inr ⟨dd, gs, h1, e.xds _ _ h2, h3, h4, h5.mono e p⟩
/-- the exception that a suite holds stands at its slot -/
def HeldX (G : Gx) (H : Hp) (π : List Addr) (ρ : Env') (σ : L2.St) : Prop :=
  ∀ i a c d, G.ex = some (i, a, c, d) → σ[i]? = some (some (.ref a)) ∧ ∃ fs ds, ρ[i]? = some (some (.xv c fs ds)) ∧ XFields G H π fs ds d
structure EnvOk (G : Gx) (H : Hp) (π : List Addr) (ρ : Env') (σ : L2.St) : Prop where
  len : ρ.length = σ.length
  at' : ∀ (i : Nat) (d : D), ρ[i]? = some (some d) → ∃ v, σ[i]? = some (some v) ∧ Rep G H π d v
  held : HeldX G H π ρ σ
theorem EnvOk.mono {ρ : Env'} {σ : L2.St} (x : EnvOk G H π ρ σ) (e : Ext H H') (p : π <+: π') : EnvOk G H' π' ρ σ :=
  ⟨x.len, fun i d h => let ⟨v, h1, h2⟩ := x.at' i d h; ⟨v, h1, h2.mono e p⟩, fun i a c d h => let ⟨h1, fs, ds, h2, h3⟩ := x.held i a c d h; ⟨h1, fs, ds, h2, h3.mono e p⟩⟩
theorem HeldX.none {ρ : Env'} {σ : L2.St} (h : G.ex = .none) : HeldX G H π ρ σ := fun i a c d e => by rw [h] at e; cases e
theorem EnvOk.setH {ρ : Env'} {σ : L2.St} (x : EnvOk G H π ρ σ) {i : Nat} (hx : ∀ j a c d, G.ex = some (j, a, c, d) → j ≠ i) {d : D} {v : V} (r : Rep G H π d v) : EnvOk G H π (ρ.set i (some d)) (σ.set i (some v)) := by
  refine ⟨by simp [x.len], fun j e h => ?_, fun j a c d' h => ?_⟩
  · by_cases hj : i = j
    · subst hj
      have hl : i < ρ.length := by have := (List.getElem?_eq_some_iff.mp h).1; simpa using this
      rw [List.getElem?_set_self hl] at h
      cases h
      exact ⟨v, by rw [List.getElem?_set_self (by rw [← x.len]; exact hl)], r⟩
    · rw [List.getElem?_set_ne hj] at h
      rw [List.getElem?_set_ne hj]
      exact x.at' j e h
  · have hj := hx j a c d' h
    rw [List.getElem?_set_ne (Ne.symm hj), List.getElem?_set_ne (Ne.symm hj)]
    exact x.held j a c d' h
theorem EnvOk.set {ρ : Env'} {σ : L2.St} (x : EnvOk G H π ρ σ) (hx : G.ex = none) {i : Nat} {d : D} {v : V} (r : Rep G H π d v) : EnvOk G H π (ρ.set i (some d)) (σ.set i (some v)) := by
  refine ⟨by simp [x.len], fun j e h => ?_, .none hx⟩
  by_cases hj : i = j
  · subst hj
    have hl : i < ρ.length := by have := (List.getElem?_eq_some_iff.mp h).1; simpa using this
    rw [List.getElem?_set_self hl] at h
    cases h
    exact ⟨v, by rw [List.getElem?_set_self (by rw [← x.len]; exact hl)], r⟩
  · rw [List.getElem?_set_ne hj] at h
    rw [List.getElem?_set_ne hj]
    exact x.at' j e h
end

/-- an exception as it lies -/
def XRep (G : Gx) (H : Hp) (π : List Addr) (x : Exn) (cls : Value) (d : Option Addr) : Prop :=
  G.mg x.cls = some cls ∧ x.cls ∈ G.xs ∧ XFields G H π x.fs x.ds d

section
variable {G : Gx} {W : WX} {σ : L2.St} {H : Hp} {π : List Addr}
/-- what an evaluation's result wants -/
def Post (G : Gx) (W : WX) (σ : L2.St) (H : Hp) (π : List Addr) (r : R) (C : D → Hm → V → Hp → List Addr → Prop) : Prop :=
  match r with
  | .ok d h => ∀ v H' π', Ext H H' → π <+: π' → HmOk G H' π' h → Rep G H' π' d v → C d h v H' π'
  | .exn x h => ∀ cls dd H' π', Ext H H' → π <+: π' → HmOk G H' π' h → XRep G H' π' x cls dd → W cls dd σ H'
  | .bad => False
theorem Post.imp {r : R} {C C' : D → Hm → V → Hp → List Addr → Prop} (p : Post G W σ H π r C)
    (h : ∀ d h v H' π', r = .ok d h → Ext H H' → π <+: π' → HmOk G H' π' h → Rep G H' π' d v → C d h v H' π' → C' d h v H' π') : Post G W σ H π r C' := by
  cases r with
  | ok d h1 => exact fun v H' π' a b c e => h _ _ _ _ _ rfl a b c e (p v H' π' a b c e)
  | exn x h1 => exact p
  | bad => exact p
theorem Post.weak {r : R} {H0 : Hp} {π0 : List Addr} {C : D → Hm → V → Hp → List Addr → Prop} (e : Ext H0 H) (q : π0 <+: π) (p : Post G W σ H0 π0 r C) : Post G W σ H π r C := by
  cases r with
  | ok d h1 => exact fun v H' π' a b c z => p v H' π' (e.trans a) (q.trans b) c z
  | exn x h1 => exact fun cls dd H' π' a b c z => p cls dd H' π' (e.trans a) (q.trans b) c z
  | bad => exact p
theorem Post.bind {r : R} {f : D → Hm → R} {C : D → Hm → V → Hp → List Addr → Prop} (p : Post G W σ H π (r.bind f) C) :
    Post G W σ H π r fun d h v H' π' => Post G W σ H' π' (f d h) C := by
  cases r with
  | ok d h1 => exact fun v H' π' a b c e => Post.weak a b p
  | exn x h1 => exact p
  | bad => exact p
end
/-- the reading of an expression whose evaluation is ev -/
def TEv (G : Gx) (W : WX) (ev : Env' → Hm → R) : TE := fun σ H Q =>
  ∃ ρ π h, EnvOk G H π ρ σ ∧ HmOk G H π h ∧ Post G W σ H π (ev ρ h) fun _ _ v H' _ => Q v H'
end Z

set_option Elab.async false
set_option linter.all false
set_option maxRecDepth 100000
set_option maxHeartbeats 4000000
namespace Z
open PySem PySem.Spec PyProof.Rows L2

/-! ### data compared -/
mutual
def D.beq : D → D → Bool
  | .non, .non => true
  | .bl a, .bl b => a == b
  | .int a, .int b => a == b
  | .str a, .str b => a == b
  | .tup a, .tup b => D.beqs a b
  | .ref a, .ref b => a == b
  | .ro a, .ro b => D.beqs a b
  | .xv c f d, .xv c' f' d' => c == c' && (f == f' && D.beqs d d')
  | _, _ => false
def D.beqs : List D → List D → Bool
  | [], [] => true
  | a :: r, b :: s => D.beq a b && D.beqs r s
  | _, _ => false
end
mutual
theorem D.beq_refl : ∀ d : D, D.beq d d = true
  | .non => rfl
  | .bl a => by simp [D.beq]
  | .int a => by simp [D.beq]
  | .str a => by simp [D.beq]
  | .tup a => by simp [D.beq, D.beqs_refl a]
  | .ref a => by simp [D.beq]
  | .ro a => by simp [D.beq, D.beqs_refl a]
  | .xv c f d => by simp [D.beq, D.beqs_refl d]
theorem D.beqs_refl : ∀ d : List D, D.beqs d d = true
  | [] => rfl
  | a :: r => by simp [D.beqs, D.beq_refl a, D.beqs_refl r]
end
mutual
theorem D.beq_eq : ∀ d e : D, D.beq d e = true → d = e
  | .non, e, h => by cases e <;> simp_all [D.beq]
  | .bl a, e, h => by cases e <;> simp_all [D.beq]
  | .int a, e, h => by cases e <;> simp_all [D.beq]
  | .str a, e, h => by cases e <;> simp_all [D.beq]
  | .tup a, e, h => by
    cases e <;> simp only [D.beq, Bool.false_eq_true] at h
    rw [D.beqs_eq _ _ h]
  | .ref a, e, h => by cases e <;> simp_all [D.beq]
  | .ro a, e, h => by
    cases e <;> simp only [D.beq, Bool.false_eq_true] at h
    rw [D.beqs_eq _ _ h]
  | .xv c f d, e, h => by
    cases e <;> simp only [D.beq, Bool.false_eq_true, Bool.and_eq_true, beq_iff_eq] at h
    obtain ⟨h1, h2, h3⟩ := h
    rw [h1, h2, D.beqs_eq _ _ h3]
theorem D.beqs_eq : ∀ d e : List D, D.beqs d e = true → d = e
  | [], e, h => by cases e <;> simp_all [D.beqs]
  | a :: r, e, h => by
    cases e with
    | nil => simp [D.beqs] at h
    | cons b s =>
      simp only [D.beqs, Bool.and_eq_true] at h
      rw [D.beq_eq _ _ h.1, D.beqs_eq _ _ h.2]
end

/-! ### data as the library's pure data -/
mutual
def toP (h : Hm) : Nat → D → Option PyData
  | 0, _ => none
  | _ + 1, .non => some .none
  | _ + 1, .bl b => some (.bool b)
  | _ + 1, .int i => some (.int i)
  | _ + 1, .str s => some (.str s)
  | n + 1, .tup xs => (toPs h n xs).map .tuple
  | n + 1, .ro xs => (toPs h n xs).map .list
  | n + 1, .ref k => match h[k]? with
    | some (.lst xs) => (toPs h n xs).map .list
    | _ => none
  | _ + 1, .xv .. => none
def toPs (h : Hm) : Nat → List D → Option (List PyData)
  | 0, _ => none
  | _ + 1, [] => some []
  | n + 1, x :: r => match toP h n x, toPs h n r with
    | some p, some q => some (p :: q)
    | _, _ => none
end
abbrev deepP : Nat := 1000

/-! ### operations on data -/
inductive Pm where
  | add | sub | mul | fdiv | mod | pow | eq | ne | lt | le | gt | ge | is | isnot | isin | notin | neg
  | len | abs | max2 | min2 | maxl | minl | suml | sorted | list | tuple | int | str | rangel | sumrg | revl | maxd | sortr | alll | anyl
  | idx | slice | append | pop | popat | count | insert | extend | index | reverse | clear | setix
  | unp | part | isint | isbool | isstr | islist | istup | isseq | isnone
abbrev bigBits : Nat := 9000
def okMul (i j : Int) : Bool := decide (-(2 ^ 64) < i ∧ i < 2 ^ 64) || decide (-(2 ^ 64) < j ∧ j < 2 ^ 64)
def listOf (h : Hm) : D → Option (List D)
  | .tup xs => some xs
  | .ro xs => some xs
  | .ref k => match h[k]? with
    | some (.lst xs) => some xs
    | _ => none
  | _ => none
/-- a list, no tuple -/
def lstOf (h : Hm) : D → Option (List D)
  | .tup _ => none
  | d => listOf h d
/-- a new list -/
def mkl (xs : List D) (h : Hm) : R := if xs.length ≤ sizeLine then .ok (.ref h.length) (h ++ [.lst xs]) else .bad
def mkt (xs : List D) (h : Hm) : R := if xs.length ≤ sizeLine then .ok (.tup xs) h else .bad
def intsOf : List D → Option (List Int)
  | [] => some []
  | .int i :: r => (intsOf r).map (i :: ·)
  | _ => none
def D.flat : D → Bool
  | .non => true | .bl _ => true | .int _ => true | .str _ => true | _ => false
def opAdd (x y : D) (h : Hm) : R := match x, y with
  | .int i, .int j => .ok (.int (i + j)) h
  | .str a, .str b => if a.length + b.length ≤ sizeLine then .ok (.str (a ++ b)) h else .bad
  | .tup a, .tup b => mkt (a ++ b) h
  | .ref a, .ref b => match h[a]?, h[b]? with
    | some (.lst xs), some (.lst ys) => mkl (xs ++ ys) h
    | _, _ => .bad
  | _, _ => .bad
def opSub (x y : D) (h : Hm) : R := match x, y with
  | .int i, .int j => .ok (.int (i - j)) h
  | _, _ => .bad
def opMul (x y : D) (h : Hm) : R := match x, y with
  | .int i, .int j => if okMul i j = true then .ok (.int (i * j)) h else .bad
  | .ref a, .int k => match h[a]? with
    | some (.lst xs) => if k < 2 ^ 62 ∧ -(2 ^ 62) ≤ k ∧ xs.length * k.toNat ≤ sizeLine then .ok (.ref h.length) (h ++ [.lst (List.replicate k.toNat xs).flatten]) else .bad
    | _ => .bad
  | .tup xs, .int k => if xs.isEmpty = false ∧ 1 ≤ k ∧ k ≤ 1000 ∧ xs.length ≤ 1000 then .ok (.tup (List.replicate k.toNat xs).flatten) h else .bad
  | _, _ => .bad
def opFdiv (x y : D) (h : Hm) : R := match x, y with
  | .int i, .int j => if 0 < j ∧ j < 1073741824 then .ok (.int (i / j)) h else if 0 < j ∧ j.natAbs.log2 < 9000 then .ok (.int (i / j)) h else if j ≠ 0 ∧ j.natAbs < 1073741824 then .ok (.int (i.fdiv j)) h else .bad
  | _, _ => .bad
def opMod (x y : D) (h : Hm) : R := match x, y with
  | .int i, .int j => if 0 < j then .ok (.int (i % j)) h else if j ≠ 0 then .ok (.int (i.fmod j)) h else .bad
  | _, _ => .bad
def opPow (x y : D) (h : Hm) : R := match x, y with
  | .int i, .int j => if 0 ≤ j ∧ j ≤ 1000000 ∧ i.natAbs < 2 ^ 64 then .ok (.int (i ^ j.toNat)) h else .bad
  | _, _ => .bad
def eqD (x y : D) (h : Hm) : Option Bool := match x, y with
  | .int i, .int j => some (decide (i = j))
  | _, _ => match toP h deepP x, toP h deepP y with
    | some a, some b => if SeqAt.shaped a = true ∧ SeqAt.shaped b = true then some (PyData.eqv a b) else none
    | _, _ => none
def opEq (x y : D) (h : Hm) : R := match eqD x y h with
  | some b => .ok (.bl b) h
  | none => .bad
def opNe (x y : D) (h : Hm) : R := match eqD x y h with
  | some b => .ok (.bl (!b)) h
  | none => .bad
def dSome : PyData → Bool
  | .none => false
  | _ => true
/-- alike data, not too deep -/
def dOk (a b : PyData) : Bool := PySem.W.alike a b && (dSome a && decide (min a.depth b.depth ≤ 60))
def alikeB (xs : List PyData) : Bool := (xs.all fun x => xs.all fun y => PySem.W.alike x y) && xs.all dSome
def opCmp (p : Int → Int → Bool) (q : PyData → PyData → Bool) (x y : D) (h : Hm) : R := match x, y with
  | .int i, .int j => .ok (.bl (p i j)) h
  | _, _ => match toP h deepP x, toP h deepP y with
    | some a, some b => if dOk a b = true then .ok (.bl (q a b)) h else .bad
    | _, _ => .bad
abbrev qLt (a b : PyData) : Bool := PySem.W.dataLt a b
abbrev qGt (a b : PyData) : Bool := PySem.W.dataLt b a
abbrev qLe (a b : PyData) : Bool := !PySem.W.dataLt b a
abbrev qGe (a b : PyData) : Bool := !PySem.W.dataLt a b
/-- x is None, x is True, x is False -/
def isD (x y : D) : Option Bool := match y with
  | .non => match x with
    | .non => some true | .xv .. => none | _ => some false
  | .bl b => match x with
    | .bl a => some (a == b) | .non => some false | .int _ => some false | .str _ => some false | .tup _ => some false | .ref _ => some false | .ro _ => some false | .xv .. => none
  | _ => none
def opIs (x y : D) (h : Hm) : R := match isD x y with
  | some b => .ok (.bl b) h
  | none => .bad
def opIsnot (x y : D) (h : Hm) : R := match isD x y with
  | some b => .ok (.bl (!b)) h
  | none => .bad
/-- equality of flat things as `in` asks it -/
def flatEq : D → D → Bool
  | .non, .non => true
  | .bl a, .bl b => a == b
  | .bl a, .int j => (if a then 1 else 0) == j
  | .int i, .bl b => i == (if b then 1 else 0)
  | .int i, .int j => i == j
  | .str a, .str b => a == b
  | _, _ => false
def inD (x y : D) (h : Hm) : Option Bool := match listOf h y with
  | some xs => if x.flat = true ∧ xs.all D.flat = true then some (xs.any fun z => flatEq z x) else none
  | none => none
def opIn (x y : D) (h : Hm) : R := match inD x y h with
  | some b => .ok (.bl b) h
  | none => .bad
def opNotin (x y : D) (h : Hm) : R := match inD x y h with
  | some b => .ok (.bl (!b)) h
  | none => .bad
def opNeg (x : D) (h : Hm) : R := match x with
  | .int i => .ok (.int (-i)) h
  | _ => .bad
def opLen (x : D) (h : Hm) : R := match x with
  | .str s => if s.length ≤ sizeLine then .ok (.int s.length) h else .bad
  | _ => match listOf h x with
    | some xs => .ok (.int xs.length) h
    | none => .bad
def opAbs (x : D) (h : Hm) : R := match x with
  | .int i => .ok (.int (if i < 0 then -i else i)) h
  | _ => .bad
def opMax2 (x y : D) (h : Hm) : R := match x, y with
  | .int i, .int j => .ok (.int (if j > i then j else i)) h
  | _, _ => match toP h deepP x, toP h deepP y with
    | some a, some b => if alikeB [a, b] = true ∧ PyData.depthAll [a, b] ≤ 60 then .ok (if PySem.W.dataLt a b = true then y else x) h else .bad
    | _, _ => .bad
def opMin2 (x y : D) (h : Hm) : R := match x, y with
  | .int i, .int j => .ok (.int (if j < i then j else i)) h
  | _, _ => .bad
def maxI : List Int → Int → Int
  | [], m => m
  | x :: r, m => maxI r (if x > m then x else m)
def minI : List Int → Int → Int
  | [], m => m
  | x :: r, m => minI r (if x < m then x else m)
/-- tuples of whole numbers -/
def tupsOf : List D → Option (List (List Int))
  | [] => some []
  | .tup xs :: r => match intsOf xs, tupsOf r with
    | some ns, some l => some (ns :: l)
    | _, _ => none
  | _ => none
def pTup (ns : List Int) : PyData := .tuple (ns.map .int)
def minT (x : List Int) (l : List (List Int)) : List Int := l.foldl (fun a y => if PySem.W.dataLt (pTup y) (pTup a) then y else a) x
def maxT (x : List Int) (l : List (List Int)) : List Int := l.foldl (fun a y => if PySem.W.dataLt (pTup a) (pTup y) then y else a) x
def opMaxl (x : D) (h : Hm) : R := match (listOf h x).bind intsOf with
  | some (a :: r) => .ok (.int (maxI r a)) h
  | _ => match (lstOf h x).bind tupsOf with
    | some (a :: r) => .ok (.tup ((maxT a r).map .int)) h
    | _ => .bad
def opMinl (x : D) (h : Hm) : R := match (listOf h x).bind intsOf with
  | some (a :: r) => .ok (.int (minI r a)) h
  | _ => match (lstOf h x).bind tupsOf with
    | some (a :: r) => .ok (.tup ((minT a r).map .int)) h
    | _ => .bad
/-- max(x, default=d), x a list of whole numbers -/
def opMaxd (x d : D) (h : Hm) : R := match (lstOf h x).bind intsOf with
  | some (a :: r) => .ok (.int (maxI r a)) h
  | some [] => .ok d h
  | none => .bad
def opSum (x : D) (h : Hm) : R := match (listOf h x).bind intsOf with
  | some ns => .ok (.int ns.sum) h
  | _ => .bad
def blsOf : List D → Option (List Bool)
  | [] => some []
  | .bl b :: r => (blsOf r).map (b :: ·)
  | _ => none
def opAll (x : D) (h : Hm) : R := match (lstOf h x).bind blsOf with
  | some bs => .ok (.bl (bs.all id)) h
  | _ => .bad
def opAny (x : D) (h : Hm) : R := match (lstOf h x).bind blsOf with
  | some bs => .ok (.bl (bs.any id)) h
  | _ => .bad
def insI (x : Int) : List Int → List Int
  | [] => [x]
  | y :: r => if x ≤ y then x :: y :: r else y :: insI x r
def sortI : List Int → List Int
  | [] => []
  | x :: r => insI x (sortI r)
def opSorted (x : D) (h : Hm) : R := match (lstOf h x).bind intsOf with
  | some ns => .ok (.ref h.length) (h ++ [.lst ((sortI ns).map .int)])
  | _ => .bad
/-- sorted(x, reverse=True) -/
def opSortr (x y : D) (h : Hm) : R := match y with
  | .bl true => match (lstOf h x).bind intsOf with
    | some ns => .ok (.ref h.length) (h ++ [.lst ((sortI ns).reverse.map .int)])
    | _ => .bad
  | _ => .bad
/-- list(reversed(x)) -/
def opRevl (x : D) (h : Hm) : R := match listOf h x with
  | some xs => if xs.length ≤ 1000000 then .ok (.ref h.length) (h ++ [.lst xs.reverse]) else .bad
  | none => .bad
def opList (x : D) (h : Hm) : R := match listOf h x with
  | some xs => .ok (.ref h.length) (h ++ [.lst xs])
  | none => .bad
def opTuple (x : D) (h : Hm) : R := match listOf h x with
  | some xs => .ok (.tup xs) h
  | none => .bad
def opInt (x : D) (h : Hm) : R := match x with
  | .int i => .ok (.int i) h
  | .bl b => .ok (.int (if b then 1 else 0)) h
  | _ => .bad
def opStr (x : D) (h : Hm) : R := match x with
  | .int i => if i.natAbs.log2 < 1920 then .ok (.str (Str.ofString (toString i))) h else .bad
  | _ => .bad
def atD (xs : List D) (i : Int) : Option D := (ixN xs.length i).bind fun j => xs[j]?
def opIdx (x y : D) (h : Hm) : R := match y with
  | .int i => match x with
    | .str s => if s.length ≤ sizeLine then (match atI s.cps.toList i with | some c => .ok (.str ⟨#[c]⟩) h | none => .bad) else .bad
    | _ => match listOf h x with
      | some xs => match atD xs i with | some d => .ok d h | none => .bad
      | none => .bad
  | _ => .bad
def small (i : Int) : Bool := decide (-(2 ^ 62) ≤ i ∧ i < 2 ^ 62)
def rangeD (lo c : Int) (n : Nat) : List D := (List.range n).map fun (k : Nat) => D.int (lo + k * c)
/-- list(range(n)) -/
def opRangel (x : D) (h : Hm) : R := match x with
  | .int n => if small n = true ∧ n ≤ 16777216 then .ok (.ref h.length) (h ++ [.lst (rangeD 0 1 n.toNat)]) else .bad
  | _ => .bad
/-- sum(range(n)) -/
def upSum : Nat → Int
  | 0 => 0
  | n + 1 => upSum n + n
def opSumrg (x : D) (h : Hm) : R := match x with
  | .int n => if small n = true ∧ 0 ≤ n ∧ n ≤ 16777216 then .ok (.int (upSum n.toNat)) h else .bad
  | _ => .bad
def partOf : D → Option (Option Int)
  | .non => some none
  | .int i => if -(2 ^ 62) ≤ i ∧ i < 2 ^ 62 then some (some i) else none
  | _ => none
def opPart (x : D) (h : Hm) : R := match x with
  | .int i => if -(2 ^ 62) ≤ i ∧ i < 2 ^ 62 then .ok (.int i) h else .bad
  | _ => .bad
def cutD {α : Type} (xs : List α) (lo hi : Option Int) : List α := (xs.drop (HT.sIx xs.length 0 lo)).take (HT.sIx xs.length xs.length hi - HT.sIx xs.length 0 lo)
def opSlice (x lo hi : D) (h : Hm) : R := match partOf lo, partOf hi with
  | some l, some u => match x with
    | .tup xs => .ok (.tup (cutD xs l u)) h
    | .str _ => .bad
    | _ => match listOf h x with
      | some xs => .ok (.ref h.length) (h ++ [.lst (cutD xs l u)])
      | none => .bad
  | _, _ => .bad
def onList (x : D) (h : Hm) (f : Nat → List D → R) : R := match x with
  | .ref k => match h[k]? with
    | some (.lst xs) => f k xs
    | _ => .bad
  | _ => .bad
def opAppend (x y : D) (h : Hm) : R := onList x h fun k xs => if xs.length < sizeLine then .ok .non (h.set k (.lst (xs ++ [y]))) else .bad
def opPop (x : D) (h : Hm) : R := onList x h fun k xs => match xs.getLast? with
  | some d => .ok d (h.set k (.lst xs.dropLast))
  | none => .bad
def opPopat (x y : D) (h : Hm) : R := onList x h fun k xs => match y with
  | .int i => if small i = true then match ixN xs.length i with
      | some j => match xs[j]? with | some d => .ok d (h.set k (.lst (xs.eraseIdx j))) | none => .bad
      | none => .bad
    else .bad
  | _ => .bad
def opCount (x y : D) (h : Hm) : R := match listOf h x with
  | some xs => match intsOf xs, y with
    | some ns, .int i => .ok (.int (ns.count i : Nat)) h
    | _, _ => .bad
  | none => .bad
/-- x.index(y), x a list -/
def opIndex (x y : D) (h : Hm) : R := match lstOf h x with
  | some xs => match toPs h (deepP - 1) xs, toP h deepP y with
    | some ps, some q => if SeqAt.shaped (.list ps) = true ∧ SeqAt.shaped q = true then match ps.findIdx? fun z => PyData.eqv z q with
        | some j => .ok (.int (j : Nat)) h
        | none => .bad
      else .bad
    | _, _ => .bad
  | none => .bad
def opInsert (x i y : D) (h : Hm) : R := onList x h fun k xs => match i with
  | .int j => if xs.length < sizeLine ∧ 0 ≤ j ∧ j < 2 ^ 62 then .ok .non (h.set k (.lst (xs.take j.toNat ++ [y] ++ xs.drop j.toNat))) else .bad
  | _ => .bad
def opExtend (x y : D) (h : Hm) : R := onList x h fun k xs => onList y h fun _ ys => if xs.length + ys.length ≤ sizeLine then .ok .non (h.set k (.lst (xs ++ ys))) else .bad
def opReverse (x : D) (h : Hm) : R := onList x h fun k xs => .ok .non (h.set k (.lst xs.reverse))
def opClear (x : D) (h : Hm) : R := onList x h fun k xs => .ok .non (h.set k (.lst []))
def opSetix (x i y : D) (h : Hm) : R := onList x h fun k xs => match i with
  | .int j => match ixN xs.length j with
    | some m => .ok .non (h.set k (.lst (xs.set m y)))
    | none => .bad
  | _ => .bad
def notIns (x : D) (h : Hm) : Bool := match x with
  | .ref k => match h[k]? with
    | some (.ins ..) => false
    | some (.set _) => false
    | _ => true
  | _ => true
/-- instances are not asked for their kind here -/
def kG (f : D → Option Bool) (x : D) (h : Hm) : Option Bool := if notIns x h = true then f x else none
theorem kG_ok {f : D → Option Bool} {x : D} {h : Hm} {b : Bool} (e : kG f x h = some b) : notIns x h = true ∧ f x = some b := by
  unfold kG at e
  split at e
  · exact ⟨by assumption, e⟩
  · cases e
def isKind (f : D → Option Bool) (x : D) (h : Hm) : R := match kG f x h with
  | some b => .ok (.bl b) h
  | none => .bad
def kInt : D → Option Bool
  | .int _ => some true | .bl _ => some true | .xv .. => none | .ro _ => none | _ => some false
def kBool : D → Option Bool
  | .bl _ => some true | .xv .. => none | .ro _ => none | _ => some false
def kStr : D → Option Bool
  | .str _ => some true | .xv .. => none | .ro _ => none | _ => some false
def kNone : D → Option Bool
  | .non => some true | .xv .. => none | .ro _ => none | _ => some false
def kTup : D → Option Bool
  | .tup _ => some true | .xv .. => none | .ro _ => none | _ => some false
def kList (h : Hm) : D → Option Bool
  | .ro _ => none
  | .ref k => match h[k]? with
    | some (.lst _) => some true
    | _ => none
  | .xv .. => none
  | _ => some false
def kSeq (h : Hm) (d : D) : Option Bool := match kList h d, kTup d with
  | some a, some b => some (a || b)
  | _, _ => none

def evP (p : Pm) (ds : List D) (h : Hm) : R :=
  match ds with
  | [x] => match p with
    | .neg => opNeg x h | .len => opLen x h | .abs => opAbs x h | .maxl => opMaxl x h | .minl => opMinl x h | .suml => opSum x h | .sorted => opSorted x h
    | .revl => opRevl x h | .alll => opAll x h | .anyl => opAny x h | .rangel => opRangel x h | .sumrg => opSumrg x h | .list => opList x h | .tuple => opTuple x h | .int => opInt x h | .str => opStr x h | .pop => opPop x h | .reverse => opReverse x h | .clear => opClear x h
    | .unp => opTuple x h | .part => opPart x h | .isint => isKind kInt x h | .isbool => isKind kBool x h | .isstr => isKind kStr x h | .isnone => isKind kNone x h | .istup => isKind kTup x h | .islist => isKind (kList h) x h | .isseq => isKind (kSeq h) x h
    | _ => .bad
  | [x, y] => match p with
    | .add => opAdd x y h | .sub => opSub x y h | .mul => opMul x y h | .fdiv => opFdiv x y h | .mod => opMod x y h | .pow => opPow x y h
    | .eq => opEq x y h | .ne => opNe x y h | .lt => opCmp (fun i j => decide (i < j)) qLt x y h | .le => opCmp (fun i j => decide (i ≤ j)) qLe x y h
    | .gt => opCmp (fun i j => decide (j < i)) qGt x y h | .ge => opCmp (fun i j => decide (j ≤ i)) qGe x y h
    | .is => opIs x y h | .isnot => opIsnot x y h | .isin => opIn x y h | .notin => opNotin x y h
    | .max2 => opMax2 x y h | .min2 => opMin2 x y h | .idx => opIdx x y h | .append => opAppend x y h | .popat => opPopat x y h | .count => opCount x y h
    | .extend => opExtend x y h | .index => opIndex x y h | .maxd => opMaxd x y h | .sortr => opSortr x y h
    | _ => .bad
  | [x, y, z] => match p with
    | .slice => opSlice x y z h | .insert => opInsert x y z h | .setix => opSetix x y z h
    | _ => .bad
  | _ => .bad

/-- x op= y: whole numbers and texts alone -/
def evAug (p : Pm) (x y : D) (h : Hm) : R := match p, x, y with
  | .add, .int i, .int j => .ok (.int (i + j)) h
  | .add, .str a, .str b => opAdd (.str a) (.str b) h
  | .sub, .int i, .int j => .ok (.int (i - j)) h
  | .mul, .int i, .int j => opMul (.int i) (.int j) h
  | .fdiv, .int i, .int j => if 0 < j ∧ j < 1073741824 then .ok (.int (i / j)) h else .bad
  | .mod, .int i, .int j => if 0 < j then .ok (.int (i % j)) h else .bad
  | _, _, _ => .bad
/-- the item of a list -/
def opGet (x y : D) (h : Hm) : R := match lstOf h x, y with
  | some xs, .int i => match atD xs i with
    | some d => .ok d h
    | none => .bad
  | _, _ => .bad
/-- may this be the receiver of such a method? -/
def recvOk (p : Pm) (x : D) (h : Hm) : Bool := match p with
  | .count => (listOf h x).isSome
  | _ => (lstOf h x).isSome
def truth (h : Hm) : D → Option Bool
  | .non => some false
  | .bl b => some b
  | .int i => some (decide (i ≠ 0))
  | .str s => if s.length ≤ sizeLine then some (decide (s.length ≠ 0)) else none
  | .tup xs => some (!xs.isEmpty)
  | .ro xs => some (!xs.isEmpty)
  | .ref k => match h[k]? with
    | some (.lst xs) => some (!xs.isEmpty)
    | _ => none
  | .xv .. => none

/-! ### the small language -/
inductive Tg where
  | name (i : Nat) | tup2 (i j : Nat) | tup3 (i j k : Nat) | tup4 (i j k l : Nat)
inductive Src where
  | plain | range1 | range2 | range3 | enum | zip | rev
inductive E where
  | var (i : Nat) | lit (d : D) | prim (p : Pm) (args : E) | meth (p : Pm) (o args : E) | call (f : Nat) (args : E) | callD (f : Nat) (args : E) (dl : List D)
  | nil | cons (a r : E) | app (a b : E) | tup (args : E) | lst (args : E)
  | and (a b : E) | or (a b : E) | not (a : E) | ite (c a b : E) | chain (p q : Pm) (a b c : E)
  | comp (own : List Nat) (src : Src) (args : E) (tg : Tg) (cond : E) (elt : E)
  | xis (i : Nat) (cs : List Str)
  | xfld (i : Nat) (f : Str)
  | lenset (own : List Nat) (src : Src) (args : E) (tg : Tg) (cond elt : E)
  | fld (a : E) (f : Str) | new (c : Str) (F : List Str) (i : Nat) (args : E) | mcall (c m : Str) (i : Nat) (o args : E) | lenc (c : Str) (i : Nat) (o : E)
inductive S where
  | skip | seq (a b : S) | set (tg : Tg) (e : E) | setix (o i e : E) | setfld (o : E) (f : Str) (e : E) | aug (p : Pm) (x : Nat) (e : E) | augix (p : Pm) (o i e : E)
  | expr (e : E) | ret (e : E) | retn | ite (c : E) (a b : S) | loop (src : Src) (args : E) (tg : Tg) (body : S) | while (c : E) (body : S)
  | brk | cont | raise (c : Str) (fs : List Str) (args : E)
  | try (body : S) (hs : S) | hnil | hcons (c : Str) (slot : Option Nat) (suite : S) (rest : S)
inductive O where
  | nx (ρ : Env') (h : Hm) | rt (d : D) (h : Hm) | bk (ρ : Env') (h : Hm) | ct (ρ : Env') (h : Hm) | ex (x : Exn) (ρ : Env') (h : Hm) | bad

def setT (tg : Tg) (d : D) (ρ : Env') : Option Env' := match tg, d with
  | .name i, d => some (ρ.set i (some d))
  | .tup2 i j, .tup [a, b] => some ((ρ.set i (some a)).set j (some b))
  | .tup3 i j k, .tup [a, b, c] => some (((ρ.set i (some a)).set j (some b)).set k (some c))
  | .tup4 i j k l, .tup [a, b, c, d] => some ((((ρ.set i (some a)).set j (some b)).set k (some c)).set l (some d))
  | _, _ => none
def wipeE (ρ : Env') : List Nat → Env'
  | [] => ρ
  | v :: vs => (wipeE ρ vs).set v none
/-- the lists that a walk must find unchanged -/
abbrev Gd := List (Nat × List D)
def gdOk (g : Gd) (h : Hm) : Bool := g.all fun p => match h[p.1]? with
  | some (.lst xs) => D.beqs xs p.2
  | _ => false
def gdOf : D → List D → Gd
  | .ref k, xs => [(k, xs)]
  | _, _ => []
def enumD : Nat → List D → List D
  | _, [] => []
  | i, x :: r => .tup [.int i, x] :: enumD (i + 1) r
def zipD : List D → List D → List D
  | a :: r, b :: s => .tup [a, b] :: zipD r s
  | _, _ => []
def srcPlain (h : Hm) : List D → Option (List D × Gd)
  | [x] => (listOf h x).map fun xs => (xs, gdOf x xs)
  | _ => none
def srcR1 : List D → Option (List D × Gd)
  | [.int n] => if small n = true then some (rangeD 0 1 n.toNat, []) else none
  | _ => none
def srcR2 : List D → Option (List D × Gd)
  | [.int a, .int b] => if small a = true ∧ small b = true then some (rangeD a 1 (b - a).toNat, []) else none
  | _ => none
def srcR3 : List D → Option (List D × Gd)
  | [.int a, .int b, .int c] => if c ≠ 0 ∧ c.natAbs < 1073741824 ∧ Builtin.Range.small a b c = true ∧ 0 ≤ Builtin.Range.rangeSize a b c then some (rangeD a c (Builtin.Range.rangeSize a b c).toNat, []) else none
  | _ => none
def isTupD : D → Bool
  | .tup _ => true
  | _ => false
def srcEnum (h : Hm) : List D → Option (List D × Gd)
  | [x] => (listOf h x).map fun xs => (enumD 0 xs, gdOf x xs)
  | _ => none
def srcZip (h : Hm) : List D → Option (List D × Gd)
  | [x, y] => match listOf h x, listOf h y with
    | some xs, some ys => some (zipD xs ys, gdOf x xs ++ gdOf y ys)
    | _, _ => none
  | _ => none
def srcRev (h : Hm) : List D → Option (List D × Gd)
  | [x] => (listOf h x).map fun xs => (xs.reverse, gdOf x xs)
  | _ => none
def evSrc (s : Src) (ds : List D) (h : Hm) : Option (List D × Gd) := match s with
  | .plain => srcPlain h ds
  | .range1 => srcR1 ds
  | .range2 => srcR2 ds
  | .range3 => srcR3 ds
  | .enum => srcEnum h ds
  | .zip => srcZip h ds
  | .rev => srcRev h ds

/-- an instance's attribute -/
def opFld (f : Str) (x : D) (h : Hm) : R := match x with
  | .ref k => match h[k]? with
    | some (.ins _ F fs) => if F.contains f = true then match fs.lookup f with
      | some d => .ok d h
      | none => .bad else .bad
    | _ => .bad
  | _ => .bad
/-- an instance of the class that has no attribute m of its own -/
def isIns (c m : Str) (x : D) (h : Hm) : Bool := match x with
  | .ref k => match h[k]? with
    | some (.ins c' _ fs) => c' == c && (fs.lookup m).isNone
    | _ => false
  | _ => false
def putD (f : Str) (d : D) : List (Str × D) → List (Str × D)
  | [] => [(f, d)]
  | (g, e) :: r => if g = f then (g, d) :: r else (g, e) :: putD f d r
def opSetfld (x : D) (f : Str) (d : D) (h : Hm) : R := match x with
  | .ref k => match h[k]? with
    | some (.ins c F fs) => if F.contains f = true ∧ fs.length < 900 then .ok .non (h.set k (.ins c F (putD f d fs))) else .bad
    | _ => .bad
  | _ => .bad
/-- no exception is to leave here -/
def noEx (r : R) : R := match r with
  | .exn .. => .bad
  | r => r
/-- what __init__ must leave -/
def newEnd (n : Nat) (r : R) : R := r.bind fun d h => match d with
  | .non => .ok (.ref n) h
  | _ => .bad
/-- what __len__ must tell -/
def lenEnd (r : R) : R := (noEx r).bind fun d h => match d with
  | .int n => if 0 ≤ n ∧ n < 1073741824 then .ok (.int n) h else .bad
  | _ => .bad
/-- the items one after another, made into the list at cell n -/
def compL (g : Gd) (tg : Tg) (ρ : Env') (cond elt : Env' → Hm → R) (n : Nat) : List D → Hm → R
  | [], h => if gdOk g h = true then .ok (.ref n) h else .bad
  | x :: xs, h => if gdOk g h = true then
      match setT tg x ρ with
      | none => .bad
      | some ρ1 => match cond ρ1 h with
        | .ok c h1 => match truth h1 c with
          | some true => match elt ρ1 h1 with
            | .ok y h2 => match h2[n]? with
              | some (.lst acc) => if acc.length < sizeLine then compL g tg ρ cond elt n xs (h2.set n (.lst (acc ++ [y]))) else .bad
              | _ => .bad
            | _ => .bad
          | some false => compL g tg ρ cond elt n xs h1
          | none => .bad
        | _ => .bad
    else .bad
def addI (y : Int) (acc : List Int) : List Int := if y ∈ acc then acc else acc ++ [y]
/-- the items one after another, into the set at cell n; then how many it has -/
def setL (g : Gd) (tg : Tg) (ρ : Env') (cond elt : Env' → Hm → R) (n : Nat) : List D → Hm → R
  | [], h => if gdOk g h = true then match h[n]? with
      | some (.set acc) => .ok (.int acc.length) h
      | _ => .bad else .bad
  | x :: xs, h => if gdOk g h = true then
      match setT tg x ρ with
      | none => .bad
      | some ρ1 => match cond ρ1 h with
        | .ok c h1 => match truth h1 c with
          | some true => match elt ρ1 h1 with
            | .ok (.int y) h2 => match h2[n]? with
              | some (.set acc) => if acc.length < 1000 then setL g tg ρ cond elt n xs (h2.set n (.set (addI y acc))) else .bad
              | _ => .bad
            | _ => .bad
          | some false => setL g tg ρ cond elt n xs h1
          | none => .bad
        | _ => .bad
    else .bad
def argsOf : R → Option (List D × Hm)
  | .ok (.tup xs) h => some (xs, h)
  | _ => none

section
variable (call : Nat → List D → Hm → R)
def evE : E → Env' → Hm → R
  | .var i, ρ, h => match ρ[i]? with
    | some (some d) => .ok d h
    | _ => .bad
  | .lit d, _, h => .ok d h
  | .nil, _, h => .ok (.tup []) h
  | .cons a r, ρ, h => (evE a ρ h).bind fun d h1 => (evE r ρ h1).bind fun ds h2 => match ds with
    | .tup xs => .ok (.tup (d :: xs)) h2
    | _ => .bad
  | .app a b, ρ, h => (evE a ρ h).bind fun ds h1 => match ds with
    | .tup xs => (evE b ρ h1).bind fun es h2 => match es with
      | .tup ys => .ok (.tup (xs ++ ys)) h2
      | _ => .bad
    | _ => .bad
  | .prim p args, ρ, h => (evE args ρ h).bind fun ds h1 => match ds with
    | .tup xs => evP p xs h1
    | _ => .bad
  | .meth p o args, ρ, h => (evE o ρ h).bind fun x h1 => if recvOk p x h1 = true then (evE args ρ h1).bind fun ds h2 => match ds with
    | .tup xs => evP p (x :: xs) h2
    | _ => .bad else .bad
  | .call f args, ρ, h => (evE args ρ h).bind fun ds h1 => match ds with
    | .tup xs => call f xs h1
    | _ => .bad
  | .callD f args dl, ρ, h => (evE args ρ h).bind fun ds h1 => match ds with
    | .tup xs => call f (xs ++ dl) h1
    | _ => .bad
  | .tup args, ρ, h => (evE args ρ h).bind fun ds h1 => match ds with
    | .tup xs => mkt xs h1
    | _ => .bad
  | .lst args, ρ, h => (evE args ρ h).bind fun ds h1 => match ds with
    | .tup xs => mkl xs h1
    | _ => .bad
  | .and a b, ρ, h => (evE a ρ h).bind fun d h1 => match truth h1 d with
    | some true => evE b ρ h1
    | some false => .ok d h1
    | none => .bad
  | .or a b, ρ, h => (evE a ρ h).bind fun d h1 => match truth h1 d with
    | some true => .ok d h1
    | some false => evE b ρ h1
    | none => .bad
  | .not a, ρ, h => (evE a ρ h).bind fun d h1 => match truth h1 d with
    | some b => .ok (.bl (!b)) h1
    | none => .bad
  | .ite c a b, ρ, h => (evE c ρ h).bind fun d h1 => match truth h1 d with
    | some true => evE a ρ h1
    | some false => evE b ρ h1
    | none => .bad
  | .chain p q a b c, ρ, h => (evE a ρ h).bind fun x h1 => (evE b ρ h1).bind fun y h2 => (evP p [x, y] h2).bind fun k h3 => match k with
    | .bl true => (evE c ρ h3).bind fun z h4 => evP q [y, z] h4
    | .bl false => .ok (.bl false) h3
    | _ => .bad
  | .comp own src args tg cond elt, ρ, h => (evE args ρ h).bind fun ds h1 => match ds with
    | .tup xs => match evSrc src xs h1 with
      | some (items, g) => compL g tg (wipeE ρ own) (evE cond) (evE elt) h1.length items (h1 ++ [.lst []])
      | none => .bad
    | _ => .bad
  | .lenset own src args tg cond elt, ρ, h => (evE args ρ h).bind fun ds h1 => match ds with
    | .tup xs => match evSrc src xs h1 with
      | some (items, g) => setL g tg (wipeE ρ own) (evE cond) (evE elt) h1.length items (h1 ++ [.set []])
      | none => .bad
    | _ => .bad
  | .xis i cs, ρ, h => match ρ[i]? with
    | some (some (.xv c _ _)) => .ok (.bl (cs.contains c)) h
    | _ => .bad
  | .xfld i f, ρ, h => match ρ[i]? with
    | some (some (.xv _ fs ds)) => match (fs.zip ds).lookup f with
      | some d => .ok d h
      | none => .bad
    | _ => .bad
  | .fld a f, ρ, h => (evE a ρ h).bind fun x h1 => opFld f x h1
  | .new c F i args, ρ, h => (evE args ρ h).bind fun ds h1 => match ds with
    | .tup xs => newEnd h1.length (call i (.ref h1.length :: xs) (h1 ++ [.ins c F []]))
    | _ => .bad
  | .mcall c m i o args, ρ, h => (evE o ρ h).bind fun x h1 => if isIns c m x h1 = true then (evE args ρ h1).bind fun ds h2 => match ds with
    | .tup xs => noEx (call i (x :: xs) h2)
    | _ => .bad else .bad
  | .lenc c i o, ρ, h => (evE o ρ h).bind fun x h1 => if isIns c "__len__" x h1 = true then lenEnd (call i [x] h1) else .bad

/-- the items one after another through a body -/
def forL (g : Gd) (tg : Tg) (body : Env' → Hm → O) : List D → Env' → Hm → O
  | [], ρ, h => if gdOk g h = true then .nx ρ h else .bad
  | x :: xs, ρ, h => if gdOk g h = true then
      match setT tg x ρ with
      | none => .bad
      | some ρ1 => match body ρ1 h with
        | .nx ρ2 h2 => forL g tg body xs ρ2 h2
        | .ct ρ2 h2 => forL g tg body xs ρ2 h2
        | .bk ρ2 h2 => .nx ρ2 h2
        | .rt d h2 => .rt d h2
        | .ex x ρ2 h2 => .ex x ρ2 h2
        | .bad => .bad
    else .bad
def whileL (c : Env' → Hm → R) (body : Env' → Hm → O) : Nat → Env' → Hm → O
  | 0, _, _ => .bad
  | n + 1, ρ, h => match c ρ h with
    | .ok d h1 => match truth h1 d with
      | some true => match body ρ h1 with
        | .nx ρ2 h2 => whileL c body n ρ2 h2
        | .ct ρ2 h2 => whileL c body n ρ2 h2
        | .bk ρ2 h2 => .nx ρ2 h2
        | .rt d h2 => .rt d h2
        | .ex x ρ2 h2 => .ex x ρ2 h2
        | .bad => .bad
      | some false => .nx ρ h1
      | none => .bad
    | .exn x h1 => .ex x ρ h1
    | .bad => .bad
/-- an expression's end, as a statement's -/
def R.to (r : R) (ρ : Env') (f : D → Hm → O) : O := match r with
  | .ok d h => f d h
  | .exn x h => .ex x ρ h
  | .bad => .bad
@[simp] theorem R.to_ok {d h ρ f} : (R.ok d h).to ρ f = f d h := rfl
@[simp] theorem R.to_exn {x h ρ f} : (R.exn x h).to ρ f = .ex x ρ h := rfl
@[simp] theorem R.to_bad {ρ f} : R.bad.to ρ f = .bad := rfl
variable (w : Nat)
variable (sub : Str → Str → Bool)
mutual
def evS : S → Env' → Hm → O
  | .skip, ρ, h => .nx ρ h
  | .seq a b, ρ, h => match evS a ρ h with
    | .nx ρ1 h1 => evS b ρ1 h1
    | o => o
  | .set tg e, ρ, h => (evE call e ρ h).to ρ fun d h1 => match setT tg d ρ with
    | some ρ1 => .nx ρ1 h1
    | none => .bad
  | .setix o i e, ρ, h => (evE call e ρ h).to ρ fun d h1 => (evE call o ρ h1).to ρ fun x h2 => (evE call i ρ h2).to ρ fun k h3 => (opSetix x k d h3).to ρ fun _ h4 => .nx ρ h4
  | .setfld o f e, ρ, h => (evE call e ρ h).to ρ fun d h1 => (evE call o ρ h1).to ρ fun x h2 => (opSetfld x f d h2).to ρ fun _ h3 => .nx ρ h3
  | .aug p x e, ρ, h => match ρ[x]? with
    | some (some a) => (evE call e ρ h).to ρ fun d h1 => (evAug p a d h1).to ρ fun r h2 => .nx (ρ.set x (some r)) h2
    | _ => .bad
  | .augix p o i e, ρ, h => (evE call o ρ h).to ρ fun x h1 => (evE call i ρ h1).to ρ fun k h2 => (opGet x k h2).to ρ fun a h3 => (evE call e ρ h3).to ρ fun d h4 =>
      (evAug p a d h4).to ρ fun r h5 => (opSetix x k r h5).to ρ fun _ h6 => .nx ρ h6
  | .expr e, ρ, h => (evE call e ρ h).to ρ fun _ h1 => .nx ρ h1
  | .ret e, ρ, h => (evE call e ρ h).to ρ fun d h1 => .rt d h1
  | .retn, _, h => .rt .non h
  | .ite c a b, ρ, h => (evE call c ρ h).to ρ fun d h1 => match truth h1 d with
    | some true => evS a ρ h1
    | some false => evS b ρ h1
    | none => .bad
  | .loop src args tg body, ρ, h => (evE call args ρ h).to ρ fun ds h1 => match ds with
    | .tup xs => match evSrc src xs h1 with
      | some (items, g) => forL g tg (evS body) items ρ h1
      | none => .bad
    | _ => .bad
  | .while c body, ρ, h => whileL (evE call c) (evS body) w ρ h
  | .brk, ρ, h => .bk ρ h
  | .cont, ρ, h => .ct ρ h
  | .raise c fs args, ρ, h => (evE call args ρ h).to ρ fun ds h1 => match ds with
    | .tup xs => if xs.length = fs.length then .ex ⟨c, fs, xs⟩ ρ h1 else .bad
    | _ => .bad
  | .try body hs, ρ, h => match evS body ρ h with
    | .ex x ρ1 h1 => evH hs x ρ1 h1
    | o => o
  | .hnil, _, _ => .bad
  | .hcons _ _ _ _, _, _ => .bad
def evH : S → Exn → Env' → Hm → O
  | .hnil, x, ρ, h => .ex x ρ h
  | .hcons c slot suite rest, x, ρ, h => if sub x.cls c = true then
      match slot with
      | none => match evS suite ρ h with
        | .ex .. => .bad
        | o => o
      | some i => if i < ρ.length then match evS suite (ρ.set i (some (.xv x.cls x.fs x.ds))) h with
        | .nx ρ1 h1 => .nx (ρ1.set i none) h1
        | .bk ρ1 h1 => .bk (ρ1.set i none) h1
        | .ct ρ1 h1 => .ct (ρ1.set i none) h1
        | .rt d h1 => .rt d h1
        | _ => .bad
        else .bad
    else evH rest x ρ h
  | _, _, _, _ => .bad
end
end

/-- a def -/
structure Fn where
  arity : Nat
  slots : Nat
  body : S
/-- the exception classes: each with what it stands under (itself too) -/
structure Pg where
  fns : List Fn
  subs : List (Str × List Str)
def Pg.sub (P : Pg) (x c : Str) : Bool := match P.subs.lookup x with
  | some l => l.contains c
  | none => false
def endO : O → R
  | .nx _ h => .ok .non h
  | .rt d h => .ok d h
  | .ex x _ h => .exn x h
  | _ => .bad
def callF (P : Pg) (w : Nat) : Nat → Nat → List D → Hm → R
  | 0, _, _, _ => .bad
  | k + 1, f, ds, h => match P.fns[f]? with
    | some fn => if ds.length = fn.arity then endO (evS (callF P w k) w P.sub fn.body (ds.map some ++ List.replicate (fn.slots - fn.arity) none) h) else .bad
    | none => .bad
end Z

set_option Elab.async false
set_option linter.all false
set_option maxRecDepth 100000
set_option maxHeartbeats 4000000
namespace Z
open PySem PySem.Spec PyProof.Rows L2

theorem pe_imp {X : Cx} {e : Expr} {t t' : TE} (h : PE X e t) (k : ∀ σ H Q, t' σ H Q → t σ H Q) : PE X e t' := ⟨fun pins s σ H Q I q => h.run pins s σ H Q I (k _ _ _ q)⟩
theorem OpR.or {X : Cx} {f : Value → Value → Sem Value} {r r' : R2} (h : OpR X f r) (h' : OpR X f r') : OpR X f (fun x y H Q => r x y H Q ∨ r' x y H Q) := by
  intro pins s σ H x y v u Q I rx ry q
  rcases q with q | q
  · exact h pins s σ H x y v u Q I rx ry q
  · exact h' pins s σ H x y v u Q I rx ry q

/-! ### readings by evaluations -/
section
variable {G : Gx} {W : WX}
/-- a value is there, and what follows is an evaluation -/
def Aft (G : Gx) (W : WX) (n : Nat) (f : List D → Hm → R) (vs : List V) (H : Hp) (Q : VK) : Prop :=
  ∃ σ π h ds, HmOk G H π h ∧ Reps G H π ds vs ∧ ds.length = n ∧ Post G W σ H π (f ds h) fun _ _ v H' _ => Q v H'
theorem TEv.one {ea : Env' → Hm → R} {f : D → Hm → R} {σ : L2.St} {H : Hp} {Q : VK} (t : TEv G W (fun ρ h => (ea ρ h).bind f) σ H Q) :
    TEv G W ea σ H fun vx H1 => ∃ π h x, HmOk G H1 π h ∧ Rep G H1 π x vx ∧ Post G W σ H1 π (f x h) fun _ _ v H' _ => Q v H' := by
  obtain ⟨ρ, π, h, E, M, P⟩ := t
  exact ⟨ρ, π, h, E, M, P.bind.imp fun d h1 v H1 π1 _ _ _ M1 R1 p1 => ⟨π1, h1, d, M1, R1, p1⟩⟩
theorem TEv.oneE {ea : Env' → Hm → R} {f : Env' → D → Hm → R} {σ : L2.St} {H : Hp} {Q : VK} (t : TEv G W (fun ρ h => (ea ρ h).bind (f ρ)) σ H Q) :
    TEv G W ea σ H fun vx H1 => ∃ ρ π h x, EnvOk G H1 π ρ σ ∧ HmOk G H1 π h ∧ Rep G H1 π x vx ∧ Post G W σ H1 π (f ρ x h) fun _ _ v H' _ => Q v H' := by
  obtain ⟨ρ, π, h, E, M, P⟩ := t
  exact ⟨ρ, π, h, E, M, P.bind.imp fun d h1 v H1 π1 _ e p M1 R1 p1 => ⟨ρ, π1, h1, d, E.mono e p, M1, R1, p1⟩⟩
theorem TEv.two {ea eb : Env' → Hm → R} {f : D → D → Hm → R} {σ : L2.St} {H : Hp} {Q : VK} (t : TEv G W (fun ρ h => (ea ρ h).bind fun x h1 => (eb ρ h1).bind fun y h2 => f x y h2) σ H Q) :
    TEv G W ea σ H fun vx H1 => TEv G W eb σ H1 fun vy H2 => ∃ π h x y, HmOk G H2 π h ∧ Rep G H2 π x vx ∧ Rep G H2 π y vy ∧ Post G W σ H2 π (f x y h) fun _ _ v H' _ => Q v H' := by
  obtain ⟨ρ, π, h, E, M, P⟩ := t
  exact ⟨ρ, π, h, E, M, P.bind.imp fun d h1 v H1 π1 _ e p M1 R1 p1 => ⟨ρ, π1, h1, E.mono e p, M1, p1.bind.imp fun d2 h2 v2 H2 π2 _ e2 p2 M2 R2 q2 => ⟨π2, h2, d, d2, M2, R1.mono e2 p2, R2, q2⟩⟩⟩
/-- two values, then an operation -/
def rA2 (G : Gx) (W : WX) (f : D → D → Hm → R) : R2 := fun vx vy H Q => ∃ σ π h x y, HmOk G H π h ∧ Rep G H π x vx ∧ Rep G H π y vy ∧ Post G W σ H π (f x y h) fun _ _ v H' _ => Q v H'
def rA1 (G : Gx) (W : WX) (f : D → Hm → R) : V → Hp → VK → Prop := fun vx H Q => ∃ σ π h x, HmOk G H π h ∧ Rep G H π x vx ∧ Post G W σ H π (f x h) fun _ _ v H' _ => Q v H'
/-- a call's arguments, then an operation -/
def rAn (G : Gx) (W : WX) (f : List D → Hm → R) : List V → Hp → VK → Prop := fun vs H Q => ∃ σ π h ds, HmOk G H π h ∧ Reps G H π ds vs ∧ Post G W σ H π (f ds h) fun _ _ v H' _ => Q v H'
theorem post_pure {σ : L2.St} {H : Hp} {π : List Addr} {h : Hm} {d : D} {Q : VK} {v : V} (M : HmOk G H π h) (r : Rep G H π d v) (P : Post G W σ H π (.ok d h) fun _ _ v H' _ => Q v H') : Q v H :=
  P v H π .refl (List.prefix_refl _) M r

/-- the list of a datum, as its value is -/
theorem listOf_ok {H : Hp} {π : List Addr} {h : Hm} {x : D} {v : V} {xs : List D} (M : HmOk G H π h) (r : Rep G H π x v) (e : listOf h x = some xs) :
    ∃ a vs, v = .ref a ∧ Reps G H π xs vs ∧ ((x = .tup xs ∧ TupF G.K H a vs) ∨ (RoL G.K H a vs ∧ x = .ro xs) ∨ (∃ n, x = .ref n ∧ h[n]? = some (.lst xs) ∧ π[n]? = some a ∧ H a = some (.lst vs))) := by
  cases r with
  | tup t rs => simp only [listOf, Option.some.injEq] at e; subst e; exact ⟨_, _, rfl, rs, .inl ⟨rfl, t⟩⟩
  | ro t rs => simp only [listOf, Option.some.injEq] at e; subst e; exact ⟨_, _, rfl, rs, .inr (.inl ⟨t, rfl⟩)⟩
  | @ref n a hp =>
    simp only [listOf] at e
    split at e
    · rename_i xs' hn
      simp only [Option.some.injEq] at e
      subst e
      obtain ⟨a', vs, e1, e2, e3, e4⟩ := M.lst hn (.ref hp)
      cases e1
      exact ⟨_, vs, rfl, e4, .inr (.inr ⟨n, rfl, hn, hp, e3⟩)⟩
    · cases e
  | _ => simp [listOf] at e
theorem listOf_sq {H : Hp} {π : List Addr} {h : Hm} {x : D} {v : V} {xs : List D} (M : HmOk G H π h) (r : Rep G H π x v) (e : listOf h x = some xs) :
    ∃ a vs, v = .ref a ∧ Reps G H π xs vs ∧ (SqL G.K H a vs ∨ SqT G.K H a vs) := by
  obtain ⟨a, vs, e1, e2, e3⟩ := listOf_ok M r e
  refine ⟨a, vs, e1, e2, ?_⟩
  rcases e3 with ⟨_, t⟩ | ⟨t, _⟩ | ⟨n, _, _, _, t⟩
  · exact .inr t.sqT
  · exact .inl t.sq
  · exact .inl (.of t)
theorem intsOf_eq : ∀ {xs : List D} {ns : List Int}, intsOf xs = some ns → xs = ns.map .int
  | [], ns, e => by simp [intsOf] at e; subst e; rfl
  | x :: r, ns, e => by
    cases x <;> simp only [intsOf, reduceCtorEq] at e
    rename_i i
    cases q : intsOf r with
    | none => rw [q] at e; cases e
    | some ms => rw [q] at e; simp at e; subst e; rw [intsOf_eq q]; rfl
@[simp] theorem intsOf_map (ns : List Int) : intsOf (ns.map .int) = some ns := by
  induction ns with
  | nil => rfl
  | cons a r ih => simp [intsOf, ih]

/-- a new list is made: what stands behind it -/
theorem post_new {σ : L2.St} {H : Hp} {π : List Addr} {h : Hm} {ds : List D} {vs : List V} {Q : VK} {p : Addr} (M : HmOk G H π h) (r : Reps G H π ds vs) (hp : H p = none)
    (P : Post G W σ H π (.ok (.ref h.length) (h ++ [.lst ds])) fun _ _ v H' _ => Q v H') : Q (.ref p) (upd H p (.lst vs)) := by
  refine P _ _ (π ++ [p]) (.new hp) (List.prefix_append _ _) (M.push hp ⟨vs, rfl, r⟩) (.ref ?_)
  rw [List.getElem?_append_right (by rw [M.len]; exact Nat.le_refl _), M.len]; simp
theorem post_mkl {σ : L2.St} {H : Hp} {π : List Addr} {h : Hm} {ds : List D} {vs : List V} {Q : VK} (M : HmOk G H π h) (r : Reps G H π ds vs)
    (P : Post G W σ H π (mkl ds h) fun _ _ v H' _ => Q v H') : vs.length ≤ sizeLine ∧ ∀ p, H p = none → Q (.ref p) (upd H p (.lst vs)) := by
  unfold mkl at P
  split at P
  · rename_i hz
    exact ⟨by rw [← r.length]; exact hz, fun p hp => post_new M r hp P⟩
  · exact P.elim
/-- a new tuple is made -/
theorem post_tup {σ : L2.St} {H : Hp} {π : List Addr} {h : Hm} {ds : List D} {vs : List V} {Q : VK} {p : Addr} {o : Obj} (M : HmOk G H π h) (r : Reps G H π ds vs) (hp : H p = none) (hc : o.cls = .type "tuple") (hd : o.dict = none)
    (P : Post G W σ H π (.ok (.tup ds) h) fun _ _ v H' _ => Q v H') : Q (.ref p) (upd H p (.frz o (.tup vs))) :=
  P _ _ π (.new hp) (List.prefix_refl _) (M.ext_new hp) (.tup (.inl ⟨o, upd_same, hc, hd⟩) (r.mono (.new hp) (List.prefix_refl _)))
theorem post_set {σ : L2.St} {H : Hp} {π : List Addr} {h : Hm} {ds : List D} {us vs : List V} {Q : VK} {n : Nat} {a : Addr} {d : D} {v : V} (M : HmOk G H π h) (hn : π[n]? = some a) (ha : H a = some (.lst us)) (r : Reps G H π ds vs) (rd : Rep G H π d v)
    (P : Post G W σ H π (.ok d (h.set n (.lst ds))) fun _ _ v H' _ => Q v H') : Q v (upd H a (.lst vs)) :=
  P _ _ π (.lst ha) (List.prefix_refl _) (M.setl hn ha r) (rd.mono (.lst ha) (List.prefix_refl _))
end

/-! ### the operators -/
section
variable {X : Cx} {G : Gx} {W : WX}
theorem rep_int {H : Hp} {π : List Addr} {i : Int} {v : V} (r : Rep G H π (.int i) v) : v = .int i := by cases r; rfl
theorem rep_str {H : Hp} {π : List Addr} {i : Str} {v : V} (r : Rep G H π (.str i) v) : v = .str i := by cases r; rfl
theorem rep_bl {H : Hp} {π : List Addr} {i : Bool} {v : V} (r : Rep G H π (.bl i) v) : v = .bl i := by cases r; rfl
theorem rep_tup {H : Hp} {π : List Addr} {ds : List D} {v : V} (r : Rep G H π (.tup ds) v) : ∃ a vs, v = .ref a ∧ TupF G.K H a vs ∧ Reps G H π ds vs := by cases r with | tup t rs => exact ⟨_, _, rfl, t, rs⟩
/-- an operation of ints alone -/
theorem z_ii {f : Value → Value → Sem Value} {r : R2} {g : D → D → Hm → R} (ho : OpR X f r)
    (hg : ∀ x y h, (∀ i j, x = .int i → y = .int j → False) → g x y h = .bad)
    (hr : ∀ σ π H h i j Q, HmOk G H π h → Post G W σ H π (g (.int i) (.int j) h) (fun _ _ v H' _ => Q v H') → r (.int i) (.int j) H Q) : OpR X f (rA2 G W g) := by
  intro pins s σ H x y v u Q I rx ry ⟨σ', π, h, dx, dy, M, Rx, Ry, P⟩
  by_cases hx : ∃ i j, dx = .int i ∧ dy = .int j
  · obtain ⟨i, j, rfl, rfl⟩ := hx
    cases rep_int Rx; cases rep_int Ry
    exact ho pins s σ H _ _ v u Q I rx ry (hr σ' π H h i j Q M P)
  · rw [hg _ _ _ fun i j e1 e2 => hx ⟨i, j, e1, e2⟩] at P
    exact P.elim
theorem z_sub : OpR X (binaryOp .Sub) (rA2 G W opSub) := z_ii op_sub (fun x y h k => by unfold opSub; split <;> first | rfl | exact (k _ _ rfl rfl).elim)
  fun σ π H h i j Q M P => ⟨i, j, rfl, rfl, post_pure M (.int _) P⟩
theorem z_pow : OpR X (binaryOp .Pow) (rA2 G W opPow) := z_ii op_pow (fun x y h k => by unfold opPow; split <;> first | rfl | exact (k _ _ rfl rfl).elim)
  fun σ π H h i j Q M P => by
    simp only [opPow] at P
    split at P
    · rename_i hc; exact ⟨i, j, rfl, rfl, hc, post_pure M (.int _) P⟩
    · exact P.elim
theorem z_mod : OpR X (binaryOp .Mod) (rA2 G W opMod) := z_ii (OpR.or op_mod op_modN) (fun x y h k => by unfold opMod; split <;> first | rfl | exact (k _ _ rfl rfl).elim)
  fun σ π H h i j Q M P => by
    simp only [opMod] at P
    split at P
    · rename_i hc; exact .inl ⟨i, j, rfl, rfl, hc, post_pure M (.int _) P⟩
    · split at P
      · rename_i hc; exact .inr ⟨i, j, rfl, rfl, hc, post_pure M (.int _) P⟩
      · exact P.elim
theorem z_fdiv : OpR X (binaryOp .FloorDiv) (rA2 G W opFdiv) := z_ii (OpR.or (OpR.or op_fdiv op_fdivW) op_fdivN) (fun x y h k => by unfold opFdiv; split <;> first | rfl | exact (k _ _ rfl rfl).elim)
  fun σ π H h i j Q M P => by
    simp only [opFdiv] at P
    split at P
    · rename_i hc; exact .inl (.inl ⟨i, j, rfl, rfl, hc, post_pure M (.int _) P⟩)
    · split at P
      · rename_i hc; exact .inl (.inr ⟨i, j, rfl, rfl, hc, post_pure M (.int _) P⟩)
      · split at P
        · rename_i hc; exact .inr ⟨i, j, rfl, rfl, hc, post_pure M (.int _) P⟩
        · exact P.elim
theorem z_neg : UnR X (unaryOp .USub) (rA1 G W opNeg) := by
  intro pins s σ H x v Q I rx ⟨σ', π, h, dx, M, Rx, P⟩
  cases dx <;> simp only [opNeg] at P <;> first | exact P.elim | skip
  cases rep_int Rx
  exact un_neg pins s σ H _ v Q I rx ⟨_, rfl, post_pure M (.int _) P⟩

/-- tuples joined, the new one known -/
theorem z_catT {pins : List (Addr × Obj)} {s : Shared} {σ : L2.St} {H : Hp} {v u : Value} {Q : VK} {a b : Addr} {xs ys : List V} (I : Inv X pins σ H s) (rx : RelV (.ref a) v) (ry : RelV (.ref b) u) (ha : TupF X.K H a xs) (hb : TupF X.K H b ys)
    (hz : xs.length + ys.length ≤ sizeLine) (q1 : xs = [] → Q (.ref b) H) (q2 : ys = [] → Q (.ref a) H) (q3 : ∀ o p, o.cls = .type "tuple" → o.dict = none → H p = none → Q (.ref p) (upd H p (.frz o (.tup (xs ++ ys))))) :
    wpAny (model X.prog X.w) X.A (binaryOp .Add v u) (EP X pins σ Q) X.xe s := by
  by_cases hx : xs = []
  · subst hx
    exact op_catA pins s σ H _ _ v u Q I rx ry ⟨a, b, [], ys, rfl, rfl, ha.sqT, hb.sqT, hz, q1, fun z => absurd rfl z, fun z => absurd rfl z⟩
  · by_cases hy : ys = []
    · subst hy
      exact op_catA pins s σ H _ _ v u Q I rx ry ⟨a, b, xs, [], rfl, rfl, ha.sqT, hb.sqT, hz, fun z => absurd z hx, fun _ _ => q2 rfl, fun _ z => absurd rfl z⟩
    · cases rx
      cases ry
      obtain ⟨its, r1, p1, _⟩ := I.tuple ha.sqT
      obtain ⟨its2, r2, p2, _⟩ := I.tuple hb.sqT
      refine HT.cat_tup p1 p2 (fun z => hx (r1.nil_iff.mp z)) (fun z => absurd (r2.nil_iff.mp z) hy) (fun z => ?_) (by rw [← r1.length, ← r2.length]; exact hz)
      refine ⟨.ref s.heap.objs.size, _, I.laid (t' := s.toks) (o := .frz _ (.tup (xs ++ ys))) (fun b ob q => Heap.get?_push_of_some _ q) (Nat.le_refl _) ⟨Heap.get?_push_size _ rfl, ?_⟩, rfl, q3 _ _ rfl rfl (I.hok.fresh (Nat.le_refl _))⟩
      exact ⟨by rw [List.length_append]; exact hz, _, r1.append r2, IsTup.new _ _⟩
theorem nil_of {H : Hp} {π : List Addr} {vs : List V} (r : Reps G H π [] vs) : vs = [] := by cases r; rfl
theorem nil_to {H : Hp} {π : List Addr} {ds : List D} (r : Reps G H π ds []) : ds = [] := by cases r; rfl
theorem z_add (hK : G.K = X.K) : OpR X (binaryOp .Add) (rA2 G W opAdd) := by
  intro pins s σ H x y v u Q I rx ry ⟨σ', π, h, dx, dy, M, Rx, Ry, P⟩
  unfold opAdd at P
  split at P
  · cases rep_int Rx; cases rep_int Ry
    exact op_add pins s σ H _ _ v u Q I rx ry ⟨_, _, rfl, rfl, post_pure M (.int _) P⟩
  · split at P
    · rename_i hz
      cases rep_str Rx; cases rep_str Ry
      exact op_add_str pins s σ H _ _ v u Q I rx ry ⟨_, _, rfl, rfl, hz, post_pure M (.str _) P⟩
    · exact P.elim
  · obtain ⟨a, xs, rfl, ta, ra⟩ := rep_tup Rx
    obtain ⟨b, ys, rfl, tb, rb⟩ := rep_tup Ry
    rw [hK] at ta tb
    unfold mkt at P
    split at P
    · rename_i hz
      have rr := ra.append rb
      refine z_catT I rx ry ta tb (by rw [← ra.length, ← rb.length, ← List.length_append]; exact hz) (fun e => ?_) (fun e => ?_) fun o p hc hd hp => post_tup M rr hp hc hd P
      · subst e
        have e' := nil_to ra
        subst e'
        exact post_pure M Ry P
      · subst e
        have e' := nil_to rb
        subst e'
        rw [List.append_nil] at P
        exact post_pure M Rx P
    · exact P.elim
  · split at P
    · rename_i xs ys h1 h2
      obtain ⟨a, vs, rfl, _, ea, ra⟩ := M.lst h1 Rx
      obtain ⟨b, us, rfl, _, eb, rb⟩ := M.lst h2 Ry
      obtain ⟨hz, q⟩ := post_mkl M (ra.append rb) P
      exact op_cat pins s σ H _ _ v u Q I rx ry ⟨a, b, vs, us, rfl, rfl, ea, eb, by rw [← List.length_append]; exact hz, q⟩
    · exact P.elim
  · exact P.elim
theorem rep_flat {H : Hp} {π : List Addr} {d : D} {v : V} (r : Rep G H π d v) (f : d.flat = true) : flatV v = true := by
  cases r <;> first | rfl | (simp [D.flat] at f)
end
end Z

set_option Elab.async false
set_option linter.all false
set_option maxRecDepth 100000
set_option maxHeartbeats 4000000
namespace Z
open PySem PySem.Spec PyProof.Rows L2
theorem tuple_mul1 (l : Addr) (items : Array Value) (n : Nat) (dd : Option Addr) (sl : Array (Option Value)) (u : Tok) :
    Meets (Builtin.«tuple.__mul__» { pos := [.ref l, .int 1 u] }) fun A R s =>
      s.heap.get? l = some { cls := .type "tuple", dict := dd, data := .seq items n, slots := sl } ∧ R (.ok (.ret (.ref l))) s := by
  intro prog w A R s ⟨hg, hr⟩
  show wpAny _ A.in1 (asIndex (.int 1 u) >>= _) _ _ s
  refine wpAny_bind ?_
  show wpAny _ A.in1 (asInt? (.int 1 u) >>= _) _ _ s
  refine wpAny_bind (wpAny_pure (wpAny_pure ?_))
  show wpAny _ A.in1 (Builtin.Tuple.tupleItemsOf (.ref l) >>= _) _ _ s
  refine wpAny_bind ?_
  show wpAny _ A.in1 (seqItems? (.ref l) >>= _) _ _ s
  refine wpAny_bind ?_
  show wpAny _ A.in1 (load l >>= _) _ _ s
  refine wpAny_bind (wpAny_load hg (wpAny_pure (wpAny_pure ?_)))
  rw [if_pos (by simp)]
  show wpAny _ A.in1 (Builtin.Tuple.tupleIsExact (.ref l) >>= _) _ _ s
  refine wpAny_bind ?_
  show wpAny _ A.in1 (typeOf (.ref l) >>= _) _ _ s
  refine wpAny_bind (wpAny_typeOf_ref hg (wpAny_pure ?_))
  show wpAny _ A.in1 (rule _ >>= _) _ _ s
  exact wpAny_bind (wpAny_rule (wpAny_pure hr))
section
variable {G : Gx} {W : WX} {X : Cx}
theorem rep_vals {vs : List V} {us : List Value} (r : Vals vs us) : ∀ n, Vals (List.replicate n vs).flatten (List.replicate n us).flatten
  | 0 => .nil
  | n + 1 => by
    simp only [List.replicate_succ, List.flatten_cons]
    exact r.append (rep_vals r n)
theorem rep_len {α : Type} (xs : List α) : ∀ n, (List.replicate n xs).flatten.length = n * xs.length
  | 0 => by simp
  | n + 1 => by
    simp only [List.replicate_succ, List.flatten_cons, List.length_append, rep_len xs n, Nat.succ_mul]
    omega
/-- a tuple k times -/
theorem z_repT {pins : List (Addr × Obj)} {s : Shared} {σ : L2.St} {H : Hp} {v u : Value} {Q : VK} {a : Addr} {xs : List V} {k : Int} (I : Inv X pins σ H s) (rx : RelV (.ref a) v) (ry : RelV (.int k) u) (ha : TupF X.K H a xs) (hx : xs ≠ []) (k1 : 1 ≤ k) (k2 : k ≤ 1000) (l : xs.length ≤ 1000)
    (q1 : k = 1 → Q (.ref a) H) (q2 : ∀ o p, o.cls = .type "tuple" → o.dict = none → H p = none → Q (.ref p) (upd H p (.frz o (.tup (List.replicate k.toNat xs).flatten)))) :
    wpAny (model X.prog X.w) X.A (binaryOp .Mult v u) (EP X pins σ Q) X.xe s := by
  cases rx
  obtain ⟨t, rfl⟩ := ry
  obtain ⟨its, r1, p1, _⟩ := I.tuple ha.sqT
  obtain ⟨⟨oc, od, odata, osl⟩, hg, hc, n, hd⟩ := p1
  simp only at hc hd
  subst hc
  subst hd
  have hl := r1.length
  have hne : its ≠ [] := fun z => hx (by subst z; exact List.eq_nil_of_length_eq_zero hl)
  have hpos : 1 ≤ its.length := by
    cases its with
    | nil => exact absurd rfl hne
    | cons _ _ => simp
  have ty : s.TypeIs (.ref a) "tuple" := ⟨_, hg, rfl⟩
  refine wpAny_binaryOp_repeat_ref (T := "tuple") (U := "int") (by decide) ty (fun s' => typeIs_int s' k t) noFill_tuple_mul PySem.F.fills_int_mul PySem.F.slot_int_rmul repeat_tuple int_index ?_
  refine call_meets PySem.F.slot_int_rmul (typeIs_int s k t) PySem.F.entry_int_rmul (PySem.F.args_int_rmul_2 _ _) (int_rmul_tuple k t a its.toArray n od osl) ⟨hg, ⟨rfl, ty, ?_⟩⟩
  by_cases e : k = 1
  · subst e
    exact call_meets PySem.F.slot_tuple_mul ty PySem.F.entry_tuple_mul (PySem.F.args_tuple_mul_2 _ _) (tuple_mul1 a its.toArray n od osl t) ⟨hg, ⟨.ref a, H, I, rfl, q1 rfl⟩⟩
  · have hem : its.toArray.isEmpty = false := by
      cases its with
      | nil => exact absurd rfl hne
      | cons _ _ => rfl
    have hm : ((its.toArray.size : Nat) : Int) * k ≤ 1000 * 1000 := by
      rw [List.size_toArray]
      exact Int.mul_le_mul (by omega) k2 (by omega) (by omega)
    have hn : k.toNat * its.length ≤ 1000 * 1000 := Nat.mul_le_mul (by omega) (by omega)
    refine call_meets PySem.F.slot_tuple_mul ty PySem.F.entry_tuple_mul (PySem.F.args_tuple_mul_2 _ _) (tuple_mulW a its.toArray n od osl k t ?_ ?_ ?_ ?_ ?_ ?_) ⟨hg, ?_⟩
    · simp; omega
    · rw [hem]; simp [e]
    · rw [hem]; simp; omega
    · omega
    · unfold Builtin.Tuple.tupleTooMany
      have h2 : ¬ ((its.toArray.size : Nat) : Int) * k > 2 ^ 24 := by omega
      first | exact decide_eq_false h2 | (simp only [decide_eq_false_iff_not]; omega) | (simp; omega)
    · rw [size_rep]
      simp only [List.size_toArray]
      rw [rep_len, sizeLine_eq]
      omega
    · refine ⟨.ref s.heap.objs.size, _, I.laid (t' := s.toks) (o := .frz _ (.tup (List.replicate k.toNat xs).flatten)) (fun b ob q => Heap.get?_push_of_some _ q) (Nat.le_refl _) ⟨Heap.get?_push_size _ rfl, ?_⟩, rfl, q2 _ _ rfl rfl (I.hok.fresh (Nat.le_refl _))⟩
      refine ⟨?_, _, rep_vals r1 k.toNat, ?_⟩
      · rw [rep_len, sizeLine_eq, hl]; omega
      · rw [size_rep]
        exact IsTup.new _ _
end
end Z

set_option Elab.async false
set_option linter.all false
set_option maxRecDepth 100000
set_option maxHeartbeats 4000000
namespace Z
open PySem PySem.Spec PyProof.Rows L2
section
variable {X : Cx} {G : Gx} {W : WX}

/-! ### data as the library's -/
section
variable {H : Hp} {π : List Addr} {h : Hm}
mutual
theorem toP_dp (M : HmOk G H π h) : ∀ (n : Nat) (d : D) (v : V) (p : PyData), toP h n d = some p → Rep G H π d v → Dp G.K H v p
  | 0, d, v, p, e, r => by simp [toP] at e
  | n + 1, .non, v, p, e, r => by simp [toP] at e; subst e; cases r; exact .non
  | n + 1, .bl b, v, p, e, r => by simp [toP] at e; subst e; cases r; exact .bl b
  | n + 1, .int b, v, p, e, r => by simp [toP] at e; subst e; cases r; exact .int b
  | n + 1, .str b, v, p, e, r => by simp [toP] at e; subst e; cases r; exact .str b
  | n + 1, .tup xs, v, p, e, r => by
    simp only [toP, Option.map_eq_some_iff] at e
    obtain ⟨ps, e1, e2⟩ := e
    subst e2
    cases r with
    | tup t rs => exact .tup t.sqT (toPs_dp M n xs _ ps e1 rs)
  | n + 1, .ro xs, v, p, e, r => by
    simp only [toP, Option.map_eq_some_iff] at e
    obtain ⟨ps, e1, e2⟩ := e
    subst e2
    cases r with
    | ro t rs => exact .lst t.sq (toPs_dp M n xs _ ps e1 rs)
  | n + 1, .ref k, v, p, e, r => by
    simp only [toP] at e
    split at e
    · rename_i xs hk
      simp only [Option.map_eq_some_iff] at e
      obtain ⟨ps, e1, e2⟩ := e
      subst e2
      obtain ⟨a, vs, rfl, _, ea, rs⟩ := M.lst hk r
      exact .lst (.of ea) (toPs_dp M n xs _ ps e1 rs)
    · cases e
  | n + 1, .xv _ _ _, v, p, e, r => by simp [toP] at e
theorem toPs_dp (M : HmOk G H π h) : ∀ (n : Nat) (ds : List D) (vs : List V) (ps : List PyData), toPs h n ds = some ps → Reps G H π ds vs → DpAll G.K H vs ps
  | 0, d, v, p, e, r => by simp [toPs] at e
  | n + 1, [], v, p, e, r => by simp [toPs] at e; subst e; cases r; exact .nil
  | n + 1, x :: xs, v, p, e, r => by
    simp only [toPs] at e
    split at e
    · rename_i p1 q1 e1 e2
      simp only [Option.some.injEq] at e
      subst e
      cases r with
      | cons a rs => exact .cons (toP_dp M n x _ p1 e1 a) (toPs_dp M n xs _ q1 e2 rs)
    · cases e
end
end
theorem eqD_cases {x y : D} {h : Hm} {b : Bool} (e : eqD x y h = some b) : (∃ i j, x = .int i ∧ y = .int j ∧ b = decide (i = j)) ∨
    ∃ p q, toP h deepP x = some p ∧ toP h deepP y = some q ∧ SeqAt.shaped p = true ∧ SeqAt.shaped q = true ∧ b = PyData.eqv p q := by
  unfold eqD at e
  split at e
  · exact .inl ⟨_, _, rfl, rfl, by simpa using e.symm⟩
  · split at e
    · rename_i p q e1 e2
      split at e
      · rename_i hs; exact .inr ⟨p, q, e1, e2, hs.1, hs.2, by simpa using e.symm⟩
      · cases e
    · cases e
theorem dec_intV {i j : Int} : decide (V.int i = V.int j) = decide (i = j) := by simp
theorem z_eq (hK : G.K = X.K) (hu : X.A.units + 64 < cLine) : OpR X (compareOp .Eq) (rA2 G W opEq) := by
  intro pins s σ H x y v u Q I rx ry ⟨σ', π, h, dx, dy, M, Rx, Ry, P⟩
  unfold opEq at P
  split at P
  · rename_i b hb
    have q := post_pure M (.bl b) P
    rcases eqD_cases hb with ⟨i, j, rfl, rfl, rfl⟩ | ⟨p, r, e1, e2, s1, s2, rfl⟩
    · cases rep_int Rx; cases rep_int Ry
      exact op_eq pins s σ H _ _ v u Q I rx ry ⟨rfl, by rw [dec_intV]; exact q⟩
    · have d1 := toP_dp M _ _ _ _ e1 Rx
      have d2 := toP_dp M _ _ _ _ e2 Ry
      rw [hK] at d1 d2
      exact op_eqD hu pins s σ H _ _ v u Q I rx ry ⟨p, r, d1, d2, s1, s2, q⟩
  · exact P.elim
theorem z_ne (hK : G.K = X.K) (hu : X.A.units + 64 < cLine) : OpR X (compareOp .NotEq) (rA2 G W opNe) := by
  intro pins s σ H x y v u Q I rx ry ⟨σ', π, h, dx, dy, M, Rx, Ry, P⟩
  unfold opNe at P
  split at P
  · rename_i b hb
    have q := post_pure M (.bl _) P
    rcases eqD_cases hb with ⟨i, j, rfl, rfl, rfl⟩ | ⟨p, r, e1, e2, s1, s2, rfl⟩
    · cases rep_int Rx; cases rep_int Ry
      exact op_ne pins s σ H _ _ v u Q I rx ry ⟨rfl, by rw [dec_intV]; exact q⟩
    · have d1 := toP_dp M _ _ _ _ e1 Rx
      have d2 := toP_dp M _ _ _ _ e2 Ry
      rw [hK] at d1 d2
      exact op_neD hu pins s σ H _ _ v u Q I rx ry ⟨p, r, d1, d2, s1, s2, q⟩
  · exact P.elim
/-- comparisons: whole numbers, or data that are alike -/
theorem dSome_ne {a : PyData} (h : dSome a = true) : a ≠ .none := by
  intro e; subst e; cases h
theorem dOk_all {a b : PyData} (h : dOk a b = true) : PySem.W.alike a b = true ∧ a ≠ .none ∧ min a.depth b.depth ≤ 60 := by
  unfold dOk at h
  simp only [Bool.and_eq_true, decide_eq_true_eq] at h
  exact ⟨h.1, dSome_ne h.2.1, h.2.2⟩
theorem opCmp_cases {p : Int → Int → Bool} {q : PyData → PyData → Bool} {x y : D} {h : Hm} {r : Z.R} (e : opCmp p q x y h = r) : (∃ i j, x = .int i ∧ y = .int j ∧ r = .ok (.bl (p i j)) h) ∨ r = .bad ∨
    ∃ a b, toP h deepP x = some a ∧ toP h deepP y = some b ∧ dOk a b = true ∧ r = .ok (.bl (q a b)) h := by
  unfold opCmp at e
  split at e
  · exact .inl ⟨_, _, rfl, rfl, e.symm⟩
  · split at e
    · rename_i a b e1 e2
      split at e
      · rename_i hd; exact .inr (.inr ⟨a, b, e1, e2, hd, e.symm⟩)
      · exact .inr (.inl e.symm)
    · exact .inr (.inl e.symm)
theorem z_cmp {op : CmpOp} {p : Int → Int → Bool} {q : PyData → PyData → Bool} (hK : G.K = X.K) (hu : X.A.units + 64 < cLine) (ho : OpR X (compareOp op) (rI0 fun i j => .bl (p i j)))
    (hd : ∀ (s : Shared) (v u : Value) (a b : PyData) (as bs : List Addr) (Q : Value → Shared → Prop) (E : Value → Shared → Prop), Reads s.heap v a as → Reads s.heap u b bs → PySem.W.alike a b = true → a ≠ .none → X.A.units + min a.depth b.depth < cLine → Q (.bool (q a b)) s → wpAny (model X.prog X.w) X.A (compareOp op v u) Q E s) :
    OpR X (compareOp op) (rA2 G W (opCmp p q)) := by
  intro pins s σ H x y v u Q I rx ry ⟨σ', π, h, dx, dy, M, Rx, Ry, P⟩
  rcases opCmp_cases (rfl : opCmp p q dx dy h = _) with ⟨i, j, rfl, rfl, e⟩ | e | ⟨a, b, e1, e2, hk, e⟩
  · rw [e] at P
    cases rep_int Rx; cases rep_int Ry
    exact ho pins s σ H _ _ v u Q I rx ry ⟨i, j, rfl, rfl, post_pure M (.bl _) P⟩
  · rw [e] at P; exact P.elim
  · rw [e] at P
    have q := post_pure M (.bl _) P
    have d1 := toP_dp M _ _ _ _ e1 Rx
    have d2 := toP_dp M _ _ _ _ e2 Ry
    rw [hK] at d1 d2
    obtain ⟨as, r1⟩ := Dp.reads I a x v d1 rx
    obtain ⟨bs, r2⟩ := Dp.reads I b y u d2 ry
    obtain ⟨h1, h2, h3⟩ := dOk_all hk
    exact hd s v u a b as bs _ _ r1 r2 h1 h2 (by omega) ⟨.bl _, H, I, rfl, q⟩
theorem z_lt (hK : G.K = X.K) (hu : X.A.units + 64 < cLine) : OpR X (compareOp .Lt) (rA2 G W (opCmp (fun i j => decide (i < j)) qLt)) := z_cmp hK hu op_lt fun s v u a b as bs Q E r1 r2 h1 h2 h3 q => PySem.W.lt_data r1 r2 h1 h2 h3 q
theorem z_le (hK : G.K = X.K) (hu : X.A.units + 64 < cLine) : OpR X (compareOp .LtE) (rA2 G W (opCmp (fun i j => decide (i ≤ j)) qLe)) := z_cmp hK hu op_le fun s v u a b as bs Q E r1 r2 h1 h2 h3 q => PySem.W.le_data r1 r2 h1 h2 h3 q
theorem z_gt (hK : G.K = X.K) (hu : X.A.units + 64 < cLine) : OpR X (compareOp .Gt) (rA2 G W (opCmp (fun i j => decide (j < i)) qGt)) := z_cmp hK hu op_gt fun s v u a b as bs Q E r1 r2 h1 h2 h3 q => PySem.W.gt_data r1 r2 h1 h2 h3 q
theorem z_ge (hK : G.K = X.K) (hu : X.A.units + 64 < cLine) : OpR X (compareOp .GtE) (rA2 G W (opCmp (fun i j => decide (j ≤ i)) qGe)) := z_cmp hK hu op_ge fun s v u a b as bs Q E r1 r2 h1 h2 h3 q => PySem.W.ge_data r1 r2 h1 h2 h3 q
/-- is None, is True, is False -/
theorem isD_cases {H : Hp} {π : List Addr} {x y : D} {vx vy : V} {b : Bool} (e : isD x y = some b) (Rx : Rep G H π x vx) (Ry : Rep G H π y vy) :
    (vy = .non ∧ b = decide (vx = .non)) ∨ ∃ c : Bool, vy = .bl c ∧ b = decide (vx = .bl c) := by
  unfold isD at e
  split at e
  · cases Ry
    left
    cases Rx <;> simp at e <;> simp [← e]
  · rename_i c
    cases Ry
    right
    refine ⟨c, rfl, ?_⟩
    cases Rx <;> simp at e <;> simp [← e]
    · rename_i a; cases a <;> cases c <;> rfl
  · cases e
theorem plainIs_bl {x : V} {v : Value} {c : Bool} (rx : RelV x v) : plainIs v (.bool c) = true := by
  cases x with
  | non => cases rx; rfl
  | bl _ => cases rx; rfl
  | int _ => obtain ⟨t, rfl⟩ := rx; rfl
  | str _ => obtain ⟨t, rfl⟩ := rx; rfl
  | byt _ => obtain ⟨t, rfl⟩ := rx; rfl
  | flt _ => obtain ⟨t, rfl⟩ := rx; rfl
  | ref _ => cases rx; rfl
  | ty _ => cases rx; rfl
theorem z_isA {pins : List (Addr × Obj)} {s : Shared} {σ : L2.St} {H : Hp} {x : V} {v : Value} {c : Bool} {Q : VK} (I : Inv X pins σ H s) (rx : RelV x v) (q : Q (.bl (decide (x = .bl c))) H) :
    wpAny (model X.prog X.w) X.A (compareOp .Is v (.bool c)) (EP X pins σ Q) X.xe s := by
  by_cases e : v = Value.bool c
  · subst e
    have ex : x = .bl c := by
      have := rx.abs; simpa [absV] using this.symm
    exact wpAny_is_self rfl ⟨.bl true, H, I, rfl, by simpa [ex] using q⟩
  · have ex : x ≠ .bl c := fun z => e (by subst z; exact rx)
    exact wpAny_is_other (plainIs_bl rx) e ⟨.bl false, H, I, rfl, by simpa [ex] using q⟩
theorem z_isNA {pins : List (Addr × Obj)} {s : Shared} {σ : L2.St} {H : Hp} {x : V} {v : Value} {c : Bool} {Q : VK} (I : Inv X pins σ H s) (rx : RelV x v) (q : Q (.bl (!decide (x = .bl c))) H) :
    wpAny (model X.prog X.w) X.A (compareOp .IsNot v (.bool c)) (EP X pins σ Q) X.xe s := by
  by_cases e : v = Value.bool c
  · subst e
    have ex : x = .bl c := by
      have := rx.abs; simpa [absV] using this.symm
    exact wpAny_isNot_self rfl ⟨.bl false, H, I, rfl, by simpa [ex] using q⟩
  · have ex : x ≠ .bl c := fun z => e (by subst z; exact rx)
    exact wpAny_isNot_other (plainIs_bl rx) e ⟨.bl true, H, I, rfl, by simpa [ex] using q⟩
theorem z_is : OpR X (compareOp .Is) (rA2 G W opIs) := by
  intro pins s σ H x y v u Q I rx ry ⟨σ', π, h, dx, dy, M, Rx, Ry, P⟩
  unfold opIs at P
  split at P
  · rename_i b hb
    have q := post_pure M (.bl _) P
    rcases isD_cases hb Rx Ry with ⟨rfl, rfl⟩ | ⟨c, rfl, rfl⟩
    · exact op_isN pins s σ H _ _ v u Q I rx ry ⟨rfl, q⟩
    · cases ry; exact z_isA I rx q
  · exact P.elim
theorem z_isnot : OpR X (compareOp .IsNot) (rA2 G W opIsnot) := by
  intro pins s σ H x y v u Q I rx ry ⟨σ', π, h, dx, dy, M, Rx, Ry, P⟩
  unfold opIsnot at P
  split at P
  · rename_i b hb
    have q := post_pure M (.bl _) P
    rcases isD_cases hb Rx Ry with ⟨rfl, rfl⟩ | ⟨c, rfl, rfl⟩
    · exact op_notN pins s σ H _ _ v u Q I rx ry ⟨rfl, q⟩
    · cases ry; exact z_isNA I rx q
  · exact P.elim
theorem z_mul (hK : G.K = X.K) : OpR X (binaryOp .Mult) (rA2 G W opMul) := by
  intro pins s σ H x y v u Q I rx ry ⟨σ', π, h, dx, dy, M, Rx, Ry, P⟩
  unfold opMul at P
  split at P
  · split at P
    · rename_i hc
      cases rep_int Rx; cases rep_int Ry
      unfold okMul at hc
      simp only [Bool.or_eq_true, decide_eq_true_eq] at hc
      exact op_mul pins s σ H _ _ v u Q I rx ry ⟨_, _, rfl, rfl, hc, post_pure M (.int _) P⟩
    · exact P.elim
  · split at P
    · split at P
      · rename_i xs hk hc
        obtain ⟨a, vs, rfl, _, ea, rs⟩ := M.lst hk Rx
        cases rep_int Ry
        have rr : ∀ n : Nat, Reps G H π (List.replicate n xs).flatten (List.replicate n vs).flatten := fun n => by
          induction n with
          | zero => exact .nil
          | succ n ih => simp only [List.replicate_succ, List.flatten_cons]; exact rs.append ih
        refine op_rep pins s σ H _ _ v u Q I rx ry ⟨a, _, vs, rfl, rfl, ea, by omega, by omega, ?_, fun p hp => post_new M (rr _) hp P⟩
        rw [← rs.length]; exact hc.2.2
      · exact P.elim
    · exact P.elim
  · split at P
    · rename_i xs k hc
      obtain ⟨a, vs, rfl, ta, ra⟩ := rep_tup Rx
      cases rep_int Ry
      have rr : ∀ n : Nat, Reps G H π (List.replicate n xs).flatten (List.replicate n vs).flatten := fun n => by
        induction n with
        | zero => exact .nil
        | succ n ih => simp only [List.replicate_succ, List.flatten_cons]; exact ra.append ih
      have hl := ra.length
      refine z_repT I rx ry (hK ▸ ta) (fun z => ?_) hc.2.1 hc.2.2.1 (by omega) (fun e => ?_) fun o p hco hd hp => post_tup M (rr _) hp hco hd P
      · subst z
        cases ra
        cases hc.1
      · subst e
        have e1 : (List.replicate (1 : Int).toNat xs).flatten = xs := by simp [show (1 : Int).toNat = 1 from rfl]
        rw [e1] at P
        exact post_pure M Rx P
    · exact P.elim
  · exact P.elim
theorem flatEq_V {H : Hp} {π : List Addr} {x y : D} {vx vy : V} (Rx : Rep G H π x vx) (Ry : Rep G H π y vy) (fx : x.flat = true) (fy : y.flat = true) : eqV vy vx = flatEq y x := by
  cases Rx <;> first | (simp [D.flat] at fx; done) | (cases Ry <;> first | (simp [D.flat] at fy; done) | rfl)
theorem in_V {H : Hp} {π : List Addr} {x : D} {vx : V} (Rx : Rep G H π x vx) (fx : x.flat = true) : ∀ {ys : List D} {vs : List V}, Reps G H π ys vs → ys.all D.flat = true → vs.all flatV = true ∧ inV vx vs = ys.any fun z => flatEq z x
  | _, _, .nil, _ => ⟨rfl, rfl⟩
  | _, _, .cons a r, h => by
    simp only [List.all_cons, Bool.and_eq_true] at h
    obtain ⟨h1, h2⟩ := in_V Rx fx r h.2
    refine ⟨by simp [rep_flat a h.1, h1], ?_⟩
    unfold inV at h2 ⊢
    simp only [List.any_cons]
    rw [h2, flatEq_V Rx a fx h.1]
theorem z_in (hK : G.K = X.K) : OpR X (compareOp .In) (rA2 G W opIn) := by
  intro pins s σ H x y v u Q I rx ry ⟨σ', π, h, dx, dy, M, Rx, Ry, P⟩
  unfold opIn at P
  split at P
  · rename_i b hb
    have q := post_pure M (.bl _) P
    unfold inD at hb
    split at hb
    · rename_i xs hl
      split at hb
      · rename_i hf
        obtain ⟨a, vs, rfl, rs, sq⟩ := listOf_sq M Ry hl
        rw [hK] at sq
        obtain ⟨f1, f2⟩ := in_V Rx hf.1 rs hf.2
        refine op_in_seq pins s σ H _ _ v u Q I rx ry ⟨a, vs, rfl, sq, rep_flat Rx hf.1, f1, ?_⟩
        rw [f2]; simp only [Option.some.injEq] at hb; rw [hb]; exact q
      · cases hb
    · cases hb
  · exact P.elim
theorem z_notin (hK : G.K = X.K) : OpR X (compareOp .NotIn) (rA2 G W opNotin) := by
  intro pins s σ H x y v u Q I rx ry ⟨σ', π, h, dx, dy, M, Rx, Ry, P⟩
  unfold opNotin at P
  split at P
  · rename_i b hb
    have q := post_pure M (.bl _) P
    unfold inD at hb
    split at hb
    · rename_i xs hl
      split at hb
      · rename_i hf
        obtain ⟨a, vs, rfl, rs, sq⟩ := listOf_sq M Ry hl
        rw [hK] at sq
        obtain ⟨f1, f2⟩ := in_V Rx hf.1 rs hf.2
        refine op_notIn_seq pins s σ H _ _ v u Q I rx ry ⟨a, vs, rfl, sq, rep_flat Rx hf.1, f1, ?_⟩
        rw [f2]; simp only [Option.some.injEq] at hb; rw [hb]; exact q
      · cases hb
    · cases hb
  · exact P.elim

/-! ### built-ins -/
/-- what one argument's call wants -/
theorem rAn1 {f : List D → Hm → R} {g : D → Hm → R} {vs : List V} {H : Hp} {Q : VK} (hf : ∀ ds h, (∀ x, ds = [x] → False) → f ds h = .bad) (hg : ∀ x h, f [x] h = g x h) (a : rAn G W f vs H Q) : ∃ x, vs = [x] ∧ rA1 G W g x H Q := by
  obtain ⟨σ, π, h, ds, M, r, P⟩ := a
  by_cases q : ∃ x, ds = [x]
  · obtain ⟨x, rfl⟩ := q
    cases r with
    | cons r1 r2 => cases r2; rw [hg] at P; exact ⟨_, rfl, σ, π, h, x, M, r1, P⟩
  · rw [hf ds h fun x e => q ⟨x, e⟩] at P; exact P.elim
theorem rAn2 {f : List D → Hm → R} {g : D → D → Hm → R} {vs : List V} {H : Hp} {Q : VK} (hf : ∀ ds h, (∀ x y, ds = [x, y] → False) → f ds h = .bad) (hg : ∀ x y h, f [x, y] h = g x y h) (a : rAn G W f vs H Q) : ∃ x y, vs = [x, y] ∧ rA2 G W g x y H Q := by
  obtain ⟨σ, π, h, ds, M, r, P⟩ := a
  by_cases q : ∃ x y, ds = [x, y]
  · obtain ⟨x, y, rfl⟩ := q
    cases r with
    | cons r1 r2 => cases r2 with
      | cons r2 r3 => cases r3; rw [hg] at P; exact ⟨_, _, rfl, σ, π, h, x, y, M, r1, r2, P⟩
  · rw [hf ds h fun x y e => q ⟨x, y, e⟩] at P; exact P.elim
def Pm.one : Pm → Bool
  | .neg => true | .len => true | .abs => true | .maxl => true | .minl => true | .suml => true | .sorted => true | .list => true | .tuple => true
  | .int => true | .str => true | .pop => true | .reverse => true | .clear => true | .alll => true | .anyl => true | .revl => true | .rangel => true
  | .part => true | .isint => true | .isbool => true | .isstr => true | .isnone => true | .istup => true | .islist => true | .isseq => true | _ => false
def Pm.two : Pm → Bool
  | .max2 => true | .min2 => true | .idx => true | .append => true | .popat => true | .count => true | .extend => true | .index => true | .maxd => true | .sortr => true | _ => false
theorem evP1 {p : Pm} {ds : List D} {h : Hm} (hp : p.one = true) (q : ∀ x, ds = [x] → False) : evP p ds h = .bad := by
  match ds with
  | [] => rfl
  | [x] => exact (q x rfl).elim
  | [x, y] => cases p <;> first | rfl | cases hp
  | [x, y, z] => cases p <;> first | rfl | cases hp
  | _ :: _ :: _ :: _ :: _ => rfl
theorem evP2 {p : Pm} {ds : List D} {h : Hm} (hp : p.two = true) (q : ∀ x y, ds = [x, y] → False) : evP p ds h = .bad := by
  match ds with
  | [] => rfl
  | [x] => cases p <;> first | rfl | cases hp
  | [x, y] => exact (q x y rfl).elim
  | [x, y, z] => cases p <;> first | rfl | cases hp
  | _ :: _ :: _ :: _ :: _ => rfl
theorem c_len (hK : G.K = X.K) : CallR X (.builtin "len") (rAn G W (evP .len)) := by
  intro pins s σ H xs us Q I r aa
  obtain ⟨x, rfl, σ', π, h, d, M, rd, P⟩ := rAn1 (g := opLen) (fun ds h q => evP1 rfl q) (fun _ _ => rfl) aa
  unfold opLen at P
  split at P
  · split at P
    · rename_i hz
      cases rep_str rd
      exact call_len_str pins s σ H _ us Q I r ⟨_, rfl, hz, post_pure M (.int _) P⟩
    · exact P.elim
  · split at P
    · rename_i xs hl
      obtain ⟨a, vs, rfl, rs, sq⟩ := listOf_sq M rd hl
      rw [hK] at sq
      exact call_len_seq pins s σ H _ us Q I r ⟨a, vs, rfl, sq, by rw [← rs.length]; exact post_pure M (.int _) P⟩
    · exact P.elim
theorem c_abs : CallR X (.builtin "abs") (rAn G W (evP .abs)) := by
  intro pins s σ H xs us Q I r aa
  obtain ⟨x, rfl, σ', π, h, d, M, rd, P⟩ := rAn1 (g := opAbs) (fun ds h q => evP1 rfl q) (fun _ _ => rfl) aa
  unfold opAbs at P
  split at P
  · cases rep_int rd
    exact call_abs pins s σ H _ us Q I r ⟨_, rfl, post_pure M (.int _) P⟩
  · exact P.elim
theorem c_int : CallR X (.type "int") (rAn G W (evP .int)) := by
  intro pins s σ H xs us Q I r aa
  obtain ⟨x, rfl, σ', π, h, d, M, rd, P⟩ := rAn1 (g := opInt) (fun ds h q => evP1 rfl q) (fun _ _ => rfl) aa
  unfold opInt at P
  split at P
  · cases rep_int rd
    exact call_int1 pins s σ H _ us Q I r (.inl ⟨_, rfl, post_pure M (.int _) P⟩)
  · cases rep_bl rd
    exact call_int1 pins s σ H _ us Q I r (.inr ⟨_, rfl, post_pure M (.int _) P⟩)
  · exact P.elim
theorem c_list (hK : G.K = X.K) : CallR X (.type "list") (rAn G W (evP .list)) := by
  intro pins s σ H xs us Q I r aa
  obtain ⟨x, rfl, σ', π, h, d, M, rd, P⟩ := rAn1 (g := opList) (fun ds h q => evP1 rfl q) (fun _ _ => rfl) aa
  unfold opList at P
  split at P
  · rename_i xs hl
    obtain ⟨a, vs, rfl, rs, sq⟩ := listOf_sq M rd hl
    rw [hK] at sq
    exact call_list_of pins s σ H _ us Q I r ⟨a, vs, rfl, sq, fun l hl => post_new M rs hl P⟩
  · exact P.elim
/-- tuple(x), the new one known -/
theorem c_tuple (hK : G.K = X.K) : CallR X (.type "tuple") (rAn G W (evP .tuple)) := by
  intro pins s σ H xs us Q I r aa
  obtain ⟨x, rfl, σ', π, h, d, M, rd, P⟩ := rAn1 (g := opTuple) (fun ds h q => evP1 rfl q) (fun _ _ => rfl) aa
  unfold opTuple at P
  split at P
  · rename_i xs hl
    obtain ⟨a, vs, rfl, rs, kd⟩ := listOf_ok M rd hl
    rw [hK] at kd
    have mk : SqL X.K H a vs → wpAny (model X.prog X.w) X.A (call (.type "tuple") us) (EP X pins σ Q) X.xe s := fun hq => by
      obtain ⟨u, rfl, rx⟩ := vals1 r
      cases rx
      obtain ⟨its, r', pl, hz⟩ := I.list hq
      have hlen := r'.length
      refine call_tuple_list pl.isList (fun h' kp => ?_) (by simp only [List.size_toArray] <;> omega)
      have I1 : Inv X pins σ H { s with heap := h' } := I.kept (t' := s.toks) kp
      have I2 : Inv X pins σ (upd H h'.objs.size (.frz _ (.tup vs))) { s with heap := h'.push { cls := .type "tuple", data := .seq its.toArray } } :=
        I1.laid (t' := s.toks) (fun b o e => Heap.get?_push_of_some _ e) (Nat.le_refl _) ⟨Heap.get?_push_size _ rfl, hz, its, r', IsTup.new _ _⟩
      exact ⟨.ref h'.objs.size, _, I2, rfl, post_tup M rs (I1.hok.fresh (Nat.le_refl _)) rfl rfl P⟩
    rcases kd with ⟨rfl, t⟩ | ⟨t, _⟩ | ⟨n, _, _, _, t⟩
    · exact call_tuple_of pins s σ H _ us Q I r ⟨a, vs, rfl, .inr ⟨t.sqT, post_pure M rd P⟩⟩
    · exact mk t.sq
    · exact mk (.of t)
  · exact P.elim
theorem alikeB_ok {xs : List PyData} (h : alikeB xs = true) : PySem.W.AlikeAll xs := by
  unfold alikeB at h
  simp only [Bool.and_eq_true, List.all_eq_true] at h
  exact ⟨fun x hx y hy => h.1 x hx y hy, fun x hx => dSome_ne (h.2 x hx)⟩
theorem opMax2_cases {x y : D} {h : Hm} {r : Z.R} (e : opMax2 x y h = r) : (∃ i j, x = .int i ∧ y = .int j ∧ r = .ok (.int (if j > i then j else i)) h) ∨ r = .bad ∨
    ∃ a b, toP h deepP x = some a ∧ toP h deepP y = some b ∧ alikeB [a, b] = true ∧ PyData.depthAll [a, b] ≤ 60 ∧ r = .ok (if PySem.W.dataLt a b = true then y else x) h := by
  unfold opMax2 at e
  split at e
  · exact .inl ⟨_, _, rfl, rfl, e.symm⟩
  · split at e
    · rename_i a b e1 e2
      split at e
      · rename_i hd; exact .inr (.inr ⟨a, b, e1, e2, hd.1, hd.2, e.symm⟩)
      · exact .inr (.inl e.symm)
    · exact .inr (.inl e.symm)
theorem c_max2 (hK : G.K = X.K) (hu : X.A.units + 64 < cLine) (hc : X.calm = true) : CallR X (.builtin "max") (rAn G W (evP .max2)) := by
  intro pins s σ H xs us Q I r aa
  obtain ⟨x, y, rfl, σ', π, h, dx, dy, M, rx, ry, P⟩ := rAn2 (g := opMax2) (fun ds h q => evP2 rfl q) (fun _ _ _ => rfl) aa
  rcases opMax2_cases (rfl : opMax2 dx dy h = _) with ⟨i, j, rfl, rfl, e⟩ | e | ⟨a, b, e1, e2, k1, k2, e⟩
  · rw [e] at P
    cases rep_int rx; cases rep_int ry
    exact call_max2 hc pins s σ H _ us Q I r ⟨_, _, rfl, post_pure M (.int _) P⟩
  · rw [e] at P; exact P.elim
  · rw [e] at P
    obtain ⟨u, v, rfl, r1, r2⟩ := vals2 r
    have d1 := toP_dp M _ _ _ _ e1 rx
    have d2 := toP_dp M _ _ _ _ e2 ry
    rw [hK] at d1 d2
    obtain ⟨as, q⟩ := Dp.readsAll I [a, b] [x, y] [u, v] (.cons d1 (.cons d2 .nil)) r
    refine ZY.max_two_data (I.ok.hd hc) q (alikeB_ok k1) (by omega) fun h' tk k => ?_
    by_cases z : PySem.W.dataLt a b = true
    · rw [if_pos z] at P ⊢
      exact ⟨y, H, I.kept k, r2, post_pure M ry P⟩
    · rw [if_neg z] at P ⊢
      exact ⟨x, H, I.kept k, r1, post_pure M rx P⟩
theorem c_min2 (hc : X.calm = true) : CallR X (.builtin "min") (rAn G W (evP .min2)) := by
  intro pins s σ H xs us Q I r aa
  obtain ⟨x, y, rfl, σ', π, h, dx, dy, M, rx, ry, P⟩ := rAn2 (g := opMin2) (fun ds h q => evP2 rfl q) (fun _ _ _ => rfl) aa
  unfold opMin2 at P
  split at P
  · cases rep_int rx; cases rep_int ry
    exact call_min2 hc pins s σ H _ us Q I r ⟨_, _, rfl, post_pure M (.int _) P⟩
  · exact P.elim
end
end Z

set_option Elab.async false
set_option linter.all false
set_option maxRecDepth 100000
set_option maxHeartbeats 4000000
namespace Z
open PySem PySem.Spec PyProof.Rows L2
section
variable {X : Cx} {G : Gx} {W : WX}

/-! ### sorting -/
theorem insI_perm (x : Int) : ∀ l, (insI x l).Perm (x :: l)
  | [] => .refl _
  | y :: r => by
    unfold insI
    split
    · exact .refl _
    · exact ((insI_perm x r).cons y).trans (.swap x y r)
theorem sortI_perm : ∀ l, (sortI l).Perm l
  | [] => .refl _
  | x :: r => (insI_perm x (sortI r)).trans ((sortI_perm r).cons x)
theorem insI_sorted (x : Int) : ∀ l, l.Pairwise (· ≤ ·) → (insI x l).Pairwise (· ≤ ·)
  | [], _ => by simp [insI]
  | y :: r, h => by
    rw [List.pairwise_cons] at h
    unfold insI
    split
    · rename_i hxy
      rw [List.pairwise_cons]
      refine ⟨fun z hz => ?_, List.pairwise_cons.mpr h⟩
      rcases List.mem_cons.mp hz with rfl | hz
      · exact hxy
      · exact Int.le_trans hxy (h.1 z hz)
    · rename_i hxy
      rw [List.pairwise_cons]
      refine ⟨fun z hz => ?_, insI_sorted x r h.2⟩
      rcases List.mem_cons.mp ((insI_perm x r).mem_iff.mp hz) with rfl | hz
      · omega
      · exact h.1 z hz
theorem sortI_sorted : ∀ l, (sortI l).Pairwise (· ≤ ·)
  | [] => .nil
  | x :: r => insI_sorted x _ (sortI_sorted r)

/-! ### lists of ints, as values -/
theorem lstOf_sq {H : Hp} {π : List Addr} {h : Hm} {x : D} {v : V} {xs : List D} (M : HmOk G H π h) (r : Rep G H π x v) (e : lstOf h x = some xs) :
    ∃ a vs, v = .ref a ∧ Reps G H π xs vs ∧ SqL G.K H a vs := by
  have e' : listOf h x = some xs := by
    unfold lstOf at e
    split at e
    · cases e
    · exact e
  obtain ⟨a, vs, e1, e2, e3⟩ := listOf_ok M r e'
  refine ⟨a, vs, e1, e2, ?_⟩
  rcases e3 with ⟨rfl, t⟩ | ⟨t, _⟩ | ⟨n, _, _, _, t⟩
  · simp [lstOf] at e
  · exact t.sq
  · exact .of t
theorem ints_sq {H : Hp} {π : List Addr} {h : Hm} {x : D} {v : V} {ns : List Int} (M : HmOk G H π h) (r : Rep G H π x v) (e : (lstOf h x).bind intsOf = some ns) :
    ∃ a, v = .ref a ∧ SqL G.K H a (ns.map V.int) := by
  cases q : lstOf h x with
  | none => rw [q] at e; cases e
  | some xs =>
    rw [q] at e
    have e2 := intsOf_eq (show intsOf xs = some ns from e)
    obtain ⟨a, vs, e3, e4, e5⟩ := lstOf_sq M r q
    subst e2
    rw [Reps.of_ints e4] at e5
    exact ⟨a, e3, e5⟩
theorem c_sorted (hK : G.K = X.K) : CallR X (.builtin "sorted") (rAn G W (evP .sorted)) := by
  intro pins s σ H xs us Q I r aa
  obtain ⟨x, rfl, σ', π, h, d, M, rd, P⟩ := rAn1 (g := opSorted) (fun ds h q => evP1 rfl q) (fun _ _ => rfl) aa
  unfold opSorted at P
  split at P
  · rename_i ns hl
    obtain ⟨a, rfl, sq⟩ := ints_sq M rd hl
    rw [hK] at sq
    refine cr_sortedI pins s σ H _ us Q I r ⟨a, ns, rfl, sq, fun ns' p h1 h2 h3 => ?_⟩
    have e : ns' = sortI ns := PySem.W.ksm_same (h1.trans (sortI_perm ns).symm) h2 (sortI_sorted ns)
    rw [e]
    exact post_new M (Reps.ints _) h3 P
  · exact P.elim
theorem ints_sqA {H : Hp} {π : List Addr} {h : Hm} {x : D} {v : V} {ns : List Int} (M : HmOk G H π h) (r : Rep G H π x v) (e : (listOf h x).bind intsOf = some ns) :
    ∃ a, v = .ref a ∧ (SqL G.K H a (ns.map V.int) ∨ SqT G.K H a (ns.map V.int)) := by
  cases q : listOf h x with
  | none => rw [q] at e; cases e
  | some xs =>
    rw [q] at e
    have e2 := intsOf_eq (show intsOf xs = some ns from e)
    obtain ⟨a, vs, e3, e4, e5⟩ := listOf_sq M r q
    subst e2
    rw [Reps.of_ints e4] at e5
    exact ⟨a, e3, e5⟩
theorem c_sum (hK : G.K = X.K) (hc : X.calm = true) : CallR X (.builtin "sum") (rAn G W (evP .suml)) := by
  intro pins s σ H xs us Q I r aa
  obtain ⟨x, rfl, σ', π, h, d, M, rd, P⟩ := rAn1 (g := opSum) (fun ds h q => evP1 rfl q) (fun _ _ => rfl) aa
  unfold opSum at P
  split at P
  · rename_i ns hl
    obtain ⟨a, rfl, sq⟩ := ints_sqA M rd hl
    rw [hK] at sq
    rcases sq with sq | sq
    · exact cr_sum hc pins s σ H _ us Q I r ⟨a, ns, rfl, sq, post_pure M (.int _) P⟩
    · obtain ⟨its, rv, p, hz⟩ := I.tuple sq
      rw [Vals.ref1 r]
      exact ZY.sum_tup (I.ok.hd hc) p rv.ints fun h' tk t' k => ⟨.int _, H, I.kept k, ⟨_, rfl⟩, post_pure M (.int _) P⟩
  · exact P.elim
theorem maxI_fold : ∀ (l : List Int) (m : Int), maxI l m = l.foldl max m
  | [], m => rfl
  | x :: r, m => by
    show maxI r _ = r.foldl max (max m x)
    rw [maxI_fold]
    congr 1
    by_cases h : x > m
    · rw [if_pos h]; omega
    · rw [if_neg h]; omega
theorem minI_fold : ∀ (l : List Int) (m : Int), minI l m = l.foldl min m
  | [], m => rfl
  | x :: r, m => by
    show minI r _ = r.foldl min (min m x)
    rw [minI_fold]
    congr 1
    by_cases h : x < m
    · rw [if_pos h]; omega
    · rw [if_neg h]; omega
theorem maxI_ok : ∀ (l : List Int) (m : Int), (maxI l m = m ∨ maxI l m ∈ l) ∧ m ≤ maxI l m ∧ ∀ y ∈ l, y ≤ maxI l m
  | [], m => ⟨.inl rfl, Int.le_refl _, fun _ h => by cases h⟩
  | x :: r, m => by
    obtain ⟨h1, h2, h3⟩ := maxI_ok r (if x > m then x else m)
    have hm : m ≤ (if x > m then x else m) := by split <;> omega
    have hx : x ≤ (if x > m then x else m) := by split <;> omega
    refine ⟨?_, Int.le_trans hm h2, fun y hy => ?_⟩
    · show maxI r _ = m ∨ maxI r _ ∈ x :: r
      rcases h1 with h1 | h1
      · rw [h1]
        split
        · exact .inr (by simp)
        · exact .inl rfl
      · exact .inr (List.mem_cons_of_mem _ h1)
    · rcases List.mem_cons.mp hy with rfl | hy
      · exact Int.le_trans hx h2
      · exact h3 y hy
theorem minI_ok : ∀ (l : List Int) (m : Int), (minI l m = m ∨ minI l m ∈ l) ∧ minI l m ≤ m ∧ ∀ y ∈ l, minI l m ≤ y
  | [], m => ⟨.inl rfl, Int.le_refl _, fun _ h => by cases h⟩
  | x :: r, m => by
    obtain ⟨h1, h2, h3⟩ := minI_ok r (if x < m then x else m)
    have hm : (if x < m then x else m) ≤ m := by split <;> omega
    have hx : (if x < m then x else m) ≤ x := by split <;> omega
    refine ⟨?_, Int.le_trans h2 hm, fun y hy => ?_⟩
    · show minI r _ = m ∨ minI r _ ∈ x :: r
      rcases h1 with h1 | h1
      · rw [h1]
        split
        · exact .inr (by simp)
        · exact .inl rfl
      · exact .inr (List.mem_cons_of_mem _ h1)
    · rcases List.mem_cons.mp hy with rfl | hy
      · exact Int.le_trans h2 hx
      · exact h3 y hy
/-! tuples of whole numbers, the least and the greatest -/
theorem tupsOf_eq : ∀ {xs : List D} {l : List (List Int)}, tupsOf xs = some l → xs = l.map fun ns => .tup (ns.map .int)
  | [], l, e => by simp [tupsOf] at e; subst e; rfl
  | x :: r, l, e => by
    cases x <;> simp only [tupsOf, reduceCtorEq] at e
    rename_i ys
    split at e
    · rename_i ns l' e1 e2
      simp only [Option.some.injEq] at e
      subst e
      rw [intsOf_eq e1, tupsOf_eq e2]; rfl
    · cases e
theorem dp_ints {K : PySem.W.Frag} {H : Hp} : ∀ ns : List Int, DpAll K H (ns.map V.int) (ns.map PyData.int)
  | [] => .nil
  | n :: r => .cons (.int n) (dp_ints r)
theorem tups_dp {H : Hp} {π : List Addr} : ∀ {l : List (List Int)} {vs : List V}, Reps G H π (l.map fun ns => D.tup (ns.map .int)) vs → DpAll G.K H vs (l.map pTup)
  | [], _, .nil => .nil
  | ns :: l, _, .cons a r => by
    refine .cons ?_ (tups_dp r)
    obtain ⟨b, us, rfl, t, rs⟩ := rep_tup a
    rw [Reps.of_ints rs] at t
    exact .tup t.sqT (dp_ints ns)
theorem alike_pTup (a b : List Int) : PySem.W.alike (pTup a) (pTup b) = true := by
  unfold pTup
  rw [PySem.W.alike]
  exact PySem.W.alike_ints a b
theorem alike_tups (l : List (List Int)) : PySem.W.AlikeAll (l.map pTup) := by
  refine ⟨fun x hx y hy => ?_, fun x hx => ?_⟩
  · obtain ⟨a, _, rfl⟩ := List.mem_map.mp hx
    obtain ⟨b, _, rfl⟩ := List.mem_map.mp hy
    exact alike_pTup a b
  · obtain ⟨i, _, rfl⟩ := List.mem_map.mp hx
    intro e; cases e
theorem depth_tups : ∀ l : List (List Int), PyData.depthAll (l.map pTup) ≤ 1
  | [] => by simp [PyData.depthAll]
  | a :: l => by
    have := depth_tups l
    have e : (pTup a).depth = 1 := by
      unfold pTup
      rw [PyData.depth, PySem.W.depth_ints]
    rw [List.map_cons, PyData.depthAll, e]
    omega
theorem pTup_inj {a b : List Int} (h : pTup a = pTup b) : a = b := by
  unfold pTup at h
  injection h with h
  exact List.map_inj_right (fun x y e => by injection e) |>.mp h
theorem minT_eq (x : List Int) (l : List (List Int)) : PySem.W.minD (pTup x) (l.map pTup) = pTup (minT x l) := by
  unfold PySem.W.minD minT
  induction l generalizing x with
  | nil => rfl
  | cons y r ih =>
    rw [List.map_cons, List.foldl_cons, List.foldl_cons, ← ih]
    congr 1
    split <;> rfl
theorem maxT_eq (x : List Int) (l : List (List Int)) : PySem.W.maxD (pTup x) (l.map pTup) = pTup (maxT x l) := by
  unfold PySem.W.maxD maxT
  induction l generalizing x with
  | nil => rfl
  | cons y r ih =>
    rw [List.map_cons, List.foldl_cons, List.foldl_cons, ← ih]
    congr 1
    split <;> rfl
/-- the tuple that reads as m is the one that is meant -/
theorem tup_found {pins : List (Addr × Obj)} {s : Shared} {σ : L2.St} {H : Hp} {π : List Addr} {h' : Heap} {l : List (List Int)} {vs : List V} {its : List Value} {m : List Int} {i : Nat} {v : Value} {bs : List Addr} (hK : G.K = X.K) (I : L2.Inv X pins σ H s) (rs : Reps G H π (l.map fun ns => D.tup (ns.map .int)) vs) (rv : Vals vs its)
    (hv : its[i]? = some v) (k : ∀ b o, s.heap.get? b = some o → h'.get? b = some o) (q : Reads h' v (pTup m) bs) : ∃ vx, RelV vx v ∧ Rep G H π (.tup (m.map .int)) vx := by
  have hi : i < vs.length := by
    have := (List.getElem?_eq_some_iff.mp hv).1
    rw [rv.length]; exact this
  obtain ⟨u, hu, ru⟩ := rv.get (List.getElem?_eq_getElem hi)
  rw [hv] at hu; cases hu
  obtain ⟨d, hd, rd⟩ := rs.get' (List.getElem?_eq_getElem hi)
  rw [List.getElem?_map] at hd
  obtain ⟨ns, hns, rfl⟩ := Option.map_eq_some_iff.mp hd
  refine ⟨vs[i], ru, ?_⟩
  obtain ⟨b, us, e, t, rs2⟩ := rep_tup rd
  have t2 := t
  rw [Reps.of_ints rs2, hK] at t2
  obtain ⟨as, r1⟩ := Dp.reads I (pTup ns) vs[i] v (by rw [e]; exact .tup t2.sqT (dp_ints ns)) ru
  have r2 := PySem.W.reads_keeps k r1
  have e3 := PySem.W.alike_unique _ _ v _ _ (alike_pTup ns m) r2 q
  rw [← pTup_inj e3]
  exact rd
theorem c_max (hK : G.K = X.K) (hu : X.A.units + 64 < cLine) (hc : X.calm = true) : CallR X (.builtin "max") (rAn G W (evP .maxl)) := by
  intro pins s σ H xs us Q I r aa
  obtain ⟨x, rfl, σ', π, h, d, M, rd, P⟩ := rAn1 (g := opMaxl) (fun ds h q => evP1 rfl q) (fun _ _ => rfl) aa
  unfold opMaxl at P
  split at P
  · rename_i n ns hl
    obtain ⟨a, rfl, sq⟩ := ints_sqA M rd hl
    rw [hK] at sq
    rcases sq with sq | sq
    · refine cr_max hc pins s σ H _ us Q I r ⟨a, n :: ns, rfl, sq, by simp, fun m h1 h2 => ?_⟩
      obtain ⟨k1, k2, k3⟩ := maxI_ok ns n
      have e : m = maxI ns n := by
        refine Int.le_antisymm ?_ (h2 _ ?_)
        · rcases List.mem_cons.mp h1 with rfl | h1
          · exact k2
          · exact k3 m h1
        · rcases k1 with k1 | k1
          · rw [k1]; exact List.mem_cons_self
          · exact List.mem_cons_of_mem _ k1
      rw [e]
      exact post_pure M (.int _) P
    · obtain ⟨its, rv, p, hz⟩ := I.tuple sq
      rw [Vals.ref1 r]
      rw [maxI_fold] at P
      exact ZY.max_tup (I.ok.hd hc) p rv.ints hu fun h' tk t' k => ⟨.int _, H, I.kept k, ⟨_, rfl⟩, post_pure M (.int _) P⟩
  · split at P
    · rename_i n ns hl
      cases q : lstOf h d with
      | none => rw [q] at hl; cases hl
      | some zs =>
        rw [q] at hl
        have e2 := tupsOf_eq (show tupsOf zs = some (n :: ns) from hl)
        obtain ⟨a, vs, rfl, rs, sq⟩ := lstOf_sq M rd q
        subst e2
        rw [hK] at sq
        obtain ⟨its, rv, p, hz⟩ := I.list sq
        have dp := tups_dp rs
        rw [hK] at dp
        obtain ⟨as, ra⟩ := Dp.readsAll I _ vs its dp rv
        rw [Vals.ref1 r]
        refine PySem.W.max_list_data (x := pTup n) (xs := ns.map pTup) (I.ok.hd hc) p.isList (by simpa using ra) (alike_tups (n :: ns)) ?_ fun i v h' tk bs hv rr k => ?_
        · have := depth_tups (n :: ns)
          rw [show pTup n :: ns.map pTup = (n :: ns).map pTup from rfl]
          omega
        · rw [maxT_eq] at rr
          obtain ⟨vx, rx, rp⟩ := tup_found hK I rs rv (by simpa using hv) k rr
          exact ⟨vx, H, I.kept k, rx, post_pure M rp P⟩
    · exact P.elim
theorem c_min (hK : G.K = X.K) (hu : X.A.units + 64 < cLine) (hc : X.calm = true) : CallR X (.builtin "min") (rAn G W (evP .minl)) := by
  intro pins s σ H xs us Q I r aa
  obtain ⟨x, rfl, σ', π, h, d, M, rd, P⟩ := rAn1 (g := opMinl) (fun ds h q => evP1 rfl q) (fun _ _ => rfl) aa
  unfold opMinl at P
  split at P
  · rename_i n ns hl
    obtain ⟨a, rfl, sq⟩ := ints_sqA M rd hl
    rw [hK] at sq
    rcases sq with sq | sq
    · refine cr_min hc pins s σ H _ us Q I r ⟨a, n :: ns, rfl, sq, by simp, fun m h1 h2 => ?_⟩
      obtain ⟨k1, k2, k3⟩ := minI_ok ns n
      have e : m = minI ns n := by
        refine Int.le_antisymm (h2 _ ?_) ?_
        · rcases k1 with k1 | k1
          · rw [k1]; exact List.mem_cons_self
          · exact List.mem_cons_of_mem _ k1
        · rcases List.mem_cons.mp h1 with rfl | h1
          · exact k2
          · exact k3 m h1
      rw [e]
      exact post_pure M (.int _) P
    · obtain ⟨its, rv, p, hz⟩ := I.tuple sq
      rw [Vals.ref1 r]
      rw [minI_fold] at P
      exact ZY.min_tup (I.ok.hd hc) p rv.ints hu fun h' tk t' k => ⟨.int _, H, I.kept k, ⟨_, rfl⟩, post_pure M (.int _) P⟩
  · split at P
    · rename_i n ns hl
      cases q : lstOf h d with
      | none => rw [q] at hl; cases hl
      | some zs =>
        rw [q] at hl
        have e2 := tupsOf_eq (show tupsOf zs = some (n :: ns) from hl)
        obtain ⟨a, vs, rfl, rs, sq⟩ := lstOf_sq M rd q
        subst e2
        rw [hK] at sq
        obtain ⟨its, rv, p, hz⟩ := I.list sq
        have dp := tups_dp rs
        rw [hK] at dp
        obtain ⟨as, ra⟩ := Dp.readsAll I _ vs its dp rv
        rw [Vals.ref1 r]
        refine PySem.W.min_list_data (x := pTup n) (xs := ns.map pTup) (I.ok.hd hc) p.isList (by simpa using ra) (alike_tups (n :: ns)) ?_ fun i v h' tk bs hv rr k => ?_
        · have := depth_tups (n :: ns)
          rw [show pTup n :: ns.map pTup = (n :: ns).map pTup from rfl]
          omega
        · rw [minT_eq] at rr
          obtain ⟨vx, rx, rp⟩ := tup_found hK I rs rv (by simpa using hv) k rr
          exact ⟨vx, H, I.kept k, rx, post_pure M rp P⟩
    · exact P.elim
theorem blsOf_eq : ∀ {xs : List D} {bs : List Bool}, blsOf xs = some bs → xs = bs.map .bl
  | [], bs, e => by simp [blsOf] at e; subst e; rfl
  | x :: r, bs, e => by
    cases x <;> simp only [blsOf, reduceCtorEq, Option.map_eq_some_iff] at e
    obtain ⟨cs, e1, rfl⟩ := e
    rw [blsOf_eq e1]; rfl
theorem Reps.of_bls {H : Hp} {π : List Addr} : ∀ {bs : List Bool} {vs : List V}, Reps G H π (bs.map .bl) vs → vs = bs.map .bl
  | [], _, .nil => rfl
  | n :: r, _, .cons a s => by
    cases a; rw [Reps.of_bls s]; rfl
theorem bls_sq {H : Hp} {π : List Addr} {h : Hm} {x : D} {v : V} {bs : List Bool} (M : HmOk G H π h) (r : Rep G H π x v) (e : (lstOf h x).bind blsOf = some bs) : ∃ a, v = .ref a ∧ SqL G.K H a (bs.map V.bl) := by
  cases q : lstOf h x with
  | none => rw [q] at e; cases e
  | some xs =>
    rw [q] at e
    have e2 := blsOf_eq (show blsOf xs = some bs from e)
    obtain ⟨a, vs, e3, e4, e5⟩ := lstOf_sq M r q
    subst e2
    rw [Reps.of_bls e4] at e5
    exact ⟨a, e3, e5⟩
theorem c_all (hK : G.K = X.K) (hc : X.calm = true) : CallR X (.builtin "all") (rAn G W (evP .alll)) := by
  intro pins s σ H xs us Q I r aa
  obtain ⟨x, rfl, σ', π, h, d, M, rd, P⟩ := rAn1 (g := opAll) (fun ds h q => evP1 rfl q) (fun _ _ => rfl) aa
  unfold opAll at P
  split at P
  · rename_i bs hl
    obtain ⟨a, rfl, sq⟩ := bls_sq M rd hl
    rw [hK] at sq
    exact cr_all hc pins s σ H _ us Q I r ⟨a, bs, rfl, sq, post_pure M (.bl _) P⟩
  · exact P.elim
theorem c_any (hK : G.K = X.K) (hc : X.calm = true) : CallR X (.builtin "any") (rAn G W (evP .anyl)) := by
  intro pins s σ H xs us Q I r aa
  obtain ⟨x, rfl, σ', π, h, d, M, rd, P⟩ := rAn1 (g := opAny) (fun ds h q => evP1 rfl q) (fun _ _ => rfl) aa
  unfold opAny at P
  split at P
  · rename_i bs hl
    obtain ⟨a, rfl, sq⟩ := bls_sq M rd hl
    rw [hK] at sq
    exact cr_any hc pins s σ H _ us Q I r ⟨a, bs, rfl, sq, post_pure M (.bl _) P⟩
  · exact P.elim

/-! ### subscripts -/
theorem at_rel {H : Hp} {π : List Addr} {ds : List D} {vs : List V} {i : Int} {d : D} (r : Reps G H π ds vs) (e : atD ds i = some d) : ∃ v, atI vs i = some v ∧ Rep G H π d v := by
  unfold atD at e
  unfold atI
  rw [← r.length]
  cases q : ixN ds.length i with
  | none => rw [q] at e; cases e
  | some j =>
    rw [q] at e
    exact r.get (show ds[j]? = some d from e)
theorem z_idx (hK : G.K = X.K) : IxR X (rA2 G W opIdx) := by
  intro value slice pins s σ H x y v u Q I rx ry ⟨σ', π, h, dx, dy, M, Rx, Ry, P⟩ hs
  unfold opIdx at P
  split at P
  · cases rep_int Ry
    split at P
    · split at P
      · rename_i hz
        split at P
        · rename_i c hc
          cases rep_str Rx
          exact ix_str value slice pins s σ H _ _ v u Q I rx ry ⟨_, _, c, rfl, rfl, hz, hc, post_pure M (.str _) P⟩ hs
        · exact P.elim
      · exact P.elim
    · split at P
      · rename_i xs hl
        split at P
        · rename_i d hd
          obtain ⟨a, vs, rfl, rs, sq⟩ := listOf_sq M Rx hl
          rw [hK] at sq
          obtain ⟨w, h1, h2⟩ := at_rel rs hd
          rcases sq with sq | sq
          · exact ix_list value slice pins s σ H _ _ v u Q I rx ry ⟨a, vs, _, w, rfl, rfl, sq, h1, post_pure M h2 P⟩ hs
          · exact ix_tup value slice pins s σ H _ _ v u Q I rx ry ⟨a, vs, _, w, rfl, rfl, sq, h1, post_pure M h2 P⟩ hs
        · exact P.elim
      · exact P.elim
  · exact P.elim
theorem cut_rel {H : Hp} {π : List Addr} {ds : List D} {vs : List V} {lo hi : Option Int} (r : Reps G H π ds vs) : Reps G H π (cutD ds lo hi) (cutV vs lo hi) := by
  unfold cutD cutV
  rw [← r.length]
  exact (r.drop _).take _
/-- a slice, by its parts -/
def rSl (G : Gx) (W : WX) : V → Option Int → Option Int → Hp → VK → Prop := fun vx lo hi H Q => ∃ σ π h x dl dh, HmOk G H π h ∧ Rep G H π x vx ∧ partOf dl = some lo ∧ partOf dh = some hi ∧ Post G W σ H π (opSlice x dl dh h) fun _ _ v H' _ => Q v H'
theorem z_slice (hK : G.K = X.K) : SlR X (rSl G W) := by
  intro pins s σ H x v vl vu lo hi sl Q I rx hs pl pu ⟨σ', π, h, dx, dl, dh, M, Rx, el, eh, P⟩
  unfold opSlice at P
  rw [el, eh] at P
  simp only at P
  split at P
  · rename_i xs
    obtain ⟨a, vs, rfl, t, rs⟩ := rep_tup Rx
    rw [hK] at t
    cases rx
    obtain ⟨its, r, ht, hz⟩ := I.tuple t.sqT
    have hlen : its.toArray.size = vs.length := by rw [List.size_toArray]; exact r.length.symm
    refine ⟨"tuple", _, PyProof.Rows.slot_tuple_getitem.lookup, ht.typeIs, ?_⟩
    by_cases hw : HT.sIx vs.length 0 lo = 0 ∧ HT.sIx vs.length vs.length hi = vs.length
    · have ec : cutD xs lo hi = xs := by
        unfold cutD
        rw [rs.length, hw.1, hw.2, List.drop_zero, Nat.sub_zero, ← rs.length, List.take_length]
      rw [ec] at P
      exact L2.getItem_tuple_whole ht hs pl pu (by rw [hlen]; exact hw) ⟨.ref a, H, I, rfl, post_pure M Rx P⟩
    · refine HT.getItem_tuple_cut ht hs pl pu (by rw [hlen]; exact hw) ?_ (by rw [hlen]; exact hz)
      rw [hlen]
      refine ⟨.ref s.heap.objs.size, _, I.laid (t' := s.toks) (o := .frz _ (.tup (cutV vs lo hi))) (fun b ob q => Heap.get?_push_of_some _ q) (Nat.le_refl _) ⟨Heap.get?_push_size _ rfl, ?_⟩, rfl, post_tup M (cut_rel rs) (I.hok.fresh (Nat.le_refl _)) rfl rfl P⟩
      exact ⟨Nat.le_trans (cutV_length vs lo hi) hz, _, (r.drop (HT.sIx vs.length 0 lo)).take (HT.sIx vs.length vs.length hi - HT.sIx vs.length 0 lo), IsTup.new _ _⟩
  · exact P.elim
  · rename_i hnt hns
    split at P
    · rename_i xs hl
      have hl' : lstOf h dx = some xs := by
        unfold lstOf
        split
        · rename_i ys; exact (hnt ys rfl).elim
        · exact hl
      obtain ⟨a, vs, rfl, rs, sq⟩ := lstOf_sq M Rx hl'
      rw [hK] at sq
      exact sl_list pins s σ H _ v vl vu lo hi sl Q I rx hs pl pu ⟨a, vs, rfl, sq, fun p hp => post_new M (cut_rel rs) hp P⟩
    · exact P.elim

/-! ### methods of built-in types -/
/-- the object's type is T, and it has no dict -/
def TyOk (X : Cx) (x : V) (H : Hp) (T : String) : Prop := ∀ (pins : List (Addr × Obj)) (s : Shared) (σ : L2.St) (v : Value), Inv X pins σ H s → RelV x v → s.TypeIs v T ∧ ∀ a, v = .ref a → ∃ ob, s.heap.get? a = some ob ∧ ob.dict = none
theorem tyOk_of {x : V} {H : Hp} {T : String} (h : tyV X.K T x H) : TyOk X x H T := fun pins s σ v I r => tyV_is I r h
theorem tyOk_tup {a : Addr} {vs : List V} {H : Hp} (h : TupF X.K H a vs) : TyOk X (.ref a) H "tuple" := fun pins s σ v I r => by
  cases r
  rcases h with ⟨o, e, hc, hd⟩ | ⟨o, its, n, hk, hc, hd, _⟩
  · obtain ⟨g, _⟩ := I.hok a _ e
    exact ⟨⟨o, g, hc⟩, fun b q => by cases q; exact ⟨o, g, hd⟩⟩
  · exact ⟨⟨o, I.kIn a o hk, hc⟩, fun b q => by cases q; exact ⟨o, I.kIn a o hk, hd⟩⟩
/-- the method that a receiver has by this name: what its call wants -/
def Recv (X : Cx) (x : V) (H : Hp) (name : Str) (r : V → List V → Hp → VK → Prop) : Prop :=
  ∃ T id, PlainAttrs T ∧ Slot T name id ∧ typeOf (.builtin id) = pure (.type "method_descriptor") ∧ MtR X id r ∧ TyOk X x H T
def tMt (X : Cx) (name : Str) (to : TE) (t : TA) : TE := fun σ H Q => to σ H fun x H1 => ∃ r, Recv X x H1 name r ∧ t σ H1 fun xs H2 => r x xs H2 Q
theorem pe_mt0 {o : Expr} {to : TE} {name : Str} {apos cpos : Pos} (ho : PE X o to) (hbase : attributeBase o name X.env (eval o X.env) = eval o X.env) (hline : (apos.endLine == cpos.line) = true) :
    PE X (.Call (.Attribute o name apos) [] [] cpos) (tMt X name to tNil) := by
  refine ⟨fun pins s σ H Q I h => ?_⟩
  refine wpAny_Call_method0_late hbase hline (thn (ho.run pins s σ H _ I h) fun v s1 ⟨x, H1, I1, r1, r, ⟨T, id, pa, slot, hty, hm, ty⟩, q1⟩ => ?_)
  obtain ⟨h1, h2⟩ := ty pins s1 σ v I1 r1
  exact ⟨T, id, pa, slot, hty, h1, h2, Calls.callWith_builtin rfl (PySem.evalArgs_none (hm pins s1 σ H1 x [] v [] Q I1 r1 .nil q1))⟩
theorem pe_mt {o e : Expr} {es : List Expr} {to : TE} {t : TA} {name : Str} {apos cpos : Pos} (ho : PE X o to) (ha : PA X (e :: es) t)
    (hbase : attributeBase o name X.env (eval o X.env) = eval o X.env)
    (hfew : ((backTo cpos (starEach (e :: es) X.env)).all (fun x => !x.1) && (backToKw cpos (keywordEach [] X.env)).all (fun x => x.1.isSome)
      && decide ((e :: es).length + ([] : List Keyword).length + (if ([] : List Keyword).isEmpty then 0 else 1) < 30)) = true)
    (hline : (apos.endLine == cpos.line) = true) (hs : starEach (e :: es) X.env = (false, eval e X.env) :: starEach es X.env) (hplain : (backTo cpos (starEach es X.env)).any (·.1) = false) :
    PE X (.Call (.Attribute o name apos) (e :: es) [] cpos) (tMt X name to t) := by
  refine ⟨fun pins s σ H Q I h => ?_⟩
  refine wpAny_Call_method_late hbase hfew hline rfl (thn (ho.run pins s σ H _ I h) fun v s1 ⟨x, H1, I1, r1, r, ⟨T, id, pa, slot, hty, hm, ty⟩, q1⟩ => ?_)
  obtain ⟨h1, h2⟩ := ty pins s1 σ v I1 r1
  refine ⟨T, id, pa, slot, hty, h1, h2, ?_⟩
  have hA := ha.run cpos pins s1 σ H1 _ I1 q1
  rw [hs] at hA ⊢
  refine Calls.callWith_builtin (by show (false || (backTo cpos (starEach es X.env)).any (·.1)) = false; rw [hplain] <;> rfl) (Calls.evalArgs_plain ?_)
  exact thn hA fun us s2 ⟨vs, H2, I2, r2, q2⟩ => hm pins s2 σ H2 x vs v us Q I2 r1 r2 q2

/-- a method's call, the receiver first -/
def rMt (G : Gx) (W : WX) (p : Pm) : V → List V → Hp → VK → Prop := fun vx vs H Q => ∃ σ π h x ds, HmOk G H π h ∧ Rep G H π x vx ∧ Reps G H π ds vs ∧ Post G W σ H π (evP p (x :: ds) h) fun _ _ v H' _ => Q v H'
theorem onList_ok {H : Hp} {π : List Addr} {h : Hm} {σ : L2.St} {x : D} {vx : V} {f : Nat → List D → R} {C : D → Hm → V → Hp → List Addr → Prop} (M : HmOk G H π h) (r : Rep G H π x vx) (P : Post G W σ H π (onList x h f) C) :
    ∃ k a xs vs, x = .ref k ∧ vx = .ref a ∧ h[k]? = some (.lst xs) ∧ π[k]? = some a ∧ H a = some (.lst vs) ∧ Reps G H π xs vs ∧ Post G W σ H π (f k xs) C := by
  unfold onList at P
  split at P
  · rename_i k
    split at P
    · rename_i xs hk
      obtain ⟨a, vs, rfl, e1, e2, e3⟩ := M.lst hk r
      exact ⟨k, a, xs, vs, rfl, rfl, hk, e1, e2, e3, P⟩
    · exact P.elim
  · exact P.elim
theorem rMt0 {p : Pm} {g : D → Hm → R} {vx : V} {vs : List V} {H : Hp} {Q : VK} (hp : p.one = true) (hg : ∀ x h, evP p [x] h = g x h) (a : rMt G W p vx vs H Q) :
    vs = [] ∧ rA1 G W g vx H Q := by
  obtain ⟨σ, π, h, x, ds, M, rx, rs, P⟩ := a
  cases ds with
  | nil => cases rs; rw [hg] at P; exact ⟨rfl, σ, π, h, x, M, rx, P⟩
  | cons y r => rw [evP1 hp (fun z e => by cases e)] at P; exact P.elim
theorem rMt1 {p : Pm} {g : D → D → Hm → R} {vx : V} {vs : List V} {H : Hp} {Q : VK} (hp : p.two = true) (hg : ∀ x y h, evP p [x, y] h = g x y h) (a : rMt G W p vx vs H Q) :
    ∃ y, vs = [y] ∧ rA2 G W g vx y H Q := by
  obtain ⟨σ, π, h, x, ds, M, rx, rs, P⟩ := a
  by_cases q : ∃ y, ds = [y]
  · obtain ⟨y, rfl⟩ := q
    cases rs with
    | cons r1 r2 => cases r2; rw [hg] at P; exact ⟨_, rfl, σ, π, h, x, y, M, rx, r1, P⟩
  · rw [evP2 hp (fun z y e => q ⟨y, by cases e; rfl⟩)] at P; exact P.elim
theorem m_append : MtR X "list.append" (rMt G W .append) := by
  intro pins s σ H x xs v us Q I rx rxs a
  obtain ⟨y, rfl, σ', π, h, dx, dy, M, Rx, Ry, P⟩ := rMt1 (g := opAppend) rfl (fun _ _ _ => rfl) a
  obtain ⟨k, l, ds, vs, rfl, rfl, hk, hp, ha, rs, P⟩ := onList_ok M Rx P
  split at P
  · rename_i hz
    exact mt_append pins s σ H _ _ v us Q I rx rxs ⟨l, vs, y, rfl, rfl, ha, by rw [← rs.length]; exact hz, post_set M hp ha (rs.append (.cons Ry .nil)) .non P⟩
  · exact P.elim
theorem m_pop : MtR X "list.pop" (rMt G W .pop) := by
  intro pins s σ H x xs v us Q I rx rxs a
  obtain ⟨rfl, σ', π, h, dx, M, Rx, P⟩ := rMt0 (g := opPop) rfl (fun _ _ => rfl) a
  obtain ⟨k, l, ds, vs, rfl, rfl, hk, hp, ha, rs, P⟩ := onList_ok M Rx P
  split at P
  · rename_i d hd
    rw [List.getLast?_eq_getElem?] at hd
    obtain ⟨w, h1, h2⟩ := rs.get hd
    refine mt_pop pins s σ H _ _ v us Q I rx rxs ⟨l, vs, w, rfl, rfl, ha, by rw [← rs.length]; exact h1, post_set M hp ha ?_ h2 P⟩
    rw [List.dropLast_eq_take, List.dropLast_eq_take, ← rs.length]
    exact rs.take _
  · exact P.elim
theorem seq_ix {n k : Nat} {i : Int} (h : ixN n i = some k) : seqIndex? i n = some k := by
  unfold ixN at h
  unfold seqIndex?
  by_cases c : 0 ≤ i
  · rw [if_pos c] at h
    by_cases c2 : i < (n : Int)
    · rw [if_pos c2] at h
      have : ¬ i < 0 := by omega
      simp only [this, if_false, c, c2, decide_true, Bool.and_self, if_true]
      exact h
    · rw [if_neg c2] at h; cases h
  · rw [if_neg c] at h
    by_cases c2 : -(n : Int) ≤ i
    · rw [if_pos c2] at h
      have e1 : i < 0 := by omega
      have e2 : 0 ≤ i + (n : Int) := by omega
      have e3 : i + (n : Int) < n := by omega
      simp only [e1, if_true, e2, e3, decide_true, Bool.and_self]
      exact h
    · rw [if_neg c2] at h; cases h
theorem Reps.erase {H : Hp} {π : List Addr} : ∀ {ds : List D} {vs : List V} (n : Nat), Reps G H π ds vs → Reps G H π (ds.eraseIdx n) (vs.eraseIdx n)
  | _, _, _, .nil => .nil
  | _, _, 0, .cons _ r => r
  | _, _, n + 1, .cons a r => .cons a (Reps.erase n r)
theorem m_popat : MtR X "list.pop" (rMt G W .popat) := by
  intro pins s σ H x xs v us Q I rx rxs a
  obtain ⟨y, rfl, σ', π, h, dx, dy, M, Rx, Ry, P⟩ := rMt1 (g := opPopat) rfl (fun _ _ _ => rfl) a
  obtain ⟨k, l, ds, vs, rfl, rfl, hk, hp, ha, rs, P⟩ := onList_ok M Rx P
  split at P
  · rename_i i
    split at P
    · rename_i hz
      cases rep_int Ry
      unfold small at hz
      have hz := of_decide_eq_true hz
      split at P
      · rename_i j hj
        split at P
        · rename_i d hd
          obtain ⟨w, h1, h2⟩ := rs.get hd
          rw [rs.length] at hj
          exact mt_popAt pins s σ H _ _ v us Q I rx rxs ⟨l, vs, _, j, w, rfl, rfl, ha, by omega, by omega, seq_ix hj, h1, post_set M hp ha (rs.erase j) h2 P⟩
        · exact P.elim
      · exact P.elim
    · exact P.elim
  · exact P.elim
theorem m_insert : MtR X "list.insert" (rMt G W .insert) := by
  intro pins s σ H x xs v us Q I rx rxs a
  obtain ⟨σ', π, h, dx, ds, M, Rx, rds, P⟩ := a
  match ds, rds, P with
  | [], _, P => exact P.elim
  | [_], _, P => cases dx <;> exact P.elim
  | _ :: _ :: _ :: _, _, P => exact P.elim
  | [di, dy], .cons Ri (.cons Ry .nil), P =>
    change Post G W σ' H π (opInsert dx di dy h) (fun _ _ v H' _ => Q v H') at P
    obtain ⟨k, l, ds, vs, rfl, rfl, hk, hp, ha, rs, P⟩ := onList_ok M Rx P
    split at P
    · rename_i i _
      split at P
      · rename_i hz
        cases rep_int Ri
        exact mt_insert pins s σ H _ _ v us Q I rx rxs ⟨l, vs, i, _, rfl, rfl, ha, by rw [← rs.length]; exact hz.1, hz.2.1, by omega, post_set M hp ha (((rs.take i.toNat).append (.cons Ry .nil)).append (rs.drop i.toNat)) .non P⟩
      · exact P.elim
    · exact P.elim
theorem m_reverse : MtR X "list.reverse" (rMt G W .reverse) := by
  intro pins s σ H x xs v us Q I rx rxs a
  obtain ⟨rfl, σ', π, h, dx, M, Rx, P⟩ := rMt0 (g := opReverse) rfl (fun _ _ => rfl) a
  obtain ⟨k, l, ds, vs, rfl, rfl, hk, hp, ha, rs, P⟩ := onList_ok M Rx P
  exact mt_reverse pins s σ H _ _ v us Q I rx rxs ⟨l, vs, rfl, rfl, ha, post_set M hp ha rs.reverse .non P⟩
theorem m_clear : MtR X "list.clear" (rMt G W .clear) := by
  intro pins s σ H x xs v us Q I rx rxs a
  obtain ⟨rfl, σ', π, h, dx, M, Rx, P⟩ := rMt0 (g := opClear) rfl (fun _ _ => rfl) a
  obtain ⟨k, l, ds, vs, rfl, rfl, hk, hp, ha, rs, P⟩ := onList_ok M Rx P
  exact mt_clear pins s σ H _ _ v us Q I rx rxs ⟨l, vs, rfl, rfl, ha, post_set M hp ha .nil .non P⟩
theorem m_extend : MtR X "list.extend" (rMt G W .extend) := by
  intro pins s σ H x xs v us Q I rx rxs a
  obtain ⟨y, rfl, σ', π, h, dx, dy, M, Rx, Ry, P⟩ := rMt1 (g := opExtend) rfl (fun _ _ _ => rfl) a
  obtain ⟨k, l, ds, vs, rfl, rfl, hk, hp, ha, rs, P⟩ := onList_ok M Rx P
  obtain ⟨k2, l2, ds2, vs2, rfl, rfl, hk2, hp2, ha2, rs2, P⟩ := onList_ok M Ry P
  split at P
  · rename_i hz
    exact mt_extend pins s σ H _ _ v us Q I rx rxs ⟨l, l2, vs, vs2, rfl, rfl, ha, ha2, by rw [← rs.length, ← rs2.length]; exact hz, post_set M hp ha (rs.append rs2) .non P⟩
  · exact P.elim
/-- the first place of an equal item -/
theorem m_index (hK : G.K = X.K) (hu : X.A.units + 65 < cLine) : MtR X "list.index" (rMt G W .index) := by
  intro pins s σ H x xs v us Q I rx rxs a
  obtain ⟨y, rfl, σ', π, h, dx, dy, M, Rx, Ry, P⟩ := rMt1 (g := opIndex) rfl (fun _ _ _ => rfl) a
  unfold opIndex at P
  split at P
  · rename_i zs hl
    split at P
    · rename_i ps q e1 e2
      split at P
      · rename_i hs
        split at P
        · rename_i j hj
          obtain ⟨l, vs, rfl, rs, sq⟩ := lstOf_sq M Rx hl
          have d1 := toPs_dp M _ _ _ _ e1 rs
          have d2 := toP_dp M _ _ _ _ e2 Ry
          rw [hK] at sq d1 d2
          rw [List.findIdx?_eq_some_iff_getElem] at hj
          obtain ⟨hjl, hj1, hj2⟩ := hj
          refine mt_indexD hu pins s σ H _ _ v us Q I rx rxs ⟨l, y, q, ps, j, ps[j], rfl, rfl, .lst sq d1, d2, hs.1, hs.2, List.getElem?_eq_getElem hjl, hj1, fun m z' hm hz => ?_, post_pure M (.int _) P⟩
          have := hj2 m hm
          have hml : m < ps.length := Nat.lt_trans hm hjl
          rw [List.getElem?_eq_getElem hml] at hz
          cases hz
          simpa using this
        · exact P.elim
      · exact P.elim
    · exact P.elim
  · exact P.elim
/-- tuple.count of ints -/
def rCntT (K : PySem.W.Frag) : V → List V → Hp → VK → Prop := fun x xs H Q => ∃ (p : Addr) (ns : List Int) (k : Int), x = .ref p ∧ xs = [.int k] ∧ TupF K H p (ns.map V.int) ∧ Q (.int (ns.count k : Nat)) H
theorem mt_tcount : MtR X "tuple.count" (rCntT X.K) := by
  intro pins s σ H x xs v us Q I rx rxs h
  obtain ⟨p, ns, k, rfl, rfl, hs, q⟩ := h
  cases rx
  obtain ⟨u, rfl, ru⟩ := rxs.one
  obtain ⟨t, rfl⟩ := ru
  obtain ⟨its, rv, ⟨⟨cls, dd, data, sl⟩, ho, hc, n, hd⟩, hlen⟩ := I.tuple hs.sqT
  simp only at hc hd
  subst hc hd
  have hi := ints_of_vals rv
  refine call_meets PySem.F.slot_tuple_count ⟨_, ho, rfl⟩ PySem.F.entry_tuple_count (PySem.F.args_tuple_count_2 _ _)
    (SeqAt.tuple_countAt p its.toArray n dd sl (.int k t) (eqk k)) ⟨ho, fun y hy => (eqk_gives hi y (by simpa using hy)).at _ _, ?_⟩
  have ec : its.toArray.toList.countP (eqk k) = ns.count k := eqk_count hi
  refine ⟨.int (ns.count k : Nat), H, I.tok _, ⟨s.toks, ?_⟩, q⟩
  show Value.int ((its.toArray.toList.countP (eqk k) : Nat) : Int) s.toks = Value.int ((ns.count k : Nat) : Int) s.toks
  rw [ec]
theorem opCount_ok {H : Hp} {π : List Addr} {h : Hm} {σ : L2.St} {x y : D} {vx vy : V} {Q : VK} (M : HmOk G H π h) (Rx : Rep G H π x vx) (Ry : Rep G H π y vy) (P : Post G W σ H π (opCount x y h) fun _ _ v H' _ => Q v H') :
    ∃ (a : Addr) (ns : List Int) (k : Int), vx = .ref a ∧ vy = .int k ∧ (TupF G.K H a (ns.map V.int) ∨ SqL G.K H a (ns.map V.int)) ∧ Q (.int (ns.count k : Nat)) H := by
  unfold opCount at P
  split at P
  · rename_i xs hl
    split at P
    · rename_i ns i hn
      have e2 := intsOf_eq hn
      subst e2
      cases rep_int Ry
      obtain ⟨a, vs, rfl, rs, kd⟩ := listOf_ok M Rx hl
      rw [Reps.of_ints rs] at kd
      refine ⟨a, ns, _, rfl, rfl, ?_, post_pure M (.int _) P⟩
      rcases kd with ⟨_, t⟩ | ⟨t, _⟩ | ⟨n, _, _, _, t⟩
      · exact .inl t
      · exact .inr t.sq
      · exact .inr (.of t)
    · exact P.elim
  · exact P.elim
theorem m_tcount (hK : G.K = X.K) {a : Addr} {vs : List V} : MtR X "tuple.count" (fun vx ws H Q => (vx = .ref a ∧ TupF X.K H a vs) ∧ rMt G W .count vx ws H Q) := by
  intro pins s σ H x xs v us Q I rx rxs ⟨⟨ex, ht⟩, aa⟩
  obtain ⟨y, rfl, σ', π, h, dx, dy, M, Rx, Ry, P⟩ := rMt1 (g := opCount) rfl (fun _ _ _ => rfl) aa
  obtain ⟨a', ns, k, e, rfl, kd, q⟩ := opCount_ok M Rx Ry P
  subst e
  have e' : a' = a := by injection ex
  clear ex
  subst e'
  rw [hK] at kd
  rcases kd with t | t
  · exact mt_tcount pins s σ H _ _ v us Q I rx rxs ⟨_, ns, k, rfl, rfl, t, q⟩
  · obtain ⟨its, _, pl, _⟩ := I.list t
    obtain ⟨ob, n, g, hc, hd, _⟩ := pl
    obtain ⟨its2, _, ⟨ob2, g2, hc2, _⟩, _⟩ := I.tuple ht.sqT
    rw [g] at g2; cases g2; rw [hc] at hc2; exact absurd hc2 (by decide)
theorem m_lcountA (hK : G.K = X.K) {a : Addr} : MtR X "list.count" (fun vx ws H Q => (∃ vs, vx = .ref a ∧ SqL X.K H a vs) ∧ rMt G W .count vx ws H Q) := by
  intro pins s σ H x xs v us Q I rx rxs ⟨⟨vs, ex, z⟩, aa⟩
  obtain ⟨y, rfl, σ', π, h, dx, dy, M, Rx, Ry, P⟩ := rMt1 (g := opCount) rfl (fun _ _ _ => rfl) aa
  obtain ⟨a', ns, k, e, rfl, kd, q⟩ := opCount_ok M Rx Ry P
  subst e
  have e' : a' = a := by injection ex
  clear ex
  subst e'
  rw [hK] at kd
  rcases kd with t | t
  · obtain ⟨its, _, pl, _⟩ := I.list z
    obtain ⟨ob, n, g, hc, hd, _⟩ := pl
    obtain ⟨its2, _, ⟨ob2, g2, hc2, _⟩, _⟩ := I.tuple t.sqT
    rw [g] at g2; cases g2; rw [hc] at hc2; exact absurd hc2 (by decide)
  · exact mt_lcount pins s σ H _ _ v us Q I rx rxs ⟨_, ns, k, rfl, rfl, t, q⟩

/-! ### o[i] = v -/
def rSet (G : Gx) (W : WX) : V → V → V → Hp → (Hp → Prop) → Prop := fun vo vi v H Q => ∃ σ π h o i d, HmOk G H π h ∧ Rep G H π o vo ∧ Rep G H π i vi ∧ Rep G H π d v ∧ Post G W σ H π (opSetix o i d h) fun _ _ _ H' _ => Q H'
theorem z_set : PSet X (rSet G W) := by
  intro pins s σ H o i v ov iv u Q I ro ri rv ⟨σ', π, h, dO, di, d, M, Ro, Ri, Rd, P⟩
  obtain ⟨k, l, ds, vs, rfl, rfl, hk, hp, ha, rs, P⟩ := onList_ok M Ro P
  split at P
  · split at P
    · rename_i j hj
      cases rep_int Ri
      exact set_list pins s σ H _ _ _ ov iv u Q I ro ri rv ⟨l, vs, _, j, rfl, rfl, ha, by rw [← rs.length]; exact hj, post_set (Q := fun _ H' => Q H') M hp ha (rs.set j Rd) .non P⟩
    · exact P.elim
  · exact P.elim

/-! ### isinstance -/
def tyN : D → String
  | .non => "NoneType" | .bl _ => "bool" | .int _ => "int" | .str _ => "str" | .tup _ => "tuple" | _ => "list"
def kitA (T C : String) : Bool := T == C || (T == "bool" && C == "int")
theorem kit_all : ∀ T ∈ ["NoneType", "bool", "int", "str", "tuple", "list"], ∀ C ∈ ["int", "bool", "str", "tuple", "list"], kitB T C = some (kitA T C) := by
  intro T hT C hC
  simp only [List.mem_cons, List.not_mem_nil, or_false] at hT hC
  rcases hT with rfl | rfl | rfl | rfl | rfl | rfl <;> rcases hC with rfl | rfl | rfl | rfl | rfl <;> decide +kernel
theorem tyN_mem (d : D) : tyN d ∈ ["NoneType", "bool", "int", "str", "tuple", "list"] := by
  cases d <;> simp [tyN]
/-- the type of what a datum stands for, by its name -/
theorem rep_ty {H : Hp} {π : List Addr} {h : Hm} {d : D} {v : V} (hK : G.K = X.K) (M : HmOk G H π h) (r : Rep G H π d v) (hx : ∀ c f e, d ≠ .xv c f e) (ho : ∀ xs, d ≠ .ro xs) (hr : ∀ k, d = .ref k → ∃ xs, h[k]? = some (.lst xs)) :
    TyX X.K H v (.type (tyN d)) := by
  cases r with
  | non => exact .base .non
  | bl b => exact .base (.bl b)
  | int b => exact .base (.int b)
  | str b => exact .base (.str b)
  | tup t rs =>
    rw [hK] at t
    rcases t with ⟨o, e, _⟩ | ⟨o, its, n, hk, hc, _⟩
    · exact .fTuple e
    · exact .kTuple hk hc
  | @ref n a hp =>
    obtain ⟨xs, hh⟩ := hr n rfl
    obtain ⟨a', vs, e1, e2, e3, e4⟩ := M.lst hh (.ref hp)
    cases e1
    exact .base (.lst e3)
  | ro t rs => exact (ho _ rfl).elim
  | xv => exact (hx _ _ _ rfl).elim
/-- which test of a kind is that of which class -/
def kOf (h : Hm) : String → D → Option Bool
  | "int" => kInt | "bool" => kBool | "str" => kStr | "tuple" => kTup | "list" => kList h | _ => fun _ => none
theorem kOf_ok {h : Hm} {d : D} {C : String} {b : Bool} (hC : C ∈ ["int", "bool", "str", "tuple", "list"]) (e : kOf h C d = some b) (hr : ∀ k, d = .ref k → ∃ xs, h[k]? = some (.lst xs)) :
    b = kitA (tyN d) C ∧ (∀ c f e, d ≠ .xv c f e) ∧ ∀ xs, d ≠ .ro xs := by
  simp only [List.mem_cons, List.not_mem_nil, or_false] at hC
  cases d with
  | xv c f g => rcases hC with rfl | rfl | rfl | rfl | rfl <;> simp [kOf, kInt, kBool, kStr, kTup, kList] at e
  | ro xs => rcases hC with rfl | rfl | rfl | rfl | rfl <;> simp [kOf, kInt, kBool, kStr, kTup, kList] at e
  | ref k =>
    obtain ⟨xs, hk⟩ := hr k rfl
    refine ⟨?_, (fun c f e q => by cases q), fun xs q => by cases q⟩
    rcases hC with rfl | rfl | rfl | rfl | rfl <;> simp [kOf, kInt, kBool, kStr, kTup, kList, hk] at e <;> subst e <;> simp [tyN, kitA]
  | _ =>
    refine ⟨?_, (fun c f e q => by cases q), fun xs q => by cases q⟩
    rcases hC with rfl | rfl | rfl | rfl | rfl <;> simp [kOf, kInt, kBool, kStr, kTup, kList] at e <;> subst e <;> simp [tyN, kitA]
theorem z_isi {H : Hp} {π : List Addr} {h : Hm} {d : D} {v : V} {C : String} {b : Bool} (hK : G.K = X.K) (M : HmOk G H π h) (r : Rep G H π d v) (hC : C ∈ ["int", "bool", "str", "tuple", "list"]) (e : kOf h C d = some b) (hr : ∀ k, d = .ref k → ∃ xs, h[k]? = some (.lst xs)) :
    TyX X.K H v (.type (tyN d)) ∧ PySem.W.kitOne X.K (.type (tyN d)) (.type C) = some b := by
  obtain ⟨h1, h2, hro⟩ := kOf_ok hC e hr
  refine ⟨rep_ty hK M r h2 hro hr, kit_ty ?_⟩
  rw [kit_all _ (tyN_mem d) _ hC, h1]
end
end Z

set_option Elab.async false
set_option linter.all false
namespace Z
open PySem PySem.Spec PyProof.Rows L2
/-! ### exceptions that were raised with no other one handled -/
abbrev Takes := L2N.Takes
abbrev CX := L2N.CX
abbrev PMk := L2N.PMk
abbrev Zc := L2N.Zn
variable {X : Cx} {W : WX}
theorem takes_none5 : Takes X fun _ _ _ _ => False := fun u s' ⟨_, _, _, _, _, _, _, _, _, _, _, _, _, _, _, _, z⟩ => z.elim
theorem takes_of {E : XK} (h1 : X.stack = X.env :: X.outer) (h2 : X.env.frame = some X.env.locals) (h3 : X.ex = []) {E₁ : Value → Shared → Prop} (h4 : X.xe = fun e s' => wpAny (model X.prog X.w) X.A (leaving X.env e) (fun _ s'' => CX X.prog X.w X.outer X.H_0 X.s_0 E e s'') E₁ s') : Takes X fun cls d _ H => E cls d H := L2N.takes_of h1 h2 h3 h4
theorem passAt (h : Takes X W) (σ : L2.St) : PassesAt (CX X.prog X.w) X σ (fun cls d H => W cls d σ H) := L2N.passAt h σ
/-- an except suite: the exception was raised with no other one handled -/
theorem hotc {a : Addr} {oe : Obj} {cls : Value} {d : Option Addr} {pn : List (Addr × Obj)} (hz : Zc cls d oe) (hf : ∃ vs, oe.data = .fields vs) : L2H.HotC (X.suite a ((a, oe) :: pn)) := by
  obtain ⟨vs, hv⟩ := hf
  exact ⟨(a, oe), ⟨rfl, vs, hv, hz.2.2 vs hv⟩, List.mem_cons_self⟩
end Z

set_option Elab.async false
set_option linter.all false
set_option maxRecDepth 100000
set_option maxHeartbeats 4000000
/-! exceptions that are held, with a dict too: isinstance, attributes -/
namespace ZH
open PySem PySem.Spec PySem.Calls PyProof.Rows PySem.W
section
variable {prog : Program} {w : World} {A : Around} {E : Value → Shared → Prop} {s : Shared} {K : Frag} {x D : Addr} {ox : Obj} {od : Option Obj}
theorem findObj_data {C : Addr} {name : Str} {a g : Value} (hc : (clsIn K C).isSome = true) (ha : findIn K (.ref C) name = some (some a)) (hg : specialIn K a "__get__" = some (some g)) (ht : takesIn K a = some true) : findObj K C od name = some (.bind g a) := by
  obtain ⟨cd, hc⟩ := Option.isSome_iff_exists.mp hc
  unfold findObj
  rw [hc, Option.bind_some, ha, Option.bind_some]
  simp [hg, ht]
theorem kin_class {Q : Option Value → Shared → Prop} (hga : findIn K (.ref D) "__getattribute__" = some (some (.builtin "BaseException.__getattribute__"))) (hgt : findIn K (.ref D) "__getattr__" = some none) (hsub : subIn K (.ref D) (.type "BaseException") = some true)
    (hdct : hasDictIn K D = true) (ha : findIn K (.ref D) "__class__" = some (some (.builtin "object.__class__")))
    (hn : specialIn K (.builtin "object.__class__") "__get__" = some (some (.builtin "getset_descriptor.__get__"))) (htk : takesIn K (.builtin "object.__class__") = some true) (hm : mroIn K D (.type "object") = some true)
    (X : K.In s.heap) (I : InstAt s.heap x ox D od) (h : Q (some (.ref D)) { s with toks := s.toks + 1 }) : wpAny (model prog w) A (getAttr? (.ref x) "__class__") Q E s := by
  have hf : findObj K D od "__class__" = some (.bind (.builtin "getset_descriptor.__get__") (.builtin "object.__class__")) := findObj_data (by obtain ⟨cd, hc, _⟩ := any_some hdct; rw [hc]; rfl) ha hn htk
  obtain ⟨hp, g, d, t, os⟩ := s
  have L0 := I.type (M := model prog w)
  have L1 := looks_findIn (M := model prog w) X hga
  have L2 := looks_findIn (M := model prog w) X hgt
  have L3 := looks_find (M := model prog w) X I hf
  have sub : Looks (model prog w) hp (isInstance (.ref x) (.type "BaseException")) true := L0.andThen (looks_subIn X hsub)
  have hx0 : (false && onTheHeap (Value.builtin "BaseException.__getattribute__")) = false := rfl
  have hx2 : (Value.builtin "BaseException.__getattribute__" == Value.builtin "object.__getattribute__") = false := by decide +kernel
  have hx1 : (onTheHeap (Value.ref D) && Value.builtin "BaseException.__getattribute__" == Value.builtin "object.__getattribute__") = false := by rw [hx2]; rfl
  unfold getAttr? getAttrBy? getAttrBy
  refine wpAny_bind (wpAny_mkText (wpAny_bind (wpAny_attempt (wpAny_holding (wpAny_bind (L0.at (wpAny_bind (L1.at ?_))))))))
  show wpAny _ _ (if (onTheHeap (Value.ref D) && Value.builtin "BaseException.__getattribute__" == Value.builtin "object.__getattribute__") = true then _ else _) _ _ _
  rw [hx1, if_neg Bool.false_ne_true]
  unfold getAttrByItsOwn hookBefore
  refine wpAny_bind ?_
  rw [if_pos (show onTheHeap (Value.ref D) = true from rfl)]
  refine L2.at ?_
  refine wpAny_bind (wpAny_attempt (wpAny_holding ?_))
  unfold callGetattribute
  rw [hx0, if_neg Bool.false_ne_true]
  unfold boundAndCalled
  rw [PySem.F.excAttr_ValueError.ga.bind (.ref x)]
  refine wpAny_bind (wpAny_pure ?_)
  show wpAny _ _ (call (.builtin "BaseException.__getattribute__") [.ref x, .str "__class__" t]) _ _ _
  refine wpAny_call (codeAny_call_builtin PySem.F.excAttr_ValueError.ga.plain PySem.F.entry_bexc_ga ?_)
  refine @check_slot (model prog w) _ _ ⟨hp, g, d, t + 1, os⟩ "BaseException.__getattribute__" "BaseException" "__getattribute__" (.ref x) [.str "__class__" t] [] _ (by decide +kernel) (by decide +kernel) sub (PySem.F.args_bexc_ga (.ref x) (.str "__class__" t)) ?_
  unfold Builtin.«object.__getattribute__»
  refine wpAny_bind (wpAny_of_eq (a := ((Value.ref x : Value), [Value.str "__class__" t])) (by first | rfl | (simp only [slotArgs]; rfl)) ?_)
  refine wpAny_bind (wpAny_pure (wpAny_bind (L0.at (wpAny_bind (L3.at ?_)))))
  show wpAny _ _ (holding [Value.builtin "object.__class__"] (call (.builtin "getset_descriptor.__get__") [.builtin "object.__class__", .ref x, .ref D]) >>= ret) _ _ _
  refine wpAny_bind (wpAny_holding (wpAny_call (class_get (s := ⟨hp, g, d, t + 1, os⟩) (ox := ox) (od := od) X I hm ?_)))
  refine wpAny_pure ?_
  show wpAny _ _ (handedOut (.ref D)) _ _ _
  rw [handedOut_of (v := .ref D) rfl]
  first
    | exact wpAny_pure (wpAny_pure h)
    | exact wpAny_pure h
    | exact wpAny_pure (wpAny_bind (wpAny_pure (wpAny_pure h)))
theorem kitx_exc (hga : findIn K (.ref D) "__getattribute__" = some (some (.builtin "BaseException.__getattribute__"))) (hgt : findIn K (.ref D) "__getattr__" = some none) (hsub : subIn K (.ref D) (.type "BaseException") = some true) (hdct : hasDictIn K D = true) (ha : findIn K (.ref D) "__class__" = some (some (.builtin "object.__class__")))
    (hn : specialIn K (.builtin "object.__class__") "__get__" = some (some (.builtin "getset_descriptor.__get__"))) (htk : takesIn K (.builtin "object.__class__") = some true) (hm : mroIn K D (.type "object") = some true) :
    KitX K (.ref x) (.ref D) (fun h => InstAt h x ox D od) where
  ty := fun _ _ _ I => I.type
  it := fun _ _ X _ => by
    obtain ⟨cdD, hcD, _⟩ := any_some hdct
    unfold clsIn at hcD
    split at hcD
    · rename_i c' d' cd' sl' ho
      intro A' Q' E' s' k q
      unfold isType loadHead
      exact wpAny_bind (wpAny_loadPart (k _ _ (X _ _ ho)) (wpAny_pure q))
    · cases hcD
  ne := fun h tp dd its n sl X htp => by
    obtain ⟨cdD, hcD, _⟩ := any_some hdct
    refine Bool.eq_false_iff.mpr fun q => ?_
    have e : D = tp := Value.ref.inj (beq_iff_eq.mp q)
    subst e
    unfold clsIn at hcD
    split at hcD
    · rename_i c' d' cd' sl' ho
      have z := (X _ _ ho).symm.trans htp
      cases z
    · cases hcD
  ca := fun X I k => kin_class hga hgt hsub hdct ha hn htk hm X I k
end
end ZH
namespace Z
open PySem PySem.Spec PyProof.Rows L2
/-- the exception's dict, if it has one, is tracked -/
def XdOk (H : Hp) (d : Option Addr) : Prop := d = none ∨ ∃ dd gs, d = some dd ∧ H dd = some (.xd gs)
theorem XFields.xd {G : Gx} {H : Hp} {π : List Addr} {fs : List Str} {ds : List D} {d : Option Addr} (x : XFields G H π fs ds d) : XdOk H d := by
  rcases x with ⟨h, _⟩ | ⟨dd, gs, h1, h2, _⟩
  · exact .inl h
  · exact .inr ⟨dd, gs, h1, h2⟩
theorem inst_at {X : Cx} {a D : Addr} {oe : Obj} {d : Option Addr} {pins : List (Addr × Obj)} {s : Shared} {σ : L2.St} {H : Hp} (hp : (a, oe) ∈ X.pn) (hz : oe.cls = .ref D ∧ oe.dict = d) (hf : ∃ vs, oe.data = .fields vs) (I : L2.Inv X pins σ H s) (hx : XdOk H d) :
    ∃ od, PySem.W.InstAt s.heap a oe D od := by
  obtain ⟨hget, _⟩ := I.pin (a, oe) (List.mem_append_left _ hp)
  obtain ⟨vs, hv⟩ := hf
  rcases hx with rfl | ⟨dd, gs, rfl, e⟩
  · refine ⟨none, hget, hz.1, ?_, ?_⟩
    · unfold PySem.W.notCls; rw [hv]
    · rw [hz.2]; trivial
  · obtain ⟨mA, hns, hr⟩ := (show ObjOk X.prog X.w H s.heap dd (.xd gs) from I.hok dd _ e)
    obtain ⟨od, ho, hl⟩ := lookIn_ns hns
    refine ⟨some od, hget, hz.1, ?_, ?_⟩
    · unfold PySem.W.notCls; rw [hv]
    · rw [hz.2]; exact ho
/-- isinstance(e, c), isinstance(e, (c, ..)), e the exception that is held -/
def rIsX (K : PySem.W.Frag) (D a : Addr) (d : Option Addr) : List V → Hp → VK → Prop := fun xs H Q => XdOk H d ∧ (rIsE K D a xs H Q ∨
  ∃ tp cs us b, xs = [.ref a, .ref tp] ∧ H tp = some (.tup cs) ∧ Paired ClsV cs us ∧ PySem.W.kitAny K (.ref D) us = some b ∧ Q (.bl b) H)
theorem call_isX {X : Cx} {a D : Addr} {oe : Obj} {d : Option Addr} (hp : (a, oe) ∈ X.pn) (C : ExcC X.K D) (hz : oe.cls = .ref D ∧ oe.dict = d) (hf : ∃ vs, oe.data = .fields vs) : CallR X (.builtin "isinstance") (rIsX X.K D a d) := by
  intro pins s σ H xs us Q I r ⟨hx, h⟩
  obtain ⟨od, J⟩ := inst_at hp hz hf I hx
  rcases h with ⟨c, cv, b, rfl, hcv, e, q⟩ | ⟨tp, cs, ws, b, rfl, hT, kk, e, q⟩
  · obtain ⟨u1, u2, rfl, r1, r2⟩ := vals2 r
    cases (show u1 = Value.ref a from r1)
    have ec := hcv _ r2
    subst ec
    exact PySem.W.kia_one (ZH.kitx_exc C.hg C.hk C.hs C.hd C.ha C.hn C.ht C.hm) I.kIn J e (fun z => nomatch z) fun tk => ⟨.bl b, H, I.kept (t' := tk) fun _ _ z => z, rfl, q⟩
  · obtain ⟨u1, u2, rfl, r1, r2⟩ := vals2 r
    cases (show u1 = Value.ref a from r1)
    cases (show u2 = Value.ref tp from r2)
    obtain ⟨_, its, rv, o, h1, h2, n, h3⟩ := (show ObjOk X.prog X.w H s.heap tp (.tup cs) from I.hok tp _ hT)
    have e3 := ClsV.all kk rv
    subst e3
    obtain ⟨oc, od, dt, sl⟩ := o
    simp only at h2 h3
    subst h2 h3
    exact PySem.W.kia_tup (ZH.kitx_exc C.hg C.hk C.hs C.hd C.ha C.hn C.ht C.hm) I.kIn J h1 e (fun z => nomatch z) fun tk => ⟨.bl b, H, I.tok tk, rfl, q⟩
/-- e.f, e the exception that is held -/
def tXfP (a : Addr) (d : Option Addr) (f : Str) (te : TE) : TE := fun σ H Q => te σ H fun x H1 => x = .ref a ∧ ∃ (dd : Addr) (fs : List (Str × V)) (v : V), d = some dd ∧ H1 dd = some (.xd fs) ∧ fs.lookup f = some v ∧ Q v H1
theorem pe_xfP {X : Cx} {a C : Addr} {oe : Obj} {d : Option Addr} {e : Expr} {te : TE} {pos : Pos} {n : Str} (hp : (a, oe) ∈ X.pn) (T : ExcC X.K C) (hno : PySem.W.findIn X.K (.ref C) n = some none)
    (hz : oe.cls = .ref C ∧ oe.dict = d) (hf : ∃ vs, oe.data = .fields vs) (he : PE X e te) (hb : attributeBase e n X.env (eval e X.env) = eval e X.env := by rfl) :
    PE X (.Attribute e n pos) (tXfP a d n te) := by
  refine ⟨fun pins s σ H Q I h => ?_⟩
  refine attr_of hb (thn (he.run pins s σ H _ I h) fun u s1 hh => ?_)
  obtain ⟨x, H1, I1, rx, ex, dd, fs, v, ed, ea, l, q⟩ := hh
  subst ex
  obtain rfl : u = Value.ref a := rx
  subst ed
  obtain ⟨ha, _⟩ := I1.pin (a, oe) (List.mem_append_left _ hp)
  obtain ⟨vs, hd⟩ := hf
  have hx : ObjOk X.prog X.w H1 s1.heap dd (.xd fs) := I1.hok dd _ ea
  obtain ⟨mA, hns, hr⟩ := hx
  obtain ⟨od, ho, hl⟩ := lookIn_ns hns
  obtain ⟨u, hu, ru⟩ := RelO.some_of (v := v) (o := mA n) (by rw [← l]; exact hr n)
  have J : PySem.W.InstAt s1.heap a oe C (some od) := ⟨ha, hz.1, by unfold PySem.W.notCls; rw [hd] <;> rfl, by rw [hz.2]; exact ho⟩
  exact HandSPX.exc_get I1.kIn J T.hg T.hk T.hs (PySem.W.findObj_own T.hd hno rfl (by rw [hl, hu])) (handed_of ru) ⟨v, H1, I1.tok _, ru, q⟩
end Z

set_option Elab.async false
set_option linter.all false
set_option maxRecDepth 100000
set_option maxHeartbeats 4000000
/-! defs that are called while an exception is handled, which may be given them -/
namespace Z
open PySem PySem.Spec PyProof.Rows L2 L2H HotX
structure FnX (P : Program) (w : World) (K : PySem.W.Frag) (mg : Str → Option Value) (base : Heap) (C : CXT) (k : Nat) (f : Addr) (fd : FuncData) (ps : List Str) (sp : Addr × Obj → Sp) : Prop where
  len : ∀ p vs H Q E, sp p vs H Q E → vs.length = ps.length
  run : ∀ (A : Around) (outer : List Env) (s : Shared) (H : Hp) (args : Args) (us : List Value) (vs : List V) (Q : VK) (E : XK) (p : Addr × Obj), RoomH k A → Hot1 A p → PinOk outer H s p → Env0 P w K mg base A outer s H → BindsTo s fd args (ps.zip us) → Vals vs us → sp p vs H Q E →
    codeAny (model P w) A (.call (.ref f) args) (CR C outer P w H s Q E) s
theorem fn_ofX {C : CXT} {P : Program} {w : World} {K : PySem.W.Frag} {mg : Str → Option Value} {base : Heap} {k : Nat} {f : Addr} {name qual : Str} {params : Arguments} {body : List Stmt} {scope : Scope} {dV kV doc pm cdv ct oc : Value} {an od : Option Addr}
    {osl : Array (Option Value)} {N ps : List Str} {sp : Addr × Obj → Sp} (lk : K.lookup f = some ⟨oc, od, .func (PySem.W.fnOf name qual params body scope dV kV doc pm an cdv ct), osl⟩) (hcd : PySem.W.codeIn K cdv qual = true) (S : FnScope N ps scope)
    (len : ∀ p vs H Q E, sp p vs H Q E → vs.length = ps.length)
    (hbody : ∀ (A : Around) (outer : List Env) (s : Shared) (H : Hp) (vs : List V) (Q : VK) (E : XK) (p : Addr × Obj), Hot1 A p → RoomH k (A.deeper (envOfC qual scope s.heap.objs.size f cdv)) → sp p vs H Q E →
      ∃ t, PSs (cxH C P w K mg base N qual scope f cdv A outer s H E p) body t ∧ t { nx := fun _ H' => Q .non H', rt := Q } (L2.start N vs) H) :
    FnX P w K mg base C (k + 1) f (PySem.W.fnOf name qual params body scope dV kV doc pm an cdv ct) ps sp := by
  refine ⟨len, fun A outer s H args us vs Q E p hr hot hpin e0 hb r hsp => ?_⟩
  have hl := len _ _ _ _ _ hsp
  have KX : K.In s.heap := e0.mod.kin.keeps fun b o e => (e0.bs b o e).1
  have lim : s.heap.NoLimit := e0.mod.nolimit.keeps fun b o e => (e0.bs b o e).1
  have hkind : ∀ y ∈ ps.zip us, scope.names.lookup y.1 = some .local ∨ (scope.names.lookup y.1 = some .cell ∧ ((cellsFrom (s.heap.objs.size + 1) scope.names []).lookup y.1).isSome = true) := fun ⟨n, v⟩ hy => by
    rcases S.par n (List.of_mem_zip hy).1 with q | q
    · exact .inl q
    · exact .inr ⟨q, PySem.W.cellsFrom_some _ _ _ (.inl q)⟩
  refine codeAny_call_function hr.depth (KX _ _ lk) rfl S.co S.gen rfl (PySem.W.codeRec_of KX hcd) (hb _ _ _ _ ?_)
  refine wpAny_newFunctionEnv_cells S.kind hkind fun env he s1 x => ?_
  subst he
  refine ⟨lim.keeps x.toInCall.keep, codeAny_func ?_⟩
  obtain ⟨t, ht, hq⟩ := hbody A outer s H vs Q E p hot (hr.deeper _) hsp
  have I : Inv (cxH C P w K mg base N qual scope f cdv A outer s H E p) [] (L2.start N vs) H s1 := inv_startH S hpin e0 hl r x
  refine wpAny_mono (ht.run [] s1 (L2.start N vs) H _ I hq) (fun fl s' hs => ?_) fun e s' hs => hs
  have fin : ∀ {σ' : L2.St} {H' : Hp} {v : V} {u : Value}, Inv (cxH C P w K mg base N qual scope f cdv A outer s H E p) [] σ' H' s' → RelV v u → Q v H' → CE outer P w H s Q u s' :=
    fun {σ' H' v u} J rv q => ⟨v, H', J.os, J.bare, J.base, J.hok, rv, q⟩
  cases fl with
  | ret u =>
    obtain ⟨v, σ', H', J, rv, q⟩ := hs
    exact fin J rv q
  | next =>
    obtain ⟨σ', H', J, q⟩ := hs
    exact fin (v := V.non) (u := Value.none) J rfl q
  | brk =>
    obtain ⟨_, _, _, q⟩ := hs
    exact False.elim q
  | cont =>
    obtain ⟨_, _, _, q⟩ := hs
    exact False.elim q
section
variable {X : Cx} {C : CXT} {k : Nat} {f : Addr} {fd : FuncData} {ps : List Str} {sp : Addr × Obj → Sp} {E : L2.St → XK} {x : Str} {q pos : Pos} {e : Expr} {es : List Expr} {t : TA}
theorem pe_callX {p : Addr × Obj} (F : FnX X.prog X.w X.K X.mg X.base C k f fd ps sp) (hr : RoomH k X.A) (hot : Hot1 X.A p) (hp : p ∈ X.pn) (hg : Gl X x) (hm : X.mg x = some (.ref f)) (hk : PySem.W.keepIn X.K (.ref f) = true) (hb : Binds X.K fd ps []) (hx : ∀ σ, PassesAt C X σ (E σ))
    (ha : PA X (e :: es) t) (hdb : (x == ("__debug__" : Str)) = false) (he : starEach (e :: es) X.env = (false, eval e X.env) :: starEach es X.env) (hpl : (backTo pos (starEach es X.env)).any (·.1) = false) :
    PE X (.Call (.Name x q) (e :: es) [] pos) (tCallS (sp p) E t) := by
  refine ⟨fun pins s σ H Q I h => ?_⟩
  refine wpAny_Call_Name_kw (ld_glob I hg hm ?_ hdb)
  refine PySem.W.callWith_K (h₀ := X.base) I.ok.mod.kin hk (thn (ha.run pos pins s σ H _ I h) fun us s1 ⟨vs, H1, I1, r, h⟩ => ⟨I1.kIn, ?_⟩) he hpl
  have hl : us.length = ps.length := by rw [← r.length]; exact F.len _ _ _ _ _ h
  have b := hb s1 us I1.kIn (by rw [List.append_nil]; exact hl)
  rw [List.append_nil] at b
  have P1 := I1.pin p (List.mem_append_left _ hp)
  have hpin : PinOk X.stack H1 s1 p := ⟨P1.1, P1.2.1, fun hm => (List.mem_cons.mp (I1.stkSub p.1 hm)).elim P1.2.2.1 P1.2.2.2.1, P1.2.2.2.2⟩
  refine wpAny_call (codeAny_mono (F.run X.A X.stack s1 H1 ⟨us, []⟩ us vs Q (E σ) p hr hot hpin I1.env0 b r h) fun r s' hq => ?_)
  cases r with
  | error e => exact hx σ pins H1 s1 e s' I1 hq
  | ok fl =>
    cases fl with
    | ret u => exact I1.after hq
    | next => exact False.elim hq
    | brk => exact False.elim hq
    | cont => exact False.elim hq
end
end Z

set_option Elab.async false
set_option linter.all false
set_option maxRecDepth 100000
set_option maxHeartbeats 4000000
/-! try: body, several except clauses, each with or without a name -/
namespace Z
open PySem PySem.Spec PyProof.Rows L2
/-- a clause: the name's slot, its class, its suite -/
abbrev Hd := Option Nat × Value × (Addr → Value → Option Addr → TS)
/-- the slots behind a suite, and in front of it -/
def offS (i : Option Nat) (σ : L2.St) : L2.St := match i with
  | some i => σ.set i none
  | none => σ
def onS (i : Option Nat) (a : Addr) (σ : L2.St) : L2.St := match i with
  | some i => σ.set i (some (.ref a))
  | none => σ
def offD (i : Option Nat) (D : Ends) : Ends := { nx := fun σ' H' => D.nx (offS i σ') H', rt := D.rt, bk := fun σ' H' => D.bk (offS i σ') H', ct := fun σ' H' => D.ct (offS i σ') H' }
def wManyA (K : PySem.W.Frag) (Wout : WX) (D : Ends) : List Hd → WX
  | [] => Wout
  | (i, c, ts) :: r => fun cls d σ H => ∃ b, PySem.W.exmOne K cls c = some b ∧ (b = true → ∀ a, H a = none → ts a cls d (offD i D) (onS i a σ) H) ∧ (b = false → wManyA K Wout D r cls d σ H)
/-- a clause's name -/
def NmOk (X : Cx) (n : Option Str) (i : Option Nat) : Prop := match n, i with
  | some n, some i => X.N[i]? = some n ∧ X.env.kindOf n = some .local
  | none, none => True
  | _, _ => False
inductive HdsA (X : Cx) : List ExceptHandler → List Hd → Prop
  | nil : HdsA X [] []
  | cons {x : Str} {c : Value} {ts : Addr → Value → Option Addr → TS} {b₀ : Stmt} {suite : List Stmt} {np pos' : Pos} {n : Option Str} {i : Option Nat} {hds : List ExceptHandler} {l : List Hd} (hc : Names X x c) (hn : NmOk X n i)
      (hsu : ∀ (a : Addr) (oe : Obj) (cls : Value) (d : Option Addr) (pn : List (Addr × Obj)), L2N.Zn cls d oe → (∃ vs, oe.data = .fields vs) → PSs (X.suite a ((a, oe) :: pn)) (b₀ :: suite) (ts a cls d)) (r : HdsA X hds l) :
      HdsA X (.ExceptHandler (some (.Name x np)) n (b₀ :: suite) pos' :: hds) ((i, c, ts) :: l)
open L2N in
theorem ps_try_manyA {X : Cx} {body : List Stmt} {h₀ : ExceptHandler} {hds : List ExceptHandler} {l : List Hd} {pos : Pos} {tb : WX → TS} {Wout : WX} (hs : X.stack = X.env :: X.outer) (hf : X.env.frame = some X.env.locals) (hN : X.N.Nodup) (tk : L2N.Takes X Wout)
    (hb : ∀ (W : WX) (pn : List (Addr × Obj)) (xe : Value → Shared → Prop), L2N.Takes (X.tr pn xe) W → PassesOwn (model X.prog X.w) X.A X.env xe → PSs (X.tr pn xe) body (tb W))
    (hh : HdsA X (h₀ :: hds) l) : PS X (.Try body (h₀ :: hds) [] [] pos) (fun D σ H => tb (wManyA X.K Wout D l) D σ H) := by
  refine ⟨fun pins s σ H D I h => ?_⟩
  have ok := I.ok
  have hfr : X.A.frames = some (X.env :: X.outer) := by rw [ok.frames, hs]
  refine wpAny_Try_except ?_
  refine wpAny_mono ((hb (wManyA X.K Wout D l) (X.pn ++ pins) (fun e s₁ => wpAny (model X.prog X.w) X.A (noteFrame e X.env) (fun _ s₂ => wpAny (model X.prog X.w) X.A (setFlight e none) (fun _ s₃ =>
    wpAny (model X.prog X.w) X.A (handleBy e X.env (h₀ :: hds)) (SP X pins D) X.xe s₃) X.xe s₂) X.xe s₁) (fun u s' xx => ?_) PassesOwn.looking).run [] s σ H D (I.toTry _) h) (fun f s1 hsp => ?_) (fun e s1 he => he)
  · obtain ⟨a, B, sI, pins', σ', H', cls, d, rfl, J', nb, up, sky, na, os, ag, w⟩ := xx
    have J : Inv X pins σ' H' sI := J'.ofTry ok
    have sky' : Sky B (X.env :: X.outer) a (Zn cls d) X.env.locals s'.heap := by rw [← hs]; exact sky
    show wpAny (model X.prog X.w) X.A (noteFrame (.ref a) X.env) _ _ _
    refine Sky.land Zn.steady hfr hf sky' fun h3 fl3 up3 => ?_
    have J3 : Inv X pins σ' H' { s' with heap := h3 } := J.landed nb fl3.1 (up.trans up3) os ag
    obtain ⟨oe3, vs3, he3, hz3, hd3⟩ := fl3.there
    have notFr : ∀ {h : Heap} {o : Obj} {vs : Array Value}, h.FunFrames B (X.env :: X.outer) → h.get? a = some o → o.data = .fields vs → a ∉ frs (X.env :: X.outer) := fun {h o vs} ff e dd hm => by
      obtain ⟨_, o', e', hnf⟩ := ff.mem hm
      rw [e] at e'; cases e'
      exact hnf _ dd
    have nfr := notFr fl3.2.2.1 he3 hd3
    have nL : a ≠ X.env.locals := fun z => nfr (List.mem_filterMap.mpr ⟨X.env, List.mem_cons_self, by rw [hf, z]⟩)
    have nF : a ∉ X.fs := fun hm => by
      obtain ⟨e, he, q⟩ := List.mem_filterMap.mp hm
      exact nfr (List.mem_filterMap.mpr ⟨e, List.mem_cons_of_mem _ he, q⟩)
    have S3 := J3.suite he3 hd3 na nL nF
    have go : ∀ {hds' : List ExceptHandler} {l' : List Hd}, HdsA X hds' l' → wManyA X.K Wout D l' cls d σ' H' →
        wpAny (model X.prog X.w) X.A (handleBy (.ref a) X.env hds') (SP X pins D) X.xe { s' with heap := h3 } := by
      intro hds' l' hk
      induction hk with
      | nil =>
        intro w
        refine wpAny_handleBy_nil ?_
        obtain ⟨k1, k2, k3, oe, vs, T, oT, ts', he, hz, hd, h1, hr⟩ := id fl3
        unfold PySem.passOn
        refine wpAny_bind (wpAny_field he hd h1 ?_)
        rw [if_neg (show ¬ ((Value.ref T == Value.none) = true) from by simp)]
        have fin : wpAny (model X.prog X.w) X.A (setFlight (.ref a) X.env.frame) (fun _ s4 => wpAny (model X.prog X.w) X.A (throw (.ref a) : Sem Flow) (SP X pins D) X.xe s4) X.xe { s' with heap := h3 } := by
          rw [hf]
          refine HandSPX.setFlight_upZ fl3 fun h4 hh4 up4 => wpAny_throw (tk _ _ ?_)
          exact ⟨a, B, sI, pins, σ', H', cls, d, rfl, J, nb, (up.trans up3).trans up4, .inr (.inr (by rw [hs]; exact hh4)), na, os, ag, w⟩
        first
          | exact wpAny_bind (wpAny_pure (wpAny_bind fin))
          | exact wpAny_bind fin
      | @cons x c ts b₀ suite np pos' n i hds2 l2 hc hn hsu r ih =>
        intro w
        obtain ⟨b, hb1, hyes, hno⟩ := w
        refine wpAny_handleBy_cons (codeAny_handlers_test ?_) (by intro q; cases q)
        have LT : PySem.W.Looks (model X.prog X.w) h3 (typeOf (.ref a)) cls := fun A Q E s k q => wpAny_typeOf_ref (k _ _ he3) (by rw [hz3.1]; exact q)
        have LM := PySem.W.exm_one (M := model X.prog X.w) (J3.kIn) LT hb1
        have test : ∀ {Q : Value → Shared → Prop} {E : Value → Shared → Prop}, Q c { s' with heap := h3 } → wpAny (model X.prog X.w) (X.A.mark (some (.ref a))) (eval (.Name x np) X.env) Q E { s' with heap := h3 } := fun {Q E} q => by
          obtain ⟨hg, hdbg, hm | ⟨hm, hv, hnn⟩⟩ := hc
          · exact ld_glob (X := X.suite a ((a, oe3) :: (X.pn ++ pins))) S3 hg hm q hdbg
          · exact ld_blt (X := X.suite a ((a, oe3) :: (X.pn ++ pins))) S3 hg hm hv q hnn hdbg
        refine test (LM.here ?_)
        cases b with
        | false =>
          show wpAny _ X.A (handleBy (.ref a) X.env hds2) _ _ _
          exact ih (hno rfl)
        | true =>
          cases n with
          | none =>
            cases i with
            | some i => exact hn.elim
            | none =>
            refine codeAny_handlers_suite ?_
            refine HandSPX.lands_againZ fl3 fun h4 fl4 up4 => ?_
            have J4 : Inv X pins σ' H' { s' with heap := h4 } := J.landed nb fl4.1 ((up.trans up3).trans up4) os ag
            obtain ⟨oe4, vs4, he4, hz4, hd4⟩ := fl4.there
            have S4 := J4.suite he4 hd4 na nL nF
            refine wpAny_mono ((hsu a oe4 cls d (X.pn ++ pins) hz4 ⟨_, hd4⟩).run [] _ _ H' _ S4 (hyes rfl a na)) (fun f s6 hsp => ?_) (fun _ _ z => False.elim z)
            cases f with
            | next =>
              obtain ⟨σ6, H6, S6, q6⟩ := hsp
              exact ⟨_, _, S6.unsuite ok, q6⟩
            | brk =>
              obtain ⟨σ6, H6, S6, q6⟩ := hsp
              exact ⟨_, _, S6.unsuite ok, q6⟩
            | cont =>
              obtain ⟨σ6, H6, S6, q6⟩ := hsp
              exact ⟨_, _, S6.unsuite ok, q6⟩
            | ret u =>
              obtain ⟨v6, σ6, H6, S6, r6, q6⟩ := hsp
              exact ⟨_, _, _, S6.unsuite ok, r6, q6⟩
          | some n =>
            cases i with
            | none => exact hn.elim
            | some i =>
            obtain ⟨hi, hln⟩ := hn
            refine codeAny_handlers_suite_as ?_
            refine HandSPX.lands_againZ fl3 fun h4 fl4 up4 => ?_
            have J4 : Inv X pins σ' H' { s' with heap := h4 } := J.landed nb fl4.1 ((up.trans up3).trans up4) os ag
            obtain ⟨oe4, vs4, he4, hz4, hd4⟩ := fl4.there
            have S4 := J4.suite he4 hd4 na nL nF
            refine store_ok (X := X.suite a ((a, oe4) :: (X.pn ++ pins))) (v := .ref a) S4 hN hi (.inl hln) rfl (fun s5 S5 => ?_) (.inr hln)
            refine wpAny_mono ((hsu a oe4 cls d (X.pn ++ pins) hz4 ⟨_, hd4⟩).run [] s5 _ H' _ S5 (hyes rfl a na)) (fun f s6 hsp => ?_) (fun _ _ z => False.elim z)
            have end_ : ∀ {σ6 : L2.St} {H6 : Hp} {Q : Shared → Prop}, Inv (X.suite a ((a, oe4) :: (X.pn ++ pins))) [] σ6 H6 s6 → (∀ s7, Inv X pins (σ6.set i none) H6 s7 → Q s7) →
                wpAny (model X.prog X.w) X.A (do bindName X.env n .none; unbindBehindTheSuite X.env n pos') (fun _ s7 => Q s7) X.xe s6 := fun {σ6 H6 Q} S6 hq => gone_ok (S6.unsuite ok) hN hi hln hq
            cases f with
            | next =>
              obtain ⟨σ6, H6, S6, q6⟩ := hsp
              exact end_ S6 fun s7 J7 => ⟨_, _, J7, q6⟩
            | brk =>
              obtain ⟨σ6, H6, S6, q6⟩ := hsp
              exact end_ S6 fun s7 J7 => ⟨_, _, J7, q6⟩
            | cont =>
              obtain ⟨σ6, H6, S6, q6⟩ := hsp
              exact end_ S6 fun s7 J7 => ⟨_, _, J7, q6⟩
            | ret u =>
              obtain ⟨v6, σ6, H6, S6, r6, q6⟩ := hsp
              exact end_ S6 fun s7 J7 => ⟨_, _, _, J7, r6, q6⟩
    exact go hh w
  · cases f with
    | next =>
      obtain ⟨σ', H', J', q⟩ := hsp
      exact wpAny_execs_nil ⟨σ', H', J'.ofTry ok, q⟩
    | brk =>
      obtain ⟨σ', H', J', q⟩ := hsp
      exact ⟨σ', H', J'.ofTry ok, q⟩
    | cont =>
      obtain ⟨σ', H', J', q⟩ := hsp
      exact ⟨σ', H', J'.ofTry ok, q⟩
    | ret u =>
      obtain ⟨v, σ', H', J', r, q⟩ := hsp
      exact ⟨v, σ', H', J'.ofTry ok, r, q⟩
end Z

set_option Elab.async false
set_option linter.all false
set_option maxRecDepth 100000
set_option maxHeartbeats 4000000
/-! raise C(e), C an own class with an own __init__ -/
namespace Z
open PySem PySem.Spec PyProof.Rows L2
theorem pmkN_oex {X : Cx} {CX : CXT} {x : Str} {e : Expr} {es : List Expr} {ta : TA} {p pos : Pos} {C fI : Addr} {k : Nat} {fd : FuncData} {ps : List Str} {sp : Sp} (T : OexC X.K C) (iC : PySem.W.findIn X.K (.ref C) "__init__" = some (some (.ref fI))) (tI : PySem.W.typeIn X.K (.ref fI) = some (.type "function"))
    (F1 : FnOk X.prog X.w X.K X.mg X.base CX k fI fd ps sp) (hr : Room (k + 1) X.A) (hb : Binds X.K fd ps []) (hx : Passes CX X (fun _ _ _ => False)) (hg : Gl X x) (hm : X.mg x = some (.ref C)) (ha : PA X (e :: es) ta)
    (hdb : (x == ("__debug__" : Str)) = false) (he : starEach (e :: es) X.env = (false, eval e X.env) :: starEach es X.env) (hpl : (backTo pos (starEach es X.env)).any (·.1) = false) :
    L2N.PMk X (.Call (.Name x p) (e :: es) [] pos) (tMkO C sp [] ta) := by
  intro pins s σ H Q I h
  obtain ⟨nm, q, N, bs, bm, sn, sub, ab, col, dd, k0, k1, k2, k3, k5, hC, hbm⟩ := T.cls
  refine wpAny_Call_Name_kw (ld_glob I hg hm ?_ hdb)
  refine PySem.W.callWith_K (h₀ := X.base) I.ok.mod.kin T.kC (thn (ha.run pos pins s σ H _ I h) fun us s1 ⟨vs, H1, I1, r1, hz, q1⟩ => ⟨I1.kIn, ?_⟩) he hpl
  show wpAny _ _ (call (.ref C) us) _ _ _
  obtain ⟨hp, g, dr, tk, os⟩ := s1
  have hsz : hp.objs.size ≤ hp.objs.size + 1 := Nat.le_succ _
  have hn : H1 (hp.objs.size + 1) = none := I1.hok.fresh hsz
  have hq := q1 (hp.objs.size + 1) hn
  rw [List.append_nil] at hq
  have kk : ∀ b o, hp.get? b = some o → ((hp.push (PySem.W.kdv_tup us)).push (PySem.HandSPX.excO C hp.objs.size)).get? b = some o := fun b o e => Heap.get?_push_of_some _ (Heap.get?_push_of_some _ e)
  have hget : ((hp.push (PySem.W.kdv_tup us)).push (PySem.HandSPX.excO C hp.objs.size)).get? (hp.objs.size + 1) = some (PySem.HandSPX.excO C hp.objs.size) := by heap_get
  have I2 : Inv X pins σ (upd H1 (hp.objs.size + 1) (exo (hp.objs.size + 1) C none)) ⟨(hp.push (PySem.W.kdv_tup us)).push (PySem.HandSPX.excO C hp.objs.size), g, dr, tk, os⟩ :=
    I1.laid (t' := tk) (a := hp.objs.size + 1) (o := exo (hp.objs.size + 1) C none) (h' := (hp.push (PySem.W.kdv_tup us)).push (PySem.HandSPX.excO C hp.objs.size)) kk hsz (exo_ok hget)
  have r2 : Vals (V.ref (hp.objs.size + 1) :: vs) (Value.ref (hp.objs.size + 1) :: us) := .cons rfl r1
  have hl : (Value.ref (hp.objs.size + 1) :: us ++ []).length = ps.length := by
    have e := r2.length
    rw [F1.len _ _ _ _ hq] at e
    rw [List.append_nil]
    exact e.symm
  have hus : us.length ≤ sizeLine := by
    rw [← Paired.length r1, sizeLine_eq]
    omega
  have b2 := hb _ (Value.ref (hp.objs.size + 1) :: us) I2.kIn hl
  rw [List.append_nil] at b2
  refine wpAny_call (PySem.HandSPX.call_own F.excBase_ValueError (fun Y => PySem.HandSPX.refsVE_contains Y bm hbm) (I1.kIn _ _ hC) (PySem.W.looks_findIn I1.kIn iC) (fun self => PySem.W.bind_fn I1.kIn self tI) hus
    (codeAny_mono (F1.run _ X.stack _ _ ⟨Value.ref (hp.objs.size + 1) :: us, []⟩ (Value.ref (hp.objs.size + 1) :: us) _ _ (fun _ _ _ => False) (hr.make C us []) (I2.env0.make C us []) b2 r2 hq) fun r s' hq' => ?_))
  cases r with
  | error er => exact hx pins σ _ _ er s' I2 hq'
  | ok fl =>
    cases fl with
    | ret u =>
      obtain ⟨v, H2, os2, bare2, un2, hok2, rv, ev, d, fs, ea, ed, hd1, q2⟩ := hq'
      subst ev
      obtain ⟨h2, g2, d2, t2, os'⟩ := s'
      obtain ⟨t0, G, J, kG, ge, hoe, na⟩ := mk_end0 (d2 := d2) (t2 := t2) I1 hsz kk un2 hok2 os2 bare2 ea ed hd1
      refine ⟨rv, hp.objs.size + 1, _, _, ⟨G, g2, d2, t2, os'⟩, _, .ref C, some d, rfl, J, kG, ge, hoe, ⟨rfl, rfl, fun vs hv => ?_⟩, rfl, rfl, na, rfl, bare2, raises_own T.exC T.tyC, q2⟩
      cases hv
      rfl
    | next => exact False.elim hq'
    | brk => exact False.elim hq'
    | cont => exact False.elim hq'
/-- what an __init__ that keeps its one argument does -/
def spI (C : Addr) (f : Str) : Sp := fun vs H Q _ => ∃ a y, vs = [.ref a, y] ∧ H a = some (exo a C none) ∧ ∀ dx, H dx = none → dx ≠ a → Q .non (upd (upd H dx (exd dx [(f, y)])) a (exo a C (some dx)))
/-- self.f = y -/
def initOf (st : Stmt) : Option (Str × Str × Str) := match defBody st with
  | [.Assign [.Attribute (.Name s _) f _] (.Name y _) _] => some (s, f, y)
  | _ => none
theorem init_fn {CX : CXT} {P : Program} {w : World} {K : PySem.W.Frag} {mg : Str → Option Value} {base : Heap} {x qual : Str} {st : Stmt} {fI C : Addr} {fd : FuncData} {s f y : Str} {k : Nat} (F : Fun K x qual st fI fd) (S : FnScope [s, y] [s, y] (defScope st)) (hi : initOf st = some (s, f, y)) (T : OexC K C) (hno : PySem.W.findIn K (.ref C) f = some none)
    (hd : ((s == ("__debug__" : Str)) || (s == ("__classdict__" : Str)) || (y == ("__debug__" : Str)) || (y == ("__classdict__" : Str))) = false) :
    FnOk P w K mg base CX (k + 1) fI fd [s, y] (spI C f) := by
  obtain ⟨oc, od, kV, doc, pm, an, cdv, ct, osl, rfl, l, c⟩ := F.ex
  simp only [Bool.or_eq_false_iff] at hd
  refine fn_of l c S (fun vs H Q E ⟨a, y, e, _⟩ => by rw [e]; rfl) fun A outer s0 H vs Q E hr ⟨a, v, e, ea, q⟩ => ?_
  subst e
  unfold initOf at hi
  split at hi
  · rename_i s' p1 f' p2 y' p3 pos hb
    cases hi
    rw [hb]
    have vis : ∀ n, n ∈ [s, y] → Vis (cxOf CX P w K mg base [s, y] qual (defScope st) fI cdv A outer s0 H E).env.scope n := fun n hn => by
      rcases S.par n hn with h | h
      · exact .inl h
      · exact .inr (.inl h)
    have v0 : PE (cxOf CX P w K mg base [s, y] qual (defScope st) fI cdv A outer s0 H E) (.Name s p1) (tVar 0) := pe_var rfl (vis s (by simp)) hd.1.1.1 hd.1.1.2
    have v1 : PE (cxOf CX P w K mg base [s, y] qual (defScope st) fI cdv A outer s0 H E) (.Name y p3) (tVar 1) := pe_var rfl (vis y (by simp)) hd.1.2 hd.2
    refine ⟨_, pss_one (ps_ost v0 v1 rfl), ?_⟩
    exact ⟨v, rfl, .ref a, rfl, a, C, rfl, T, hno, .inl ⟨ea, fun dx hdx hne => q dx hdx hne⟩⟩
  · cases hi
/-- an exception class with one attribute, kept by its __init__ -/
structure XiFact (K : PySem.W.Frag) (mg : Str → Option Value) (c f : Str) : Prop where
  ex : ∃ C fI fd s y x q st, mg c = some (.ref C) ∧ OexC K C ∧ PySem.W.findIn K (.ref C) "__init__" = some (some (.ref fI)) ∧ PySem.W.typeIn K (.ref fI) = some (.type "function") ∧ Binds K fd [s, y] [] ∧ Fun K x q st fI fd ∧ FnScope [s, y] [s, y] (defScope st) ∧ initOf st = some (s, f, y) ∧ PySem.W.findIn K (.ref C) f = some none ∧
    ((s == ("__debug__" : Str)) || (s == ("__classdict__" : Str)) || (y == ("__debug__" : Str)) || (y == ("__classdict__" : Str))) = false
end Z

set_option Elab.async false
set_option linter.all false
set_option maxRecDepth 100000
set_option maxHeartbeats 4000000
namespace Z
open PySem PySem.Spec PyProof.Rows L2

/-- the names of a text: its defs (name, index), its constants, its exception classes (with their attributes) -/
structure Nm where
  fns : List (Str × Nat)
  cst : List (Str × D)
  exc : List (Str × List Str)
  /-- the defs with keyword-only parameters: name, index, these with their defaults -/
  kws : List (Str × Nat × List (Str × D)) := []
  /-- the own classes: name, attributes, __init__, the methods -/
  cls : List (Str × List Str × Nat × List (Str × Nat)) := []
  /-- names that stand for instances -/
  ins : List (Str × Str) := []
  /-- the properties of own classes: class, name, def -/
  prp : List (Str × Str × Nat) := []
  /-- the defs that are called while an exception is handled; whether their argument is that exception -/
  hfs : List (Str × Nat × Bool) := []
  /-- the exception classes that are made with one argument, which they keep -/
  xmk : List (Str × Str) := []
  /-- the attributes that are read of held exceptions -/
  xat : List Str := []
/-- what a def promises: the small language's own call -/
def spF (G : Gx) (P : Pg) (w k i : Nat) : Sp := fun vs H Q E =>
  ∃ π h ds, HmOk G H π h ∧ Reps G H π ds vs ∧ Post G (fun cls d _ H' => E cls d H') [] H π (callF P w k i ds h) fun _ _ v H' _ => Q v H'
/-- what a def promises that is called while an exception is handled -/
def spX (G : Gx) (P : Pg) (w k j : Nat) (b : Bool) (p : Addr × Obj) : Sp := fun vs H Q E => match b with
  | false => spF G P w k j vs H Q E
  | true => ∃ π h c fs xs d D, vs = [.ref p.1] ∧ HmOk G H π h ∧ XFields G H π fs xs d ∧ c ∈ G.xs ∧ G.mg c = some (.ref D) ∧ L2.Zc (.ref D) d p.2 ∧ Post G (fun cls d _ H' => E cls d H') [] H π (callF P w k j [.xv c fs xs] h) fun _ _ v H' _ => Q v H'
def bltNames : List Str := ["len", "abs", "max", "min", "sum", "sorted", "list", "tuple", "int", "str", "range", "isinstance", "enumerate", "zip", "reversed", "bool", "all", "any", "divmod", "set", "dict", "type"]
/-- an own exception class without an own __init__ -/
structure XcC (K : PySem.W.Frag) (C : Addr) : Prop where
  ex : PySem.W.excIn K C [.type "ValueError", .type "Exception", .type "BaseException", .type "object"] "ValueError.__new__" = true
  kp : PySem.W.keepIn K (.ref C) = true
  sb : PySem.W.subIn K (.ref C) (.type "BaseException") = some true
  ty : PySem.W.typeIn K (.ref C) = some (.type "type")
/-- a context in which the small language's reading of an expression holds -/
structure OkE (P : Pg) (w k : Nat) (nm : Nm) (N : List Str) (sc : Scope) (hot : Option Nat) (G : Gx) (W : WX) (X : Cx) : Prop where
  hK : G.K = X.K
  hmg : G.mg = X.mg
  hw : G.w = X.w
  hxs : G.xs = nm.exc.map (·.1)
  hN : X.N = N
  nd : N.Nodup
  kin : sc.kind = .function
  sc1 : ∀ x kd, sc.names.lookup x = some kd → ∃ kd', X.env.scope.names.lookup x = some kd' ∧ (kd' = kd ∨ (kd = .free ∧ kd' = .cell))
  ek : X.env.scope.kind = .function
  sto : ∀ x, (sc.names.lookup x = some .local ∨ sc.names.lookup x = some .cell) → X.fn x = true ∨ X.env.scope.names.lookup x = some .local
  tk : Takes X W
  units : X.A.units + 100 < cLine
  calm : hot = none → X.calm = true
  room : hot = none → Room (3 * k + 2) X.A
  gex : hot = none → G.ex = none
  fns : ∀ n i, (n, i) ∈ nm.fns → ∃ f fd ps, X.mg n = some (.ref f) ∧ PySem.W.keepIn X.K (.ref f) = true ∧ Binds X.K fd ps [] ∧ FnOk X.prog X.w X.K X.mg X.base (CX X.prog X.w) (3 * k) f fd ps (spF ⟨X.K, X.mg, nm.exc.map (·.1), none, X.w⟩ P w k i)
  kf : ∀ n i dl, (n, i, dl) ∈ nm.kws → ∃ f fd ps us dv, X.mg n = some (.ref f) ∧ PySem.W.keepIn X.K (.ref f) = true ∧ Vals dv us ∧ (∀ G H π, Reps G H π (dl.map (·.2)) dv) ∧ Binds X.K fd ps us ∧ KBn X.K fd ps (ps.length - dl.length) (dl.map (·.1)) (fun a b => a ++ b) (fun a b => a ++ b) ∧ FnOk X.prog X.w X.K X.mg X.base (CX X.prog X.w) (3 * k) f fd ps (spF ⟨X.K, X.mg, nm.exc.map (·.1), none, X.w⟩ P w k i)
  cl : ∀ c F i ms, (c, F, i, ms) ∈ nm.cls → ∃ C, X.mg c = some (.ref C) ∧ Cls X.K C ∧ (∀ f ∈ F, NoAttr X.K C f) ∧
    (∃ f fd ps, Mk X.K C f ∧ Binds X.K fd ps [] ∧ FnOk X.prog X.w X.K X.mg X.base (CX X.prog X.w) (3 * k) f fd ps (spF ⟨X.K, X.mg, nm.exc.map (·.1), none, X.w⟩ P w k i)) ∧
    ∀ m j, (m, j) ∈ ms → ∃ f fd ps, Meth X.K C m f ∧ Binds X.K fd ps [] ∧ FnOk X.prog X.w X.K X.mg X.base (CX X.prog X.w) (3 * k) f fd ps (spF ⟨X.K, X.mg, nm.exc.map (·.1), none, X.w⟩ P w k j)
  pr : ∀ c m j, (c, m, j) ∈ nm.prp → ∃ C p f fd ps, X.mg c = some (.ref C) ∧ Cls X.K C ∧ PropOf X.K C m p f ∧ Binds X.K fd ps [] ∧ FnOk X.prog X.w X.K X.mg X.base (CX X.prog X.w) (3 * k) f fd ps (spF ⟨X.K, X.mg, nm.exc.map (·.1), none, X.w⟩ P w k j)
  blt : ∀ b, b ∈ bltNames → X.mg b = none
  xn : ∀ c fs, (c, fs) ∈ nm.exc → ∃ C, X.mg c = some (.ref C) ∧ ExcC X.K C ∧ (fs = [] → XcC X.K C)
  xa : ∀ c f C, c ∈ nm.exc.map (·.1) → f ∈ nm.xat → X.mg c = some (.ref C) → PySem.W.findIn X.K (.ref C) f = some none
  xi : ∀ c f, (c, f) ∈ nm.xmk → ∃ C fI fd s y, X.mg c = some (.ref C) ∧ OexC X.K C ∧ PySem.W.findIn X.K (.ref C) "__init__" = some (some (.ref fI)) ∧ PySem.W.typeIn X.K (.ref fI) = some (.type "function") ∧ Binds X.K fd [s, y] [] ∧ ∀ k', FnOk X.prog X.w X.K X.mg X.base (CX X.prog X.w) (k' + 1) fI fd [s, y] (spI C f)
  xm : ∀ c f, (c, f) ∈ nm.xmk → c ∈ nm.exc.map (·.1)
  xk : ∀ c c' C C', c ∈ nm.exc.map (·.1) → c' ∈ nm.exc.map (·.1) → X.mg c = some (.ref C) → X.mg c' = some (.ref C') → PySem.W.kitOne X.K (.ref C) (.ref C') = some (P.sub c c') ∧ PySem.W.exmOne X.K (.ref C) (.ref C') = some (P.sub c c')
  xb : X.mg "ValueError" = none ∧ ∀ c C, c ∈ nm.exc.map (·.1) → X.mg c = some (.ref C) → PySem.W.kitOne X.K (.ref C) (.type "ValueError") = some (P.sub c "ValueError")
  hh : hot ≠ none → L2H.HotC X
  roomH : hot ≠ none → L2H.RoomH (3 * k + 2) X.A
  hq : ∀ i, hot = some i → i < N.length → ∃ a oe c d D, G.ex = some (i, a, c, d) ∧ c ∈ nm.exc.map (·.1) ∧ X.mg c = some (.ref D) ∧ L2H.Hot1 X.A (a, oe) ∧ (a, oe) ∈ X.pn ∧ L2.Zc (.ref D) d oe
  gxN : ∀ i, hot = some i → N.length ≤ i → G.ex = none
  hfs : ∀ n j b, (n, j, b) ∈ nm.hfs → ∃ f fd ps, X.mg n = some (.ref f) ∧ PySem.W.keepIn X.K (.ref f) = true ∧ Binds X.K fd ps [] ∧ FnX X.prog X.w X.K X.mg X.base (CX X.prog X.w) (3 * k) f fd ps (spX ⟨X.K, X.mg, nm.exc.map (·.1), none, X.w⟩ P w k j b)
  cst : ∀ n d, (n, d) ∈ nm.cst → ∃ v u, X.mg n = some u ∧ RelV v u ∧ ∀ H π, Rep G H π d v
section
variable {P : Pg} {w k : Nat} {nm : Nm} {N : List Str} {sc : Scope} {hot : Option Nat} {G : Gx} {W : WX} {X : Cx}
theorem OkE.vis (o : OkE P w k nm N sc hot G W X) {x : Str} (h : sc.names.lookup x = some .local ∨ sc.names.lookup x = some .cell ∨ sc.names.lookup x = some .free) : Vis X.env.scope x := by
  rcases h with h | h | h
  · obtain ⟨kd, e, q⟩ := o.sc1 x _ h
    rcases q with rfl | ⟨q, _⟩
    · exact .inl e
    · cases q
  · obtain ⟨kd, e, q⟩ := o.sc1 x _ h
    rcases q with rfl | ⟨q, _⟩
    · exact .inr (.inl e)
    · cases q
  · obtain ⟨kd, e, q⟩ := o.sc1 x _ h
    rcases q with rfl | ⟨_, rfl⟩
    · exact .inr (.inr e)
    · exact .inr (.inl e)
theorem OkE.gl (o : OkE P w k nm N sc hot G W X) {x : Str} (h : sc.names.lookup x = some .globalImplicit) : Gl X x := by
  obtain ⟨kd, e, q⟩ := o.sc1 x _ h
  rcases q with rfl | ⟨q, _⟩
  · exact e
  · cases q
theorem OkE.loc (o : OkE P w k nm N sc hot G W X) {x : Str} (h : sc.names.lookup x = some .local ∨ sc.names.lookup x = some .cell) : Loc X.env.scope x := by
  rcases h with h | h
  · obtain ⟨kd, e, q⟩ := o.sc1 x _ h
    rcases q with rfl | ⟨q, _⟩
    · exact .inl e
    · cases q
  · obtain ⟨kd, e, q⟩ := o.sc1 x _ h
    rcases q with rfl | ⟨q, _⟩
    · exact .inr e
    · cases q

/-! ### readings -/
def PostA (G : Gx) (W : WX) (σ : L2.St) (H : Hp) (π : List Addr) (r : R) (C : List D → Hm → List V → Hp → List Addr → Prop) : Prop :=
  match r with
  | .ok (.tup ds) h => ∀ vs H' π', Ext H H' → π <+: π' → HmOk G H' π' h → Reps G H' π' ds vs → C ds h vs H' π'
  | .exn x h => ∀ cls dd H' π', Ext H H' → π <+: π' → HmOk G H' π' h → XRep G H' π' x cls dd → W cls dd σ H'
  | _ => False
def TAv (G : Gx) (W : WX) (ev : Env' → Hm → R) : TA := fun σ H Q => ∃ ρ π h, EnvOk G H π ρ σ ∧ HmOk G H π h ∧ PostA G W σ H π (ev ρ h) fun _ _ vs H' _ => Q vs H'
def TTv (G : Gx) (W : WX) (ev : Env' → Hm → R) : TT := fun σ H Q => ∃ ρ π h, EnvOk G H π ρ σ ∧ HmOk G H π h ∧ Post G W σ H π (ev ρ h) fun d h' _ H' _ => ∃ b, truth h' d = some b ∧ Q b H'
theorem PostA.weak {r : R} {σ : L2.St} {H H0 : Hp} {π π0 : List Addr} {C : List D → Hm → List V → Hp → List Addr → Prop} (e : Ext H0 H) (q : π0 <+: π) (p : PostA G W σ H0 π0 r C) : PostA G W σ H π r C := by
  unfold PostA at p ⊢
  split
  · exact fun v H' π' a b c z => p v H' π' (e.trans a) (q.trans b) c z
  · exact fun cls dd H' π' a b c z => p cls dd H' π' (e.trans a) (q.trans b) c z
  · rename_i h1 h2
    split at p
    · exact (h1 _ _ rfl).elim
    · exact (h2 _ _ rfl).elim
    · exact p
theorem PostA.imp {r : R} {σ : L2.St} {H : Hp} {π : List Addr} {C C' : List D → Hm → List V → Hp → List Addr → Prop} (p : PostA G W σ H π r C)
    (k : ∀ ds h vs H' π', r = .ok (.tup ds) h → Ext H H' → π <+: π' → HmOk G H' π' h → Reps G H' π' ds vs → C ds h vs H' π' → C' ds h vs H' π') : PostA G W σ H π r C' := by
  unfold PostA at p ⊢
  split
  · exact fun v H' π' a b c z => k _ _ _ _ _ rfl a b c z (p v H' π' a b c z)
  · exact p
  · rename_i h1 h2
    split at p
    · exact (h1 _ _ rfl).elim
    · exact (h2 _ _ rfl).elim
    · exact p
/-- a call's arguments, then what is done with them -/
def onArgs (r : R) (f : List D → Hm → R) : R := r.bind fun ds h1 => match ds with
  | .tup xs => f xs h1
  | _ => .bad
theorem Post.args {r : R} {f : List D → Hm → R} {σ : L2.St} {H : Hp} {π : List Addr} {C : D → Hm → V → Hp → List Addr → Prop} (p : Post G W σ H π (onArgs r f) C) :
    PostA G W σ H π r fun ds h vs H' π' => Post G W σ H' π' (f ds h) C := by
  unfold onArgs at p
  cases r with
  | ok d h1 =>
    cases d with
    | tup ds => exact fun vs H' π' a b c e => Post.weak a b p
    | _ => exact p.elim
  | exn x h1 => exact p
  | bad => exact p
theorem TEv.args {ea : Env' → Hm → R} {f : List D → Hm → R} {σ : L2.St} {H : Hp} {Q : VK} (t : TEv G W (fun ρ h => onArgs (ea ρ h) f) σ H Q) : TAv G W ea σ H fun vs H1 => rAn G W f vs H1 Q := by
  obtain ⟨ρ, π, h, E, M, p⟩ := t
  exact ⟨ρ, π, h, E, M, p.args.imp fun ds h1 vs H1 π1 _ _ _ M1 R1 p1 => ⟨σ, π1, h1, ds, M1, R1, p1⟩⟩
theorem pa_imp {es : List Expr} {t t' : TA} (h : PA X es t) (k : ∀ σ H Q, t' σ H Q → t σ H Q) : PA X es t' := ⟨fun pos pins s σ H Q I q => h.run pos pins s σ H Q I (k _ _ _ q)⟩
theorem a_nil : PA X [] (TAv G W fun _ h => .ok (.tup []) h) := pa_imp pa_nil fun σ H Q ⟨ρ, π, h, E, M, p⟩ => p [] H π .refl (List.prefix_refl _) M .nil
theorem a_cons {e : Expr} {es : List Expr} {ea er : Env' → Hm → R} (ha : PE X e (TEv G W ea)) (hr : PA X es (TAv G W er)) (hs : starEach (e :: es) X.env = (false, eval e X.env) :: starEach es X.env) :
    PA X (e :: es) (TAv G W fun ρ h => (ea ρ h).bind fun d h1 => (er ρ h1).bind fun ds h2 => match ds with
      | .tup xs => .ok (.tup (d :: xs)) h2
      | _ => .bad) := by
  refine pa_imp (pa_cons ha hr hs) fun σ H Q ⟨ρ, π, h, E, M, p⟩ => ?_
  refine ⟨ρ, π, h, E, M, ?_⟩
  dsimp only at p
  cases q : ea ρ h with
  | bad => rw [q] at p; exact p.elim
  | exn x h1 => rw [q] at p; exact p
  | ok d h1 =>
    rw [q] at p
    intro v H1 π1 e1 p1 M1 R1
    refine ⟨ρ, π1, h1, E.mono e1 p1, M1, ?_⟩
    simp only [R.bind_ok] at p
    have p := PostA.weak e1 p1 p
    cases q2 : er ρ h1 with
    | bad => rw [q2] at p; exact p.elim
    | exn x h2 => rw [q2] at p; exact p
    | ok ds h2 =>
      rw [q2] at p
      cases ds with
      | tup xs => exact fun vs H2 π2 e2 p2 M2 R2 => p (v :: vs) H2 π2 e2 p2 M2 (.cons (R1.mono e2 p2) R2)
      | _ => exact p.elim

/-! ### truth -/
theorem truth_ok {H : Hp} {π : List Addr} {h : Hm} {d : D} {v : V} {b : Bool} (M : HmOk G H π h) (r : Rep G H π d v) (e : truth h d = some b) : TruV G.K v H b := by
  cases r with
  | non => simp [truth] at e; exact e
  | bl c => simp [truth] at e; exact e.symm
  | int i =>
    simp only [truth, Option.some.injEq] at e
    show b = (i != 0)
    rw [← e]
    by_cases q : i = 0 <;> simp [q]
  | str z =>
    simp only [truth] at e
    split at e
    · rename_i hz
      simp only [Option.some.injEq] at e
      refine ⟨hz, ?_⟩
      rw [← e]
      by_cases q : z.length = 0 <;> simp [q]
    · cases e
  | tup t rs =>
    simp only [truth, Option.some.injEq] at e
    refine .inr (.inl ⟨_, t.sqT, ?_⟩)
    rw [← e]
    cases rs <;> rfl
  | ro t rs =>
    simp only [truth, Option.some.injEq] at e
    refine .inl ⟨_, t.sq, ?_⟩
    rw [← e]
    cases rs <;> rfl
  | @ref n a hp =>
    simp only [truth] at e
    split at e
    · rename_i xs hk
      simp only [Option.some.injEq] at e
      obtain ⟨a', vs, e1, e2, e3, e4⟩ := M.lst hk (.ref hp)
      cases e1
      refine .inl ⟨_, .of e3, ?_⟩
      rw [← e]
      cases e4 <;> rfl
    · cases e
  | xv => simp [truth] at e
theorem pt_imp {e : Expr} {t t' : TT} (h : PT X e t) (k : ∀ σ H Q, t' σ H Q → t σ H Q) : PT X e t' := ⟨fun pins s σ H Q I q => h.run pins s σ H Q I (k _ _ _ q)⟩
/-- a test by its value's truth -/
theorem t_val {e : Expr} {ev : Env' → Hm → R} (hK : G.K = X.K) (h : PE X e (TEv G W ev)) (he : ∀ whole, isTrue e X.env whole = (do let v ← whole; standAt e.pos; holding [v] (truthy v))) : PT X e (TTv G W ev) := by
  refine pt_imp (pt_truth h he) fun σ H Q ⟨ρ, π, h, E, M, p⟩ => ⟨ρ, π, h, E, M, p.imp fun d h1 v H1 π1 _ _ _ M1 R1 ⟨b, hb, q⟩ => ⟨b, ?_, q⟩⟩
  have := truth_ok M1 R1 hb
  rw [hK] at this
  exact this
/-- a comparison as a test -/
theorem t_cmp {a b : Expr} {op : CmpOp} {pos : Pos} {ea eb : Env' → Hm → R} {f : D → D → Hm → R} (ho : OpR X (compareOp op) (rA2 G W f)) (hbl : ∀ x y h d h', f x y h = .ok d h' → ∃ c, d = .bl c) (ha : PE X a (TEv G W ea)) (hb : PE X b (TEv G W eb)) (hm : behindInMarks op b = false) :
    PT X (.Compare a [op] [b] pos) (TTv G W fun ρ h => (ea ρ h).bind fun x h1 => (eb ρ h1).bind fun y h2 => f x y h2) := by
  refine pt_imp (pt_cmpR ho ha hb hm) fun σ H Q ⟨ρ, π, h, E, M, p⟩ => ?_
  refine ⟨ρ, π, h, E, M, p.bind.imp fun d h1 v H1 π1 _ e1 p1 M1 R1 q1 => ⟨ρ, π1, h1, E.mono e1 p1, M1, q1.bind.imp fun d2 h2 v2 H2 π2 _ e2 p2 M2 R2 q2 => ⟨σ, π2, h2, d, d2, M2, R1.mono e2 p2, R2, ?_⟩⟩⟩
  refine q2.imp fun d3 h3 v3 H3 π3 er _ _ _ R3 ⟨c, hc, q3⟩ => ?_
  obtain ⟨c', rfl⟩ := hbl _ _ _ _ _ er
  cases rep_bl R3
  simp only [truth, Option.some.injEq] at hc
  subst hc
  exact ⟨c', rfl, q3⟩
end
end Z

set_option Elab.async false
set_option linter.all false
set_option maxRecDepth 100000
set_option maxHeartbeats 4000000
namespace Z
open PySem PySem.Spec PyProof.Rows L2
section
variable {P : Pg} {w k : Nat} {nm : Nm} {N : List Str} {sc : Scope} {hot : Option Nat} {G : Gx} {W : WX} {X : Cx}

/-! ### walks -/
/-- an item as it comes: represented, or a tuple just made -/
def ItRep (G : Gx) (H : Hp) (π : List Addr) (weak : Bool) (d : D) (v : V) : Prop :=
  (weak = false ∧ Rep G H π d v) ∨ (weak = true ∧ ∃ T vs ds, d = .tup ds ∧ v = .ref T ∧ SqT G.K H T vs ∧ Reps G H π ds vs)
structure WalkZ (G : Gx) (H0 : Hp) (π0 : List Addr) (J : It) (items : List D) (g : Gd) (weak : Bool) : Prop where
  goes : ∀ i H π h, i < items.length → Ext H0 H → π0 <+: π → HmOk G H π h → gdOk g h = true → J.go i H
  stops : ∀ H π h, Ext H0 H → π0 <+: π → HmOk G H π h → gdOk g h = true → J.stop items.length H
  yields : ∀ i H π h x H', i < items.length → Ext H0 H → π0 <+: π → HmOk G H π h → gdOk g h = true → J.yld i H x H' →
    ∃ d, items[i]? = some d ∧ Ext H H' ∧ HmOk G H' π h ∧ ItRep G H' π weak d x
/-- the reading of a source: its arguments, then the walk -/
def TIv (G : Gx) (W : WX) (weak : Bool) (ev : Env' → Hm → R) (src : Src) : TI := fun σ H R =>
  ∃ ρ π h, EnvOk G H π ρ σ ∧ HmOk G H π h ∧ PostA G W σ H π (ev ρ h) fun ds h1 _ H1 π1 => ∃ items g, evSrc src ds h1 = some (items, g) ∧
    ∀ J H2, Ext H1 H2 → HmOk G H2 π1 h1 → WalkZ G H2 π1 J items g weak → R J H2
theorem gdOk_one {k : Nat} {xs : List D} {h : Hm} (e : gdOk [(k, xs)] h = true) : h[k]? = some (.lst xs) := by
  unfold gdOk at e
  simp only [List.all_cons, List.all_nil, Bool.and_true] at e
  split at e
  · rename_i ys hk
    rw [hk, D.beqs_eq _ _ e]
  · cases e
/-- over a list or a tuple -/
def iSeqZ (K : PySem.W.Frag) (tl : TE) : TI := fun σ H R => tl σ H fun x H1 => ∃ a, x = .ref a ∧ (((∃ xs, SqL K H1 a xs) ∧ R (Itl K a) H1) ∨ ((∃ xs, SqT K H1 a xs) ∧ R (Itt K a) H1))
theorem pi_seqZ {tg l : Expr} {tl : TE} (hl : PE X l tl) : PI X tg l (iSeqZ X.K tl) := by
  refine ⟨fun pins s σ H R I h => ?_⟩
  refine thn (hl.run pins s σ H _ I h) fun v s1 ⟨x, H1, I1, r1, q1⟩ => ?_
  obtain ⟨a, e, q⟩ := q1
  subst e
  cases r1
  rcases q with ⟨⟨xs, hq⟩, q⟩ | ⟨⟨xs, hq⟩, q⟩
  · obtain ⟨its, rv, p, hz⟩ := I1.list hq
    refine wpAny_pyIter_list p.isList ?_
    refine ⟨s1.heap.objs.size, [s1.heap.objs.size], _, _, H1, rfl, I1.kept (t' := s1.toks) fun b o e => Heap.get?_push_of_some _ e, turn_list a _, ⟨_, Heap.get?_push_size _ rfl, rfl, rfl⟩, fun b hb => ?_, q⟩
    have e : b = s1.heap.objs.size := by simpa using hb
    subst e
    exact I1.fpOk (Nat.le_refl _) (I1.hok.fresh (Nat.le_refl _))
  · obtain ⟨its, rv, p, hz⟩ := I1.tuple hq
    refine wpAny_pyIter_tuple (show s1.heap.IsTuple a its.toArray from p) ?_
    refine ⟨s1.heap.objs.size, [s1.heap.objs.size], _, _, H1, rfl, I1.kept (t' := s1.toks) fun b o e => Heap.get?_push_of_some _ e, turn_tuple a _, ⟨_, Heap.get?_push_size _ rfl, rfl, rfl⟩, fun b hb => ?_, q⟩
    have e : b = s1.heap.objs.size := by simpa using hb
    subst e
    exact I1.fpOk (Nat.le_refl _) (I1.hok.fresh (Nat.le_refl _))
theorem pi_imp {tg l : Expr} {t t' : TI} (h : PI X tg l t) (q : ∀ σ H R, t' σ H R → t σ H R) : PI X tg l t' := ⟨fun pins s σ H R I z => h.run pins s σ H R I (q _ _ _ z)⟩
theorem pre_get' {α : Type} {l l' : List α} (p : l <+: l') {n : Nat} {a b : α} (h : l[n]? = some a) (h' : l'[n]? = some b) : b = a := by
  rw [pre_get p h] at h'; exact (Option.some.inj h').symm
/-- the walk of a list or tuple that stands there -/
theorem walkZ_seq {H : Hp} {π : List Addr} {h : Hm} {x : D} {v : V} {xs : List D} (M : HmOk G H π h) (r : Rep G H π x v) (e : listOf h x = some xs) :
    ∃ a, v = .ref a ∧ (((∃ ys, SqL G.K H a ys) ∧ WalkZ G H π (Itl G.K a) xs (gdOf x xs) false) ∨ ((∃ ys, SqT G.K H a ys) ∧ WalkZ G H π (Itt G.K a) xs (gdOf x xs) false)) := by
  obtain ⟨a, vs, e1, rs, kd⟩ := listOf_ok M r e
  refine ⟨a, e1, ?_⟩
  have hl := rs.length
  rcases kd with ⟨rfl, t⟩ | ⟨t, rfl⟩ | ⟨n, rfl, hn, hp, t⟩
  · refine .inr ⟨⟨vs, t.sqT⟩, ⟨fun i H2 π2 h2 hi e2 p2 M2 g2 => ?_, fun H2 π2 h2 e2 p2 M2 g2 => ?_, fun i H2 π2 h2 y H3 hi e2 p2 M2 g2 yl => ?_⟩⟩
    · exact walk_tup.goes i H2 (by rw [← hl]; exact hi) (e2.tupF t).sqT
    · rw [hl]; exact walk_tup.stops H2 (e2.tupF t).sqT
    · obtain ⟨rfl, q⟩ := walk_tup.yields i H2 y H3 (by rw [← hl]; exact hi) (e2.tupF t).sqT yl
      obtain ⟨d, h1, h2⟩ := rs.get' q
      exact ⟨d, h1, .refl, M2, .inl ⟨rfl, h2.mono e2 p2⟩⟩
  · have sq : ∀ {H2}, Ext H H2 → SqL G.K H2 a vs := fun e2 => (e2.roL t).sq
    refine .inl ⟨⟨vs, sq .refl⟩, ⟨fun i H2 π2 h2 hi e2 p2 M2 g2 => ?_, fun H2 π2 h2 e2 p2 M2 g2 => ?_, fun i H2 π2 h2 y H3 hi e2 p2 M2 g2 yl => ?_⟩⟩
    · exact walk_list.goes i H2 (by rw [← hl]; exact hi) (sq e2)
    · rw [hl]; exact walk_list.stops H2 (sq e2)
    · obtain ⟨rfl, q⟩ := walk_list.yields i H2 y H3 (by rw [← hl]; exact hi) (sq e2) yl
      obtain ⟨d, h1, h2⟩ := rs.get' q
      exact ⟨d, h1, .refl, M2, .inl ⟨rfl, h2.mono e2 p2⟩⟩
  · have at2 : ∀ {H2 π2 h2}, π <+: π2 → HmOk G H2 π2 h2 → gdOk [(n, xs)] h2 = true → ∃ vs2, SqL G.K H2 a vs2 ∧ Reps G H2 π2 xs vs2 := fun {H2 π2 h2} p2 M2 g2 => by
      obtain ⟨a2, ha2, vs2, q1, q2⟩ := M2.at (gdOk_one g2)
      have : a2 = a := pre_get' p2 hp ha2
      subst this
      exact ⟨vs2, .of q1, q2⟩
    refine .inl ⟨⟨vs, .of t⟩, ⟨fun i H2 π2 h2 hi e2 p2 M2 g2 => ?_, fun H2 π2 h2 e2 p2 M2 g2 => ?_, fun i H2 π2 h2 y H3 hi e2 p2 M2 g2 yl => ?_⟩⟩
    · obtain ⟨vs2, q1, q2⟩ := at2 p2 M2 g2
      exact walk_list.goes i H2 (by rw [← q2.length]; exact hi) q1
    · obtain ⟨vs2, q1, q2⟩ := at2 p2 M2 g2
      rw [q2.length]; exact walk_list.stops H2 q1
    · obtain ⟨vs2, q1, q2⟩ := at2 p2 M2 g2
      obtain ⟨rfl, q⟩ := walk_list.yields i H2 y H3 (by rw [← q2.length]; exact hi) q1 yl
      obtain ⟨d, h1, h2⟩ := q2.get' q
      exact ⟨d, h1, .refl, M2, .inl ⟨rfl, h2⟩⟩
theorem i_plain {tg l : Expr} {ea : Env' → Hm → R} (hK : G.K = X.K) (hl : PE X l (TEv G W ea)) :
    PI X tg l (TIv G W false (fun ρ h => (ea ρ h).bind fun d h1 => (R.ok (.tup []) h1).bind fun ds h2 => match ds with | .tup xs => .ok (.tup (d :: xs)) h2 | _ => .bad) .plain) := by
  refine pi_imp (pi_seqZ hl) fun σ H R ⟨ρ, π, h, E, M, p⟩ => ⟨ρ, π, h, E, M, ?_⟩
  dsimp only at p
  cases q : ea ρ h with
  | bad => rw [q] at p; exact p.elim
  | exn x h1 => rw [q] at p; exact p
  | ok d h1 =>
    rw [q] at p
    intro v H1 π1 e1 p1 M1 R1
    obtain ⟨items, g, es, k2⟩ := p [v] H1 π1 e1 p1 M1 (.cons R1 .nil)
    change (listOf h1 d).map _ = some (items, g) at es
    rw [Option.map_eq_some_iff] at es
    obtain ⟨xs, hl, e2⟩ := es
    cases e2
    obtain ⟨a, rfl, hw⟩ := walkZ_seq M1 R1 hl
    rw [hK] at hw
    refine ⟨a, rfl, ?_⟩
    rcases hw with ⟨hs, hw⟩ | ⟨hs, hw⟩
    · exact .inl ⟨hs, k2 _ _ .refl M1 hw⟩
    · exact .inr ⟨hs, k2 _ _ .refl M1 hw⟩
theorem walkZ_range {H0 : Hp} {π0 : List Addr} {lo : Int} {n : Nat} : WalkZ G H0 π0 (Itr lo n) (rangeD lo 1 n) [] false := by
  have hl : (rangeD lo 1 n).length = n := by simp [rangeD]
  refine ⟨fun i H2 π2 h2 hi e2 p2 M2 g2 => walk_range.goes i H2 (by rw [← hl]; exact hi) trivial, fun H2 π2 h2 e2 p2 M2 g2 => ?_, fun i H2 π2 h2 y H3 hi e2 p2 M2 g2 yl => ?_⟩
  · rw [hl]; exact walk_range.stops H2 trivial
  · obtain ⟨rfl, rfl⟩ := walk_range.yields i H2 y H3 (by rw [← hl]; exact hi) trivial yl
    rw [hl] at hi
    refine ⟨.int (lo + i), ?_, .refl, M2, .inl ⟨rfl, .int _⟩⟩
    unfold rangeD
    rw [List.getElem?_map, List.getElem?_range hi]
    simp
theorem small_ok {i : Int} (h : small i = true) : -(2 ^ 62) ≤ i ∧ i < 2 ^ 62 := of_decide_eq_true h
theorem i_range1 {tg a : Expr} {p pos : Pos} {ea : Env' → Hm → R} (hg : Gl X "range") (hm : X.mg "range" = none) (ha : PA X [a] (TAv G W ea)) (hs : starEach [a] X.env = [(false, eval a X.env)]) :
    PI X tg (.Call (.Name "range" p) [a] [] pos) (TIv G W false ea .range1) := by
  refine pi_imp (pi_range1 hg hm ha hs) fun σ H R ⟨ρ, π, h, E, M, q⟩ => ⟨ρ, π, h, E, M, q.imp fun ds h1 vs H1 π1 _ _ _ M1 R1 ⟨items, g, es, k2⟩ => ?_⟩
  change srcR1 ds = some (items, g) at es
  unfold srcR1 at es
  split at es
  · split at es
    · rename_i j hj
      cases es
      cases R1 with
      | cons r1 r2 =>
        cases r2; cases rep_int r1
        exact ⟨_, rfl, (small_ok hj).1, (small_ok hj).2, k2 _ _ .refl M1 walkZ_range⟩
    · cases es
  · cases es
theorem i_range2 {tg a b : Expr} {p pos : Pos} {ea : Env' → Hm → R} (hg : Gl X "range") (hm : X.mg "range" = none) (ha : PA X [a, b] (TAv G W ea)) (hs : starEach [a, b] X.env = [(false, eval a X.env), (false, eval b X.env)]) (hs2 : starEach [b] X.env = [(false, eval b X.env)]) :
    PI X tg (.Call (.Name "range" p) [a, b] [] pos) (TIv G W false ea .range2) := by
  refine pi_imp (pi_range2 hg hm ha hs hs2) fun σ H R ⟨ρ, π, h, E, M, q⟩ => ⟨ρ, π, h, E, M, q.imp fun ds h1 vs H1 π1 _ _ _ M1 R1 ⟨items, g, es, k2⟩ => ?_⟩
  change srcR2 ds = some (items, g) at es
  unfold srcR2 at es
  split at es
  · split at es
    · rename_i j hj
      cases es
      cases R1 with
      | cons r1 r2 =>
        cases r2 with
        | cons r2 r3 =>
          cases r3; cases rep_int r1; cases rep_int r2
          exact ⟨_, _, rfl, ⟨(small_ok hj.1).1, (small_ok hj.1).2, (small_ok hj.2).1, (small_ok hj.2).2⟩, k2 _ _ .refl M1 walkZ_range⟩
    · cases es
  · cases es

theorem walkZ_rangeC {H0 : Hp} {π0 : List Addr} {lo c : Int} {n : Nat} : WalkZ G H0 π0 (Itc lo c n) (rangeD lo c n) [] false := by
  have hl : (rangeD lo c n).length = n := by simp [rangeD]
  refine ⟨fun i H2 π2 h2 hi e2 p2 M2 g2 => ?_, fun H2 π2 h2 e2 p2 M2 g2 => ?_, fun i H2 π2 h2 y H3 hi e2 p2 M2 g2 yl => ?_⟩
  · rw [hl] at hi; exact hi
  · rw [hl]; exact Nat.le_refl _
  · obtain ⟨rfl, rfl⟩ := yl
    rw [hl] at hi
    refine ⟨.int (lo + i * c), ?_, .refl, M2, .inl ⟨rfl, .int _⟩⟩
    unfold rangeD
    rw [List.getElem?_map, List.getElem?_range hi]
    simp
theorem i_range3 {tg a b c : Expr} {p pos : Pos} {ea : Env' → Hm → R} (hg : Gl X "range") (hm : X.mg "range" = none) (ha : PA X [a, b, c] (TAv G W ea)) (hs : starEach [a, b, c] X.env = [(false, eval a X.env), (false, eval b X.env), (false, eval c X.env)]) (hs2 : starEach [b, c] X.env = [(false, eval b X.env), (false, eval c X.env)]) :
    PI X tg (.Call (.Name "range" p) [a, b, c] [] pos) (TIv G W false ea .range3) := by
  refine pi_imp (pi_range3 hg hm ha (by rw [hs, hs2]) (by rw [hs2]; rfl)) fun σ H R ⟨ρ, π, h, E, M, q⟩ => ⟨ρ, π, h, E, M, q.imp fun ds h1 vs H1 π1 _ _ _ M1 R1 ⟨items, g, es, k2⟩ => ?_⟩
  change srcR3 ds = some (items, g) at es
  unfold srcR3 at es
  split at es
  · split at es
    · rename_i j hj
      cases es
      cases R1 with
      | cons r1 r2 =>
        cases r2 with
        | cons r2 r3 =>
          cases r3 with
          | cons r3 r4 =>
            cases r4; cases rep_int r1; cases rep_int r2; cases rep_int r3
            exact ⟨_, _, _, _, rfl, ⟨hj.1, hj.2.1, hj.2.2.1, (Int.toNat_of_nonneg hj.2.2.2).symm⟩, k2 _ _ .refl M1 walkZ_rangeC⟩
    · cases es
  · cases es
/-- the walk from the end of a list or tuple that stands there -/
theorem walkZ_rev {H : Hp} {π : List Addr} {h : Hm} {x : D} {v : V} {xs : List D} (M : HmOk G H π h) (r : Rep G H π x v) (e : listOf h x = some xs) :
    ∃ a ys, v = .ref a ∧ ((SqL G.K H a ys ∧ WalkZ G H π (Itv G.K a ys.length) xs.reverse (gdOf x xs) false) ∨ (SqT G.K H a ys ∧ WalkZ G H π (RT.ItvT G.K a ys.length) xs.reverse (gdOf x xs) false)) := by
  obtain ⟨a, vs, e1, rs, kd⟩ := listOf_ok M r e
  refine ⟨a, vs, e1, ?_⟩
  have hl := rs.length
  have rev : ∀ {H2 π2 vs2} {i : Nat}, Reps G H2 π2 xs vs2 → i < xs.length → ∃ d y, xs.reverse[i]? = some d ∧ vs2[vs.length - 1 - i]? = some y ∧ Rep G H2 π2 d y := fun {H2 π2 vs2 i} q hi => by
    have e1 : xs.reverse[i]? = xs[xs.length - 1 - i]? := List.getElem?_reverse hi
    have e2 : xs.length - 1 - i < xs.length := by omega
    obtain ⟨y, h1, h2⟩ := q.get (List.getElem?_eq_getElem e2)
    refine ⟨_, y, e1.trans (List.getElem?_eq_getElem e2), ?_, h2⟩
    rw [← hl]; exact h1
  rcases kd with ⟨rfl, t⟩ | ⟨t, rfl⟩ | ⟨n, rfl, hn, hp, t⟩
  · refine .inr ⟨t.sqT, ⟨fun i H2 π2 h2 hi e2 p2 M2 g2 => ?_, fun H2 π2 h2 e2 p2 M2 g2 => ?_, fun i H2 π2 h2 y H3 hi e2 p2 M2 g2 yl => ?_⟩⟩
    · rw [List.length_reverse] at hi
      obtain ⟨d, y, _, q, _⟩ := rev (rs.mono e2 p2) hi
      exact ⟨by rw [← hl]; exact hi, vs, y, (e2.tupF t).sqT, q⟩
    · show vs.length ≤ _
      rw [List.length_reverse, hl]; exact Nat.le_refl _
    · rw [List.length_reverse] at hi
      obtain ⟨d, y2, q0, q, r2⟩ := rev (rs.mono e2 p2) hi
      obtain ⟨rfl, yl⟩ := yl
      have := (yl vs (e2.tupF t).sqT).symm.trans q
      cases this
      exact ⟨d, q0, .refl, M2, .inl ⟨rfl, r2⟩⟩
  · have sq : ∀ {H2}, Ext H H2 → SqL G.K H2 a vs := fun e2 => (e2.roL t).sq
    refine .inl ⟨sq .refl, ⟨fun i H2 π2 h2 hi e2 p2 M2 g2 => ?_, fun H2 π2 h2 e2 p2 M2 g2 => ?_, fun i H2 π2 h2 y H3 hi e2 p2 M2 g2 yl => ?_⟩⟩
    · rw [List.length_reverse] at hi
      obtain ⟨d, y, _, q, _⟩ := rev (rs.mono e2 p2) hi
      exact ⟨by rw [← hl]; exact hi, vs, y, sq e2, q⟩
    · show vs.length ≤ _
      rw [List.length_reverse, hl]; exact Nat.le_refl _
    · rw [List.length_reverse] at hi
      obtain ⟨d, y2, q0, q, r2⟩ := rev (rs.mono e2 p2) hi
      obtain ⟨rfl, yl⟩ := yl
      have := (yl vs (sq e2)).symm.trans q
      cases this
      exact ⟨d, q0, .refl, M2, .inl ⟨rfl, r2⟩⟩
  · have at2 : ∀ {H2 π2 h2}, π <+: π2 → HmOk G H2 π2 h2 → gdOk [(n, xs)] h2 = true → ∃ vs2, SqL G.K H2 a vs2 ∧ Reps G H2 π2 xs vs2 := fun {H2 π2 h2} p2 M2 g2 => by
      obtain ⟨a2, ha2, vs2, q1, q2⟩ := M2.at (gdOk_one g2)
      have : a2 = a := pre_get' p2 hp ha2
      subst this
      exact ⟨vs2, .of q1, q2⟩
    refine .inl ⟨.of t, ⟨fun i H2 π2 h2 hi e2 p2 M2 g2 => ?_, fun H2 π2 h2 e2 p2 M2 g2 => ?_, fun i H2 π2 h2 y H3 hi e2 p2 M2 g2 yl => ?_⟩⟩
    · rw [List.length_reverse] at hi
      obtain ⟨vs2, q1, q2⟩ := at2 p2 M2 g2
      obtain ⟨d, y, _, q, _⟩ := rev q2 hi
      exact ⟨by rw [← hl]; exact hi, vs2, y, q1, q⟩
    · show vs.length ≤ _
      rw [List.length_reverse, hl]; exact Nat.le_refl _
    · rw [List.length_reverse] at hi
      obtain ⟨vs2, q1, q2⟩ := at2 p2 M2 g2
      obtain ⟨d, y2, q0, q, r2⟩ := rev q2 hi
      obtain ⟨rfl, yl⟩ := yl
      have := (yl vs2 q1).symm.trans q
      cases this
      exact ⟨d, q0, .refl, M2, .inl ⟨rfl, r2⟩⟩
theorem i_rev {tg l : Expr} {p pos : Pos} {ea : Env' → Hm → R} (hK : G.K = X.K) (hg : Gl X "reversed") (hm : X.mg "reversed" = none) (hl : PE X l (TEv G W ea)) (hs : starEach [l] X.env = [(false, eval l X.env)]) :
    PI X tg (.Call (.Name "reversed" p) [l] [] pos) (TIv G W false (fun ρ h => (ea ρ h).bind fun d h1 => (R.ok (.tup []) h1).bind fun ds h2 => match ds with | .tup xs => .ok (.tup (d :: xs)) h2 | _ => .bad) .rev) := by
  refine pi_imp (RT.pi_revA hg hm hl (by rw [hs]; rfl)) fun σ H R ⟨ρ, π, h, E, M, p⟩ => ⟨ρ, π, h, E, M, ?_⟩
  dsimp only at p
  cases q : ea ρ h with
  | bad => rw [q] at p; exact p.elim
  | exn x h1 => rw [q] at p; exact p
  | ok d h1 =>
    rw [q] at p
    intro v H1 π1 e1 p1 M1 R1
    obtain ⟨items, g, es, k2⟩ := p [v] H1 π1 e1 p1 M1 (.cons R1 .nil)
    change (listOf h1 d).map _ = some (items, g) at es
    rw [Option.map_eq_some_iff] at es
    obtain ⟨xs, hl, e2⟩ := es
    cases e2
    obtain ⟨a, ys, rfl, hw⟩ := walkZ_rev M1 R1 hl
    rw [hK] at hw
    refine ⟨a, ys, rfl, ?_⟩
    rcases hw with ⟨hs, hw⟩ | ⟨hs, hw⟩
    · exact .inl ⟨hs, k2 _ _ .refl M1 hw⟩
    · exact .inr ⟨hs, k2 _ _ .refl M1 hw⟩

/-! ### targets -/
theorem wipe_idem (σ : L2.St) : ∀ (vs : List Nat) (i : Nat) (v : Option V), i ∈ vs → wipe (σ.set i v) vs = wipe σ vs
  | [], i, v, h => by cases h
  | u :: vs, i, v, h => by
    unfold wipe
    by_cases hi : i ∈ vs
    · rw [wipe_idem σ vs i v hi]
    · have e : i = u := by
        rcases List.mem_cons.mp h with e | e
        · exact e
        · exact absurd e hi
      subst e
      have : ∀ (vs : List Nat), i ∉ vs → wipe (σ.set i v) vs = (wipe σ vs).set i v := by
        intro vs
        induction vs with
        | nil => intro _; rfl
        | cons u vs ih =>
          intro hn
          simp only [List.mem_cons, not_or] at hn
          unfold wipe
          rw [ih hn.2, List.set_comm _ _ (fun e => hn.1 (by omega))]
      rw [this vs hi, List.set_set]
theorem wipe_wipe (σ : L2.St) : ∀ vs : List Nat, wipe (wipe σ vs) vs = wipe σ vs := by
  have : ∀ (us vs : List Nat), (∀ i ∈ us, i ∈ vs) → wipe (wipe σ us) vs = wipe σ vs := by
    intro us
    induction us with
    | nil => intro vs _; rfl
    | cons u us ih =>
      intro vs hs
      show wipe ((wipe σ us).set u none) vs = wipe σ vs
      rw [wipe_idem _ vs u none (hs u List.mem_cons_self)]
      exact ih vs fun i hi => hs i (List.mem_cons_of_mem _ hi)
  exact fun vs => this vs vs fun _ h => h
theorem EnvOk.wipe {H : Hp} {π : List Addr} {ρ : Env'} {σ : L2.St} (x : EnvOk G H π ρ σ) (hx : G.ex = none) : ∀ vs : List Nat, EnvOk G H π (wipeE ρ vs) (L2.wipe σ vs)
  | [] => x
  | v :: vs => by
    have ih := EnvOk.wipe x hx vs
    unfold wipeE L2.wipe
    refine ⟨by simp [ih.len], fun j d h => ?_, .none hx⟩
    by_cases hj : v = j
    · subst hj
      have hl : v < (wipeE ρ vs).length := by have := (List.getElem?_eq_some_iff.mp h).1; simpa using this
      rw [List.getElem?_set_self hl] at h
      cases h
    · rw [List.getElem?_set_ne hj] at h
      rw [List.getElem?_set_ne hj]
      exact ih.at' j d h
/-- the slots that a target stores -/
def Tg.slots : Tg → List Nat
  | .name i => [i] | .tup2 i j => [i, j] | .tup3 i j k => [i, j, k] | .tup4 i j k l => [i, j, k, l]
/-- a target's reading serves the small language's store -/
def TgOk (X : Cx) (G : Gx) (weak : Bool) (tg : Tg) (g : TG) : Prop := ∀ v σ H Q ρ ρ1 π h d, G.ex = none → EnvOk G H π ρ σ → HmOk G H π h → ItRep G H π weak d v → setT tg d ρ = some ρ1 →
  (∀ σ1, EnvOk G H π ρ1 σ1 → (∀ vs, (∀ i ∈ tg.slots, i ∈ vs) → L2.wipe σ1 vs = L2.wipe σ vs) → Q σ1 H) → g v σ H Q
theorem tg_name {i : Nat} : TgOk X G false (.name i) (gName i) := by
  intro v σ H Q ρ ρ1 π h d hx E M r e q
  simp only [setT, Option.some.injEq] at e
  subst e
  rcases r with ⟨_, r⟩ | ⟨z, _⟩
  · exact q _ (E.set hx r) fun vs hv => wipe_idem σ vs i _ (hv i (by simp [Tg.slots]))
  · cases z
theorem itRep_tup {H : Hp} {π : List Addr} {weak : Bool} {ds : List D} {v : V} (r : ItRep G H π weak (.tup ds) v) : ∃ T vs, v = .ref T ∧ SqT G.K H T vs ∧ Reps G H π ds vs := by
  rcases r with ⟨_, r⟩ | ⟨_, T, vs, ds', e, rfl, t, rs⟩
  · obtain ⟨a, vs, rfl, t, rs⟩ := rep_tup r
    exact ⟨a, vs, rfl, t.sqT, rs⟩
  · cases e; exact ⟨T, vs, rfl, t, rs⟩
theorem tg_tup2 {weak : Bool} {i j : Nat} (hK : G.K = X.K) : TgOk X G weak (.tup2 i j) (gTup X.K 2 (gCons (gName i) (gCons (gName j) gNil))) := by
  intro v σ H Q ρ ρ1 π h d hx E M r e q
  unfold setT at e
  split at e <;> first | (rename_i h1 _; cases h1; done) | (rename_i h1; cases h1; done) | skip
  · rename_i a b h1
    cases h1
    simp only [Option.some.injEq] at e
    subst e
    obtain ⟨T, vs, rfl, t, rs⟩ := itRep_tup r
    rw [hK] at t
    cases rs with
    | cons r1 rs => cases rs with
      | cons r2 rs =>
        cases rs
        refine ⟨T, _, rfl, t, rfl, _, _, rfl, _, _, rfl, rfl, q _ ((E.set hx r1).set hx r2) fun vs hv => ?_⟩
        rw [wipe_idem _ vs j _ (hv j (by simp [Tg.slots])), wipe_idem σ vs i _ (hv i (by simp [Tg.slots]))]
  · cases e
theorem tg_tup3 {weak : Bool} {i j k : Nat} (hK : G.K = X.K) : TgOk X G weak (.tup3 i j k) (gTup X.K 3 (gCons (gName i) (gCons (gName j) (gCons (gName k) gNil)))) := by
  intro v σ H Q ρ ρ1 π h d hx E M r e q
  unfold setT at e
  split at e <;> first | (rename_i h1 _; cases h1; done) | (rename_i h1; cases h1; done) | skip
  · rename_i a b c h1
    cases h1
    simp only [Option.some.injEq] at e
    subst e
    obtain ⟨T, vs, rfl, t, rs⟩ := itRep_tup r
    rw [hK] at t
    cases rs with
    | cons r1 rs => cases rs with
      | cons r2 rs => cases rs with
        | cons r3 rs =>
          cases rs
          refine ⟨T, _, rfl, t, rfl, _, _, rfl, _, _, rfl, _, _, rfl, rfl, q _ (((E.set hx r1).set hx r2).set hx r3) fun vs hv => ?_⟩
          rw [wipe_idem _ vs k _ (hv k (by simp [Tg.slots])), wipe_idem _ vs j _ (hv j (by simp [Tg.slots])), wipe_idem σ vs i _ (hv i (by simp [Tg.slots]))]
  · cases e
theorem tg_tup4 {weak : Bool} {i j k l : Nat} (hK : G.K = X.K) : TgOk X G weak (.tup4 i j k l) (gTup X.K 4 (gCons (gName i) (gCons (gName j) (gCons (gName k) (gCons (gName l) gNil))))) := by
  intro v σ H Q ρ ρ1 π h d hx E M r e q
  unfold setT at e
  split at e <;> first | (rename_i h1 _; cases h1; done) | (rename_i h1; cases h1; done) | skip
  · rename_i a b c f h1
    cases h1
    simp only [Option.some.injEq] at e
    subst e
    obtain ⟨T, vs, rfl, t, rs⟩ := itRep_tup r
    rw [hK] at t
    cases rs with
    | cons r1 rs => cases rs with
      | cons r2 rs => cases rs with
        | cons r3 rs => cases rs with
          | cons r4 rs =>
            cases rs
            refine ⟨T, _, rfl, t, rfl, _, _, rfl, _, _, rfl, _, _, rfl, _, _, rfl, rfl, q _ ((((E.set hx r1).set hx r2).set hx r3).set hx r4) fun vs hv => ?_⟩
            rw [wipe_idem _ vs l _ (hv l (by simp [Tg.slots])), wipe_idem _ vs k _ (hv k (by simp [Tg.slots])), wipe_idem _ vs j _ (hv j (by simp [Tg.slots])), wipe_idem σ vs i _ (hv i (by simp [Tg.slots]))]
  · cases e
end
end Z

set_option Elab.async false
set_option linter.all false
set_option maxRecDepth 100000
set_option maxHeartbeats 4000000
/-! comprehensions over lists while an exception is handled -/
namespace ZH
open PySem PySem.Spec PyProof.Rows
section
variable {prog : Program} {w : World} {A : Around} {E : Value → Shared → Prop} {s : Shared}
theorem pyNext_list_end_hot {it l x1 : Addr} {i : Nat} {items} {Q : Option Value → Shared → Prop} (hot : HotX.HotAt A x1 s.heap) (hne : x1 ≠ it)
    (hit : s.heap.IsListIter it l i) (hl : s.heap.IsList l items) (hx : items[i]? = none)
    (hQ : ∀ h', (∀ b o, b ≠ it → s.heap.get? b = some o → h'.get? b = some o) → Q none { s with heap := h' }) : wpAny (model prog w) A (pyNext (.ref it)) Q E s := by
  obtain ⟨o, ho, hc, hd⟩ := id hit
  obtain ⟨ol, hol, _, nl, hdl⟩ := hl
  obtain ⟨hh, o1, vs1, h1, d1, c1⟩ := hot
  unfold pyNext
  refine wpAny_bind (wpAny_attempt (wpAny_callSpecial?_slot (name := Str.ofString "__next__") hit.typeIs slot_listiter_next
    (wpAny_call_entry slot_listiter_next hit.typeIs entry_listiter_next ?_ (args_listiter_next _))))
  show wpAny _ _ (field (.ref it) 0 >>= _) _ _ s
  refine wpAny_bind (wpAny_field ho hd (x := .ref l) rfl ?_)
  show wpAny _ _ (if (Value.ref l == Value.none) = true then _ else _) _ _ s
  rw [if_neg (show ¬ ((Value.ref l == Value.none) = true) from Bool.false_ne_true)]
  show wpAny _ _ (field (.ref it) 1 >>= _) _ _ s
  refine wpAny_bind (wpAny_field ho hd (x := .int i 0) rfl ?_)
  show wpAny _ _ (seqItems? (.ref l) >>= _) _ _ s
  refine wpAny_bind (wpAny_seqItems hol hdl ?_)
  simp only [Int.toNat_natCast, hx]
  refine wpAny_bind (wpAny_rule (wpAny_bind (wpAny_setField ho hd (by simp) ?_)))
  show wpAny _ _ (newExc (.type "StopIteration") [] >>= _) _ _ _
  refine wpAny_bind ?_
  simp only [newExc, newTuple]
  refine wpAny_bind (wpAny_newObj_type ?_ (by size_fits))
  refine wpAny_bind (m := firstArgMember _ _) (wpAny_of_eq (a := Value.none) (by first | rfl | (simp only [firstArgMember]; rfl)) ?_)
  refine wpAny_newObj_type ?_ (by size_fits)
  have other : ∀ b u, b ≠ it → s.heap.get? b = some u → (s.heap.update it (Obj.mapFields (·.setIfInBounds 0 Value.none))).get? b = some u := fun b u hb e => by
    rw [Heap.get?_update_other _ _ (Ne.symm hb)]; exact e
  have k1 := Heap.get?_push_of_some (h := (s.heap.update it (Obj.mapFields (·.setIfInBounds 0 Value.none)))) { cls := .type "tuple", data := .seq ([] : List Value).toArray } (other x1 o1 hne h1)
  have k2 := Heap.get?_push_of_some { cls := Value.type "StopIteration", dict := none, data := .fields (#[Value.ref (s.heap.update it (Obj.mapFields (·.setIfInBounds 0 Value.none))).objs.size, .none, .none, .none, .bool false, .none]) } k1
  refine HotX.raiseNew_hot ⟨hh, o1, vs1, Heap.get?_push_of_some _ k1, d1, c1⟩ (Nat.ne_of_lt (Heap.lt_size k1)) (Heap.get?_push_size _ rfl) rfl (by first | (simp; done) | (simp; omega) | (simp only [Array.size_append]; simp; omega)) ?_
  refine wpAny_bind (wpAny_isInstance (T := "StopIteration") (b := true) ⟨_, Heap.get?_update_self _ (Heap.get?_push_size _ rfl) rfl, rfl⟩ isSubtype_stop ?_)
  refine wpAny_pure (hQ _ fun b u hb e => ?_)
  have q := Heap.get?_push_of_some { cls := Value.type "tuple", dict := none, data := .seq ([] : List Value).toArray } (other b u hb e)
  rw [Heap.get?_update_other _ _ (Nat.ne_of_gt (Heap.lt_size q))]
  exact Heap.get?_push_of_some _ q
theorem pyNext_tuple_end_hot {it l x1 : Addr} {i : Nat} {items} {Q : Option Value → Shared → Prop} (hot : HotX.HotAt A x1 s.heap) (hne : x1 ≠ it)
    (hit : s.heap.IsTupleIter it l i) (hl : s.heap.IsTuple l items) (hx : items[i]? = none)
    (hQ : ∀ h', (∀ b o, b ≠ it → s.heap.get? b = some o → h'.get? b = some o) → Q none { s with heap := h' }) : wpAny (model prog w) A (pyNext (.ref it)) Q E s := by
  obtain ⟨o, ho, hc, hd⟩ := id hit
  obtain ⟨ol, hol, _, nl, hdl⟩ := hl
  obtain ⟨hh, o1, vs1, h1, d1, c1⟩ := hot
  unfold pyNext
  refine wpAny_bind (wpAny_attempt (wpAny_callSpecial?_slot (name := Str.ofString "__next__") hit.typeIs F.slot_tuple_iterator_next
    (wpAny_call_entry F.slot_tuple_iterator_next hit.typeIs F.entry_tuple_iterator_next ?_ (F.args_tuple_iterator_next_1 _))))
  show wpAny _ _ (field (.ref it) 0 >>= _) _ _ s
  refine wpAny_bind (wpAny_field ho hd (x := .ref l) rfl ?_)
  show wpAny _ _ (if (Value.ref l == Value.none) = true then _ else _) _ _ s
  rw [if_neg (show ¬ ((Value.ref l == Value.none) = true) from Bool.false_ne_true)]
  show wpAny _ _ (field (.ref it) 1 >>= _) _ _ s
  refine wpAny_bind (wpAny_field ho hd (x := .int i 0) rfl ?_)
  show wpAny _ _ (seqItems? (.ref l) >>= _) _ _ s
  refine wpAny_bind (wpAny_seqItems hol hdl ?_)
  simp only [Int.toNat_natCast, hx]
  refine wpAny_bind (wpAny_rule (wpAny_bind (wpAny_setField ho hd (by simp) ?_)))
  show wpAny _ _ (newExc (.type "StopIteration") [] >>= _) _ _ _
  refine wpAny_bind ?_
  simp only [newExc, newTuple]
  refine wpAny_bind (wpAny_newObj_type ?_ (by size_fits))
  refine wpAny_bind (m := firstArgMember _ _) (wpAny_of_eq (a := Value.none) (by first | rfl | (simp only [firstArgMember]; rfl)) ?_)
  refine wpAny_newObj_type ?_ (by size_fits)
  have other : ∀ b u, b ≠ it → s.heap.get? b = some u → (s.heap.update it (Obj.mapFields (·.setIfInBounds 0 Value.none))).get? b = some u := fun b u hb e => by
    rw [Heap.get?_update_other _ _ (Ne.symm hb)]; exact e
  have k1 := Heap.get?_push_of_some (h := (s.heap.update it (Obj.mapFields (·.setIfInBounds 0 Value.none)))) { cls := .type "tuple", data := .seq ([] : List Value).toArray } (other x1 o1 hne h1)
  have k2 := Heap.get?_push_of_some { cls := Value.type "StopIteration", dict := none, data := .fields (#[Value.ref (s.heap.update it (Obj.mapFields (·.setIfInBounds 0 Value.none))).objs.size, .none, .none, .none, .bool false, .none]) } k1
  refine HotX.raiseNew_hot ⟨hh, o1, vs1, Heap.get?_push_of_some _ k1, d1, c1⟩ (Nat.ne_of_lt (Heap.lt_size k1)) (Heap.get?_push_size _ rfl) rfl (by first | (simp; done) | (simp; omega) | (simp only [Array.size_append]; simp; omega)) ?_
  refine wpAny_bind (wpAny_isInstance (T := "StopIteration") (b := true) ⟨_, Heap.get?_update_self _ (Heap.get?_push_size _ rfl) rfl, rfl⟩ isSubtype_stop ?_)
  refine wpAny_pure (hQ _ fun b u hb e => ?_)
  have q := Heap.get?_push_of_some { cls := Value.type "tuple", dict := none, data := .seq ([] : List Value).toArray } (other b u hb e)
  rw [Heap.get?_update_other _ _ (Nat.ne_of_gt (Heap.lt_size q))]
  exact Heap.get?_push_of_some _ q
end
end ZH
namespace Z
open PySem PySem.Spec PyProof.Rows L2 L2H HotX
abbrev St := L2.St
theorem turn_listH {P : Program} {w : World} {K : PySem.W.Frag} {tg : Expr} (a it : Addr) : TurnH P w K tg (Itl K a) [it] it (fun i h => h.IsListIter it a i) where
  mem := by simp
  obj := fun i h st b hb => by
    have e : b = it := by simpa using hb
    subst e
    obtain ⟨o, e, c, d⟩ := st
    exact ⟨o, e, fun v z => by rw [d] at z; cases z⟩
  keep := fun i h h' st k => st.at fun o e => k it (by simp) o e
  item := by
    intro X hP hw hK hc i pins s σ H E I hf st hg
    subst hP hw hK
    obtain ⟨xs, x, hq, hx⟩ := hg
    obtain ⟨its, rv, p, hz⟩ := I.list hq
    obtain ⟨u, hu, ru⟩ := rv.get hx
    obtain ⟨f0, f1, f2, f3, f4, f5⟩ := hf it (by simp)
    refine wpAny_pyNext_list_item st p.isList (x := u) (by simpa using hu) fun h' st' sb => ?_
    have I1 : Inv X pins σ H { s with heap := h' } := I.turned (t' := s.toks) (fun b o hb e => (sb.2 b hb).trans e) f0 f1 f3 f4 f5
    obtain ⟨o, e, c, d⟩ := id st'
    exact ⟨u, rfl, go_of (s := { s with heap := h' }) e c d (by decide) ⟨x, H, I1, ru, ⟨rfl, fun ys hy => by rw [I.list_inj hy hq]; exact hx⟩, st', fun b hb => (hf b hb).1⟩⟩
  done := by
    intro X hP hw hK hc i pins s σ H E I hf st hg
    subst hP hw hK
    obtain ⟨xs, hq, hx⟩ := hg
    obtain ⟨its, rv, p, hz⟩ := I.list hq
    obtain ⟨f0, f1, f2, f3, f4, f5⟩ := hf it (by simp)
    have hl := rv.length
    obtain ⟨p1, hh, hp⟩ := id hc
    obtain ⟨hh1, v1, e1, c1⟩ := hh
    exact ZH.pyNext_list_end_hot (x1 := p1.1) ⟨hh1, p1.2, v1, (I.pin p1 (List.mem_append_left _ hp)).1, e1, c1⟩ (f5 p1 (List.mem_append_left _ hp)) st p.isList (by simp; omega) fun h' eb => ⟨rfl, I.turned (t' := s.toks) (fun b o hb e => eb b o hb e) f0 f1 f3 f4 f5⟩
  self := fun _ _ _ _ _ st h => wpAny_pyIter_listiter st h
theorem turn_tupleH {P : Program} {w : World} {K : PySem.W.Frag} {tg : Expr} (a it : Addr) : TurnH P w K tg (Itt K a) [it] it (fun i h => h.IsTupleIter it a i) where
  mem := by simp
  obj := fun i h st b hb => by
    have e : b = it := by simpa using hb
    subst e
    obtain ⟨o, e, c, d⟩ := st
    exact ⟨o, e, fun v z => by rw [d] at z; cases z⟩
  keep := fun i h h' st k => st.at fun o e => k it (by simp) o e
  item := by
    intro X hP hw hK hc i pins s σ H E I hf st hg
    subst hP hw hK
    obtain ⟨xs, x, hq, hx⟩ := hg
    obtain ⟨its, rv, p, hz⟩ := I.tuple hq
    obtain ⟨u, hu, ru⟩ := rv.get hx
    obtain ⟨f0, f1, f2, f3, f4, f5⟩ := hf it (by simp)
    refine wpAny_pyNext_tuple_item st (show s.heap.IsTuple a its.toArray from p) (x := u) (by simpa using hu) fun h' st' sb => ?_
    have I1 : Inv X pins σ H { s with heap := h' } := I.turned (t' := s.toks) (fun b o hb e => (sb.2 b hb).trans e) f0 f1 f3 f4 f5
    obtain ⟨o, e, c, d⟩ := id st'
    exact ⟨u, rfl, go_of (s := { s with heap := h' }) e c d (by decide) ⟨x, H, I1, ru, ⟨rfl, fun ys hy => by rw [I.tuple_inj hy hq]; exact hx⟩, st', fun b hb => (hf b hb).1⟩⟩
  done := by
    intro X hP hw hK hc i pins s σ H E I hf st hg
    subst hP hw hK
    obtain ⟨xs, hq, hx⟩ := hg
    obtain ⟨its, rv, p, hz⟩ := I.tuple hq
    obtain ⟨f0, f1, f2, f3, f4, f5⟩ := hf it (by simp)
    have hl := rv.length
    obtain ⟨p1, hh, hp⟩ := id hc
    obtain ⟨hh1, v1, e1, c1⟩ := hh
    exact ZH.pyNext_tuple_end_hot (x1 := p1.1) ⟨hh1, p1.2, v1, (I.pin p1 (List.mem_append_left _ hp)).1, e1, c1⟩ (f5 p1 (List.mem_append_left _ hp)) st (show s.heap.IsTuple a its.toArray from p) (by simp; omega) fun h' eb => ⟨rfl, I.turned (t' := s.toks) (fun b o hb e => eb b o hb e) f0 f1 f3 f4 f5⟩
  self := fun _ _ _ _ _ st h => wpAny_pyIter_tupleiter st h
/-- over a list or a tuple, an exception handled -/
theorem pi_seqH {X : Cx} {tg l : Expr} {tl : TE} (hl : PE X l tl) : PIH X tg l (iSeqZ X.K tl) := by
  refine ⟨fun pins s σ H R I h => ?_⟩
  refine thn (hl.run pins s σ H _ I h) fun v s1 ⟨x, H1, I1, r1, q1⟩ => ?_
  obtain ⟨a, e, q⟩ := q1
  subst e
  cases r1
  rcases q with ⟨⟨xs, hq⟩, q⟩ | ⟨⟨xs, hq⟩, q⟩
  · obtain ⟨its, rv, p, hz⟩ := I1.list hq
    refine wpAny_pyIter_list p.isList ?_
    refine ⟨s1.heap.objs.size, [s1.heap.objs.size], _, _, H1, rfl, I1.kept (t' := s1.toks) fun b o e => Heap.get?_push_of_some _ e, turn_listH a _, ⟨_, Heap.get?_push_size _ rfl, rfl, rfl⟩, fun b hb => ?_, q⟩
    have e : b = s1.heap.objs.size := by simpa using hb
    subst e
    exact I1.fpOk (Nat.le_refl _) (I1.hok.fresh (Nat.le_refl _))
  · obtain ⟨its, rv, p, hz⟩ := I1.tuple hq
    refine wpAny_pyIter_tuple (show s1.heap.IsTuple a its.toArray from p) ?_
    refine ⟨s1.heap.objs.size, [s1.heap.objs.size], _, _, H1, rfl, I1.kept (t' := s1.toks) fun b o e => Heap.get?_push_of_some _ e, turn_tupleH a _, ⟨_, Heap.get?_push_size _ rfl, rfl, rfl⟩, fun b hb => ?_, q⟩
    have e : b = s1.heap.objs.size := by simpa using hb
    subst e
    exact I1.fpOk (Nat.le_refl _) (I1.hok.fresh (Nat.le_refl _))
/-- a block's context that keeps the pins -/
abbrev blkH (X : Cx) (s : Shared) (H : Hp) (scope : Scope) (cenv : Env) (fp : List Addr) : Cx := { X.blk s H scope cenv fp with pn := X.pn }
theorem _root_.L2H.HotC.blkH {X : Cx} (c : HotC X) (s : Shared) (H : Hp) (scope : Scope) (cenv : Env) (fp : List Addr) : HotC (blkH X s H scope cenv fp) := by
  obtain ⟨p, h, hp⟩ := c
  exact ⟨p, h, hp⟩
section
variable {X : Cx} {pins : List (Addr × Obj)} {σ : St} {H : Hp} {s : Shared}
theorem block_startH {scope : Scope} {own : List (Str × Nat)} {fp : List Addr} (I : Inv X pins σ H s) (ok : BlkOk X.N X.env.scope scope own) (hN : X.N.Nodup) (hfp : ∀ b ∈ fp, FpOk X pins H b ∧ b < s.heap.objs.size) :
    Inv (blkH X s H scope (compEnvC scope (cellsFrom (s.heap.objs.size + 1) scope.names (cloFrom X.env.cells scope.names [])) s.heap.objs.size X.env) fp) [] (wipe σ (own.map (·.2))) H { s with heap := pushCells (s.heap.push { cls := .type "dict", data := .dict #[] }) scope.names } := by
  have J := block_start I ok hN hfp
  have ok' := J.ok
  refine ⟨⟨ok'.mod, ok'.kind, ok'.glob, ok'.blt, ok'.above, ok'.inj, ok'.has, ok'.cab, ok'.hd, ok'.frames, ok'.stk, ok'.exf, ok'.bs, ok'.bsz, ok'.noex, ok'.exfs, ok'.funs, ok'.frf⟩, J.os, J.bare, J.base, J.loc, J.cell, J.free, J.freeC, fun p hp => ?_, J.hok, J.len⟩
  rw [List.append_nil] at hp
  have P1 := I.pin p (List.mem_append_left _ hp)
  refine ⟨pushCells_keeps _ _ _ _ (Heap.get?_push_of_some _ P1.1), P1.2.1, Nat.ne_of_lt (Heap.lt_size P1.1), fun hm => (List.mem_cons.mp (I.stkSub p.1 hm)).elim P1.2.2.1 P1.2.2.2.1, P1.2.2.2.2⟩
theorem lc_coreH {pins : List (Addr × Obj)} {s : Shared} {σ : St} {H : Hp} {Q : VK} {elt tg iter : Expr} {ifs : List Expr} {scope : Scope} {own : List (Str × Nat)} {pos pos' : Pos} {wi : TI} {g : TG} {tt : TT} {te : TE} {use : Option (Value → Sem Unit)} {Qf : Value → Shared → Prop}
    (hc : HotC X) (hN : X.N.Nodup) (I : Inv X pins σ H s) (hi : PIH X tg iter wi) (ok : BlkOk X.N X.env.scope scope own)
    (hg : ∀ (s : Shared) (H : Hp) (C : Addr) (cl : List (Str × Addr)) (fp : List Addr), PG (blkH X s H scope (compEnvC scope cl C X.env) fp) tg g) (ht : ∀ (s : Shared) (H : Hp) (C : Addr) (cl : List (Str × Addr)) (fp : List Addr), PTs (blkH X s H scope (compEnvC scope cl C X.env) fp) ifs tt)
    (he : ∀ (s : Shared) (H : Hp) (C : Addr) (cl : List (Str × Addr)) (fp : List Addr), PE (blkH X s H scope (compEnvC scope cl C X.env) fp) elt te) (hs : ∀ x, foldedSetIterable iter X.env x = pure x)
    (h : tLc wi g tt te (own.map (·.2)) σ H Q)
    (hRR : ∀ D C s' m H', Inv X pins σ H' s' → Q (.ref D) H' → s'.heap.Ns C m → FpOk X pins H' C → compPost (model X.prog X.w) X.A X.xe use Qf (.ref D) C (.ok .next) s') :
    wpAny (model X.prog X.w) X.A (comprehension (.ListComp elt [⟨tg, iter, ifs, 0⟩] scope pos) scope X.env pos' (newList []) false (eval iter X.env) use) Qf X.xe s := by
  have hfree : ∀ y ∈ scope.names, y.2 = .free → ∃ c, X.env.cells.lookup y.1 = some c := fun y hy e => by
    rcases ok.free y hy e with k | k
    · exact I.ok.has _ (.inl k)
    · exact I.ok.has _ (.inr k)
  refine wpAny_comprehension_free (use := use) rfl hs (closure_ok hfree) ok.kind (fun y hy e => by rw [ok.uniq y hy, e])
    (thn (hi.run pins s σ H _ I h) fun xv s1 hx => thn hx fun itv s2 h2 => ?_)
  obtain ⟨it, fp, tn, J, H2, e, I2, T, st2, f2, q⟩ := h2
  subst e
  refine wpAny_newObj_type (newEnv_comp ?_) (by show 0 ≤ sizeLine; decide)
  generalize hD : s2.heap.objs.size = D
  have hDn : H2 D = none := I2.hok.fresh (Nat.le_of_eq hD)
  obtain ⟨W, ⟨m0, w0⟩, turn⟩ := q D hDn
  -- the new list
  generalize hs3 : ({ s2 with heap := s2.heap.push { cls := .type "list", data := .seq ([] : List Value).toArray } } : Shared) = s3
  have I3 : Inv X pins σ (upd H2 D (.lst [])) s3 := by
    rw [← hs3]
    refine I2.laid (t' := s2.toks) (fun b o e => Heap.get?_push_of_some _ e) (Nat.le_of_eq hD) ⟨Nat.zero_le _, [], 0, .nil, ?_⟩
    rw [← hD]
    exact Heap.get?_push_size _ rfl
  have h3 : s3.heap = s2.heap.push { cls := .type "list", data := .seq ([] : List Value).toArray } := by rw [← hs3]
  have sz : ∀ b ∈ fp, b < s2.heap.objs.size := fun b hb => by
    obtain ⟨o, e, _⟩ := T.obj _ _ st2 b hb
    exact Heap.lt_size e
  have f3 : ∀ b ∈ fp, FpOk X pins (upd H2 D (.lst [])) b ∧ b < s3.heap.objs.size := fun b hb => by
    have hlt := sz b hb
    refine ⟨⟨?_, (f2 b hb).2⟩, by rw [h3, Heap.size_push]; exact Nat.lt_succ_of_lt hlt⟩
    rw [upd_ne (by rw [← hD]; exact Nat.ne_of_lt hlt)]
    exact (f2 b hb).1
  have st3 : tn 0 s3.heap := T.keep _ _ _ st2 fun b _ o e => by rw [h3]; exact Heap.get?_push_of_some _ e
  have I4 := block_startH I3 ok hN f3
  have pg := hg s3 (upd H2 D (.lst [])) s3.heap.objs.size (cellsFrom (s3.heap.objs.size + 1) scope.names (cloFrom X.env.cells scope.names [])) fp
  have pt := ht s3 (upd H2 D (.lst [])) s3.heap.objs.size (cellsFrom (s3.heap.objs.size + 1) scope.names (cloFrom X.env.cells scope.names [])) fp
  have pe := he s3 (upd H2 D (.lst [])) s3.heap.objs.size (cellsFrom (s3.heap.objs.size + 1) scope.names (cloFrom X.env.cells scope.names [])) fp
  show codeAny _ _ (.compStart (.ListComp elt [⟨tg, iter, ifs, 0⟩] scope pos) 0 (.ref it) (.ref D) (compEnvC scope (cellsFrom (s3.heap.objs.size + 1) scope.names (cloFrom X.env.cells scope.names [])) s3.heap.objs.size X.env)) (compPost (model X.prog X.w) X.A X.xe use Qf (.ref D) s3.heap.objs.size) { s3 with heap := pushCells (s3.heap.push { cls := .type "dict", data := .dict #[] }) scope.names }
  have nfp : ∀ b ∈ fp, (upd H2 D (.lst [])) b = none := fun b hb => (f3 b hb).1.1
  generalize hce : compEnvC scope (cellsFrom (s3.heap.objs.size + 1) scope.names (cloFrom X.env.cells scope.names [])) s3.heap.objs.size X.env = ce at I4 pg pt pe ⊢
  have cL : ce.locals = s3.heap.objs.size := by subst hce; rfl
  generalize hH3 : upd H2 D (.lst []) = H3 at I3 I4 pg pt pe w0 nfp f3
  generalize hs4 : ({ s3 with heap := pushCells (s3.heap.push { cls := .type "dict", data := .dict #[] }) scope.names } : Shared) = s4 at I4 ⊢
  have st4 : tn 0 s4.heap := T.keep _ _ _ st3 fun b _ o e => by rw [← hs4]; exact pushCells_keeps _ _ _ _ (Heap.get?_push_of_some _ e)
  have stat : ∀ {σ' : St} {H' : Hp} {s' : Shared}, Inv (blkH X s3 H3 scope ce fp) [] σ' H' s' → (∀ b ∈ fp, H' b = none) → ∀ b ∈ fp, FpOk (blkH X s3 H3 scope ce fp) [] H' b := fun {σ' H' s'} I' hn b hb =>
    ⟨hn b hb, (I'.ok.exf b hb).1, I'.ok.exfs b hb, .inl hb, fun x c e => (I'.ok.exf b hb).2 x c e, fun p hp => (f3 b hb).1.2.2.2.2.2 p (List.mem_append_left _ (by rw [List.append_nil] at hp; exact hp))⟩
  have loop : codeAny (model X.prog X.w) X.A (.compLoop (.ListComp elt [⟨tg, iter, ifs, 0⟩] scope pos) 0 (.ref it) (.ref D) ce) (compPost (model X.prog X.w) X.A X.xe use Qf (.ref D) s3.heap.objs.size) s4 := by
    refine compLoop_any (fun n s' => ∃ i H', Inv (blkH X s3 H3 scope ce fp) [] (wipe σ (own.map (·.2))) H' s' ∧ tn i s'.heap ∧ (∀ b ∈ fp, H' b = none) ∧ W i n H') ?_ m0 ⟨0, H3, I4, st4, nfp, w0⟩
    rintro n s5 ⟨i, H5, I5, st5, n5, w5⟩
    rcases turn i n H5 w5 with ⟨stop, qq⟩ | ⟨go, Nx, hNx, step⟩
    · have td := T.done (blkH X s3 H3 scope ce fp) rfl rfl rfl (hc.blkH s3 H3 scope ce fp) i [] s5 _ H5 (fun _ _ => False) I5 (stat I5 n5) st5 stop
      refine thnF td fun r s6 ⟨hr, I6⟩ => ?_
      subst hr
      -- back in the def's context
      have I7 : Inv X pins σ H5 s6 := I3.call' (ch := fp) I6.os I6.base I6.hok I6.bare fun b hb => ⟨(f3 b hb).1.2.2.2.1, (f3 b hb).1.2.1, (f3 b hb).1.2.2.2.2.1, (f3 b hb).1.2.2.2.2.2⟩
      have nC : H5 s3.heap.objs.size = none := by
        have z : H5 ce.locals = none := I6.free
        rw [cL] at z
        exact z
      obtain ⟨m, hn, _⟩ := I6.loc
      have hn : s6.heap.Ns ce.locals m := hn
      rw [cL] at hn
      exact hRR D s3.heap.objs.size s6 m H5 I7 qq hn (I3.fpOk (Nat.le_refl _) nC)
    · have ti := T.item (blkH X s3 H3 scope ce fp) rfl rfl rfl (hc.blkH s3 H3 scope ce fp) i [] s5 _ H5 (fun _ _ => False) I5 (stat I5 n5) st5 go
      refine thnF ti fun r s6 ⟨u, hr, h6⟩ => ?_
      subst hr
      refine thnF h6 fun _ s7 ⟨x, H7, I7, r7, y7, st7, n7⟩ => ?_
      have I7' := I7.pinned (stat I7 n7) (T.obj _ _ st7)
      refine thnF (pg.run _ s7 _ H7 x u _ I7' r7 (step x H7 y7)) fun _ s8 ⟨σ8, H8, I8, hw8, q8⟩ => ?_
      refine thnF (pt.run _ s8 σ8 H8 _ I8 q8) fun b s9 ⟨H9, I9, q9⟩ => ?_
      -- the turn's end
      have fin : ∀ {s' : Shared} {H' : Hp}, Inv (blkH X s3 H3 scope ce fp) ([] ++ pinsAt fp s7.heap) σ8 H' s' → Nx H' → ∃ m, m < n ∧ ∃ i H', Inv (blkH X s3 H3 scope ce fp) [] (wipe σ (own.map (·.2))) H' s' ∧ tn i s'.heap ∧ (∀ b ∈ fp, H' b = none) ∧ W i m H' := fun {s' H'} I' nx => by
        obtain ⟨m', hm, w'⟩ := hNx H' nx
        have pin' : ∀ b ∈ fp, ∀ o, s7.heap.get? b = some o → s'.heap.get? b = some o ∧ H' b = none := fun b hb o e =>
          let z := I'.pin (b, o) (List.mem_append_right _ (List.mem_append_right _ (mem_pinsAt hb e)))
          ⟨z.1, z.2.1⟩
        have hl : (wipe σ (own.map (·.2))).length = σ8.length := by rw [← hw8, wipe_length]
        refine ⟨m', hm, i + 1, H', (I'.unpinned (pins := [])).weak hl (fun j v e => ?_), T.keep _ _ _ st7 fun b hb o e => (pin' b hb o e).1, fun b hb => ?_, w'⟩
        · rw [← hw8] at e
          exact (wipe_some e).1
        · obtain ⟨o, e, _⟩ := T.obj _ _ st7 b hb
          exact (pin' b hb o e).2
      cases b with
      | false =>
        simp only [Bool.false_eq_true, if_false] at q9 ⊢
        exact fin I9 q9
      | true =>
        simp only [if_true] at q9 ⊢
        refine thnF (pe.run _ s9 σ8 H9 _ I9 q9) fun z s10 ⟨yv, H10, I10, r10, acc, hD10, hz10, nx⟩ => ?_
        exact app_ok (X := blkH X s3 H3 scope ce fp) I10 hD10 hz10 r10 fun s11 I11 => fin I11 nx
  exact codeAny_compStart_list loop (T.self X.A 0 _ _ _ st4 loop)
theorem pe_lcH {elt tg iter : Expr} {ifs : List Expr} {scope : Scope} {own : List (Str × Nat)} {pos : Pos} {wi : TI} {g : TG} {tt : TT} {te : TE} (hc : HotC X) (hN : X.N.Nodup) (hi : PIH X tg iter wi) (ok : BlkOk X.N X.env.scope scope own)
    (hg : ∀ (s : Shared) (H : Hp) (C : Addr) (cl : List (Str × Addr)) (fp : List Addr), PG (blkH X s H scope (compEnvC scope cl C X.env) fp) tg g) (ht : ∀ (s : Shared) (H : Hp) (C : Addr) (cl : List (Str × Addr)) (fp : List Addr), PTs (blkH X s H scope (compEnvC scope cl C X.env) fp) ifs tt)
    (he : ∀ (s : Shared) (H : Hp) (C : Addr) (cl : List (Str × Addr)) (fp : List Addr), PE (blkH X s H scope (compEnvC scope cl C X.env) fp) elt te) (hs : ∀ x, foldedSetIterable iter X.env x = pure x := by intro _; rfl) :
    PE X (.ListComp elt [⟨tg, iter, ifs, 0⟩] scope pos) (tLc wi g tt te (own.map (·.2))) := by
  refine ⟨fun pins s σ H Q I h => ?_⟩
  rw [eval_ListComp]
  refine lc_coreH hc hN I hi ok hg ht he hs h fun D C s' m H' I' q hn f => ⟨m, hn, fun h'' sb => ?_⟩
  obtain ⟨f0, f1, f2, f3, f4, f5⟩ := f
  exact ⟨.ref D, H', I'.turned (t' := s'.toks) (fun b o hb e => (sb.2 b hb).trans e) f0 f1 f3 f4 f5, rfl, q⟩
end
end Z

set_option Elab.async false
set_option linter.all false
set_option maxRecDepth 100000
set_option maxHeartbeats 4000000
namespace Z
open PySem PySem.Spec PyProof.Rows L2
section
variable {G G' : Gx} {H : Hp} {π : List Addr}
mutual
theorem Rep.conv (e : G.K = G'.K) : ∀ {d : D} {v : V}, Rep G H π d v → Rep G' H π d v
  | _, _, .non => .non
  | _, _, .bl b => .bl b
  | _, _, .int i => .int i
  | _, _, .str s => .str s
  | _, _, .tup h r => .tup (e ▸ h) (Reps.conv e r)
  | _, _, .ref h => .ref h
  | _, _, .ro h r => .ro (e ▸ h) (Reps.conv e r)
  | _, _, .xv => .xv
theorem Reps.conv (e : G.K = G'.K) : ∀ {ds : List D} {vs : List V}, Reps G H π ds vs → Reps G' H π ds vs
  | _, _, .nil => .nil
  | _, _, .cons a r => .cons (Rep.conv e a) (Reps.conv e r)
end
theorem HmOk.conv (e : G.K = G'.K) (em : G.mg = G'.mg) (ew : G.w = G'.w) {h : Hm} (x : HmOk G H π h) : HmOk G' H π h := ⟨x.len, x.nd, fun n c a h1 h2 => by
  have q := x.cell n c a h1 h2
  cases c with
  | lst ds => obtain ⟨vs, q1, q2⟩ := q; exact ⟨vs, q1, q2.conv e⟩
  | ins c F fs => obtain ⟨C, dx, vs, q1, q2, q3, q4, q5⟩ := q; exact ⟨C, dx, vs, q1, em ▸ q2, q3, q4.conv e, e ▸ q5⟩
  | set acc => obtain ⟨S, q1, q2⟩ := q; exact ⟨S, ew ▸ q1, q2⟩⟩
theorem XFields.conv (e : G.K = G'.K) {fs : List Str} {ds : List D} {d : Option Addr} (x : XFields G H π fs ds d) : XFields G' H π fs ds d := by
  rcases x with x | ⟨dd, gs, h1, h2, h3, h4, h5⟩
  · exact .inl x
  · exact .inr ⟨dd, gs, h1, h2, h3, h4, h5.conv e⟩
theorem XRep.conv (e : G.K = G'.K) (em : G.mg = G'.mg) (ex : G.xs = G'.xs) {x : Exn} {cls : Value} {d : Option Addr} (q : XRep G H π x cls d) : XRep G' H π x cls d := ⟨em ▸ q.1, ex ▸ q.2.1, q.2.2.conv e⟩
/-- the same wish, in the terms of a context that differs in the held exception alone -/
theorem Post.conv (e : G.K = G'.K) (em : G.mg = G'.mg) (ex : G.xs = G'.xs) (ew : G.w = G'.w) {W W' : WX} {σ σ' : L2.St} {r : R} {C C' : D → Hm → V → Hp → List Addr → Prop} (p : Post G W σ H π r C) (hw : ∀ cls dd H', W cls dd σ H' → W' cls dd σ' H')
    (h : ∀ d h v H' π', Ext H H' → π <+: π' → HmOk G H' π' h → Rep G H' π' d v → C d h v H' π' → C' d h v H' π') : Post G' W' σ' H π r C' := by
  cases r with
  | ok d h1 => exact fun v H' π' a b c z => h _ _ _ _ _ a b (c.conv e.symm em.symm ew.symm) (z.conv e.symm) (p v H' π' a b (c.conv e.symm em.symm ew.symm) (z.conv e.symm))
  | exn x h1 => exact fun cls dd H' π' a b c z => hw _ _ _ (p cls dd H' π' a b (c.conv e.symm em.symm ew.symm) (z.conv e.symm em.symm ex.symm))
  | bad => exact p
end
end Z

set_option Elab.async false
set_option linter.all false
set_option maxRecDepth 100000
set_option maxHeartbeats 4000000
namespace Z
open PySem PySem.Spec PyProof.Rows L2
section
variable {P : Pg} {w k : Nat} {nm : Nm} {N : List Str} {sc : Scope} {hot : Option Nat} {G : Gx} {W : WX} {X : Cx}
abbrev W0 : WX := fun _ _ _ _ => False
/-- what a comprehension's evaluation is -/
def evComp (own : List Nat) (src : Src) (tg : Tg) (ea cond elt : Env' → Hm → R) : Env' → Hm → R := fun ρ h => onArgs (ea ρ h) fun xs h1 => match evSrc src xs h1 with
  | some (items, g) => compL g tg (wipeE ρ own) cond elt h1.length items (h1 ++ [.lst []])
  | none => .bad
/-- a comprehension's walk -/
theorem lc_walk (hex : G.ex = none) {own : List Nat} {tg : Tg} {cond elt : Env' → Hm → R} {g : TG} {weak : Bool} {σ : L2.St} {H2 : Hp} {π1 : List Addr} {h1 : Hm} {ρ : Env'} {items : List D} {gd : Gd} {J : It} {Q : VK} (hg : TgOk X G weak tg g) (hsl : ∀ i ∈ tg.slots, i ∈ own)
    (E2 : EnvOk G H2 π1 ρ σ) (M2 : HmOk G H2 π1 h1) (wk : WalkZ G H2 π1 J items gd weak) (q : Post G W σ H2 π1 (compL gd tg (wipeE ρ own) cond elt h1.length items (h1 ++ [.lst []])) fun _ _ v H' _ => Q v H') :
    ∀ D, H2 D = none → ∃ W : Nat → Nat → Hp → Prop, (∃ m, W 0 m (upd H2 D (.lst []))) ∧ ∀ i m H, W i m H →
      (J.stop i H ∧ Q (.ref D) H) ∨ (J.go i H ∧ ∃ Nx : Hp → Prop, (∀ H', Nx H' → ∃ m', m' < m ∧ W (i + 1) m' H') ∧ ∀ x H', J.yld i H x H' → g x (L2.wipe σ own) H' fun σ2 H2 => L2.wipe σ2 own = L2.wipe σ own ∧ TTv G W0 cond σ2 H2 fun b H3 =>
        if b = true then TEv G W0 elt σ2 H3 fun y H4 => ∃ acc, H4 D = some (.lst acc) ∧ acc.length < sizeLine ∧ Nx (upd H4 D (.lst (acc ++ [y]))) else Nx H3) := by
  intro D hD
  have hn : (π1 ++ [D])[h1.length]? = some D := by
    rw [List.getElem?_append_right (by rw [M2.len]; exact Nat.le_refl _), M2.len]; simp
  have step : ∀ {H : Hp} {π : List Addr} {h : Hm}, π1 ++ [D] <+: π → π1 <+: π := fun a => (List.prefix_append _ _).trans a
  let Wi : Nat → Hp → Prop := fun i H => ∃ π h, Ext H2 H ∧ π1 ++ [D] <+: π ∧ HmOk G H π h ∧ Post G W σ H π (compL gd tg (wipeE ρ own) cond elt h1.length (items.drop i) h) fun _ _ v H' _ => Q v H'
  refine ⟨fun i m H => m = items.length - i ∧ i ≤ items.length ∧ Wi i H, ⟨items.length, by simp, Nat.zero_le _, π1 ++ [D], h1 ++ [.lst []], .new hD, List.prefix_refl _, M2.push hD (show CellOk G H2 π1 (.lst []) D (some (.lst [])) from ⟨[], rfl, .nil⟩), ?_⟩, ?_⟩
  · rw [List.drop_zero]
    exact Post.weak (.new hD) (List.prefix_append _ _) q
  · rintro i m H ⟨rfl, hi, π', h', e', p', M', q'⟩
    by_cases hlt : i < items.length
    · rw [List.drop_eq_getElem_cons hlt] at q'
      unfold compL at q'
      split at q'
      · rename_i hgd
        refine .inr ⟨wk.goes i H π' h' hlt e' (step p' (H := H) (h := h')) M' hgd, Wi (i + 1), fun H' z => ⟨items.length - (i + 1), by omega, rfl, hlt, z⟩, fun x H' y => ?_⟩
        obtain ⟨d, hd, ex, Mx, rx⟩ := wk.yields i H π' h' x H' hlt e' (step p' (H := H) (h := h')) M' hgd y
        have ed : items[i] = d := by
          rw [List.getElem?_eq_getElem hlt] at hd; exact Option.some.inj hd
        rw [ed] at q'
        have q' := Post.weak ex (List.prefix_refl _) q'
        have Ew : EnvOk G H' π' (wipeE ρ own) (wipe σ own) := (E2.mono (e'.trans ex) (step p' (H := H) (h := h'))).wipe hex own
        split at q'
        · exact q'.elim
        · rename_i ρ1 hset
          refine hg x (wipe σ own) H' _ (wipeE ρ own) ρ1 π' h' d hex Ew Mx rx hset fun σ1 E1 hw => ⟨by rw [hw own hsl, wipe_wipe], ρ1, π', h', E1, Mx, ?_⟩
          cases qc : cond ρ1 h' with
          | bad => rw [qc] at q'; exact q'.elim
          | exn x3 h3 => rw [qc] at q'; exact q'.elim
          | ok c h3 =>
            rw [qc] at q'
            intro v3 H3 π3 e3 p3 M3 R3
            have q' := Post.weak e3 p3 q'
            dsimp only at q'
            cases qt : truth h3 c with
            | none => rw [qt] at q'; exact q'.elim
            | some b =>
              rw [qt] at q'
              refine ⟨b, rfl, ?_⟩
              cases b with
              | false =>
                rw [if_neg Bool.false_ne_true]
                exact ⟨π3, h3, (e'.trans ex).trans e3, p'.trans p3, M3, q'⟩
              | true =>
                rw [if_pos rfl]
                refine ⟨ρ1, π3, h3, E1.mono e3 p3, M3, ?_⟩
                dsimp only at q'
                cases qe : elt ρ1 h3 with
                | bad => rw [qe] at q'; exact q'.elim
                | exn x4 h4 => rw [qe] at q'; exact q'.elim
                | ok y4 h4 =>
                  rw [qe] at q'
                  intro v4 H4 π4 e4 p4 M4 R4
                  have q' := Post.weak e4 p4 q'
                  dsimp only at q'
                  split at q'
                  · rename_i acc hacc
                    split at q'
                    · rename_i hz
                      have hp4 : π4[h1.length]? = some D := pre_get ((p'.trans p3).trans p4) hn
                      obtain ⟨a5, vs5, z1, z2, z3, z4⟩ := M4.lst hacc (.ref hp4)
                      cases z1
                      refine ⟨vs5, z3, by rw [← z4.length]; exact hz, π4, _, (((e'.trans ex).trans e3).trans e4).trans (.lst z3), (p'.trans p3).trans p4, M4.setl hp4 z3 (z4.append (.cons R4 .nil)), Post.weak (.lst z3) (List.prefix_refl _) q'⟩
                    · exact q'.elim
                  · exact q'.elim
      · exact q'.elim
    · have e : i = items.length := by omega
      subst e
      rw [List.drop_length] at q'
      unfold compL at q'
      split at q'
      · rename_i hgd
        refine .inl ⟨wk.stops H π' h' e' (step p' (H := H) (h := h')) M' hgd, ?_⟩
        exact post_pure M' (.ref (pre_get p' hn)) q'
      · exact q'.elim

theorem lc_read (hex : G.ex = none) {own : List Nat} {src : Src} {tg : Tg} {ea cond elt : Env' → Hm → R} {g : TG} {weak : Bool} {σ : L2.St} {H : Hp} {Q : VK} (hg : TgOk X G weak tg g) (hsl : ∀ i ∈ tg.slots, i ∈ own)
    (t : TEv G W (evComp own src tg ea cond elt) σ H Q) : tLc (TIv G W weak ea src) g (TTv G W0 cond) (TEv G W0 elt) own σ H Q := by
  obtain ⟨ρ, π, h, E, M, p⟩ := t
  refine ⟨ρ, π, h, E, M, p.args.imp fun ds h1 vs H1 π1 _ e1 p1 M1 R1 q => ?_⟩
  split at q
  · rename_i items gd hes
    refine ⟨items, gd, hes, fun J H2 e2 M2 wk D hD => ?_⟩
    exact lc_walk hex hg hsl (E.mono (e1.trans e2) p1) M2 wk (Post.weak e2 (List.prefix_refl _) q) D hD
  · exact q.elim
theorem pts_yes : PTs X [] (TTv G W fun _ h => .ok (.bl true) h) := ⟨fun pins s σ H Q I ⟨ρ, π, h, E, M, p⟩ => by
  obtain ⟨b, hb, q⟩ := p (.bl true) H π .refl (List.prefix_refl _) M (.bl true)
  simp only [truth, Option.some.injEq] at hb
  subst hb
  exact pts_nil.run pins s σ H Q I q⟩
/-- a block's context -/
theorem OkE.blk (o : OkE P w k nm N sc none G W X) {scope : Scope} {own : List (Str × Nat)} (bo : BlkOk N X.env.scope scope own) (s : Shared) (H : Hp) (C : Addr) (cl : List (Str × Addr)) (fp : List Addr) :
    OkE P w k nm N scope none G W0 (X.blk s H scope (compEnvC scope cl C X.env) fp) where
  hK := o.hK
  hmg := o.hmg
  hw := o.hw
  hxs := o.hxs
  hN := o.hN
  nd := o.nd
  kin := bo.kind
  sc1 := fun x kd h => by
    show ∃ kd', (relS scope X.env.scope).names.lookup x = some kd' ∧ _
    by_cases hk : kd = .free
    · subst hk
      have hm : (x, NameKind.free) ∈ scope.names := PySem.mem_of_lookup h
      unfold relS
      have : ∀ {names : List (Str × NameKind)}, names.lookup x = some .free → ∃ kd', (names.map fun (n, k) => if (k == NameKind.free && X.env.scope.kind == .function && X.env.scope.names.lookup n == some .cell) then (n, NameKind.cell) else (n, k)).lookup x = some kd' ∧ (kd' = .free ∨ kd' = .cell) := by
        intro names
        induction names with
        | nil => intro h; simp at h
        | cons p r ih =>
          obtain ⟨n, k0⟩ := p
          intro h
          cases hx : x == n with
          | true =>
            simp only [List.lookup_cons, hx] at h
            cases h
            simp only [List.map_cons]
            by_cases hc : (NameKind.free == NameKind.free && X.env.scope.kind == .function && X.env.scope.names.lookup n == some .cell) = true
            · rw [if_pos hc]
              exact ⟨.cell, by simp only [List.lookup_cons, hx], .inr rfl⟩
            · rw [if_neg hc]
              exact ⟨.free, by simp only [List.lookup_cons, hx], .inl rfl⟩
          | false =>
            simp only [List.lookup_cons, hx] at h
            obtain ⟨kd', h1, h2⟩ := ih h
            refine ⟨kd', ?_, h2⟩
            simp only [List.map_cons]
            split <;> (simp only [List.lookup_cons, hx]; exact h1)
      obtain ⟨kd', h1, h2⟩ := this h
      refine ⟨kd', h1, ?_⟩
      rcases h2 with rfl | rfl
      · exact .inl rfl
      · exact .inr ⟨rfl, rfl⟩
    · exact ⟨kd, lookup_relS_keep hk h, .inl rfl⟩
  ek := bo.kind
  sto := fun x h => by
    rcases h with h | h
    · exact .inr (lookup_relS_keep (by decide) h)
    · exact .inl (by show (scope.names.lookup x == some .cell) = true; rw [h]; rfl)
  tk := takes_none5
  units := o.units
  calm := o.calm
  room := o.room
  cl := o.cl
  pr := o.pr
  gex := o.gex
  fns := o.fns
  kf := o.kf
  blt := o.blt
  xn := o.xn
  xa := o.xa
  xk := o.xk
  xb := o.xb
  xi := o.xi
  xm := o.xm
  hh := fun z => absurd rfl z
  roomH := fun z => absurd rfl z
  hq := fun i z => by cases z
  gxN := fun i z => by cases z
  hfs := o.hfs
  cst := o.cst
/-- a block's context, an exception handled -/
theorem OkE.blkH (hot0 : Nat) (o : OkE P w k nm N sc (some hot0) G W X) {scope : Scope} {own : List (Str × Nat)} (bo : BlkOk N X.env.scope scope own) (s : Shared) (H : Hp) (C : Addr) (cl : List (Str × Addr)) (fp : List Addr) :
    OkE P w k nm N scope (some N.length) { G with ex := none } W0 (blkH X s H scope (compEnvC scope cl C X.env) fp) where
  hK := o.hK
  hmg := o.hmg
  hw := o.hw
  hxs := o.hxs
  hN := o.hN
  nd := o.nd
  kin := bo.kind
  sc1 := fun x kd h => by
    show ∃ kd', (relS scope X.env.scope).names.lookup x = some kd' ∧ _
    by_cases hk : kd = .free
    · subst hk
      have hm : (x, NameKind.free) ∈ scope.names := PySem.mem_of_lookup h
      unfold relS
      have : ∀ {names : List (Str × NameKind)}, names.lookup x = some .free → ∃ kd', (names.map fun (n, k) => if (k == NameKind.free && X.env.scope.kind == .function && X.env.scope.names.lookup n == some .cell) then (n, NameKind.cell) else (n, k)).lookup x = some kd' ∧ (kd' = .free ∨ kd' = .cell) := by
        intro names
        induction names with
        | nil => intro h; simp at h
        | cons p r ih =>
          obtain ⟨n, k0⟩ := p
          intro h
          cases hx : x == n with
          | true =>
            simp only [List.lookup_cons, hx] at h
            cases h
            simp only [List.map_cons]
            by_cases hc : (NameKind.free == NameKind.free && X.env.scope.kind == .function && X.env.scope.names.lookup n == some .cell) = true
            · rw [if_pos hc]
              exact ⟨.cell, by simp only [List.lookup_cons, hx], .inr rfl⟩
            · rw [if_neg hc]
              exact ⟨.free, by simp only [List.lookup_cons, hx], .inl rfl⟩
          | false =>
            simp only [List.lookup_cons, hx] at h
            obtain ⟨kd', h1, h2⟩ := ih h
            refine ⟨kd', ?_, h2⟩
            simp only [List.map_cons]
            split <;> (simp only [List.lookup_cons, hx]; exact h1)
      obtain ⟨kd', h1, h2⟩ := this h
      refine ⟨kd', h1, ?_⟩
      rcases h2 with rfl | rfl
      · exact .inl rfl
      · exact .inr ⟨rfl, rfl⟩
    · exact ⟨kd, lookup_relS_keep hk h, .inl rfl⟩
  ek := bo.kind
  sto := fun x h => by
    rcases h with h | h
    · exact .inr (lookup_relS_keep (by decide) h)
    · exact .inl (by show (scope.names.lookup x == some .cell) = true; rw [h]; rfl)
  tk := takes_none5
  units := o.units
  calm := fun z => by cases z
  room := fun z => by cases z
  cl := o.cl
  pr := o.pr
  gex := fun z => by cases z
  fns := o.fns
  kf := o.kf
  blt := o.blt
  xn := o.xn
  xa := o.xa
  xk := o.xk
  xb := o.xb
  xi := o.xi
  xm := o.xm
  hh := fun _ => (o.hh (by simp)).blkH s H scope _ fp
  roomH := fun _ => o.roomH (by simp)
  hq := fun i z h => by cases z; exact absurd h (Nat.lt_irrefl _)
  gxN := fun i z h => rfl
  hfs := o.hfs
  cst := fun n d' hd => by
    obtain ⟨v, u, h1, h2, h3⟩ := o.cst n d' hd
    exact ⟨v, u, h1, h2, fun H π => Rep.conv (G := G) (G' := { G with ex := none }) rfl (h3 H π)⟩
end
end Z

set_option Elab.async false
set_option linter.all false
set_option maxRecDepth 100000
set_option maxHeartbeats 4000000
namespace Z
open PySem PySem.Spec PyProof.Rows L2

/-! ### expressions, each with its reading -/
structure CE (P : Pg) (nm : Nm) (N : List Str) (sc : Scope) (hot : Option Nat) (e : Expr) where
  e' : E
  pe : ∀ w k G W X, OkE P w k nm N sc hot G W X → PE X e (TEv G W (evE (callF P w k) e'))
structure CT (P : Pg) (nm : Nm) (N : List Str) (sc : Scope) (hot : Option Nat) (e : Expr) where
  e' : E
  pt : ∀ w k G W X, OkE P w k nm N sc hot G W X → PT X e (TTv G W (evE (callF P w k) e'))
structure CA (P : Pg) (nm : Nm) (N : List Str) (sc : Scope) (hot : Option Nat) (es : List Expr) where
  a' : E
  pa : ∀ w k G W X, OkE P w k nm N sc hot G W X → PA X es (TAv G W (evE (callF P w k) a'))
  star : ∀ env, starEach es env = es.map fun e => (false, eval e env)
section
variable {P : Pg} {nm : Nm} {N : List Str} {sc : Scope} {hot : Option Nat} {w k : Nat} {G : Gx} {W : WX} {X : Cx}

theorem star_any {es : List Expr} {env : Env} {pos : Pos} (h : starEach es env = es.map fun e => (false, eval e env)) : (backTo pos (starEach es env)).any (·.1) = false := by
  rw [h]
  unfold backTo
  induction es with
  | nil => rfl
  | cons e r ih => simp
theorem star_all {es : List Expr} {env : Env} {pos : Pos} (h : starEach es env = es.map fun e => (false, eval e env)) : (backTo pos (starEach es env)).all (fun x => !x.1) = true := by
  rw [h]
  unfold backTo
  induction es with
  | nil => rfl
  | cons e r ih => simp
theorem star_head {e : Expr} {es : List Expr} {env : Env} (h : starEach (e :: es) env = (e :: es).map fun e => (false, eval e env)) (h2 : starEach es env = es.map fun e => (false, eval e env)) : starEach (e :: es) env = (false, eval e env) :: starEach es env := by
  rw [h, h2]; rfl
/-- no star -/
def noStar : Expr → Bool
  | .Starred .. => false
  | _ => true
theorem star_cons {e : Expr} {es : List Expr} {env : Env} (h : noStar e = true) : starEach (e :: es) env = (false, eval e env) :: starEach es env := by
  cases e <;> first | rfl | cases h

/-! #### names and constants -/
theorem e_var {i : Nat} {x : Str} {pos : Pos} {c : Nat → List D → Hm → Z.R} (o : OkE P w k nm N sc hot G W X) (hi : N[i]? = some x) (hv : sc.names.lookup x = some .local ∨ sc.names.lookup x = some .cell ∨ sc.names.lookup x = some .free)
    (hd : (x == ("__debug__" : Str)) = false) (hcd : (x == ("__classdict__" : Str)) = false) : PE X (.Name x pos) (TEv G W (evE c (.var i))) := by
  refine pe_imp (pe_var (by rw [o.hN]; exact hi) (o.vis hv) hd hcd) fun σ H Q ⟨ρ, π, h, E, M, p⟩ => ?_
  unfold evE at p
  split at p
  · rename_i d hd
    obtain ⟨v, h1, h2⟩ := E.at' i d hd
    exact ⟨v, h1, post_pure M h2 p⟩
  · exact p.elim
theorem e_glob {x : Str} {d : D} {pos : Pos} {c : Nat → List D → Hm → Z.R} (o : OkE P w k nm N sc hot G W X) (hx : (x, d) ∈ nm.cst) (hg : sc.names.lookup x = some .globalImplicit) (hd : (x == ("__debug__" : Str)) = false) :
    PE X (.Name x pos) (TEv G W (evE c (.lit d))) := by
  obtain ⟨v, u, hm, r, hr⟩ := o.cst x d hx
  exact pe_imp (pe_glob (o.gl hg) hm r hd) fun σ H Q ⟨ρ, π, h, E, M, p⟩ => post_pure M (hr H π) p
theorem e_lit {d : D} {v : V} {e : Expr} {c : Nat → List D → Hm → Z.R} (he : PE X e (tC v)) (hr : ∀ H π, Rep G H π d v) : PE X e (TEv G W (evE c (.lit d))) :=
  pe_imp he fun σ H Q ⟨ρ, π, h, E, M, p⟩ => post_pure M (hr H π) p
def cName (x : Str) (pos : Pos) : Option (CE P nm N sc hot (.Name x pos)) :=
  if hd : (x == ("__debug__" : Str)) = false ∧ (x == ("__classdict__" : Str)) = false then
    let i := N.findIdx (· == x)
    if hi : N[i]? = some x then
      if hv : sc.names.lookup x = some .local ∨ sc.names.lookup x = some .cell ∨ sc.names.lookup x = some .free then
        some ⟨.var i, fun w k G W X o => e_var o hi hv hd.1 hd.2⟩
      else none
    else match hc : nm.cst.lookup x with
      | some d => if hg : sc.names.lookup x = some .globalImplicit then some ⟨.lit d, fun w k G W X o => e_glob o (PySem.mem_of_lookup hc) hg hd.1⟩ else none
      | none => none
  else none
def cConst (c : Const) (j : Nat) (pos : Pos) : Option (CE P nm N sc hot (.Constant c j pos)) := match c with
  | .int i => some ⟨.lit (.int i), fun w k G W X o => e_lit pe_int fun _ _ => .int i⟩
  | .bool b => some ⟨.lit (.bl b), fun w k G W X o => e_lit pe_bl fun _ _ => .bl b⟩
  | .none => some ⟨.lit .non, fun w k G W X o => e_lit pe_non fun _ _ => .non⟩
  | .str x => some ⟨.lit (.str x), fun w k G W X o => e_lit pe_str fun _ _ => .str x⟩
  | _ => none

/-! #### operators -/
theorem ev_prim2 {c : Nat → List D → Hm → Z.R} {p : Pm} {a b : E} {ρ : Env'} {h : Hm} :
    evE c (.prim p (.cons a (.cons b .nil))) ρ h = (evE c a ρ h).bind fun x h1 => (evE c b ρ h1).bind fun y h2 => evP p [x, y] h2 := by
  simp only [evE]
  cases evE c a ρ h with
  | ok d h1 =>
    simp only [R.bind_ok]
    cases evE c b ρ h1 <;> rfl
  | _ => rfl
theorem ev_prim1 {c : Nat → List D → Hm → Z.R} {p : Pm} {a : E} {ρ : Env'} {h : Hm} :
    evE c (.prim p (.cons a .nil)) ρ h = (evE c a ρ h).bind fun x h1 => evP p [x] h1 := by
  simp only [evE]
  cases evE c a ρ h <;> rfl
theorem ev_prim3 {c : Nat → List D → Hm → Z.R} {p : Pm} {a b d : E} {ρ : Env'} {h : Hm} :
    evE c (.prim p (.cons a (.cons b (.cons d .nil)))) ρ h = (evE c a ρ h).bind fun x h1 => (evE c b ρ h1).bind fun y h2 => (evE c d ρ h2).bind fun z h3 => evP p [x, y, z] h3 := by
  simp only [evE]
  cases evE c a ρ h with
  | ok x h1 =>
    simp only [R.bind_ok]
    cases evE c b ρ h1 with
    | ok y h2 =>
      simp only [R.bind_ok]
      cases evE c d ρ h2 <;> rfl
    | _ => rfl
  | _ => rfl
/-- an operator's two operands -/
theorem e_op {op : Operator} {p : Pm} {a b : Expr} {pos : Pos} {ea eb : E} {c : Nat → List D → Hm → Z.R} (ho : OpR X (binaryOp op) (rA2 G W fun x y h => evP p [x, y] h)) (ha : PE X a (TEv G W (evE c ea))) (hb : PE X b (TEv G W (evE c eb))) :
    PE X (.BinOp a op b pos) (TEv G W (evE c (.prim p (.cons ea (.cons eb .nil))))) := by
  refine pe_imp (pe_op ho ha hb) fun σ H Q t => ?_
  have t : TEv G W (fun ρ h => (evE c ea ρ h).bind fun x h1 => (evE c eb ρ h1).bind fun y h2 => evP p [x, y] h2) σ H Q := by
    obtain ⟨ρ, π, h, E, M, q⟩ := t
    exact ⟨ρ, π, h, E, M, by rw [ev_prim2] at q; exact q⟩
  obtain ⟨ρ, π, h, E, M, q⟩ := t
  exact ⟨ρ, π, h, E, M, q.bind.imp fun d h1 v H1 π1 _ e p M1 R1 p1 => ⟨ρ, π1, h1, E.mono e p, M1, p1.bind.imp fun d2 h2 v2 H2 π2 _ e2 p2 M2 R2 q2 => ⟨σ, π2, h2, d, d2, M2, R1.mono e2 p2, R2, q2⟩⟩⟩
theorem e_cmp {op : CmpOp} {p : Pm} {a b : Expr} {pos : Pos} {ea eb : E} {c : Nat → List D → Hm → Z.R} (ho : OpR X (compareOp op) (rA2 G W fun x y h => evP p [x, y] h)) (hm : behindInMarks op b = false) (ha : PE X a (TEv G W (evE c ea))) (hb : PE X b (TEv G W (evE c eb))) :
    PE X (.Compare a [op] [b] pos) (TEv G W (evE c (.prim p (.cons ea (.cons eb .nil))))) := by
  refine pe_imp (pe_cmpR ho ha hb hm) fun σ H Q t => ?_
  obtain ⟨ρ, π, h, E, M, q⟩ := t
  rw [ev_prim2] at q
  exact ⟨ρ, π, h, E, M, q.bind.imp fun d h1 v H1 π1 _ e p M1 R1 p1 => ⟨ρ, π1, h1, E.mono e p, M1, p1.bind.imp fun d2 h2 v2 H2 π2 _ e2 p2 M2 R2 q2 => ⟨σ, π2, h2, d, d2, M2, R1.mono e2 p2, R2, q2⟩⟩⟩
def binPm : Operator → Option Pm
  | .Add => some .add | .Sub => some .sub | .Mult => some .mul | .FloorDiv => some .fdiv | .Mod => some .mod | .Pow => some .pow | _ => none
theorem bin_ok (o : OkE P w k nm N sc hot G W X) {op : Operator} {p : Pm} (h : binPm op = some p) : OpR X (binaryOp op) (rA2 G W fun x y h => evP p [x, y] h) := by
  cases op <;> simp only [binPm, Option.some.injEq, reduceCtorEq] at h <;> subst h
  · exact z_add o.hK
  · exact z_sub
  · exact z_mul o.hK
  · exact z_mod
  · exact z_pow
  · exact z_fdiv
def cmpPm : CmpOp → Option Pm
  | .Eq => some .eq | .NotEq => some .ne | .Lt => some .lt | .LtE => some .le | .Gt => some .gt | .GtE => some .ge | .Is => some .is | .IsNot => some .isnot | .In => some .isin | .NotIn => some .notin
theorem cmp_ok (o : OkE P w k nm N sc hot G W X) {op : CmpOp} {p : Pm} (h : cmpPm op = some p) : OpR X (compareOp op) (rA2 G W fun x y h => evP p [x, y] h) := by
  cases op <;> simp only [cmpPm, Option.some.injEq] at h <;> subst h
  · exact z_eq o.hK (by have := o.units; omega)
  · exact z_ne o.hK (by have := o.units; omega)
  · exact z_lt o.hK (by have := o.units; omega)
  · exact z_le o.hK (by have := o.units; omega)
  · exact z_gt o.hK (by have := o.units; omega)
  · exact z_ge o.hK (by have := o.units; omega)
  · exact z_is
  · exact z_isnot
  · exact z_in o.hK
  · exact z_notin o.hK
/-- a comparison tells a truth value -/
theorem cmp_bl {op : CmpOp} {p : Pm} (h : cmpPm op = some p) (x y : D) (m : Hm) (d : D) (m' : Hm) (e : evP p [x, y] m = .ok d m') : (∃ c, d = .bl c) ∧ m' = m := by
  have cmp : ∀ {f : Int → Int → Bool} {g : PyData → PyData → Bool}, opCmp f g x y m = .ok d m' → (∃ c, d = .bl c) ∧ m' = m := fun {f g} e => by
    rcases opCmp_cases e with ⟨i, j, _, _, q⟩ | q | ⟨a, b, _, _, _, q⟩
    · cases q; exact ⟨⟨_, rfl⟩, rfl⟩
    · cases q
    · cases q; exact ⟨⟨_, rfl⟩, rfl⟩
  cases op <;> simp only [cmpPm, Option.some.injEq] at h <;> subst h <;> first | exact cmp e | (simp only [evP, opEq, opNe, opIs, opIsnot, opIn, opNotin] at e; (split at e <;> first | (cases e; exact ⟨⟨_, rfl⟩, rfl⟩) | cases e))
theorem e_neg {a : Expr} {pos : Pos} {ea : E} {c : Nat → List D → Hm → Z.R} (ha : PE X a (TEv G W (evE c ea))) : PE X (.UnaryOp .USub a pos) (TEv G W (evE c (.prim .neg (.cons ea .nil)))) := by
  refine pe_imp (pe_un (z_neg (G := G) (W := W)) ha) fun σ H Q t => ?_
  obtain ⟨ρ, π, h, E, M, q⟩ := t
  rw [ev_prim1] at q
  exact ⟨ρ, π, h, E, M, q.bind.imp fun d h1 v H1 π1 _ _ _ M1 R1 p1 => ⟨σ, π1, h1, d, M1, R1, p1⟩⟩
theorem e_chain {op op' : CmpOp} {p p' : Pm} {a b d : Expr} {pos : Pos} {ea eb ed : E} {c : Nat → List D → Hm → Z.R} (hp : cmpPm op = some p) (o : OkE P w k nm N sc hot G W X) (hp' : cmpPm op' = some p') (hm : lastMarks [op, op'] [b, d] = false)
    (ha : PE X a (TEv G W (evE c ea))) (hb : PE X b (TEv G W (evE c eb))) (hd : PE X d (TEv G W (evE c ed))) : PE X (.Compare a [op, op'] [b, d] pos) (TEv G W (evE c (.chain p p' ea eb ed))) := by
  refine pe_imp (pe_chain (cmp_ok o hp) (cmp_ok o hp') ha hb hd hm) fun σ H Q ⟨ρ, π, h, E, M, q⟩ => ⟨ρ, π, h, E, M, ?_⟩
  unfold evE at q
  refine q.bind.imp fun x h1 vx H1 π1 _ e1 p1 M1 R1 q => ⟨ρ, π1, h1, E.mono e1 p1, M1, q.bind.imp fun y h2 vy H2 π2 _ e2 p2 M2 R2 q => ⟨σ, π2, h2, x, y, M2, R1.mono e2 p2, R2, q.bind.imp fun z h3 vz H3 π3 er e3 p3 M3 R3 q => ?_⟩⟩
  obtain ⟨⟨t, rfl⟩, rfl⟩ := cmp_bl hp x y h2 z h3 er
  cases rep_bl R3
  refine ⟨t, rfl, ?_⟩
  cases t with
  | false => rw [if_neg Bool.false_ne_true]; exact post_pure M3 (.bl false) q
  | true =>
    rw [if_pos rfl]
    exact ⟨ρ, π3, _, ((E.mono e1 p1).mono e2 p2).mono e3 p3, M3, q.bind.imp fun u h4 vu H4 π4 _ e4 p4 M4 R4 q => ⟨σ, π4, h4, y, u, M4, (R2.mono e3 p3).mono e4 p4, R4, q⟩⟩
theorem t_chain {op op' : CmpOp} {p p' : Pm} {a b d : Expr} {pos : Pos} {ea eb ed : E} {c : Nat → List D → Hm → Z.R} (hp : cmpPm op = some p) (o : OkE P w k nm N sc hot G W X) (hp' : cmpPm op' = some p') (hm : lastMarks [op, op'] [b, d] = false)
    (ha : PE X a (TEv G W (evE c ea))) (hb : PE X b (TEv G W (evE c eb))) (hd : PE X d (TEv G W (evE c ed))) : PT X (.Compare a [op, op'] [b, d] pos) (TTv G W (evE c (.chain p p' ea eb ed))) := by
  refine pt_imp (pt_chain (cmp_ok o hp) (cmp_ok o hp') ha hb hd hm) fun σ H Q ⟨ρ, π, h, E, M, q⟩ => ⟨ρ, π, h, E, M, ?_⟩
  unfold evE at q
  refine q.bind.imp fun x h1 vx H1 π1 _ e1 p1 M1 R1 q => ⟨ρ, π1, h1, E.mono e1 p1, M1, q.bind.imp fun y h2 vy H2 π2 _ e2 p2 M2 R2 q => ⟨σ, π2, h2, x, y, M2, R1.mono e2 p2, R2, q.bind.imp fun z h3 vz H3 π3 er e3 p3 M3 R3 q => ?_⟩⟩
  obtain ⟨⟨t, rfl⟩, rfl⟩ := cmp_bl hp x y h2 z h3 er
  cases rep_bl R3
  refine ⟨t, rfl, ?_⟩
  cases t with
  | false =>
    rw [if_neg Bool.false_ne_true]
    obtain ⟨b', hb', q⟩ := q (.bl false) H3 π3 .refl (List.prefix_refl _) M3 (.bl false)
    simp only [truth, Option.some.injEq] at hb'
    subst hb'
    exact ⟨false, rfl, q⟩
  | true =>
    rw [if_pos rfl]
    refine ⟨ρ, π3, _, ((E.mono e1 p1).mono e2 p2).mono e3 p3, M3, q.bind.imp fun u h4 vu H4 π4 _ e4 p4 M4 R4 q => ⟨σ, π4, h4, y, u, M4, (R2.mono e3 p3).mono e4 p4, R4, q.imp fun z5 h5 v5 H5 π5 er5 _ _ _ R5 ⟨b', hb', q⟩ => ?_⟩⟩
    obtain ⟨⟨t5, rfl⟩, rfl⟩ := cmp_bl hp' y u h4 z5 h5 er5
    cases rep_bl R5
    simp only [truth, Option.some.injEq] at hb'
    subst hb'
    exact ⟨t5, rfl, q⟩
theorem t_cmp' {op : CmpOp} {p : Pm} {a b : Expr} {pos : Pos} {ea eb : E} {c : Nat → List D → Hm → Z.R} (hp : cmpPm op = some p) (o : OkE P w k nm N sc hot G W X) (hm : behindInMarks op b = false) (ha : PE X a (TEv G W (evE c ea))) (hb : PE X b (TEv G W (evE c eb))) :
    PT X (.Compare a [op] [b] pos) (TTv G W (evE c (.prim p (.cons ea (.cons eb .nil))))) := by
  refine pt_imp (t_cmp (f := fun x y h => evP p [x, y] h) (cmp_ok o hp) (fun x y h d h' e => (cmp_bl hp x y h d h' e).1) ha hb hm) fun σ H Q ⟨ρ, π, h, E, M, q⟩ => ⟨ρ, π, h, E, M, ?_⟩
  rw [ev_prim2] at q
  exact q

/-! #### and, or, not, if -/
theorem e_not {a : Expr} {pos : Pos} {ea : E} {c : Nat → List D → Hm → Z.R} (hK : G.K = X.K) (ha : PE X a (TEv G W (evE c ea))) : PE X (.UnaryOp .Not a pos) (TEv G W (evE c (.not ea))) := by
  refine pe_imp (pe_notT ha) fun σ H Q ⟨ρ, π, h, E, M, q⟩ => ⟨ρ, π, h, E, M, ?_⟩
  unfold evE at q
  refine q.bind.imp fun x h1 vx H1 π1 _ _ _ M1 R1 q => ?_
  split at q
  · rename_i b hb
    have := truth_ok M1 R1 hb
    rw [hK] at this
    exact ⟨b, this, post_pure M1 (.bl _) q⟩
  · exact q.elim
theorem t_not {a : Expr} {pos : Pos} {ea : E} {c : Nat → List D → Hm → Z.R} (ha : PT X a (TTv G W (evE c ea))) : PT X (.UnaryOp .Not a pos) (TTv G W (evE c (.not ea))) := by
  refine pt_imp (pt_not ha) fun σ H Q ⟨ρ, π, h, E, M, q⟩ => ⟨ρ, π, h, E, M, ?_⟩
  unfold evE at q
  refine q.bind.imp fun x h1 vx H1 π1 _ _ _ M1 R1 q => ?_
  split at q
  · rename_i b hb
    obtain ⟨b', hb', q⟩ := q (.bl (!b)) H1 π1 .refl (List.prefix_refl _) M1 (.bl _)
    simp only [truth, Option.some.injEq] at hb'
    subst hb'
    exact ⟨b, hb, q⟩
  · exact q.elim
theorem e_and {a b : Expr} {rest : List Expr} {pos : Pos} {ea eb : E} {c : Nat → List D → Hm → Z.R} (hK : G.K = X.K) (ha : PE X a (TEv G W (evE c ea))) (hb : PE X (.BoolOp .And (b :: rest) pos) (TEv G W (evE c eb))) :
    PE X (.BoolOp .And (a :: b :: rest) pos) (TEv G W (evE c (.and ea eb))) := by
  refine pe_imp (pe_andT ha hb) fun σ H Q ⟨ρ, π, h, E, M, q⟩ => ⟨ρ, π, h, E, M, ?_⟩
  unfold evE at q
  refine q.bind.imp fun x h1 vx H1 π1 _ e1 p1 M1 R1 q => ?_
  split at q
  · rename_i hb
    have := truth_ok M1 R1 hb
    rw [hK] at this
    exact ⟨true, this, by (try dsimp only); rw [if_pos rfl]; exact ⟨ρ, π1, h1, E.mono e1 p1, M1, q⟩⟩
  · rename_i hb
    have := truth_ok M1 R1 hb
    rw [hK] at this
    exact ⟨false, this, by (try dsimp only); rw [if_neg Bool.false_ne_true]; exact post_pure M1 R1 q⟩
  · exact q.elim
theorem e_or {a b : Expr} {rest : List Expr} {pos : Pos} {ea eb : E} {c : Nat → List D → Hm → Z.R} (hK : G.K = X.K) (ha : PE X a (TEv G W (evE c ea))) (hb : PE X (.BoolOp .Or (b :: rest) pos) (TEv G W (evE c eb))) :
    PE X (.BoolOp .Or (a :: b :: rest) pos) (TEv G W (evE c (.or ea eb))) := by
  refine pe_imp (pe_orT ha hb) fun σ H Q ⟨ρ, π, h, E, M, q⟩ => ⟨ρ, π, h, E, M, ?_⟩
  unfold evE at q
  refine q.bind.imp fun x h1 vx H1 π1 _ e1 p1 M1 R1 q => ?_
  split at q
  · rename_i hb
    have := truth_ok M1 R1 hb
    rw [hK] at this
    exact ⟨true, this, by (try dsimp only); rw [if_pos rfl]; exact post_pure M1 R1 q⟩
  · rename_i hb
    have := truth_ok M1 R1 hb
    rw [hK] at this
    exact ⟨false, this, by (try dsimp only); rw [if_neg Bool.false_ne_true]; exact ⟨ρ, π1, h1, E.mono e1 p1, M1, q⟩⟩
  · exact q.elim
theorem pw_imp {e : Expr} {t t' : TT} (h : PW X e t) (q : ∀ σ H Q, t' σ H Q → t σ H Q) : PW X e t' := ⟨fun wh pins s σ H Q I z => h.run wh pins s σ H Q I (q _ _ _ z)⟩
theorem w_and {a b : Expr} {rest : List Expr} {pos : Pos} {ea eb : E} {c : Nat → List D → Hm → Z.R} (ha : PT X a (TTv G W (evE c ea))) (hb : PW X (.BoolOp .And (b :: rest) pos) (TTv G W (evE c eb))) :
    PW X (.BoolOp .And (a :: b :: rest) pos) (TTv G W (evE c (.and ea eb))) := by
  refine pw_imp (pw_and ha hb) fun σ H Q ⟨ρ, π, h, E, M, q⟩ => ⟨ρ, π, h, E, M, ?_⟩
  unfold evE at q
  refine q.bind.imp fun x h1 vx H1 π1 _ e1 p1 M1 R1 q => ?_
  split at q
  · rename_i hb
    exact ⟨true, hb, by (try dsimp only); rw [if_pos rfl]; exact ⟨ρ, π1, h1, E.mono e1 p1, M1, q⟩⟩
  · rename_i hb
    refine ⟨false, hb, ?_⟩
    dsimp only
    rw [if_neg Bool.false_ne_true]
    obtain ⟨b', hb', q⟩ := q vx H1 π1 .refl (List.prefix_refl _) M1 R1
    rw [hb] at hb'
    cases hb'
    exact q
  · exact q.elim
theorem w_or {a b : Expr} {rest : List Expr} {pos : Pos} {ea eb : E} {c : Nat → List D → Hm → Z.R} (ha : PT X a (TTv G W (evE c ea))) (hb : PW X (.BoolOp .Or (b :: rest) pos) (TTv G W (evE c eb))) :
    PW X (.BoolOp .Or (a :: b :: rest) pos) (TTv G W (evE c (.or ea eb))) := by
  refine pw_imp (pw_or ha hb) fun σ H Q ⟨ρ, π, h, E, M, q⟩ => ⟨ρ, π, h, E, M, ?_⟩
  unfold evE at q
  refine q.bind.imp fun x h1 vx H1 π1 _ e1 p1 M1 R1 q => ?_
  split at q
  · rename_i hb
    refine ⟨true, hb, ?_⟩
    dsimp only
    rw [if_pos rfl]
    obtain ⟨b', hb', q⟩ := q vx H1 π1 .refl (List.prefix_refl _) M1 R1
    rw [hb] at hb'
    cases hb'
    exact q
  · rename_i hb
    exact ⟨false, hb, by (try dsimp only); rw [if_neg Bool.false_ne_true]; exact ⟨ρ, π1, h1, E.mono e1 p1, M1, q⟩⟩
  · exact q.elim
theorem e_ite {a b t : Expr} {pos : Pos} {ea eb et : E} {c : Nat → List D → Hm → Z.R} (ht : PT X t (TTv G W (evE c et))) (ha : PE X a (TEv G W (evE c ea))) (hb : PE X b (TEv G W (evE c eb))) :
    PE X (.IfExp t a b pos) (TEv G W (evE c (.ite et ea eb))) := by
  refine pe_imp (pe_ifExp ht ha hb) fun σ H Q ⟨ρ, π, h, E, M, q⟩ => ⟨ρ, π, h, E, M, ?_⟩
  unfold evE at q
  refine q.bind.imp fun x h1 vx H1 π1 _ e1 p1 M1 R1 q => ?_
  split at q
  · rename_i hb
    exact ⟨true, hb, by (try dsimp only); rw [if_pos rfl]; exact ⟨ρ, π1, h1, E.mono e1 p1, M1, q⟩⟩
  · rename_i hb
    exact ⟨false, hb, by (try dsimp only); rw [if_neg Bool.false_ne_true]; exact ⟨ρ, π1, h1, E.mono e1 p1, M1, q⟩⟩
  · exact q.elim
end
end Z

set_option Elab.async false
set_option linter.all false
set_option maxRecDepth 100000
set_option maxHeartbeats 4000000
namespace Z
open PySem PySem.Spec PyProof.Rows L2
section
variable {P : Pg} {nm : Nm} {N : List Str} {sc : Scope} {hot : Option Nat} {w k : Nat} {G : Gx} {W : WX} {X : Cx}

/-! #### calls -/
theorem ev_args {c : Nat → List D → Hm → Z.R} {p : Pm} {a : E} {ρ : Env'} {h : Hm} : evE c (.prim p a) ρ h = onArgs (evE c a ρ h) (evP p) := by
  simp only [evE]; rfl
theorem e_blt {x : Str} {id : String} {p : Pm} {e : Expr} {es : List Expr} {p0 pos : Pos} {a : E} {c : Nat → List D → Hm → Z.R} (hc : CallR X (.builtin id) (rAn G W (evP p))) (hg : Gl X x) (hm : X.mg x = none) (hv : bootBuiltins x = some (.builtin id))
    (ha : PA X (e :: es) (TAv G W (evE c a))) (hn : x ≠ "__name__") (hdb : (x == ("__debug__" : Str)) = false) (he : starEach (e :: es) X.env = (false, eval e X.env) :: starEach es X.env) (hpl : (backTo pos (starEach es X.env)).any (·.1) = false) :
    PE X (.Call (.Name x p0) (e :: es) [] pos) (TEv G W (evE c (.prim p a))) := by
  refine pe_imp (pe_callB hc hg hm hv ha hn hdb he hpl) fun σ H Q ⟨ρ, π, h, E, M, q⟩ => ?_
  rw [ev_args] at q
  exact ⟨ρ, π, h, E, M, q.args.imp fun ds h1 vs H1 π1 _ _ _ M1 R1 p1 => ⟨σ, π1, h1, ds, M1, R1, p1⟩⟩
theorem e_bty {x : Str} {T : String} {p : Pm} {e : Expr} {es : List Expr} {p0 pos : Pos} {a : E} {c : Nat → List D → Hm → Z.R} (hc : CallR X (.type T) (rAn G W (evP p))) (hg : Gl X x) (hm : X.mg x = none) (hv : bootBuiltins x = some (.type T))
    (ha : PA X (e :: es) (TAv G W (evE c a))) (hn : x ≠ "__name__") (hdb : (x == ("__debug__" : Str)) = false) (he : starEach (e :: es) X.env = (false, eval e X.env) :: starEach es X.env) (hpl : (backTo pos (starEach es X.env)).any (·.1) = false) :
    PE X (.Call (.Name x p0) (e :: es) [] pos) (TEv G W (evE c (.prim p a))) := by
  refine pe_imp (pe_callTy hc hg hm hv ha hn hdb he hpl) fun σ H Q ⟨ρ, π, h, E, M, q⟩ => ?_
  rw [ev_args] at q
  exact ⟨ρ, π, h, E, M, q.args.imp fun ds h1 vs H1 π1 _ _ _ M1 R1 p1 => ⟨σ, π1, h1, ds, M1, R1, p1⟩⟩
/-- the built-ins by name and number of arguments -/
inductive Bl where
  | fn (id : String) (p : Pm) | ty (T : String) (p : Pm)
def bltTab : List ((Str × Nat) × Bl) := [(("len", 1), .fn "len" .len), (("abs", 1), .fn "abs" .abs), (("max", 2), .fn "max" .max2), (("min", 2), .fn "min" .min2), (("max", 1), .fn "max" .maxl), (("min", 1), .fn "min" .minl), (("sum", 1), .fn "sum" .suml),
  (("sorted", 1), .fn "sorted" .sorted), (("list", 1), .ty "list" .list), (("tuple", 1), .ty "tuple" .tuple), (("int", 1), .ty "int" .int), (("all", 1), .fn "all" .alll), (("any", 1), .fn "any" .anyl)]
def bltOf (x : Str) (n : Nat) : Option Bl := bltTab.lookup (x, n)
def Bl.pm : Bl → Pm
  | .fn _ p => p
  | .ty _ p => p
def BlOk (G : Gx) (W : WX) (X : Cx) (x : Str) : Bl → Prop
  | .fn id p => CallR X (.builtin id) (rAn G W (evP p)) ∧ bootBuiltins x = some (.builtin id) ∧ x ∈ bltNames ∧ x ≠ "__name__" ∧ (x == ("__debug__" : Str)) = false
  | .ty T p => CallR X (.type T) (rAn G W (evP p)) ∧ bootBuiltins x = some (.type T) ∧ x ∈ bltNames ∧ x ≠ "__name__" ∧ (x == ("__debug__" : Str)) = false
theorem mem_lk {α β : Type} [BEq α] [LawfulBEq α] : ∀ {l : List (α × β)} {x : α} {b : β}, l.lookup x = some b → (x, b) ∈ l
  | [], x, b, h => by cases h
  | (y, c) :: r, x, b, h => by
    rw [List.lookup_cons] at h
    split at h
    · rename_i e
      have := eq_of_beq e
      subst this
      cases h
      exact List.mem_cons_self
    · exact List.mem_cons_of_mem _ (mem_lk h)
theorem blt_ok (o : OkE P w k nm N sc none G W X) {x : Str} {n : Nat} {b : Bl} (h : bltOf x n = some b) : BlOk G W X x b := by
  have hm := mem_lk (l := bltTab) h
  simp only [bltTab, List.mem_cons, List.not_mem_nil, or_false, Prod.mk.injEq] at hm
  have u : X.A.units + 64 < cLine := by have := o.units; omega
  rcases hm with ⟨⟨rfl, _⟩, rfl⟩ | ⟨⟨rfl, _⟩, rfl⟩ | ⟨⟨rfl, _⟩, rfl⟩ | ⟨⟨rfl, _⟩, rfl⟩ | ⟨⟨rfl, _⟩, rfl⟩ | ⟨⟨rfl, _⟩, rfl⟩ | ⟨⟨rfl, _⟩, rfl⟩ | ⟨⟨rfl, _⟩, rfl⟩ | ⟨⟨rfl, _⟩, rfl⟩ | ⟨⟨rfl, _⟩, rfl⟩ | ⟨⟨rfl, _⟩, rfl⟩ | ⟨⟨rfl, _⟩, rfl⟩ | ⟨⟨rfl, _⟩, rfl⟩
  · exact ⟨c_len o.hK, by decide +kernel, by decide +kernel, by decide +kernel, by decide +kernel⟩
  · exact ⟨c_abs, by decide +kernel, by decide +kernel, by decide +kernel, by decide +kernel⟩
  · exact ⟨c_max2 o.hK u (o.calm rfl), by decide +kernel, by decide +kernel, by decide +kernel, by decide +kernel⟩
  · exact ⟨c_min2 (o.calm rfl), by decide +kernel, by decide +kernel, by decide +kernel, by decide +kernel⟩
  · exact ⟨c_max o.hK u (o.calm rfl), by decide +kernel, by decide +kernel, by decide +kernel, by decide +kernel⟩
  · exact ⟨c_min o.hK u (o.calm rfl), by decide +kernel, by decide +kernel, by decide +kernel, by decide +kernel⟩
  · exact ⟨c_sum o.hK (o.calm rfl), by decide +kernel, by decide +kernel, by decide +kernel, by decide +kernel⟩
  · exact ⟨c_sorted o.hK, by decide +kernel, by decide +kernel, by decide +kernel, by decide +kernel⟩
  · exact ⟨c_list o.hK, by decide +kernel, by decide +kernel, by decide +kernel, by decide +kernel⟩
  · exact ⟨c_tuple o.hK, by decide +kernel, by decide +kernel, by decide +kernel, by decide +kernel⟩
  · exact ⟨c_int, by decide +kernel, by decide +kernel, by decide +kernel, by decide +kernel⟩
  · exact ⟨c_all o.hK (o.calm rfl), by decide +kernel, by decide +kernel, by decide +kernel, by decide +kernel⟩
  · exact ⟨c_any o.hK (o.calm rfl), by decide +kernel, by decide +kernel, by decide +kernel, by decide +kernel⟩
theorem e_blt' {x : Str} {n : Nat} {b : Bl} {e : Expr} {es : List Expr} {p0 pos : Pos} {a : E} {c : Nat → List D → Hm → Z.R} (o : OkE P w k nm N sc none G W X) (h : bltOf x n = some b) (hg : sc.names.lookup x = some .globalImplicit) (ha : PA X (e :: es) (TAv G W (evE c a)))
    (he : starEach (e :: es) X.env = (false, eval e X.env) :: starEach es X.env) (hpl : (backTo pos (starEach es X.env)).any (·.1) = false) : PE X (.Call (.Name x p0) (e :: es) [] pos) (TEv G W (evE c (.prim b.pm a))) := by
  have q := blt_ok o h
  cases b with
  | fn id p => obtain ⟨h1, h2, h3, h4, h5⟩ := q; exact e_blt h1 (o.gl hg) (o.blt x h3) h2 ha h4 h5 he hpl
  | ty T p => obtain ⟨h1, h2, h3, h4, h5⟩ := q; exact e_bty h1 (o.gl hg) (o.blt x h3) h2 ha h4 h5 he hpl
/-- a def of the text -/
theorem e_call {x : Str} {i : Nat} {e : Expr} {es : List Expr} {p0 pos : Pos} {a : E} (o : OkE P w k nm N sc none G W X) (hx : (x, i) ∈ nm.fns) (hg : sc.names.lookup x = some .globalImplicit) (hdb : (x == ("__debug__" : Str)) = false)
    (ha : PA X (e :: es) (TAv G W (evE (callF P w k) a))) (he : starEach (e :: es) X.env = (false, eval e X.env) :: starEach es X.env) (hpl : (backTo pos (starEach es X.env)).any (·.1) = false) :
    PE X (.Call (.Name x p0) (e :: es) [] pos) (TEv G W (evE (callF P w k) (.call i a))) := by
  obtain ⟨f, fd, ps, hm, hk, hb, F⟩ := o.fns x i hx
  refine pe_imp (pe_callS F ((o.room rfl).mono (by omega)) (o.gl hg) hm hk hb (fun σ => passAt o.tk σ) ha hdb he hpl) fun σ H Q ⟨ρ, π, h, E, M, q⟩ => ⟨ρ, π, h, E, M, ?_⟩
  have q : Post G W σ H π (onArgs (evE (callF P w k) a ρ h) (callF P w k i)) fun _ _ v H' _ => Q v H' := by
    simp only [evE] at q; exact q
  refine q.args.imp fun ds h1 vs H1 π1 _ _ _ M1 R1 p1 => ?_
  have hG : G = ⟨X.K, X.mg, nm.exc.map (·.1), none, X.w⟩ := by
    obtain ⟨K, mg, xs, ex, gw⟩ := G
    have h1 := o.hK; have h2 := o.hmg; have h3 := o.gex rfl; have h4 := o.hxs; have h5 := o.hw
    simp only at h1 h2 h3 h4 h5
    rw [h1, h2, h3, h4, h5]
  subst hG
  refine ⟨π1, h1, ds, M1, R1, ?_⟩
  cases z : callF P w k i ds h1 with
  | bad => rw [z] at p1; exact p1.elim
  | ok d h2 => rw [z] at p1; exact p1
  | exn x h2 => rw [z] at p1; exact p1

/-- a def with keyword-only parameters, all left out -/
theorem e_callD {x : Str} {i : Nat} {dl : List (Str × D)} {e : Expr} {es : List Expr} {p0 pos : Pos} {a : E} (o : OkE P w k nm N sc none G W X) (hx : (x, i, dl) ∈ nm.kws) (hg : sc.names.lookup x = some .globalImplicit) (hdb : (x == ("__debug__" : Str)) = false)
    (ha : PA X (e :: es) (TAv G W (evE (callF P w k) a))) (he : starEach (e :: es) X.env = (false, eval e X.env) :: starEach es X.env) (hpl : (backTo pos (starEach es X.env)).any (·.1) = false) :
    PE X (.Call (.Name x p0) (e :: es) [] pos) (TEv G W (evE (callF P w k) (.callD i a (dl.map (·.2))))) := by
  obtain ⟨f, fd, ps, us, dv, hm, hk, hv, hr, hb, _, F⟩ := o.kf x i dl hx
  refine pe_imp (pe_callSD F ((o.room rfl).mono (by omega)) (o.gl hg) hm hk hb hv (fun σ => passAt o.tk σ) ha hdb he hpl) fun σ H Q ⟨ρ, π, h, E, M, q⟩ => ⟨ρ, π, h, E, M, ?_⟩
  have q : Post G W σ H π (onArgs (evE (callF P w k) a ρ h) (fun xs h1 => callF P w k i (xs ++ dl.map (·.2)) h1)) fun _ _ v H' _ => Q v H' := by
    simp only [evE] at q; exact q
  refine q.args.imp fun ds h1 vs H1 π1 _ _ _ M1 R1 p1 => ?_
  have hG : G = ⟨X.K, X.mg, nm.exc.map (·.1), none, X.w⟩ := by
    obtain ⟨K, mg, xs, ex, gw⟩ := G
    have h1 := o.hK; have h2 := o.hmg; have h3 := o.gex rfl; have h4 := o.hxs; have h5 := o.hw
    simp only at h1 h2 h3 h4 h5
    rw [h1, h2, h3, h4, h5]
  subst hG
  refine ⟨π1, h1, ds ++ dl.map (·.2), M1, R1.append (hr _ _ _), ?_⟩
  cases z : callF P w k i (ds ++ dl.map (·.2)) h1 with
  | bad => rw [z] at p1; exact p1.elim
  | ok d h2 => rw [z] at p1; exact p1
  | exn x h2 => rw [z] at p1; exact p1

/-- how long a written row of arguments is -/
def E.lenC : E → Option Nat
  | .nil => some 0
  | .cons _ r => r.lenC.map (· + 1)
  | _ => none
theorem lenC_ok {c : Nat → List D → Hm → Z.R} : ∀ {e : E} {n : Nat} {ρ : Env'} {h h' : Hm} {xs : List D}, e.lenC = some n → evE c e ρ h = .ok (.tup xs) h' → xs.length = n
  | .nil, n, ρ, h, h', xs, e, q => by
    simp only [E.lenC, Option.some.injEq] at e
    simp only [evE] at q
    cases q; subst e; rfl
  | .cons a r, n, ρ, h, h', xs, e, q => by
    simp only [E.lenC, Option.map_eq_some_iff] at e
    obtain ⟨m, e1, rfl⟩ := e
    simp only [evE] at q
    cases z : evE c a ρ h with
    | bad => rw [z] at q; cases q
    | exn x h1 => rw [z] at q; cases q
    | ok d h1 =>
      rw [z] at q
      simp only [R.bind_ok] at q
      cases z2 : evE c r ρ h1 with
      | bad => rw [z2] at q; cases q
      | exn x h2 => rw [z2] at q; cases q
      | ok ds h2 =>
        rw [z2] at q
        simp only [R.bind_ok] at q
        cases ds <;> simp only [reduceCtorEq] at q
        cases q
        rw [List.length_cons, lenC_ok e1 z2]
  | .var _, _, _, _, _, _, e, _ => by simp [E.lenC] at e
  | .lit _, _, _, _, _, _, e, _ => by simp [E.lenC] at e
  | .prim .., _, _, _, _, _, e, _ => by simp [E.lenC] at e
  | .meth .., _, _, _, _, _, e, _ => by simp [E.lenC] at e
  | .call .., _, _, _, _, _, e, _ => by simp [E.lenC] at e
  | .callD .., _, _, _, _, _, e, _ => by simp [E.lenC] at e
  | .app .., _, _, _, _, _, e, _ => by simp [E.lenC] at e
  | .tup .., _, _, _, _, _, e, _ => by simp [E.lenC] at e
  | .lst .., _, _, _, _, _, e, _ => by simp [E.lenC] at e
  | .and .., _, _, _, _, _, e, _ => by simp [E.lenC] at e
  | .or .., _, _, _, _, _, e, _ => by simp [E.lenC] at e
  | .not .., _, _, _, _, _, e, _ => by simp [E.lenC] at e
  | .ite .., _, _, _, _, _, e, _ => by simp [E.lenC] at e
  | .chain .., _, _, _, _, _, e, _ => by simp [E.lenC] at e
  | .comp .., _, _, _, _, _, e, _ => by simp [E.lenC] at e
  | .xis .., _, _, _, _, _, e, _ => by simp [E.lenC] at e
  | .xfld .., _, _, _, _, _, e, _ => by simp [E.lenC] at e
theorem kw_each (kws : List Keyword) (env : Env) : keywordEach kws env = kws.map fun k => (k.arg, eval k.value env) := by
  induction kws with
  | nil => rfl
  | cons k r ih =>
    obtain ⟨n, v, p⟩ := k
    simp only [keywordEach, ih, List.map_cons]
theorem PostA.tail {r : R} {f : Env' → Hm → R} {ρ : Env'} {g : List D → Hm → R} {h : Hm} {σ : L2.St} {H : Hp} {π : List Addr} {C : D → Hm → V → Hp → List Addr → Prop}
    (p : Post G W σ H π (onArgs (r.bind fun ds h1 => match ds with | .tup xs => ((f ρ h1).bind fun es h2 => match es with | .tup ys => .ok (.tup (xs ++ ys)) h2 | _ => .bad) | _ => .bad) g) C) :
    PostA G W σ H π r fun xs h1 vs H1 π1 => PostA G W σ H1 π1 (f ρ h1) fun ys h2 us H2 π2 => Post G W σ H2 π2 (g (xs ++ ys) h2) C := by
  cases r with
  | bad => exact p.elim
  | exn x h1 => exact p
  | ok d h1 =>
    cases d with
    | tup xs =>
      intro vs H1 π1 e1 p1 M1 R1
      simp only [onArgs, R.bind_ok] at p
      have p := Post.weak e1 p1 p
      cases z : f ρ h1 with
      | bad => rw [z] at p; exact p.elim
      | exn x h2 => rw [z] at p; exact p
      | ok es h2 =>
        rw [z] at p
        cases es with
        | tup ys => exact fun us H2 π2 e2 p2 M2 R2 => Post.weak e2 p2 p
        | _ => exact p.elim
    | _ => exact p.elim
/-! #### methods -/
def mtName : Pm → Option Str
  | .append => some "append" | .pop => some "pop" | .count => some "count" | .extend => some "extend" | .reverse => some "reverse" | .clear => some "clear" | _ => none
def mtOf (x : Str) (n : Nat) : Option Pm :=
  if x = ("append" : Str) ∧ n = 1 then some .append else if x = ("pop" : Str) ∧ n = 0 then some .pop else if x = ("count" : Str) ∧ n = 1 then some .count else if x = ("extend" : Str) ∧ n = 1 then some .extend
  else if x = ("reverse" : Str) ∧ n = 0 then some .reverse else if x = ("clear" : Str) ∧ n = 0 then some .clear else if x = ("index" : Str) ∧ n = 1 then some .index else if x = ("pop" : Str) ∧ n = 1 then some .popat else if x = ("insert" : Str) ∧ n = 2 then some .insert else none
theorem tyOk_sq {a : Addr} {vs : List V} {H : Hp} (h : SqL X.K H a vs) : TyOk X (.ref a) H "list" := tyOk_of (.inl ⟨rfl, vs, h⟩)
theorem recv_ok {p : Pm} {x : Str} {n : Nat} {H : Hp} {π : List Addr} {h : Hm} {d : D} {v : V} (hu : X.A.units + 65 < cLine) (hK : G.K = X.K) (hm : mtOf x n = some p) (M : HmOk G H π h) (r : Rep G H π d v) (e : recvOk p d h = true) :
    ∃ r, Recv X v H x r ∧ ∀ vs H2 Q, (rMt G W p v vs H2 Q ∧ Ext H H2 ∧ ((lstOf h d).isSome = true → ∀ a, v = .ref a → ∃ us', SqL X.K H2 a us')) → r v vs H2 Q := by
  have lst : (lstOf h d).isSome = true → ∃ a vs, v = .ref a ∧ SqL X.K H a vs := fun z => by
    obtain ⟨xs, hx⟩ := Option.isSome_iff_exists.mp z
    obtain ⟨a, vs, e1, _, e3⟩ := lstOf_sq M r hx
    rw [hK] at e3
    exact ⟨a, vs, e1, e3⟩
  unfold mtOf at hm
  repeat' (split at hm)
  all_goals first
    | (cases hm; done)
    | skip
  all_goals (rename_i hx; obtain ⟨rfl, _⟩ := hx; cases hm)
  · obtain ⟨a, vs, rfl, sq⟩ := lst e
    exact ⟨_, ⟨"list", "list.append", PySem.F.plainAttrs_list, PySem.F.slot_list_append, PySem.F.type_list_append, m_append, tyOk_sq sq⟩, fun vs H2 Q q => q.1⟩
  · obtain ⟨a, vs, rfl, sq⟩ := lst e
    exact ⟨_, ⟨"list", "list.pop", PySem.F.plainAttrs_list, PySem.F.slot_list_pop, PySem.F.type_list_pop, m_pop, tyOk_sq sq⟩, fun vs H2 Q q => q.1⟩
  · obtain ⟨xs, hx⟩ := Option.isSome_iff_exists.mp (show (listOf h d).isSome = true from e)
    obtain ⟨a, vs, rfl, _, kd⟩ := listOf_ok M r hx
    rw [hK] at kd
    have fin : (lstOf h d).isSome = true → SqL X.K H a vs → ∃ r, Recv X (.ref a) H ("count" : Str) r ∧ ∀ vs H2 Q, (rMt G W .count (.ref a) vs H2 Q ∧ Ext H H2 ∧ ((lstOf h d).isSome = true → ∀ a_1, V.ref a = .ref a_1 → ∃ us', SqL X.K H2 a_1 us')) → r (.ref a) vs H2 Q := fun hl sq =>
      ⟨_, ⟨"list", "list.count", PySem.F.plainAttrs_list, PySem.F.slot_list_count, PySem.F.type_list_count, m_lcountA hK (a := a), tyOk_sq sq⟩, fun vs' H2 Q q => by
        obtain ⟨us', z⟩ := q.2.2 hl a rfl
        exact ⟨⟨us', rfl, z⟩, q.1⟩⟩
    rcases kd with ⟨rfl, t⟩ | ⟨t, rfl⟩ | ⟨n, rfl, hn, _, t⟩
    · exact ⟨_, ⟨"tuple", "tuple.count", PySem.F.plainAttrs_tuple, PySem.F.slot_tuple_count, PySem.F.type_tuple_count, m_tcount hK (a := a) (vs := vs), tyOk_tup t⟩, fun vs' H2 Q q => ⟨⟨rfl, q.2.1.tupF t⟩, q.1⟩⟩
    · exact fin rfl t.sq
    · exact fin (by show (listOf h (.ref n)).isSome = true; rw [hx]; rfl) (.of t)
  · obtain ⟨a, vs, rfl, sq⟩ := lst e
    exact ⟨_, ⟨"list", "list.extend", PySem.F.plainAttrs_list, PySem.F.slot_list_extend, PySem.F.type_list_extend, m_extend, tyOk_sq sq⟩, fun vs H2 Q q => q.1⟩
  · obtain ⟨a, vs, rfl, sq⟩ := lst e
    exact ⟨_, ⟨"list", "list.reverse", PySem.F.plainAttrs_list, PySem.F.slot_list_reverse, PySem.F.type_list_reverse, m_reverse, tyOk_sq sq⟩, fun vs H2 Q q => q.1⟩
  · obtain ⟨a, vs, rfl, sq⟩ := lst e
    exact ⟨_, ⟨"list", "list.clear", PySem.F.plainAttrs_list, PySem.F.slot_list_clear, PySem.F.type_list_clear, m_clear, tyOk_sq sq⟩, fun vs H2 Q q => q.1⟩
  · obtain ⟨a, vs, rfl, sq⟩ := lst e
    exact ⟨_, ⟨"list", "list.index", PySem.F.plainAttrs_list, PySem.F.slot_list_index, PySem.F.type_list_index, m_index hK hu, tyOk_sq sq⟩, fun vs H2 Q q => q.1⟩
  · obtain ⟨a, vs, rfl, sq⟩ := lst e
    exact ⟨_, ⟨"list", "list.pop", PySem.F.plainAttrs_list, PySem.F.slot_list_pop, PySem.F.type_list_pop, m_popat, tyOk_sq sq⟩, fun vs H2 Q q => q.1⟩
  · obtain ⟨a, vs, rfl, sq⟩ := lst e
    exact ⟨_, ⟨"list", "list.insert", PySem.F.plainAttrs_list, PySem.F.slot_list_insert, PySem.F.type_list_insert, m_insert, tyOk_sq sq⟩, fun vs H2 Q q => q.1⟩
theorem ev_meth {c : Nat → List D → Hm → Z.R} {p : Pm} {o a : E} {ρ : Env'} {h : Hm} :
    evE c (.meth p o a) ρ h = (evE c o ρ h).bind fun x h1 => if recvOk p x h1 = true then onArgs (evE c a ρ h1) (fun xs => evP p (x :: xs)) else .bad := by
  simp only [evE]; rfl
theorem sq_later {H H2 : Hp} {π : List Addr} {h : Hm} {d : D} {v : V} (M : HmOk G H π h) (r : Rep G H π d v) (e : Ext H H2) {a : Addr} (ev : v = .ref a) (hx : (lstOf h d).isSome = true) : ∃ us', SqL G.K H2 a us' := by
  subst ev
  cases r with
  | tup t rs => simp [lstOf] at hx
  | ro t rs => exact ⟨_, (e.roL t).sq⟩
  | @ref n a hp =>
    have hl : n < h.length := by rw [← M.len]; exact (List.getElem?_eq_some_iff.mp hp).1
    have q := M.cell n h[n] _ (by simp [hl]) hp
    cases hc : h[n] with
    | lst xs =>
      rw [hc] at q
      obtain ⟨vs, q1, _⟩ := q
      obtain ⟨ys, q2⟩ := e.lsts _ _ q1
      exact ⟨ys, .of q2⟩
    | ins c F fs => simp [lstOf, listOf, List.getElem?_eq_getElem hl, hc] at hx
    | set acc => simp [lstOf, listOf, List.getElem?_eq_getElem hl, hc] at hx
  | xv => simp [lstOf, listOf] at hx
theorem meth_read {p : Pm} {x : Str} {n : Nat} {eo ea : Env' → Hm → Z.R} (hu : X.A.units + 65 < cLine) (hK : G.K = X.K) (hm : mtOf x n = some p) {σ : L2.St} {H : Hp} {Q : VK}
    (t : TEv G W (fun ρ h => (eo ρ h).bind fun x h1 => if recvOk p x h1 = true then onArgs (ea ρ h1) (fun xs => evP p (x :: xs)) else .bad) σ H Q) : tMt X x (TEv G W eo) (TAv G W ea) σ H Q := by
  obtain ⟨ρ, π, h, E, M, q⟩ := t
  refine ⟨ρ, π, h, E, M, q.bind.imp fun d h1 v H1 π1 _ e1 p1 M1 R1 q => ?_⟩
  split at q
  · rename_i hr
    obtain ⟨r, hr1, hr2⟩ := recv_ok hu hK hm M1 R1 hr
    refine ⟨r, hr1, ρ, π1, h1, E.mono e1 p1, M1, q.args.imp fun ds h2 vs H2 π2 _ e2 p2 M2 R2 q => hr2 vs H2 Q ⟨⟨σ, π2, h2, d, ds, M2, R1.mono e2 p2, R2, q⟩, e2, fun hx a ev => ?_⟩⟩
    have := sq_later M1 R1 e2 ev hx
    rw [hK] at this
    exact this
  · exact q.elim
theorem e_meth {p : Pm} {m : Str} {ob e : Expr} {es : List Expr} {apos cpos : Pos} {eo a : E} {c : Nat → List D → Hm → Z.R} (hu : X.A.units + 65 < cLine) (hK : G.K = X.K) (hm : mtOf m (e :: es).length = some p) (ho : PE X ob (TEv G W (evE c eo))) (ha : PA X (e :: es) (TAv G W (evE c a)))
    (hbase : attributeBase ob m X.env (eval ob X.env) = eval ob X.env) (hst : starEach (e :: es) X.env = (e :: es).map fun e => (false, eval e X.env)) (hst2 : starEach es X.env = es.map fun e => (false, eval e X.env)) (hfew : (e :: es).length < 30) (hline : (apos.endLine == cpos.line) = true) :
    PE X (.Call (.Attribute ob m apos) (e :: es) [] cpos) (TEv G W (evE c (.meth p eo a))) := by
  refine pe_imp (pe_mt ho ha hbase ?_ hline (star_head hst hst2) (star_any hst2)) fun σ H Q ⟨ρ, π, h, E, M, q⟩ => meth_read hu hK hm ⟨ρ, π, h, E, M, by rw [ev_meth] at q; exact q⟩
  rw [star_all hst]
  simp only [backToKw, keywordEach, List.map_nil, List.all_nil, Bool.and_true, Bool.true_and, decide_eq_true_eq, List.length_nil, List.isEmpty_nil, if_true]
  omega
theorem e_meth0 {p : Pm} {m : Str} {ob : Expr} {apos cpos : Pos} {eo : E} {c : Nat → List D → Hm → Z.R} (hu : X.A.units + 65 < cLine) (hK : G.K = X.K) (hm : mtOf m 0 = some p) (ho : PE X ob (TEv G W (evE c eo)))
    (hbase : attributeBase ob m X.env (eval ob X.env) = eval ob X.env) (hline : (apos.endLine == cpos.line) = true) :
    PE X (.Call (.Attribute ob m apos) [] [] cpos) (TEv G W (evE c (.meth p eo .nil))) := by
  refine pe_imp (pe_mt0 ho hbase hline) fun σ H Q ⟨ρ, π, h, E, M, q⟩ => ?_
  obtain ⟨ρ, π, h, E, M, q⟩ := meth_read (ea := fun _ h => .ok (.tup []) h) hu hK hm ⟨ρ, π, h, E, M, by rw [ev_meth] at q; simp only [evE] at q; exact q⟩
  exact ⟨ρ, π, h, E, M, q.imp fun d h1 v H1 π1 _ _ _ M1 R1 ⟨r, h2, ρ2, π2, hh, E2, M2, q2⟩ => ⟨r, h2, q2 [] H1 π2 .refl (List.prefix_refl _) M2 .nil⟩⟩

/-! #### subscripts, displays -/
theorem e_idx {a b : Expr} {pos : Pos} {ea eb : E} {c : Nat → List D → Hm → Z.R} (hK : G.K = X.K) (hs : PlainIx b) (ha : PE X a (TEv G W (evE c ea))) (hb : PE X b (TEv G W (evE c eb))) :
    PE X (.Subscript a b pos) (TEv G W (evE c (.prim .idx (.cons ea (.cons eb .nil))))) := by
  refine pe_imp (pe_ix (z_idx (W := W) hK) ha hb hs) fun σ H Q ⟨ρ, π, h, E, M, q⟩ => ?_
  rw [ev_prim2] at q
  exact ⟨ρ, π, h, E, M, q.bind.imp fun d h1 v H1 π1 _ e p M1 R1 p1 => ⟨ρ, π1, h1, E.mono e p, M1, p1.bind.imp fun d2 h2 v2 H2 π2 _ e2 p2 M2 R2 q2 => ⟨σ, π2, h2, d, d2, M2, R1.mono e2 p2, R2, q2⟩⟩⟩
/-- a part of a slice -/
def TOv (G : Gx) (W : WX) (ev : Env' → Hm → Z.R) : TO := fun σ H Q => ∃ ρ π h, EnvOk G H π ρ σ ∧ HmOk G H π h ∧ Post G W σ H π (ev ρ h) fun d _ _ H' _ => ∃ o, partOf d = some o ∧ Q o H'
theorem po_imp {e : Option Expr} {t t' : TO} (h : PO X e t) (q : ∀ σ H Q, t' σ H Q → t σ H Q) : PO X e t' := ⟨fun pins s σ H Q I z => h.run pins s σ H Q I (q _ _ _ z)⟩
theorem o_none {c : Nat → List D → Hm → Z.R} : PO X none (TOv G W (evE c (.lit .non))) := po_imp po_none fun σ H Q ⟨ρ, π, h, E, M, q⟩ => by
  obtain ⟨o, h1, h2⟩ := q .non H π .refl (List.prefix_refl _) M .non
  cases h1
  exact h2
theorem o_some {e : Expr} {ea : E} {c : Nat → List D → Hm → Z.R} (h : PE X e (TEv G W (evE c ea))) : PO X (some e) (TOv G W (evE c (.prim .part (.cons ea .nil)))) := po_imp (po_some h) fun σ H Q ⟨ρ, π, h, E, M, q⟩ => by
  rw [ev_prim1] at q
  refine ⟨ρ, π, h, E, M, q.bind.imp fun d h1 v H1 π1 _ _ _ M1 R1 q => ?_⟩
  change Post G W σ H1 π1 (opPart d h1) _ at q
  unfold opPart at q
  split at q
  · split at q
    · rename_i hz
      cases rep_int R1
      obtain ⟨o, h1, h2⟩ := q _ H1 π1 .refl (List.prefix_refl _) M1 (.int _)
      change (if _ then _ else _) = _ at h1
      rw [if_pos hz] at h1
      cases h1
      exact ⟨_, rfl, h2⟩
    · exact q.elim
  · exact q.elim
/-- a part's value serves -/
def PartOk (c : Nat → List D → Hm → Z.R) (el : E) : Prop := ∀ ρ h d h', evE c el ρ h = .ok d h' → ∃ o, partOf d = some o
theorem part_none {c : Nat → List D → Hm → Z.R} : PartOk c (.lit .non) := fun ρ h d h' e => by
  simp only [evE, R.ok.injEq] at e
  rw [← e.1]; exact ⟨none, rfl⟩
theorem part_some {c : Nat → List D → Hm → Z.R} {ea : E} : PartOk c (.prim .part (.cons ea .nil)) := fun ρ h d h' e => by
  rw [ev_prim1] at e
  cases z : evE c ea ρ h with
  | ok d1 h1 =>
    rw [z] at e
    change opPart d1 h1 = .ok d h' at e
    unfold opPart at e
    split at e
    · split at e
      · rename_i hz
        cases e
        exact ⟨_, if_pos hz⟩
      · cases e
    · cases e
  | bad => rw [z] at e; cases e
  | exn x h1 => rw [z] at e; cases e
theorem e_slice {a : Expr} {lo hi : Option Expr} {pos p2 : Pos} {ea el eh : E} {c : Nat → List D → Hm → Z.R} (hK : G.K = X.K) (ha : PE X a (TEv G W (evE c ea))) (hl : PO X lo (TOv G W (evE c el))) (hh : PO X hi (TOv G W (evE c eh))) (pl : PartOk c el) (ph : PartOk c eh) :
    PE X (.Subscript a (.Slice lo hi none p2) pos) (TEv G W (evE c (.prim .slice (.cons ea (.cons el (.cons eh .nil)))))) := by
  refine pe_imp (pe_slice (z_slice (W := W) hK) ha hl hh) fun σ H Q ⟨ρ, π, h, E, M, q⟩ => ⟨ρ, π, h, E, M, ?_⟩
  rw [ev_prim3] at q
  refine q.bind.imp fun d h1 v H1 π1 _ e1 p1 M1 R1 q => ⟨ρ, π1, h1, E.mono e1 p1, M1, q.bind.imp fun d2 h2 v2 H2 π2 er2 e2 p2 M2 R2 q => ?_⟩
  obtain ⟨lo2, el2⟩ := pl _ _ _ _ er2
  refine ⟨lo2, el2, ρ, π2, h2, (E.mono e1 p1).mono e2 p2, M2, q.bind.imp fun d3 h3 v3 H3 π3 er3 e3 p3 M3 R3 q => ?_⟩
  obtain ⟨hi2, eh2⟩ := ph _ _ _ _ er3
  exact ⟨hi2, eh2, σ, π3, h3, d, d2, d3, M3, (R1.mono e2 p2).mono e3 p3, el2, eh2, q⟩
/-- a tuple, the new one known -/
theorem pe_tupZ {es : List Expr} {x1 : Nat} {pos : Pos} {t : TA} (h : PA X es t) : PE X (.Tuple es x1 pos) (fun σ H Q => t σ H fun xs H1 => xs.length ≤ sizeLine ∧ ∀ o p, o.cls = .type "tuple" → o.dict = none → H1 p = none → Q (.ref p) (upd H1 p (.frz o (.tup xs)))) := by
  refine ⟨fun pins s σ H Q I hq => ?_⟩
  refine wpAny_Tuple_spliced (thn (h.run pos pins s σ H _ I hq) fun us s1 ⟨xs, H1, I1, r, z, q⟩ => ⟨by rw [← r.length]; exact z, ?_⟩)
  have hf : H1 s1.heap.objs.size = none := I1.hok.fresh (Nat.le_refl _)
  refine ⟨.ref s1.heap.objs.size, _, I1.laid (o := .frz _ (.tup xs)) (t' := s1.toks) (fun b u e => Heap.get?_push_of_some _ e) (Nat.le_refl _) ⟨Heap.get?_push_size _ rfl, ?_⟩, rfl, q _ _ rfl rfl hf⟩
  exact ⟨z, us, r, ⟨_, Heap.get?_push_size _ rfl, rfl, _, rfl⟩⟩
theorem e_tup {es : List Expr} {x1 : Nat} {pos : Pos} {a : E} {c : Nat → List D → Hm → Z.R} (ha : PA X es (TAv G W (evE c a))) : PE X (.Tuple es x1 pos) (TEv G W (evE c (.tup a))) := by
  refine pe_imp (pe_tupZ ha) fun σ H Q ⟨ρ, π, h, E, M, q⟩ => ⟨ρ, π, h, E, M, ?_⟩
  have q : Post G W σ H π (onArgs (evE c a ρ h) mkt) fun _ _ v H' _ => Q v H' := by simp only [evE] at q; exact q
  refine q.args.imp fun ds h1 vs H1 π1 _ _ _ M1 R1 q => ?_
  unfold mkt at q
  split at q
  · rename_i hz
    exact ⟨by rw [← R1.length]; exact hz, fun o p hc hd hp => post_tup M1 R1 hp hc hd q⟩
  · exact q.elim
theorem e_lst {es : List Expr} {pos : Pos} {a : E} {c : Nat → List D → Hm → Z.R} (ha : PA X es (TAv G W (evE c a))) : PE X (.List es pos) (TEv G W (evE c (.lst a))) := by
  refine pe_imp (pe_lst ha) fun σ H Q ⟨ρ, π, h, E, M, q⟩ => ⟨ρ, π, h, E, M, ?_⟩
  have q : Post G W σ H π (onArgs (evE c a ρ h) mkl) fun _ _ v H' _ => Q v H' := by simp only [evE] at q; exact q
  exact q.args.imp fun ds h1 vs H1 π1 _ _ _ M1 R1 q => post_mkl M1 R1 q

theorem rg_reps {H : Hp} {π : List Addr} {n : Int} : Reps G H π (rangeD 0 1 n.toNat) (rgV 0 n) := by
  unfold rangeD rgV
  have : (n - 0).toNat = n.toNat := by rw [Int.sub_zero]
  rw [this]
  generalize List.range n.toNat = l
  induction l with
  | nil => exact .nil
  | cons x r ih =>
    refine .cons ?_ ih
    have : (0 : Int) + (x : Int) * 1 = 0 + x := by omega
    simp only [this]
    exact .int _
theorem e_listR {a : Expr} {p1 p2 q1 q2 : Pos} {ea : E} {c : Nat → List D → Hm → Z.R} (hc : X.calm = true) (hg : Gl X "list") (hm : X.mg "list" = none) (hg2 : Gl X "range") (hm2 : X.mg "range" = none) (ha : PE X a (TEv G W (evE c ea))) (na : starEach [a] X.env = (false, eval a X.env) :: starEach [] X.env) :
    PE X (.Call (.Name "list" p1) [.Call (.Name "range" q1) [a] [] q2] [] p2) (TEv G W (evE c (.prim .rangel (.cons ea .nil)))) := by
  refine pe_imp (pe_listRg hc hg hm (prg_1 hg2 hm2 ha na) rfl) fun σ H Q t => ?_
  obtain ⟨ρ, π, h, E, M, q⟩ := t
  rw [ev_prim1] at q
  refine ⟨ρ, π, h, E, M, q.bind.imp fun d h1 v H1 π1 _ _ _ M1 R1 p1 => ?_⟩
  change Post G W σ H1 π1 (opRangel d h1) _ at p1
  unfold opRangel at p1
  split at p1
  · split at p1
    · rename_i n _ hn
      cases rep_int R1
      have hs := small_ok hn.1
      exact ⟨n, rfl, ⟨by decide, by decide, hs.1, hs.2, by rw [Int.sub_zero]; omega⟩, fun l hl => post_new M1 rg_reps hl p1⟩
    · exact p1.elim
  · exact p1.elim

/-- list(reversed(x)) -/
def tLstRev (K : PySem.W.Frag) (te : TE) : TE := fun σ H Q => te σ H fun v H1 => ∃ (a : Addr) (xs : List V), v = .ref a ∧ (SqL K H1 a xs ∨ SqT K H1 a xs) ∧ xs.length ≤ 1000000 ∧ ∀ q, H1 q = none → Q (.ref q) (upd H1 q (.lst xs.reverse))
theorem pe_listRev {e : Expr} {te : TE} {p p2 pos pos2 : Pos} (hc : X.calm = true) (hg : Gl X "list") (hm : X.mg "list" = none) (hg2 : Gl X "reversed") (hm2 : X.mg "reversed" = none) (he : PE X e te)
    (hs : starEach [e] X.env = (false, eval e X.env) :: starEach [] X.env)
    (hs2 : starEach [.Call (.Name "reversed" p2) [e] [] pos2] X.env = (false, eval (.Call (.Name "reversed" p2) [e] [] pos2) X.env) :: starEach [] X.env := by rfl) :
    PE X (.Call (.Name "list" p) [.Call (.Name "reversed" p2) [e] [] pos2] [] pos) (tLstRev X.K te) := by
  refine ⟨fun pins s σ H Q I h => ?_⟩
  refine Call_ (ld_blt I hg hm boot_list (PyProof.Rows.callWith_type1 (args_cons (Call_ (ld_blt I hg2 hm2 PyProof.Rows.boot_reversed (PyProof.Rows.callWith_type1 (args_cons (thn (he.run pins s σ H _ I h) fun u s1 ⟨v, H1, I1, r1, q1⟩ => args_nil ?_) hs) hs rfl))) hs2) hs2 rfl))
  obtain ⟨a, xs, ev, hq, hlen, q⟩ := q1
  subst ev
  obtain rfl : u = Value.ref a := r1
  rcases hq with hq | hq
  · obtain ⟨its, rv, p', hz⟩ := I1.list hq
    have hrl := rv.length
    have hl := p'.isList
    obtain ⟨ol, hol, _⟩ := id hl
    have hne : a ≠ s1.heap.objs.size := Nat.ne_of_lt (Heap.lt_size hol)
    have hn : its.toArray.size ≤ sizeLine := by rw [List.size_toArray, ← rv.length]; exact hz
    refine call_reversed_list hl (args_nil ?_)
    refine ZY.call_list_rev (s := { s1 with heap := s1.heap.push (revObj a ((its.toArray.size : Int) - 1)) }) (I1.ok.hd hc) ⟨_, Heap.get?_push_size _ rfl, rfl, rfl⟩ (hl.push _) hne hn fun h' tk acc c' hk hS hi => ?_
    have hk' : ∀ b o, s1.heap.get? b = some o → h'.get? b = some o := fun b o e => hk b o (Nat.ne_of_lt (Heap.lt_size e)) (Heap.get?_push_of_some _ e)
    have hsz : (s1.heap.push (revObj a ((its.toArray.size : Int) - 1))).objs.size = s1.heap.objs.size + 1 := Heap.size_push ..
    refine ⟨.ref _, upd H1 (s1.heap.push (revObj a ((its.toArray.size : Int) - 1))).objs.size (.lst xs.reverse), I1.laid hk' (by rw [hsz]; exact Nat.le_succ _) (show ObjOk X.prog X.w _ _ _ (.lst xs.reverse) from ⟨by rw [List.length_reverse]; exact hz, acc.toList, c', RT.vals_rev rv hi, ?_⟩), rfl, q _ (I1.hok.fresh (by rw [hsz]; exact Nat.le_succ _))⟩
    rw [Array.toArray_toList]; exact hS
  · obtain ⟨its, rv, p', hz⟩ := I1.tuple hq
    have hrl := rv.length
    have ht : IsTup s1.heap a its.toArray := p'
    obtain ⟨ol, hol, kl⟩ := id ht
    have hne : a ≠ s1.heap.objs.size := Nat.ne_of_lt (Heap.lt_size hol)
    have hn : its.toArray.size ≤ 1000000 := by rw [List.size_toArray]; omega
    refine RT.call_reversed_tup ht (fun A E Q k => PyProof.Rows.len_tuple ht (by omega) k) (args_nil ?_)
    refine ZY.call_list_rt (s := { s1 with heap := s1.heap.push (RT.rtObj a ((its.toArray.size : Int) - 1)), toks := s1.toks + 1 + 1 }) (I1.ok.hd hc) ⟨_, Heap.get?_push_size _ rfl, rfl, rfl⟩ ⟨ol, Heap.get?_push_of_some _ hol, kl⟩ hne hn fun h' tk acc c' hk hS hi => ?_
    have hk' : ∀ b o, s1.heap.get? b = some o → h'.get? b = some o := fun b o e => hk b o (Nat.ne_of_lt (Heap.lt_size e)) (Heap.get?_push_of_some _ e)
    have hsz : (s1.heap.push (RT.rtObj a ((its.toArray.size : Int) - 1))).objs.size = s1.heap.objs.size + 1 := Heap.size_push ..
    refine ⟨.ref _, upd H1 (s1.heap.push (RT.rtObj a ((its.toArray.size : Int) - 1))).objs.size (.lst xs.reverse), I1.laid hk' (by rw [hsz]; exact Nat.le_succ _) (show ObjOk X.prog X.w _ _ _ (.lst xs.reverse) from ⟨by rw [List.length_reverse]; exact hz, acc.toList, c', RT.vals_rev rv hi, ?_⟩), rfl, q _ (I1.hok.fresh (by rw [hsz]; exact Nat.le_succ _))⟩
    rw [Array.toArray_toList]; exact hS
theorem e_revl {a : Expr} {p1 p2 q1 q2 : Pos} {ea : E} {c : Nat → List D → Hm → Z.R} (hK : G.K = X.K) (hc : X.calm = true) (hg : Gl X "list") (hm : X.mg "list" = none) (hg2 : Gl X "reversed") (hm2 : X.mg "reversed" = none) (ha : PE X a (TEv G W (evE c ea))) (na : starEach [a] X.env = (false, eval a X.env) :: starEach [] X.env) :
    PE X (.Call (.Name "list" p1) [.Call (.Name "reversed" q1) [a] [] q2] [] p2) (TEv G W (evE c (.prim .revl (.cons ea .nil)))) := by
  refine pe_imp (pe_listRev hc hg hm hg2 hm2 ha na) fun σ H Q t => ?_
  obtain ⟨ρ, π, h, E, M, q⟩ := t
  rw [ev_prim1] at q
  refine ⟨ρ, π, h, E, M, q.bind.imp fun d h1 v H1 π1 _ _ _ M1 R1 p1 => ?_⟩
  change Post G W σ H1 π1 (opRevl d h1) _ at p1
  unfold opRevl at p1
  split at p1
  · rename_i xs hl
    split at p1
    · rename_i hlen
      obtain ⟨a, vs, rfl, rs, sq⟩ := listOf_sq M1 R1 hl
      rw [hK] at sq
      exact ⟨a, vs, rfl, sq, by rw [← rs.length]; exact hlen, fun l hl => post_new M1 rs.reverse hl p1⟩
    · exact p1.elim
  · exact p1.elim
/-- keywords' values -/
def CKs (X : Cx) (kws : List Keyword) (t : TA) : Prop := PK X kws t
theorem k_imp {X : Cx} {kws : List Keyword} {t t' : TA} (h : PK X kws t) (q : ∀ σ H Q, t' σ H Q → t σ H Q) : PK X kws t' := ⟨fun pos pins s σ H Q I z => h.run pos pins s σ H Q I (q _ _ _ z)⟩
theorem k_nil : PK X [] (TAv G W fun _ h => .ok (.tup []) h) := k_imp pk_nil fun σ H Q ⟨ρ, π, h, E, M, p⟩ => p [] H π .refl (List.prefix_refl _) M .nil
theorem k_cons {e : Expr} {kws : List Keyword} {n : Option Str} {kp : Pos} {ea er : Env' → Hm → Z.R} (ha : PE X e (TEv G W ea)) (hr : PK X kws (TAv G W er)) :
    PK X (⟨n, e, kp⟩ :: kws) (TAv G W fun ρ h => (ea ρ h).bind fun d h1 => (er ρ h1).bind fun ds h2 => match ds with
      | .tup xs => .ok (.tup (d :: xs)) h2
      | _ => .bad) := by
  refine k_imp (pk_cons ha hr) fun σ H Q ⟨ρ, π, h, E, M, p⟩ => ?_
  refine ⟨ρ, π, h, E, M, ?_⟩
  dsimp only at p
  cases q : ea ρ h with
  | bad => rw [q] at p; exact p.elim
  | exn x h1 => rw [q] at p; exact p
  | ok d h1 =>
    rw [q] at p
    intro v H1 π1 e1 p1 M1 R1
    refine ⟨ρ, π1, h1, E.mono e1 p1, M1, ?_⟩
    simp only [R.bind_ok] at p
    have p := PostA.weak e1 p1 p
    cases q2 : er ρ h1 with
    | bad => rw [q2] at p; exact p.elim
    | exn x h2 => rw [q2] at p; exact p
    | ok ds h2 =>
      rw [q2] at p
      cases ds with
      | tup xs => exact fun vs H2 π2 e2 p2 M2 R2 => p (v :: vs) H2 π2 e2 p2 M2 (.cons (R1.mono e2 p2) R2)
      | _ => exact p.elim
/-- f(e, .., k = v, ..), what is raised wished for at the caller's slots -/
def tCallNS (n m : Nat) (sp : Sp) (gV : List V → List V → List V) (E : L2.St → XK) (t tk : TA) : TE := fun σ H Q => t σ H fun vs H1 => tk σ H1 fun zs H2 => vs.length = n ∧ zs.length = m ∧ sp (gV vs zs) H2 Q (E σ)
theorem pe_callNS {CX : CXT} {k n : Nat} {f : Addr} {fd : FuncData} {ps ks : List Str} {sp : Sp} {E : L2.St → XK} {x : Str} {p pos : Pos} {e : Expr} {es : List Expr} {kws : List Keyword} {t tk : TA} {g : List Value → List Value → List Value} {gV : List V → List V → List V}
    (F : FnOk X.prog X.w X.K X.mg X.base CX k f fd ps sp) (hr : Room k X.A) (hg : Gl X x) (hm : X.mg x = some (.ref f)) (hk : PySem.W.keepIn X.K (.ref f) = true) (hb : KBn X.K fd ps n ks g gV) (hx : ∀ σ, PassesAt CX X σ (E σ))
    (ha : PA X (e :: es) t) (hkw : PK X kws tk) (hall : (backToKw pos (keywordEach kws X.env)).all (·.1.isSome) = true) (hks : (backToKw pos (keywordEach kws X.env)).filterMap (·.1) = ks)
    (hdb : (x == ("__debug__" : Str)) = false) (he : starEach (e :: es) X.env = (false, eval e X.env) :: starEach es X.env)
    (hpl : ((backTo pos (starEach (e :: es) X.env)).any (·.1) || (backToKw pos (keywordEach kws X.env)).any (·.1.isNone)) = false) :
    PE X (.Call (.Name x p) (e :: es) kws pos) (tCallNS n ks.length sp gV E t tk) := by
  refine ⟨fun pins s σ H Q I h => ?_⟩
  refine wpAny_Call_Name_kw (ld_glob I hg hm ?_ hdb)
  refine PySem.W.callWith_KW (h₀ := X.base) I.ok.mod.kin hk hall (thn (ha.run pos pins s σ H _ I h) fun us s1 ⟨vs, H1, I1, r, q⟩ => ?_) hpl he
  refine thn (hkw.run pos pins s1 σ H1 _ I1 q) fun ws s2 ⟨zs, H2, I2, rz, l1, l2, q2⟩ => ⟨I2.kIn, ?_⟩
  rw [hks]
  have r2 := hb.rel r rz
  refine wpAny_call (codeAny_mono (F.run X.A X.stack s2 H2 ⟨us, ks.zip ws⟩ (g us ws) (gV vs zs) Q (E σ) hr I2.env0 (hb.to s2 us ws I2.kIn (r.length.symm.trans l1) (rz.length.symm.trans l2)) r2 q2) fun r s' hq => ?_)
  cases r with
  | error e => exact hx σ pins H2 s2 e s' I2 hq
  | ok fl =>
    cases fl with
    | ret u => exact I2.after hq
    | next => exact False.elim hq
    | brk => exact False.elim hq
    | cont => exact False.elim hq

/-- a def with keyword-only parameters, all of them written -/
theorem e_callK {x : Str} {i : Nat} {dl : List (Str × D)} {e : Expr} {es : List Expr} {kws : List Keyword} {p0 pos : Pos} {a b : E} (o : OkE P w k nm N sc none G W X) (hx : (x, i, dl) ∈ nm.kws) (hg : sc.names.lookup x = some .globalImplicit) (hdb : (x == ("__debug__" : Str)) = false)
    (ha : PA X (e :: es) (TAv G W (evE (callF P w k) a))) (hb : PK X kws (TAv G W (evE (callF P w k) b))) (hlen : b.lenC = some dl.length) (hkn : kws.map (·.arg) = dl.map fun q => some q.1)
    (he : starEach (e :: es) X.env = (false, eval e X.env) :: starEach es X.env) (hst : starEach (e :: es) X.env = (e :: es).map fun e => (false, eval e X.env)) :
    PE X (.Call (.Name x p0) (e :: es) kws pos) (TEv G W (evE (callF P w k) (.call i (.app a b)))) := by
  obtain ⟨f, fd, ps, us, dv, hm, hk, hv, hr, hbd, kb, F⟩ := o.kf x i dl hx
  have h1 : (backToKw pos (keywordEach kws X.env)).map (·.1) = dl.map fun q => some q.1 := by
    rw [kw_each, ← hkn]
    unfold backToKw
    simp
  have e1 : (backToKw pos (keywordEach kws X.env)).all (·.1.isSome) = true := by
    have : (backToKw pos (keywordEach kws X.env)).all (·.1.isSome) = ((backToKw pos (keywordEach kws X.env)).map (·.1)).all (·.isSome) := by rw [List.all_map]; rfl
    rw [this, h1]
    simp
  have e2 : (backToKw pos (keywordEach kws X.env)).filterMap (·.1) = dl.map (·.1) := by
    have : (backToKw pos (keywordEach kws X.env)).filterMap (·.1) = ((backToKw pos (keywordEach kws X.env)).map (·.1)).filterMap id := by rw [List.filterMap_map]; rfl
    rw [this, h1, List.filterMap_map]
    induction dl with
    | nil => rfl
    | cons q r ih => simp [List.filterMap_cons]
  have e3 : (backToKw pos (keywordEach kws X.env)).any (·.1.isNone) = false := by
    have : (backToKw pos (keywordEach kws X.env)).any (·.1.isNone) = ((backToKw pos (keywordEach kws X.env)).map (·.1)).any (·.isNone) := by rw [List.any_map]; rfl
    rw [this, h1]
    simp
  refine pe_imp (pe_callNS F ((o.room rfl).mono (by omega)) (o.gl hg) hm hk kb (fun σ => passAt o.tk σ) ha hb e1 e2 hdb he (by rw [star_any hst, e3]; rfl)) fun σ H Q ⟨ρ, π, h, E, M, q⟩ => ⟨ρ, π, h, E, M, ?_⟩
  have q : Post G W σ H π (onArgs ((evE (callF P w k) a ρ h).bind fun ds h1 => match ds with | .tup xs => ((evE (callF P w k) b ρ h1).bind fun es h2 => match es with | .tup ys => .ok (.tup (xs ++ ys)) h2 | _ => .bad) | _ => .bad) (callF P w k i)) fun _ _ v H' _ => Q v H' := by
    simp only [evE] at q; exact q
  refine (PostA.tail (f := fun ρ h1 => evE (callF P w k) b ρ h1) (h := h) q).imp fun ds h1 vs H1 π1 _ ex1 px1 M1 R1 p1 => ⟨ρ, π1, h1, E.mono ex1 px1, M1, p1.imp fun es h2 zs H2 π2 er ex2 px2 M2 R2 p2 => ?_⟩
  have hG : G = ⟨X.K, X.mg, nm.exc.map (·.1), none, X.w⟩ := by
    obtain ⟨K, mg, xs, ex, gw⟩ := G
    have h1 := o.hK; have h2 := o.hmg; have h3 := o.gex rfl; have h4 := o.hxs; have h5 := o.hw
    simp only at h1 h2 h3 h4 h5
    rw [h1, h2, h3, h4, h5]
  subst hG
  have lz : zs.length = dl.length := by rw [← R2.length]; exact lenC_ok hlen er
  have sp : spF ⟨X.K, X.mg, nm.exc.map (·.1), none, X.w⟩ P w k i (vs ++ zs) H2 Q (fun cls d H' => W cls d σ H') := by
    refine ⟨π2, h2, ds ++ es, M2, (R1.mono ex2 px2).append R2, ?_⟩
    cases z : callF P w k i (ds ++ es) h2 with
    | bad => rw [z] at p2; exact p2.elim
    | ok d h2 => rw [z] at p2; exact p2
    | exn x h2 => rw [z] at p2; exact p2
  have lps := F.len _ _ _ _ sp
  rw [List.length_append] at lps
  exact ⟨by omega, by rw [lz, List.length_map], sp⟩
/-! #### isinstance of a value -/
/-- the kinds by class name -/
def kindOf (x : Str) : Option (Pm × String) :=
  if x = ("int" : Str) then some (.isint, "int") else if x = ("bool" : Str) then some (.isbool, "bool") else if x = ("str" : Str) then some (.isstr, "str") else if x = ("list" : Str) then some (.islist, "list")
  else if x = ("tuple" : Str) then some (.istup, "tuple") else none
theorem kind_cases {x : Str} {p : Pm} {C : String} (h : kindOf x = some (p, C)) : bootBuiltins x = some (.type C) ∧ x ∈ bltNames ∧ x ≠ "__name__" ∧ (x == ("__debug__" : Str)) = false ∧ C ∈ ["int", "bool", "str", "tuple", "list"] ∧
    ∀ d h, evP p [d] h = isKind (kOf h C) d h := by
  unfold kindOf at h
  repeat' (split at h)
  all_goals first | (cases h; done) | (rename_i hx; subst hx; cases h; exact ⟨by decide +kernel, by decide +kernel, by decide +kernel, by decide +kernel, by decide, fun _ _ => rfl⟩)
/-- an isinstance's value is no script and its list stands -/
theorem isi_read {H : Hp} {π : List Addr} {h : Hm} {d : D} {v : V} {C : String} {b : Bool} (hK : G.K = X.K) (M : HmOk G H π h) (r : Rep G H π d v) (ni : notIns d h = true) (hC : C ∈ ["int", "bool", "str", "tuple", "list"]) (e : kOf h C d = some b):
    TyX X.K H v (.type (tyN d)) ∧ PySem.W.kitOne X.K (.type (tyN d)) (.type C) = some b := by
  refine z_isi hK M r hC e fun k ek => ?_
  subst ek
  cases r with
  | ref hp =>
    have hl : k < h.length := by rw [← M.len]; exact (List.getElem?_eq_some_iff.mp hp).1
    cases hc : h[k] with
    | lst xs => exact ⟨xs, by rw [List.getElem?_eq_getElem hl, hc]⟩
    | ins c F fs => simp [notIns, List.getElem?_eq_getElem hl, hc] at ni
    | set acc => simp [notIns, List.getElem?_eq_getElem hl, hc] at ni
end
end Z

set_option Elab.async false
set_option linter.all false
set_option maxRecDepth 100000
set_option maxHeartbeats 4000000
namespace Z
open PySem PySem.Spec PyProof.Rows L2
/-! ### sum(range(n)) -/
variable {X : Cx} {G : Gx} {W : WX}
def tSumRg (te : L2.St → Hp → (Int → Int → Hp → Prop) → Prop) : TE := fun σ H Q => te σ H fun a b H1 => RgOk a b ∧ Q (.int (preSum (fun i => a + (i : Int)) (b - a).toNat)) H1
theorem pe_sumRg {e : Expr} {te : L2.St → Hp → (Int → Int → Hp → Prop) → Prop} {p pos : Pos} (hc : X.calm = true) (hg : Gl X "sum") (hm : X.mg "sum" = none) (he : PRg X e te)
    (hs : starEach [e] X.env = (false, eval e X.env) :: starEach [] X.env) : PE X (.Call (.Name "sum" p) [e] [] pos) (tSumRg te) := by
  refine ⟨fun pins s σ H Q I h => ?_⟩
  refine Call_ (ld_blt I hg hm boot_sum (PyProof.Rows.callWith_builtin1 (args_cons (thn (he pins s σ H _ I h) fun u s1 ⟨r, a, b, t, u', v, H1, eu, hr, I1, q1⟩ => args_nil ?_) hs) hs rfl))
  subst eu
  obtain ⟨ok, q⟩ := q1
  have hsz := PyProof.Rows.rangeSize_nat a b
  have hsm : Builtin.Range.small a b 1 = true := by
    obtain ⟨o1, o2, o3, o4, o5⟩ := ok
    unfold Builtin.Range.small
    rw [hsz]
    simp only [Builtin.Range.rangeFitsLong]
    simp
    omega
  refine call_sum_walkG (wpAny_pyIter_range hr hsm ?_)
  have st0 : IsRangeIter (s1.heap.push { cls := Value.type "range_iterator", data := Data.fields #[rawInt a, rawInt (Builtin.Range.rangeSize a b 1), rawInt 1] }) s1.heap.objs.size (a + ((0 : Nat) : Int) * 1) (((b - a).toNat : Int) - ((0 : Nat) : Int)) 1 := by
    show Heap.get? _ _ = _
    rw [Heap.get?_push_size _ rfl, hsz]
    simp
  refine ⟨s1.heap.objs.size, [s1.heap.objs.size], [s1.heap.objs.size], (b - a).toNat, _, _, fun i => a + (i : Int), rfl, Walks.range ((Around.in1_handled X.A).trans (I1.ok.hd hc)) _ a 1 _, st0, ?_, ?_, ?_⟩
  · intro c hc
    rw [List.mem_singleton.mp hc]
    show s1.heap.objs.size < (s1.heap.push _).objs.size
    rw [Heap.size_push]
    exact Nat.lt_succ_self _
  · rintro i v ⟨t, rfl⟩
    exact ⟨t, by rw [Int.mul_one]⟩
  · intro h' tk t' hk
    refine ⟨.int _, H1, I1.kept fun c o e => hk c o (fun hm => ?_) (Heap.get?_push_of_some _ e), ⟨t', rfl⟩, q⟩
    have := List.mem_singleton.mp hm
    subst this
    exact Nat.lt_irrefl _ (Heap.lt_size e)
theorem upSum_pre : ∀ n : Nat, preSum (fun i => (0 : Int) + (i : Int)) n = upSum n
  | 0 => rfl
  | n + 1 => by
    show preSum (fun i => (0 : Int) + (i : Int)) n + (0 + (n : Int)) = upSum n + n
    rw [upSum_pre n, Int.zero_add]
theorem e_sumR {a : Expr} {p1 p2 q1 q2 : Pos} {ea : E} {c : Nat → List D → Hm → Z.R} (hc : X.calm = true) (hg : Gl X "sum") (hm : X.mg "sum" = none) (hg2 : Gl X "range") (hm2 : X.mg "range" = none) (ha : PE X a (TEv G W (evE c ea))) (na : starEach [a] X.env = (false, eval a X.env) :: starEach [] X.env) :
    PE X (.Call (.Name "sum" p1) [.Call (.Name "range" q1) [a] [] q2] [] p2) (TEv G W (evE c (.prim .sumrg (.cons ea .nil)))) := by
  refine pe_imp (pe_sumRg hc hg hm (prg_1 hg2 hm2 ha na) rfl) fun σ H Q t => ?_
  obtain ⟨ρ, π, h, E, M, q⟩ := t
  rw [ev_prim1] at q
  refine ⟨ρ, π, h, E, M, q.bind.imp fun d h1 v H1 π1 _ _ _ M1 R1 p1 => ?_⟩
  change Post G W σ H1 π1 (opSumrg d h1) _ at p1
  unfold opSumrg at p1
  split at p1
  · split at p1
    · rename_i n _ hn
      cases rep_int R1
      have hs := small_ok hn.1
      refine ⟨n, rfl, ⟨by decide, by decide, hs.1, hs.2, by rw [Int.sub_zero]; omega⟩, ?_⟩
      rw [Int.sub_zero, upSum_pre]
      exact post_pure M1 (.int _) p1
    · exact p1.elim
  · exact p1.elim
end Z

set_option Elab.async false
set_option linter.all false
set_option maxRecDepth 100000
set_option maxHeartbeats 4000000
namespace Z
open PySem PySem.Spec PyProof.Rows L2
/-! ### built-ins called with keywords -/
variable {X : Cx} {G : Gx} {W : WX}
theorem app_two {vs zs : List V} {x y : V} (h : vs ++ zs = [x, y]) (l : zs.length = 1) : vs = [x] ∧ zs = [y] := by
  match vs, zs, l with
  | [a], [b], _ => simp at h; exact ⟨by rw [h.1], by rw [h.2]⟩
  | [], [b], _ => simp at h
  | _ :: _ :: r, [b], _ => simp at h
theorem cr_sortr (hK : G.K = X.K) : ∀ vs zs H Q, zs.length = 1 → rAn G W (evP .sortr) (vs ++ zs) H Q → rSortedKw X.K true [.bl true] vs zs H Q := by
  intro vs zs H Q l aa
  obtain ⟨x, y, e, σ', π, h, d, dy, M, rd, ry, P⟩ := rAn2 (g := opSortr) (fun ds h q => evP2 rfl q) (fun _ _ _ => rfl) aa
  obtain ⟨rfl, rfl⟩ := app_two e l
  unfold opSortr at P
  split at P
  · split at P
    · rename_i ns hl
      cases ry
      obtain ⟨a, rfl, sq⟩ := ints_sq M rd hl
      rw [hK] at sq
      refine ⟨a, ns, rfl, rfl, sq, fun ns' p h1 h2 h3 => ?_⟩
      have h2 : ns'.Pairwise (· ≥ ·) := by simpa [OrdB] using h2
      have e : ns' = (sortI ns).reverse := by
        have h4 : ns'.reverse.Pairwise (· ≤ ·) := by rw [List.pairwise_reverse]; exact h2
        have := PySem.W.ksm_same ((List.reverse_perm ns').trans (h1.trans (sortI_perm ns).symm)) h4 (sortI_sorted ns)
        rw [← this, List.reverse_reverse]
      rw [e]
      exact post_new M (Reps.ints _) h3 P
    · exact P.elim
  · exact P.elim
theorem alike_one (l : List Int) : PySem.W.AlikeAll (l.map PyData.int) := by
  refine ⟨fun x hx y hy => ?_, fun x hx => ?_⟩
  · obtain ⟨a, _, rfl⟩ := List.mem_map.mp hx
    obtain ⟨b, _, rfl⟩ := List.mem_map.mp hy
    rfl
  · obtain ⟨i, _, rfl⟩ := List.mem_map.mp hx
    intro e; cases e
/-- max(xs, default=d) -/
theorem cr_maxd (hK : G.K = X.K) (hu : X.A.units + 64 < cLine) (hc : X.calm = true) : CallRK X (.builtin "max") [Str.ofString "default"] (fun vs zs H Q => zs.length = 1 ∧ rAn G W (evP .maxd) (vs ++ zs) H Q) := by
  intro pins s σ H vs zs us ws Q I r rz h
  obtain ⟨l, aa⟩ := h
  obtain ⟨x, y, e, σ', π, h, d, dy, M, rd, ry, P⟩ := rAn2 (g := opMaxd) (fun ds h q => evP2 rfl q) (fun _ _ _ => rfl) aa
  obtain ⟨rfl, rfl⟩ := app_two e l
  obtain ⟨w1, rfl, e1⟩ := vals1 rz
  have go : ∀ ns, (lstOf h d).bind intsOf = some ns → (ns = [] → Q y H) → (∀ n r, ns = n :: r → Q (.int (maxI r n)) H) → wpAny (model X.prog X.w) X.A (call (.builtin "max") us [(Str.ofString "default", w1)]) (EP X pins σ Q) X.xe s := by
    intro ns hl q0 q1
    obtain ⟨a, rfl, sq⟩ := ints_sq M rd hl
    rw [hK] at sq
    obtain ⟨its, rv, p, hz⟩ := I.list sq
    obtain ⟨as, ra⟩ := Dp.readsAll I _ _ its (dp_ints ns) rv
    rw [Vals.ref1 r]
    refine PySem.W.max_list_default (xs := ns.map PyData.int) (I.ok.hd hc) p.isList (by simpa using ra) (alike_one ns) ?_ (fun h0 h' tk k => ⟨y, H, I.kept k, e1, q0 (by simpa using h0)⟩) fun z zr i v h' tk bs ez hv rr k => ?_
    · rw [PySem.W.depth_ints]; omega
    · cases ns with
      | nil => simp at ez
      | cons n r =>
        rw [List.map_cons, List.cons.injEq] at ez
        obtain ⟨rfl, rfl⟩ := ez
        rw [PySem.W.maxD_ints, ← maxI_fold] at rr
        cases rr
        exact ⟨.int _, H, I.kept k, ⟨_, rfl⟩, q1 n r rfl⟩
  unfold opMaxd at P
  split at P
  · rename_i n ns hl
    refine go _ hl (fun e => by cases e) fun m r e => ?_
    cases e
    exact post_pure M (.int _) P
  · rename_i hl
    exact go _ hl (fun _ => post_pure M ry P) fun m r e => by cases e
  · exact P.elim
variable {P : Pg} {w k : Nat} {nm : Nm} {N : List Str} {sc : Scope}
/-- a built-in called with keywords -/
theorem e_bltK {x : Str} {id : String} {p : Pm} {e : Expr} {es : List Expr} {kws : List Keyword} {p0 pos : Pos} {a b : E} {c : Nat → List D → Hm → Z.R} {ks : List Str} {r : List V → List V → Hp → VK → Prop} (hc : CallRK X (.builtin id) ks r) (hr : ∀ vs zs H Q, zs.length = ks.length → rAn G W (evP p) (vs ++ zs) H Q → r vs zs H Q)
    (hg : Gl X x) (hm : X.mg x = none) (hv : bootBuiltins x = some (.builtin id)) (ha : PA X (e :: es) (TAv G W (evE c a))) (hb : PK X kws (TAv G W (evE c b))) (hlen : b.lenC = some ks.length) (hkn : kws.map (·.arg) = ks.map some) (hn : x ≠ "__name__") (hdb : (x == ("__debug__" : Str)) = false)
    (he : starEach (e :: es) X.env = (false, eval e X.env) :: starEach es X.env) (hst : starEach (e :: es) X.env = (e :: es).map fun e => (false, eval e X.env)) :
    PE X (.Call (.Name x p0) (e :: es) kws pos) (TEv G W (evE c (.prim p (.app a b)))) := by
  have h1 : (backToKw pos (keywordEach kws X.env)).map (·.1) = ks.map some := by
    rw [kw_each, ← hkn]
    unfold backToKw
    simp
  have e1 : (backToKw pos (keywordEach kws X.env)).all (·.1.isSome) = true := by
    have : (backToKw pos (keywordEach kws X.env)).all (·.1.isSome) = ((backToKw pos (keywordEach kws X.env)).map (·.1)).all (·.isSome) := by rw [List.all_map]; rfl
    rw [this, h1]
    simp
  have e2 : (backToKw pos (keywordEach kws X.env)).filterMap (·.1) = ks := by
    have : (backToKw pos (keywordEach kws X.env)).filterMap (·.1) = ((backToKw pos (keywordEach kws X.env)).map (·.1)).filterMap (fun z => z) := by rw [List.filterMap_map]; rfl
    rw [this, h1, List.filterMap_map]
    exact List.filterMap_some
  have e3 : (backToKw pos (keywordEach kws X.env)).any (·.1.isNone) = false := by
    have : (backToKw pos (keywordEach kws X.env)).any (·.1.isNone) = ((backToKw pos (keywordEach kws X.env)).map (·.1)).any (·.isNone) := by rw [List.any_map]; rfl
    rw [this, h1]
    simp
  refine pe_imp (pe_callBK hc hg hm hv ha hb hn hdb (by show backTo pos _ = _; rw [he]; rfl) (by rw [star_any hst]) e1 e3 e2) fun σ H Q ⟨ρ, π, h, E, M, q⟩ => ⟨ρ, π, h, E, M, ?_⟩
  have q : Post G W σ H π (onArgs ((evE c a ρ h).bind fun ds h1 => match ds with | .tup xs => ((evE c b ρ h1).bind fun es h2 => match es with | .tup ys => .ok (.tup (xs ++ ys)) h2 | _ => .bad) | _ => .bad) (evP p)) fun _ _ v H' _ => Q v H' := by
    rw [ev_args] at q; simp only [evE] at q; exact q
  refine (PostA.tail (f := fun ρ h1 => evE c b ρ h1) (h := h) q).imp fun ds h1 vs H1 π1 _ ex1 px1 M1 R1 p1 => ⟨ρ, π1, h1, E.mono ex1 px1, M1, p1.imp fun es h2 zs H2 π2 er ex2 px2 M2 R2 p2 => ?_⟩
  have lz : zs.length = ks.length := by rw [← R2.length]; exact lenC_ok hlen er
  exact hr vs zs H2 Q lz ⟨σ, π2, h2, ds ++ es, M2, (R1.mono ex2 px2).append R2, p2⟩
end Z

set_option Elab.async false
set_option linter.all false
set_option maxRecDepth 100000
set_option maxHeartbeats 4000000
namespace Z
open PySem PySem.Spec PyProof.Rows L2
section
variable {P : Pg} {nm : Nm} {N : List Str} {sc : Scope} {hot : Option Nat} {w k : Nat} {G : Gx} {W : WX} {X : Cx}

/-- isinstance(e, T), T a built-in class -/
theorem e_isi {T : Str} {p : Pm} {C : String} {a : Expr} {p1 p2 pos : Pos} {ea : E} {c : Nat → List D → Hm → Z.R} (o : OkE P w k nm N sc hot G W X) (hk : kindOf T = some (p, C)) (hg : sc.names.lookup ("isinstance" : Str) = some .globalImplicit) (hT : sc.names.lookup T = some .globalImplicit)
    (ha : PE X a (TEv G W (evE c ea))) (hs : noStar a = true) : PE X (.Call (.Name "isinstance" p1) [a, .Name T p2] [] pos) (TEv G W (evE c (.prim p (.cons ea .nil)))) := by
  obtain ⟨h1, h2, h3, h4, h5, h6⟩ := kind_cases hk
  refine pe_imp (pe_callB call_isi (o.gl hg) (o.blt _ (by decide +kernel)) (by decide +kernel) (pa_cons ha (pa_cons (pe_bltn (v := .ty C) (o.gl hT) (o.blt T h2) h1 rfl h3 h4) pa_nil (by rfl)) (star_cons hs)) (by decide +kernel) (by decide +kernel) (star_cons hs) (by rfl)) fun σ H Q ⟨ρ, π, h, E, M, q⟩ => ⟨ρ, π, h, E, M, ?_⟩
  rw [ev_prim1] at q
  refine q.bind.imp fun d m v H1 π1 _ _ _ M1 R1 q => ?_
  rw [h6] at q
  unfold isKind at q
  split at q
  · rename_i b hb
    obtain ⟨ni, hb⟩ := kG_ok hb
    obtain ⟨t1, t2⟩ := isi_read o.hK M1 R1 ni h5 hb
    exact ⟨v, .ty C, _, _, b, rfl, .ty C, t1, t2, post_pure M1 (.bl b) q⟩
  · exact q.elim
/-- isinstance(e, (list, tuple)) -/
theorem e_isi2 {a : Expr} {p1 p2 p3 p4 pos : Pos} {kk : Nat} {ea : E} {c : Nat → List D → Hm → Z.R} (o : OkE P w k nm N sc hot G W X) (hg : sc.names.lookup ("isinstance" : Str) = some .globalImplicit) (hL : sc.names.lookup ("list" : Str) = some .globalImplicit) (hT : sc.names.lookup ("tuple" : Str) = some .globalImplicit)
    (ha : PE X a (TEv G W (evE c ea))) (hs : noStar a = true) : PE X (.Call (.Name "isinstance" p1) [a, .Tuple [.Name "list" p2, .Name "tuple" p3] kk p4] [] pos) (TEv G W (evE c (.prim .isseq (.cons ea .nil)))) := by
  have l1 := kind_cases (x := "list") (p := .islist) (C := "list") (by kernel_rfl)
  have l2 := kind_cases (x := "tuple") (p := .istup) (C := "tuple") (by kernel_rfl)
  refine pe_imp (pe_callB call_isiT (o.gl hg) (o.blt _ (by decide +kernel)) (by decide +kernel) (pa_cons ha (pa_cons (pe_tup (pa_cons (pe_bltn (v := .ty "list") (o.gl hL) (o.blt _ l1.2.1) l1.1 rfl l1.2.2.1 l1.2.2.2.1)
    (pa_cons (pe_bltn (v := .ty "tuple") (o.gl hT) (o.blt _ l2.2.1) l2.1 rfl l2.2.2.1 l2.2.2.2.1) pa_nil (by rfl)) (by rfl))) pa_nil (by rfl)) (star_cons hs)) (by decide +kernel) (by decide +kernel) (star_cons hs) (by rfl)) fun σ H Q ⟨ρ, π, h, E, M, q⟩ => ⟨ρ, π, h, E, M, ?_⟩
  rw [ev_prim1] at q
  refine q.bind.imp fun d m v H1 π1 _ _ _ M1 R1 q => ⟨by decide +kernel, fun tp htp => ?_⟩
  change Post G W σ H1 π1 (isKind (kSeq m) d m) _ at q
  unfold isKind at q
  split at q
  · rename_i b hb
    obtain ⟨ni, hb⟩ := kG_ok hb
    unfold kSeq at hb
    split at hb
    · rename_i b1 b2 hb1 hb2
      cases hb
      obtain ⟨t1, t2⟩ := isi_read o.hK M1 R1 ni (C := "list") (by decide) hb1
      obtain ⟨t3, t4⟩ := isi_read o.hK M1 R1 ni (C := "tuple") (by decide) hb2
      have e1 : Ext H1 (upd H1 tp (.tup [.ty "list", .ty "tuple"])) := .new htp
      have M2 : HmOk G (upd H1 tp (.tup [.ty "list", .ty "tuple"])) π1 m := M1.ext_new htp
      have R2 := R1.mono e1 (List.prefix_refl _)
      obtain ⟨t1, _⟩ := isi_read o.hK M2 R2 ni (C := "list") (by decide) hb1
      refine ⟨v, tp, [.ty "list", .ty "tuple"], _, [.type "list", .type "tuple"], b1 || b2, rfl, upd_same, .cons (.ty _) (.cons (.ty _) .nil), t1, ?_, post_pure M2 (.bl _) (Post.weak e1 (List.prefix_refl _) q)⟩
      refine kitAny_cons t2 (fun z => ?_) (fun z => by simp [z])
      refine kitAny_cons t4 (fun z2 => ?_) (fun z2 => by simp [z2])
      subst z; subst z2; rfl
    · cases hb
  · exact q.elim

/-! #### comprehensions -/
theorem e_lc {elt tg iter : Expr} {ifs : List Expr} {scope : Scope} {own : List (Str × Nat)} {pos : Pos} {src : Src} {g : TG} {weak : Bool} {t : Tg} {ea ec ee : E} {c : Nat → List D → Hm → Z.R} (o : OkE P w k nm N sc none G W X)
    (hi : PI X tg iter (TIv G W weak (evE c ea) src)) (ok : BlkOk N X.env.scope scope own) (hg : ∀ X', OkE P w k nm N scope none G W0 X' → PG X' tg g) (hgo : TgOk X G weak t g) (hsl : ∀ i ∈ t.slots, i ∈ own.map (·.2))
    (ht : ∀ X', OkE P w k nm N scope none G W0 X' → PTs X' ifs (TTv G W0 (evE c ec))) (he : ∀ X', OkE P w k nm N scope none G W0 X' → PE X' elt (TEv G W0 (evE c ee))) (hs : ∀ x, foldedSetIterable iter X.env x = pure x) :
    PE X (.ListComp elt [⟨tg, iter, ifs, 0⟩] scope pos) (TEv G W (evE c (.comp (own.map (·.2)) src ea t ec ee))) := by
  refine pe_imp (pe_lc (o.calm rfl) (by rw [o.hN]; exact o.nd) hi (by rw [o.hN]; exact ok) (fun s H C cl fp => hg _ (o.blk ok s H C cl fp)) (fun s H C cl fp => ht _ (o.blk ok s H C cl fp)) (fun s H C cl fp => he _ (o.blk ok s H C cl fp)) hs) fun σ H Q ⟨ρ, π, h, E, M, q⟩ => ?_
  refine lc_read (o.gex rfl) hgo hsl ⟨ρ, π, h, E, M, ?_⟩
  simp only [evE] at q
  exact q
theorem s_lc {elt tg iter : Expr} {ifs : List Expr} {scope : Scope} {own : List (Str × Nat)} {pos spos py : Pos} {y : Str} {i : Nat} {src : Src} {g : TG} {weak : Bool} {t : Tg} {ea ec ee : E} {c : Nat → List D → Hm → Z.R} (o : OkE P w k nm N sc none G W X)
    (hy : N[i]? = some y) (hyl : X.env.scope.names.lookup y = some .local) (hsw : swapsWith (.ListComp elt [⟨tg, iter, ifs, 0⟩] scope pos) (some (.Name y py)) spos.line X.env = pure true)
    (hi : PI X tg iter (TIv G W weak (evE c ea) src)) (ok : BlkOk N X.env.scope scope own) (hg : ∀ X', OkE P w k nm N scope none G W0 X' → PG X' tg g) (hgo : TgOk X G weak t g) (hsl : ∀ i ∈ t.slots, i ∈ own.map (·.2))
    (ht : ∀ X', OkE P w k nm N scope none G W0 X' → PTs X' ifs (TTv G W0 (evE c ec))) (he : ∀ X', OkE P w k nm N scope none G W0 X' → PE X' elt (TEv G W0 (evE c ee))) (hs : ∀ x, foldedSetIterable iter X.env x = pure x) :
    PS X (.Assign [.Name y py] (.ListComp elt [⟨tg, iter, ifs, 0⟩] scope pos) spos) (tAsg (TEv G W (evE c (.comp (own.map (·.2)) src ea t ec ee))) (gName i)) := by
  have q := ps_setLc (X := X) (i := i) (o.calm rfl) (by rw [o.hN]; exact o.nd) (by rw [o.hN]; exact hy) hyl hsw hi (by rw [o.hN]; exact ok) (fun s H C cl fp => hg _ (o.blk ok s H C cl fp)) (fun s H C cl fp => ht _ (o.blk ok s H C cl fp)) (fun s H C cl fp => he _ (o.blk ok s H C cl fp)) hs
  refine ⟨fun pins s σ H D I z => q.run pins s σ H D I ?_⟩
  obtain ⟨ρ, π, h, E, M, q⟩ := z
  refine lc_read (o.gex rfl) hgo hsl ⟨ρ, π, h, E, M, ?_⟩
  simp only [evE] at q
  exact q

/-! #### the certified reading of an expression -/
/-- a target that is a tuple -/
def isTupE : Expr → Bool
  | .Tuple .. => true
  | _ => false
theorem isTupE_ok {e : Expr} (h : isTupE e = true) : ∃ es kk pos, e = .Tuple es kk pos := by
  cases e <;> first | exact ⟨_, _, _, rfl⟩ | cases h
structure CI (P : Pg) (nm : Nm) (N : List Str) (sc : Scope) (iter : Expr) where
  src : Src
  ea : E
  weak : Bool
  pi : ∀ w k G W X tg, (weak = true → isTupE tg = true) → OkE P w k nm N sc none G W X → PI X tg iter (TIv G W weak (evE (callF P w k) ea) src)
  fold : ∀ env x, foldedSetIterable iter env x = pure x
/-- a target of names, for the weak items or not -/
structure CG (P : Pg) (nm : Nm) (N : List Str) (sc : Scope) (weak : Bool) (tg : Expr) where
  t : Tg
  g : PySem.W.Frag → TG
  pg : ∀ w k G W X, OkE P w k nm N sc none G W X → PG X tg (g X.K)
  ok : ∀ X G, G.K = X.K → TgOk X G weak t (g X.K)
/-- a name's slot, to be stored -/
def slotOf (N : List Str) (sc : Scope) (x : Str) : Option {i : Nat // N[i]? = some x ∧ (sc.names.lookup x = some .local ∨ sc.names.lookup x = some .cell)} :=
  let i := N.findIdx (· == x)
  if h : N[i]? = some x ∧ (sc.names.lookup x = some .local ∨ sc.names.lookup x = some .cell) then some ⟨i, h⟩ else none
theorem g_name {x : Str} {i : Nat} {pos : Pos} (o : OkE P w k nm N sc hot G W X) (h : N[i]? = some x ∧ (sc.names.lookup x = some .local ∨ sc.names.lookup x = some .cell)) : PG X (.Name x pos) (gName i) :=
  pg_name (by rw [o.hN]; exact o.nd) (by rw [o.hN]; exact h.1) (o.loc h.2) (o.sto x h.2)
def cG (weak : Bool) (tg : Expr) : Option (CG P nm N sc weak tg) := match tg with
  | .Name x pos => match weak with
    | false => match slotOf N sc x with
      | some i => some ⟨.name i.1, fun _ => gName i.1, fun w k G W X o => g_name o i.2, fun X G hK => tg_name⟩
      | none => none
    | true => none
  | .Tuple [.Name x p1, .Name y p2] kk pos => match slotOf N sc x, slotOf N sc y with
    | some i, some j => some ⟨.tup2 i.1 j.1, fun K => gTup K 2 (gCons (gName i.1) (gCons (gName j.1) gNil)), fun w k G W X o => pg_tup (o.calm rfl) (pgs_cons (g_name o i.2) (pgs_cons (g_name o j.2) pgs_nil)), fun X G hK => tg_tup2 hK⟩
    | _, _ => none
  | .Tuple [.Name x p1, .Name y p2, .Name z p3] kk pos => match slotOf N sc x, slotOf N sc y, slotOf N sc z with
    | some i, some j, some l => some ⟨.tup3 i.1 j.1 l.1, fun K => gTup K 3 (gCons (gName i.1) (gCons (gName j.1) (gCons (gName l.1) gNil))), fun w k G W X o => pg_tup (o.calm rfl) (pgs_cons (g_name o i.2) (pgs_cons (g_name o j.2) (pgs_cons (g_name o l.2) pgs_nil))), fun X G hK => tg_tup3 hK⟩
    | _, _, _ => none
  | .Tuple [.Name x p1, .Name y p2, .Name z p3, .Name u p4] kk pos => match slotOf N sc x, slotOf N sc y, slotOf N sc z, slotOf N sc u with
    | some i, some j, some l, some m => some ⟨.tup4 i.1 j.1 l.1 m.1, fun K => gTup K 4 (gCons (gName i.1) (gCons (gName j.1) (gCons (gName l.1) (gCons (gName m.1) gNil)))), fun w k G W X o => pg_tup (o.calm rfl) (pgs_cons (g_name o i.2) (pgs_cons (g_name o j.2) (pgs_cons (g_name o l.2) (pgs_cons (g_name o m.2) pgs_nil)))), fun X G hK => tg_tup4 hK⟩
    | _, _, _, _ => none
  | _ => none
/-- the receivers whose attribute is just read off their value -/
def baseOk : Expr → Bool
  | .Call (.Name _ _) [] [] _ => false
  | _ => true
theorem base_ok {o : Expr} (h : baseOk o = true) (name : Str) (env : Env) (whole : Sem Value) : attributeBase o name env whole = whole := by
  unfold attributeBase
  split
  · cases h
  · rfl
def plainIx (b : Expr) : Option (PLift (PlainIx b)) := match b with
  | .Slice .. => none
  | .BoolOp .. => some ⟨fun _ _ => rfl⟩ | .BinOp .. => some ⟨fun _ _ => rfl⟩ | .UnaryOp .. => some ⟨fun _ _ => rfl⟩ | .IfExp .. => some ⟨fun _ _ => rfl⟩ | .Compare .. => some ⟨fun _ _ => rfl⟩
  | .Call .. => some ⟨fun _ _ => rfl⟩ | .Constant .. => some ⟨fun _ _ => rfl⟩ | .Attribute .. => some ⟨fun _ _ => rfl⟩ | .Subscript .. => some ⟨fun _ _ => rfl⟩ | .Name .. => some ⟨fun _ _ => rfl⟩
  | _ => none
def noSet : Expr → Bool
  | .Set .. => false
  | _ => true
theorem fold_ok {e : Expr} (h : noSet e = true) (env : Env) (x : Value) : foldedSetIterable e env x = pure x := by
  unfold foldedSetIterable
  cases e <;> first | rfl | cases h
/-- an expression whose test is its value's truth -/
def plainTest (e : Expr) : Bool := match e with
  | .UnaryOp .Not _ _ => false | .BoolOp .. => false | .IfExp .. => false | .Compare .. => false | _ => true
theorem plainTest_ok {e : Expr} (h : plainTest e = true) (env : Env) (whole : Sem Value) : isTrue e env whole = (do let v ← whole; standAt e.pos; holding [v] (truthy v)) := by
  cases e with
  | UnaryOp op x pos => cases op <;> first | rfl | cases h
  | _ => first | rfl | cases h
/-- and, or: the values one after another -/
structure CB (P : Pg) (nm : Nm) (N : List Str) (sc : Scope) (hot : Option Nat) (e : Expr) where
  e' : E
  pe : ∀ w k G W X, OkE P w k nm N sc hot G W X → PE X e (TEv G W (evE (callF P w k) e'))
  pw : ∀ w k G W X, OkE P w k nm N sc hot G W X → PW X e (TTv G W (evE (callF P w k) e'))
end
end Z

set_option Elab.async false
set_option linter.all false
set_option maxRecDepth 100000
set_option maxHeartbeats 4000000
namespace Z
open PySem PySem.Spec PyProof.Rows L2
/-! #### exceptions -/
section
variable {X : Cx} {W : WX}
/-- X(), X an own exception class without own __init__ -/
theorem pmk_own0 {C : Addr} {bmB : List Value} {B newId initId : String} {x : Str} {p pos : Pos} (F : ExcBaseFacts B newId initId bmB) (q : PySem.W.excIn X.K C bmB newId = true) (gC : X.mg x = some (.ref C))
    (kC : PySem.W.keepIn X.K (.ref C) = true) (r : Raises X (.ref C)) (hg : Gl X x) (hdb : (x == ("__debug__" : Str)) = false) :
    PMk X (.Call (.Name x p) [] [] pos) (fun σ H Q => Q (.ref C) none H) := by
  intro pins s σ H Q I h
  refine wpAny_Call_Name_kw (ld_glob I hg gC ?_ hdb)
  refine PySem.W.callWith_K0 I.kIn kC ?_
  obtain ⟨bm, N, nm, qn, bs, hdct, sn, sub, ab, col, dd, k0, k1, k2, k3, k5, mN, hC, hN, hni, T⟩ := exc_obj I.kIn q
  refine wpAny_call_exc_subT (rest := []) F T hC hN hni (fun h' e hm => ?_) (by simp)
  exact L2N.mk_of I hm r h (I.hok.gone hm.new)
end
section
variable {P : Pg} {nm : Nm} {N : List Str} {sc : Scope} {hot : Option Nat} {w k : Nat} {G : Gx} {W : WX} {X : Cx}
variable {c : Nat → List D → Hm → Z.R} {sub : Str → Str → Bool}
theorem XdOk.new {H : Hp} {d : Option Addr} {p : Addr} {o : HO} (x : XdOk H d) (hp : H p = none) : XdOk (upd H p o) d := by
  rcases x with h | ⟨dd, gs, h1, h2⟩
  · exact .inl h
  · exact .inr ⟨dd, gs, h1, by rw [upd_ne (ne_of_none h2 hp)]; exact h2⟩
/-- the exception's name in its suite -/
theorem ex_at {i : Nat} {H : Hp} {π : List Addr} {ρ : Env'} {σ : L2.St} {a : Addr} {cn : Str} {d : Option Addr} {x : Str} {fs : List Str} {ds : List D} (E : EnvOk G H π ρ σ) (hx : G.ex = some (i, a, cn, d)) (hr : ρ[i]? = some (some (.xv x fs ds))) :
    σ[i]? = some (some (.ref a)) ∧ x = cn ∧ XFields G H π fs ds d := by
  obtain ⟨h1, fs', ds', h2, h3⟩ := E.held i a cn d hx
  rw [hr] at h2
  cases h2
  exact ⟨h1, rfl, h3⟩
/-- the classes that a test names -/
structure Cl where
  es : List Expr
  ok : ∀ e ∈ es, ∃ x p, e = .Name x p
theorem x_is1 {n T : Str} {i : Nat} {p1 p2 p3 pos : Pos} {cs : List Str} (o : OkE P w k nm N sc (some i) G W X) (hn : N[i]? = some n) (hv : sc.names.lookup n = some .local ∨ sc.names.lookup n = some .cell ∨ sc.names.lookup n = some .free) (hd : (n == ("__debug__" : Str)) = false) (hcd : (n == ("__classdict__" : Str)) = false)
    (hg : sc.names.lookup ("isinstance" : Str) = some .globalImplicit) (hT : sc.names.lookup T = some .globalImplicit) (hdT : (T == ("__debug__" : Str)) = false) (hk : T ∈ nm.exc.map (·.1) ∨ T = ("ValueError" : Str)) (hcs : cs = (nm.exc.map (·.1)).filter fun z => P.sub z T) :
    PE X (.Call (.Name "isinstance" p1) [.Name n p2, .Name T p3] [] pos) (TEv G W (evE c (.xis i cs))) := by
  have hvar : PE X (.Name n p2) (tVar i) := pe_var (by rw [o.hN]; exact hn) (o.vis hv) hd hcd
  have hcls : ∃ cv u, PE X (.Name T p3) (tC cv) ∧ RelV cv u ∧ (∀ u', RelV cv u' → u' = u) ∧ ∀ z D, z ∈ nm.exc.map (·.1) → X.mg z = some (.ref D) → PySem.W.kitOne X.K (.ref D) u = some (P.sub z T) := by
    rcases hk with hk | rfl
    · obtain ⟨⟨T', fs⟩, h1, h2⟩ := List.mem_map.mp hk
      cases h2
      obtain ⟨C, hm, _⟩ := o.xn _ fs h1
      exact ⟨.ref C, .ref C, pe_glob (o.gl hT) hm rfl hdT, rfl, fun _ z => z, fun z D hz hD => (o.xk z _ D C hz hk hD hm).1⟩
    · exact ⟨.ty "ValueError", .type "ValueError", pe_bltn (o.gl hT) o.xb.1 (by decide +kernel) rfl (by decide +kernel) (by decide +kernel), rfl, fun _ z => z, fun z D hz hD => o.xb.2 z D hz hD⟩
  obtain ⟨cv, u, hcv, hr, hru, hkit⟩ := hcls
  refine ⟨fun pins s σ H Q I ⟨ρ, π, h, E, M, q⟩ => ?_⟩
  simp only [evE] at q
  split at q
  · rename_i x _ _ hx
    obtain ⟨a, oe, cn, d, D, hex, hmem, hD, hot1, hpn, hz⟩ := o.hq i rfl (List.getElem?_eq_some_iff.mp hn).1
    obtain ⟨h1, rfl, h3⟩ := ex_at E hex hx
    obtain ⟨⟨T', fsT⟩, z1, z2⟩ := List.mem_map.mp hmem
    have z2 : T' = x := z2
    subst z2
    obtain ⟨D', hD', xc, _⟩ := o.xn _ fsT z1
    have eD : D' = D := by rw [hD'] at hD; exact Value.ref.inj (Option.some.inj hD)
    subst eD
    have hcall := call_isX hpn xc hz (let ⟨vs, hv, _⟩ := hot1.2; ⟨vs, hv⟩)
    have hin : PE X (.Call (.Name "isinstance" p1) [.Name n p2, .Name T p3] [] pos) _ := pe_callB hcall (o.gl hg) (o.blt _ (by decide +kernel)) (by decide +kernel) (pa_cons hvar (pa_cons hcv pa_nil (by rfl)) (by rfl)) (by decide +kernel) (by decide +kernel) (by rfl) (by rfl)
    refine hin.run pins s σ H Q I ⟨.ref a, h1, h3.xd, .inl ⟨cv, u, P.sub T' T, rfl, hru, hkit T' D' hmem hD, ?_⟩⟩
    have e : cs.contains T' = P.sub T' T := by
      subst hcs
      rw [Bool.eq_iff_iff, List.contains_iff_mem, List.mem_filter]
      exact ⟨fun z => z.2, fun z => ⟨hmem, z⟩⟩
    rw [← e]
    exact post_pure M (.bl _) q
  · exact q.elim
/-- isinstance(e, (A, B, ..)) -/
theorem pa_cls (o : OkE P w k nm N sc hot G W X) : ∀ (es : List Expr) (ts : List Str), es.length = ts.length → (∀ q ∈ es.zip ts, ∃ p, q.1 = .Name q.2 p) → (∀ T ∈ ts, sc.names.lookup T = some .globalImplicit ∧ (T == ("__debug__" : Str)) = false ∧ T ∈ nm.exc.map (·.1)) →
    ∃ cs us, PA X es (fun _ H Q => Q cs H) ∧ Paired ClsV cs us ∧ cs.length = es.length ∧ ∀ z D, z ∈ nm.exc.map (·.1) → X.mg z = some (.ref D) → PySem.W.kitAny X.K (.ref D) us = some (ts.any fun T => P.sub z T)
  | [], [], _, _, _ => ⟨[], [], pa_nil, .nil, rfl, fun _ _ _ _ => rfl⟩
  | e :: es, T :: ts, hl, hz, ht => by
    obtain ⟨cs, us, h1, h2, h4, h3⟩ := pa_cls o es ts (by simpa using hl) (fun q hq => hz q (List.mem_cons_of_mem _ hq)) fun T hT => ht T (List.mem_cons_of_mem _ hT)
    obtain ⟨p, rfl⟩ : ∃ p, e = .Name T p := hz (e, T) (by simp)
    obtain ⟨g1, g2, g3⟩ := ht T List.mem_cons_self
    obtain ⟨fs, z1⟩ : ∃ fs, (T, fs) ∈ nm.exc := by
      obtain ⟨⟨T', fs⟩, z1, z2⟩ := List.mem_map.mp g3
      exact ⟨fs, z2 ▸ z1⟩
    obtain ⟨C, hm, _⟩ := o.xn _ fs z1
    have hcv : PE X (.Name T p) (tC (.ref C)) := pe_glob (o.gl g1) hm rfl g2
    refine ⟨.ref C :: cs, .ref C :: us, ⟨(pa_cons hcv h1 (by rfl)).run⟩, .cons (.own C) h2, by simp [h4], fun z D hzm hD => ?_⟩
    have q := (o.xk z T D C hzm g3 hD hm).1
    have r := h3 z D hzm hD
    refine kitAny_cons q (fun e => ?_) fun e => ?_
    · rw [r]; simp [e]
    · simp [e]
  | [], _ :: _, hl, _, _ => by simp at hl
  | _ :: _, [], hl, _, _ => by simp at hl
theorem x_is2 {n : Str} {i kk : Nat} {p1 p2 p3 pos : Pos} {cs : List Str} {es : List Expr} {ts : List Str} (o : OkE P w k nm N sc (some i) G W X) (hn : N[i]? = some n) (hv : sc.names.lookup n = some .local ∨ sc.names.lookup n = some .cell ∨ sc.names.lookup n = some .free) (hd : (n == ("__debug__" : Str)) = false) (hcd : (n == ("__classdict__" : Str)) = false)
    (hg : sc.names.lookup ("isinstance" : Str) = some .globalImplicit) (hl : es.length = ts.length) (hz : ∀ q ∈ es.zip ts, ∃ p, q.1 = .Name q.2 p) (ht : ∀ T ∈ ts, sc.names.lookup T = some .globalImplicit ∧ (T == ("__debug__" : Str)) = false ∧ T ∈ nm.exc.map (·.1)) (hs : es.length ≤ 1000)
    (hcs : cs = (nm.exc.map (·.1)).filter fun z => ts.any fun T => P.sub z T) :
    PE X (.Call (.Name "isinstance" p1) [.Name n p2, .Tuple es kk p3] [] pos) (TEv G W (evE c (.xis i cs))) := by
  have hvar : PE X (.Name n p2) (tVar i) := pe_var (by rw [o.hN]; exact hn) (o.vis hv) hd hcd
  obtain ⟨vs, us, h1, h2, h4, h3⟩ := pa_cls o es ts hl hz ht
  refine ⟨fun pins s σ H Q I ⟨ρ, π, h, E, M, q⟩ => ?_⟩
  simp only [evE] at q
  split at q
  · rename_i x _ _ hx
    obtain ⟨a, oe, cn, d, D, hex, hmem, hD, hot1, hpn, hz⟩ := o.hq i rfl (List.getElem?_eq_some_iff.mp hn).1
    obtain ⟨k1, rfl, k3⟩ := ex_at E hex hx
    obtain ⟨⟨T', fsT⟩, z1, z2⟩ := List.mem_map.mp hmem
    have z2 : T' = x := z2
    subst z2
    obtain ⟨D', hD', xc, _⟩ := o.xn _ fsT z1
    have eD : D' = D := by rw [hD'] at hD; exact Value.ref.inj (Option.some.inj hD)
    subst eD
    have hcall := call_isX hpn xc hz (let ⟨vs, hv, _⟩ := hot1.2; ⟨vs, hv⟩)
    have hin : PE X (.Call (.Name "isinstance" p1) [.Name n p2, .Tuple es kk p3] [] pos) _ := pe_callB hcall (o.gl hg) (o.blt _ (by decide +kernel)) (by decide +kernel) (pa_cons hvar (pa_cons (pe_tup h1) pa_nil (by rfl)) (by rfl)) (by decide +kernel) (by decide +kernel) (by rfl) (by rfl)
    refine hin.run pins s σ H Q I ⟨.ref a, k1, by rw [h4, sizeLine_eq]; omega, fun tp htp => ⟨XdOk.new k3.xd htp, .inr ⟨tp, vs, us, ts.any fun T => P.sub T' T, rfl, upd_same, h2, h3 T' D' hmem hD, ?_⟩⟩⟩
    have e : cs.contains T' = ts.any fun T => P.sub T' T := by
      subst hcs
      rw [Bool.eq_iff_iff, List.contains_iff_mem, List.mem_filter]
      exact ⟨fun z => z.2, fun z => ⟨hmem, z⟩⟩
    rw [← e]
    exact post_pure (M.ext_new htp) (.bl _) (Post.weak (.new htp) (List.prefix_refl _) q)
  · exact q.elim
/-- e.f, e the exception that is held -/
theorem lookup_zip {H : Hp} {π : List Addr} {f : Str} : ∀ {fs : List Str} {ds : List D} {gs : List (Str × V)} {d : D}, gs.map (·.1) = fs → Reps G H π ds (gs.map (·.2)) → (fs.zip ds).lookup f = some d → ∃ v, gs.lookup f = some v ∧ Rep G H π d v
  | _, _, [], _, e, _, h => by simp at e; subst e; simp at h
  | _, _, (g, v) :: gs, d, e, r, h => by
    cases r with
    | @cons d0 _ ds _ r1 r2 =>
      simp only [List.map_cons] at e
      subst e
      rw [List.zip_cons_cons, List.lookup_cons] at h
      rw [List.lookup_cons]
      split at h
      · rename_i hq
        cases h
        exact ⟨v, rfl, r1⟩
      · rename_i hq
        exact lookup_zip rfl r2 h
theorem x_fld {n f : Str} {i : Nat} {p1 pos : Pos} (o : OkE P w k nm N sc (some i) G W X) (hn : N[i]? = some n) (hv : sc.names.lookup n = some .local ∨ sc.names.lookup n = some .cell ∨ sc.names.lookup n = some .free) (hd : (n == ("__debug__" : Str)) = false) (hcd : (n == ("__classdict__" : Str)) = false)
    (hb : attributeBase (.Name n p1) f X.env (eval (.Name n p1) X.env) = eval (.Name n p1) X.env) (hf : f ∈ nm.xat) :
    PE X (.Attribute (.Name n p1) f pos) (TEv G W (evE c (.xfld i f))) := by
  have hvar : PE X (.Name n p1) (tVar i) := pe_var (by rw [o.hN]; exact hn) (o.vis hv) hd hcd
  refine ⟨fun pins s σ H Q I ⟨ρ, π, h, E, M, q⟩ => ?_⟩
  simp only [evE] at q
  split at q
  · rename_i x fs ds hx
    split at q
    · rename_i y hy
      obtain ⟨a, oe, cn, d, D, hex, hmem, hD, hot1, hpn, hz⟩ := o.hq i rfl (List.getElem?_eq_some_iff.mp hn).1
      have hn' := hex
      obtain ⟨h1, fs', ds', h2, h3⟩ := E.held i a cn d hex
      rw [hx] at h2
      cases h2
      obtain ⟨⟨T', fsT⟩, z1, z2⟩ := List.mem_map.mp hmem
      have z2 : T' = x := z2
      subst z2
      obtain ⟨D', hD', xc, _⟩ := o.xn _ fsT z1
      have eD : D' = D := by rw [hD'] at hD; exact Value.ref.inj (Option.some.inj hD)
      subst eD
      rcases h3 with ⟨_, hfs, _⟩ | ⟨dd, gs, rfl, hg1, hg2, _, hg3⟩
      · subst hfs
        simp at hy
      · obtain ⟨v, hv1, hv2⟩ := lookup_zip hg2 hg3 hy
        exact (pe_xfP hpn xc (o.xa _ f D' hmem hf hD) hz (let ⟨vs, hv, _⟩ := hot1.2; ⟨vs, hv⟩) hvar hb).run pins s σ H Q I ⟨.ref a, h1, rfl, dd, gs, v, rfl, hg1, hv1, post_pure M hv2 q⟩
    · exact q.elim
  · exact q.elim
end
end Z

set_option Elab.async false
set_option linter.all false
set_option maxRecDepth 100000
set_option maxHeartbeats 4000000
namespace Z
open PySem PySem.Spec PyProof.Rows L2
section
variable {P : Pg} {nm : Nm} {N : List Str} {sc : Scope} {hot : Option Nat} {w k : Nat} {G : Gx} {W : WX} {X : Cx}
/-! #### what is done while an exception is handled -/
abbrev Gn (X : Cx) (nm : Nm) : Gx := ⟨X.K, X.mg, nm.exc.map (·.1), none, X.w⟩
/-- f(e), f a def of the text, e the exception that is held -/
theorem e_callX {x n : Str} {i j : Nat} {p0 p1 pos : Pos} (o : OkE P w k nm N sc (some i) G W X) (hn : N[i]? = some n) (hv : sc.names.lookup n = some .local ∨ sc.names.lookup n = some .cell ∨ sc.names.lookup n = some .free) (hd : (n == ("__debug__" : Str)) = false) (hcd : (n == ("__classdict__" : Str)) = false)
    (hx : (x, j, true) ∈ nm.hfs) (hg : sc.names.lookup x = some .globalImplicit) (hdb : (x == ("__debug__" : Str)) = false) :
    PE X (.Call (.Name x p0) [.Name n p1] [] pos) (TEv G W (evE (callF P w k) (.call j (.cons (.var i) .nil)))) := by
  obtain ⟨f, fd, ps, hm, hk, hb, F⟩ := o.hfs x j true hx
  obtain ⟨a, oe, cn, d, D, hex, hmem, hD, hot1, hpn, hz⟩ := o.hq i rfl (List.getElem?_eq_some_iff.mp hn).1
  have hvar : PE X (.Name n p1) (tVar i) := pe_var (by rw [o.hN]; exact hn) (o.vis hv) hd hcd
  refine pe_imp (pe_callX F ((o.roomH (by simp)).mono (by omega)) hot1 hpn (o.gl hg) hm hk hb (fun σ => passAt o.tk σ) (pa_cons hvar pa_nil (by rfl)) hdb (by rfl) (by rfl)) fun σ H Q ⟨ρ, π, h, E, M, q⟩ => ?_
  obtain ⟨h1, fs, ds, h2, h3⟩ := E.held i a cn d hex
  simp only [evE, h2, R.bind_ok] at q
  refine ⟨.ref a, h1, π, h, cn, fs, ds, d, D, rfl, M.conv o.hK o.hmg o.hw, h3.conv o.hK, hmem, hD, hz, ?_⟩
  exact Post.conv (G := G) (G' := Gn X nm) o.hK o.hmg o.hxs o.hw q (fun _ _ _ z => z) fun _ _ _ _ _ _ _ _ _ z => z
/-- f(..), f a def of the text -/
theorem e_callH {x : Str} {i j : Nat} {e : Expr} {es : List Expr} {p0 pos : Pos} {a : E} (o : OkE P w k nm N sc (some i) G W X) (hx : (x, j, false) ∈ nm.hfs) (hg : sc.names.lookup x = some .globalImplicit) (hdb : (x == ("__debug__" : Str)) = false)
    (ha : PA X (e :: es) (TAv G W (evE (callF P w k) a))) (he : starEach (e :: es) X.env = (false, eval e X.env) :: starEach es X.env) (hpl : (backTo pos (starEach es X.env)).any (·.1) = false) :
    PE X (.Call (.Name x p0) (e :: es) [] pos) (TEv G W (evE (callF P w k) (.call j a))) := by
  obtain ⟨f, fd, ps, hm, hk, hb, F⟩ := o.hfs x j false hx
  obtain ⟨p, hot1, hpn⟩ := o.hh (by simp)
  refine pe_imp (pe_callX F ((o.roomH (by simp)).mono (by omega)) hot1 hpn (o.gl hg) hm hk hb (fun σ => passAt o.tk σ) ha hdb he hpl) fun σ H Q ⟨ρ, π, h, E, M, q⟩ => ⟨ρ, π, h, E, M, ?_⟩
  have q : Post G W σ H π (onArgs (evE (callF P w k) a ρ h) (callF P w k j)) fun _ _ v H' _ => Q v H' := by
    simp only [evE] at q; exact q
  refine q.args.imp fun ds h1 vs H1 π1 _ _ _ M1 R1 p1 => ?_
  refine ⟨π1, h1, ds, M1.conv (G' := Gn X nm) o.hK o.hmg o.hw, R1.conv (G' := Gn X nm) o.hK, ?_⟩
  exact Post.conv (G := G) (G' := Gn X nm) o.hK o.hmg o.hxs o.hw p1 (fun _ _ _ z => z) fun _ _ _ _ _ _ _ _ _ z => z
def bltTabH : List ((Str × Nat) × Bl) := [(("len", 1), .fn "len" .len), (("abs", 1), .fn "abs" .abs), (("sorted", 1), .fn "sorted" .sorted), (("list", 1), .ty "list" .list), (("tuple", 1), .ty "tuple" .tuple), (("int", 1), .ty "int" .int)]
def bltOfH (x : Str) (n : Nat) : Option Bl := bltTabH.lookup (x, n)
theorem blt_okH (o : OkE P w k nm N sc hot G W X) {x : Str} {n : Nat} {b : Bl} (h : bltOfH x n = some b) : BlOk G W X x b := by
  have hm := mem_lk (l := bltTabH) h
  simp only [bltTabH, List.mem_cons, List.not_mem_nil, or_false, Prod.mk.injEq] at hm
  rcases hm with ⟨⟨rfl, _⟩, rfl⟩ | ⟨⟨rfl, _⟩, rfl⟩ | ⟨⟨rfl, _⟩, rfl⟩ | ⟨⟨rfl, _⟩, rfl⟩ | ⟨⟨rfl, _⟩, rfl⟩ | ⟨⟨rfl, _⟩, rfl⟩
  · exact ⟨c_len o.hK, by decide +kernel, by decide +kernel, by decide +kernel, by decide +kernel⟩
  · exact ⟨c_abs, by decide +kernel, by decide +kernel, by decide +kernel, by decide +kernel⟩
  · exact ⟨c_sorted o.hK, by decide +kernel, by decide +kernel, by decide +kernel, by decide +kernel⟩
  · exact ⟨c_list o.hK, by decide +kernel, by decide +kernel, by decide +kernel, by decide +kernel⟩
  · exact ⟨c_tuple o.hK, by decide +kernel, by decide +kernel, by decide +kernel, by decide +kernel⟩
  · exact ⟨c_int, by decide +kernel, by decide +kernel, by decide +kernel, by decide +kernel⟩
theorem e_bltH {x : Str} {n : Nat} {b : Bl} {e : Expr} {es : List Expr} {p0 pos : Pos} {a : E} {c : Nat → List D → Hm → Z.R} (o : OkE P w k nm N sc hot G W X) (h : bltOfH x n = some b) (hg : sc.names.lookup x = some .globalImplicit) (ha : PA X (e :: es) (TAv G W (evE c a)))
    (he : starEach (e :: es) X.env = (false, eval e X.env) :: starEach es X.env) (hpl : (backTo pos (starEach es X.env)).any (·.1) = false) : PE X (.Call (.Name x p0) (e :: es) [] pos) (TEv G W (evE c (.prim b.pm a))) := by
  have q := blt_okH o h
  cases b with
  | fn id p => obtain ⟨h1, h2, h3, h4, h5⟩ := q; exact e_blt h1 (o.gl hg) (o.blt x h3) h2 ha h4 h5 he hpl
  | ty T p => obtain ⟨h1, h2, h3, h4, h5⟩ := q; exact e_bty h1 (o.gl hg) (o.blt x h3) h2 ha h4 h5 he hpl
theorem walkZ_seqK {K : PySem.W.Frag} (hK : G.K = K) {H : Hp} {π : List Addr} {h : Hm} {x : D} {v : V} {xs : List D} (M : HmOk G H π h) (r : Rep G H π x v) (e : listOf h x = some xs) :
    ∃ a, v = .ref a ∧ (((∃ ys, SqL K H a ys) ∧ WalkZ G H π (Itl K a) xs (gdOf x xs) false) ∨ ((∃ ys, SqT K H a ys) ∧ WalkZ G H π (Itt K a) xs (gdOf x xs) false)) := by
  subst hK; exact walkZ_seq M r e
/-- [e for x in xs if t] -/
theorem e_lcH {elt tg iter : Expr} {ifs : List Expr} {scope : Scope} {own : List (Str × Nat)} {pos : Pos} {i jt : Nat} {ea ec ee : E} {c : Nat → List D → Hm → Z.R} (o : OkE P w k nm N sc (some i) G W X)
    (hi : PE X iter (TEv G W (evE c ea))) (ok : BlkOk N X.env.scope scope own) (hg : ∀ X', OkE P w k nm N scope (some N.length) { G with ex := none } W0 X' → PG X' tg (gName jt)) (hsl : jt ∈ own.map (·.2))
    (ht : ∀ X', OkE P w k nm N scope (some N.length) { G with ex := none } W0 X' → PTs X' ifs (TTv { G with ex := none } W0 (evE c ec))) (he : ∀ X', OkE P w k nm N scope (some N.length) { G with ex := none } W0 X' → PE X' elt (TEv { G with ex := none } W0 (evE c ee))) (hs : ∀ x, foldedSetIterable iter X.env x = pure x) :
    PE X (.ListComp elt [⟨tg, iter, ifs, 0⟩] scope pos) (TEv G W (evE c (.comp (own.map (·.2)) .plain (.cons ea .nil) (.name jt) ec ee))) := by
  refine pe_imp (pe_lcH (o.hh (by simp)) (by rw [o.hN]; exact o.nd) (pi_seqH hi) (by rw [o.hN]; exact ok) (fun s H C cl fp => hg _ (o.blkH i ok s H C cl fp)) (fun s H C cl fp => ht _ (o.blkH i ok s H C cl fp)) (fun s H C cl fp => he _ (o.blkH i ok s H C cl fp)) hs) fun σ H Q ⟨ρ, π, h, E, M, q⟩ => ⟨ρ, π, h, E, M, ?_⟩
  simp only [evE] at q
  cases z : evE c ea ρ h with
  | bad => rw [z] at q; exact q.elim
  | exn x h1 => rw [z] at q; exact q
  | ok d h1 =>
    rw [z] at q
    simp only [R.bind_ok] at q
    intro v H1 π1 e1 p1 M1 R1
    have q := Post.weak e1 p1 q
    change Post G W σ H1 π1 (match (listOf h1 d).map (fun xs => (xs, gdOf d xs)) with | some (items, g) => _ | none => .bad) _ at q
    cases hl : listOf h1 d with
    | none => rw [hl] at q; exact q.elim
    | some xs =>
      rw [hl] at q
      simp only [Option.map_some] at q
      obtain ⟨a, rfl, hw⟩ := walkZ_seqK (G := { G with ex := none }) o.hK (M1.conv (G := G) (G' := { G with ex := none }) rfl rfl rfl) (R1.conv (G := G) (G' := { G with ex := none }) rfl) hl
      have hK : ({ G with ex := none } : Gx).K = X.K := o.hK
      have E0 : EnvOk { G with ex := none } H1 π1 ρ σ := ⟨E.len, fun i d h => let ⟨v, h1, h2⟩ := (E.mono e1 p1).at' i d h; ⟨v, h1, h2.conv (G := G) (G' := { G with ex := none }) rfl⟩, .none rfl⟩
      have q0 := Post.conv (G := G) (G' := { G with ex := none }) (W' := W) (σ' := σ) (C' := fun _ _ v H' _ => Q v H') rfl rfl rfl rfl q (fun _ _ _ z => z) fun _ _ _ _ _ _ _ _ _ z => z
      refine ⟨a, rfl, ?_⟩
      rcases hw with ⟨hs, hw⟩ | ⟨hs, hw⟩
      · exact .inl ⟨hs, lc_walk (X := X) rfl (tg_name (X := X)) (fun i hi => by simp [Tg.slots] at hi; subst hi; exact hsl) E0 (M1.conv (G := G) (G' := { G with ex := none }) rfl rfl rfl) hw q0⟩
      · exact .inr ⟨hs, lc_walk (X := X) rfl (tg_name (X := X)) (fun i hi => by simp [Tg.slots] at hi; subst hi; exact hsl) E0 (M1.conv (G := G) (G' := { G with ex := none }) rfl rfl rfl) hw q0⟩
theorem i_range1H {tg a : Expr} {p pos : Pos} {ea : Env' → Hm → R} (hg : Gl X "range") (hm : X.mg "range" = none) (ha : PA X [a] (TAv G W ea)) (hs : starEach [a] X.env = [(false, eval a X.env)]) :
    L2H.PIH X tg (.Call (.Name "range" p) [a] [] pos) (TIv G W false ea .range1) := by
  have h := L2H.pi_range1H (tg := tg) (pos := pos) (p := p) hg hm ha hs
  refine ⟨fun pins s σ H R I z => h.run pins s σ H R I ?_⟩
  obtain ⟨ρ, π, h, E, M, q⟩ := z
  refine ⟨ρ, π, h, E, M, q.imp fun ds h1 vs H1 π1 _ _ _ M1 R1 ⟨items, g, es, k2⟩ => ?_⟩
  change srcR1 ds = some (items, g) at es
  unfold srcR1 at es
  split at es
  · split at es
    · rename_i j hj
      cases es
      cases R1 with
      | cons r1 r2 =>
        cases r2; cases rep_int r1
        exact ⟨_, rfl, (small_ok hj).1, (small_ok hj).2, k2 _ _ .refl M1 walkZ_range⟩
    · cases es
  · cases es
end
end Z

set_option Elab.async false
set_option linter.all false
set_option maxRecDepth 100000
set_option maxHeartbeats 4000000
namespace Z
open PySem PySem.Spec PyProof.Rows L2
/-! ### an own class called, its __init__ may raise -/
variable {X : Cx} {CX : CXT} {k : Nat} {f C : Addr} {fd : FuncData} {ps : List Str} {sp : Sp}
theorem kin_of {pins : List (Addr × Obj)} {σ : L2.St} {H : Hp} {s : Shared} (I : L2.Inv X pins σ H s) : X.K.In s.heap :=
  (I.ok.mod.kin).keeps I.bk
theorem run_makeS {E : XK} {pins : List (Addr × Obj)} {σ : L2.St} {H : Hp} {s : Shared} {Q : VK} {us : List Value} {vs : List V} (hMk : Mk X.K C f) (Fn : FnOk X.prog X.w X.K X.mg X.base CX k f fd ps sp) (hr : Room (k + 1) X.A) (hb : L2.Binds X.K fd ps []) (hx : PassesAt CX X σ E)
    (I : L2.Inv X pins σ H s) (hv : Vals vs us) (h : ∀ (x dx : Addr), H x = none → H dx = none → dx ≠ x → sp (.ref x :: vs) (upd (upd H dx (.own x)) x (.ins C dx [])) (fun v H2 => v = V.non ∧ Q (.ref x) H2) E) :
    wpAny (model X.prog X.w) X.A (call (.ref C) us) (EP X pins σ Q) X.xe s := by
  refine wpAny_call (Att.make_obj (kin_of I) hMk.makes hMk.init hMk.fn ?_)
  have I1 := I.made (C := C)
  have f0 : H s.heap.objs.size = none := I.hok.fresh (Nat.le_refl _)
  have f1 : H (s.heap.objs.size + 1) = none := I.hok.fresh (Nat.le_succ _)
  have hsp := h _ _ f1 f0 (Nat.ne_of_lt (Nat.lt_succ_self _))
  have hl := Fn.len _ _ _ _ hsp
  have e0 := I1.env0
  have hbt := hb ({ heap := (s.heap.push W.emptyDict).push (W.instObj C s.heap.objs.size), gens := s.gens, drawn := s.drawn, toks := s.toks, os := s.os } : Shared) (Value.ref (s.heap.objs.size + 1) :: us) (kin_of I1) (by
    have := hv.length
    simp only [List.append_nil, List.length_cons] at hl ⊢
    omega)
  rw [List.append_nil] at hbt
  refine codeAny_mono (Fn.run _ X.stack _ _ _ (Value.ref (s.heap.objs.size + 1) :: us) _ _ E (hr.make C us []) ⟨e0.frames, e0.mod, e0.bs, e0.bsz, e0.funs, e0.frf, e0.hok, e0.bare⟩ hbt (show Vals (V.ref (s.heap.objs.size + 1) :: vs) (Value.ref (s.heap.objs.size + 1) :: us) from .cons rfl hv) hsp) fun r s' z => ?_
  cases r with
  | error e => exact hx pins _ _ _ _ I1 z
  | ok fl =>
    cases fl with
    | ret u =>
      obtain ⟨v, H', I2, rv, e, q⟩ := I1.after z
      subst e
      obtain rfl : u = Value.none := rv
      exact ⟨rfl, .ref _, H', I2, rfl, q⟩
    | _ => exact z.elim
def tMakeS (C : Addr) (sp : Sp) (E : L2.St → XK) (t : TA) : TE := fun σ H Q => t σ H fun vs H1 => ∀ (x dx : Addr), H1 x = none → H1 dx = none → dx ≠ x → sp (.ref x :: vs) (upd (upd H1 dx (.own x)) x (.ins C dx [])) (fun v H2 => v = V.non ∧ Q (.ref x) H2) (E σ)
theorem pe_makeS {E : L2.St → XK} {x : Str} {p pos : Pos} {e : Expr} {es : List Expr} {t : TA} (hMk : Mk X.K C f) (Fn : FnOk X.prog X.w X.K X.mg X.base CX k f fd ps sp) (hr : Room (k + 1) X.A) (hg : Gl X x) (hm : X.mg x = some (.ref C)) (hb : L2.Binds X.K fd ps []) (hx : ∀ σ, PassesAt CX X σ (E σ)) (ha : PA X (e :: es) t) (hdb : (x == ("__debug__" : Str)) = false)
    (he : starEach (e :: es) X.env = (false, eval e X.env) :: starEach es X.env) (hpl : (backTo pos (starEach es X.env)).any (·.1) = false) : PE X (.Call (.Name x p) (e :: es) [] pos) (tMakeS C sp E t) := by
  refine ⟨fun pins s σ H Q I h => ?_⟩
  refine Call_ (ld_glob I hg hm ?_ hdb)
  refine W.callWith_K (kin_of I) hMk.kp ?_ he hpl
  refine thn (ha.run pos pins s σ H _ I h) fun us s1 ⟨vs, H1, I1, rv, q⟩ => ⟨kin_of I1, ?_⟩
  exact run_makeS hMk Fn hr hb (hx σ) I1 rv q
end Z

set_option Elab.async false
set_option linter.all false
set_option maxRecDepth 100000
set_option maxHeartbeats 4000000
namespace Z
open PySem PySem.Spec PyProof.Rows L2
/-! ### instances of the text's own classes -/
section
variable {P : Pg} {nm : Nm} {N : List Str} {sc : Scope} {hot : Option Nat} {w k : Nat} {G : Gx} {W : WX} {X : Cx}
theorem fld_some {H : Hp} {π : List Addr} {f : Str} {d : D} : ∀ {fs : List (Str × D)} {vs : List (Str × V)}, vs.map (·.1) = fs.map (·.1) → Reps G H π (fs.map (·.2)) (vs.map (·.2)) → fs.lookup f = some d → ∃ v, vs.lookup f = some v ∧ Rep G H π d v
  | [], _, _, _, h => by simp at h
  | (g, e) :: r, [], hk, _, _ => by simp at hk
  | (g, e) :: r, (g', u) :: vr, hk, rs, h => by
    simp only [List.map_cons, List.cons.injEq] at hk
    obtain ⟨rfl, hk⟩ := hk
    cases rs with
    | cons a rs =>
      simp only [List.lookup_cons] at h ⊢
      cases q : f == g' with
      | true => rw [q] at h; simp only at h ⊢; cases h; exact ⟨u, rfl, a⟩
      | false => rw [q] at h; simp only at h ⊢; exact fld_some hk rs h
theorem fld_none {f : Str} : ∀ {fs : List (Str × D)} {vs : List (Str × V)}, vs.map (·.1) = fs.map (·.1) → fs.lookup f = none → vs.lookup f = none
  | [], [], _, _ => rfl
  | [], _ :: _, hk, _ => by simp at hk
  | _ :: _, [], hk, _ => by simp at hk
  | (g, e) :: r, (g', u) :: vr, hk, h => by
    simp only [List.map_cons, List.cons.injEq] at hk
    obtain ⟨rfl, hk⟩ := hk
    simp only [List.lookup_cons] at h ⊢
    cases q : f == g' with
    | true => rw [q] at h; simp at h
    | false => rw [q] at h; simp only at h ⊢; exact fld_none hk h
theorem put_rel {H : Hp} {π : List Addr} {f : Str} {d : D} {v : V} (r : Rep G H π d v) : ∀ {fs : List (Str × D)} {vs : List (Str × V)}, vs.map (·.1) = fs.map (·.1) → Reps G H π (fs.map (·.2)) (vs.map (·.2)) →
    (putF f v vs).map (·.1) = (putD f d fs).map (·.1) ∧ Reps G H π ((putD f d fs).map (·.2)) ((putF f v vs).map (·.2))
  | [], [], _, _ => ⟨rfl, .cons r .nil⟩
  | [], _ :: _, hk, _ => by simp at hk
  | _ :: _, [], hk, _ => by simp at hk
  | (g, e) :: fr, (g', u) :: vr, hk, rs => by
    simp only [List.map_cons, List.cons.injEq] at hk
    obtain ⟨rfl, hk⟩ := hk
    cases rs with
    | cons a rs =>
      have e1 : putF f v ((g', u) :: vr) = if g' = f then (g', v) :: vr else (g', u) :: putF f v vr := rfl
      have e2 : putD f d ((g', e) :: fr) = if g' = f then (g', d) :: fr else (g', e) :: putD f d fr := rfl
      rw [e1, e2]
      by_cases q : g' = f
      · rw [if_pos q, if_pos q]
        exact ⟨by simp [hk], .cons r rs⟩
      · rw [if_neg q, if_neg q]
        obtain ⟨h1, h2⟩ := put_rel r hk rs
        exact ⟨by simp [h1], .cons a h2⟩
theorem keys_len {fs : List (Str × D)} {vs : List (Str × V)} (hk : vs.map (·.1) = fs.map (·.1)) : vs.length = fs.length := by
  have := congrArg List.length hk
  simpa using this
/-- o.f -/
theorem e_fld {ob : Expr} {f : Str} {pos : Pos} {eo : E} {c : Nat → List D → Hm → Z.R} (hK : G.K = X.K) (ho : PE X ob (TEv G W (evE c eo))) (hb : attributeBase ob f X.env (eval ob X.env) = eval ob X.env) :
    PE X (.Attribute ob f pos) (TEv G W (evE c (.fld eo f))) := by
  refine pe_imp (pe_fld ho hb) fun σ H Q ⟨ρ, π, h, E, M, q⟩ => ⟨ρ, π, h, E, M, ?_⟩
  simp only [evE] at q
  refine q.bind.imp fun d h1 v H1 π1 _ _ _ M1 R1 p => ?_
  unfold opFld at p
  split at p
  · split at p
    · rename_i c F fs hcell
      split at p
      · rename_i hF
        split at p
        · rename_i e hl
          obtain ⟨a, C, dx, vs, rfl, _, hH, _, hk, rs, hc, hn⟩ := M1.ins hcell R1
          obtain ⟨u, hu, ru⟩ := fld_some hk rs hl
          have hf : f ∈ F := by simpa using hF
          exact ⟨a, C, dx, vs, u, rfl, hH, hK ▸ hc, hK ▸ hn f hf, hu, post_pure M1 ru p⟩
        · exact p.elim
      · exact p.elim
    · exact p.elim
  · exact p.elim
theorem ins_of {H : Hp} {π : List Addr} {h : Hm} {c m : Str} {x : D} {v : V} (M : HmOk G H π h) (R : Rep G H π x v) (e : isIns c m x h = true) :
    ∃ n a C dx vs, x = .ref n ∧ v = .ref a ∧ H a = some (.ins C dx vs) ∧ G.mg c = some (.ref C) ∧ vs.lookup m = none ∧ Cls G.K C := by
  unfold isIns at e
  split at e
  · split at e
    · rename_i c' F fs hcell
      simp only [Bool.and_eq_true, beq_iff_eq, Option.isNone_iff_eq_none] at e
      obtain ⟨rfl, e2⟩ := e
      obtain ⟨a, C, dx, vs, rfl, _, hH, hm, hk, rs, hc, hn⟩ := M.ins hcell R
      exact ⟨_, a, C, dx, vs, rfl, rfl, hH, hm, fld_none hk e2, hc⟩
    · cases e
  · cases e
theorem noEx_post {σ : L2.St} {H : Hp} {π : List Addr} {r : Z.R} {C : D → Hm → V → Hp → List Addr → Prop} {W' : WX} (p : Post G W σ H π (noEx r) C) {σ' : L2.St} : Post G W' σ' H π r C := by
  cases r with
  | ok d h => exact p
  | exn x h => exact p.elim
  | bad => exact p.elim
theorem post_cv {σ σ' : L2.St} {H : Hp} {π : List Addr} {r : Z.R} {C : D → Hm → V → Hp → List Addr → Prop} (p : Post G W σ H π r C) : Post G (fun cls d _ H' => W cls d σ H') σ' H π r C := by
  cases r with
  | ok d h => exact p
  | exn x h => exact p
  | bad => exact p
theorem gx_eq (o : OkE P w k nm N sc none G W X) : G = ⟨X.K, X.mg, nm.exc.map (·.1), none, X.w⟩ := by
  obtain ⟨K, mg, xs, ex, gw⟩ := G
  have h1 := o.hK; have h2 := o.hmg; have h3 := o.gex rfl; have h4 := o.hxs; have h5 := o.hw
  simp only at h1 h2 h3 h4 h5
  rw [h1, h2, h3, h4, h5]
theorem passes_no : Passes (CX X.prog X.w) X (fun _ _ _ => False) := fun pins σ H s e s' I ⟨_, _, _, _, _, _, _, _, _, _, _, _, z⟩ => z.elim
/-- C(..) -/
theorem e_new {c : Str} {F : List Str} {i : Nat} {ms : List (Str × Nat)} {e : Expr} {es : List Expr} {p0 pos : Pos} {a : E} (o : OkE P w k nm N sc none G W X) (hx : (c, F, i, ms) ∈ nm.cls) (hg : sc.names.lookup c = some .globalImplicit) (hdb : (c == ("__debug__" : Str)) = false)
    (ha : PA X (e :: es) (TAv G W (evE (callF P w k) a))) (he : starEach (e :: es) X.env = (false, eval e X.env) :: starEach es X.env) (hpl : (backTo pos (starEach es X.env)).any (·.1) = false) :
    PE X (.Call (.Name c p0) (e :: es) [] pos) (TEv G W (evE (callF P w k) (.new c F i a))) := by
  obtain ⟨C, hm, hc, hF, ⟨f, fd, ps, hMk, hb, Fn⟩, _⟩ := o.cl c F i ms hx
  refine pe_imp (pe_makeS (E := fun σ cls d H' => W cls d σ H') hMk Fn ((o.room rfl).mono (by omega)) (o.gl hg) hm hb (fun σ => passAt o.tk σ) ha hdb he hpl) fun σ H Q ⟨ρ, π, h, E, M, q⟩ => ⟨ρ, π, h, E, M, ?_⟩
  have q : Post G W σ H π (onArgs (evE (callF P w k) a ρ h) (fun xs h1 => newEnd h1.length (callF P w k i (.ref h1.length :: xs) (h1 ++ [.ins c F []])))) fun _ _ v H' _ => Q v H' := by
    simp only [evE] at q; exact q
  refine q.args.imp fun ds h1 vs H1 π1 _ _ _ M1 R1 p1 => ?_
  have hG := gx_eq o
  subst hG
  intro x dx nx nd ne
  have nx' : upd H1 dx (.own x) x = none := by rw [upd_ne (Ne.symm ne)]; exact nx
  have e1 : Ext H1 (upd (upd H1 dx (.own x)) x (.ins C dx [])) := (Ext.new nd).trans (Ext.new nx')
  have M2 := M1.ext_new (o := .own x) nd
  have M3 : HmOk ⟨X.K, X.mg, nm.exc.map (·.1), none, X.w⟩ (upd (upd H1 dx (.own x)) x (.ins C dx [])) (π1 ++ [x]) (h1 ++ [.ins c F []]) := M2.push nx' (show CellOk _ _ _ (.ins c F []) x (some (.ins C dx [])) from ⟨C, dx, [], rfl, hm, rfl, .nil, hc, hF⟩)
  have pl := M1.len
  refine ⟨π1 ++ [x], h1 ++ [.ins c F []], .ref h1.length :: ds, M3, ?_, ?_⟩
  · refine .cons (.ref ?_) (R1.mono e1 (List.prefix_append _ _))
    rw [← pl, List.getElem?_append_right (Nat.le_refl _), Nat.sub_self]
    rfl
  · have p2 := Post.weak e1 (List.prefix_append _ [x]) p1
    unfold newEnd at p2
    refine (post_cv p2.bind).imp fun d h2 u H2 π2 er e2 px2 M4 R2 p3 => ?_
    split at p3
    · cases R2
      refine ⟨rfl, p3 _ H2 π2 .refl (List.prefix_refl _) M4 (.ref (pre_get px2 ?_))⟩
      rw [← pl, List.getElem?_append_right (Nat.le_refl _), Nat.sub_self]
      rfl
    · exact p3.elim
theorem mcall_eq {ob : Expr} {es : List Expr} {m : Str} {apos cpos : Pos} {env : Env} (hb : attributeBase ob m env (eval ob env) = eval ob env) (hl : (apos.endLine == cpos.line) = true) (hs : starEach es env = es.map fun e => (false, eval e env)) (hn : es.length < 30) :
    eval (.Call (.Attribute ob m apos) es [] cpos) env = (do
    let ov ← eval ob env
    standAt apos.atName
    let x ← holding [ov] (getMethod ov m (do let i ← importBound ob env; pure (i.getD true)))
    match x with
    | (f, first) => callWith cpos f first (backTo cpos (starEach es env)) (backToKw cpos (keywordEach [] env))) := by
  have hf : methodCallForm (es.length + ([] : List Keyword).length) (backTo cpos (starEach es env)) (backToKw cpos (keywordEach [] env)) = true := by
    unfold methodCallForm
    rw [star_all hs]
    simp [backToKw, keywordEach]
    omega
  have hp : ∀ o env, methodCallPos true o env apos cpos = pure cpos := fun o env => by
    unfold methodCallPos
    simp only [hl, Bool.not_true, Bool.false_or, if_true]
  rw [eval, hb]
  unfold methodCall
  rw [hf]
  simp only [hp, calleeOf, if_true, pure_bind]
/-- o.m(..) -/
theorem e_mcall {c m : Str} {F : List Str} {i j : Nat} {ms : List (Str × Nat)} {ob e : Expr} {es : List Expr} {apos pos : Pos} {eo a : E} (o : OkE P w k nm N sc none G W X) (hx : (c, F, i, ms) ∈ nm.cls) (hm : (m, j) ∈ ms)
    (ho : PE X ob (TEv G W (evE (callF P w k) eo))) (ha : PA X (e :: es) (TAv G W (evE (callF P w k) a)))
    (hb : attributeBase ob m X.env (eval ob X.env) = eval ob X.env) (hl : (apos.endLine == pos.line) = true) (hs : starEach (e :: es) X.env = (e :: es).map fun e => (false, eval e X.env)) (hs2 : starEach es X.env = es.map fun e => (false, eval e X.env)) (hn : (e :: es).length < 30) :
    PE X (.Call (.Attribute ob m apos) (e :: es) [] pos) (TEv G W (evE (callF P w k) (.mcall c m j eo a))) := by
  obtain ⟨C, hC, hc, hF, _, hms⟩ := o.cl c F i ms hx
  obtain ⟨f, fd, ps, hMe, hbd, Fn⟩ := hms m j hm
  refine pe_imp (pe_meth ho hc hMe Fn ((o.room rfl).mono (by omega)) hbd .nil passes_no ha (star_head hs hs2) (star_any hs2) (mcall_eq hb hl hs hn)) fun σ H Q ⟨ρ, π, h, E, M, q⟩ => ⟨ρ, π, h, E, M, ?_⟩
  have q : Post G W σ H π ((evE (callF P w k) eo ρ h).bind fun x h1 => if isIns c m x h1 = true then onArgs (evE (callF P w k) a ρ h1) (fun xs h2 => noEx (callF P w k j (x :: xs) h2)) else .bad) fun _ _ v H' _ => Q v H' := by
    simp only [evE] at q; exact q
  refine q.bind.imp fun d h1 v H1 π1 _ ex px M1 R1 p1 => ?_
  split at p1
  · rename_i hi
    obtain ⟨n, a', C', dx, vs, rfl, rfl, hH, hmg, hln, _⟩ := ins_of M1 R1 hi
    have hG := gx_eq o
    subst hG
    have : C' = C := (Value.ref.inj (Option.some.inj (hC.symm.trans hmg))).symm
    subst this
    refine ⟨a', dx, vs, rfl, hH, hln, ρ, π1, h1, E.mono ex px, M1, p1.args.imp fun ds h2 us H2 π2 _ e2 p2 M2 R2 q2 => ?_⟩
    show spF _ P w k j (V.ref a' :: (us ++ [])) H2 Q _
    rw [List.append_nil]
    exact ⟨π2, h2, .ref n :: ds, M2, .cons (R1.mono e2 p2) R2, (noEx_post q2).imp fun _ _ _ _ _ _ _ _ _ _ z => z⟩
  · exact p1.elim
theorem e_mcall0 {c m : Str} {F : List Str} {i j : Nat} {ms : List (Str × Nat)} {ob : Expr} {apos pos : Pos} {eo : E} (o : OkE P w k nm N sc none G W X) (hx : (c, F, i, ms) ∈ nm.cls) (hm : (m, j) ∈ ms)
    (ho : PE X ob (TEv G W (evE (callF P w k) eo)))
    (hb : attributeBase ob m X.env (eval ob X.env) = eval ob X.env) (hl : (apos.endLine == pos.line) = true) :
    PE X (.Call (.Attribute ob m apos) [] [] pos) (TEv G W (evE (callF P w k) (.mcall c m j eo .nil))) := by
  obtain ⟨C, hC, hc, hF, _, hms⟩ := o.cl c F i ms hx
  obtain ⟨f, fd, ps, hMe, hbd, Fn⟩ := hms m j hm
  refine pe_imp (pe_meth0 ho hc hMe Fn ((o.room rfl).mono (by omega)) hbd .nil passes_no (mcall_eq (es := []) hb hl rfl (by decide))) fun σ H Q ⟨ρ, π, h, E, M, q⟩ => ⟨ρ, π, h, E, M, ?_⟩
  have q : Post G W σ H π ((evE (callF P w k) eo ρ h).bind fun x h1 => if isIns c m x h1 = true then noEx (callF P w k j [x] h1) else .bad) fun _ _ v H' _ => Q v H' := by
    simp only [evE, R.bind_ok] at q; exact q
  refine q.bind.imp fun d h1 v H1 π1 _ ex px M1 R1 p1 => ?_
  split at p1
  · rename_i hi
    obtain ⟨n, a', C', dx, vs, rfl, rfl, hH, hmg, hln, _⟩ := ins_of M1 R1 hi
    have hG := gx_eq o
    subst hG
    have : C' = C := (Value.ref.inj (Option.some.inj (hC.symm.trans hmg))).symm
    subst this
    exact ⟨a', dx, vs, rfl, hH, hln, π1, h1, [.ref n], M1, .cons R1 .nil, (noEx_post p1).imp fun _ _ _ _ _ _ _ _ _ _ z => z⟩
  · exact p1.elim
/-- o.m, m a property -/
theorem e_prop {c m : Str} {j : Nat} {ob : Expr} {pos : Pos} {eo : E} (o : OkE P w k nm N sc none G W X) (hx : (c, m, j) ∈ nm.prp)
    (ho : PE X ob (TEv G W (evE (callF P w k) eo))) (hb : attributeBase ob m X.env (eval ob X.env) = eval ob X.env) :
    PE X (.Attribute ob m pos) (TEv G W (evE (callF P w k) (.mcall c m j eo .nil))) := by
  obtain ⟨C, p, f, fd, ps, hC, hc, hP, hbd, Fn⟩ := o.pr c m j hx
  refine pe_imp (pe_prop ho hc hP Fn ((o.room rfl).mono (by omega)) hbd .nil (passes_no (X := X.nox)) hb) fun σ H Q ⟨ρ, π, h, E, M, q⟩ => ⟨ρ, π, h, E, M, ?_⟩
  have q : Post G W σ H π ((evE (callF P w k) eo ρ h).bind fun x h1 => if isIns c m x h1 = true then noEx (callF P w k j [x] h1) else .bad) fun _ _ v H' _ => Q v H' := by
    simp only [evE, R.bind_ok] at q; exact q
  refine q.bind.imp fun d h1 v H1 π1 _ ex px M1 R1 p1 => ?_
  split at p1
  · rename_i hi
    obtain ⟨n, a', C', dx, vs, rfl, rfl, hH, hmg, hln, _⟩ := ins_of M1 R1 hi
    have hG := gx_eq o
    subst hG
    have : C' = C := (Value.ref.inj (Option.some.inj (hC.symm.trans hmg))).symm
    subst this
    exact ⟨a', dx, vs, rfl, hH, π1, h1, [.ref n], M1, .cons R1 .nil, (noEx_post p1).imp fun _ _ _ _ _ _ _ _ _ _ z => z⟩
  · exact p1.elim
/-- len(o), o an instance whose class has a __len__ -/
theorem c_lenc {C g : Addr} {k' : Nat} {fd : FuncData} {ps : List Str} {sp : Sp} (hM : Meth X.K C "__len__" g) (Fn : FnOk X.prog X.w X.K X.mg X.base (CX X.prog X.w) k' g fd ps sp) (hr : Room (k' + 1) X.A) (hb : Binds X.K fd ps []) :
    CallR X (.builtin "len") (fun xs H Q => ∃ a dx fs, xs = [.ref a] ∧ H a = some (.ins C dx fs) ∧ sp [.ref a] H (fun v H1 => ∃ n : Int, v = .int n ∧ 0 ≤ n ∧ n < 1073741824 ∧ Q (.int n) H1) (fun _ _ _ => False)) := by
  intro pins s σ H xs us Q I r ⟨a, dx, fs, ex, hH, q⟩
  subst ex
  cases r with
  | cons r0 rr =>
    cases rr
    cases r0
    obtain ⟨_, _, _, hg, mA, hns, _⟩ := I.hok a _ hH
    obtain ⟨m, hm, _⟩ := I.loc
    have e0 := I.env0
    have fr : Fr X.base X.env.locals s.heap m := ⟨hm, fun b ob h => (e0.bs b ob h).1, Nat.le_trans I.ok.bsz I.ok.above⟩
    obtain ⟨od, hod⟩ : ∃ od, s.heap.get? dx = some od := by
      obtain ⟨od, _, _, h, _⟩ := hns
      exact ⟨od, h⟩
    refine PySem.W.len_K fr I.ok.mod.kin (ox := PySem.W.instObj C dx) (od := some od) ⟨hg, rfl, rfl, hod⟩ hM.at_ hM.fn ?_
    have rm : Room k' X.A.in1 := ⟨hr.hd, by have := hr.dp; show X.A.depth + 3 * k' + 5 < _; omega, by have := hr.un; show X.A.units + 1 + 16 * k' + 200 < _; omega⟩
    refine wpAny_call (codeAny_mono (Fn.run X.A.in1 X.stack s H ⟨[.ref a], []⟩ [.ref a] [.ref a] _ _ rm e0.in1 (hb s [.ref a] I.kIn (Fn.len _ _ _ _ q)) (.cons rfl .nil) q) fun r s' hq => ?_)
    cases r with
    | error e => exact (passes_no pins σ H s e s' I hq)
    | ok fl =>
      cases fl with
      | ret u =>
        obtain ⟨v, H1, I1, rv, n, rfl, h0, h1, q1⟩ := I.after hq
        obtain ⟨t, rfl⟩ := rv
        exact ⟨⟨h0, by omega⟩, .int n, H1, I1.tok _, ⟨_, rfl⟩, q1⟩
      | next => exact False.elim hq
      | brk => exact False.elim hq
      | cont => exact False.elim hq
theorem e_lenc {c : Str} {F : List Str} {i j : Nat} {ms : List (Str × Nat)} {ob : Expr} {p0 pos : Pos} {eo : E} (o : OkE P w k nm N sc none G W X) (hx : (c, F, i, ms) ∈ nm.cls) (hm : (("__len__" : Str), j) ∈ ms) (hg : sc.names.lookup ("len" : Str) = some .globalImplicit)
    (ho : PE X ob (TEv G W (evE (callF P w k) eo))) (hs : noStar ob = true) :
    PE X (.Call (.Name "len" p0) [ob] [] pos) (TEv G W (evE (callF P w k) (.lenc c j eo))) := by
  obtain ⟨C, hC, hc, hF, _, hms⟩ := o.cl c F i ms hx
  obtain ⟨f, fd, ps, hMe, hbd, Fn⟩ := hms _ j hm
  refine pe_imp (pe_callB (c_lenc hMe Fn ((o.room rfl).mono (by omega)) hbd) (o.gl hg) (o.blt _ (by decide +kernel)) (by decide +kernel) (pa_cons ho pa_nil (star_cons hs)) (by decide +kernel) (by decide +kernel) (star_cons hs) (by rfl)) fun σ H Q ⟨ρ, π, h, E, M, q⟩ => ⟨ρ, π, h, E, M, ?_⟩
  simp only [evE] at q
  refine q.bind.imp fun d h1 v H1 π1 _ ex px M1 R1 p1 => ?_
  split at p1
  · rename_i hi
    obtain ⟨n, a', C', dx, vs, rfl, rfl, hH, hmg, hln, _⟩ := ins_of M1 R1 hi
    have hG := gx_eq o
    subst hG
    have : C' = C := (Value.ref.inj (Option.some.inj (hC.symm.trans hmg))).symm
    subst this
    refine ⟨a', dx, vs, rfl, hH, π1, h1, [.ref n], M1, .cons R1 .nil, ?_⟩
    unfold lenEnd at p1
    refine (noEx_post p1.bind).imp fun d2 h2 u H2 π2 er e2 px2 M2 R2 p3 => ?_
    split at p3
    · rename_i m
      split at p3
      · rename_i hz
        cases rep_int R2
        exact ⟨m, rfl, hz.1, hz.2, post_pure M2 (.int m) p3⟩
      · exact p3.elim
    · exact p3.elim
  · exact p1.elim
end
end Z

set_option Elab.async false
set_option linter.all false
set_option maxRecDepth 100000
set_option maxHeartbeats 4000000
namespace Z
open PySem PySem.Spec PyProof.Rows L2
/-! ### sets of whole numbers, made by a comprehension -/
section
variable {X : Cx}
/-- the reading: the walk, then the set D, an invariant W at each turn with a measure that falls -/
def tSetI (w : World) (wi : TI) (g : TG) (tt : TT) (te : TE) (vs : List Nat) : TE := fun σ H Q => wi σ H fun J H1 => ∀ D, H1 D = none →
  ∃ W : Nat → Nat → Hp → Prop, (∃ m, W 0 m (upd H1 D (SetO w D (fun _ => false) 0))) ∧ ∀ i m H, W i m H →
    (J.stop i H ∧ Q (.ref D) H) ∨ (J.go i H ∧ ∃ Nx : Hp → Prop, (∀ H', Nx H' → ∃ m', m' < m ∧ W (i + 1) m' H') ∧
      ∀ x H', J.yld i H x H' → g x (wipe σ vs) H' fun σ2 H2 => wipe σ2 vs = wipe σ vs ∧ tt σ2 H2 fun b H3 =>
        if b = true then te σ2 H3 fun y H4 => ∃ (c : Int) (S : Int → Bool) (n : Nat), y = .int c ∧ H4 D = some (SetO w D S n) ∧ n + 1 < scanBound ∧
          Nx (upd H4 D (SetO w D (fun j => S j || decide (j = c)) (if S c = true then n else n + 1))) else Nx H3)
theorem set_obj {P : Program} {w : World} {H : Hp} {s : Shared} : ObjOk P w H (s.heap.push { cls := .type "set", data := .set #[] 0 (SetTable.fresh 0 0 !w.params.followText "set-order") }) s.heap.objs.size (SetO w s.heap.objs.size (fun _ => false) 0) := by
  unfold ObjOk SetO
  refine ⟨⟨_, #[], 0, SetTable.fresh 0 0 !w.params.followText "set-order", Heap.get?_push_size _ rfl, ⟨rfl, rfl, rfl⟩, rfl, ?_, .nil, ?_, by decide, by rfl, rfl, .nil, ?_⟩, ⟨_, Heap.get?_push_size _ rfl⟩, fun h1 h2 ⟨o, es, ep, t, hg, r⟩ k => ⟨o, es, ep, t, k o hg, r⟩⟩
  · intro e h
    cases h
  · intro k
    simp
  · cases w.params.followText "set-order" <;> simp [SetTable.fresh]
theorem pe_setI {elt tg iter : Expr} {ifs : List Expr} {scope : Scope} {own : List (Str × Nat)} {pos : Pos} {wi : TI} {g : TG} {tt : TT} {te : TE} (hc : X.calm = true) (hN : X.N.Nodup) (hi : PI X tg iter wi) (ok : BlkOk X.N X.env.scope scope own)
    (hg : ∀ (s : Shared) (H : Hp) (C : Addr) (cl : List (Str × Addr)) (fp : List Addr), PG (X.blk s H scope (compEnvC scope cl C X.env) fp) tg g)
    (ht : ∀ (s : Shared) (H : Hp) (C : Addr) (cl : List (Str × Addr)) (fp : List Addr), PTs (X.blk s H scope (compEnvC scope cl C X.env) fp) ifs tt)
    (he : ∀ (s : Shared) (H : Hp) (C : Addr) (cl : List (Str × Addr)) (fp : List Addr), PE (X.blk s H scope (compEnvC scope cl C X.env) fp) elt te)
    (hs : ∀ x : Value, foldedSetIterable iter X.env x = pure x) :
    PE X (.SetComp elt [⟨tg, iter, ifs, 0⟩] scope pos) (tSetI X.w wi g tt te (own.map (·.2))) := by
  refine ⟨fun pins s σ H Q I h => ?_⟩
  rw [PpSet.eval_SetComp]
  have hfree : ∀ y : Str × NameKind, y ∈ scope.names → y.2 = .free → ∃ c, X.env.cells.lookup y.1 = some c := fun y hy e => by
    rcases ok.free y hy e with k | k
    · exact I.ok.has y.1 (.inl k)
    · exact I.ok.has y.1 (.inr k)
  refine wpAny_comprehension_free rfl hs (closure_ok hfree) ok.kind (fun y hy e => by rw [ok.uniq y hy, e]) ?_
  refine thn (hi.run pins s σ H _ I h) fun xv s1 hx => thn hx fun itv s2 ⟨it, fp, tn, J, H2, e, I2, T, st2, f2, q⟩ => ?_
  subst e
  refine PpSet.newSet_ok ?_
  obtain ⟨W, ⟨m0, w0⟩, turn⟩ := q s2.heap.objs.size (I2.hok.fresh (Nat.le_refl _))
  have I3 := I2.laid (h' := s2.heap.push { cls := .type "set", data := .set #[] 0 (SetTable.fresh 0 0 !X.w.params.followText "set-order") }) (a := s2.heap.objs.size) (o := SetO X.w s2.heap.objs.size (fun _ => false) 0) (t' := s2.toks)
    (fun b o e => Heap.get?_push_of_some _ e) (Nat.le_refl _) (set_obj (s := s2))
  have szf : ∀ b ∈ fp, b < s2.heap.objs.size := fun b hb => by
    obtain ⟨o, e, _⟩ := T.obj 0 _ st2 b hb
    exact Heap.lt_size e
  have f3 : ∀ b ∈ fp, FpOk X pins (upd H2 s2.heap.objs.size (SetO X.w s2.heap.objs.size (fun _ => false) 0)) b := fun b hb => by
    have := f2 b hb
    refine ⟨?_, this.2⟩
    rw [upd_ne (Nat.ne_of_lt (szf b hb))]
    exact this.1
  have st3 := T.keep 0 _ (s2.heap.push { cls := .type "set", data := .set #[] 0 (SetTable.fresh 0 0 !X.w.params.followText "set-order") }) st2 (fun b hb o e => Heap.get?_push_of_some _ e)
  have st3 : tn 0 ({ heap := s2.heap.push { cls := .type "set", data := .set #[] 0 (SetTable.fresh 0 0 !X.w.params.followText "set-order") }, gens := s2.gens, drawn := s2.drawn, toks := s2.toks, os := s2.os } : Shared).heap := st3
  generalize upd H2 s2.heap.objs.size (SetO X.w s2.heap.objs.size (fun _ => false) 0) = H3 at I3 w0 f3
  generalize s2.heap.objs.size = D at turn ⊢
  generalize ({ heap := s2.heap.push { cls := .type "set", data := .set #[] 0 (SetTable.fresh 0 0 !X.w.params.followText "set-order") }, gens := s2.gens, drawn := s2.drawn, toks := s2.toks, os := s2.os } : Shared) = s3 at I3 st3 ⊢
  clear szf I2 st2 f2 q
  have sz3 : ∀ b ∈ fp, b < s3.heap.objs.size := fun b hb => by
    obtain ⟨o, e, _⟩ := T.obj 0 _ st3 b hb
    exact Heap.lt_size e
  refine newEnv_comp ?_
  have I4 := block_start (fp := fp) I3 ok hN (fun b hb => ⟨f3 b hb, sz3 b hb⟩)
  have st4 : tn 0 ({ heap := pushCells (s3.heap.push { cls := .type "dict", data := .dict #[] }) scope.names, gens := s3.gens, drawn := s3.drawn, toks := s3.toks, os := s3.os } : Shared).heap :=
    T.keep 0 _ _ st3 (fun b hb o e => pushCells_keeps _ _ _ _ (Heap.get?_push_of_some _ e))
  generalize ({ heap := pushCells (s3.heap.push { cls := .type "dict", data := .dict #[] }) scope.names, gens := s3.gens, drawn := s3.drawn, toks := s3.toks, os := s3.os } : Shared) = s4 at I4 st4 ⊢
  show codeAny _ _ (Code.compStart _ 0 _ _ (compEnvC scope (cellsFrom (s3.heap.objs.size + 1) scope.names (cloFrom X.env.cells scope.names [])) s3.heap.objs.size X.env)) (compPost _ _ _ none _ _ s3.heap.objs.size) s4
  have pg := hg s3 H3 s3.heap.objs.size (cellsFrom (s3.heap.objs.size + 1) scope.names (cloFrom X.env.cells scope.names [])) fp
  have pt := ht s3 H3 s3.heap.objs.size (cellsFrom (s3.heap.objs.size + 1) scope.names (cloFrom X.env.cells scope.names [])) fp
  have pe := he s3 H3 s3.heap.objs.size (cellsFrom (s3.heap.objs.size + 1) scope.names (cloFrom X.env.cells scope.names [])) fp
  have hloc : (compEnvC scope (cellsFrom (s3.heap.objs.size + 1) scope.names (cloFrom X.env.cells scope.names [])) s3.heap.objs.size X.env).locals = s3.heap.objs.size := rfl
  generalize compEnvC scope (cellsFrom (s3.heap.objs.size + 1) scope.names (cloFrom X.env.cells scope.names [])) s3.heap.objs.size X.env = cenv at I4 pg pt pe hloc ⊢
  have fpk : ∀ {σ' : L2.St} {H' : Hp} {s' : Shared}, Inv (X.blk s3 H3 scope cenv fp) [] σ' H' s' → (∀ b ∈ fp, H' b = none) → ∀ b ∈ fp, FpOk (X.blk s3 H3 scope cenv fp) [] H' b := fun I' hn b hb =>
    ⟨hn b hb, (I'.ok.exf b hb).1, I'.ok.exfs b hb, .inl hb, (I'.ok.exf b hb).2, fun p hp => by cases hp⟩
  have back : ∀ {σ2 : L2.St} {H' : Hp} {s' : Shared}, wipe σ2 (own.map (·.2)) = wipe σ (own.map (·.2)) → Inv (X.blk s3 H3 scope cenv fp) [] σ2 H' s' → Inv (X.blk s3 H3 scope cenv fp) [] (wipe σ (own.map (·.2))) H' s' := fun hw I' => by
    refine I'.weak ?_ fun i v h => ?_
    · rw [← hw, wipe_length]
    · rw [← hw] at h
      exact (wipe_some h).1
  have loop : codeAny (model X.prog X.w) X.A (Code.compLoop (.SetComp elt [⟨tg, iter, ifs, 0⟩] scope pos) 0 (.ref it) (.ref D) cenv) (compPost (model X.prog X.w) X.A X.xe none (EP X pins σ Q) (.ref D) s3.heap.objs.size) s4 := by
    refine PpSet.compLoopS_any (fun n s' => ∃ (i : Nat) (H' : Hp), Inv (X.blk s3 H3 scope cenv fp) [] (wipe σ (own.map (·.2))) H' s' ∧ tn i s'.heap ∧ (∀ b ∈ fp, H' b = none) ∧ W i n H') ?_ m0 ⟨0, H3, I4, st4, fun b hb => (f3 b hb).1, w0⟩
    rintro n s' ⟨i, H', I', st', fn', w'⟩
    rcases turn i n H' w' with ⟨hstop, hq⟩ | ⟨hgo, Nx, hNx, hy⟩
    · refine thnF (T.done (X.blk s3 H3 scope cenv fp) rfl rfl rfl hc i [] s' _ H' (fun _ _ => False) I' (fpk I' fn') st' hstop) fun r s1 ⟨er, I1⟩ => ?_
      subst er
      obtain ⟨m, hm, _⟩ := I1.loc
      have Ix : Inv X pins σ H' s1 := I3.call' (ch := fp) I1.os I1.base I1.hok I1.bare (fun b hb => ⟨(f3 b hb).2.2.2.1, (f3 b hb).2.1, (f3 b hb).2.2.2.2.1, (f3 b hb).2.2.2.2.2⟩)
      have fr : H' s3.heap.objs.size = none := by
        have := I1.free
        rw [← hloc]
        exact this
      have fc : FpOk X pins H' s3.heap.objs.size := I3.fpOk (Nat.le_refl _) fr
      have hm' : s1.heap.Ns s3.heap.objs.size m := by rw [← hloc]; exact hm
      exact ⟨m, hm', fun h' sb => ⟨.ref D, H', Ix.turned (it := s3.heap.objs.size) (fun b o hb e => (sb.2 b hb).trans e) fc.1 fc.2.1 fc.2.2.2.1 fc.2.2.2.2.1 fc.2.2.2.2.2, rfl, hq⟩⟩
    · refine thnF (T.item (X.blk s3 H3 scope cenv fp) rfl rfl rfl hc i [] s' _ H' (fun _ _ => False) I' (fpk I' fn') st' hgo) fun r s1 ⟨u, er, hu⟩ => ?_
      subst er
      refine thnF hu fun _ s2' ⟨x, H1, I1, rx, yl, st1, fn1⟩ => ?_
      have hy1 := hy x H1 yl
      have Ip := I1.pinned (fp := fp) (fpk I1 fn1) (T.obj (i + 1) _ st1)
      have keepT : ∀ {σ' : L2.St} {H'' : Hp} {s'' : Shared}, Inv (X.blk s3 H3 scope cenv fp) ([] ++ pinsAt fp s2'.heap) σ' H'' s'' → tn (i + 1) s''.heap ∧ ∀ b ∈ fp, H'' b = none := fun I'' =>
        ⟨T.keep (i + 1) _ _ st1 (fun b hb o e => (I''.pin (b, o) (List.mem_append_right _ (List.mem_append_right _ (mem_pinsAt hb e)))).1), fun b hb => by
          obtain ⟨o, e, _⟩ := T.obj _ _ st1 b hb
          exact (I''.pin (b, o) (List.mem_append_right _ (List.mem_append_right _ (mem_pinsAt hb e)))).2.1⟩
      have z1 := pg.run _ s2' (wipe σ (own.map (·.2))) H1 x u _ Ip rx hy1
      refine thnF z1 fun _ s3' ⟨σ2, H2', I2', hw, htt⟩ => ?_
      have z2 := pt.run _ s3' σ2 H2' _ I2' htt
      refine thnF z2 fun b s4' hb => ?_
      obtain ⟨H3', I3', hb⟩ := hb
      cases b with
      | false =>
        rw [if_neg (by decide)]
        rw [if_neg (by decide)] at hb
        obtain ⟨m', lt, w⟩ := hNx _ hb
        exact ⟨m', lt, i + 1, H3', back hw I3'.unpinned, (keepT I3').1, (keepT I3').2, w⟩
      | true =>
        rw [if_pos rfl]
        rw [if_pos rfl] at hb
        have z3 := pe.run _ s4' σ2 H3' _ I3' hb
        refine thnF z3 fun y s5 ⟨yv, H4, I5, ry, c, S, nn, ey, hS, hn, hx⟩ => ?_
        subst ey
        refine thnF (mt_sadd _ s5 σ2 H4 (.ref D) [.int c] (.ref D) [y] (fun v H6 => H6 = upd H4 D (SetO X.w D (fun j => S j || decide (j = c)) (if S c = true then nn else nn + 1))) I5 rfl (.cons ry .nil) ⟨D, c, S, nn, rfl, rfl, hS, hn, rfl⟩) fun _ s6 ⟨v6, H6, I6, r6, q6⟩ => ?_
        subst q6
        obtain ⟨m', lt, w⟩ := hNx _ hx
        exact ⟨m', lt, i + 1, _, back hw I6.unpinned, (keepT I6).1, (keepT I6).2, w⟩
  exact PpSet.codeAny_compStart_set loop (T.self _ 0 _ _ _ st4 loop)
/-- len of such a set -/
theorem c_lenset : CallR X (.builtin "len") (fun xs H Q => ∃ (a : Addr) (S : Int → Bool) (n : Nat), xs = [.ref a] ∧ H a = some (SetO X.w a S n) ∧ Q (.int n) H) := by
  intro pins s σ H xs us Q I r ⟨a, S, n, ex, hH, q⟩
  subst ex
  cases r with
  | cons r0 rr =>
    cases rr
    cases r0
    obtain ⟨o, es, ep, t, hg, hex, hd, _, _, _, hz, hf, en, _⟩ := setO_get I hH
    refine call_function_tree kind_len plain_len entry_len (args_len1 _) (thn (wpAny_len_body_set (A := X.A.in1) hg hex hd hf (by have : scanBound = 4096 := rfl; omega) (Q := fun v s' => EP X pins σ Q v s') ?_) fun fin s' ⟨r, e, q⟩ => ?_)
    · exact ⟨.int n, H, I.tok _, ⟨_, by rw [en]⟩, q⟩
    · subst e
      exact q
def evLenset (own : List Nat) (src : Src) (tg : Tg) (ea cond elt : Env' → Hm → R) : Env' → Hm → R := fun ρ h => onArgs (ea ρ h) fun xs h1 => match evSrc src xs h1 with
  | some (items, g) => setL g tg (wipeE ρ own) cond elt h1.length items (h1 ++ [.set []])
  | none => .bad
theorem addI_mem {y : Int} {acc : List Int} {S : Int → Bool} (hS : ∀ j, S j = true ↔ j ∈ acc) : ∀ j, (S j || decide (j = y)) = true ↔ j ∈ addI y acc := fun j => by
  unfold addI
  simp only [Bool.or_eq_true, decide_eq_true_eq]
  rw [hS]
  split
  · rename_i hy
    constructor
    · rintro (h | rfl)
      · exact h
      · exact hy
    · exact .inl
  · simp
theorem addI_len {y : Int} {acc : List Int} {S : Int → Bool} (hS : ∀ j, S j = true ↔ j ∈ acc) : (addI y acc).length = if S y = true then acc.length else acc.length + 1 := by
  unfold addI
  by_cases h : y ∈ acc
  · rw [if_pos h, if_pos ((hS y).mpr h)]
  · rw [if_neg h, if_neg (fun q => h ((hS y).mp q)), List.length_append]
    rfl
theorem lenset_read {G : Gx} {W : WX} (hex : G.ex = none) (hw : G.w = X.w) {own : List Nat} {src : Src} {tg : Tg} {ea cond elt : Env' → Hm → R} {g : TG} {weak : Bool} {σ : L2.St} {H : Hp} {Q : VK} (hg : TgOk X G weak tg g) (hsl : ∀ i ∈ tg.slots, i ∈ own)
    (t : TEv G W (evLenset own src tg ea cond elt) σ H Q) : tSetI X.w (TIv G W weak ea src) g (TTv G W0 cond) (TEv G W0 elt) own σ H (fun x H1 => ∃ (a : Addr) (S : Int → Bool) (n : Nat), [x] = [V.ref a] ∧ H1 a = some (SetO X.w a S n) ∧ Q (.int n) H1) := by
  obtain ⟨ρ, π, h, E, M, p⟩ := t
  refine ⟨ρ, π, h, E, M, p.args.imp fun ds h1 vs H1 π1 _ e1 p1 M1 R1 q => ?_⟩
  split at q
  · rename_i items gd hes
    refine ⟨items, gd, hes, fun J H2 e2 M2 wk D hD => ?_⟩
    have E2 : EnvOk G H2 π1 ρ σ := E.mono (e1.trans e2) p1
    have q := Post.weak e2 (List.prefix_refl _) q
    have hn : (π1 ++ [D])[h1.length]? = some D := by
      rw [List.getElem?_append_right (by rw [M2.len]; exact Nat.le_refl _), M2.len]; simp
    have step : ∀ {H : Hp} {π : List Addr} {h : Hm}, π1 ++ [D] <+: π → π1 <+: π := fun a => (List.prefix_append _ _).trans a
    rw [← hw]
    let Wi : Nat → Hp → Prop := fun i H => ∃ π h, Ext H2 H ∧ π1 ++ [D] <+: π ∧ HmOk G H π h ∧ Post G W σ H π (setL gd tg (wipeE ρ own) cond elt h1.length (items.drop i) h) fun _ _ v H' _ => Q v H'
    refine ⟨fun i m H => m = items.length - i ∧ i ≤ items.length ∧ Wi i H, ⟨items.length, by simp, Nat.zero_le _, π1 ++ [D], h1 ++ [.set []], .new hD, List.prefix_refl _, M2.push hD (show CellOk G H2 π1 (.set []) D (some (SetO G.w D (fun _ => false) 0)) from ⟨_, rfl, fun j => by simp⟩), ?_⟩, ?_⟩
    · rw [List.drop_zero]
      exact Post.weak (.new hD) (List.prefix_append _ _) q
    · rintro i m H ⟨rfl, hi, π', h', e', p', M', q'⟩
      by_cases hlt : i < items.length
      · rw [List.drop_eq_getElem_cons hlt] at q'
        unfold setL at q'
        split at q'
        · rename_i hgd
          refine .inr ⟨wk.goes i H π' h' hlt e' (step p' (H := H) (h := h')) M' hgd, Wi (i + 1), fun H' z => ⟨items.length - (i + 1), by omega, rfl, hlt, z⟩, fun x H' y => ?_⟩
          obtain ⟨d, hd, ex, Mx, rx⟩ := wk.yields i H π' h' x H' hlt e' (step p' (H := H) (h := h')) M' hgd y
          have ed : items[i] = d := by
            rw [List.getElem?_eq_getElem hlt] at hd; exact Option.some.inj hd
          rw [ed] at q'
          have q' := Post.weak ex (List.prefix_refl _) q'
          have Ew : EnvOk G H' π' (wipeE ρ own) (wipe σ own) := (E2.mono (e'.trans ex) (step p' (H := H) (h := h'))).wipe hex own
          split at q'
          · exact q'.elim
          · rename_i ρ1 hset
            refine hg x (wipe σ own) H' _ (wipeE ρ own) ρ1 π' h' d hex Ew Mx rx hset fun σ1 E1 hw => ⟨by rw [hw own hsl, wipe_wipe], ρ1, π', h', E1, Mx, ?_⟩
            cases qc : cond ρ1 h' with
            | bad => rw [qc] at q'; exact q'.elim
            | exn x3 h3 => rw [qc] at q'; exact q'.elim
            | ok c h3 =>
              rw [qc] at q'
              intro v3 H3 π3 e3 p3 M3 R3
              have q' := Post.weak e3 p3 q'
              dsimp only at q'
              cases qt : truth h3 c with
              | none => rw [qt] at q'; exact q'.elim
              | some b =>
                rw [qt] at q'
                refine ⟨b, rfl, ?_⟩
                cases b with
                | false =>
                  rw [if_neg Bool.false_ne_true]
                  exact ⟨π3, h3, (e'.trans ex).trans e3, p'.trans p3, M3, q'⟩
                | true =>
                  rw [if_pos rfl]
                  refine ⟨ρ1, π3, h3, E1.mono e3 p3, M3, ?_⟩
                  dsimp only at q'
                  cases qe : elt ρ1 h3 with
                  | bad => rw [qe] at q'; exact q'.elim
                  | exn x4 h4 => rw [qe] at q'; exact q'.elim
                  | ok y4 h4 =>
                    rw [qe] at q'
                    intro v4 H4 π4 e4 p4 M4 R4
                    have q' := Post.weak e4 p4 q'
                    cases y4 with
                    | int y4 =>
                      dsimp only at q'
                      split at q'
                      · rename_i acc hacc
                        split at q'
                        · rename_i hz
                          have hp4 : π4[h1.length]? = some D := pre_get ((p'.trans p3).trans p4) hn
                          obtain ⟨S, z1, z2⟩ := M4.cell _ _ _ hacc hp4
                          cases rep_int R4
                          refine ⟨y4, S, acc.length, rfl, z1, by have : scanBound = 4096 := rfl; omega, π4, _, (((e'.trans ex).trans e3).trans e4).trans (.ext z1), (p'.trans p3).trans p4, ?_, Post.weak (.ext z1) (List.prefix_refl _) q'⟩
                          have := M4.sets (acc := addI y4 acc) (S' := fun j => S j || decide (j = y4)) hp4 z1 (addI_mem z2)
                          rw [addI_len z2] at this
                          exact this
                        · exact q'.elim
                      · exact q'.elim
                    | _ => exact q'.elim
        · exact q'.elim
      · have e : i = items.length := by omega
        subst e
        rw [List.drop_length] at q'
        unfold setL at q'
        split at q'
        · rename_i hgd
          refine .inl ⟨wk.stops H π' h' e' (step p' (H := H) (h := h')) M' hgd, ?_⟩
          split at q'
          · rename_i acc hacc
            obtain ⟨S, z1, z2⟩ := M'.cell _ _ _ hacc (pre_get p' hn)
            exact ⟨D, S, acc.length, rfl, z1, post_pure M' (.int _) q'⟩
          · exact q'.elim
        · exact q'.elim
  · exact q.elim
variable {P : Pg} {nm : Nm} {N : List Str} {sc : Scope} {w k : Nat} {G : Gx} {W : WX}
/-- len({e for .. in ..}) -/
theorem e_lenset {elt tg iter : Expr} {ifs : List Expr} {scope : Scope} {own : List (Str × Nat)} {p0 pos pos' : Pos} {src : Src} {g : TG} {weak : Bool} {t : Tg} {ea ec ee : E} {c : Nat → List D → Hm → Z.R} (o : OkE P w k nm N sc none G W X) (hgl : sc.names.lookup ("len" : Str) = some .globalImplicit)
    (hi : PI X tg iter (TIv G W weak (evE c ea) src)) (ok : BlkOk N X.env.scope scope own) (hg : ∀ X', OkE P w k nm N scope none G W0 X' → PG X' tg g) (hgo : TgOk X G weak t g) (hsl : ∀ i ∈ t.slots, i ∈ own.map (·.2))
    (ht : ∀ X', OkE P w k nm N scope none G W0 X' → PTs X' ifs (TTv G W0 (evE c ec))) (he : ∀ X', OkE P w k nm N scope none G W0 X' → PE X' elt (TEv G W0 (evE c ee))) (hs : ∀ x, foldedSetIterable iter X.env x = pure x) :
    PE X (.Call (.Name "len" p0) [.SetComp elt [⟨tg, iter, ifs, 0⟩] scope pos] [] pos') (TEv G W (evE c (.lenset (own.map (·.2)) src ea t ec ee))) := by
  refine pe_imp (pe_callB c_lenset (o.gl hgl) (o.blt _ (by decide +kernel)) (by decide +kernel) (pa_cons (pe_setI (o.calm rfl) (by rw [o.hN]; exact o.nd) hi (by rw [o.hN]; exact ok) (fun s H C cl fp => hg _ (o.blk ok s H C cl fp)) (fun s H C cl fp => ht _ (o.blk ok s H C cl fp)) (fun s H C cl fp => he _ (o.blk ok s H C cl fp)) hs) pa_nil (star_cons (by rfl))) (by decide +kernel) (by decide +kernel) (star_cons (by rfl)) (by rfl)) fun σ H Q ⟨ρ, π, h, E, M, q⟩ => ?_
  refine lenset_read (o.gex rfl) o.hw hgo hsl ⟨ρ, π, h, E, M, ?_⟩
  simp only [evE] at q
  exact q
end
end Z

set_option Elab.async false
set_option linter.all false
set_option maxRecDepth 100000
set_option maxHeartbeats 4000000
namespace Z
open PySem PySem.Spec PyProof.Rows L2
/-! ### zip and enumerate -/
section
variable {G : Gx} {W : WX} {X : Cx}
theorem zipD_get : ∀ {xs ys : List D} {i : Nat} {a b : D}, xs[i]? = some a → ys[i]? = some b → (zipD xs ys)[i]? = some (.tup [a, b])
  | [], _, _, _, _, h, _ => by simp at h
  | _ :: _, [], _, _, _, _, h => by simp at h
  | x :: r, y :: s, 0, a, b, h1, h2 => by simp at h1 h2; subst h1; subst h2; rfl
  | x :: r, y :: s, i + 1, a, b, h1, h2 => by
    simp only [zipD, List.getElem?_cons_succ] at h1 h2 ⊢
    exact zipD_get h1 h2
theorem zipD_len : ∀ {xs ys : List D}, (zipD xs ys).length = min xs.length ys.length
  | [], _ => by simp [zipD]
  | _ :: _, [] => by simp [zipD]
  | x :: r, y :: s => by
    simp only [zipD, List.length_cons, zipD_len (xs := r) (ys := s)]
    omega
theorem enumD_get : ∀ {xs : List D} {k i : Nat} {a : D}, xs[i]? = some a → (enumD k xs)[i]? = some (.tup [.int ((k + i : Nat) : Int), a])
  | [], _, _, _, h => by simp at h
  | x :: r, k, 0, a, h => by simp at h; subst h; rfl
  | x :: r, k, i + 1, a, h => by
    simp only [enumD, List.getElem?_cons_succ] at h ⊢
    rw [enumD_get h]
    congr 4
    omega
theorem enumD_len : ∀ {xs : List D} {k : Nat}, (enumD k xs).length = xs.length
  | [], _ => rfl
  | x :: r, k => by simp only [enumD, List.length_cons, enumD_len]
theorem gd_split {g g' : Gd} {h : Hm} (e : gdOk (g ++ g') h = true) : gdOk g h = true ∧ gdOk g' h = true := by
  unfold gdOk at e ⊢
  rw [List.all_append, Bool.and_eq_true] at e
  exact e
/-- a list that stands there, later -/
theorem lst_later {H : Hp} {π : List Addr} {h : Hm} {x : D} {v : V} {xs : List D} (M : HmOk G H π h) (r : Rep G H π x v) (e : listOf h x = some xs) (nt : isTupD x = false) :
    ∃ a, v = .ref a ∧ (∃ vs, SqL G.K H a vs) ∧ ∀ {H2 π2 h2}, Ext H H2 → π <+: π2 → HmOk G H2 π2 h2 → gdOk (gdOf x xs) h2 = true → ∃ vs2, SqL G.K H2 a vs2 ∧ Reps G H2 π2 xs vs2 := by
  obtain ⟨a, vs, e1, rs, kd⟩ := listOf_ok M r e
  refine ⟨a, e1, ?_⟩
  rcases kd with ⟨rfl, t⟩ | ⟨t, rfl⟩ | ⟨n, rfl, hn, hp, t⟩
  · cases nt
  · exact ⟨⟨vs, t.sq⟩, fun e2 p2 M2 g2 => ⟨vs, (e2.roL t).sq, rs.mono e2 p2⟩⟩
  · refine ⟨⟨vs, .of t⟩, fun e2 p2 M2 g2 => ?_⟩
    obtain ⟨a2, ha2, vs2, q1, q2⟩ := M2.at (gdOk_one g2)
    have : a2 = a := pre_get' p2 hp ha2
    subst this
    exact ⟨vs2, .of q1, q2⟩
theorem tup_later {H : Hp} {π : List Addr} {h : Hm} {x : D} {v : V} {xs : List D} (M : HmOk G H π h) (r : Rep G H π x v) (e : listOf h x = some xs) (nt : isTupD x = true) :
    ∃ a, v = .ref a ∧ (∃ vs, SqT G.K H a vs) ∧ ∀ {H2 π2}, Ext H H2 → π <+: π2 → ∃ vs2, SqT G.K H2 a vs2 ∧ Reps G H2 π2 xs vs2 := by
  obtain ⟨a, vs, e1, rs, kd⟩ := listOf_ok M r e
  refine ⟨a, e1, ?_⟩
  rcases kd with ⟨rfl, t⟩ | ⟨t, rfl⟩ | ⟨n, rfl, hn, hp, t⟩
  · exact ⟨⟨vs, t.sqT⟩, fun e2 p2 => ⟨vs, (e2.tupF t).sqT, rs.mono e2 p2⟩⟩
  · cases nt
  · cases nt
theorem it_pair {H : Hp} {π : List Addr} {h : Hm} {T : Addr} {a b : D} {x y : V} (M : HmOk G H π h) (hT : H T = none) (ra : Rep G H π a x) (rb : Rep G H π b y) :
    Ext H (upd H T (.tup [x, y])) ∧ HmOk G (upd H T (.tup [x, y])) π h ∧ ItRep G (upd H T (.tup [x, y])) π true (.tup [a, b]) (.ref T) := by
  have e : Ext H (upd H T (.tup [x, y])) := .new hT
  exact ⟨e, M.ext_new hT, .inr ⟨rfl, T, [x, y], [a, b], rfl, rfl, .of upd_same, .cons (ra.mono e (List.prefix_refl _)) (.cons (rb.mono e (List.prefix_refl _)) .nil)⟩⟩
/-- both walks, list by list or tuple by tuple -/
theorem walkZ_zip {H : Hp} {π : List Addr} {a b : Addr} {x y : D} {xs ys : List D} {Sq : Hp → Addr → List V → Prop} {J : It}
    (jg : ∀ i H u v p q, Sq H a u → Sq H b v → u[i]? = some p → v[i]? = some q → J.go i H) (js : ∀ i H u v, Sq H a u → Sq H b v → (u.length ≤ i ∨ v.length ≤ i) → J.stop i H)
    (jy : ∀ i H w H', J.yld i H w H' → ∃ T p q, w = .ref T ∧ H T = none ∧ H' = upd H T (.tup [p, q]) ∧ (∀ u, Sq H a u → u[i]? = some p) ∧ ∀ v, Sq H b v → v[i]? = some q)
    (la : ∀ {H2 π2 h2}, Ext H H2 → π <+: π2 → HmOk G H2 π2 h2 → gdOk (gdOf x xs) h2 = true → ∃ u, Sq H2 a u ∧ Reps G H2 π2 xs u)
    (lb : ∀ {H2 π2 h2}, Ext H H2 → π <+: π2 → HmOk G H2 π2 h2 → gdOk (gdOf y ys) h2 = true → ∃ u, Sq H2 b u ∧ Reps G H2 π2 ys u) : WalkZ G H π J (zipD xs ys) (gdOf x xs ++ gdOf y ys) true := by
  refine ⟨fun i H2 π2 h2 hi e2 p2 M2 g2 => ?_, fun H2 π2 h2 e2 p2 M2 g2 => ?_, fun i H2 π2 h2 w H3 hi e2 p2 M2 g2 yl => ?_⟩
  · obtain ⟨g3, g4⟩ := gd_split g2
    obtain ⟨u, s1, r1⟩ := la e2 p2 M2 g3
    obtain ⟨v, s2, r2⟩ := lb e2 p2 M2 g4
    rw [zipD_len, r1.length, r2.length] at hi
    exact jg i H2 u v (u[i]'(by omega)) (v[i]'(by omega)) s1 s2 (List.getElem?_eq_getElem _) (List.getElem?_eq_getElem _)
  · obtain ⟨g3, g4⟩ := gd_split g2
    obtain ⟨u, s1, r1⟩ := la e2 p2 M2 g3
    obtain ⟨v, s2, r2⟩ := lb e2 p2 M2 g4
    rw [zipD_len, r1.length, r2.length]
    exact js _ H2 u v s1 s2 (by omega)
  · obtain ⟨g3, g4⟩ := gd_split g2
    obtain ⟨u, s1, r1⟩ := la e2 p2 M2 g3
    obtain ⟨v, s2, r2⟩ := lb e2 p2 M2 g4
    obtain ⟨T, p, q, rfl, hT, rfl, yu, yv⟩ := jy i H2 w H3 yl
    obtain ⟨d1, h1, k1⟩ := r1.get' (yu u s1)
    obtain ⟨d2, h2, k2⟩ := r2.get' (yv v s2)
    obtain ⟨e3, M3, it⟩ := it_pair M2 hT k1 k2
    exact ⟨_, zipD_get h1 h2, e3, M3, it⟩
theorem walkZ_enum {H : Hp} {π : List Addr} {a : Addr} {x : D} {xs : List D}
    (la : ∀ {H2 π2 h2}, Ext H H2 → π <+: π2 → HmOk G H2 π2 h2 → gdOk (gdOf x xs) h2 = true → ∃ u, SqL G.K H2 a u ∧ Reps G H2 π2 xs u) : WalkZ G H π (Ite G.K a) (enumD 0 xs) (gdOf x xs) true := by
  refine ⟨fun i H2 π2 h2 hi e2 p2 M2 g2 => ?_, fun H2 π2 h2 e2 p2 M2 g2 => ?_, fun i H2 π2 h2 w H3 hi e2 p2 M2 g2 yl => ?_⟩
  · obtain ⟨u, s1, r1⟩ := la e2 p2 M2 g2
    rw [enumD_len, r1.length] at hi
    exact ⟨u, u[i]'hi, s1, List.getElem?_eq_getElem _⟩
  · obtain ⟨u, s1, r1⟩ := la e2 p2 M2 g2
    rw [enumD_len, r1.length]
    exact ⟨u, s1, Nat.le_refl _⟩
  · obtain ⟨u, s1, r1⟩ := la e2 p2 M2 g2
    obtain ⟨T, p, rfl, hT, rfl, yu⟩ := yl
    obtain ⟨d1, h1, k1⟩ := r1.get' (yu u s1)
    obtain ⟨e3, M3, it⟩ := it_pair (a := .int (i : Int)) M2 hT (.int _) k1
    have := enumD_get (k := 0) h1
    rw [Nat.zero_add] at this
    exact ⟨_, this, e3, M3, it⟩
end
end Z

set_option Elab.async false
set_option linter.all false
set_option maxRecDepth 100000
set_option maxHeartbeats 4000000
namespace Z
open PySem PySem.Spec PyProof.Rows L2
/-! ### enumerate over a tuple, at the machine's level -/
section
variable {prog : Program} {w : World} {A : Around} {E : Value → Shared → Prop} {s : Shared}
theorem enumT_next {e it l : Addr} {i : Nat} {items : Array Value} {x old : Value} {Q : Value → Shared → Prop} (hE : IsEnum s.heap e it (i : Int) old) (hI : s.heap.IsTupleIter it l i) (hL : s.heap.IsTuple l items) (hx : items[i]? = some x) (ne : e ≠ it)
    (q : ∀ h' : Heap, IsEnumOut h' e it ((i : Int) + 1) x s.heap.objs.size → h'.IsTupleIter it l (i + 1) → h'.get? s.heap.objs.size = some { cls := .type "tuple", data := .seq #[.int (i : Int) s.toks, x] } → h'.objs.size = s.heap.objs.size + 1 →
      (∀ (b : Addr) (o : Obj), b ≠ e → b ≠ it → s.heap.get? b = some o → h'.get? b = some o) → Q (.ref s.heap.objs.size) { heap := h', gens := s.gens, drawn := s.drawn, toks := s.toks + 1, os := s.os }) :
    wpAny (model prog w) A (Builtin.«enumerate.__next__» { pos := [.ref e] }) (fun fin s' => ∃ v, fin = Fin.done (Flow.ret v) ∧ Q v s') E s := by
  have le : e < s.heap.objs.size := Heap.lt_size hE
  have li : it < s.heap.objs.size := by obtain ⟨o, h, _⟩ := hI; exact Heap.lt_size h
  show wpAny _ A (slotArgs "__next__" 0 { pos := [.ref e] } >>= _) _ _ s
  refine wpAny_bind (wpAny_of_eq (show slotArgs "__next__" 0 { pos := [.ref e] } = pure (.ref e, []) from rfl) ?_)
  refine wpAny_bind (wpAny_field hE rfl rfl ?_)
  refine wpAny_bind (RZ.nextOf_tuple_item hI hL hx fun h1 hI1 sb1 => ?_)
  have hE1 : h1.get? e = _ := (sb1.2 e ne).trans hE
  refine wpAny_bind (wpAny_field (s := { s with heap := h1 }) hE1 rfl rfl ?_)
  refine wpAny_bind (wpAny_field (s := { s with heap := h1 }) hE1 rfl rfl ?_)
  show wpAny _ A (mkInt (i : Int) >>= _) _ _ _
  refine wpAny_bind (wpAny_mkInt ?_)
  refine wpAny_bind (wpAny_setField_rec hE1 (by simp) fun h2 hE2 sb2 => ?_)
  refine wpAny_bind (wpAny_setField_rec hE2 (by simp) fun h3 hE3 sb3 => ?_)
  refine wpAny_bind (wpAny_newTuple ?_)
  have z3 : h3.objs.size = s.heap.objs.size := sb3.1.trans (sb2.1.trans sb1.1)
  have hE4 := Heap.get?_push_of_some ({ cls := .type "tuple", data := .seq [Value.int (i : Int) s.toks, x].toArray } : Obj) hE3
  have ht : (h3.push { cls := .type "tuple", data := .seq [Value.int (i : Int) s.toks, x].toArray }).get? h3.objs.size = _ := Heap.get?_push_size _ rfl
  have zp : (h3.push { cls := .type "tuple", data := .seq [Value.int (i : Int) s.toks, x].toArray }).objs.size = h3.objs.size + 1 := Heap.size_push ..
  have kp : ∀ (b : Addr) (o : Obj), h3.get? b = some o → (h3.push { cls := .type "tuple", data := .seq [Value.int (i : Int) s.toks, x].toArray }).get? b = some o := fun b o h => Heap.get?_push_of_some _ h
  generalize h3.push { cls := .type "tuple", data := .seq [Value.int (i : Int) s.toks, x].toArray } = h4 at hE4 ht zp kp ⊢
  refine wpAny_bind ?_
  show wpAny _ A (field (.ref e) 0 >>= _) _ _ _
  refine wpAny_bind (wpAny_field (s := { heap := h4, gens := s.gens, drawn := s.drawn, toks := s.toks + 1, os := s.os }) hE4 rfl (by rfl) (wpAny_pure ?_))
  rw [if_pos rfl]
  refine wpAny_bind (wpAny_rule ?_)
  refine wpAny_bind (wpAny_field (s := { heap := h4, gens := s.gens, drawn := s.drawn, toks := s.toks + 1, os := s.os }) hE4 rfl (by rfl) ?_)
  refine wpAny_bind (wpAny_setField_rec (s := { heap := h4, gens := s.gens, drawn := s.drawn, toks := s.toks + 1, os := s.os }) hE4 (by simp) fun h5 hE5 sb5 => ?_)
  refine wpAny_bind ?_
  show wpAny _ A (setField (.ref e) 0 (rawInt (h3.objs.size : Nat)) >>= _) _ _ _
  refine wpAny_bind (wpAny_setField_rec hE5 (by simp) fun h6 hE6 sb6 => ?_)
  refine wpAny_setField_rec hE6 (by simp) fun h7 hE7 sb7 => ?_
  refine wpAny_bind (wpAny_letGo (wpAny_pure ⟨_, rfl, ?_⟩))
  have nb : s.heap.objs.size ≠ e := Nat.ne_of_gt le
  have up : ∀ (b : Addr) (o : Obj), b ≠ e → h4.get? b = some o → h7.get? b = some o := fun b o hb h => (sb7.2 b hb).trans ((sb6.2 b hb).trans ((sb5.2 b hb).trans h))
  have up1 : ∀ (b : Addr) (o : Obj), b ≠ e → h1.get? b = some o → h7.get? b = some o := fun b o hb h => up b o hb (kp b o ((sb3.2 b hb).trans ((sb2.2 b hb).trans h)))
  rw [z3] at hE7 ht
  have := q h7 ?_ ?_ (up _ _ nb ht) ?_ (fun b o h1 h2 h => up1 b o h1 ((sb1.2 b h2).trans h))
  · show Q (.ref h3.objs.size) _
    rw [z3]
    exact this
  · show h7.get? e = _
    rw [hE7]
    rfl
  · obtain ⟨o, h, r⟩ := hI1
    exact ⟨o, up1 it o ne.symm h, r⟩
  · rw [sb7.1, sb6.1, sb5.1]
    show h4.objs.size = _
    omega
theorem enumT_end {e it l : Addr} {i : Nat} {items : Array Value} {old : Value} {Q : PySem.Fin → Shared → Prop} (hh : A.handled = none) (hE : IsEnum s.heap e it (i : Int) old) (hI : s.heap.IsTupleIter it l i) (hL : s.heap.IsTuple l items) (hx : items[i]? = none)
    (q : ∀ (h' : Heap) (x : Addr), Heap.ExtBut it s.heap h' → (∃ o, h'.get? x = some o ∧ o.cls = .type "StopIteration") → E (.ref x) { heap := h', gens := s.gens, drawn := s.drawn, toks := s.toks, os := s.os }) :
    wpAny (model prog w) A (Builtin.«enumerate.__next__» { pos := [.ref e] }) Q E s := by
  show wpAny _ A (slotArgs "__next__" 0 { pos := [.ref e] } >>= _) _ _ s
  refine wpAny_bind (wpAny_of_eq (show slotArgs "__next__" 0 { pos := [.ref e] } = pure (.ref e, []) from rfl) ?_)
  refine wpAny_bind (wpAny_field hE rfl rfl ?_)
  exact wpAny_bind (RZ.nextOf_tuple_end hh hI hL hx q)
theorem pyNext_enumT {e it l : Addr} {i : Nat} {items : Array Value} {x old : Value} {Q : Option Value → Shared → Prop} (hE : IsEnum s.heap e it (i : Int) old) (hI : s.heap.IsTupleIter it l i) (hL : s.heap.IsTuple l items) (hx : items[i]? = some x) (ne : e ≠ it)
    (q : ∀ h' : Heap, IsEnumOut h' e it ((i : Int) + 1) x s.heap.objs.size → h'.IsTupleIter it l (i + 1) → h'.get? s.heap.objs.size = some { cls := .type "tuple", data := .seq #[.int (i : Int) s.toks, x] } → h'.objs.size = s.heap.objs.size + 1 →
      (∀ (b : Addr) (o : Obj), b ≠ e → b ≠ it → s.heap.get? b = some o → h'.get? b = some o) → Q (some (.ref s.heap.objs.size)) { heap := h', gens := s.gens, drawn := s.drawn, toks := s.toks + 1, os := s.os }) :
    wpAny (model prog w) A (pyNext (.ref e)) Q E s := by
  have ty : s.TypeIs (.ref e) "enumerate" := ⟨_, hE, rfl⟩
  refine wpAny_bind (wpAny_attempt (wpAny_callSpecial?_slot ty PySem.F.slot_enumerate_next ?_))
  refine call_meets (S := fun A R s' => s' = s ∧ ∀ v s', (∃ h' : Heap, v = .ref s.heap.objs.size ∧ s' = { heap := h', gens := s.gens, drawn := s.drawn, toks := s.toks + 1, os := s.os } ∧ IsEnumOut h' e it ((i : Int) + 1) x s.heap.objs.size ∧ h'.IsTupleIter it l (i + 1) ∧ h'.get? s.heap.objs.size = some { cls := .type "tuple", data := .seq #[.int (i : Int) s.toks, x] } ∧ h'.objs.size = s.heap.objs.size + 1 ∧
      (∀ (b : Addr) (o : Obj), b ≠ e → b ≠ it → s.heap.get? b = some o → h'.get? b = some o)) → R (.ok (.ret v)) s') PySem.F.slot_enumerate_next ty PySem.F.entry_enumerate_next (PySem.F.args_enumerate_next_1 _) ?_ ?_
  · rintro prog w A R s0 ⟨rfl, k⟩
    refine thn (enumT_next (Q := fun v s' => R (.ok (.ret v)) s') hE hI hL hx ne fun h' a b c d f => k _ _ ⟨h', rfl, rfl, a, b, c, d, f⟩) fun fin s' ⟨v, e1, z⟩ => ?_
    subst e1
    exact z
  · refine ⟨rfl, fun v s' ⟨h', e1, e2, a, b, c, d, f⟩ => ?_⟩
    subst e1
    subst e2
    exact wpAny_pure (q h' a b c d f)
theorem pyNext_enumT_end {e it l : Addr} {i : Nat} {items : Array Value} {old : Value} {Q : Option Value → Shared → Prop} (hh : A.handled = none) (hE : IsEnum s.heap e it (i : Int) old) (hI : s.heap.IsTupleIter it l i) (hL : s.heap.IsTuple l items) (hx : items[i]? = none)
    (q : ∀ h' : Heap, Heap.ExtBut it s.heap h' → Q none { heap := h', gens := s.gens, drawn := s.drawn, toks := s.toks, os := s.os }) :
    wpAny (model prog w) A (pyNext (.ref e)) Q E s := by
  have ty : s.TypeIs (.ref e) "enumerate" := ⟨_, hE, rfl⟩
  refine wpAny_bind (wpAny_attempt (wpAny_callSpecial?_slot ty PySem.F.slot_enumerate_next ?_))
  refine call_meets (S := fun A R s' => A.handled = none ∧ s' = s ∧ ∀ v s', (∃ (h' : Heap) (y : Addr), v = .ref y ∧ s' = { heap := h', gens := s.gens, drawn := s.drawn, toks := s.toks, os := s.os } ∧ Heap.ExtBut it s.heap h' ∧ ∃ o, h'.get? y = some o ∧ o.cls = .type "StopIteration") → R (.error v) s') PySem.F.slot_enumerate_next ty PySem.F.entry_enumerate_next (PySem.F.args_enumerate_next_1 _) ?_ ?_
  · rintro prog w A R s0 ⟨hh, rfl, k⟩
    exact enumT_end hh hE hI hL hx fun h' y a b => k _ _ ⟨h', y, rfl, rfl, a, b⟩
  · refine ⟨hh, rfl, fun v s' ⟨h', y, e1, e2, a, o, hy, hc⟩ => ?_⟩
    subst e1
    subst e2
    show wpAny _ A (isInstance (.ref y) (.type "StopIteration") >>= _) _ _ _
    refine wpAny_bind (wpAny_isInstance (T := "StopIteration") (b := true) ⟨o, hy, hc⟩ (by kernel_rfl) ?_)
    exact wpAny_pure (q h' a)
end
end Z

set_option Elab.async false
set_option linter.all false
set_option maxRecDepth 100000
set_option maxHeartbeats 4000000
namespace Z
open PySem PySem.Spec PyProof.Rows L2
theorem called_any {M : Model} {A : Around} {c : Value} {Q : Bool → Shared → Prop} {E : Value → Shared → Prop} {s : Shared} (h : ∀ b, Q b s) : wpAny M A (Builtin.SmallTypes.calledThroughType c) Q E s := by
  show wpAny _ A (stack >>= _) _ _ s
  exact wpAny_bind (wpAny_stack fun st _ _ _ => wpAny_pure (h _))
theorem newClass_enum (l : Addr) : Builtin.SmallTypes.newClass "enumerate" { pos := [.type "enumerate", .ref l] } = pure (.type "enumerate", [.ref l]) := by kernel_rfl
theorem meets_enumT_new (l : Addr) (items : Array Value) : Meets (Builtin.«enumerate.__new__» { pos := [.type "enumerate", .ref l] }) fun A R s => s.heap.IsTuple l items ∧
    R (.ok (.ret (.ref (s.heap.push { cls := .type "tuple_iterator", data := .fields #[.ref l, .int 0 0] }).objs.size)))
      { heap := (s.heap.push { cls := .type "tuple_iterator", data := .fields #[.ref l, .int 0 0] }).push { cls := .type "enumerate", data := .fields #[.none, .bool false, .ref s.heap.objs.size, rawInt 0, .none, .none] }, gens := s.gens, drawn := s.drawn, toks := s.toks, os := s.os } := by
  intro prog w A R s ⟨hL, k⟩
  show wpAny _ A.in1 (Builtin.SmallTypes.newClass "enumerate" { pos := [.type "enumerate", .ref l] } >>= _) _ _ s
  refine wpAny_bind (wpAny_of_eq (newClass_enum l) ?_)
  show wpAny _ A.in1 (Builtin.SmallTypes.calledThroughType (.type "enumerate") >>= _) _ _ s
  refine wpAny_bind (called_any fun short => ?_)
  cases short
  · refine wpAny_bind (wpAny_of_eq (show _ = pure (Value.ref l, (none : Option Value)) from rfl) ?_)
    show wpAny _ A.in1 (pyIter (.ref l) >>= _) _ _ s
    refine wpAny_bind (wpAny_pyIter_tuple hL ?_)
    refine wpAny_bind ?_
    show wpAny _ A.in1 (newObj (.type "enumerate") (.fields #[.none, .bool false, .ref s.heap.objs.size, rawInt 0, .none, .none])) _ _ _
    exact wpAny_newObj_type (wpAny_pure k)
  · refine wpAny_bind (wpAny_of_eq (show _ = pure (Value.ref l, (none : Option Value)) from rfl) ?_)
    show wpAny _ A.in1 (pyIter (.ref l) >>= _) _ _ s
    refine wpAny_bind (wpAny_pyIter_tuple hL ?_)
    refine wpAny_bind ?_
    show wpAny _ A.in1 (newObj (.type "enumerate") (.fields #[.none, .bool false, .ref s.heap.objs.size, rawInt 0, .none, .none])) _ _ _
    exact wpAny_newObj_type (wpAny_pure k)
/-- enumerate(t), t a tuple -/
theorem call_enumT {prog : Program} {w : World} {A : Around} {E : Value → Shared → Prop} {s : Shared} {l : Addr} {items : Array Value} {Q : Value → Shared → Prop} (hL : s.heap.IsTuple l items)
    (q : ∀ h' : Heap, IsEnum h' (s.heap.objs.size + 1) s.heap.objs.size 0 .none → h'.IsTupleIter s.heap.objs.size l 0 → h'.objs.size = s.heap.objs.size + 2 → (∀ (b : Addr) (o : Obj), s.heap.get? b = some o → h'.get? b = some o) →
      Q (.ref (s.heap.objs.size + 1)) { heap := h', gens := s.gens, drawn := s.drawn, toks := s.toks, os := s.os }) :
    wpAny (model prog w) A (call (.type "enumerate") [.ref l]) Q E s := by
  refine callType_new PySem.F.called_enumerate (by decide) (PySem.F.typeCall_enumerate_1 _) (PySem.F.newCall_enumerate_1 _) (fun obj => PySem.F.args_object_init_2 _ _) PySem.F.entry_enumerate_new (meets_enumT_new l items) ⟨hL, ?_⟩
  have z1 : (s.heap.push { cls := .type "tuple_iterator", data := .fields #[.ref l, .int 0 0] }).objs.size = s.heap.objs.size + 1 := Heap.size_push ..
  have g1 : (s.heap.push { cls := .type "tuple_iterator", data := .fields #[.ref l, .int 0 0] }).get? s.heap.objs.size = _ := Heap.get?_push_size _ rfl
  have k1 : ∀ (b : Addr) (o : Obj), s.heap.get? b = some o → (s.heap.push { cls := .type "tuple_iterator", data := .fields #[.ref l, .int 0 0] }).get? b = some o := fun b o h => Heap.get?_push_of_some _ h
  generalize s.heap.push { cls := .type "tuple_iterator", data := .fields #[.ref l, .int 0 0] } = h1 at z1 g1 k1 ⊢
  have g2 : (h1.push { cls := .type "enumerate", data := .fields #[.none, .bool false, .ref s.heap.objs.size, rawInt 0, .none, .none] }).get? h1.objs.size = _ := Heap.get?_push_size _ rfl
  rw [z1] at g2 ⊢
  refine ⟨⟨_, g2, rfl⟩, q _ g2 ⟨_, Heap.get?_push_of_some _ g1, rfl, rfl⟩ ?_ fun b o h => Heap.get?_push_of_some _ (k1 b o h)⟩
  rw [Heap.size_push, z1]
end Z

set_option Elab.async false
set_option linter.all false
set_option maxRecDepth 100000
set_option maxHeartbeats 4000000
namespace Z
open PySem PySem.Spec PyProof.Rows L2
theorem vals_get : ∀ {xs : List V} {us : List Value} {i : Nat} {x : V}, Vals xs us → xs[i]? = some x → ∃ u, us[i]? = some u ∧ RelV x u
  | [], _, _, _, _, h => by simp at h
  | _ :: _, _ :: _, 0, _, .cons r _, h => by simp at h; subst h; exact ⟨_, rfl, r⟩
  | _ :: _, _ :: _, i + 1, _, .cons _ r, h => by
    simp only [List.getElem?_cons_succ] at h ⊢
    exact vals_get r h
theorem sqT_same {X : Cx} {pins : List (Addr × Obj)} {σ : L2.St} {H : Hp} {s : Shared} {a : Addr} {xs ys : List V} {i : Nat} {x : V} (I : Inv X pins σ H s) (h1 : SqT X.K H a xs) (h2 : SqT X.K H a ys) (hx : xs[i]? = some x) : ys[i]? = some x := by
  rw [I.tuple_inj h1 h2] at hx
  exact hx
def IteT (K : PySem.W.Frag) (a : Addr) : It where
  go := fun i H => ∃ xs x, SqT K H a xs ∧ xs[i]? = some x
  yld := fun i H v H' => ∃ T x, v = .ref T ∧ H T = none ∧ H' = upd H T (.tup [.int (i : Int), x]) ∧ ∀ xs, SqT K H a xs → xs[i]? = some x
  stop := fun i H => ∃ xs, SqT K H a xs ∧ xs.length ≤ i
theorem turn_enumT {P : Program} {w : World} {K : PySem.W.Frag} {elts : List Expr} {kk : Nat} {tpos : Pos} (a e it : Addr) :
    Turn P w K (.Tuple elts kk tpos) (IteT K a) [e, it] e fun i h => (∃ old, IsEnum h e it (i : Int) old) ∧ h.IsTupleIter it a i ∧ e ≠ it where
  mem := by simp
  obj := fun i h ⟨⟨old, hE⟩, hI, ne⟩ b hb => by
    rcases List.mem_cons.mp hb with rfl | hb
    · exact ⟨_, hE, fun v q => by cases q⟩
    · have : b = it := by simpa using hb
      subst this
      obtain ⟨o, h1, _, h3⟩ := hI
      exact ⟨o, h1, fun v q => by rw [h3] at q; cases q⟩
  keep := fun i h h' ⟨⟨old, hE⟩, hI, ne⟩ k => by
    obtain ⟨o, h1, h2⟩ := hI
    exact ⟨⟨old, k e (by simp) _ hE⟩, ⟨o, k it (by simp) _ h1, h2⟩, ne⟩
  item := fun X e1 e2 e3 hc i pins s σ H E I fo ⟨⟨old, hE⟩, hI, ne⟩ ⟨xs, x, sq, hx⟩ => by
    subst e1
    subst e2
    subst e3
    obtain ⟨its, rv, p, hz⟩ := I.tuple sq
    obtain ⟨u, hu, ru⟩ := vals_get rv hx
    have hu' : its.toArray[i]? = some u := by simpa using hu
    refine pyNext_enumT hE hI p hu' ne fun h' out hI' ht sz kp => ⟨_, rfl, ?_⟩
    refine wpAny_letOwnedTupleGo_enum out fun h2 en sb => ?_
    have kp2 : ∀ (b : Addr) (o : Obj), ¬ b ∈ [e, it] → s.heap.get? b = some o → h2.get? b = some o := fun b o hb h => by
      have nb : b ≠ e ∧ b ≠ it := by simpa using hb
      exact (sb.2 b nb.1).trans (kp b o nb.1 nb.2 h)
    have nT : s.heap.objs.size ≠ e := Nat.ne_of_gt (Heap.lt_size hE)
    have hT : H s.heap.objs.size = none := I.hok.fresh (Nat.le_refl _)
    have hT2 : h2.get? s.heap.objs.size = some { cls := .type "tuple", data := .seq #[.int (i : Int) s.toks, u] } := (sb.2 _ nT).trans ht
    refine ⟨.ref s.heap.objs.size, upd H s.heap.objs.size (.tup [.int (i : Int), x]), I.turnedNew (t' := s.toks + 1) kp2 fo (Nat.le_refl _) ⟨by show 2 ≤ sizeLine; decide, [.int (i : Int) s.toks, u], .cons ⟨_, rfl⟩ (.cons ru .nil), ⟨_, hT2, rfl, _, rfl⟩⟩, rfl, ⟨_, x, rfl, hT, rfl, fun ys hy => sqT_same I sq hy hx⟩, ⟨⟨u, by simpa using en⟩, ?_, ne⟩, fun b hb => ?_⟩
    · obtain ⟨o, g1, g2⟩ := hI'
      exact ⟨o, (sb.2 _ ne.symm).trans g1, g2⟩
    · have lb : b < s.heap.objs.size := by
        rcases List.mem_cons.mp hb with rfl | hb
        · exact Heap.lt_size hE
        · have : b = it := by simpa using hb
          subst this
          obtain ⟨o, g1, _⟩ := hI
          exact Heap.lt_size g1
      rw [upd_ne (Nat.ne_of_lt lb)]
      exact (fo b hb).1
  done := fun X e1 e2 e3 hc i pins s σ H E I fo ⟨⟨old, hE⟩, hI, ne⟩ ⟨xs, sq, hx⟩ => by
    subst e1
    subst e2
    subst e3
    obtain ⟨its, rv, p, hz⟩ := I.tuple sq
    have hl := rv.length
    have hn : its.toArray[i]? = none := by
      rw [List.getElem?_toArray, List.getElem?_eq_none]
      omega
    exact pyNext_enumT_end (I.ok.hd hc) hE hI p hn fun h' ex => ⟨rfl, I.turnedL (t' := s.toks) (ch := [e, it]) (fun b o hb h => ex b o (fun z => hb (by simp [z])) h) fo⟩
  self := fun A i s Q E ⟨⟨old, hE⟩, hI, ne⟩ q => wpAny_pyIter_enum hE q
section
variable {G : Gx} {W : WX} {X : Cx}
def iEnumA (K : PySem.W.Frag) (tl : TE) : TI := fun σ H R => tl σ H fun x H1 => ∃ a, x = .ref a ∧ (((∃ xs, SqL K H1 a xs) ∧ R (Ite K a) H1) ∨ ((∃ xs, SqT K H1 a xs) ∧ R (IteT K a) H1))
theorem pi_enumA {e : Expr} {te : TE} {elts : List Expr} {kk : Nat} {p pos tpos : Pos} (hg : Gl X "enumerate") (hm : X.mg "enumerate" = none) (he : PE X e te) (hs : starEach [e] X.env = (false, eval e X.env) :: starEach [] X.env) :
    PI X (.Tuple elts kk tpos) (.Call (.Name "enumerate" p) [e] [] pos) (iEnumA X.K te) := by
  refine ⟨fun pins s σ H R I h => ?_⟩
  refine Call_ (ld_blt I hg hm PyProof.Rows.boot_enumerate (PyProof.Rows.callWith_type1 (args_cons (thn (he.run pins s σ H _ I h) fun u s1 ⟨x, H1, I1, r1, a, e, q⟩ => args_nil ?_) hs) hs rfl))
  subst e
  obtain rfl : u = Value.ref a := r1
  have fp : ∀ b ∈ [s1.heap.objs.size + 1, s1.heap.objs.size], FpOk X pins H1 b := fun b hb => by
    have lb : s1.heap.objs.size ≤ b := by
      rcases List.mem_cons.mp hb with rfl | hb
      · exact Nat.le_succ _
      · have : b = s1.heap.objs.size := by simpa using hb
        rw [this]
        exact Nat.le_refl _
    exact I1.fpOk lb (I1.hok.fresh lb)
  rcases q with ⟨⟨xs, hq⟩, q⟩ | ⟨⟨xs, hq⟩, q⟩
  · obtain ⟨its, rv, p', hz⟩ := I1.list hq
    refine call_enumerate_list p'.isList fun h' en li sz kp => wpAny_pyIter_enum en ?_
    exact ⟨_, _, _, _, H1, rfl, I1.kept (t' := s1.toks) kp, turn_enum a _ _, ⟨⟨_, en⟩, li, Nat.succ_ne_self _⟩, fp, q⟩
  · obtain ⟨its, rv, p', hz⟩ := I1.tuple hq
    refine call_enumT p' fun h' en li sz kp => wpAny_pyIter_enum en ?_
    exact ⟨_, _, _, _, H1, rfl, I1.kept (t' := s1.toks) kp, turn_enumT a _ _, ⟨⟨_, en⟩, li, Nat.succ_ne_self _⟩, fp, q⟩
theorem walkZ_enumT {H : Hp} {π : List Addr} {a : Addr} {xs : List D}
    (la : ∀ {H2 π2}, Ext H H2 → π <+: π2 → ∃ u, SqT G.K H2 a u ∧ Reps G H2 π2 xs u) : WalkZ G H π (IteT G.K a) (enumD 0 xs) [] true := by
  refine ⟨fun i H2 π2 h2 hi e2 p2 M2 g2 => ?_, fun H2 π2 h2 e2 p2 M2 g2 => ?_, fun i H2 π2 h2 w H3 hi e2 p2 M2 g2 yl => ?_⟩
  · obtain ⟨u, s1, r1⟩ := la e2 p2
    rw [enumD_len, r1.length] at hi
    exact ⟨u, u[i]'hi, s1, List.getElem?_eq_getElem _⟩
  · obtain ⟨u, s1, r1⟩ := la e2 p2
    rw [enumD_len, r1.length]
    exact ⟨u, s1, Nat.le_refl _⟩
  · obtain ⟨u, s1, r1⟩ := la e2 p2
    obtain ⟨T, p, rfl, hT, rfl, yu⟩ := yl
    obtain ⟨d1, h1, k1⟩ := r1.get' (yu u s1)
    obtain ⟨e3, M3, it⟩ := it_pair (a := .int (i : Int)) M2 hT (.int _) k1
    have := enumD_get (k := 0) h1
    rw [Nat.zero_add] at this
    exact ⟨_, this, e3, M3, it⟩
theorem i_enumA {tg e : Expr} {p pos : Pos} {ea : Env' → Hm → R} (hK : G.K = X.K) (hg : Gl X "enumerate") (hm : X.mg "enumerate" = none) (ht : isTupE tg = true) (he : PE X e (TEv G W ea)) (hs : starEach [e] X.env = (false, eval e X.env) :: starEach [] X.env) :
    PI X tg (.Call (.Name "enumerate" p) [e] [] pos) (TIv G W true (fun ρ h => (ea ρ h).bind fun d h1 => (R.ok (.tup []) h1).bind fun ds h2 => match ds with | .tup xs => .ok (.tup (d :: xs)) h2 | _ => .bad) .enum) := by
  obtain ⟨es, kk, tp, rfl⟩ := isTupE_ok ht
  refine pi_imp (pi_enumA hg hm he hs) fun σ H R ⟨ρ, π, h, E, M, p⟩ => ⟨ρ, π, h, E, M, ?_⟩
  dsimp only at p
  cases q : ea ρ h with
  | bad => rw [q] at p; exact p.elim
  | exn x h1 => rw [q] at p; exact p
  | ok d h1 =>
    rw [q] at p
    intro v H1 π1 e1 p1 M1 R1
    obtain ⟨items, g, es, k2⟩ := p [v] H1 π1 e1 p1 M1 (.cons R1 .nil)
    change (listOf h1 d).map _ = some (items, g) at es
    rw [Option.map_eq_some_iff] at es
    obtain ⟨xs, hl, e2⟩ := es
    cases e2
    rw [← hK]
    cases tx : isTupD d with
    | false =>
      obtain ⟨a, rfl, ⟨v1, s1⟩, la⟩ := lst_later M1 R1 hl tx
      exact ⟨a, rfl, .inl ⟨⟨v1, s1⟩, k2 _ _ .refl M1 (walkZ_enum la)⟩⟩
    | true =>
      obtain ⟨a, rfl, ⟨v1, s1⟩, la⟩ := tup_later M1 R1 hl tx
      refine ⟨a, rfl, .inr ⟨⟨v1, s1⟩, k2 _ _ .refl M1 ?_⟩⟩
      have : gdOf d xs = [] := by
        cases d <;> first | rfl | cases tx
      rw [this]
      exact walkZ_enumT la
end
end Z

set_option Elab.async false
set_option linter.all false
set_option maxRecDepth 100000
set_option maxHeartbeats 4000000
namespace Z
open PySem PySem.Spec PyProof.Rows L2
/-! ### zip over two walks of any kinds, at the machine's level -/
/-- a walk that stands at C; what C says lies at the objects it and l alone -/
def Stays (it l : Addr) (C : Heap → Prop) : Prop := ∀ {h h' : Heap}, C h → (∀ o, h.get? it = some o → h'.get? it = some o) → (∀ o, h.get? l = some o → h'.get? l = some o) → C h'
/-- the next turn gives x and leads from C to C' -/
def Gives (prog : Program) (w : World) (it : Addr) (C C' : Heap → Prop) (x : Value) : Prop :=
  ∀ {A : Around} {E : Value → Shared → Prop} {s : Shared} {Q : Value → Shared → Prop}, C s.heap → (∀ h', C' h' → Heap.SameBut it s.heap h' → Q x { s with heap := h' }) → wpAny (model prog w) A (Builtin.SmallTypes.nextOf (.ref it)) Q E s
def Stops (prog : Program) (w : World) (it : Addr) (C : Heap → Prop) : Prop :=
  ∀ {A : Around} {E : Value → Shared → Prop} {s : Shared} {Q : Value → Shared → Prop}, A.handled = none → C s.heap → (∀ h' e, Heap.ExtBut it s.heap h' → (∃ o, h'.get? e = some o ∧ o.cls = .type "StopIteration") → E (.ref e) { s with heap := h' }) → wpAny (model prog w) A (Builtin.SmallTypes.nextOf (.ref it)) Q E s
section
variable {prog : Program} {w : World} {A : Around} {E : Value → Shared → Prop} {s : Shared}
theorem zipX_item {z TI TO i1 i2 l1 l2 : Addr} {x y a b : Value} {C1 C2 D1 D2 : Heap → Prop} {Q : Value → Shared → Prop} (D : ZipApart z TI TO i1 i2 l1 l2)
    (sC1 : Stays i1 l1 C1) (sC2 : Stays i2 l2 C2) (sD1 : Stays i1 l1 D1) (sD2 : Stays i2 l2 D2) (g1 : Gives prog w i1 C1 D1 x) (g2 : Gives prog w i2 C2 D2 y)
    (hz : IsZip s.heap z TI TO .none) (hTI : IsPair s.heap TI (.ref i1) (.ref i2)) (hTO : IsPair s.heap TO a b) (c1 : C1 s.heap) (c2 : C2 s.heap)
    (q : ∀ h', IsZip h' z TI TO (rawInt s.heap.objs.size) → IsPair h' TO x y → D1 h' → D2 h' → IsPair h' s.heap.objs.size x y → h'.objs.size = s.heap.objs.size + 1 →
      (∀ c o, c ≠ z → c ≠ TO → c ≠ i1 → c ≠ i2 → s.heap.get? c = some o → h'.get? c = some o) → Q (.ref s.heap.objs.size) { s with heap := h' }) :
    wpAny (model prog w) A (Builtin.«zip.__next__» { pos := [.ref z] }) (fun fin s' => ∃ v, fin = Fin.done (Flow.ret v) ∧ Q v s') E s := by
  show wpAny _ A (slotArgs "__next__" 0 { pos := [.ref z] } >>= _) _ _ s
  refine wpAny_bind (wpAny_of_eq (show slotArgs "__next__" 0 { pos := [.ref z] } = pure (.ref z, []) from rfl) ?_)
  refine wpAny_bind (wpAny_field hz rfl (x := .bool false) rfl ?_)
  refine wpAny_bind (wpAny_field hz rfl (x := .ref TI) rfl ?_)
  refine wpAny_bind (wpAny_seqItems hTI rfl ?_)
  refine wpAny_bind ?_
  show wpAny _ A (field (.ref z) 0 >>= _) _ _ s
  refine wpAny_bind (wpAny_field hz rfl (x := .none) rfl (wpAny_pure ?_))
  rw [if_pos rfl]
  refine wpAny_bind (wpAny_rule ?_)
  refine wpAny_bind (wpAny_field hz rfl (x := .ref TO) rfl ?_)
  refine wpAny_bind (wpAny_setField_rec hz (by simp) fun h1 hz1 b1 => ?_)
  refine wpAny_bind ?_
  simp only [List.zipIdx_cons, List.zipIdx_nil, List.forIn_cons, List.forIn_nil]
  refine wpAny_bind (wpAny_bind (wpAny_onRaise ?_))
  show wpAny _ A (Builtin.SmallTypes.nextOf (.ref i1) >>= _) _ _ _
  refine wpAny_bind (g1 (s := { s with heap := h1 }) (sC1 c1 (fun o e => (b1.2 _ D.i1z).trans e) (fun o e => (b1.2 _ D.l1z).trans e)) fun h2 d1 b2 => wpAny_pure ?_)
  have t2 : IsPair h2 TO a b := (b2.2 _ D.TOi1).trans ((b1.2 _ D.TOz).trans hTO)
  refine wpAny_bind (wpAny_seqItems (s := { s with heap := h2 }) t2 rfl ?_)
  refine wpAny_bind (wpAny_updateSeq_pair (s := { s with heap := h2 }) t2 fun h3 t3 b3 => ?_)
  replace t3 : IsPair h3 TO x b := t3
  refine wpAny_bind (wpAny_letGo (wpAny_pure ?_))
  refine wpAny_bind (wpAny_bind (wpAny_onRaise ?_))
  show wpAny _ A (Builtin.SmallTypes.nextOf (.ref i2) >>= _) _ _ _
  have c2' : C2 h3 := sC2 c2 (fun o e => (b3.2 _ D.TOi2.symm).trans ((b2.2 _ D.i12.symm).trans ((b1.2 _ D.i2z).trans e))) (fun o e => (b3.2 _ D.l2TO).trans ((b2.2 _ D.l2i1).trans ((b1.2 _ D.l2z).trans e)))
  refine wpAny_bind (g2 (s := { s with heap := h3 }) c2' fun h4 d2 b4 => wpAny_pure ?_)
  have t4 : IsPair h4 TO x b := (b4.2 _ D.TOi2).trans t3
  refine wpAny_bind (wpAny_seqItems (s := { s with heap := h4 }) t4 rfl ?_)
  refine wpAny_bind (wpAny_updateSeq_pair (s := { s with heap := h4 }) t4 fun h5 t5 b5 => ?_)
  replace t5 : IsPair h5 TO x y := t5
  refine wpAny_bind (wpAny_letGo (wpAny_pure (wpAny_pure ?_)))
  refine wpAny_bind (wpAny_seqItems (s := { s with heap := h5 }) t5 rfl ?_)
  refine wpAny_bind (wpAny_newTuple ?_)
  have z5 : h5.objs.size = s.heap.objs.size := b5.1.trans (b4.1.trans (b3.1.trans (b2.1.trans b1.1)))
  have zz5 := (b5.2 _ D.TOz.symm).trans ((b4.2 _ D.i2z.symm).trans ((b3.2 _ D.TOz.symm).trans ((b2.2 _ D.i1z.symm).trans hz1)))
  have up : ∀ (c : Addr) (o : Obj), c ≠ z → c ≠ TO → c ≠ i1 → c ≠ i2 → s.heap.get? c = some o → h5.get? c = some o := fun c o n1 n2 n3 n4 e =>
    (b5.2 c n2).trans ((b4.2 c n4).trans ((b3.2 c n2).trans ((b2.2 c n3).trans ((b1.2 c n1).trans e))))
  have d15 : D1 h5 := sD1 d1 (fun o e => (b5.2 _ D.TOi1.symm).trans ((b4.2 _ D.i12).trans ((b3.2 _ D.TOi1.symm).trans e))) (fun o e => (b5.2 _ D.l1TO).trans ((b4.2 _ D.l1i2).trans ((b3.2 _ D.l1TO).trans e)))
  have d25 : D2 h5 := sD2 d2 (fun o e => (b5.2 _ D.TOi2.symm).trans e) (fun o e => (b5.2 _ D.l2TO).trans e)
  have zp : (h5.push { cls := .type "tuple", data := .seq #[x, y] }).objs.size = h5.objs.size + 1 := Heap.size_push ..
  have kp : ∀ (c : Addr) (o : Obj), h5.get? c = some o → (h5.push { cls := .type "tuple", data := .seq #[x, y] }).get? c = some o := fun c o e => Heap.get?_push_of_some _ e
  have ht : (h5.push { cls := .type "tuple", data := .seq #[x, y] }).get? h5.objs.size = _ := Heap.get?_push_size _ rfl
  change wpAny _ A _ _ _ { s with heap := h5.push { cls := .type "tuple", data := .seq #[x, y] } }
  have lz : z < h5.objs.size := Heap.lt_size zz5
  generalize h5.push { cls := .type "tuple", data := .seq #[x, y] } = h6 at zp kp ht ⊢
  refine wpAny_bind ?_
  show wpAny _ A (setField (.ref z) 0 (rawInt (h5.objs.size : Nat)) >>= _) _ _ _
  refine wpAny_bind (wpAny_setField_rec (s := { s with heap := h6 }) (kp _ _ zz5) (by simp) fun h7 hz7 b7 => ?_)
  refine wpAny_setField_rec (s := { s with heap := h7 }) hz7 (by simp) fun h8 hz8 b8 => wpAny_pure ⟨_, rfl, ?_⟩
  have u8 : ∀ (c : Addr) (o : Obj), c ≠ z → h5.get? c = some o → h8.get? c = some o := fun c o n e => (b8.2 c n).trans ((b7.2 c n).trans (kp c o e))
  rw [z5] at hz8 ht lz
  show Q (.ref h5.objs.size) _
  rw [z5]
  refine q h8 hz8 (u8 _ _ D.TOz t5) (sD1 d15 (fun o e => u8 _ _ D.i1z e) (fun o e => u8 _ _ D.l1z e)) (sD2 d25 (fun o e => u8 _ _ D.i2z e) (fun o e => u8 _ _ D.l2z e)) ((b8.2 _ (Nat.ne_of_gt lz)).trans ((b7.2 _ (Nat.ne_of_gt lz)).trans ht)) ?_ fun c o n1 n2 n3 n4 e => u8 c o n1 (up c o n1 n2 n3 n4 e)
  rw [b8.1, b7.1]
  show h6.objs.size = _
  omega
/-- the field set back as the first or the second walk ends -/
theorem zip_back {z it TI TO : Addr} {e : Addr} {h1 h2 : Heap} {P : Heap → Value → Prop} {M : Around} (nz : it ≠ z) (hz1 : IsZip h1 z TI TO .ellipsis) (b2 : Heap.ExtBut it h1 h2) (he : ∃ o, h2.get? e = some o ∧ o.cls = .type "StopIteration")
    (q : ∀ h', (∀ (c : Addr) (o : Obj), c ≠ z → h2.get? c = some o → h'.get? c = some o) → (∃ o, h'.get? e = some o ∧ o.cls = .type "StopIteration") → E (.ref e) { s with heap := h' }) :
    wpAny (model prog w) A (setField (.ref z) 0 .none) (fun _ s'' => E (.ref e) s'') E { s with heap := h2 } := by
  have hz2 : IsZip h2 z TI TO .ellipsis := b2 z _ nz.symm hz1
  obtain ⟨o, ho, hc⟩ := he
  have ne : e ≠ z := fun x => by
    subst x
    rw [hz2] at ho
    cases ho
    have hc' : Value.type "zip" = Value.type "StopIteration" := hc
    injection hc' with hs
    exact absurd hs (by decide)
  exact wpAny_setField_rec (s := { s with heap := h2 }) hz2 (by simp) fun h3 hz3 b3 => q h3 (fun c o n e => (b3.2 c n).trans e) ⟨o, (b3.2 e ne).trans ho, hc⟩
theorem zipX_end {z TI TO i1 i2 l1 l2 : Addr} {a b : Value} {C1 C2 : Heap → Prop} {Q : PySem.Fin → Shared → Prop} (hh : A.handled = none) (D : ZipApart z TI TO i1 i2 l1 l2)
    (sC1 : Stays i1 l1 C1) (sC2 : Stays i2 l2 C2) (g : Stops prog w i1 C1 ∨ ((∃ x D1, Gives prog w i1 C1 D1 x) ∧ Stops prog w i2 C2))
    (hz : IsZip s.heap z TI TO .none) (hTI : IsPair s.heap TI (.ref i1) (.ref i2)) (hTO : IsPair s.heap TO a b) (c1 : C1 s.heap) (c2 : C2 s.heap)
    (q : ∀ h' e, (∀ c o, c ≠ z → c ≠ TO → c ≠ i1 → c ≠ i2 → s.heap.get? c = some o → h'.get? c = some o) → (∃ o, h'.get? e = some o ∧ o.cls = .type "StopIteration") → E (.ref e) { s with heap := h' }) :
    wpAny (model prog w) A (Builtin.«zip.__next__» { pos := [.ref z] }) Q E s := by
  show wpAny _ A (slotArgs "__next__" 0 { pos := [.ref z] } >>= _) _ _ s
  refine wpAny_bind (wpAny_of_eq (show slotArgs "__next__" 0 { pos := [.ref z] } = pure (.ref z, []) from rfl) ?_)
  refine wpAny_bind (wpAny_field hz rfl (x := .bool false) rfl ?_)
  refine wpAny_bind (wpAny_field hz rfl (x := .ref TI) rfl ?_)
  refine wpAny_bind (wpAny_seqItems hTI rfl ?_)
  refine wpAny_bind ?_
  show wpAny _ A (field (.ref z) 0 >>= _) _ _ s
  refine wpAny_bind (wpAny_field hz rfl (x := .none) rfl (wpAny_pure ?_))
  rw [if_pos rfl]
  refine wpAny_bind (wpAny_rule ?_)
  refine wpAny_bind (wpAny_field hz rfl (x := .ref TO) rfl ?_)
  refine wpAny_bind (wpAny_setField_rec hz (by simp) fun h1 hz1 b1 => ?_)
  replace hz1 : IsZip h1 z TI TO .ellipsis := hz1
  refine wpAny_bind ?_
  simp only [List.zipIdx_cons, List.zipIdx_nil, List.forIn_cons, List.forIn_nil]
  refine wpAny_bind (wpAny_bind (wpAny_onRaise ?_))
  show wpAny _ A (Builtin.SmallTypes.nextOf (.ref i1) >>= _) _ _ _
  have c1' : C1 h1 := sC1 c1 (fun o e => (b1.2 _ D.i1z).trans e) (fun o e => (b1.2 _ D.l1z).trans e)
  rcases g with g | ⟨⟨x, D1, g1⟩, g⟩
  · refine wpAny_bind (g (s := { s with heap := h1 }) hh c1' fun h2 e b2 he => ?_)
    exact zip_back (s := s) (M := A) (P := fun _ _ => True) D.i1z hz1 b2 he fun h3 b3 he3 => q h3 e (fun c o n1 n2 n3 n4 ho => b3 c o n1 (b2 c o n3 ((b1.2 c n1).trans ho))) he3
  · refine wpAny_bind (g1 (s := { s with heap := h1 }) c1' fun h2 d1 b2 => wpAny_pure ?_)
    have t2 : IsPair h2 TO a b := (b2.2 _ D.TOi1).trans ((b1.2 _ D.TOz).trans hTO)
    refine wpAny_bind (wpAny_seqItems (s := { s with heap := h2 }) t2 rfl ?_)
    refine wpAny_bind (wpAny_updateSeq_pair (s := { s with heap := h2 }) t2 fun h3 t3 b3 => ?_)
    refine wpAny_bind (wpAny_letGo (wpAny_pure ?_))
    refine wpAny_bind (wpAny_bind (wpAny_onRaise ?_))
    show wpAny _ A (Builtin.SmallTypes.nextOf (.ref i2) >>= _) _ _ _
    have c2' : C2 h3 := sC2 c2 (fun o e => (b3.2 _ D.TOi2.symm).trans ((b2.2 _ D.i12.symm).trans ((b1.2 _ D.i2z).trans e))) (fun o e => (b3.2 _ D.l2TO).trans ((b2.2 _ D.l2i1).trans ((b1.2 _ D.l2z).trans e)))
    have hz3 : IsZip h3 z TI TO .ellipsis := (b3.2 _ D.TOz.symm).trans ((b2.2 _ D.i1z.symm).trans hz1)
    refine wpAny_bind (g (s := { s with heap := h3 }) hh c2' fun h4 e b4 he => ?_)
    exact zip_back (s := s) (M := A) (P := fun _ _ => True) D.i2z hz3 b4 he fun h5 b5 he5 => q h5 e (fun c o n1 n2 n3 n4 ho => b5 c o n1 (b4 c o n4 ((b3.2 c n2).trans ((b2.2 c n3).trans ((b1.2 c n1).trans ho))))) he5
theorem pyNext_zipX {z TI TO i1 i2 l1 l2 : Addr} {x y a b : Value} {C1 C2 D1 D2 : Heap → Prop} {Q : Option Value → Shared → Prop} (D : ZipApart z TI TO i1 i2 l1 l2)
    (sC1 : Stays i1 l1 C1) (sC2 : Stays i2 l2 C2) (sD1 : Stays i1 l1 D1) (sD2 : Stays i2 l2 D2) (g1 : ∀ prog w, Gives prog w i1 C1 D1 x) (g2 : ∀ prog w, Gives prog w i2 C2 D2 y)
    (hz : IsZip s.heap z TI TO .none) (hTI : IsPair s.heap TI (.ref i1) (.ref i2)) (hTO : IsPair s.heap TO a b) (c1 : C1 s.heap) (c2 : C2 s.heap)
    (q : ∀ h', IsZip h' z TI TO (rawInt s.heap.objs.size) → IsPair h' TO x y → D1 h' → D2 h' → IsPair h' s.heap.objs.size x y → h'.objs.size = s.heap.objs.size + 1 →
      (∀ c o, c ≠ z → c ≠ TO → c ≠ i1 → c ≠ i2 → s.heap.get? c = some o → h'.get? c = some o) → Q (some (.ref s.heap.objs.size)) { s with heap := h' }) :
    wpAny (model prog w) A (pyNext (.ref z)) Q E s := by
  have ty : s.TypeIs (.ref z) "zip" := ⟨_, hz, rfl⟩
  refine wpAny_bind (wpAny_attempt (wpAny_callSpecial?_slot ty PySem.F.slot_zip_next ?_))
  refine call_meets (S := fun A R s' => s' = s ∧ ∀ v s', (∃ h' : Heap, v = .ref s.heap.objs.size ∧ s' = { s with heap := h' } ∧ IsZip h' z TI TO (rawInt s.heap.objs.size) ∧ IsPair h' TO x y ∧ D1 h' ∧ D2 h' ∧ IsPair h' s.heap.objs.size x y ∧ h'.objs.size = s.heap.objs.size + 1 ∧
      (∀ c o, c ≠ z → c ≠ TO → c ≠ i1 → c ≠ i2 → s.heap.get? c = some o → h'.get? c = some o)) → R (.ok (.ret v)) s') PySem.F.slot_zip_next ty PySem.F.entry_zip_next (PySem.F.args_zip_next_1 _) ?_ ?_
  · rintro prog w A R s0 ⟨rfl, k⟩
    refine thn (zipX_item (Q := fun v s' => R (.ok (.ret v)) s') D sC1 sC2 sD1 sD2 (g1 _ _) (g2 _ _) hz hTI hTO c1 c2 fun h' a b c d e f g => k _ _ ⟨h', rfl, rfl, a, b, c, d, e, f, g⟩) fun fin s' ⟨v, e1, z⟩ => ?_
    subst e1
    exact z
  · refine ⟨rfl, fun v s' ⟨h', e1, e2, a, b, c, d, e, f, g⟩ => ?_⟩
    subst e1
    subst e2
    exact wpAny_pure (q h' a b c d e f g)
theorem pyNext_zipX_end {z TI TO i1 i2 l1 l2 : Addr} {a b : Value} {C1 C2 : Heap → Prop} {Q : Option Value → Shared → Prop} (hh : A.handled = none) (D : ZipApart z TI TO i1 i2 l1 l2)
    (sC1 : Stays i1 l1 C1) (sC2 : Stays i2 l2 C2) (g : ∀ prog w, Stops prog w i1 C1 ∨ ((∃ x D1, Gives prog w i1 C1 D1 x) ∧ Stops prog w i2 C2))
    (hz : IsZip s.heap z TI TO .none) (hTI : IsPair s.heap TI (.ref i1) (.ref i2)) (hTO : IsPair s.heap TO a b) (c1 : C1 s.heap) (c2 : C2 s.heap)
    (q : ∀ h', (∀ c o, c ≠ z → c ≠ TO → c ≠ i1 → c ≠ i2 → s.heap.get? c = some o → h'.get? c = some o) → Q none { s with heap := h' }) :
    wpAny (model prog w) A (pyNext (.ref z)) Q E s := by
  have ty : s.TypeIs (.ref z) "zip" := ⟨_, hz, rfl⟩
  refine wpAny_bind (wpAny_attempt (wpAny_callSpecial?_slot ty PySem.F.slot_zip_next ?_))
  refine call_meets (S := fun A R s' => A.handled = none ∧ s' = s ∧ ∀ v s', (∃ (h' : Heap) (e : Addr), v = .ref e ∧ s' = { s with heap := h' } ∧ (∀ c o, c ≠ z → c ≠ TO → c ≠ i1 → c ≠ i2 → s.heap.get? c = some o → h'.get? c = some o) ∧ ∃ o, h'.get? e = some o ∧ o.cls = .type "StopIteration") → R (.error v) s') PySem.F.slot_zip_next ty PySem.F.entry_zip_next (PySem.F.args_zip_next_1 _) ?_ ?_
  · rintro prog w A R s0 ⟨hh, rfl, k⟩
    exact zipX_end hh D sC1 sC2 (g _ _) hz hTI hTO c1 c2 fun h' e a b => k _ _ ⟨h', e, rfl, rfl, a, b⟩
  · refine ⟨hh, rfl, fun v s' ⟨h', e, e1, e2, a, o, hy, hc⟩ => ?_⟩
    subst e1
    subst e2
    show wpAny _ A (isInstance (.ref e) (.type "StopIteration") >>= _) _ _ _
    refine wpAny_bind (wpAny_isInstance (T := "StopIteration") (b := true) ⟨o, hy, hc⟩ (by kernel_rfl) ?_)
    exact wpAny_pure (q h' a)
end
end Z

set_option Elab.async false
set_option linter.all false
set_option maxRecDepth 100000
set_option maxHeartbeats 4000000
namespace Z
open PySem PySem.Spec PyProof.Rows L2
def Starts (l : Addr) (o : Obj) (P : Heap → Prop) : Prop :=
  ∀ {prog : Program} {w : World} {A : Around} {E : Value → Shared → Prop} {s : Shared} {Q : Value → Shared → Prop}, P s.heap → Q (.ref s.heap.objs.size) { s with heap := s.heap.push o } → wpAny (model prog w) A (pyIter (.ref l)) Q E s
theorem newClass_zip (a b : Addr) : Builtin.SmallTypes.newClass "zip" { pos := [.type "zip", .ref a, .ref b] } = pure (.type "zip", [.ref a, .ref b]) := by kernel_rfl
def zipNew (h : Heap) (o1 o2 : Obj) : Heap := ((((h.push o1).push o2).push { cls := .type "tuple", data := .seq #[.ref h.objs.size, .ref (h.push o1).objs.size] }).push { cls := .type "tuple", data := .seq #[.none, .none] }).push
  { cls := .type "zip", data := .fields #[.none, .bool false, .bool false, .ref ((h.push o1).push o2).objs.size, .ref (((h.push o1).push o2).push { cls := .type "tuple", data := .seq #[.ref h.objs.size, .ref (h.push o1).objs.size] }).objs.size] }
theorem meets_zipX_new (a b : Addr) (o1 o2 : Obj) (P1 P2 : Heap → Prop) (st1 : Starts a o1 P1) (st2 : Starts b o2 P2) (k2 : ∀ h o, P2 h → P2 (h.push o)) :
    Meets (Builtin.«zip.__new__» { pos := [.type "zip", .ref a, .ref b] }) fun A R s => P1 s.heap ∧ P2 s.heap ∧ R (.ok (.ret (.ref ((((s.heap.push o1).push o2).push { cls := .type "tuple", data := .seq #[.ref s.heap.objs.size, .ref (s.heap.push o1).objs.size] }).push { cls := .type "tuple", data := .seq #[.none, .none] }).objs.size))) { s with heap := zipNew s.heap o1 o2 } := by
  intro prog w A R s ⟨p1, p2, k⟩
  show wpAny _ A.in1 (Builtin.SmallTypes.newClass "zip" { pos := [.type "zip", .ref a, .ref b] } >>= _) _ _ s
  refine wpAny_bind (wpAny_of_eq (newClass_zip a b) ?_)
  show wpAny _ A.in1 (Builtin.SmallTypes.iterAll [.ref a, .ref b] >>= _) _ _ s
  refine wpAny_bind ?_
  unfold Builtin.SmallTypes.iterAll
  refine wpAny_bind ?_
  simp only [List.forIn_cons, List.forIn_nil]
  refine wpAny_bind (wpAny_bind (wpAny_holding (st1 p1 (wpAny_pure ?_))))
  refine wpAny_bind (wpAny_bind (wpAny_holding (st2 (s := { s with heap := s.heap.push o1 }) (k2 _ _ p2) (wpAny_pure (wpAny_pure (wpAny_pure ?_))))))
  refine wpAny_bind (wpAny_newTuple (hsz := by show 2 ≤ sizeLine; decide) ?_)
  refine wpAny_bind (wpAny_newTuple (hsz := by show 2 ≤ sizeLine; decide) ?_)
  refine wpAny_bind ?_
  show wpAny _ A.in1 (newObj (.type "zip") (.fields #[.none, .bool false, .bool false, .ref ((s.heap.push o1).push o2).objs.size, .ref (((s.heap.push o1).push o2).push { cls := .type "tuple", data := .seq #[.ref s.heap.objs.size, .ref (s.heap.push o1).objs.size] }).objs.size])) _ _ _
  exact wpAny_newObj_type (wpAny_pure k)
/-- zip(x, y) -/
theorem call_zipX {prog : Program} {w : World} {A : Around} {E : Value → Shared → Prop} {s : Shared} {a b : Addr} {o1 o2 : Obj} {P1 P2 : Heap → Prop} {Q : Value → Shared → Prop} (st1 : Starts a o1 P1) (st2 : Starts b o2 P2) (k2 : ∀ h o, P2 h → P2 (h.push o)) (p1 : P1 s.heap) (p2 : P2 s.heap) (n1 : o1.isFreed = false) (n2 : o2.isFreed = false)
    (q : ∀ h', IsZip h' (s.heap.objs.size + 4) (s.heap.objs.size + 2) (s.heap.objs.size + 3) .none → IsPair h' (s.heap.objs.size + 2) (.ref s.heap.objs.size) (.ref (s.heap.objs.size + 1)) →
      IsPair h' (s.heap.objs.size + 3) .none .none → h'.get? s.heap.objs.size = some o1 → h'.get? (s.heap.objs.size + 1) = some o2 → h'.objs.size = s.heap.objs.size + 5 →
      (∀ c o, s.heap.get? c = some o → h'.get? c = some o) → Q (.ref (s.heap.objs.size + 4)) { s with heap := h' }) :
    wpAny (model prog w) A (call (.type "zip") [.ref a, .ref b]) Q E s := by
  refine callType_new PySem.F.called_zip (by decide) (PySem.F.typeCall_zip_2 _ _) (PySem.F.newCall_zip_2 _ _) (fun obj => PySem.F.args_object_init_3 _ _ _) PySem.F.entry_zip_new (meets_zipX_new a b o1 o2 P1 P2 st1 st2 k2) ⟨p1, p2, ?_⟩
  unfold zipNew
  have z1 : (s.heap.push o1).objs.size = s.heap.objs.size + 1 := Heap.size_push ..
  have g1 : (s.heap.push o1).get? s.heap.objs.size = _ := Heap.get?_push_size _ n1
  have k1 : ∀ (c : Addr) (o : Obj), s.heap.get? c = some o → (s.heap.push o1).get? c = some o := fun c o h => Heap.get?_push_of_some _ h
  generalize s.heap.push o1 = h1 at z1 g1 k1 ⊢
  have z2 : (h1.push o2).objs.size = h1.objs.size + 1 := Heap.size_push ..
  have g2 : (h1.push o2).get? h1.objs.size = _ := Heap.get?_push_size _ n2
  have k2 : ∀ (c : Addr) (o : Obj), h1.get? c = some o → (h1.push o2).get? c = some o := fun c o h => Heap.get?_push_of_some _ h
  generalize h1.push o2 = h2 at z2 g2 k2 ⊢
  rw [z1] at g2 z2 ⊢
  have z3 : (h2.push { cls := .type "tuple", data := .seq #[.ref s.heap.objs.size, .ref (s.heap.objs.size + 1)] }).objs.size = h2.objs.size + 1 := Heap.size_push ..
  have g3 : (h2.push { cls := .type "tuple", data := .seq #[.ref s.heap.objs.size, .ref (s.heap.objs.size + 1)] }).get? h2.objs.size = _ := Heap.get?_push_size _ rfl
  have k3 : ∀ (c : Addr) (o : Obj), h2.get? c = some o → (h2.push { cls := .type "tuple", data := .seq #[.ref s.heap.objs.size, .ref (s.heap.objs.size + 1)] }).get? c = some o := fun c o h => Heap.get?_push_of_some _ h
  generalize h2.push { cls := .type "tuple", data := .seq #[.ref s.heap.objs.size, .ref (s.heap.objs.size + 1)] } = h3 at z3 g3 k3 ⊢
  have z4 : (h3.push { cls := .type "tuple", data := .seq #[.none, .none] }).objs.size = h3.objs.size + 1 := Heap.size_push ..
  have g4 : (h3.push { cls := .type "tuple", data := .seq #[.none, .none] }).get? h3.objs.size = _ := Heap.get?_push_size _ rfl
  have k4 : ∀ (c : Addr) (o : Obj), h3.get? c = some o → (h3.push { cls := .type "tuple", data := .seq #[.none, .none] }).get? c = some o := fun c o h => Heap.get?_push_of_some _ h
  generalize h3.push { cls := .type "tuple", data := .seq #[.none, .none] } = h4 at z4 g4 k4 ⊢
  have z5 : (h4.push { cls := .type "zip", data := .fields #[.none, .bool false, .bool false, .ref h2.objs.size, .ref h3.objs.size] }).objs.size = h4.objs.size + 1 := Heap.size_push ..
  have g5 : (h4.push { cls := .type "zip", data := .fields #[.none, .bool false, .bool false, .ref h2.objs.size, .ref h3.objs.size] }).get? h4.objs.size = _ := Heap.get?_push_size _ rfl
  have k5 : ∀ (c : Addr) (o : Obj), h4.get? c = some o → (h4.push { cls := .type "zip", data := .fields #[.none, .bool false, .bool false, .ref h2.objs.size, .ref h3.objs.size] }).get? c = some o := fun c o h => Heap.get?_push_of_some _ h
  generalize h4.push { cls := .type "zip", data := .fields #[.none, .bool false, .bool false, .ref h2.objs.size, .ref h3.objs.size] } = h5 at z5 g5 k5 ⊢
  have e2 : h2.objs.size = s.heap.objs.size + 2 := z2
  have e3 : h3.objs.size = s.heap.objs.size + 3 := by omega
  have e4 : h4.objs.size = s.heap.objs.size + 4 := by omega
  rw [e2, e3, e4] at g5
  rw [e2] at g3
  rw [e3] at g4
  rw [e4]
  exact ⟨⟨_, g5, rfl⟩, q _ g5 (k5 _ _ (k4 _ _ g3)) (k5 _ _ g4) (k5 _ _ (k4 _ _ (k3 _ _ (k2 _ _ g1)))) (k5 _ _ (k4 _ _ (k3 _ _ g2))) (by omega) fun c o h => k5 _ _ (k4 _ _ (k3 _ _ (k2 _ _ (k1 _ _ h))))⟩
end Z

set_option Elab.async false
set_option linter.all false
set_option maxRecDepth 100000
set_option maxHeartbeats 4000000
namespace Z
open PySem PySem.Spec PyProof.Rows L2
/-- a kind of sequence and of its walk -/
structure SK (K : PySem.W.Frag) (Sq : Hp → Addr → List V → Prop) (It : Heap → Addr → Addr → Nat → Prop) (At : Heap → Addr → Array Value → Prop) (ob : Addr → Obj) : Prop where
  at_ : ∀ {X : Cx} {pins σ H s a xs}, X.K = K → Inv X pins σ H s → Sq H a xs → ∃ its, Vals xs its ∧ At s.heap a its.toArray
  inj : ∀ {X : Cx} {pins σ H s a xs ys}, X.K = K → Inv X pins σ H s → Sq H a xs → Sq H a ys → xs = ys
  itObj : ∀ {h it l i}, It h it l i → ∃ o, h.get? it = some o ∧ ∀ v, o.data ≠ Data.cell v
  itKeep : ∀ {h h' : Heap} {it l i}, It h it l i → (∀ o, h.get? it = some o → h'.get? it = some o) → It h' it l i
  atKeep : ∀ {h h' : Heap} {l xs}, At h l xs → (∀ o, h.get? l = some o → h'.get? l = some o) → At h' l xs
  atLt : ∀ {h l xs}, At h l xs → l < h.objs.size
  item : ∀ {prog w it l i x} {items : Array Value}, it ≠ l → items[i]? = some x → Gives prog w it (fun h => It h it l i ∧ At h l items) (fun h => It h it l (i + 1) ∧ At h l items) x
  stop : ∀ {prog w it l i} {items : Array Value}, items[i]? = none → Stops prog w it (fun h => It h it l i ∧ At h l items)
  start : ∀ {l items}, Starts l (ob l) (fun h => At h l items)
  ob0 : ∀ {h : Heap} {it l}, h.get? it = some (ob l) → It h it l 0
  obF : ∀ {l}, (ob l).isFreed = false
theorem skT (K : PySem.W.Frag) : SK K (fun H a xs => SqT K H a xs) Heap.IsTupleIter Heap.IsTuple (fun l => { cls := .type "tuple_iterator", data := .fields #[.ref l, .int 0 0] }) where
  at_ := fun e I q => by
    subst e
    obtain ⟨its, rv, p, _⟩ := I.tuple q
    exact ⟨its, rv, p⟩
  inj := fun e I p q => by
    subst e
    exact I.tuple_inj p q
  itObj := fun ⟨o, h, _, d⟩ => ⟨o, h, fun v q => by rw [d] at q; cases q⟩
  itKeep := fun ⟨o, h, r⟩ k => ⟨o, k o h, r⟩
  atKeep := fun ⟨o, h, r⟩ k => ⟨o, k o h, r⟩
  atLt := fun ⟨o, h, _⟩ => Heap.lt_size h
  item := by
    intro prog w it l i x items n hx A E s Q c q
    refine RZ.nextOf_tuple_item c.1 c.2 hx fun h' i b => ?_
    obtain ⟨o, h, r⟩ := c.2
    exact q h' ⟨i, ⟨o, (b.2 _ n.symm).trans h, r⟩⟩ b
  stop := by
    intro prog w it l i items hx A E s Q hh c q
    exact RZ.nextOf_tuple_end hh c.1 c.2 hx q
  start := by
    intro l items prog w A E s Q p q
    exact wpAny_pyIter_tuple p q
  ob0 := fun h => ⟨_, h, rfl, rfl⟩
  obF := rfl
theorem skL (K : PySem.W.Frag) : SK K (fun H a xs => SqL K H a xs) Heap.IsListIter Heap.IsList (fun l => { cls := .type "list_iterator", data := .fields #[.ref l, .int 0 0] }) where
  at_ := fun e I q => by
    subst e
    obtain ⟨its, rv, p, _⟩ := I.list q
    exact ⟨its, rv, p.isList⟩
  inj := fun e I p q => by
    subst e
    exact I.list_inj p q
  itObj := fun ⟨o, h, _, d⟩ => ⟨o, h, fun v q => by rw [d] at q; cases q⟩
  itKeep := fun ⟨o, h, r⟩ k => ⟨o, k o h, r⟩
  atKeep := fun ⟨o, h, r⟩ k => ⟨o, k o h, r⟩
  atLt := fun ⟨o, h, _⟩ => Heap.lt_size h
  item := by
    intro prog w it l i x items n hx A E s Q c q
    refine wpAny_nextOf_list_item c.1 c.2 hx fun h' i b => ?_
    obtain ⟨o, h, r⟩ := c.2
    exact q h' ⟨i, ⟨o, (b.2 _ n.symm).trans h, r⟩⟩ b
  stop := by
    intro prog w it l i items hx A E s Q hh c q
    exact wpAny_nextOf_list_end hh c.1 c.2 hx q
  start := by
    intro l items prog w A E s Q p q
    exact wpAny_pyIter_list p q
  ob0 := fun h => ⟨_, h, rfl, rfl⟩
  obF := rfl
theorem SK.stays {K : PySem.W.Frag} {Sq It At ob} (k : SK K Sq It At ob) {it l : Addr} {i : Nat} {items : Array Value} : Stays it l (fun h => It h it l i ∧ At h l items) :=
  fun c a b => ⟨k.itKeep c.1 a, k.atKeep c.2 b⟩
end Z

set_option Elab.async false
set_option linter.all false
set_option maxRecDepth 100000
set_option maxHeartbeats 4000000
namespace Z
open PySem PySem.Spec PyProof.Rows L2
def ItzX (S1 S2 : Hp → Addr → List V → Prop) (a b : Addr) : It where
  go := fun i H => ∃ (u v : List V) (p q : V), S1 H a u ∧ S2 H b v ∧ u[i]? = some p ∧ v[i]? = some q
  yld := fun i H w H' => ∃ T p q, w = .ref T ∧ H T = none ∧ H' = upd H T (.tup [p, q]) ∧ (∀ u, S1 H a u → u[i]? = some p) ∧ ∀ v, S2 H b v → v[i]? = some q
  stop := fun i H => ∃ u v : List V, S1 H a u ∧ S2 H b v ∧ (u.length ≤ i ∨ v.length ≤ i)
theorem in5 {c z TI TO i1 i2 : Addr} {P : Addr → Prop} (hc : c ∈ [z, TI, TO, i1, i2]) (h1 : P z) (h2 : P TI) (h3 : P TO) (h4 : P i1) (h5 : P i2) : P c := by
  simp only [List.mem_cons, List.mem_nil_iff, or_false] at hc
  rcases hc with rfl | rfl | rfl | rfl | rfl <;> assumption
theorem nin5 {c z TI TO i1 i2 : Addr} (h : ¬ c ∈ [z, TI, TO, i1, i2]) : c ≠ z ∧ c ≠ TO ∧ c ≠ i1 ∧ c ≠ i2 := by
  simp only [List.mem_cons, List.mem_nil_iff, or_false, not_or] at h
  exact ⟨h.1, h.2.2.1, h.2.2.2.1, h.2.2.2.2⟩
theorem vals_end {xs : List V} {us : List Value} {i : Nat} (r : Vals xs us) (h : xs.length ≤ i) : us.toArray[i]? = none := by
  have := r.length
  rw [List.getElem?_toArray, List.getElem?_eq_none]
  omega
theorem turn_zipX {P : Program} {w : World} {K : PySem.W.Frag} {elts : List Expr} {kk : Nat} {tpos : Pos} {a b z TI TO i1 i2 : Addr} {S1 S2 It1 It2 At1 At2 ob1 ob2} (k1 : SK K S1 It1 At1 ob1) (k2 : SK K S2 It2 At2 ob2) (D : ZipApart z TI TO i1 i2 a b) :
    Turn P w K (.Tuple elts kk tpos) (ItzX S1 S2 a b) [z, TI, TO, i1, i2] z fun i h => IsZip h z TI TO .none ∧ IsPair h TI (.ref i1) (.ref i2) ∧ (∃ x y, IsPair h TO x y) ∧ It1 h i1 a i ∧ It2 h i2 b i where
  mem := by simp
  obj := fun i h ⟨hz, hTI, ⟨x, y, hTO⟩, h1, h2⟩ c hc =>
    in5 (P := fun c => ∃ o, h.get? c = some o ∧ ∀ v, o.data ≠ Data.cell v) hc ⟨_, hz, fun v q => by cases q⟩ ⟨_, hTI, fun v q => by cases q⟩ ⟨_, hTO, fun v q => by cases q⟩ (k1.itObj h1) (k2.itObj h2)
  keep := fun i h h' ⟨hz, hTI, ⟨x, y, hTO⟩, h1, h2⟩ k =>
    ⟨k z (by simp) _ hz, k TI (by simp) _ hTI, ⟨x, y, k TO (by simp) _ hTO⟩, k1.itKeep h1 (k i1 (by simp)), k2.itKeep h2 (k i2 (by simp))⟩
  item := fun X e1 e2 e3 hc i pins s σ H E I fo ⟨hz, hTI, ⟨x0, y0, hTO⟩, h1, h2⟩ ⟨xs, ys, x, y, q1, q2, hx, hy⟩ => by
    subst e1
    subst e2
    obtain ⟨its1, r1, p1⟩ := k1.at_ e3 I q1
    obtain ⟨its2, r2, p2⟩ := k2.at_ e3 I q2
    obtain ⟨u, hu, ru⟩ := vals_get r1 hx
    obtain ⟨v, hv, rv⟩ := vals_get r2 hy
    have hu' : its1.toArray[i]? = some u := by simpa using hu
    have hv' : its2.toArray[i]? = some v := by simpa using hv
    refine pyNext_zipX D k1.stays k2.stays k1.stays k2.stays (fun _ _ => k1.item D.l1i1.symm hu') (fun _ _ => k2.item D.l2i2.symm hv') hz hTI hTO ⟨h1, p1⟩ ⟨h2, p2⟩ fun h' z' t' d1 d2 hT sz kp => ⟨_, rfl, ?_⟩
    refine wpAny_letOwnedTupleGo_zip (s := { s with heap := h' }) z' fun h'' z'' sb => ?_
    have kp2 : ∀ (c : Addr) (o : Obj), ¬ c ∈ [z, TI, TO, i1, i2] → s.heap.get? c = some o → h''.get? c = some o := fun c o hc e => by
      obtain ⟨n1, n2, n3, n4⟩ := nin5 hc
      exact (sb.2 c n1).trans (kp c o n1 n2 n3 n4 e)
    have lz : z < s.heap.objs.size := Heap.lt_size hz
    have hTn : H s.heap.objs.size = none := I.hok.fresh (Nat.le_refl _)
    have hT2 : h''.get? s.heap.objs.size = some { cls := .type "tuple", data := .seq #[u, v] } := (sb.2 _ (Nat.ne_of_gt lz)).trans hT
    refine ⟨.ref s.heap.objs.size, upd H s.heap.objs.size (.tup [x, y]), I.turnedNew (t' := s.toks) kp2 fo (Nat.le_refl _) ⟨by show 2 ≤ sizeLine; decide, [u, v], .cons ru (.cons rv .nil), ⟨_, hT2, rfl, _, rfl⟩⟩, rfl,
      ⟨_, x, y, rfl, hTn, rfl, fun ws hw => by rw [k1.inj e3 I hw q1]; exact hx, fun ws hw => by rw [k2.inj e3 I hw q2]; exact hy⟩,
      ⟨z'', (sb.2 _ D.TIz).trans (kp _ _ D.TIz D.TITO D.TIi1 D.TIi2 hTI), ⟨u, v, (sb.2 _ D.TOz).trans t'⟩, k1.itKeep d1.1 (fun o e => (sb.2 _ D.i1z).trans e), k2.itKeep d2.1 (fun o e => (sb.2 _ D.i2z).trans e)⟩, fun c hc => ?_⟩
    obtain ⟨o1, g1, _⟩ := k1.itObj h1
    obtain ⟨o2, g2, _⟩ := k2.itObj h2
    have lc : c < s.heap.objs.size := in5 (P := fun c => c < s.heap.objs.size) hc lz (Heap.lt_size hTI) (Heap.lt_size hTO) (Heap.lt_size g1) (Heap.lt_size g2)
    rw [upd_ne (Nat.ne_of_lt lc)]
    exact (fo c hc).1
  done := fun X e1 e2 e3 hc i pins s σ H E I fo ⟨hz, hTI, ⟨x0, y0, hTO⟩, h1, h2⟩ ⟨xs, ys, q1, q2, hl⟩ => by
    subst e1
    subst e2
    obtain ⟨its1, r1, p1⟩ := k1.at_ e3 I q1
    obtain ⟨its2, r2, p2⟩ := k2.at_ e3 I q2
    have en : ∀ prog w, Stops prog w i1 (fun h => It1 h i1 a i ∧ At1 h a its1.toArray) ∨ ((∃ x D1, Gives prog w i1 (fun h => It1 h i1 a i ∧ At1 h a its1.toArray) D1 x) ∧ Stops prog w i2 (fun h => It2 h i2 b i ∧ At2 h b its2.toArray)) := fun prog w => by
      cases hn : its1.toArray[i]? with
      | none => exact .inl (k1.stop hn)
      | some x =>
        refine .inr ⟨⟨x, _, k1.item D.l1i1.symm hn⟩, k2.stop ?_⟩
        rcases hl with hl | hl
        · rw [vals_end r1 hl] at hn
          cases hn
        · exact vals_end r2 hl
    exact pyNext_zipX_end (I.ok.hd hc) D k1.stays k2.stays en hz hTI hTO ⟨h1, p1⟩ ⟨h2, p2⟩ fun h' kp => ⟨rfl, I.turnedL (t' := s.toks) (ch := [z, TI, TO, i1, i2]) (fun c o hc e => by
      obtain ⟨n1, n2, n3, n4⟩ := nin5 hc
      exact kp c o n1 n2 n3 n4 e) fo⟩
  self := fun A i s Q E st q => wpAny_pyIter_zip st.1 q
end Z

set_option Elab.async false
set_option linter.all false
set_option maxRecDepth 100000
set_option maxHeartbeats 4000000
namespace Z
open PySem PySem.Spec PyProof.Rows L2
def iZipX (K : PySem.W.Frag) (ta : TA) : TI := fun σ H R => ta σ H fun vs H1 => ∃ (a b : Addr) (S1 S2 : Hp → Addr → List V → Prop) (It1 It2 : Heap → Addr → Addr → Nat → Prop) (At1 At2 : Heap → Addr → Array Value → Prop) (o1 o2 : Addr → Obj),
  vs = [.ref a, .ref b] ∧ SK K S1 It1 At1 o1 ∧ SK K S2 It2 At2 o2 ∧ (∃ xs, S1 H1 a xs) ∧ (∃ ys, S2 H1 b ys) ∧ R (ItzX S1 S2 a b) H1
theorem pi_zipX {X : Cx} {e e2 : Expr} {ta : TA} {p pos tpos : Pos} {elts : List Expr} {kk : Nat} (hg : Gl X "zip") (hm : X.mg "zip" = none) (ha : PA X [e, e2] ta)
    (hs : starEach [e, e2] X.env = (false, eval e X.env) :: starEach [e2] X.env) (hpl : (backTo pos (starEach [e2] X.env)).any (·.1) = false) :
    PI X (.Tuple elts kk tpos) (.Call (.Name "zip" p) [e, e2] [] pos) (iZipX X.K ta) := by
  refine ⟨fun pins s σ H R I h => ?_⟩
  refine Call_ (ld_blt I hg hm PyProof.Rows.boot_zip (PyProof.Rows.callWith_type1 (thn (ha.run pos pins s σ H _ I h) fun us s1 ⟨vs, H1, I1, r1, a, b, S1, S2, It1, It2, At1, At2, o1, o2, ev, k1, k2, ⟨xs, q1⟩, ⟨ys, q2⟩, q⟩ => ?_) hs hpl))
  subst ev
  cases r1 with
  | cons r rr => cases rr with
    | cons r' rr =>
      cases rr
      obtain rfl : _ = Value.ref a := r
      obtain rfl : _ = Value.ref b := r'
      obtain ⟨its1, v1, p1⟩ := k1.at_ rfl I1 q1
      obtain ⟨its2, v2, p2⟩ := k2.at_ rfl I1 q2
      refine call_zipX (o1 := o1 a) (o2 := o2 b) (P1 := fun h => At1 h a its1.toArray) (P2 := fun h => At2 h b its2.toArray) (k1.start (items := its1.toArray)) (k2.start (items := its2.toArray)) (fun h o p => k2.atKeep p fun o' e => Heap.get?_push_of_some _ e) p1 p2 k1.obF k2.obF fun h' hz hTI hTO g1 g2 sz kp => wpAny_pyIter_zip hz ?_
      refine ⟨s1.heap.objs.size + 4, [s1.heap.objs.size + 4, s1.heap.objs.size + 2, s1.heap.objs.size + 3, s1.heap.objs.size, s1.heap.objs.size + 1], _, _, H1, rfl, I1.kept (t' := s1.toks) kp, turn_zipX k1 k2 (PySem.W.ktu_apart s1.heap.objs.size a b (k1.atLt p1) (k2.atLt p2)), ⟨hz, hTI, ⟨_, _, hTO⟩, k1.ob0 g1, k2.ob0 g2⟩, fun c hc => ?_, q⟩
      have lc : s1.heap.objs.size ≤ c := in5 (P := fun c => s1.heap.objs.size ≤ c) hc (Nat.le_add_right _ _) (Nat.le_add_right _ _) (Nat.le_add_right _ _) (Nat.le_refl _) (Nat.le_add_right _ _)
      exact I1.fpOk lc (I1.hok.fresh lc)
end Z

set_option Elab.async false
set_option linter.all false
set_option maxRecDepth 100000
set_option maxHeartbeats 4000000
namespace Z
open PySem PySem.Spec PyProof.Rows L2
section
variable {G : Gx} {W : WX} {X : Cx}
theorem walkZ_zipX {H : Hp} {π : List Addr} {a b : Addr} {x y : D} {xs ys : List D} {S1 S2 : Hp → Addr → List V → Prop}
    (la : ∀ {H2 π2 h2}, Ext H H2 → π <+: π2 → HmOk G H2 π2 h2 → gdOk (gdOf x xs) h2 = true → ∃ u, S1 H2 a u ∧ Reps G H2 π2 xs u)
    (lb : ∀ {H2 π2 h2}, Ext H H2 → π <+: π2 → HmOk G H2 π2 h2 → gdOk (gdOf y ys) h2 = true → ∃ u, S2 H2 b u ∧ Reps G H2 π2 ys u) : WalkZ G H π (ItzX S1 S2 a b) (zipD xs ys) (gdOf x xs ++ gdOf y ys) true := by
  refine ⟨fun i H2 π2 h2 hi e2 p2 M2 g2 => ?_, fun H2 π2 h2 e2 p2 M2 g2 => ?_, fun i H2 π2 h2 w H3 hi e2 p2 M2 g2 yl => ?_⟩
  · obtain ⟨g3, g4⟩ := gd_split g2
    obtain ⟨u, s1, r1⟩ := la e2 p2 M2 g3
    obtain ⟨v, s2, r2⟩ := lb e2 p2 M2 g4
    rw [zipD_len, r1.length, r2.length] at hi
    exact ⟨u, v, u[i]'(by omega), v[i]'(by omega), s1, s2, List.getElem?_eq_getElem _, List.getElem?_eq_getElem _⟩
  · obtain ⟨g3, g4⟩ := gd_split g2
    obtain ⟨u, s1, r1⟩ := la e2 p2 M2 g3
    obtain ⟨v, s2, r2⟩ := lb e2 p2 M2 g4
    rw [zipD_len, r1.length, r2.length]
    exact ⟨u, v, s1, s2, by omega⟩
  · obtain ⟨g3, g4⟩ := gd_split g2
    obtain ⟨u, s1, r1⟩ := la e2 p2 M2 g3
    obtain ⟨v, s2, r2⟩ := lb e2 p2 M2 g4
    obtain ⟨T, p, q, rfl, hT, rfl, yu, yv⟩ := yl
    obtain ⟨d1, h1, k1⟩ := r1.get' (yu u s1)
    obtain ⟨d2, h2, k2⟩ := r2.get' (yv v s2)
    obtain ⟨e3, M3, it⟩ := it_pair M2 hT k1 k2
    exact ⟨_, zipD_get h1 h2, e3, M3, it⟩
/-- a sequence of either kind, now and later -/
theorem sk_later {H : Hp} {π : List Addr} {h : Hm} {x : D} {v : V} {xs : List D} (M : HmOk G H π h) (r : Rep G H π x v) (e : listOf h x = some xs) :
    ∃ (a : Addr) (S : Hp → Addr → List V → Prop) (It : Heap → Addr → Addr → Nat → Prop) (At : Heap → Addr → Array Value → Prop) (o : Addr → Obj), v = .ref a ∧ SK G.K S It At o ∧ (∃ vs, S H a vs) ∧
      ∀ {H2 π2 h2}, Ext H H2 → π <+: π2 → HmOk G H2 π2 h2 → gdOk (gdOf x xs) h2 = true → ∃ vs2, S H2 a vs2 ∧ Reps G H2 π2 xs vs2 := by
  cases tx : isTupD x with
  | false =>
    obtain ⟨a, rfl, ⟨v1, s1⟩, la⟩ := lst_later M r e tx
    exact ⟨a, _, _, _, _, rfl, skL G.K, ⟨v1, s1⟩, la⟩
  | true =>
    obtain ⟨a, rfl, ⟨v1, s1⟩, la⟩ := tup_later M r e tx
    exact ⟨a, _, _, _, _, rfl, skT G.K, ⟨v1, s1⟩, fun e p _ _ => la e p⟩
theorem i_zip {tg e e2 : Expr} {p pos : Pos} {ea : Env' → Hm → R} (hK : G.K = X.K) (hg : Gl X "zip") (hm : X.mg "zip" = none) (ht : isTupE tg = true) (ha : PA X [e, e2] (TAv G W ea)) (hs : starEach [e, e2] X.env = (false, eval e X.env) :: starEach [e2] X.env) (hp : ((backTo pos (starEach [e2] X.env)).any (·.1)) = false) :
    PI X tg (.Call (.Name "zip" p) [e, e2] [] pos) (TIv G W true ea .zip) := by
  obtain ⟨es, kk, tp, rfl⟩ := isTupE_ok ht
  refine pi_imp (pi_zipX hg hm ha hs hp) fun σ H R ⟨ρ, π, h, E, M, p⟩ => ⟨ρ, π, h, E, M, p.imp fun ds h1 vs H1 π1 er ex px M1 R1 ⟨items, g, es, k2⟩ => ?_⟩
  change srcZip h1 ds = some (items, g) at es
  have hd : ∃ x y, ds = [x, y] := by
    unfold srcZip at es
    split at es
    · exact ⟨_, _, rfl⟩
    · cases es
  obtain ⟨x, y, rfl⟩ := hd
  simp only [srcZip] at es
  rw [← hK]
  cases R1 with
  | cons r1 rr => cases rr with
    | cons r2 rr =>
      cases rr
      split at es
      · rename_i xs ys hx hy
        cases es
        obtain ⟨a, S1, It1, At1, o1, rfl, w1, q1, la⟩ := sk_later M1 r1 hx
        obtain ⟨b, S2, It2, At2, o2, rfl, w2, q2, lb⟩ := sk_later M1 r2 hy
        exact ⟨a, b, S1, S2, It1, It2, At1, At2, o1, o2, rfl, w1, w2, q1, q2, k2 _ _ .refl M1 (walkZ_zipX la lb)⟩
      · cases es
end
end Z

set_option Elab.async false
set_option linter.all false
set_option maxRecDepth 100000
set_option maxHeartbeats 4000000
namespace Z
open PySem PySem.Spec PyProof.Rows L2
section
variable (P : Pg) (nm : Nm) (N : List Str)
structure Cs where
  e : ∀ (sc : Scope) (hot : Option Nat) (e : Expr), Option (CE P nm N sc hot e)
  t : ∀ (sc : Scope) (hot : Option Nat) (e : Expr), Option (CT P nm N sc hot e)
variable {P nm N}
variable (c : Cs P nm N)
theorem ti_imp {X : Cx} {tg e : Expr} {G : Gx} {W : WX} {weak : Bool} {src : Src} {ev ev' : Env' → Hm → Z.R} (h : PI X tg e (TIv G W weak ev src)) (q : ∀ ρ h, ev' ρ h = ev ρ h) : PI X tg e (TIv G W weak ev' src) := by
  have : ev' = ev := by funext ρ h; exact q ρ h
  rw [this]; exact h
theorem ta_imp {X : Cx} {es : List Expr} {G : Gx} {W : WX} {ev ev' : Env' → Hm → Z.R} (h : PA X es (TAv G W ev)) (q : ∀ ρ h, ev' ρ h = ev ρ h) : PA X es (TAv G W ev') := by
  have : ev' = ev := by funext ρ h; exact q ρ h
  rw [this]; exact h
theorem ts_imp {X : Cx} {es : List Expr} {G : Gx} {W : WX} {ev ev' : Env' → Hm → Z.R} (h : PTs X es (TTv G W ev)) (q : ∀ ρ h, ev' ρ h = ev ρ h) : PTs X es (TTv G W ev') := by
  have : ev' = ev := by funext ρ h; exact q ρ h
  rw [this]; exact h
def cArgs (sc : Scope) (hot : Option Nat) : (es : List Expr) → Option (CA P nm N sc hot es)
  | [] => some ⟨.nil, fun w k G W X o => ta_imp a_nil fun ρ h => by simp only [evE], fun _ => rfl⟩
  | e :: r =>
    if hs : noStar e = true then
      match c.e sc hot e, cArgs sc hot r with
      | some a, some b => some ⟨.cons a.e' b.a', fun w k G W X o => ta_imp (a_cons (a.pe w k G W X o) (b.pa w k G W X o) (star_cons hs)) fun ρ h => by simp only [evE]; try rfl, fun env => by rw [star_cons hs, b.star env]; rfl⟩
      | _, _ => none
    else none
structure CW (P : Pg) (nm : Nm) (N : List Str) (sc : Scope) (hot : Option Nat) (e : Expr) where
  e' : E
  pw : ∀ w k G W X, OkE P w k nm N sc hot G W X → PW X e (TTv G W (evE (callF P w k) e'))
def cBoolE (sc : Scope) (hot : Option Nat) (op : BoolOp) (pos : Pos) : (es : List Expr) → Option (CE P nm N sc hot (.BoolOp op es pos))
  | [] => none
  | [a] => match c.e sc hot a with
    | some x => some ⟨x.e', fun w k G W X o => pe_one (x.pe w k G W X o)⟩
    | _ => none
  | a :: b :: rest => match c.e sc hot a, cBoolE sc hot op pos (b :: rest) with
    | some x, some z => match op with
      | .And => some ⟨.and x.e' z.e', fun w k G W X o => e_and o.hK (x.pe w k G W X o) (z.pe w k G W X o)⟩
      | .Or => some ⟨.or x.e' z.e', fun w k G W X o => e_or o.hK (x.pe w k G W X o) (z.pe w k G W X o)⟩
    | _, _ => none
def cBoolT (sc : Scope) (hot : Option Nat) (op : BoolOp) (pos : Pos) : (es : List Expr) → Option (CW P nm N sc hot (.BoolOp op es pos))
  | [] => none
  | [a] => match c.t sc hot a with
    | some x => match op with
      | .And => some ⟨x.e', fun w k G W X o => pw_and1 (x.pt w k G W X o)⟩
      | .Or => some ⟨x.e', fun w k G W X o => pw_or1 (x.pt w k G W X o)⟩
    | _ => none
  | a :: b :: rest => match c.t sc hot a, cBoolT sc hot op pos (b :: rest) with
    | some x, some z => match op with
      | .And => some ⟨.and x.e' z.e', fun w k G W X o => w_and (x.pt w k G W X o) (z.pw w k G W X o)⟩
      | .Or => some ⟨.or x.e' z.e', fun w k G W X o => w_or (x.pt w k G W X o) (z.pw w k G W X o)⟩
    | _, _ => none
/-- the items of a loop or comprehension -/
def cPlain (sc : Scope) (iter : Expr) : Option (CI P nm N sc iter) :=
  if hs : noSet iter = true then
    match c.e sc none iter with
    | some a => some ⟨.plain, .cons a.e' .nil, false, fun w k G W X tg wt o => ti_imp (i_plain o.hK (a.pe w k G W X o)) (fun ρ h => by simp only [evE]; try rfl), fun env x => fold_ok hs env x⟩
    | none => none
  else none
def cIter (sc : Scope) (iter : Expr) : Option (CI P nm N sc iter) := match iter with
  | .Call (.Name f p) args kws pos => match kws with
    | [] =>
      if hf : f = ("range" : Str) ∧ sc.names.lookup f = some .globalImplicit then
        match args with
        | [a] => match cArgs c sc none [a] with
          | some x => some ⟨.range1, x.a', false, fun w k G W X tg wt o => by
              obtain ⟨rfl, hg⟩ := hf
              exact i_range1 (o.gl hg) (o.blt _ (by decide +kernel)) (x.pa w k G W X o) (by rw [x.star]; rfl), fun env x => by rfl⟩
          | none => none
        | [a, b] => match cArgs c sc none [a, b], cArgs c sc none [b] with
          | some x, some y => some ⟨.range2, x.a', false, fun w k G W X tg wt o => by
              obtain ⟨rfl, hg⟩ := hf
              exact i_range2 (o.gl hg) (o.blt _ (by decide +kernel)) (x.pa w k G W X o) (by rw [x.star]; rfl) (by rw [y.star]; rfl), fun env x => by rfl⟩
          | _, _ => none
        | [a, b, d] => match cArgs c sc none [a, b, d], cArgs c sc none [b, d] with
          | some x, some y => some ⟨.range3, x.a', false, fun w k G W X tg wt o => by
              obtain ⟨rfl, hg⟩ := hf
              exact i_range3 (o.gl hg) (o.blt _ (by decide +kernel)) (x.pa w k G W X o) (by rw [x.star]; rfl) (by rw [y.star]; rfl), fun env x => by rfl⟩
          | _, _ => none
        | _ => none
      else if hf : f = ("reversed" : Str) ∧ sc.names.lookup f = some .globalImplicit then
        match args with
        | [a] => match c.e sc none a, cArgs c sc none [a] with
          | some x, some y => some ⟨.rev, .cons x.e' .nil, false, fun w k G W X tg wt o => by
              obtain ⟨rfl, hg⟩ := hf
              exact ti_imp (i_rev o.hK (o.gl hg) (o.blt _ (by decide +kernel)) (x.pe w k G W X o) (by rw [y.star]; rfl)) (fun ρ h => by simp only [evE]; try rfl), fun env x => by rfl⟩
          | _, _ => none
        | _ => none
      else if hf : f = ("zip" : Str) ∧ sc.names.lookup f = some .globalImplicit then
        match args with
        | [a, b] => match cArgs c sc none [a, b], cArgs c sc none [b] with
          | some x, some y => some ⟨.zip, x.a', true, fun w k G W X tg wt o => by
              obtain ⟨rfl, hg⟩ := hf
              exact i_zip o.hK (o.gl hg) (o.blt _ (by decide +kernel)) (wt rfl) (x.pa w k G W X o) (by rw [x.star, y.star]; rfl) (by rw [y.star]; rfl), fun env x => by rfl⟩
          | _, _ => none
        | _ => none
      else if hf : f = ("enumerate" : Str) ∧ sc.names.lookup f = some .globalImplicit then
        match args with
        | [a] => match c.e sc none a, cArgs c sc none [a] with
          | some x, some y => some ⟨.enum, .cons x.e' .nil, true, fun w k G W X tg wt o => by
              obtain ⟨rfl, hg⟩ := hf
              exact ti_imp (i_enumA o.hK (o.gl hg) (o.blt _ (by decide +kernel)) (wt rfl) (x.pe w k G W X o) (by rw [y.star]; rfl)) (fun ρ h => by simp only [evE]; try rfl), fun env x => by rfl⟩
          | _, _ => none
        | _ => none
      else cPlain c sc (.Call (.Name f p) args [] pos)
    | kw :: kws => cPlain c sc (.Call (.Name f p) args (kw :: kws) pos)
  | e => cPlain c sc e
/-- a clause's test -/
structure CTs (P : Pg) (nm : Nm) (N : List Str) (sc : Scope) (ifs : List Expr) where
  e' : E
  pts : ∀ w k G W X, OkE P w k nm N sc none G W X → PTs X ifs (TTv G W (evE (callF P w k) e'))
def cIfs (sc : Scope) (ifs : List Expr) : Option (CTs P nm N sc ifs) := match ifs with
  | [] => some ⟨.lit (.bl true), fun w k G W X o => ts_imp pts_yes fun ρ h => by simp only [evE]⟩
  | [t] => match c.t sc none t with
    | some x => some ⟨x.e', fun w k G W X o => pts_one (x.pt w k G W X o)⟩
    | none => none
  | _ => none
def eqStrs (l m : List Str) : Bool := decide (l = m)
/-- the names that a target stores -/
def tgNames : Expr → List Str
  | .Name x _ => [x]
  | .Tuple [.Name x _, .Name y _] _ _ => [x, y]
  | .Tuple [.Name x _, .Name y _, .Name z _] _ _ => [x, y, z]
  | .Tuple [.Name x _, .Name y _, .Name z _, .Name u _] _ _ => [x, y, z, u]
  | _ => []
/-- a comprehension's parts -/
structure CC (P : Pg) (nm : Nm) (N : List Str) (sc : Scope) (elt : Expr) (gs : List Comprehension) (scope : Scope) where
  own : List (Str × Nat)
  tg : Expr
  iter : Expr
  ifs : List Expr
  eq : gs = [⟨tg, iter, ifs, 0⟩]
  i : CI P nm N sc iter
  g : CG P nm N scope i.weak tg
  ts : CTs P nm N scope ifs
  e : CE P nm N scope none elt
  blk : blkC N sc scope own = true
  sl : ∀ j ∈ g.t.slots, j ∈ own.map (·.2)
  wt : i.weak = true → isTupE tg = true
def cComp (sc : Scope) (elt : Expr) (gs : List Comprehension) (scope : Scope) : Option (CC P nm N sc elt gs scope) := match gs with
  | [⟨tg, iter, ifs, 0⟩] =>
    let own := (tgNames tg).map fun x => (x, N.findIdx (· == x))
    match cIter c sc iter with
    | some i => match cG (P := P) (nm := nm) (N := N) (sc := scope) i.weak tg, cIfs c scope ifs, c.e scope none elt with
      | some g, some ts, some e =>
        if hb : blkC N sc scope own = true then
          if hs : ∀ j ∈ g.t.slots, j ∈ own.map (·.2) then
            if hw : i.weak = true → isTupE tg = true then some ⟨own, tg, iter, ifs, rfl, i, g, ts, e, hb, hs, hw⟩ else none
          else none
        else none
      | _, _, _ => none
    | none => none
  | _ => none
theorem blk_to {sc scope : Scope} {own : List (Str × Nat)} {hot : Option Nat} {w k : Nat} {G : Gx} {W : WX} {X : Cx} (o : OkE P w k nm N sc hot G W X) (b : blkC N sc scope own = true) : BlkOk N X.env.scope scope own := by
  have q := blkOk_by b
  refine ⟨q.kind, q.uniq, q.ix, fun y hy e => ?_, q.own⟩
  rcases q.free y hy e with z | z
  · obtain ⟨kd, h1, h2⟩ := o.sc1 _ _ z
    rcases h2 with rfl | ⟨h2, _⟩
    · exact .inl h1
    · cases h2
  · obtain ⟨kd, h1, h2⟩ := o.sc1 _ _ z
    rcases h2 with rfl | ⟨_, rfl⟩
    · exact .inr h1
    · exact .inl h1
def compE {sc : Scope} {elt : Expr} {gs : List Comprehension} {scope : Scope} (x : CC P nm N sc elt gs scope) : E := .comp (x.own.map (·.2)) x.i.src x.i.ea x.g.t x.ts.e' x.e.e'
def mkComp {sc : Scope} {elt : Expr} {gs : List Comprehension} {scope : Scope} {pos : Pos} (x : CC P nm N sc elt gs scope) : CE P nm N sc none (.ListComp elt gs scope pos) :=
  ⟨compE x, fun w k G W X o => by
    obtain ⟨own, tg, iter, ifs, rfl, i, g, ts, e, hb, hs, hwt⟩ := x
    exact e_lc o (i.pi w k G W X tg hwt o) (blk_to o hb) (fun X' o' => by
      have z := g.pg w k G W0 X' o'
      rw [← o'.hK, o.hK] at z
      exact z) (by
      intro v σ H Q ρ ρ1 π h d h0 h1 h2 h3 h4 h5
      exact g.ok X G o.hK v σ H Q ρ ρ1 π h d h0 h1 h2 h3 h4 h5) hs (fun X' o' => ts.pts w k G W0 X' o') (fun X' o' => e.pe w k G W0 X' o') (fun z => i.fold _ z)⟩
def cPart (sc : Scope) (hot : Option Nat) (e : Option Expr) : Option {el : E // (∀ w k, PartOk (callF P w k) el) ∧ ∀ w k G W X, OkE P w k nm N sc hot G W X → PO X e (TOv G W (evE (callF P w k) el))} := match e with
  | none => some ⟨.lit .non, fun w k => part_none, fun w k G W X o => o_none⟩
  | some e => match c.e sc hot e with
    | some x => some ⟨.prim .part (.cons x.e' .nil), fun w k => part_some, fun w k G W X o => o_some (x.pe w k G W X o)⟩
    | none => none
def cSub (sc : Scope) (hot : Option Nat) (a b : Expr) (pos : Pos) : Option (CE P nm N sc hot (.Subscript a b pos)) := match b with
  | .Slice lo hi none p2 => match c.e sc hot a, cPart c sc hot lo, cPart c sc hot hi with
    | some x, some l, some h => some ⟨.prim .slice (.cons x.e' (.cons l.1 (.cons h.1 .nil))), fun w k G W X o => e_slice o.hK (x.pe w k G W X o) (l.2.2 w k G W X o) (h.2.2 w k G W X o) (l.2.1 w k) (h.2.1 w k)⟩
    | _, _, _ => none
  | b => match plainIx b, c.e sc hot a, c.e sc hot b with
    | some hp, some x, some y => some ⟨.prim .idx (.cons x.e' (.cons y.e' .nil)), fun w k G W X o => e_idx o.hK hp.down (x.pe w k G W X o) (y.pe w k G W X o)⟩
    | _, _, _ => none
def cCmp (sc : Scope) (hot : Option Nat) (a : Expr) (ops : List CmpOp) (bs : List Expr) (pos : Pos) : Option (CE P nm N sc hot (.Compare a ops bs pos)) := match ops, bs with
  | [op], [b] => match hp : cmpPm op, c.e sc hot a, c.e sc hot b with
    | some p, some x, some y => if hm : behindInMarks op b = false then some ⟨.prim p (.cons x.e' (.cons y.e' .nil)), fun w k G W X o => e_cmp (cmp_ok o hp) hm (x.pe w k G W X o) (y.pe w k G W X o)⟩ else none
    | _, _, _ => none
  | [op, op'], [b, d] => match hp : cmpPm op, hp' : cmpPm op', c.e sc hot a, c.e sc hot b, c.e sc hot d with
    | some p, some p', some x, some y, some z => if hm : lastMarks [op, op'] [b, d] = false then some ⟨.chain p p' x.e' y.e' z.e', fun w k G W X o => e_chain hp o hp' hm (x.pe w k G W X o) (y.pe w k G W X o) (z.pe w k G W X o)⟩ else none
    | _, _, _, _, _ => none
  | _, _ => none
def cCmpT (sc : Scope) (hot : Option Nat) (a : Expr) (ops : List CmpOp) (bs : List Expr) (pos : Pos) : Option (CT P nm N sc hot (.Compare a ops bs pos)) := match ops, bs with
  | [op], [b] => match hp : cmpPm op, c.e sc hot a, c.e sc hot b with
    | some p, some x, some y => if hm : behindInMarks op b = false then some ⟨.prim p (.cons x.e' (.cons y.e' .nil)), fun w k G W X o => t_cmp' hp o hm (x.pe w k G W X o) (y.pe w k G W X o)⟩ else none
    | _, _, _ => none
  | [op, op'], [b, d] => match hp : cmpPm op, hp' : cmpPm op', c.e sc hot a, c.e sc hot b, c.e sc hot d with
    | some p, some p', some x, some y, some z => if hm : lastMarks [op, op'] [b, d] = false then some ⟨.chain p p' x.e' y.e' z.e', fun w k G W X o => t_chain hp o hp' hm (x.pe w k G W X o) (y.pe w k G W X o) (z.pe w k G W X o)⟩ else none
    | _, _, _, _, _ => none
  | _, _ => none
/-- isinstance of a value -/
def cIsi (sc : Scope) (hot : Option Nat) (a t : Expr) (p1 pos : Pos) : Option (CE P nm N sc hot (.Call (.Name "isinstance" p1) [a, t] [] pos)) :=
  if hg : sc.names.lookup ("isinstance" : Str) = some .globalImplicit ∧ noStar a = true then
    match t with
    | .Name T p2 => match hk : kindOf T, c.e sc hot a with
      | some (p, C), some x => if hT : sc.names.lookup T = some .globalImplicit then some ⟨.prim p (.cons x.e' .nil), fun w k G W X o => e_isi o hk hg.1 hT (x.pe w k G W X o) hg.2⟩ else none
      | _, _ => none
    | .Tuple [.Name T p2, .Name U p3] kk p4 =>
      if hT : T = ("list" : Str) ∧ U = ("tuple" : Str) ∧ sc.names.lookup ("list" : Str) = some .globalImplicit ∧ sc.names.lookup ("tuple" : Str) = some .globalImplicit then
        match c.e sc hot a with
        | some x => some ⟨.prim .isseq (.cons x.e' .nil), fun w k G W X o => by
            obtain ⟨rfl, rfl, h1, h2⟩ := hT
            exact e_isi2 o hg.1 h1 h2 (x.pe w k G W X o) hg.2⟩
        | none => none
      else none
    | _ => none
  else none
/-- f(..), f a name -/
def cCallN (sc : Scope) (f : Str) (p0 : Pos) (args : List Expr) (pos : Pos) : Option (CE P nm N sc none (.Call (.Name f p0) args [] pos)) := match args with
  | [] => none
  | e :: es => match cArgs c sc none (e :: es), cArgs c sc none es with
    | some x, some y =>
      if hg : sc.names.lookup f = some .globalImplicit ∧ (f == ("__debug__" : Str)) = false then
        match hi : nm.fns.lookup f with
        | some i => some ⟨.call i x.a', fun w k G W X o => e_call o (PySem.mem_of_lookup hi) hg.1 hg.2 (x.pa w k G W X o) (star_head (x.star _) (y.star _)) (star_any (y.star _))⟩
        | none => match hk : nm.kws.lookup f with
          | some (i, dl) => some ⟨.callD i x.a' (dl.map (·.2)), fun w k G W X o => e_callD o (PySem.mem_of_lookup hk) hg.1 hg.2 (x.pa w k G W X o) (star_head (x.star _) (y.star _)) (star_any (y.star _))⟩
          | none => match hc : nm.cls.lookup f with
          | some (F, i, ms) => some ⟨.new f F i x.a', fun w k G W X o => e_new o (PySem.mem_of_lookup hc) hg.1 hg.2 (x.pa w k G W X o) (star_head (x.star _) (y.star _)) (star_any (y.star _))⟩
          | none => match hb : bltOf f (e :: es).length with
            | some b => some ⟨.prim b.pm x.a', fun w k G W X o => e_blt' o hb hg.1 (x.pa w k G W X o) (star_head (x.star _) (y.star _)) (star_any (y.star _))⟩
            | none => none
      else none
    | _, _ => none
/-- the own class that has this method -/
def findM (m : Str) : (l : List (Str × List Str × Nat × List (Str × Nat))) → Option {r : (Str × List Str × Nat × List (Str × Nat)) × Nat // r.1 ∈ l ∧ (m, r.2) ∈ r.1.2.2.2}
  | [] => none
  | c :: l => match h : c.2.2.2.lookup m with
    | some j => some ⟨(c, j), by simp, PySem.mem_of_lookup h⟩
    | none => match findM m l with
      | some ⟨r, h1, h2⟩ => some ⟨r, List.mem_cons_of_mem _ h1, h2⟩
      | none => none
/-- the own class that has this property -/
def findP (m : Str) : (l : List (Str × Str × Nat)) → Option {r : Str × Nat // (r.1, m, r.2) ∈ l}
  | [] => none
  | (c, m', j) :: l => if h : m' = m then some ⟨(c, j), by subst h; simp⟩ else match findP m l with
    | some ⟨r, h1⟩ => some ⟨r, List.mem_cons_of_mem _ h1⟩
    | none => none
/-- o.m(..), m a method of an own class -/
def cOwnM (sc : Scope) (ob : Expr) (m : Str) (apos : Pos) (args : List Expr) (cpos : Pos) : Option (CE P nm N sc none (.Call (.Attribute ob m apos) args [] cpos)) :=
  if h : baseOk ob = true ∧ (apos.endLine == cpos.line) = true then
    match findM m nm.cls with
    | some ⟨((cn, F, i, ms), j), h1, h2⟩ => match args with
      | [] => match c.e sc none ob with
        | some x => some ⟨.mcall cn m j x.e' .nil, fun w k G W X o => e_mcall0 o h1 h2 (x.pe w k G W X o) (base_ok h.1 _ _ _) h.2⟩
        | none => none
      | e :: es => match c.e sc none ob, cArgs c sc none (e :: es), cArgs c sc none es with
        | some x, some y, some z => if hl : (e :: es).length < 30 then some ⟨.mcall cn m j x.e' y.a', fun w k G W X o => e_mcall o h1 h2 (x.pe w k G W X o) (y.pa w k G W X o) (base_ok h.1 _ _ _) h.2 (y.star _) (z.star _) hl⟩ else none
        | _, _, _ => none
    | none => none
  else none
/-- names that stand for instances -/
def isInsE (nm : Nm) : Expr → Bool
  | .Name v _ => (nm.ins.lookup v).isSome
  | _ => false
def lensetE {sc : Scope} {elt : Expr} {gs : List Comprehension} {scope : Scope} (x : CC P nm N sc elt gs scope) : E := .lenset (x.own.map (·.2)) x.i.src x.i.ea x.g.t x.ts.e' x.e.e'
def mkLenset {sc : Scope} {elt : Expr} {gs : List Comprehension} {scope : Scope} {p0 pos pos' : Pos} (hgl : sc.names.lookup ("len" : Str) = some .globalImplicit) (x : CC P nm N sc elt gs scope) : CE P nm N sc none (.Call (.Name "len" p0) [.SetComp elt gs scope pos] [] pos') :=
  ⟨lensetE x, fun w k G W X o => by
    obtain ⟨own, tg, iter, ifs, rfl, i, g, ts, e, hb, hs, hwt⟩ := x
    exact e_lenset o hgl (i.pi w k G W X tg hwt o) (blk_to o hb) (fun X' o' => by
      have z := g.pg w k G W0 X' o'
      rw [← o'.hK, o.hK] at z
      exact z) (by
      intro v σ H Q ρ ρ1 π h d h0 h1 h2 h3 h4 h5
      exact g.ok X G o.hK v σ H Q ρ ρ1 π h d h0 h1 h2 h3 h4 h5) hs (fun X' o' => ts.pts w k G W0 X' o') (fun X' o' => e.pe w k G W0 X' o') (fun z => i.fold _ z)⟩
/-- len({e for .. in ..}) -/
def cLenSet (sc : Scope) (f : Str) (p0 : Pos) (args : List Expr) (pos : Pos) : Option (CE P nm N sc none (.Call (.Name f p0) args [] pos)) := match args with
  | [.SetComp elt gs scope p2] => if h : f = ("len" : Str) ∧ sc.names.lookup ("len" : Str) = some .globalImplicit then
      match cComp c sc elt gs scope with
      | some x => some ⟨lensetE x, by
          obtain ⟨rfl, hg⟩ := h
          exact (mkLenset hg x).pe⟩
      | none => none
    else none
  | _ => none
/-- len(o), o an instance -/
def cLen (sc : Scope) (f : Str) (p0 : Pos) (args : List Expr) (pos : Pos) : Option (CE P nm N sc none (.Call (.Name f p0) args [] pos)) := match args with
  | [a] => if h : f = ("len" : Str) ∧ isInsE nm a = true ∧ noStar a = true ∧ sc.names.lookup ("len" : Str) = some .globalImplicit then
      match findM "__len__" nm.cls, c.e sc none a with
      | some ⟨((cn, F, i, ms), j), h1, h2⟩, some x => some ⟨.lenc cn j x.e', by
          obtain ⟨rfl, _, hs, hg⟩ := h
          exact fun w k G W X o => e_lenc o h1 h2 hg (x.pe w k G W X o) hs⟩
      | _, _ => none
    else none
  | _ => none
/-- o.m(..) -/
def cMeth (sc : Scope) (ob : Expr) (m : Str) (apos : Pos) (args : List Expr) (cpos : Pos) : Option (CE P nm N sc none (.Call (.Attribute ob m apos) args [] cpos)) :=
  if h : baseOk ob = true ∧ (apos.endLine == cpos.line) = true ∧ args.length < 30 then
    match args with
    | [] => match hm : mtOf m 0, c.e sc none ob with
      | some p, some x => some ⟨.meth p x.e' .nil, fun w k G W X o => e_meth0 (by have := o.units; omega) o.hK hm (x.pe w k G W X o) (base_ok h.1 _ _ _) h.2.1⟩
      | _, _ => none
    | e :: es => match hm : mtOf m (e :: es).length, c.e sc none ob, cArgs c sc none (e :: es), cArgs c sc none es with
      | some p, some x, some y, some z => if hl : (e :: es).length < 30 then some ⟨.meth p x.e' y.a', fun w k G W X o => e_meth (by have := o.units; omega) o.hK hm (x.pe w k G W X o) (y.pa w k G W X o) (base_ok h.1 _ _ _) (y.star _) (z.star _) hl h.2.1⟩ else none
      | _, _, _, _ => none
  else none
/-- isinstance of the exception that the suite holds -/
def namesOf : List Expr → Option (List Str)
  | [] => some []
  | .Name x _ :: r => (namesOf r).map (x :: ·)
  | _ => none
theorem namesOf_ok : ∀ {es : List Expr} {ts : List Str}, namesOf es = some ts → es.length = ts.length ∧ ∀ q ∈ es.zip ts, ∃ p, q.1 = .Name q.2 p
  | [], ts, h => by simp [namesOf] at h; subst h; exact ⟨rfl, fun q hq => by simp at hq⟩
  | e :: r, ts, h => by
    cases e <;> simp only [namesOf, reduceCtorEq, Option.map_eq_some_iff] at h
    obtain ⟨us, h1, rfl⟩ := h
    obtain ⟨k1, k2⟩ := namesOf_ok h1
    refine ⟨by simp [k1], fun q hq => ?_⟩
    simp only [List.zip_cons_cons, List.mem_cons] at hq
    rcases hq with rfl | hq
    · exact ⟨_, rfl⟩
    · exact k2 q hq
def cXis (sc : Scope) (i : Nat) (a t : Expr) (p1 pos : Pos) : Option (CE P nm N sc (some i) (.Call (.Name "isinstance" p1) [a, t] [] pos)) := match a with
  | .Name n p2 =>
    if h : N[i]? = some n ∧ (sc.names.lookup n = some .local ∨ sc.names.lookup n = some .cell ∨ sc.names.lookup n = some .free) ∧ (n == ("__debug__" : Str)) = false ∧ (n == ("__classdict__" : Str)) = false ∧ sc.names.lookup ("isinstance" : Str) = some .globalImplicit then
      match t with
      | .Name T p3 => if hT : sc.names.lookup T = some .globalImplicit ∧ (T == ("__debug__" : Str)) = false ∧ (T ∈ nm.exc.map (·.1) ∨ T = ("ValueError" : Str)) then
          some ⟨.xis i ((nm.exc.map (·.1)).filter fun z => P.sub z T), fun w k G W X o => x_is1 o h.1 h.2.1 h.2.2.1 h.2.2.2.1 h.2.2.2.2 hT.1 hT.2.1 hT.2.2 rfl⟩
        else none
      | .Tuple es kk p3 => match hn : namesOf es with
        | some ts => if hT : (∀ T ∈ ts, sc.names.lookup T = some .globalImplicit ∧ (T == ("__debug__" : Str)) = false ∧ T ∈ nm.exc.map (·.1)) ∧ es.length ≤ 1000 then
            some ⟨.xis i ((nm.exc.map (·.1)).filter fun z => ts.any fun T => P.sub z T), fun w k G W X o => x_is2 o h.1 h.2.1 h.2.2.1 h.2.2.2.1 h.2.2.2.2 (namesOf_ok hn).1 (namesOf_ok hn).2 hT.1 hT.2 rfl⟩
          else none
        | none => none
      | _ => none
    else none
  | _ => none
def cIs (sc : Scope) (hot : Option Nat) (a t : Expr) (p1 pos : Pos) : Option (CE P nm N sc hot (.Call (.Name "isinstance" p1) [a, t] [] pos)) := match hot with
  | some i => match cXis sc i a t p1 pos with
    | some x => some x
    | none => cIsi c sc (some i) a t p1 pos
  | none => cIsi c sc none a t p1 pos
def isIsi (f : Str) (args : List Expr) : Bool := decide (f = ("isinstance" : Str))
/-- list(range(a)) -/
def cLR (sc : Scope) (f : Str) (p0 : Pos) (args : List Expr) (pos : Pos) : Option (CE P nm N sc none (.Call (.Name f p0) args [] pos)) := match args with
  | [.Call (.Name g q1) [a] [] q2] =>
    if h : (f = ("list" : Str) ∧ g = ("range" : Str)) ∧ sc.names.lookup ("list" : Str) = some .globalImplicit ∧ sc.names.lookup ("range" : Str) = some .globalImplicit then
      match c.e sc none a, cArgs c sc none [a] with
      | some x, some y => some ⟨.prim .rangel (.cons x.e' .nil), fun w k G W X o => by
          obtain ⟨⟨rfl, rfl⟩, h1, h2⟩ := h
          exact e_listR (o.calm rfl) (o.gl h1) (o.blt _ (by decide +kernel)) (o.gl h2) (o.blt _ (by decide +kernel)) (x.pe w k G W X o) (by rw [y.star]; rfl)⟩
      | _, _ => none
    else if h : (f = ("list" : Str) ∧ g = ("reversed" : Str)) ∧ sc.names.lookup ("list" : Str) = some .globalImplicit ∧ sc.names.lookup ("reversed" : Str) = some .globalImplicit then
      match c.e sc none a, cArgs c sc none [a] with
      | some x, some y => some ⟨.prim .revl (.cons x.e' .nil), fun w k G W X o => by
          obtain ⟨⟨rfl, rfl⟩, h1, h2⟩ := h
          exact e_revl o.hK (o.calm rfl) (o.gl h1) (o.blt _ (by decide +kernel)) (o.gl h2) (o.blt _ (by decide +kernel)) (x.pe w k G W X o) (by rw [y.star]; rfl)⟩
      | _, _ => none
    else if h : (f = ("sum" : Str) ∧ g = ("range" : Str)) ∧ sc.names.lookup ("sum" : Str) = some .globalImplicit ∧ sc.names.lookup ("range" : Str) = some .globalImplicit then
      match c.e sc none a, cArgs c sc none [a] with
      | some x, some y => some ⟨.prim .sumrg (.cons x.e' .nil), fun w k G W X o => by
          obtain ⟨⟨rfl, rfl⟩, h1, h2⟩ := h
          exact e_sumR (o.calm rfl) (o.gl h1) (o.blt _ (by decide +kernel)) (o.gl h2) (o.blt _ (by decide +kernel)) (x.pe w k G W X o) (by rw [y.star]; rfl)⟩
      | _, _ => none
    else none
  | _ => none
/-- keywords' values, one after another -/
structure CKw (P : Pg) (nm : Nm) (N : List Str) (sc : Scope) (kws : List Keyword) where
  b' : E
  pk : ∀ w k G W X, OkE P w k nm N sc none G W X → PK X kws (TAv G W (evE (callF P w k) b'))
theorem tk_imp {X : Cx} {kws : List Keyword} {G : Gx} {W : WX} {ev ev' : Env' → Hm → Z.R} (h : PK X kws (TAv G W ev)) (q : ∀ ρ h, ev' ρ h = ev ρ h) : PK X kws (TAv G W ev') := by
  have : ev' = ev := by funext ρ h; exact q ρ h
  rw [this]; exact h
def cKws (sc : Scope) : (kws : List Keyword) → Option (CKw P nm N sc kws)
  | [] => some ⟨.nil, fun w k G W X o => tk_imp k_nil fun ρ h => by simp only [evE]⟩
  | ⟨n, v, p⟩ :: r => match c.e sc none v, cKws sc r with
    | some a, some b => some ⟨.cons a.e' b.b', fun w k G W X o => tk_imp (k_cons (a.pe w k G W X o) (b.pk w k G W X o)) fun ρ h => by simp only [evE]; try rfl⟩
    | _, _ => none
/-- sorted(e, reverse=True), max(e, default=d) -/
def cCallKB (sc : Scope) (fn : Expr) (args : List Expr) (kws : List Keyword) (pos : Pos) : Option (CE P nm N sc none (.Call fn args kws pos)) := match fn, args with
  | .Name f p0, e :: es => match cArgs c sc none (e :: es), cArgs c sc none es, cKws c sc kws with
    | some x, some y, some z =>
      if h : (f = ("sorted" : Str) ∧ kws.map (·.arg) = [some (Str.ofString "reverse")]) ∧ sc.names.lookup ("sorted" : Str) = some .globalImplicit ∧ z.b'.lenC = some 1 then
        some ⟨.prim .sortr (.app x.a' z.b'), fun w k G W X o => by
          obtain ⟨⟨rfl, h0⟩, h1, h2⟩ := h
          exact e_bltK (cr_sortedRev (b := true)) (fun vs zs H Q l a => cr_sortr o.hK vs zs H Q l a) (o.gl h1) (o.blt _ (by decide +kernel)) (by decide +kernel) (x.pa w k G W X o) (z.pk w k G W X o) h2 h0 (by decide +kernel) (by decide +kernel) (star_head (x.star _) (y.star _)) (x.star _)⟩
      else if h : (f = ("max" : Str) ∧ kws.map (·.arg) = [some (Str.ofString "default")]) ∧ sc.names.lookup ("max" : Str) = some .globalImplicit ∧ z.b'.lenC = some 1 then
        some ⟨.prim .maxd (.app x.a' z.b'), fun w k G W X o => by
          obtain ⟨⟨rfl, h0⟩, h1, h2⟩ := h
          exact e_bltK (cr_maxd o.hK (by have := o.units; omega) (o.calm rfl)) (fun vs zs H Q l a => ⟨l, a⟩) (o.gl h1) (o.blt _ (by decide +kernel)) (by decide +kernel) (x.pa w k G W X o) (z.pk w k G W X o) h2 h0 (by decide +kernel) (by decide +kernel) (star_head (x.star _) (y.star _)) (x.star _)⟩
      else none
    | _, _, _ => none
  | _, _ => none
/-- f(.., k = v) -/
def cCallK (sc : Scope) (fn : Expr) (args : List Expr) (kws : List Keyword) (pos : Pos) : Option (CE P nm N sc none (.Call fn args kws pos)) := match fn, args with
  | .Name f p0, e :: es => match cArgs c sc none (e :: es), cArgs c sc none es, cKws c sc kws with
    | some x, some y, some z =>
      if hg : sc.names.lookup f = some .globalImplicit ∧ (f == ("__debug__" : Str)) = false then
        match hk : nm.kws.lookup f with
        | some (i, dl) => if hl : z.b'.lenC = some dl.length ∧ kws.map (·.arg) = dl.map fun q => some q.1 then
            some ⟨.call i (.app x.a' z.b'), fun w k G W X o => e_callK o (PySem.mem_of_lookup hk) hg.1 hg.2 (x.pa w k G W X o) (z.pk w k G W X o) hl.1 hl.2 (star_head (x.star _) (y.star _)) (x.star _)⟩
          else none
        | none => none
      else none
    | _, _, _ => none
  | _, _ => none
/-- f(..), while an exception is handled -/
def cCallH (sc : Scope) (i : Nat) (f : Str) (p0 : Pos) (args : List Expr) (pos : Pos) : Option (CE P nm N sc (some i) (.Call (.Name f p0) args [] pos)) :=
  if hg : sc.names.lookup f = some .globalImplicit ∧ (f == ("__debug__" : Str)) = false then
    match hl : nm.hfs.lookup f with
    | some (j, true) => match args with
      | [.Name n p1] => if h : N[i]? = some n ∧ (sc.names.lookup n = some .local ∨ sc.names.lookup n = some .cell ∨ sc.names.lookup n = some .free) ∧ (n == ("__debug__" : Str)) = false ∧ (n == ("__classdict__" : Str)) = false then
          some ⟨.call j (.cons (.var i) .nil), fun w k G W X o => e_callX o h.1 h.2.1 h.2.2.1 h.2.2.2 (PySem.mem_of_lookup hl) hg.1 hg.2⟩
        else none
      | _ => none
    | some (j, false) => match args with
      | [] => none
      | e :: es => match cArgs c sc (some i) (e :: es), cArgs c sc (some i) es with
        | some x, some y => some ⟨.call j x.a', fun w k G W X o => e_callH o (PySem.mem_of_lookup hl) hg.1 hg.2 (x.pa w k G W X o) (star_head (x.star _) (y.star _)) (star_any (y.star _))⟩
        | _, _ => none
    | none => match args with
      | [] => none
      | e :: es => match hb : bltOfH f (e :: es).length, cArgs c sc (some i) (e :: es), cArgs c sc (some i) es with
        | some b, some x, some y => some ⟨.prim b.pm x.a', fun w k G W X o => e_bltH o hb hg.1 (x.pa w k G W X o) (star_head (x.star _) (y.star _)) (star_any (y.star _))⟩
        | _, _, _ => none
  else none
/-- a clause's test, an exception handled -/
structure CTsH (P : Pg) (nm : Nm) (N : List Str) (sc : Scope) (hot : Option Nat) (ifs : List Expr) where
  e' : E
  pts : ∀ w k G W X, OkE P w k nm N sc hot G W X → PTs X ifs (TTv G W (evE (callF P w k) e'))
def cIfsH (sc : Scope) (hot : Option Nat) (ifs : List Expr) : Option (CTsH P nm N sc hot ifs) := match ifs with
  | [] => some ⟨.lit (.bl true), fun w k G W X o => ts_imp pts_yes fun ρ h => by simp only [evE]⟩
  | [t] => match c.t sc hot t with
    | some x => some ⟨x.e', fun w k G W X o => pts_one (x.pt w k G W X o)⟩
    | none => none
  | _ => none
/-- [e for x in xs if t], an exception handled -/
def cCompH (sc : Scope) (i : Nat) (elt : Expr) (gs : List Comprehension) (scope : Scope) (pos : Pos) : Option (CE P nm N sc (some i) (.ListComp elt gs scope pos)) := match gs with
  | [⟨.Name x px, iter, ifs, 0⟩] => match c.e sc (some i) iter, slotOf N scope x, cIfsH c scope (some N.length) ifs, c.e scope (some N.length) elt with
    | some a, some j, some ts, some e =>
      if hb : blkC N sc scope [(x, j.1)] = true ∧ noSet iter = true then
        some ⟨.comp ([(x, j.1)].map (·.2)) .plain (.cons a.e' .nil) (.name j.1) ts.e' e.e', fun w k G W X o => e_lcH o (a.pe w k G W X o) (blk_to o hb.1) (fun X' o' => g_name o' j.2) (by simp) (fun X' o' => ts.pts w k _ W0 X' o') (fun X' o' => e.pe w k _ W0 X' o') (fun z => fold_ok hb.2 _ z)⟩
      else none
    | _, _, _, _ => none
  | _ => none
/-- e.f, e the exception that is held -/
def cXfld (sc : Scope) (i : Nat) (ob : Expr) (f : Str) (pos : Pos) : Option (CE P nm N sc (some i) (.Attribute ob f pos)) := match ob with
  | .Name n p1 => if h : N[i]? = some n ∧ (sc.names.lookup n = some .local ∨ sc.names.lookup n = some .cell ∨ sc.names.lookup n = some .free) ∧ (n == ("__debug__" : Str)) = false ∧ (n == ("__classdict__" : Str)) = false ∧ f ∈ nm.xat ∧ baseOk (.Name n p1) = true then
      some ⟨.xfld i f, fun w k G W X o => x_fld o h.1 h.2.1 h.2.2.1 h.2.2.2.1 (base_ok h.2.2.2.2.2 _ _ _) h.2.2.2.2.1⟩
    else none
  | _ => none
def cCall (sc : Scope) (hot : Option Nat) (fn : Expr) (args : List Expr) (pos : Pos) : Option (CE P nm N sc hot (.Call fn args [] pos)) := match fn with
  | .Name f p0 =>
    if hf : f = ("isinstance" : Str) then match args with
      | [a, t] => match cIs c sc hot a t p0 pos with
        | some x => some ⟨x.e', by subst hf; exact x.pe⟩
        | none => none
      | _ => none
    else match hot with
      | none => match cLenSet c sc f p0 args pos with
        | some x => some x
        | none => match cLen c sc f p0 args pos with
        | some x => some x
        | none => match cLR c sc f p0 args pos with
          | some x => some x
          | none => cCallN c sc f p0 args pos
      | some i => cCallH c sc i f p0 args pos
  | .Attribute ob m apos => match hot with
    | none => match cOwnM c sc ob m apos args pos with
      | some x => some x
      | none => cMeth c sc ob m apos args pos
    | some _ => none
  | _ => none
def eStep (sc : Scope) (hot : Option Nat) (e : Expr) : Option (CE P nm N sc hot e) := match e with
  | .Name x pos => cName x pos
  | .Constant v j pos => cConst v j pos
  | .BinOp a op b pos => match hp : binPm op, c.e sc hot a, c.e sc hot b with
    | some p, some x, some y => some ⟨.prim p (.cons x.e' (.cons y.e' .nil)), fun w k G W X o => e_op (bin_ok o hp) (x.pe w k G W X o) (y.pe w k G W X o)⟩
    | _, _, _ => none
  | .UnaryOp .USub a pos => match c.e sc hot a with
    | some x => some ⟨.prim .neg (.cons x.e' .nil), fun w k G W X o => e_neg (x.pe w k G W X o)⟩
    | none => none
  | .UnaryOp .Not a pos => match c.e sc hot a with
    | some x => some ⟨.not x.e', fun w k G W X o => e_not o.hK (x.pe w k G W X o)⟩
    | none => none
  | .BoolOp op es pos => cBoolE c sc hot op pos es
  | .Compare a ops bs pos => cCmp c sc hot a ops bs pos
  | .IfExp t a b pos => match c.t sc hot t, c.e sc hot a, c.e sc hot b with
    | some z, some x, some y => some ⟨.ite z.e' x.e' y.e', fun w k G W X o => e_ite (z.pt w k G W X o) (x.pe w k G W X o) (y.pe w k G W X o)⟩
    | _, _, _ => none
  | .Call fn args kws pos => match kws with
    | [] => cCall c sc hot fn args pos
    | kw :: kws => match hot with
      | none => match cCallK c sc fn args (kw :: kws) pos with
        | some x => some x
        | none => cCallKB c sc fn args (kw :: kws) pos
      | some _ => none
  | .Subscript a b pos => cSub c sc hot a b pos
  | .Attribute ob f pos => match hot with
    | none => if hb : baseOk ob = true then match c.e sc none ob with
        | some x => match findP f nm.prp with
          | some ⟨r, h1⟩ => some ⟨.mcall r.1 f r.2 x.e' .nil, fun w k G W X o => e_prop o h1 (x.pe w k G W X o) (base_ok hb _ _ _)⟩
          | none => some ⟨.fld x.e' f, fun w k G W X o => e_fld o.hK (x.pe w k G W X o) (base_ok hb _ _ _)⟩
        | none => none
      else none
    | some i => cXfld sc i ob f pos
  | .Tuple es j pos => match cArgs c sc hot es with
    | some x => some ⟨.tup x.a', fun w k G W X o => e_tup (x.pa w k G W X o)⟩
    | none => none
  | .List es pos => match cArgs c sc hot es with
    | some x => some ⟨.lst x.a', fun w k G W X o => e_lst (x.pa w k G W X o)⟩
    | none => none
  | .ListComp elt gs scope pos => match hot with
    | none => match cComp c sc elt gs scope with
      | some x => some (mkComp x)
      | none => none
    | some i => cCompH c sc i elt gs scope pos
  | _ => none
def tStep (sc : Scope) (hot : Option Nat) (e : Expr) : Option (CT P nm N sc hot e) := match e with
  | .UnaryOp .Not a pos => match c.t sc hot a with
    | some x => some ⟨.not x.e', fun w k G W X o => t_not (x.pt w k G W X o)⟩
    | none => none
  | .BoolOp op es pos => match cBoolT c sc hot op pos es with
    | some x => some ⟨x.e', fun w k G W X o => (x.pw w k G W X o).pt⟩
    | none => none
  | .Compare a ops bs pos => cCmpT c sc hot a ops bs pos
  | e => if ht : plainTest e = true then match c.e sc hot e with
      | some x => some ⟨x.e', fun w k G W X o => t_val o.hK (x.pe w k G W X o) (plainTest_ok ht _)⟩
      | none => none
    else none
def cAll : Nat → Cs P nm N
  | 0 => ⟨fun _ _ _ => none, fun _ _ _ => none⟩
  | n + 1 => ⟨eStep (cAll n), tStep (cAll n)⟩
end
end Z

set_option Elab.async false
set_option linter.all false
set_option maxRecDepth 100000
set_option maxHeartbeats 4000000
namespace Z
open PySem PySem.Spec PyProof.Rows L2
/-! ### statements -/
def PostS (G : Gx) (W : WX) (H : Hp) (π : List Addr) (o : O) (D : Ends) : Prop := match o with
  | .nx ρ h => ∀ σ H' π', Ext H H' → π <+: π' → HmOk G H' π' h → EnvOk G H' π' ρ σ → D.nx σ H'
  | .rt d h => ∀ v H' π', Ext H H' → π <+: π' → HmOk G H' π' h → Rep G H' π' d v → D.rt v H'
  | .bk ρ h => ∀ σ H' π', Ext H H' → π <+: π' → HmOk G H' π' h → EnvOk G H' π' ρ σ → D.bk σ H'
  | .ct ρ h => ∀ σ H' π', Ext H H' → π <+: π' → HmOk G H' π' h → EnvOk G H' π' ρ σ → D.ct σ H'
  | .ex x ρ h => ∀ σ cls dd H' π', Ext H H' → π <+: π' → HmOk G H' π' h → EnvOk G H' π' ρ σ → XRep G H' π' x cls dd → W cls dd σ H'
  | .bad => False
def TSv (G : Gx) (W : WX) (ev : Env' → Hm → O) : TS := fun D σ H => ∃ ρ π h, EnvOk G H π ρ σ ∧ HmOk G H π h ∧ PostS G W H π (ev ρ h) D
structure OkS (P : Pg) (w k : Nat) (nm : Nm) (N : List Str) (sc : Scope) (hot : Option Nat) (G : Gx) (W : WX) (X : Cx) : Prop extends OkE P w k nm N sc hot G W X where
  po : PassesOwn (model X.prog X.w) X.A X.env X.xe
  hs : X.stack = X.env :: X.outer
  hf : X.env.frame = some X.env.locals
section
variable {P : Pg} {nm : Nm} {N : List Str} {sc : Scope} {hot : Option Nat} {w k : Nat} {G : Gx} {W : WX} {X : Cx}
theorem PostS.weak {o : O} {H0 H : Hp} {π0 π : List Addr} {D : Ends} (e : Ext H0 H) (q : π0 <+: π) (p : PostS G W H0 π0 o D) : PostS G W H π o D := by
  cases o with
  | nx ρ h => exact fun σ H' π' a b c z => p σ H' π' (e.trans a) (q.trans b) c z
  | rt d h => exact fun σ H' π' a b c z => p σ H' π' (e.trans a) (q.trans b) c z
  | bk ρ h => exact fun σ H' π' a b c z => p σ H' π' (e.trans a) (q.trans b) c z
  | ct ρ h => exact fun σ H' π' a b c z => p σ H' π' (e.trans a) (q.trans b) c z
  | ex x ρ h => exact fun σ cls dd H' π' a b c z y => p σ cls dd H' π' (e.trans a) (q.trans b) c z y
  | bad => exact p
theorem PostS.imp {o : O} {H : Hp} {π : List Addr} {D D' : Ends} (p : PostS G W H π o D) (h1 : ∀ σ H, D.nx σ H → D'.nx σ H) (h2 : ∀ v H, D.rt v H → D'.rt v H) (h3 : ∀ σ H, D.bk σ H → D'.bk σ H) (h4 : ∀ σ H, D.ct σ H → D'.ct σ H) : PostS G W H π o D' := by
  cases o with
  | nx ρ h => exact fun σ H' π' a b c z => h1 _ _ (p σ H' π' a b c z)
  | rt d h => exact fun σ H' π' a b c z => h2 _ _ (p σ H' π' a b c z)
  | bk ρ h => exact fun σ H' π' a b c z => h3 _ _ (p σ H' π' a b c z)
  | ct ρ h => exact fun σ H' π' a b c z => h4 _ _ (p σ H' π' a b c z)
  | ex x ρ h => exact p
  | bad => exact p
theorem PostS.to {r : Z.R} {f : D → Hm → O} {ρ : Env'} {σ : L2.St} {H : Hp} {π : List Addr} {D : Ends} (E : EnvOk G H π ρ σ) (p : PostS G W H π (r.to ρ f) D) :
    Post G W σ H π r fun d h _ H' π' => PostS G W H' π' (f d h) D := by
  cases r with
  | ok d h => exact fun v H' π' a b c z => PostS.weak a b p
  | exn x h => exact fun cls dd H' π' a b c z => p σ cls dd H' π' a b c (E.mono a b) z
  | bad => exact p
theorem PostS.nx_now {ρ : Env'} {h : Hm} {σ : L2.St} {H : Hp} {π : List Addr} {D : Ends} (E : EnvOk G H π ρ σ) (M : HmOk G H π h) (p : PostS G W H π (.nx ρ h) D) : D.nx σ H := p σ H π .refl (List.prefix_refl _) M E
theorem pss_imp {st : List Stmt} {t t' : TS} (h : PSs X st t) (q : ∀ D σ H, t' D σ H → t D σ H) : PSs X st t' := ⟨fun pins s σ H D I z => h.run pins s σ H D I (q _ _ _ z)⟩
theorem ps_imp {st : Stmt} {t t' : TS} (h : PS X st t) (q : ∀ D σ H, t' D σ H → t D σ H) : PS X st t' := ⟨fun pins s σ H D I z => h.run pins s σ H D I (q _ _ _ z)⟩
variable {c : Nat → List D → Hm → Z.R} {sub : Str → Str → Bool}
theorem s_nil : PSs X [] (TSv G W (evS c w sub .skip)) := pss_imp pss_nil fun D σ H ⟨ρ, π, h, E, M, p⟩ => by
  simp only [evS] at p; exact p.nx_now E M
theorem s_cons {st : Stmt} {rest : List Stmt} {a b : S} (h1 : PS X st (TSv G W (evS c w sub a))) (h2 : PSs X rest (TSv G W (evS c w sub b))) : PSs X (st :: rest) (TSv G W (evS c w sub (.seq a b))) := by
  refine pss_imp (pss_cons h1 h2) fun D σ H ⟨ρ, π, h, E, M, p⟩ => ⟨ρ, π, h, E, M, ?_⟩
  simp only [evS] at p
  cases q : evS c w sub a ρ h with
  | nx ρ1 h1 => rw [q] at p; exact fun σ' H' π' a b c z => ⟨ρ1, π', h1, z, c, PostS.weak a b p⟩
  | rt d h1 => rw [q] at p; exact p
  | bk ρ1 h1 => rw [q] at p; exact p
  | ct ρ1 h1 => rw [q] at p; exact p
  | ex x ρ1 h1 => rw [q] at p; exact p
  | bad => rw [q] at p; exact p
theorem s_pass {pos : Pos} : PS X (.Pass pos) (TSv G W (evS c w sub .skip)) := ps_imp ps_pass fun D σ H ⟨ρ, π, h, E, M, p⟩ => by
  simp only [evS] at p; exact p.nx_now E M
theorem s_break {pos : Pos} : PS X (.Break pos) (TSv G W (evS c w sub .brk)) := ps_imp ps_break fun D σ H ⟨ρ, π, h, E, M, p⟩ => by
  simp only [evS] at p; exact p σ H π .refl (List.prefix_refl _) M E
theorem s_cont {pos : Pos} : PS X (.Continue pos) (TSv G W (evS c w sub .cont)) := ps_imp ps_continue fun D σ H ⟨ρ, π, h, E, M, p⟩ => by
  simp only [evS] at p; exact p σ H π .refl (List.prefix_refl _) M E
theorem s_expr {e : Expr} {pos : Pos} {ea : E} (he : PE X e (TEv G W (evE c ea))) (hs : swapsWith e none pos.line X.env = pure false) : PS X (.Expr e pos) (TSv G W (evS c w sub (.expr ea))) := by
  refine ps_imp (ps_expr he hs) fun D σ H ⟨ρ, π, h, E, M, p⟩ => ⟨ρ, π, h, E, M, ?_⟩
  simp only [evS] at p
  exact (p.to E).imp fun d h1 v H1 π1 _ e p M1 R1 q => q.nx_now (E.mono e p) M1
theorem s_ret {e : Expr} {pos : Pos} {ea : E} (he : PE X e (TEv G W (evE c ea))) : PS X (.Return (some e) pos) (TSv G W (evS c w sub (.ret ea))) := by
  refine ps_imp (ps_ret he) fun D σ H ⟨ρ, π, h, E, M, p⟩ => ⟨ρ, π, h, E, M, ?_⟩
  simp only [evS] at p
  exact (p.to E).imp fun d h1 v H1 π1 _ e p M1 R1 q => q v H1 π1 .refl (List.prefix_refl _) M1 R1
theorem s_retN {pos : Pos} : PS X (.Return none pos) (TSv G W (evS c w sub .retn)) := ps_imp ps_retN fun D σ H ⟨ρ, π, h, E, M, p⟩ => by
  simp only [evS] at p; exact p .non H π .refl (List.prefix_refl _) M .non
theorem s_if {t : Expr} {a b : List Stmt} {pos : Pos} {et : E} {sa sb : S} (ht : PT X t (TTv G W (evE c et))) (ha : PSs X a (TSv G W (evS c w sub sa))) (hb : PSs X b (TSv G W (evS c w sub sb))) : PS X (.If t a b pos) (TSv G W (evS c w sub (.ite et sa sb))) := by
  refine ps_imp (ps_if ht ha hb) fun D σ H ⟨ρ, π, h, E, M, p⟩ => ⟨ρ, π, h, E, M, ?_⟩
  simp only [evS] at p
  refine (p.to E).imp fun d h1 v H1 π1 _ e p M1 R1 q => ?_
  split at q
  · rename_i hb
    exact ⟨true, hb, by (try dsimp only); rw [if_pos rfl]; exact ⟨ρ, π1, h1, E.mono e p, M1, q⟩⟩
  · rename_i hb
    exact ⟨false, hb, by (try dsimp only); rw [if_neg Bool.false_ne_true]; exact ⟨ρ, π1, h1, E.mono e p, M1, q⟩⟩
  · exact q.elim
/-- a store's reading -/
theorem set_read (hex : G.ex = none) {ea : E} {t : Tg} {g : TG} {D : Ends} {σ : L2.St} {H : Hp} (hg : TgOk X G false t g) (p : TSv G W (evS c w sub (.set t ea)) D σ H) : tAsg (TEv G W (evE c ea)) g D σ H := by
  obtain ⟨ρ, π, h, E, M, p⟩ := p
  refine ⟨ρ, π, h, E, M, ?_⟩
  simp only [evS] at p
  refine (p.to E).imp fun d h1 v H1 π1 _ e p M1 R1 q => ?_
  split at q
  · rename_i ρ1 hs
    exact hg v σ H1 _ ρ ρ1 π1 h1 d hex (E.mono e p) M1 (.inl ⟨rfl, R1⟩) hs fun σ1 E1 _ => q.nx_now E1 M1
  · exact q.elim
theorem bind_to {r : Z.R} {f : D → Hm → Z.R} {ρ : Env'} {g : D → Hm → O} : (r.bind f).to ρ g = r.to ρ fun d h => (f d h).to ρ g := by cases r <;> rfl
/-- a, b = a tuple or a list -/
def gSq (K : PySem.W.Frag) (n : Nat) (t : TGs) : TG := fun v σ H Q => ∃ a xs, v = .ref a ∧ (SqL K H a xs ∨ SqT K H a xs) ∧ xs.length = n ∧ t xs σ H Q
theorem pg_sq {es : List Expr} {k : Nat} {pos : Pos} {t : TGs} {n : Nat} (hc : X.calm = true) (h : PGs X es t)
    (hn : (assignEach es X.env).length = n := by rfl) (hst : (assignEach es X.env).findIdx? (·.1) = none := by rfl) : PG X (.Tuple es k pos) (gSq X.K n t) := by
  refine ⟨fun pins s σ H v u Q I r hw => ?_⟩
  obtain ⟨a, xs, e, q, l, z⟩ := hw
  rcases q with q | q
  · exact (pg_lst hc h hn hst).run pins s σ H v u Q I r ⟨a, xs, e, q, l, z⟩
  · exact (pg_tup hc h hn hst).run pins s σ H v u Q I r ⟨a, xs, e, q, l, z⟩
/-- targets of names one after another -/
def UnOk (G : Gx) (t : Tg) (n : Nat) (ts : TGs) : Prop := ∀ π ρ ρ1 σ H (Q : L2.St → Hp → Prop) ds vs h, EnvOk G H π ρ σ → HmOk G H π h → Reps G H π ds vs → setT t (.tup ds) ρ = some ρ1 → (∀ σ1, EnvOk G H π ρ1 σ1 → Q σ1 H) → vs.length = n ∧ ts vs σ H Q
theorem un_tup2 {i j : Nat} (hx : G.ex = none) : UnOk G (.tup2 i j) 2 (gCons (gName i) (gCons (gName j) gNil)) := by
  intro π ρ ρ1 σ H Q ds vs h E M rs e q
  match ds, rs, e with
  | [], _, e => simp [setT] at e
  | [_], _, e => simp [setT] at e
  | _ :: _ :: _ :: _, _, e => simp [setT] at e
  | [a, b], .cons r1 (.cons r2 .nil), e =>
    simp only [setT, Option.some.injEq] at e
    subst e
    exact ⟨rfl, _, _, rfl, _, _, rfl, rfl, q _ ((E.set hx r1).set hx r2)⟩
theorem un_tup3 {i j k : Nat} (hx : G.ex = none) : UnOk G (.tup3 i j k) 3 (gCons (gName i) (gCons (gName j) (gCons (gName k) gNil))) := by
  intro π ρ ρ1 σ H Q ds vs h E M rs e q
  match ds, rs, e with
  | [], _, e => simp [setT] at e
  | [_], _, e => simp [setT] at e
  | [_, _], _, e => simp [setT] at e
  | _ :: _ :: _ :: _ :: _, _, e => simp [setT] at e
  | [a, b, c], .cons r1 (.cons r2 (.cons r3 .nil)), e =>
    simp only [setT, Option.some.injEq] at e
    subst e
    exact ⟨rfl, _, _, rfl, _, _, rfl, _, _, rfl, rfl, q _ (((E.set hx r1).set hx r2).set hx r3)⟩
theorem un_tup4 {i j k l : Nat} (hx : G.ex = none) : UnOk G (.tup4 i j k l) 4 (gCons (gName i) (gCons (gName j) (gCons (gName k) (gCons (gName l) gNil)))) := by
  intro π ρ ρ1 σ H Q ds vs h E M rs e q
  match ds, rs, e with
  | [], _, e => simp [setT] at e
  | [_], _, e => simp [setT] at e
  | [_, _], _, e => simp [setT] at e
  | [_, _, _], _, e => simp [setT] at e
  | _ :: _ :: _ :: _ :: _ :: _, _, e => simp [setT] at e
  | [a, b, c, d], .cons r1 (.cons r2 (.cons r3 (.cons r4 .nil))), e =>
    simp only [setT, Option.some.injEq] at e
    subst e
    exact ⟨rfl, _, _, rfl, _, _, rfl, _, _, rfl, _, _, rfl, rfl, q _ ((((E.set hx r1).set hx r2).set hx r3).set hx r4)⟩
theorem unp_read (hex : G.ex = none) (hK : G.K = X.K) {ea : E} {t : Tg} {n : Nat} {ts : TGs} {D : Ends} {σ : L2.St} {H : Hp} (hg : UnOk G t n ts) (p : TSv G W (evS c w sub (.set t (.prim .unp (.cons ea .nil)))) D σ H) : tAsg (TEv G W (evE c ea)) (gSq X.K n ts) D σ H := by
  obtain ⟨ρ, π, h, E, M, p⟩ := p
  refine ⟨ρ, π, h, E, M, ?_⟩
  simp only [evS] at p
  rw [ev_prim1, bind_to] at p
  refine (p.to E).imp fun d h1 v H1 π1 _ e p M1 R1 q => ?_
  change PostS G W H1 π1 ((opTuple d h1).to ρ _) D at q
  unfold opTuple at q
  split at q
  · rename_i xs hx
    obtain ⟨a, vs, rfl, rs, sq⟩ := listOf_sq M1 R1 hx
    rw [hK] at sq
    rw [R.to_ok] at q
    split at q
    · rename_i ρ1 hs
      have := hg π1 ρ ρ1 σ H1 D.nx xs vs h1 (E.mono e p) M1 rs hs fun σ1 E1 => q.nx_now E1 M1
      exact ⟨a, vs, rfl, sq, this.1, this.2⟩
    · exact q.elim
  · exact q.elim
/-- .. in a suite: a name that is not the exception's -/
theorem set_readH {ea : E} {j : Nat} {D : Ends} {σ : L2.St} {H : Hp} (hj : ∀ i a c d, G.ex = some (i, a, c, d) → i ≠ j) (p : TSv G W (evS c w sub (.set (.name j) ea)) D σ H) : tAsg (TEv G W (evE c ea)) (gName j) D σ H := by
  obtain ⟨ρ, π, h, E, M, p⟩ := p
  refine ⟨ρ, π, h, E, M, ?_⟩
  simp only [evS] at p
  refine (p.to E).imp fun d h1 v H1 π1 _ e p M1 R1 q => ?_
  simp only [setT] at q
  exact q.nx_now ((E.mono e p).setH hj R1) M1
theorem s_setix {o i e : Expr} {pos p2 : Pos} {eo ei ea : E} (ho : PE X o (TEv G W (evE c eo))) (hi : PE X i (TEv G W (evE c ei))) (he : PE X e (TEv G W (evE c ea)))
    (ha : ∀ v, assign (.Subscript o i p2) X.env v = (do
      let ov ← holding [v] (eval o X.env)
      let iv ← holding [v, ov] (eval i X.env)
      standAt p2
      holding [v, ov, iv] (setItem ov iv v)
      release [v, ov, iv] [])) (hs : swapsWithSole [.Subscript o i p2] e pos.line X.env = pure false) (hw : swappedStores [.Subscript o i p2] e X.env = pure none) :
    PS X (.Assign [.Subscript o i p2] e pos) (TSv G W (evS c w sub (.setix eo ei ea))) := by
  refine ps_imp (ps_asg he (pg_sub ho hi (z_set (G := G) (W := W)) ha) hs hw) fun D σ H ⟨ρ, π, h, E, M, p⟩ => ⟨ρ, π, h, E, M, ?_⟩
  simp only [evS] at p
  refine (p.to E).imp fun d h1 v H1 π1 _ e1 p1 M1 R1 q => ?_
  have E1 := E.mono e1 p1
  refine ⟨ρ, π1, h1, E1, M1, (q.to E1).imp fun dO h2 vo H2 π2 _ e2 p2 M2 R2 q => ?_⟩
  have E2 := E1.mono e2 p2
  refine ⟨ρ, π2, h2, E2, M2, (q.to E2).imp fun di h3 vi H3 π3 _ e3 p3 M3 R3 q => ?_⟩
  have E3 := E2.mono e3 p3
  exact ⟨σ, π3, h3, dO, di, d, M3, R2.mono e3 p3, R3, (R1.mono e2 p2).mono e3 p3, (q.to E3).imp fun _ h4 v4 H4 π4 _ e4 p4 M4 R4 q => q.nx_now (E3.mono e4 p4) M4⟩
/-! #### o.f = e -/
theorem s_setfld {o e : Expr} {f : Str} {pos p2 : Pos} {eo ea : E} (hK : G.K = X.K) (ho : PE X o (TEv G W (evE c eo))) (he : PE X e (TEv G W (evE c ea))) (hs : swapsWith e (some (.Attribute o f p2)) pos.line X.env = pure false) :
    PS X (.Assign [.Attribute o f p2] e pos) (TSv G W (evS c w sub (.setfld eo f ea))) := by
  refine ps_imp (ps_fld ho he hs) fun D σ H ⟨ρ, π, h, E, M, p⟩ => ⟨ρ, π, h, E, M, ?_⟩
  simp only [evS] at p
  refine (p.to E).imp fun d h1 v H1 π1 _ e1 p1 M1 R1 q => ?_
  have E1 := E.mono e1 p1
  refine ⟨ρ, π1, h1, E1, M1, (q.to E1).imp fun dO h2 vo H2 π2 _ e2 p2 M2 R2 q => ?_⟩
  have E2 := E1.mono e2 p2
  unfold opSetfld at q
  split at q
  · split at q
    · rename_i n _ cn F fs hcell
      split at q
      · rename_i hz
        obtain ⟨a, C, dx, vs, rfl, hn, hH, hm, hk, rs, hc, hF⟩ := M2.ins hcell R2
        obtain ⟨k1, k2⟩ := put_rel (R1.mono e2 p2) (f := f) hk rs
        have hf : f ∈ F := by simpa using hz.1
        have e3 : Ext H2 (upd H2 a (.ins C dx (putF f v vs))) := .ins hH
        refine ⟨a, C, dx, vs, rfl, hH, hK ▸ hc, hK ▸ hF f hf, by rw [keys_len hk]; omega, ?_⟩
        have M3 := M2.seti (c := .ins cn F (putD f d fs)) (us := putF f v vs) hn hH ⟨C, dx, _, rfl, hm, k1, k2, hc, hF⟩
        exact PostS.nx_now (E2.mono e3 (List.prefix_refl _)) M3 (PostS.weak e3 (List.prefix_refl _) q)
      · exact q.elim
    · exact q.elim
  · exact q.elim
/-! #### x op= e -/
def rAug (G : Gx) (W : WX) (p : Pm) : TIp := rA2 G W (evAug p)
theorem aug_ok {op : Operator} {p : Pm} (h : binPm op = some p) : PIp X op (rAug G W p) := by
  intro pins s σ H x y v u Q I rx ry ⟨σ', π, h, dx, dy, M, Rx, Ry, P⟩
  unfold evAug at P
  split at P
  · cases rep_int Rx; cases rep_int Ry
    have : op = .Add := by cases op <;> simp [binPm] at h <;> rfl
    subst this
    exact iop_add pins s σ H _ _ v u Q I rx ry ⟨_, _, rfl, rfl, post_pure M (.int _) P⟩
  · cases rep_str Rx; cases rep_str Ry
    have : op = .Add := by cases op <;> simp [binPm] at h <;> rfl
    subst this
    simp only [opAdd] at P
    split at P
    · rename_i hz
      exact iop_add_str pins s σ H _ _ v u Q I rx ry ⟨_, _, rfl, rfl, hz, post_pure M (.str _) P⟩
    · exact P.elim
  · cases rep_int Rx; cases rep_int Ry
    have : op = .Sub := by cases op <;> simp [binPm] at h <;> rfl
    subst this
    exact iop_sub pins s σ H _ _ v u Q I rx ry ⟨_, _, rfl, rfl, post_pure M (.int _) P⟩
  · cases rep_int Rx; cases rep_int Ry
    have : op = .Mult := by cases op <;> simp [binPm] at h <;> rfl
    subst this
    simp only [opMul] at P
    split at P
    · rename_i hc
      unfold okMul at hc
      simp only [Bool.or_eq_true, decide_eq_true_eq] at hc
      exact iop_mul pins s σ H _ _ v u Q I rx ry ⟨_, _, rfl, rfl, hc, post_pure M (.int _) P⟩
    · exact P.elim
  · split at P
    · rename_i hc
      cases rep_int Rx; cases rep_int Ry
      have : op = .FloorDiv := by cases op <;> simp [binPm] at h <;> rfl
      subst this
      exact iop_fdiv pins s σ H _ _ v u Q I rx ry ⟨_, _, rfl, rfl, hc, post_pure M (.int _) P⟩
    · exact P.elim
  · split at P
    · rename_i hc
      cases rep_int Rx; cases rep_int Ry
      have : op = .Mod := by cases op <;> simp [binPm] at h <;> rfl
      subst this
      exact iop_mod pins s σ H _ _ v u Q I rx ry ⟨_, _, rfl, rfl, hc, post_pure M (.int _) P⟩
    · exact P.elim
  · exact P.elim
theorem s_aug (hex : G.ex = none) {x : Str} {i : Nat} {op : Operator} {p : Pm} {e : Expr} {pos p2 : Pos} {ea : E} (o : OkE P w k nm N sc hot G W X) (h : N[i]? = some x ∧ (sc.names.lookup x = some .local ∨ sc.names.lookup x = some .cell)) (hp : binPm op = some p) (he : PE X e (TEv G W (evE c ea))) :
    PS X (.AugAssign (.Name x p2) op e pos) (TSv G W (evS c w sub (.aug p i ea))) := by
  refine ps_imp (ps_aug (by rw [o.hN]; exact o.nd) (by rw [o.hN]; exact h.1) (o.loc h.2) he (aug_ok (G := G) (W := W) hp) (o.sto x h.2)) fun D σ H ⟨ρ, π, hh, E, M, q⟩ => ?_
  simp only [evS] at q
  split at q
  · rename_i a ha
    obtain ⟨v, h1, h2⟩ := E.at' i a ha
    refine ⟨v, h1, ρ, π, hh, E, M, (q.to E).imp fun d h3 y H1 π1 _ e1 p1 M1 R1 q => ?_⟩
    have E1 := E.mono e1 p1
    exact ⟨σ, π1, h3, a, d, M1, h2.mono e1 p1, R1, (q.to E1).imp fun r h4 z H2 π2 _ e2 p2 M2 R2 q => q.nx_now ((E1.mono e2 p2).set hex R2) M2⟩
  · exact q.elim
/-- xs[i] of a list, read for xs[i] op= e -/
def rGet (G : Gx) (W : WX) : V → V → Hp → VK → Prop := rA2 G W opGet
theorem get_ok (hK : G.K = X.K) : PGet X (rGet G W) := by
  intro pins s σ H x y v u Q I rx ry ⟨σ', π, h, dx, dy, M, Rx, Ry, P⟩
  unfold opGet at P
  split at P
  · rename_i xs i hl
    split at P
    · rename_i d hd
      obtain ⟨a, vs, rfl, rs, sq⟩ := lstOf_sq M Rx hl
      rw [hK] at sq
      obtain ⟨z, he, R2⟩ := at_rel rs hd
      cases rep_int Ry
      cases rx
      obtain ⟨t, rfl⟩ := ry
      obtain ⟨its, r, pl, hz⟩ := I.list sq
      obtain ⟨j, h1, h2, h3, h4, h5⟩ := atI_get he
      obtain ⟨w, ew, rw'⟩ := r.get h2
      have hl := r.length
      have hn := line63
      have fin : EP X pins σ Q w s := ⟨z, H, I, rw', post_pure M R2 P⟩
      by_cases h0 : 0 ≤ i
      · have hj : i.toNat = j := by
          rw [seqIndex_of h0 h5] at h1
          exact Option.some.inj h1
        exact wpAny_getItem_list pl.isList h0 (by omega) (by rw [hj]; simpa using ew) fin
      · have hj : (i + (its.toArray.size : Int)).toNat = j := by
          rw [seqIndex_neg (by omega) h4] at h1
          rw [List.size_toArray, ← hl]
          exact Option.some.inj h1
        exact wpAny_getItem_list_neg pl.isList (by omega) (by rw [List.size_toArray] <;> omega) (by omega) (by rw [hj]; simpa using ew) fin
    · exact P.elim
  · exact P.elim
theorem s_augix {o i e : Expr} {op : Operator} {p : Pm} {pos p2 : Pos} {eo ei ea : E} (hK : G.K = X.K) (hp : binPm op = some p) (ho : PE X o (TEv G W (evE c eo))) (hi : PE X i (TEv G W (evE c ei))) (he : PE X e (TEv G W (evE c ea)))
    (ha : ∀ ov iv new, augStore i ov iv new = (do holding [new, ov, iv] (setItem ov iv new); release [new, ov, iv] []; pure .next)) : PS X (.AugAssign (.Subscript o i p2) op e pos) (TSv G W (evS c w sub (.augix p eo ei ea))) := by
  refine ps_imp (ps_augS ho hi (get_ok (W := W) hK) he (aug_ok (G := G) (W := W) hp) (z_set (G := G) (W := W)) ha) fun D σ H ⟨ρ, π, h, E, M, q⟩ => ⟨ρ, π, h, E, M, ?_⟩
  simp only [evS] at q
  refine (q.to E).imp fun dO h1 vo H1 π1 _ e1 p1 M1 R1 q => ?_
  have E1 := E.mono e1 p1
  refine ⟨ρ, π1, h1, E1, M1, (q.to E1).imp fun di h2 vi H2 π2 _ e2 p2 M2 R2 q => ?_⟩
  have E2 := E1.mono e2 p2
  refine ⟨σ, π2, h2, dO, di, M2, R1.mono e2 p2, R2, (q.to E2).imp fun da h3 va H3 π3 _ e3 p3 M3 R3 q => ?_⟩
  have E3 := E2.mono e3 p3
  refine ⟨ρ, π3, h3, E3, M3, (q.to E3).imp fun d h4 v4 H4 π4 _ e4 p4 M4 R4 q => ?_⟩
  have E4 := E3.mono e4 p4
  refine ⟨σ, π4, h4, da, d, M4, R3.mono e4 p4, R4, (q.to E4).imp fun r h5 v5 H5 π5 _ e5 p5 M5 R5 q => ?_⟩
  have E5 := E4.mono e5 p5
  exact ⟨σ, π5, h5, dO, di, r, M5, (((R1.mono e2 p2).mono e3 p3).mono e4 p4).mono e5 p5, ((R2.mono e3 p3).mono e4 p4).mono e5 p5, R5, (q.to E5).imp fun _ h6 v6 H6 π6 _ e6 p6 M6 R6 q => q.nx_now (E5.mono e6 p6) M6⟩
end
end Z

set_option Elab.async false
set_option linter.all false
set_option maxRecDepth 100000
set_option maxHeartbeats 4000000
namespace Z
open PySem PySem.Spec PyProof.Rows L2
section
variable {P : Pg} {nm : Nm} {N : List Str} {sc : Scope} {hot : Option Nat} {w k : Nat} {G : Gx} {W : WX} {X : Cx}
variable {c : Nat → List D → Hm → Z.R} {sub : Str → Str → Bool}
/-! #### for -/
theorem for_read (hex : G.ex = none) {src : Src} {tg : Tg} {ea : Env' → Hm → Z.R} {g : TG} {weak : Bool} {body : Env' → Hm → O} {D : Ends} {σ : L2.St} {H : Hp} (hg : TgOk X G weak tg g) {ρ : Env'} {π : List Addr} {h : Hm} (E : EnvOk G H π ρ σ) (M : HmOk G H π h)
    (p : PostA G W σ H π (ea ρ h) fun ds h1 _ H1 π1 => ∃ items gd, evSrc src ds h1 = some (items, gd) ∧ PostS G W H1 π1 (forL gd tg body items ρ h1) D) : tFor (TIv G W weak ea src) g (TSv G W body) D σ H := by
  refine ⟨ρ, π, h, E, M, p.imp fun ds h1 vs H1 π1 _ e1 p1 M1 R1 ⟨items, gd, es, q⟩ => ⟨items, gd, es, fun J H2 e2 M2 wk => ?_⟩⟩
  have E2 : EnvOk G H2 π1 ρ σ := E.mono (e1.trans e2) p1
  have q := PostS.weak e2 (List.prefix_refl _) q
  let Wi : Nat → L2.St → Hp → Prop := fun i σ H => ∃ ρ π h, Ext H2 H ∧ π1 <+: π ∧ HmOk G H π h ∧ EnvOk G H π ρ σ ∧ PostS G W H π (forL gd tg body (items.drop i) ρ h) D
  refine ⟨fun i m σ H => m = items.length - i ∧ i ≤ items.length ∧ Wi i σ H, ⟨items.length, by simp, Nat.zero_le _, ρ, π1, h1, .refl, List.prefix_refl _, M2, E2, q⟩, ?_⟩
  rintro i m σ H ⟨rfl, hi, ρ', π', h', e', p', M', E', q'⟩
  by_cases hlt : i < items.length
  · rw [List.drop_eq_getElem_cons hlt] at q'
    unfold forL at q'
    split at q'
    · rename_i hgd
      refine .inr ⟨wk.goes i H π' h' hlt e' p' M' hgd, Wi (i + 1), fun σ' H' z => ⟨items.length - (i + 1), by omega, rfl, hlt, z⟩, fun x H' y => ?_⟩
      obtain ⟨d, hd, ex, Mx, rx⟩ := wk.yields i H π' h' x H' hlt e' p' M' hgd y
      have ed : items[i] = d := by
        rw [List.getElem?_eq_getElem hlt] at hd; exact Option.some.inj hd
      rw [ed] at q'
      have q' := PostS.weak ex (List.prefix_refl _) q'
      split at q'
      · exact q'.elim
      · rename_i ρ1 hset
        refine hg x σ H' _ ρ' ρ1 π' h' d hex (E'.mono ex (List.prefix_refl _)) Mx rx hset fun σ1 E1 _ => ⟨ρ1, π', h', E1, Mx, ?_⟩
        cases qb : body ρ1 h' with
        | nx ρ2 h2 => rw [qb] at q'; exact fun σ2 H3 π3 e3 p3 M3 E3 => ⟨ρ2, π3, h2, (e'.trans ex).trans e3, p'.trans p3, M3, E3, PostS.weak e3 p3 q'⟩
        | ct ρ2 h2 => rw [qb] at q'; exact fun σ2 H3 π3 e3 p3 M3 E3 => ⟨ρ2, π3, h2, (e'.trans ex).trans e3, p'.trans p3, M3, E3, PostS.weak e3 p3 q'⟩
        | bk ρ2 h2 => rw [qb] at q'; exact q'
        | rt d h2 => rw [qb] at q'; exact q'
        | ex x ρ2 h2 => rw [qb] at q'; exact q'
        | bad => rw [qb] at q'; exact q'
    · exact q'.elim
  · have e : i = items.length := by omega
    subst e
    rw [List.drop_length] at q'
    unfold forL at q'
    split at q'
    · rename_i hgd
      exact .inl ⟨wk.stops H π' h' e' p' M' hgd, q'.nx_now E' M'⟩
    · exact q'.elim
theorem PostS.args {r : Z.R} {f : List D → Hm → O} {ρ : Env'} {σ : L2.St} {H : Hp} {π : List Addr} {D : Ends} (E : EnvOk G H π ρ σ)
    (p : PostS G W H π (r.to ρ fun ds h1 => match ds with | .tup xs => f xs h1 | _ => .bad) D) : PostA G W σ H π r fun ds h _ H' π' => PostS G W H' π' (f ds h) D := by
  cases r with
  | ok d h1 =>
    cases d with
    | tup ds => exact fun vs H' π' a b c e => PostS.weak a b p
    | _ => exact p.elim
  | exn x h1 => exact fun cls dd H' π' a b c z => p σ cls dd H' π' a b c (E.mono a b) z
  | bad => exact p
theorem s_for {tg iter : Expr} {body : List Stmt} {pos : Pos} {src : Src} {t : Tg} {g : TG} {weak : Bool} {ea : E} {sb : S} (o : OkS P w k nm N sc none G W X) (hi : PI X tg iter (TIv G W weak (evE c ea) src)) (hg : PG X tg g) (hgo : TgOk X G weak t g) (hb : PSs X body (TSv G W (evS c w sub sb)))
    (hs : ∀ x, foldedSetIterable iter X.env x = pure x) : PS X (.For tg iter body [] pos) (TSv G W (evS c w sub (.loop src ea t sb))) := by
  refine ps_imp (ps_for o.po (o.calm rfl) hi hg hb hs) fun D σ H ⟨ρ, π, h, E, M, p⟩ => ?_
  simp only [evS] at p
  refine for_read (o.gex rfl) hgo E M ((PostS.args (f := fun xs h1 => match evSrc src xs h1 with | some (items, gd) => forL gd t (evS c w sub sb) items ρ h1 | none => .bad) E p).imp fun ds h1 vs H1 π1 _ e1 p1 M1 R1 q => ?_)
  split at q
  · rename_i items gd hes; exact ⟨items, gd, hes, q⟩
  · exact q.elim
/-- .. while an exception is handled -/
theorem s_forH {i : Nat} {tg iter : Expr} {body : List Stmt} {pos : Pos} {src : Src} {t : Tg} {g : TG} {weak : Bool} {ea : E} {sb : S} (o : OkS P w k nm N sc (some i) G W X) (hN : N.length ≤ i) (hi : L2H.PIH X tg iter (TIv G W weak (evE c ea) src)) (hg : PG X tg g) (hgo : TgOk X G weak t g) (hb : PSs X body (TSv G W (evS c w sub sb)))
    (hs : ∀ x, foldedSetIterable iter X.env x = pure x) : PS X (.For tg iter body [] pos) (TSv G W (evS c w sub (.loop src ea t sb))) := by
  refine ps_imp (L2H.ps_forH o.po (o.hh (by simp)) hi hg hb hs) fun D σ H ⟨ρ, π, h, E, M, p⟩ => ?_
  simp only [evS] at p
  refine for_read (o.gxN i rfl hN) hgo E M ((PostS.args (f := fun xs h1 => match evSrc src xs h1 with | some (items, gd) => forL gd t (evS c w sub sb) items ρ h1 | none => .bad) E p).imp fun ds h1 vs H1 π1 _ e1 p1 M1 R1 q => ?_)
  split at q
  · rename_i items gd hes; exact ⟨items, gd, hes, q⟩
  · exact q.elim
/-! #### while -/
theorem s_while {t : Expr} {body : List Stmt} {pos : Pos} {et : E} {sb : S} (o : OkS P w k nm N sc none G W X) (ht : PT X t (TTv G W (evE c et))) (hb : PSs X body (TSv G W (evS c w sub sb))) : PS X (.While t body [] pos) (TSv G W (evS c w sub (.while et sb))) := by
  refine ps_imp (ps_while o.po ht hb) fun D σ H ⟨ρ, π, h, E, M, p⟩ => ?_
  simp only [evS] at p
  refine ⟨fun m σ H => ∃ ρ π h, HmOk G H π h ∧ EnvOk G H π ρ σ ∧ PostS G W H π (whileL (evE c et) (evS c w sub sb) m ρ h) D, ⟨w, ρ, π, h, M, E, p⟩, ?_⟩
  rintro m σ H ⟨ρ, π, h, M, E, p⟩
  cases m with
  | zero => exact p.elim
  | succ m =>
    refine ⟨ρ, π, h, E, M, ?_⟩
    unfold whileL at p
    cases q : evE c et ρ h with
    | bad => rw [q] at p; exact p.elim
    | exn x h1 => rw [q] at p; exact fun cls dd H' π' a b cc z => p σ cls dd H' π' a b cc (E.mono a b) z
    | ok d h1 =>
      rw [q] at p
      intro v H1 π1 e1 p1 M1 R1
      have E1 := E.mono e1 p1
      have p := PostS.weak e1 p1 p
      dsimp only at p
      split at p
      · rename_i hb
        refine ⟨true, hb, ?_⟩
        dsimp only
        rw [if_pos rfl]
        refine ⟨fun σ H => ∃ ρ π h, HmOk G H π h ∧ EnvOk G H π ρ σ ∧ PostS G W H π (whileL (evE c et) (evS c w sub sb) m ρ h) D, fun σ' H' z => ⟨m, Nat.lt_succ_self _, z⟩, ρ, π1, h1, E1, M1, ?_⟩
        cases qb : evS c w sub sb ρ h1 with
        | nx ρ2 h2 => rw [qb] at p; exact fun σ2 H3 π3 e3 p3 M3 E3 => ⟨ρ2, π3, h2, M3, E3, PostS.weak e3 p3 p⟩
        | ct ρ2 h2 => rw [qb] at p; exact fun σ2 H3 π3 e3 p3 M3 E3 => ⟨ρ2, π3, h2, M3, E3, PostS.weak e3 p3 p⟩
        | bk ρ2 h2 => rw [qb] at p; exact p
        | rt d h2 => rw [qb] at p; exact p
        | ex x ρ2 h2 => rw [qb] at p; exact p
        | bad => rw [qb] at p; exact p
      · rename_i hb
        refine ⟨false, hb, ?_⟩
        dsimp only
        rw [if_neg Bool.false_ne_true]
        exact p.nx_now E1 M1
      · exact p.elim
end
section
variable {P : Pg} {nm : Nm} {N : List Str} {sc : Scope} {hot : Option Nat} {w k : Nat} {G : Gx} {W : WX} {X : Cx}
variable {c : Nat → List D → Hm → Z.R} {sub : Str → Str → Bool}
/-- raise C(), C an own class without __init__ -/
theorem s_raise0 {x : Str} {p pos p2 : Pos} (o : OkE P w k nm N sc none G W X) (hx : (x, []) ∈ nm.exc) (hg : sc.names.lookup x = some .globalImplicit) (hd : (x == ("__debug__" : Str)) = false) :
    PS X (.Raise (some (.Call (.Name x p) [] [] pos)) none p2) (TSv G W (evS c w sub (.raise x [] .nil))) := by
  obtain ⟨C, hm, _, hc⟩ := o.xn x [] hx
  have hc := hc rfl
  refine ps_imp (L2N.ps_raise (o.calm rfl) o.tk (pmk_own0 PySem.F.excBase_ValueError hc.ex hm hc.kp (raises_own hc.sb hc.ty) (o.gl hg) hd)) fun D σ H ⟨ρ, π, h, E, M, q⟩ => ?_
  simp only [evS, evE, R.to_ok] at q
  rw [if_pos (show ([] : List Z.D).length = ([] : List Str).length from rfl)] at q
  exact q σ (.ref C) none H π .refl (List.prefix_refl _) M E ⟨by rw [o.hmg]; exact hm, by rw [o.hxs]; exact List.mem_map.mpr ⟨_, hx, rfl⟩, .inl ⟨rfl, rfl, rfl⟩⟩
theorem Ext.xdn {H : Hp} {p : Addr} {gs : List (Str × V)} (hp : H p = none) : Ext H (upd H p (.xd gs)) := .new hp
/-- raise C(e), C an own class that keeps its one argument -/
theorem s_raiseA {x f : Str} {e : Expr} {p pos p2 : Pos} {ea : E} (o : OkE P w k nm N sc none G W X) (hx : (x, f) ∈ nm.xmk) (hg : sc.names.lookup x = some .globalImplicit) (hd : (x == ("__debug__" : Str)) = false) (he : PE X e (TEv G W (evE c ea))) (hs : noStar e = true) :
    PS X (.Raise (some (.Call (.Name x p) [e] [] pos)) none p2) (TSv G W (evS c w sub (.raise x [f] (.cons ea .nil)))) := by
  obtain ⟨C, fI, fd, s, y, hm, T, iC, tI, hb, F⟩ := o.xi x f hx
  have hpa : PA X [e] (TAv G W (evE c (.cons ea .nil))) := by
    have h1 := a_cons he (a_nil (G := G) (W := W)) (star_cons hs)
    have e2 : (fun ρ h => (evE c ea ρ h).bind fun d h1 => (R.ok (.tup []) h1).bind fun ds h2 => match ds with | .tup xs => .ok (.tup (d :: xs)) h2 | _ => .bad) = evE c (.cons ea .nil) := by
      funext ρ h
      simp only [evE]
      try rfl
    rw [← e2]; exact h1
  refine ps_imp (L2N.ps_raise (o.calm rfl) o.tk (pmkN_oex T iC tI (F 0) ((o.room rfl).mono (by omega)) hb (L2N.passes_call o.tk (fun _ _ _ _ z => z.elim)) (o.gl hg) hm hpa hd (star_cons hs) (by rfl))) fun D σ H ⟨ρ, π, h, E, M, q⟩ => ?_
  simp only [evS] at q
  have q := PostS.args (f := fun xs h1 => if xs.length = [f].length then O.ex ⟨x, [f], xs⟩ ρ h1 else .bad) E q
  refine ⟨ρ, π, h, E, M, q.imp fun ds h1 vs H1 π1 _ e1 p1 M1 R1 q => ?_⟩
  split at q
  · rename_i hlen
    cases R1 with
    | nil => cases hlen
    | @cons d v ds vs r rr =>
      cases rr with
      | cons _ _ => simp at hlen
      | nil =>
        refine ⟨by simp, fun a hna => ⟨a, v, rfl, upd_same, fun dx hdx hne => ⟨rfl, dx, [(f, v)], upd_same, by rw [upd_ne hne, upd_same], ?_, ?_⟩⟩⟩
        · rw [upd_ne hne] at hdx; exact hdx
        · have hdx' : H1 dx = none := by rw [upd_ne hne] at hdx; exact hdx
          have eH : upd (L2.del (upd (upd (upd H1 a (exo a C none)) dx (exd dx [(f, v)])) a (exo a C (some dx))) a) dx (.xd [(f, v)]) = upd H1 dx (.xd [(f, v)]) := by
            funext b
            by_cases h1 : b = dx
            · subst h1; rw [upd_same, upd_same]
            · rw [upd_ne h1, upd_ne h1]
              by_cases h2 : b = a
              · subst h2; rw [del_same, hna]
              · rw [del_ne h2, upd_ne h2, upd_ne h1, upd_ne h2]
          rw [eH]
          have ex : Ext H1 (upd H1 dx (.xd [(f, v)])) := .new hdx'
          exact q σ (.ref C) (some dx) _ π1 ex (List.prefix_refl _) (M1.ext_new hdx') ((E.mono e1 p1).mono ex (List.prefix_refl _)) ⟨by rw [o.hmg]; exact hm, by rw [o.hxs]; exact o.xm x f hx, .inr ⟨dx, [(f, v)], rfl, upd_same, rfl, by simp, .cons (r.mono ex (List.prefix_refl _)) .nil⟩⟩
  · exact q.elim
end
end Z

set_option Elab.async false
set_option linter.all false
set_option maxRecDepth 100000
set_option maxHeartbeats 4000000
namespace Z
open PySem PySem.Spec PyProof.Rows L2
section
variable {G G' : Gx} {H : Hp} {π : List Addr}
/-- the exception is bound -/
theorem EnvOk.bind (e : G.K = G'.K) {ρ : Env'} {σ : L2.St} {i : Nat} {a : Addr} {c : Str} {fs : List Str} {ds : List D} {d : Option Addr} (x : EnvOk G H π ρ σ) (hi : i < σ.length) (hx : G'.ex = some (i, a, c, d)) (hf : XFields G H π fs ds d) :
    EnvOk G' H π (ρ.set i (some (.xv c fs ds))) (σ.set i (some (.ref a))) := by
  have hir : i < ρ.length := by rw [x.len]; exact hi
  refine ⟨by simp [x.len], fun j e' h => ?_, fun j a' c' d' h => ?_⟩
  · by_cases hj : i = j
    · subst hj
      rw [List.getElem?_set_self hir] at h
      cases h
      exact ⟨.ref a, by rw [List.getElem?_set_self hi], .xv⟩
    · rw [List.getElem?_set_ne hj] at h
      rw [List.getElem?_set_ne hj]
      obtain ⟨v, h1, h2⟩ := x.at' j e' h
      exact ⟨v, h1, h2.conv e⟩
  · rw [hx] at h
    cases h
    exact ⟨by rw [List.getElem?_set_self hi], fs, ds, by rw [List.getElem?_set_self hir], hf.conv e⟩
/-- .. and gone -/
theorem EnvOk.gone (e : G'.K = G.K) (hx : G.ex = none) {ρ : Env'} {σ : L2.St} {i : Nat} (x : EnvOk G' H π ρ σ) : EnvOk G H π (ρ.set i none) (σ.set i none) := by
  refine ⟨by simp [x.len], fun j e' h => ?_, .none hx⟩
  by_cases hj : i = j
  · subst hj
    by_cases hir : i < ρ.length
    · rw [List.getElem?_set_self hir] at h; cases h
    · rw [List.getElem?_eq_none (by simpa using hir)] at h; cases h
  · rw [List.getElem?_set_ne hj] at h
    rw [List.getElem?_set_ne hj]
    obtain ⟨v, h1, h2⟩ := x.at' j e' h
    exact ⟨v, h1, h2.conv e⟩
end
section
variable {P : Pg} {nm : Nm} {N : List Str} {sc : Scope} {hot : Option Nat} {w k : Nat} {G : Gx} {W : WX} {X : Cx}
variable {c : Nat → List D → Hm → Z.R}
theorem OkS.tr {W' : WX} (o : OkS P w k nm N sc none G W X) (pn : List (Addr × Obj)) (xe : Value → Shared → Prop) (tk : Takes (X.tr pn xe) W') (po : PassesOwn (model X.prog X.w) X.A X.env xe) : OkS P w k nm N sc none G W' (X.tr pn xe) where
  hK := o.hK
  hmg := o.hmg
  hw := o.hw
  hxs := o.hxs
  hN := o.hN
  nd := o.nd
  kin := o.kin
  sc1 := o.sc1
  ek := o.ek
  sto := o.sto
  tk := tk
  units := o.units
  calm := o.calm
  room := o.room
  cl := o.cl
  pr := o.pr
  gex := o.gex
  fns := o.fns
  kf := o.kf
  blt := o.blt
  xn := o.xn
  xa := o.xa
  xi := o.xi
  xm := o.xm
  xk := o.xk
  xb := o.xb
  hh := fun z => absurd rfl z
  roomH := fun z => absurd rfl z
  hq := fun i z => by cases z
  gxN := fun i z => by cases z
  hfs := o.hfs
  cst := o.cst
  po := po
  hs := o.hs
  hf := o.hf
/-- the context of an except suite -/
abbrev Gx.held (G : Gx) (i : Nat) (a : Addr) (c : Str) (d : Option Addr) : Gx := { G with ex := some (i, a, c, d) }
theorem OkS.suite (o : OkS P w k nm N sc none G W X) {i : Nat} {a : Addr} {oe : Obj} {cls : Value} {d : Option Addr} {cn : Str} {pn : List (Addr × Obj)} (hi : i < N.length) (hz : Zc cls d oe) (hf : ∃ vs, oe.data = .fields vs) (hm : X.mg cn = some cls) (hc : cn ∈ nm.exc.map (·.1)) :
    OkS P w k nm N sc (some i) (G.held i a cn d) W0 (X.suite a ((a, oe) :: pn)) where
  hK := o.hK
  hmg := o.hmg
  hw := o.hw
  hxs := o.hxs
  hN := o.hN
  nd := o.nd
  kin := o.kin
  sc1 := o.sc1
  ek := o.ek
  sto := o.sto
  tk := takes_none5
  units := by
    have h := o.units
    have e : (X.A.mark (some (.ref a))).units = X.A.units := by first | rfl | simp [Around.mark]
    show (X.A.mark (some (.ref a))).units + 100 < cLine
    rw [e]; exact h
  calm := fun z => by cases z
  room := fun z => by cases z
  gex := fun z => by cases z
  fns := o.fns
  kf := o.kf
  cl := o.cl
  pr := o.pr
  blt := o.blt
  xn := o.xn
  xa := o.xa
  xi := o.xi
  xm := o.xm
  xk := o.xk
  xb := o.xb
  hh := fun _ => hotc hz hf
  roomH := fun _ => ⟨(o.room rfl).dp, (o.room rfl).un⟩
  hq := fun i' z _ => by
    cases z
    obtain ⟨⟨T', fs⟩, z1, z2⟩ := List.mem_map.mp hc
    have z2 : T' = cn := z2
    subst z2
    obtain ⟨D, hD, xc, _⟩ := o.xn _ fs z1
    have e : cls = .ref D := by rw [hD] at hm; exact (Option.some.inj hm).symm
    subst e
    obtain ⟨vs, hv⟩ := hf
    exact ⟨a, oe, T', d, D, rfl, hc, hD, ⟨rfl, vs, hv, hz.2.2 vs hv⟩, List.mem_cons_self, hz.zc⟩
  gxN := fun i' z h => by cases z; exact absurd hi (by omega)
  hfs := o.hfs
  cst := fun n d' hd => by
    obtain ⟨v, u, h1, h2, h3⟩ := o.cst n d' hd
    exact ⟨v, u, h1, h2, fun H π => Rep.conv (G := G) (G' := G.held i a cn d) rfl (h3 H π)⟩
  po := PassesOwn.never
  hs := o.hs
  hf := o.hf
/-- .. of a clause without a name -/
theorem OkS.suite0 (o : OkS P w k nm N sc none G W X) {a : Addr} {oe : Obj} {cls : Value} {d : Option Addr} {pn : List (Addr × Obj)} (hz : Zc cls d oe) (hf : ∃ vs, oe.data = .fields vs) :
    OkS P w k nm N sc (some N.length) G W0 (X.suite a ((a, oe) :: pn)) where
  hK := o.hK
  hmg := o.hmg
  hw := o.hw
  hxs := o.hxs
  hN := o.hN
  nd := o.nd
  kin := o.kin
  sc1 := o.sc1
  ek := o.ek
  sto := o.sto
  tk := takes_none5
  units := by
    have h := o.units
    have e : (X.A.mark (some (.ref a))).units = X.A.units := by first | rfl | simp [Around.mark]
    show (X.A.mark (some (.ref a))).units + 100 < cLine
    rw [e]; exact h
  calm := fun z => by cases z
  room := fun z => by cases z
  gex := fun z => by cases z
  fns := o.fns
  kf := o.kf
  cl := o.cl
  pr := o.pr
  blt := o.blt
  xn := o.xn
  xa := o.xa
  xi := o.xi
  xm := o.xm
  xk := o.xk
  xb := o.xb
  hh := fun _ => hotc hz hf
  roomH := fun _ => ⟨(o.room rfl).dp, (o.room rfl).un⟩
  hq := fun i' z h => by cases z; exact absurd h (Nat.lt_irrefl _)
  gxN := fun i' z h => o.gex rfl
  hfs := o.hfs
  cst := o.cst
  po := PassesOwn.never
  hs := o.hs
  hf := o.hf
theorem pss_ex {st : List Stmt} {α : Type} {p : α → Prop} {t : α → TS} (h : ∀ a, p a → PSs X st (t a)) : PSs X st (fun D σ H => ∃ a, p a ∧ t a D σ H) := ⟨fun pins s σ H D I ⟨a, pa, z⟩ => (h a pa).run pins s σ H D I z⟩
/-- the suite's ends, in the whole's terms -/
theorem suite_end {o : O} {H : Hp} {π : List Addr} {D : Ends} {i : Nat} {a : Addr} {cn : Str} {d : Option Addr} (hex : G.ex = none)
    (p : PostS G W H π (match (generalizing := false) o with
      | .nx ρ1 h1 => .nx (ρ1.set i none) h1
      | .bk ρ1 h1 => .bk (ρ1.set i none) h1
      | .ct ρ1 h1 => .ct (ρ1.set i none) h1
      | .rt d h1 => .rt d h1
      | _ => .bad) D) :
    PostS (G.held i a cn d) W0 H π o { nx := fun σ' H' => D.nx (σ'.set i none) H', rt := D.rt, bk := fun σ' H' => D.bk (σ'.set i none) H', ct := fun σ' H' => D.ct (σ'.set i none) H' } := by
  cases o with
  | nx ρ h => exact fun σ H' π' x y M E => p _ H' π' x y (M.conv (G := G.held i a cn d) (G' := G) rfl rfl rfl) (E.gone (G := G) (G' := G.held i a cn d) rfl hex)
  | bk ρ h => exact fun σ H' π' x y M E => p _ H' π' x y (M.conv (G := G.held i a cn d) (G' := G) rfl rfl rfl) (E.gone (G := G) (G' := G.held i a cn d) rfl hex)
  | ct ρ h => exact fun σ H' π' x y M E => p _ H' π' x y (M.conv (G := G.held i a cn d) (G' := G) rfl rfl rfl) (E.gone (G := G) (G' := G.held i a cn d) rfl hex)
  | rt d1 h => exact fun v H' π' x y M R => p _ H' π' x y (M.conv (G := G.held i a cn d) (G' := G) rfl rfl rfl) (R.conv (G := G.held i a cn d) (G' := G) rfl)
  | ex x ρ h => exact p.elim
  | bad => exact p.elim
/-- a row of except clauses, read -/
structure HdsR (P : Pg) (nm : Nm) (N : List Str) (sc : Scope) (hds : List ExceptHandler) (s' : S) : Prop where
  ok : ∀ w k G W X, OkS P w k nm N sc none G W X → ∃ l, HdsA X hds l ∧ ∀ D x ρ h σ cls dd H π, HmOk G H π h → EnvOk G H π ρ σ → XRep G H π x cls dd → PostS G W H π (evH (callF P w k) w P.sub s' x ρ h) D → wManyA X.K W D l cls dd σ H
theorem hds_nil : HdsR P nm N sc [] .hnil := ⟨fun w k G W X o => ⟨[], .nil, fun D x ρ h σ cls dd H π M E XR p => by
  simp only [evH] at p
  exact p σ cls dd H π .refl (List.prefix_refl _) M E XR⟩⟩
theorem xrep_cls (o : OkE P w k nm N sc hot G W X) {x : Exn} {cls : Value} {d : Option Addr} {H : Hp} {π : List Addr} (r : XRep G H π x cls d) : ∃ C, cls = .ref C ∧ X.mg x.cls = some (.ref C) ∧ x.cls ∈ nm.exc.map (·.1) := by
  obtain ⟨hmx, hxm, hfl⟩ := r
  rw [o.hmg] at hmx
  rw [o.hxs] at hxm
  obtain ⟨⟨T1, fs1⟩, y1, y2⟩ := List.mem_map.mp hxm
  have y2 : T1 = x.cls := y2
  subst y2
  obtain ⟨C1, hm1, _⟩ := o.xn _ fs1 y1
  exact ⟨C1, by rw [hm1] at hmx; exact (Option.some.inj hmx).symm, hm1, hxm⟩
theorem hds_as {suite : List Stmt} {b0 : Stmt} {x n : Str} {i : Nat} {np pos' : Pos} {hds : List ExceptHandler} {ss s' : S} (r : HdsR P nm N sc hds s') (hi : N[i]? = some n) (hln : sc.names.lookup n = some .local) (hg : sc.names.lookup x = some .globalImplicit) (hd : (x == ("__debug__" : Str)) = false) (hx : x ∈ nm.exc.map (·.1))
    (hsu : ∀ w k (X' : Cx) (G' : Gx), OkS P w k nm N sc (some i) G' W0 X' → PSs X' (b0 :: suite) (TSv G' W0 (evS (callF P w k) w P.sub ss))) : HdsR P nm N sc (.ExceptHandler (some (.Name x np)) (some n) (b0 :: suite) pos' :: hds) (.hcons x (some i) ss s') := by
  refine ⟨fun w k G W X o => ?_⟩
  obtain ⟨l, hl, q⟩ := r.ok w k G W X o
  obtain ⟨⟨T', fs⟩, z1, z2⟩ := List.mem_map.mp hx
  have z2 : T' = x := z2
  subst z2
  obtain ⟨C, hm, _⟩ := o.xn _ fs z1
  have hkl : X.env.kindOf n = some .local := by
    obtain ⟨kd, e, q⟩ := o.sc1 n _ hln
    rcases q with rfl | ⟨q, _⟩
    · exact e
    · cases q
  refine ⟨(some i, .ref C, fun a cls d D σ H => ∃ cn, (X.mg cn = some cls ∧ cn ∈ nm.exc.map (·.1)) ∧ TSv (G.held i a cn d) W0 (evS (callF P w k) w P.sub ss) D σ H) :: l, .cons ⟨o.gl hg, hd, .inl hm⟩ ⟨by rw [o.hN]; exact hi, hkl⟩ (fun a oe cls d pn hz hf => pss_ex fun cn hcn => hsu _ _ _ _ (o.suite (List.getElem?_eq_some_iff.mp hi).1 hz hf hcn.1 hcn.2)) hl, fun D x1 ρ h σ cls dd H π M E XR p => ?_⟩
  obtain ⟨C1, rfl, hmx, hxm⟩ := xrep_cls o.toOkE XR
  simp only [evH] at p
  refine ⟨P.sub x1.cls T', (o.xk _ _ C1 C hxm hx hmx hm).2, fun hs a ha => ?_, fun hs => ?_⟩
  · rw [if_pos hs] at p
    split at p
    · rename_i il
      rw [E.len] at il
      exact ⟨x1.cls, ⟨hmx, hxm⟩, _, π, h, E.bind (G := G) (G' := G.held i a x1.cls dd) rfl il rfl XR.2.2, M.conv (G := G) (G' := G.held i a x1.cls dd) rfl rfl rfl, suite_end (o.gex rfl) p⟩
    · exact p.elim
  · rw [hs, if_neg Bool.false_ne_true] at p
    exact q D x1 ρ h σ _ dd H π M E XR p
theorem suite_end0 {o : O} {H : Hp} {π : List Addr} {D : Ends} (p : PostS G W H π (match (generalizing := false) o with
      | .ex .. => .bad
      | o => o) D) : PostS G W0 H π o D := by
  cases o with
  | nx ρ h => exact p
  | bk ρ h => exact p
  | ct ρ h => exact p
  | rt d1 h => exact p
  | ex x ρ h => exact p.elim
  | bad => exact p.elim
theorem hds_no {suite : List Stmt} {b0 : Stmt} {x : Str} {np pos' : Pos} {hds : List ExceptHandler} {ss s' : S} (r : HdsR P nm N sc hds s') (hg : sc.names.lookup x = some .globalImplicit) (hd : (x == ("__debug__" : Str)) = false) (hx : x ∈ nm.exc.map (·.1))
    (hsu : ∀ w k (X' : Cx) (G' : Gx), OkS P w k nm N sc (some N.length) G' W0 X' → PSs X' (b0 :: suite) (TSv G' W0 (evS (callF P w k) w P.sub ss))) : HdsR P nm N sc (.ExceptHandler (some (.Name x np)) none (b0 :: suite) pos' :: hds) (.hcons x none ss s') := by
  refine ⟨fun w k G W X o => ?_⟩
  obtain ⟨l, hl, q⟩ := r.ok w k G W X o
  obtain ⟨⟨T', fs⟩, z1, z2⟩ := List.mem_map.mp hx
  have z2 : T' = x := z2
  subst z2
  obtain ⟨C, hm, _⟩ := o.xn _ fs z1
  refine ⟨(none, .ref C, fun a cls d D σ H => TSv G W0 (evS (callF P w k) w P.sub ss) D σ H) :: l, .cons ⟨o.gl hg, hd, .inl hm⟩ trivial (fun a oe cls d pn hz hf => hsu _ _ _ _ (o.suite0 hz hf)) hl, fun D x1 ρ h σ cls dd H π M E XR p => ?_⟩
  obtain ⟨C1, rfl, hmx, hxm⟩ := xrep_cls o.toOkE XR
  simp only [evH] at p
  refine ⟨P.sub x1.cls T', (o.xk _ _ C1 C hxm hx hmx hm).2, fun hs a ha => ?_, fun hs => ?_⟩
  · rw [if_pos hs] at p
    exact ⟨ρ, π, h, E, M, suite_end0 p⟩
  · rw [hs, if_neg Bool.false_ne_true] at p
    exact q D x1 ρ h σ _ dd H π M E XR p
theorem s_tryM {body : List Stmt} {h0 : ExceptHandler} {hds : List ExceptHandler} {pos : Pos} {sb s' : S} (o : OkS P w k nm N sc none G W X)
    (hb : ∀ (X' : Cx) (W' : WX), OkS P w k nm N sc none G W' X' → PSs X' body (TSv G W' (evS (callF P w k) w P.sub sb))) (hr : HdsR P nm N sc (h0 :: hds) s') :
    PS X (.Try body (h0 :: hds) [] [] pos) (TSv G W (evS (callF P w k) w P.sub (.try sb s'))) := by
  obtain ⟨l, hl, q⟩ := hr.ok w k G W X o
  refine ps_imp (ps_try_manyA (tb := fun W' => TSv G W' (evS (callF P w k) w P.sub sb)) o.hs o.hf (by rw [o.hN]; exact o.nd) o.tk (fun W' pn xe tk po => hb _ W' (o.tr pn xe tk po)) hl) fun D σ H ⟨ρ, π, h, E, M, p⟩ => ⟨ρ, π, h, E, M, ?_⟩
  simp only [evS] at p
  cases z : evS (callF P w k) w P.sub sb ρ h with
  | nx ρ1 h1 => rw [z] at p; exact p
  | rt d h1 => rw [z] at p; exact p
  | bk ρ1 h1 => rw [z] at p; exact p
  | ct ρ1 h1 => rw [z] at p; exact p
  | bad => rw [z] at p; exact p
  | ex x1 ρ1 h1 =>
    rw [z] at p
    exact fun σ1 cls dd H1 π1 e1 p1 M1 E1 XR => q D x1 ρ1 h1 σ1 cls dd H1 π1 M1 E1 XR (PostS.weak e1 p1 p)
end
end Z

set_option Elab.async false
set_option linter.all false
set_option maxRecDepth 100000
set_option maxHeartbeats 4000000
namespace Z
open PySem PySem.Spec PyProof.Rows L2
structure CSt (P : Pg) (nm : Nm) (N : List Str) (sc : Scope) (hot : Option Nat) (st : Stmt) where
  s' : S
  ps : ∀ w k G W X, OkS P w k nm N sc hot G W X → PS X st (TSv G W (evS (callF P w k) w P.sub s'))
structure CBl (P : Pg) (nm : Nm) (N : List Str) (sc : Scope) (hot : Option Nat) (sts : List Stmt) where
  b' : S
  ps : ∀ w k G W X, OkS P w k nm N sc hot G W X → PSs X sts (TSv G W (evS (callF P w k) w P.sub b'))
section
variable {P : Pg} {nm : Nm} {N : List Str}
def cBlock (sc : Scope) (hot : Option Nat) (f : ∀ st, Option (CSt P nm N sc hot st)) : (sts : List Stmt) → Option (CBl P nm N sc hot sts)
  | [] => some ⟨.skip, fun w k G W X o => s_nil⟩
  | [st] => match f st with
    | some x => some ⟨x.s', fun w k G W X o => pss_one (x.ps w k G W X o)⟩
    | none => none
  | st :: st2 :: r => match f st, cBlock sc hot f (st2 :: r) with
    | some x, some y => some ⟨.seq x.s' y.b', fun w k G W X o => s_cons (x.ps w k G W X o) (y.ps w k G W X o)⟩
    | _, _ => none
/-- no comprehension that gives its list to a name -/
def noComp : Expr → Bool
  | .ListComp .. => false | .SetComp .. => false | .DictComp .. => false | _ => true
theorem swaps_no {e : Expr} (h : noComp e = true) (t : Option Expr) (l : Nat) (env : Env) : swapsWith e t l env = pure false := by
  cases e <;> first | rfl | cases h
theorem swapsSole_no {e : Expr} (h : noComp e = true) (t : Expr) (l : Nat) (env : Env) : swapsWithSole [t] e l env = pure false := swaps_no h (some t) l env
def noTuple : Expr → Bool
  | .Tuple .. => false | _ => true
theorem swapped_no {e : Expr} (h : noTuple e = true) (t : Expr) (env : Env) : swappedStores [t] e env = pure none := by
  unfold swappedStores
  cases e <;> first | (cases t <;> rfl) | cases h
theorem swapped_sub {o i e : Expr} {p : Pos} (env : Env) : swappedStores [.Subscript o i p] e env = pure none := by
  unfold swappedStores
  cases e <;> rfl
theorem swaps_cell {elt : Expr} {gs : List Comprehension} {scope : Scope} {pos py : Pos} {y : Str} {l : Nat} {env : Env} (h : env.scope.names.lookup y = some .cell) : swapsWith (.ListComp elt gs scope pos) (some (.Name y py)) l env = pure false := by
  have ky : env.kindOf y = some .cell := h
  unfold swapsWith
  simp only [ky]
  have e : ((some NameKind.cell : Option NameKind) == some NameKind.local) = false := by decide
  rw [e]
  simp only [Bool.and_false, Bool.false_and]
def SetIx (i : Expr) : Prop := ∀ (o : Expr) (p : Pos) (env : Env) (v : Value), assign (.Subscript o i p) env v = (do
      let ov ← holding [v] (eval o env)
      let iv ← holding [v, ov] (eval i env)
      standAt p
      holding [v, ov, iv] (setItem ov iv v)
      release [v, ov, iv] [])
def plainSet (i : Expr) : Option (PLift (SetIx i)) := match i with
  | .BinOp .. => some ⟨fun _ _ _ _ => rfl⟩ | .UnaryOp .. => some ⟨fun _ _ _ _ => rfl⟩ | .Call .. => some ⟨fun _ _ _ _ => rfl⟩ | .Constant .. => some ⟨fun _ _ _ _ => rfl⟩ | .Attribute .. => some ⟨fun _ _ _ _ => rfl⟩
  | .Subscript .. => some ⟨fun _ _ _ _ => rfl⟩ | .Name .. => some ⟨fun _ _ _ _ => rfl⟩ | .IfExp .. => some ⟨fun _ _ _ _ => rfl⟩
  | _ => none
def AugIx (i : Expr) : Prop := ∀ (ov iv new : Value), augStore i ov iv new = (do holding [new, ov, iv] (setItem ov iv new); release [new, ov, iv] []; pure .next)
def plainAug (i : Expr) : Option (PLift (AugIx i)) := match i with
  | .BinOp .. => some ⟨fun _ _ _ => rfl⟩ | .UnaryOp .. => some ⟨fun _ _ _ => rfl⟩ | .Call .. => some ⟨fun _ _ _ => rfl⟩ | .Constant .. => some ⟨fun _ _ _ => rfl⟩ | .Attribute .. => some ⟨fun _ _ _ => rfl⟩
  | .Subscript .. => some ⟨fun _ _ _ => rfl⟩ | .Name .. => some ⟨fun _ _ _ => rfl⟩ | .IfExp .. => some ⟨fun _ _ _ => rfl⟩
  | _ => none
variable (c : Cs P nm N)
/-- name = [..]: the list is made for the name -/
def cSetComp (sc : Scope) (y : Str) (py : Pos) (elt : Expr) (gs : List Comprehension) (scope : Scope) (pos spos : Pos) : Option (CSt P nm N sc none (.Assign [.Name y py] (.ListComp elt gs scope pos) spos)) :=
  match slotOf N sc y, cComp c sc elt gs scope with
  | some i, some x =>
    if hl : sc.names.lookup y = some .local ∧ (py.line == pos.line) = true ∧ (scope.names.any fun (n, k) => n == y && (k == .local || k == .cell)) = false then
      some ⟨.set (.name i.1) (compE x), fun w k G W X o => by
        obtain ⟨own, tg, iter, ifs, rfl, ci, g, ts, e, hb, hs, hwt⟩ := x
        have hyl : X.env.scope.names.lookup y = some .local := by
          obtain ⟨kd, h1, h2⟩ := o.sc1 y _ hl.1
          rcases h2 with rfl | ⟨h2, _⟩
          · exact h1
          · cases h2
        refine ps_imp (s_lc (c := callF P w k) o.toOkE i.2.1 hyl (sw_true o.ek hyl hl.2.1 hl.2.2) (ci.pi w k G W X tg hwt o.toOkE) (blk_to o.toOkE hb) (fun X' o' => by
          have z := g.pg w k G W0 X' o'
          rw [← o'.hK, o.hK] at z
          exact z) (by
          intro v σ H Q ρ ρ1 π h d h0 h1 h2 h3 h4 h5
          exact g.ok X G o.hK v σ H Q ρ ρ1 π h d h0 h1 h2 h3 h4 h5) hs (fun X' o' => ts.pts w k G W0 X' o') (fun X' o' => e.pe w k G W0 X' o') (fun z => ci.fold _ z)) fun D σ H q => set_read (X := X) (o.gex rfl) (tg_name (X := X)) q⟩
    else if hc : sc.names.lookup y = some .cell then
      some ⟨.set (.name i.1) (compE x), fun w k G W X o => by
        have hyl : X.env.scope.names.lookup y = some .cell := by
          obtain ⟨kd, h1, h2⟩ := o.sc1 y _ hc
          rcases h2 with rfl | ⟨h2, _⟩
          · exact h1
          · cases h2
        exact ps_imp (ps_set (i := i.1) (by rw [o.hN]; exact o.nd) (by rw [o.hN]; exact i.2.1) (o.loc i.2.2) ((mkComp x).pe w k G W X o.toOkE) (swaps_cell hyl) (o.sto y i.2.2)) fun D σ H q => set_read (X := X) (o.gex rfl) (tg_name (X := X)) q⟩
    else none
  | _, _ => none
def cAssign (sc : Scope) (t e : Expr) (pos : Pos) : Option (CSt P nm N sc none (.Assign [t] e pos)) := match t with
  | .Name y py => match e with
    | .ListComp elt gs scope p => cSetComp c sc y py elt gs scope p pos
    | e => if hn : noComp e = true then
        match slotOf N sc y, c.e sc none e with
        | some i, some x => some ⟨.set (.name i.1) x.e', fun w k G W X o => ps_imp (ps_set (i := i.1) (by rw [o.hN]; exact o.nd) (by rw [o.hN]; exact i.2.1) (o.loc i.2.2) (x.pe w k G W X o.toOkE) (swaps_no hn _ _ _) (o.sto y i.2.2)) fun D σ H q => set_read (X := X) (o.gex rfl) (tg_name (X := X)) q⟩
        | _, _ => none
      else none
  | .Attribute ob f p2 => if hn : noComp e = true then
      match c.e sc none ob, c.e sc none e with
      | some x, some y => some ⟨.setfld x.e' f y.e', fun w k G W X o => s_setfld o.hK (x.pe w k G W X o.toOkE) (y.pe w k G W X o.toOkE) (swaps_no hn _ _ _)⟩
      | _, _ => none
    else none
  | .Subscript ob i p2 => if hn : noComp e = true then
      match plainSet i, c.e sc none ob, c.e sc none i, c.e sc none e with
      | some hp, some x, some y, some z => some ⟨.setix x.e' y.e' z.e', fun w k G W X o => s_setix (x.pe w k G W X o.toOkE) (y.pe w k G W X o.toOkE) (z.pe w k G W X o.toOkE) (fun v => hp.down ob p2 _ v) (swapsSole_no hn _ _ _) (swapped_sub _)⟩
      | _, _, _, _ => none
    else none
  | .Tuple es kk p3 => if hn : noComp e = true ∧ noTuple e = true then
      match cG (P := P) (nm := nm) (N := N) (sc := sc) false (.Tuple es kk p3), c.e sc none e with
      | some g, some x => some ⟨.set g.t x.e', fun w k G W X o => ps_imp (ps_asg (x.pe w k G W X o.toOkE) (g.pg w k G W X o.toOkE) (swapsSole_no hn.1 _ _ _) (swapped_no hn.2 _ _) (by rfl)) fun D σ H q => set_read (X := X) (o.gex rfl) (g.ok X G o.hK) q⟩
      | _, _ => none
    else none
  | _ => none
def ownCall : Expr → Bool
  | .Call (.Name f _) _ _ _ => true
  | _ => false
/-- targets of names that a tuple or a list is laid into -/
structure CU (P : Pg) (nm : Nm) (N : List Str) (sc : Scope) (tg : Expr) where
  t : Tg
  n : Nat
  ts : TGs
  pg : ∀ w k G W X, OkE P w k nm N sc none G W X → PG X tg (gSq X.K n ts)
  ok : ∀ G, G.ex = none → UnOk G t n ts
  as : ∀ env, (assignEach [tg] env).map (·.2) = [assign tg env]
def cU (tg : Expr) : Option (CU P nm N sc tg) := match tg with
  | .Tuple [.Name x p1, .Name y p2] kk pos => match slotOf N sc x, slotOf N sc y with
    | some i, some j => some ⟨.tup2 i.1 j.1, 2, gCons (gName i.1) (gCons (gName j.1) gNil), fun w k G W X o => pg_sq (o.calm rfl) (pgs_cons (g_name o i.2) (pgs_cons (g_name o j.2) pgs_nil)), fun G hx => un_tup2 hx, fun _ => rfl⟩
    | _, _ => none
  | .Tuple [.Name x p1, .Name y p2, .Name z p3] kk pos => match slotOf N sc x, slotOf N sc y, slotOf N sc z with
    | some i, some j, some l => some ⟨.tup3 i.1 j.1 l.1, 3, gCons (gName i.1) (gCons (gName j.1) (gCons (gName l.1) gNil)), fun w k G W X o => pg_sq (o.calm rfl) (pgs_cons (g_name o i.2) (pgs_cons (g_name o j.2) (pgs_cons (g_name o l.2) pgs_nil))), fun G hx => un_tup3 hx, fun _ => rfl⟩
    | _, _, _ => none
  | .Tuple [.Name x p1, .Name y p2, .Name z p3, .Name u p4] kk pos => match slotOf N sc x, slotOf N sc y, slotOf N sc z, slotOf N sc u with
    | some i, some j, some l, some m => some ⟨.tup4 i.1 j.1 l.1 m.1, 4, gCons (gName i.1) (gCons (gName j.1) (gCons (gName l.1) (gCons (gName m.1) gNil))), fun w k G W X o => pg_sq (o.calm rfl) (pgs_cons (g_name o i.2) (pgs_cons (g_name o j.2) (pgs_cons (g_name o l.2) (pgs_cons (g_name o m.2) pgs_nil)))), fun G hx => un_tup4 hx, fun _ => rfl⟩
    | _, _, _, _ => none
  | _ => none
/-- a, b = f(..): a tuple or a list -/
def cAssignU (sc : Scope) (t e : Expr) (pos : Pos) : Option (CSt P nm N sc none (.Assign [t] e pos)) := if hn : (noComp e = true ∧ noTuple e = true) ∧ ownCall e = true then
    match cU (P := P) (nm := nm) (N := N) (sc := sc) t, c.e sc none e with
    | some g, some x => some ⟨.set g.t (.prim .unp (.cons x.e' .nil)), fun w k G W X o => ps_imp (ps_asg (x.pe w k G W X o.toOkE) (g.pg w k G W X o.toOkE) (swapsSole_no hn.1.1 _ _ _) (swapped_no hn.1.2 _ _) (g.as _)) fun D σ H q => unp_read (X := X) (o.gex rfl) o.hK (g.ok G (o.gex rfl)) q⟩
    | _, _ => none
  else none
/-- name = value, in a suite -/
def cAssignH (sc : Scope) (i : Nat) (t e : Expr) (pos : Pos) : Option (CSt P nm N sc (some i) (.Assign [t] e pos)) := match t with
  | .Name y py => if hn : noComp e = true then
      match slotOf N sc y, c.e sc (some i) e with
      | some j, some x => if hij : i ≠ j.1 then
          some ⟨.set (.name j.1) x.e', fun w k G W X o => ps_imp (ps_set (i := j.1) (by rw [o.hN]; exact o.nd) (by rw [o.hN]; exact j.2.1) (o.loc j.2.2) (x.pe w k G W X o.toOkE) (swaps_no hn _ _ _) (o.sto y j.2.2)) fun D σ H q => set_readH (fun i' a c d hx => by
            by_cases hlt : i < N.length
            · obtain ⟨a', oe', c', d', D', h', _⟩ := o.hq i rfl hlt
              rw [h'] at hx
              cases hx
              exact hij
            · rw [o.gxN i rfl (by omega)] at hx
              cases hx) q⟩
        else none
      | _, _ => none
    else none
  | _ => none
/-- raise -/
def cRaise (sc : Scope) (e : Option Expr) (cause : Option Expr) (pos : Pos) : Option (CSt P nm N sc none (.Raise e cause pos)) := match e, cause with
  | some (.Call (.Name x p) args kws p2), none => match args, kws with
    | [], [] => if h : (x, []) ∈ nm.exc ∧ sc.names.lookup x = some .globalImplicit ∧ (x == ("__debug__" : Str)) = false then
        some ⟨.raise x [] .nil, fun w k G W X o => s_raise0 o.toOkE h.1 h.2.1 h.2.2⟩
      else none
    | [e], [] => if h : sc.names.lookup x = some .globalImplicit ∧ (x == ("__debug__" : Str)) = false ∧ noStar e = true then
        match hm : nm.xmk.lookup x, c.e sc none e with
        | some f, some y => some ⟨.raise x [f] (.cons y.e' .nil), fun w k G W X o => s_raiseA o.toOkE (PySem.mem_of_lookup hm) h.1 h.2.1 (y.pe w k G W X o.toOkE) h.2.2⟩
        | _, _ => none
      else none
    | _, _ => none
  | _, _ => none
/-- except clauses -/
structure CHd (P : Pg) (nm : Nm) (N : List Str) (sc : Scope) (hds : List ExceptHandler) where
  s' : S
  ok : HdsR P nm N sc hds s'
def cHds (f : ∀ sc hot st, Option (CSt P nm N sc hot st)) (sc : Scope) : (hds : List ExceptHandler) → Option (CHd P nm N sc hds)
  | [] => some ⟨.hnil, hds_nil⟩
  | .ExceptHandler (some (.Name x np)) (some n) (b0 :: suite) pos' :: r =>
    let i := N.findIdx (· == n)
    if h : N[i]? = some n ∧ sc.names.lookup n = some .local ∧ sc.names.lookup x = some .globalImplicit ∧ (x == ("__debug__" : Str)) = false ∧ x ∈ nm.exc.map (·.1) then
      match cBlock sc (some i) (f sc (some i)) (b0 :: suite), cHds f sc r with
      | some s, some z => some ⟨.hcons x (some i) s.b' z.s', hds_as z.ok h.1 h.2.1 h.2.2.1 h.2.2.2.1 h.2.2.2.2 (fun w k X' G' o' => s.ps w k G' W0 X' o')⟩
      | _, _ => none
    else none
  | .ExceptHandler (some (.Name x np)) none (b0 :: suite) pos' :: r =>
    if h : sc.names.lookup x = some .globalImplicit ∧ (x == ("__debug__" : Str)) = false ∧ x ∈ nm.exc.map (·.1) then
      match cBlock sc (some N.length) (f sc (some N.length)) (b0 :: suite), cHds f sc r with
      | some s, some z => some ⟨.hcons x none s.b' z.s', hds_no z.ok h.1 h.2.1 h.2.2 (fun w k X' G' o' => s.ps w k G' W0 X' o')⟩
      | _, _ => none
    else none
  | _ => none
/-- for x in range(a), an exception handled -/
def cForH (f : ∀ sc hot st, Option (CSt P nm N sc hot st)) (sc : Scope) (i : Nat) (t iter : Expr) (body : List Stmt) (pos : Pos) : Option (CSt P nm N sc (some i) (.For t iter body [] pos)) := match t, iter with
  | .Name y py, .Call (.Name g p0) [a] [] p1 =>
    if h : g = ("range" : Str) ∧ sc.names.lookup ("range" : Str) = some .globalImplicit ∧ N.length ≤ i then
      match slotOf N sc y, cArgs c sc (some i) [a], cBlock sc (some i) (f sc (some i)) body with
      | some j, some x, some b => some ⟨.loop .range1 x.a' (.name j.1) b.b', fun w k G W X o => by
          obtain ⟨rfl, hg, hN⟩ := h
          exact s_forH o hN (i_range1H (o.gl hg) (o.blt _ (by decide +kernel)) (x.pa w k G W X o.toOkE) (by rw [x.star]; rfl)) (g_name o.toOkE j.2) (tg_name (X := X)) (b.ps w k G W X o) (fun z => by rfl)⟩
      | _, _, _ => none
    else none
  | _, _ => none
def sStep (f : ∀ sc hot st, Option (CSt P nm N sc hot st)) (sc : Scope) (hot : Option Nat) (st : Stmt) : Option (CSt P nm N sc hot st) := match st with
  | .Pass pos => some ⟨.skip, fun w k G W X o => s_pass⟩
  | .Break pos => some ⟨.brk, fun w k G W X o => s_break⟩
  | .Continue pos => some ⟨.cont, fun w k G W X o => s_cont⟩
  | .Expr e pos => if hn : noComp e = true then
      match c.e sc hot e with
      | some x => some ⟨.expr x.e', fun w k G W X o => s_expr (x.pe w k G W X o.toOkE) (swaps_no hn _ _ _)⟩
      | none => none
    else none
  | .Return e pos => match e with
    | none => some ⟨.retn, fun w k G W X o => s_retN⟩
    | some e => match c.e sc hot e with
      | some x => some ⟨.ret x.e', fun w k G W X o => s_ret (x.pe w k G W X o.toOkE)⟩
      | none => none
  | .If t a b pos => match c.t sc hot t, cBlock sc hot (f sc hot) a, cBlock sc hot (f sc hot) b with
    | some x, some y, some z => some ⟨.ite x.e' y.b' z.b', fun w k G W X o => s_if (x.pt w k G W X o.toOkE) (y.ps w k G W X o) (z.ps w k G W X o)⟩
    | _, _, _ => none
  | .Assign ts e pos => match hot, ts with
    | none, [t] => match cAssignU c sc t e pos with
      | some z => some z
      | none => cAssign c sc t e pos
    | some i, [t] => cAssignH c sc i t e pos
    | _, _ => none
  | .AugAssign t op e pos => match hot with
    | none => match t with
      | .Name x p2 => match hp : binPm op, slotOf N sc x, c.e sc none e with
        | some p, some i, some y => some ⟨.aug p i.1 y.e', fun w k G W X o => s_aug (o.gex rfl) o.toOkE i.2 hp (y.pe w k G W X o.toOkE)⟩
        | _, _, _ => none
      | .Subscript ob i p2 => match hp : binPm op, plainAug i, c.e sc none ob, c.e sc none i, c.e sc none e with
        | some p, some ha, some x, some y, some z => some ⟨.augix p x.e' y.e' z.e', fun w k G W X o => s_augix o.hK hp (x.pe w k G W X o.toOkE) (y.pe w k G W X o.toOkE) (z.pe w k G W X o.toOkE) ha.down⟩
        | _, _, _, _, _ => none
      | _ => none
    | some _ => none
  | .For t iter body orelse pos => match hot, orelse with
    | none, [] => match cIter c sc iter with
      | some i => match cG (P := P) (nm := nm) (N := N) (sc := sc) i.weak t, cBlock sc none (f sc none) body with
        | some g, some b => if hwt : i.weak = true → isTupE t = true then some ⟨.loop i.src i.ea g.t b.b', fun w k G W X o => s_for o (i.pi w k G W X t hwt o.toOkE) (g.pg w k G W X o.toOkE) (g.ok X G o.hK) (b.ps w k G W X o) (fun z => i.fold _ z)⟩ else none
        | _, _ => none
      | none => none
    | some i, [] => cForH c f sc i t iter body pos
    | _, _ => none
  | .While t body orelse pos => match hot, orelse with
    | none, [] => match c.t sc none t, cBlock sc none (f sc none) body with
      | some x, some b => some ⟨.while x.e' b.b', fun w k G W X o => s_while o (x.pt w k G W X o.toOkE) (b.ps w k G W X o)⟩
      | _, _ => none
    | _, _ => none
  | .Raise e cause pos => match hot with
    | none => cRaise c sc e cause pos
    | some _ => none
  | .Try body hs orelse fin pos => match hot, hs, orelse, fin with
    | none, h0 :: r, [], [] => match cBlock sc none (f sc none) body, cHds f sc (h0 :: r) with
      | some b, some s => some ⟨.try b.b' s.s', fun w k G W X o => s_tryM o (fun X' W' o' => b.ps w k G W' X' o') s.ok⟩
      | _, _ => none
    | _, _, _, _ => none
  | _ => none
def sAll : Nat → ∀ sc hot st, Option (CSt P nm N sc hot st)
  | 0 => fun _ _ _ => none
  | n + 1 => sStep c (sAll n)
end
end Z

set_option Elab.async false
set_option linter.all false
set_option maxRecDepth 100000
set_option maxHeartbeats 4000000
namespace Z
open PySem PySem.Spec PyProof.Rows L2
theorem fun_okC {C : CXT} {P : Program} {w : World} {K : PySem.W.Frag} {mg : Str → Option Value} {base : Heap} {x qual : Str} {st : Stmt} {f : Addr} {fd : FuncData} {N ps : List Str} {k : Nat} {sp : Sp} (F : Fun K x qual st f fd) (S : FnScope N ps (defScope st)) (len : ∀ (vs : List V) (H : Hp) (Q : VK) (E : XK), sp vs H Q E → vs.length = ps.length)
    (run : ∀ (cdv : Value) (A : Around) (outer : List Env) (s : Shared) (H : Hp) (vs : List V) (Q : VK) (E : XK), Room k (A.deeper (envOfC qual (defScope st) s.heap.objs.size f cdv)) → sp vs H Q E →
      ∃ t, PSs (cxOf C P w K mg base N qual (defScope st) f cdv A outer s H E) (defBody st) t ∧ t { nx := fun _ H' => Q V.non H', rt := Q } (L2.start N vs) H) : FnOk P w K mg base C (k + 1) f fd ps sp := by
  obtain ⟨oc, od, kV, doc, pm, an, cdv, ct, osl, rfl, l, c⟩ := F.ex
  exact fn_of l c S len fun A outer s H vs Q E hr h => run cdv A outer s H vs Q E hr h
/-- a def of the text, read -/
def cFn (P : Pg) (nm : Nm) (N : List Str) (st : Stmt) : Option (CBl P nm N (defScope st) none (defBody st)) :=
  cBlock (defScope st) none (sAll (cAll 60) 60 (defScope st) none) (defBody st)
/-- .. as it runs while an exception is handled (b: its first argument is that exception) -/
def hot0 (N : List Str) : Bool → Nat
  | true => 0
  | false => N.length
def cFnH (P : Pg) (nm : Nm) (N : List Str) (st : Stmt) (b : Bool) : Option (CBl P nm N (defScope st) (some (hot0 N b)) (defBody st)) :=
  cBlock (defScope st) (some (hot0 N b)) (sAll (cAll 60) 60 (defScope st) (some (hot0 N b))) (defBody st)
section
variable (P : Pg) (nm : Nm) (K : PySem.W.Frag) (mg : Str → Option Value)
structure FnFact (n : Str) (i : Nat) : Prop where
  ex : ∃ f fd ps N st b, mg n = some (.ref f) ∧ Fun K n n st f fd ∧ Binds K fd ps [] ∧ FnScope N ps (defScope st) ∧ P.fns[i]? = some ⟨ps.length, N.length, b⟩ ∧ ((cFn P nm N st).map fun x => x.b') = some b
structure HfFact (n : Str) (i : Nat) (hb : Bool) : Prop where
  ex : ∃ f fd ps N st b, mg n = some (.ref f) ∧ Fun K n n st f fd ∧ Binds K fd ps [] ∧ FnScope N ps (defScope st) ∧ P.fns[i]? = some ⟨ps.length, N.length, b⟩ ∧ ((cFnH P nm N st hb).map fun x => x.b') = some b ∧ (hb = true → ps.length = 1)
structure KwFact (n : Str) (i : Nat) (dl : List (Str × D)) : Prop where
  ex : ∃ f fd ps N st b us dv, mg n = some (.ref f) ∧ Fun K n n st f fd ∧ Vals dv us ∧ (∀ G H π, Reps G H π (dl.map (·.2)) dv) ∧ Binds K fd ps us ∧ KBn K fd ps (ps.length - dl.length) (dl.map (·.1)) (fun a b => a ++ b) (fun a b => a ++ b) ∧
    FnScope N ps (defScope st) ∧ P.fns[i]? = some ⟨ps.length, N.length, b⟩ ∧ ((cFn P nm N st).map fun x => x.b') = some b
/-- a def of the text, at its address -/
structure BodyFact (i : Nat) (f : Addr) (fd : FuncData) (ps : List Str) : Prop where
  ex : ∃ x q N st b, Fun K x q st f fd ∧ Binds K fd ps [] ∧ FnScope N ps (defScope st) ∧ P.fns[i]? = some ⟨ps.length, N.length, b⟩ ∧ ((cFn P nm N st).map fun x => x.b') = some b
structure ClFact (c : Str) (F : List Str) (i : Nat) (ms : List (Str × Nat)) : Prop where
  ex : ∃ C, mg c = some (.ref C) ∧ Cls K C ∧ (∀ f ∈ F, NoAttr K C f) ∧ (∃ f fd ps, Mk K C f ∧ BodyFact P nm K i f fd ps) ∧ ∀ m j, (m, j) ∈ ms → ∃ f fd ps, Meth K C m f ∧ BodyFact P nm K j f fd ps
structure PrFact (c m : Str) (j : Nat) : Prop where
  ex : ∃ C p f fd ps, mg c = some (.ref C) ∧ Cls K C ∧ PropOf K C m p f ∧ BodyFact P nm K j f fd ps
/-- what the module has -/
structure Wd : Prop where
  fns : ∀ n i, (n, i) ∈ nm.fns → FnFact P nm K mg n i
  kws : ∀ n i dl, (n, i, dl) ∈ nm.kws → KwFact P nm K mg n i dl
  cl : ∀ c F i ms, (c, F, i, ms) ∈ nm.cls → ClFact P nm K mg c F i ms
  pr : ∀ c m j, (c, m, j) ∈ nm.prp → PrFact P nm K mg c m j
  blt : ∀ b, b ∈ bltNames → mg b = none
  xn : ∀ c fs, (c, fs) ∈ nm.exc → ∃ C, mg c = some (.ref C) ∧ ExcC K C ∧ (fs = [] → XcC K C)
  xa : ∀ c f C, c ∈ nm.exc.map (·.1) → f ∈ nm.xat → mg c = some (.ref C) → PySem.W.findIn K (.ref C) f = some none
  xi : ∀ c f, (c, f) ∈ nm.xmk → XiFact K mg c f
  xm : ∀ c f, (c, f) ∈ nm.xmk → c ∈ nm.exc.map (·.1)
  hfs : ∀ n i b, (n, i, b) ∈ nm.hfs → HfFact P nm K mg n i b
  xk : ∀ c c' C C', c ∈ nm.exc.map (·.1) → c' ∈ nm.exc.map (·.1) → mg c = some (.ref C) → mg c' = some (.ref C') → PySem.W.kitOne K (.ref C) (.ref C') = some (P.sub c c') ∧ PySem.W.exmOne K (.ref C) (.ref C') = some (P.sub c c')
  xb : mg "ValueError" = none ∧ ∀ c C, c ∈ nm.exc.map (·.1) → mg c = some (.ref C) → PySem.W.kitOne K (.ref C) (.type "ValueError") = some (P.sub c "ValueError")
  cst : ∀ n d, (n, d) ∈ nm.cst → ∃ v u, mg n = some u ∧ RelV v u ∧ ∀ G H π, Rep G H π d v
variable {P nm K mg}
abbrev G0 (nm : Nm) (K : PySem.W.Frag) (mg : Str → Option Value) (wd : World) : Gx := ⟨K, mg, nm.exc.map (·.1), none, wd⟩
theorem env_start {G : Gx} {H : Hp} {π : List Addr} {ds : List D} {vs : List V} {N : List Str} (r : Reps G H π ds vs) (hx : G.ex = none) : EnvOk G H π (ds.map some ++ List.replicate (N.length - ds.length) none) (L2.start N vs) := by
  unfold L2.start
  have hl := r.length
  refine ⟨by simp [hl], fun i d h => ?_, .none hx⟩
  by_cases hi : i < ds.length
  · rw [List.getElem?_append_left (by simpa using hi), List.getElem?_map] at h
    cases q : ds[i]? with
    | none => rw [q] at h; cases h
    | some e =>
      rw [q] at h
      cases h
      obtain ⟨v, h1, h2⟩ := r.get q
      refine ⟨v, ?_, h2⟩
      rw [List.getElem?_append_left (by rw [List.length_map, ← hl]; exact hi), List.getElem?_map, h1]
      rfl
  · rw [List.getElem?_append_right (by simpa using hi)] at h
    rw [List.getElem?_replicate] at h
    split at h <;> cases h
theorem end_post {G : Gx} {E : XK} {H : Hp} {π : List Addr} {o : O} {Q : VK} (p : Post G (fun cls d _ H' => E cls d H') [] H π (endO o) fun _ _ v H' _ => Q v H') :
    PostS G (fun cls d _ H' => E cls d H') H π o { nx := fun _ H' => Q .non H', rt := Q } := by
  cases o with
  | nx ρ h => exact fun σ H' π' x y M E => p .non H' π' x y M .non
  | rt d h => exact p
  | bk ρ h => exact p.elim
  | ct ρ h => exact p.elim
  | ex x ρ h => exact fun σ cls dd H' π' a b c z y => p cls dd H' π' a b c y
  | bad => exact p.elim
variable {prog : Program} {wd : World} {base : Heap}
/-- all defs of the text keep their promises, calls k deep -/
structure Lv (P : Pg) (nm : Nm) (K : PySem.W.Frag) (mg : Str → Option Value) (prog : Program) (wd : World) (base : Heap) (w k : Nat) : Prop where
  fns : ∀ n i, (n, i) ∈ nm.fns → ∃ f fd ps, mg n = some (.ref f) ∧ PySem.W.keepIn K (.ref f) = true ∧ Binds K fd ps [] ∧ FnOk prog wd K mg base (CX prog wd) (3 * k) f fd ps (spF (G0 nm K mg wd) P w k i)
  kws : ∀ n i dl, (n, i, dl) ∈ nm.kws → ∃ f fd ps us dv, mg n = some (.ref f) ∧ PySem.W.keepIn K (.ref f) = true ∧ Vals dv us ∧ (∀ G H π, Reps G H π (dl.map (·.2)) dv) ∧ Binds K fd ps us ∧ KBn K fd ps (ps.length - dl.length) (dl.map (·.1)) (fun a b => a ++ b) (fun a b => a ++ b) ∧ FnOk prog wd K mg base (CX prog wd) (3 * k) f fd ps (spF (G0 nm K mg wd) P w k i)
  cl : ∀ c F i ms, (c, F, i, ms) ∈ nm.cls → ∃ C, mg c = some (.ref C) ∧ Cls K C ∧ (∀ f ∈ F, NoAttr K C f) ∧
    (∃ f fd ps, Mk K C f ∧ Binds K fd ps [] ∧ FnOk prog wd K mg base (CX prog wd) (3 * k) f fd ps (spF (G0 nm K mg wd) P w k i)) ∧
    ∀ m j, (m, j) ∈ ms → ∃ f fd ps, Meth K C m f ∧ Binds K fd ps [] ∧ FnOk prog wd K mg base (CX prog wd) (3 * k) f fd ps (spF (G0 nm K mg wd) P w k j)
  pr : ∀ c m j, (c, m, j) ∈ nm.prp → ∃ C p f fd ps, mg c = some (.ref C) ∧ Cls K C ∧ PropOf K C m p f ∧ Binds K fd ps [] ∧ FnOk prog wd K mg base (CX prog wd) (3 * k) f fd ps (spF (G0 nm K mg wd) P w k j)
  hfs : ∀ n j b, (n, j, b) ∈ nm.hfs → ∃ f fd ps, mg n = some (.ref f) ∧ PySem.W.keepIn K (.ref f) = true ∧ Binds K fd ps [] ∧ FnX prog wd K mg base (CX prog wd) (3 * k) f fd ps (spX (G0 nm K mg wd) P w k j b)
theorem xi_of (W : Wd P nm K mg) (c f : Str) (h : (c, f) ∈ nm.xmk) : ∃ C fI fd s y, mg c = some (.ref C) ∧ OexC K C ∧ PySem.W.findIn K (.ref C) "__init__" = some (some (.ref fI)) ∧ PySem.W.typeIn K (.ref fI) = some (.type "function") ∧ Binds K fd [s, y] [] ∧ ∀ k', FnOk prog wd K mg base (CX prog wd) (k' + 1) fI fd [s, y] (spI C f) := by
  obtain ⟨C, fI, fd, s, y, x, q, st, h1, h2, h3, h4, h5, h6, h7, h8, h9, h10⟩ := (W.xi c f h).ex
  exact ⟨C, fI, fd, s, y, h1, h2, h3, h4, h5, fun k' => init_fn h6 h7 h8 h2 h9 h10⟩
theorem fn_one (w : Nat) (W : Wd P nm K mg) (k : Nat) (L : Lv P nm K mg prog wd base w k)
    {x q : Str} {i : Nat} {f : Addr} {fd : FuncData} {ps N : List Str} {st : Stmt} {b : S} (F : Fun K x q st f fd) (S : FnScope N ps (defScope st)) (hp : P.fns[i]? = some ⟨ps.length, N.length, b⟩) (hc : ((cFn P nm N st).map fun x => x.b') = some b) :
    FnOk prog wd K mg base (CX prog wd) (3 * (k + 1)) f fd ps (spF (G0 nm K mg wd) P w (k + 1) i) := by
  show FnOk prog wd K mg base (CX prog wd) (3 * k + 2 + 1) f fd ps (spF (G0 nm K mg wd) P w (k + 1) i)
  cases hcf : cFn P nm N st with
  | none => rw [hcf] at hc; cases hc
  | some B =>
    rw [hcf] at hc
    have hB : B.b' = b := by simpa using hc
    have arity : ∀ ds h, callF P w (k + 1) i ds h ≠ .bad → ds.length = ps.length := fun ds h z => by
      unfold callF at z
      rw [hp] at z
      simp only at z
      by_cases e : ds.length = ps.length
      · exact e
      · rw [if_neg e] at z; exact absurd rfl z
    refine fun_okC F S (fun vs H Q E ⟨π, h, ds, M, r, p⟩ => ?_) fun cdv A outer s H vs Q E hr ⟨π, h, ds, M, r, p⟩ => ?_
    · rw [← r.length]
      exact arity ds h fun z => by rw [z] at p; exact p.elim
    · have hl := arity ds h fun z => by rw [z] at p; exact p.elim
      have o : OkS P w k nm N (defScope st) none (G0 nm K mg wd) (fun cls d _ H' => E cls d H') (cxOf (CX prog wd) prog wd K mg base N q (defScope st) f cdv A outer s H E) := {
        hK := rfl
        hmg := rfl
        hw := rfl
        hxs := rfl
        hN := rfl
        nd := S.nd
        kin := S.kind
        sc1 := fun x kd h => ⟨kd, h, .inl rfl⟩
        ek := S.kind
        sto := fun x _ => .inl rfl
        tk := takes_of rfl rfl rfl rfl
        units := Nat.lt_of_le_of_lt (show (A.deeper (envOfC q (defScope st) s.heap.objs.size f cdv)).units + 100 ≤ (A.deeper (envOfC q (defScope st) s.heap.objs.size f cdv)).units + 16 * (3 * k + 2) + 200 by omega) hr.un
        calm := fun _ => rfl
        room := fun _ => hr
        gex := fun _ => rfl
        fns := L.fns
        kf := L.kws
        cl := L.cl
        pr := L.pr
        blt := W.blt
        xn := W.xn
        xk := W.xk
        xb := W.xb
        xa := W.xa
        xi := xi_of W
        xm := W.xm
        hh := fun z => absurd rfl z
        roomH := fun z => absurd rfl z
        hq := fun i z => by cases z
        gxN := fun i z => by cases z
        hfs := L.hfs
        cst := fun n d h => by
          obtain ⟨v, u, h1, h2, h3⟩ := W.cst n d h
          exact ⟨v, u, h1, h2, fun H π => h3 _ H π⟩
        po := passes_of rfl
        hs := rfl
        hf := rfl }
      refine ⟨_, B.ps w k _ _ _ o, ?_⟩
      rw [hB]
      refine ⟨_, π, h, env_start r rfl, M, end_post ?_⟩
      unfold callF at p
      rw [hp] at p
      simp only at p
      rw [if_pos hl] at p
      rw [hl]
      exact p
theorem arity_of {w k i : Nat} {ps N : List Str} {b : S} (hp : P.fns[i]? = some ⟨ps.length, N.length, b⟩) (ds : List D) (h : Hm) (z : callF P w (k + 1) i ds h ≠ .bad) : ds.length = ps.length := by
  unfold callF at z
  rw [hp] at z
  simp only at z
  by_cases e : ds.length = ps.length
  · exact e
  · rw [if_neg e] at z; exact absurd rfl z
theorem xrep_env {G : Gx} {H : Hp} {π : List Addr} {a : Addr} {c : Str} {fs : List Str} {xs : List D} {d : Option Addr} {N : List Str} (hl : N.length ≠ 0) (x : XFields G H π fs xs d) :
    EnvOk (G.held 0 a c d) H π ([D.xv c fs xs].map some ++ List.replicate (N.length - 1) none) (L2.start N [.ref a]) := by
  unfold L2.start
  refine ⟨by simp, fun i e h => ?_, fun i a' c' d' h => ?_⟩
  · match i, h with
    | 0, h =>
      simp at h
      subst h
      exact ⟨.ref a, rfl, .xv⟩
    | i + 1, h =>
      simp only [List.map_cons, List.map_nil, List.cons_append, List.nil_append, List.getElem?_cons_succ] at h
      rw [List.getElem?_replicate] at h
      split at h <;> cases h
  · have h : some (0, a, c, d) = some (i, a', c', d') := h
    cases h
    exact ⟨rfl, fs, xs, rfl, x.conv (G := G) (G' := G.held 0 a c d) rfl⟩
/-- a def that is called while an exception is handled -/
theorem fn_oneX (w : Nat) (W : Wd P nm K mg) (k : Nat) (L : Lv P nm K mg prog wd base w k) (hbb : Bool)
    {x q : Str} {i : Nat} {f : Addr} {fd : FuncData} {ps N : List Str} {st : Stmt} {b : S} (F : Fun K x q st f fd) (S : FnScope N ps (defScope st)) (hp : P.fns[i]? = some ⟨ps.length, N.length, b⟩) (hc : ((cFnH P nm N st hbb).map fun x => x.b') = some b) (h1 : hbb = true → ps.length = 1) :
    FnX prog wd K mg base (CX prog wd) (3 * (k + 1)) f fd ps (spX (G0 nm K mg wd) P w (k + 1) i hbb) := by
  show FnX prog wd K mg base (CX prog wd) (3 * k + 2 + 1) f fd ps (spX (G0 nm K mg wd) P w (k + 1) i hbb)
  cases hcf : cFnH P nm N st hbb with
  | none => rw [hcf] at hc; cases hc
  | some B =>
    rw [hcf] at hc
    have hB : B.b' = b := by simpa using hc
    obtain ⟨oc, od, kV, doc, pm, an, cdv, ct, osl, rfl, l, cc⟩ := F.ex
    have hpl : ps.length ≤ N.length := by have := congrArg List.length S.pre; rw [List.length_take] at this; omega
    have ar := fun ds h z => arity_of (w := w) (k := k) (N := N) hp ds h z
    refine fn_ofX l cc S (fun p vs H Q E z => ?_) fun A outer s H vs Q E p hot1 hr z => ?_
    · cases hbb with
      | false =>
        obtain ⟨π, h, ds, M, r, pp⟩ := z
        rw [← r.length]
        exact ar ds h fun z => by rw [z] at pp; exact pp.elim
      | true =>
        obtain ⟨π, h, c, fs, xs, d, D, e, _⟩ := z
        rw [e, h1 rfl]; rfl
    · have ok : ∀ (G : Gx), G.K = K → G.mg = mg → G.w = wd → G.xs = nm.exc.map (·.1) → (hbb = false → G.ex = none) →
          (hbb = true → 0 < N.length → ∃ c d D, G.ex = some (0, p.1, c, d) ∧ c ∈ nm.exc.map (·.1) ∧ mg c = some (.ref D) ∧ L2.Zc (.ref D) d p.2) →
          OkS P w k nm N (defScope st) (some (hot0 N hbb)) G (fun cls d _ H' => E cls d H') (L2H.cxH (CX prog wd) prog wd K mg base N q (defScope st) f cdv A outer s H E p) := fun G e1 e2 e3 e4 e5 e6 => {
        hK := e1
        hmg := e2
        hw := e3
        hxs := e4
        hN := rfl
        nd := S.nd
        kin := S.kind
        sc1 := fun x kd h => ⟨kd, h, .inl rfl⟩
        ek := S.kind
        sto := fun x _ => .inl rfl
        tk := takes_of rfl rfl rfl rfl
        units := Nat.lt_of_le_of_lt (show (A.deeper (envOfC q (defScope st) s.heap.objs.size f cdv)).units + 100 ≤ (A.deeper (envOfC q (defScope st) s.heap.objs.size f cdv)).units + 16 * (3 * k + 2) + 200 by omega) hr.un
        calm := fun z => by cases z
        room := fun z => by cases z
        gex := fun z => by cases z
        fns := L.fns
        kf := L.kws
        cl := L.cl
        pr := L.pr
        blt := W.blt
        xn := W.xn
        xk := W.xk
        xb := W.xb
        xa := W.xa
        xi := xi_of W
        xm := W.xm
        hh := fun _ => ⟨p, hot1, List.mem_cons_self⟩
        roomH := fun _ => hr
        hq := fun i z hlt => by
          cases hbb with
          | false =>
            cases z
            exact absurd hlt (Nat.lt_irrefl _)
          | true =>
            cases z
            obtain ⟨c, d, D, g1, g2, g3, g4⟩ := e6 rfl hlt
            exact ⟨p.1, p.2, c, d, D, g1, g2, g3, hot1, List.mem_cons_self, g4⟩
        gxN := fun i z hle => by
          cases hbb with
          | false => exact e5 rfl
          | true =>
            cases z
            have hle : N.length ≤ 0 := hle
            have := h1 rfl
            omega
        hfs := L.hfs
        cst := fun n d h => by
          obtain ⟨v, u, h1, h2, h3⟩ := W.cst n d h
          exact ⟨v, u, h1, h2, fun H π => h3 _ H π⟩
        po := passes_of rfl
        hs := rfl
        hf := rfl }
      cases hbb with
      | false =>
        obtain ⟨π, h, ds, M, r, pp⟩ := z
        have hl := ar ds h fun z => by rw [z] at pp; exact pp.elim
        refine ⟨_, B.ps w k _ _ _ (ok (G0 nm K mg wd) rfl rfl rfl rfl (fun _ => rfl) (fun z => by cases z)), ?_⟩
        rw [hB]
        refine ⟨_, π, h, env_start r rfl, M, end_post ?_⟩
        unfold callF at pp
        rw [hp] at pp
        simp only at pp
        rw [if_pos hl] at pp
        rw [hl]
        exact pp
      | true =>
        obtain ⟨π, h, c, fs, xs, d, D, e, M, hx, hm, hD, hz, pp⟩ := z
        subst e
        have hl1 := h1 rfl
        have hlN : N.length ≠ 0 := by omega
        refine ⟨_, B.ps w k _ _ _ (ok ((G0 nm K mg wd).held 0 p.1 c d) rfl rfl rfl rfl (fun z => by cases z) (fun _ _ => ⟨c, d, D, rfl, hm, hD, hz⟩)), ?_⟩
        rw [hB]
        refine ⟨_, π, h, xrep_env hlN hx, M.conv (G := G0 nm K mg wd) (G' := (G0 nm K mg wd).held 0 p.1 c d) rfl rfl rfl, end_post ?_⟩
        unfold callF at pp
        rw [hp] at pp
        simp only at pp
        rw [if_pos (show [Z.D.xv c fs xs].length = ps.length from hl1.symm), hl1] at pp
        exact Post.conv (W := fun cls d _ H' => E cls d H') (W' := fun cls d _ H' => E cls d H') (σ := []) (σ' := []) (G := G0 nm K mg wd) (G' := (G0 nm K mg wd).held 0 p.1 c d) rfl rfl rfl rfl pp (fun _ _ _ z => z) fun _ _ _ _ _ _ _ _ _ z => z
theorem fn_zero {f : Addr} {fd : FuncData} {ps : List Str} {w i : Nat} : FnOk prog wd K mg base (CX prog wd) (3 * 0) f fd ps (spF (G0 nm K mg wd) P w 0 i) :=
  ⟨fun vs H Q E ⟨π, h, ds, M, r, p⟩ => p.elim, fun A outer s H args us vs Q E _ _ _ _ ⟨π, h, ds, M, r, p⟩ => p.elim⟩
theorem fnX_zero {f : Addr} {fd : FuncData} {ps : List Str} {w i : Nat} {b : Bool} : FnX prog wd K mg base (CX prog wd) (3 * 0) f fd ps (spX (G0 nm K mg wd) P w 0 i b) := by
  have no : ∀ p vs H Q E, ¬ spX (G0 nm K mg wd) P w 0 i b p vs H Q E := fun p vs H Q E z => by
    cases b with
    | false =>
      obtain ⟨π, h, ds, M, r, pp⟩ := z
      exact pp.elim
    | true =>
      obtain ⟨π, h, c, fs, xs, d, D, e, M, hx, hm, hD, hz, pp⟩ := z
      exact pp.elim
  exact ⟨fun p vs H Q E z => (no p vs H Q E z).elim, fun A outer s H args us vs Q E p _ _ _ _ _ _ z => (no p vs H Q E z).elim⟩
theorem fn_level2 (w : Nat) (W : Wd P nm K mg) : ∀ k, Lv P nm K mg prog wd base w k
  | 0 => by
    refine ⟨fun n i h => ?_, fun n i dl h => ?_, fun c F i ms h => ?_, fun c m j h => ?_, fun n j b h => ?_⟩
    · obtain ⟨f, fd, ps, N, st, b, hm, F, hb, S, hp, hc⟩ := (W.fns n i h).ex
      exact ⟨f, fd, ps, hm, F.kp, hb, fn_zero⟩
    · obtain ⟨f, fd, ps, N, st, b, us, dv, hm, F, h1, h2, hb, h3, S, hp, hc⟩ := (W.kws n i dl h).ex
      exact ⟨f, fd, ps, us, dv, hm, F.kp, h1, h2, hb, h3, fn_zero⟩
    · obtain ⟨C, hm, hc, hF, ⟨f, fd, ps, hk, ⟨x, q, N, st, b, _, hb, _⟩⟩, hms⟩ := (W.cl c F i ms h).ex
      refine ⟨C, hm, hc, hF, ⟨f, fd, ps, hk, hb, fn_zero⟩, fun m j hj => ?_⟩
      obtain ⟨f, fd, ps, hM, ⟨x, q, N, st, b, _, hb, _⟩⟩ := hms m j hj
      exact ⟨f, fd, ps, hM, hb, fn_zero⟩
    · obtain ⟨C, p, f, fd, ps, hm, hc, hP, ⟨x, q, N, st, b, _, hb, _⟩⟩ := (W.pr c m j h).ex
      exact ⟨C, p, f, fd, ps, hm, hc, hP, hb, fn_zero⟩
    · obtain ⟨f, fd, ps, N, st, b', hm, F, hb, _⟩ := (W.hfs n j b h).ex
      exact ⟨f, fd, ps, hm, F.kp, hb, fnX_zero⟩
  | k + 1 => by
    have ih := fn_level2 w W k
    refine ⟨fun n i h => ?_, fun n i dl h => ?_, fun c F i ms h => ?_, fun c m j h => ?_, fun n j b h => ?_⟩
    · obtain ⟨f, fd, ps, N, st, b, hm, F, hb, S, hp, hc⟩ := (W.fns n i h).ex
      exact ⟨f, fd, ps, hm, F.kp, hb, fn_one w W k ih F S hp hc⟩
    · obtain ⟨f, fd, ps, N, st, b, us, dv, hm, F, h1, h2, hb, h3, S, hp, hc⟩ := (W.kws n i dl h).ex
      exact ⟨f, fd, ps, us, dv, hm, F.kp, h1, h2, hb, h3, fn_one w W k ih F S hp hc⟩
    · obtain ⟨C, hm, hc, hF, ⟨f, fd, ps, hk, ⟨x, q, N, st, b, Fn, hb, S, hp, hc2⟩⟩, hms⟩ := (W.cl c F i ms h).ex
      refine ⟨C, hm, hc, hF, ⟨f, fd, ps, hk, hb, fn_one w W k ih Fn S hp hc2⟩, fun m j hj => ?_⟩
      obtain ⟨f, fd, ps, hM, ⟨x, q, N, st, b, Fn, hb, S, hp, hc2⟩⟩ := hms m j hj
      exact ⟨f, fd, ps, hM, hb, fn_one w W k ih Fn S hp hc2⟩
    · obtain ⟨C, p, f, fd, ps, hm, hc, hP, ⟨x, q, N, st, b, Fn, hb, S, hp, hc2⟩⟩ := (W.pr c m j h).ex
      exact ⟨C, p, f, fd, ps, hm, hc, hP, hb, fn_one w W k ih Fn S hp hc2⟩
    · obtain ⟨f, fd, ps, N, st, b', hm, F, hb, S, hp, hc, h1⟩ := (W.hfs n j b h).ex
      exact ⟨f, fd, ps, hm, F.kp, hb, fn_oneX w W k ih b F S hp hc h1⟩
end
end Z

set_option Elab.async false
set_option linter.all false
set_option maxRecDepth 100000
set_option maxHeartbeats 4000000
namespace Z
open PySem PySem.Spec PyProof.Rows L2
open PySem.W (Frag nsIn findIn subIn hasDictIn specialIn takesIn mroIn excIn keepIn typeIn kitOne exmOne)
/-! ### what the top has left, by one reckoning -/
def excCB (K : Frag) (D : Addr) : Bool :=
  (findIn K (.ref D) "__getattribute__" == some (some (.builtin "BaseException.__getattribute__"))) && ((findIn K (.ref D) "__getattr__" == some none) && ((subIn K (.ref D) (.type "BaseException") == some true) && (hasDictIn K D &&
    ((findIn K (.ref D) "__class__" == some (some (.builtin "object.__class__"))) && ((specialIn K (.builtin "object.__class__") "__get__" == some (some (.builtin "getset_descriptor.__get__"))) && ((takesIn K (.builtin "object.__class__") == some true) && (mroIn K D (.type "object") == some true)))))))
theorem excCB_ok {K : Frag} {D : Addr} (h : excCB K D = true) : ExcC K D := by
  unfold excCB at h
  simp only [Bool.and_eq_true, beq_iff_eq] at h
  obtain ⟨h1, h2, h3, h4, h5, h6, h7, h8⟩ := h
  exact ⟨h1, h2, h3, h4, h5, h6, h7, h8⟩
def xcCB (K : Frag) (C : Addr) : Bool :=
  excIn K C [.type "ValueError", .type "Exception", .type "BaseException", .type "object"] "ValueError.__new__" && (keepIn K (.ref C) && ((subIn K (.ref C) (.type "BaseException") == some true) && (typeIn K (.ref C) == some (.type "type"))))
theorem xcCB_ok {K : Frag} {C : Addr} (h : xcCB K C = true) : XcC K C := by
  unfold xcCB at h
  simp only [Bool.and_eq_true, beq_iff_eq] at h
  obtain ⟨h1, h2, h3, h4⟩ := h
  exact ⟨h1, h2, h3, h4⟩
def oexB (K : Frag) (C : Addr) : Bool := (match K.lookup C with
  | some ⟨.type "type", _, .cls cd, sl⟩ => (match cd.mro, sl.toList with
    | .ref C' :: bm, [_, _, _, _, some (.builtin n), _] => C' == C && (n == "ValueError.__new__" && (!cd.hasDel && (cd.hasDict && PySem.HandSPX.refsVE bm)))
    | _, _ => false)
  | _ => false) && ((findIn K (.ref C) "__setattr__" == some (some (.builtin "object.__setattr__"))) && ((subIn K (.ref C) (.type "BaseException") == some true) && ((typeIn K (.ref C) == some (.type "type")) && keepIn K (.ref C))))
theorem oexB_ok {K : Frag} {C : Addr} (h : oexB K C = true) : OexC K C := by
  unfold oexB at h
  rw [Bool.and_eq_true] at h
  obtain ⟨q, h⟩ := h
  simp only [Bool.and_eq_true, beq_iff_eq] at h
  obtain ⟨h1, h2, h3, h4⟩ := h
  refine ⟨?_, h1, h2, h3, h4⟩
  split at q
  · rename_i dd cd sl ho
    split at q
    · rename_i C' bm k0 k1 k2 k3 n k5 hm hs
      simp only [Bool.and_eq_true, beq_iff_eq, Bool.not_eq_true'] at q
      obtain ⟨rfl, rfl, hdel, hdi, hr⟩ := q
      obtain ⟨nm, bs, mro, ns, qn, hd, sn, sub, ab, col, del⟩ := cd
      dsimp only at hm hdel hdi
      subst hm hdel hdi
      have hsl : sl = #[k0, k1, k2, k3, some (.builtin "ValueError.__new__"), k5] := by
        obtain ⟨l⟩ := sl
        simp only at hs
        rw [hs]
      subst hsl
      exact ⟨nm, qn, ns, bs, bm, sn, sub, ab, col, dd, k0, k1, k2, k3, k5, ho, hr⟩
    · cases q
  · cases q
def refOf (K : Frag) (c : Str) : Option Addr := match nsIn K mainGlobals c with
  | some (some (.ref C)) => some C
  | _ => none
theorem refOf_ok {K : Frag} {c : Str} {C : Addr} (h : refOf K c = some C) : nsIn K mainGlobals c = some (some (.ref C)) := by
  unfold refOf at h
  split at h
  · cases h; assumption
  · cases h
def pairB (K : Frag) (P : Pg) (c : Str) (C : Addr) (c' : Str) : Bool := match refOf K c' with
  | some C' => (kitOne K (.ref C) (.ref C') == some (P.sub c c')) && (exmOne K (.ref C) (.ref C') == some (P.sub c c'))
  | none => false
def clsB (K : Frag) (P : Pg) (nm : Nm) (c : Str × List Str) : Bool := match refOf K c.1 with
  | some C => (nm.xat.all fun f => findIn K (.ref C) f == some none) && (excCB K C && ((!c.2.isEmpty || xcCB K C) && ((kitOne K (.ref C) (.type "ValueError") == some (P.sub c.1 "ValueError")) && nm.exc.all fun c' => pairB K P c.1 C c'.1)))
  | none => false
def cstB (K : Frag) (c : Str × D) : Bool := match nsIn K mainGlobals c.1, c.2 with
  | some (some (.int i _)), .int j => i == j
  | some (some (.str i _)), .str j => i == j
  | _, _ => false
def wdB (K : Frag) (P : Pg) (nm : Nm) : Bool :=
  (bltNames.all fun b => nsIn K mainGlobals b == some none) && ((nsIn K mainGlobals "ValueError" == some none) && ((nm.exc.all fun c => clsB K P nm c) && ((nm.xmk.all fun c => decide (c.1 ∈ nm.exc.map (·.1))) && nm.cst.all fun c => cstB K c)))
section
variable {K : Frag} {P : Pg} {nm : Nm} {mg : Str → Option Value} {h : Heap}
theorem wd_of (X : K.In h) (G : h.Ns mainGlobals mg) (hB : wdB K P nm = true) (hf : ∀ n i, (n, i) ∈ nm.fns → FnFact P nm K mg n i) (hkw : ∀ n i dl, (n, i, dl) ∈ nm.kws → KwFact P nm K mg n i dl) (hcl : ∀ c F i ms, (c, F, i, ms) ∈ nm.cls → ClFact P nm K mg c F i ms) (hpr : ∀ c m j, (c, m, j) ∈ nm.prp → PrFact P nm K mg c m j) (hhf : ∀ n i b, (n, i, b) ∈ nm.hfs → HfFact P nm K mg n i b) (hxi : ∀ c f, (c, f) ∈ nm.xmk → XiFact K mg c f) : Wd P nm K mg := by
  unfold wdB at hB
  simp only [Bool.and_eq_true, List.all_eq_true, beq_iff_eq] at hB
  obtain ⟨h1, h2, h3, h5, h4⟩ := hB
  have cls : ∀ c fs, (c, fs) ∈ nm.exc → ∃ C, mg c = some (.ref C) ∧ refOf K c = some C ∧ ExcC K C ∧ (fs = [] → XcC K C) ∧ kitOne K (.ref C) (.type "ValueError") = some (P.sub c "ValueError") ∧ (∀ c', c' ∈ nm.exc → pairB K P c C c'.1 = true) ∧ ∀ f ∈ nm.xat, findIn K (.ref C) f = some none := fun c fs hc => by
    have q := h3 _ hc
    unfold clsB at q
    split at q
    · rename_i C hC
      simp only [Bool.and_eq_true, List.all_eq_true, beq_iff_eq, Bool.or_eq_true, Bool.not_eq_true'] at q
      obtain ⟨q0, q1, q2, q3, q4⟩ := q
      refine ⟨C, PySem.W.mg_of X G (refOf_ok hC), hC, excCB_ok q1, fun e => ?_, q3, q4, q0⟩
      rcases q2 with q2 | q2
      · subst e; cases q2
      · exact xcCB_ok q2
    · cases q
  refine ⟨hf, hkw, hcl, hpr, fun b hb => PySem.W.mg_none_of X G (h1 b hb), fun c fs hc => ?_, fun c f C hc hf m => ?_, hxi, fun c f hc => ?_, hhf, fun c c' C C' hc hc' m m' => ?_, ⟨PySem.W.mg_none_of X G h2, fun c C hc m => ?_⟩, fun n d hd => ?_⟩
  · obtain ⟨C, e1, _, e3, e4, _⟩ := cls c fs hc
    exact ⟨C, e1, e3, e4⟩
  · obtain ⟨⟨c1, fs1⟩, z1, z2⟩ := List.mem_map.mp hc
    have z2 : c1 = c := z2
    subst z2
    obtain ⟨C1, e1, _, _, _, _, _, e7⟩ := cls c1 fs1 z1
    rw [m] at e1
    cases e1
    exact e7 f hf
  · have q := h5 _ hc
    exact of_decide_eq_true q
  · obtain ⟨⟨c1, fs1⟩, z1, z2⟩ := List.mem_map.mp hc
    obtain ⟨⟨c2, fs2⟩, y1, y2⟩ := List.mem_map.mp hc'
    simp only at z2 y2
    subst z2; subst y2
    obtain ⟨C1, e1, e2, _, _, _, e6, _⟩ := cls c1 fs1 z1
    obtain ⟨C2, f1, f2, _⟩ := cls c2 fs2 y1
    rw [m] at e1; rw [m'] at f1
    cases e1; cases f1
    have q := e6 _ y1
    unfold pairB at q
    rw [f2] at q
    simp only [Bool.and_eq_true, beq_iff_eq] at q
    exact q
  · obtain ⟨⟨c1, fs1⟩, z1, z2⟩ := List.mem_map.mp hc
    simp only at z2
    subst z2
    obtain ⟨C1, e1, _, _, _, e5, _⟩ := cls c1 fs1 z1
    rw [m] at e1
    cases e1
    exact e5
  · have q := h4 _ hd
    unfold cstB at q
    split at q
    · rename_i i t j e1 e2
      simp only at e1 e2
      subst e2
      have := beq_iff_eq.mp q
      subst this
      exact ⟨.int i, .int i t, PySem.W.mg_of X G e1, ⟨t, rfl⟩, fun _ _ _ => .int i⟩
    · rename_i i t j e1 e2
      simp only at e1 e2
      subst e2
      have := beq_iff_eq.mp q
      subst this
      exact ⟨.str i, .str i t, PySem.W.mg_of X G e1, ⟨t, rfl⟩, fun _ _ _ => .str i⟩
    · cases q
end
/-- the law's promise: the script a list of ints, the answer True -/
def spLaw (K : Frag) : Sp := fun vs H Q _ => ∃ (a : Addr) (ns : List Int), vs = [.ref a] ∧ RoL K H a (ns.map V.int) ∧ ns.length ≤ 63 ∧ ∀ H', Q (.bl true) H'
theorem law_sp {G : Gx} {P : Pg} {w k i : Nat} (hl : ∀ ns : List Int, ns.length ≤ 63 → ∃ h, callF P w k i [.ro (ns.map .int)] [] = .ok (.bl true) h) (vs : List V) (H : Hp) (Q : VK) (E : XK) (h : spLaw G.K vs H Q E) : spF G P w k i vs H Q E := by
  obtain ⟨a, ns, rfl, hr, hn, q⟩ := h
  obtain ⟨h', e⟩ := hl ns hn
  refine ⟨[], [], [.ro (ns.map .int)], ⟨rfl, .nil, fun n c a h1 _ => by simp at h1⟩, .cons (.ro hr (Reps.ints ns)) .nil, ?_⟩
  rw [e]
  intro v H' π' _ _ _ r
  cases r
  exact q H'
theorem ro_of {K : Frag} {H : Hp} {a : Addr} {vs : List V} (hO : Only H) (h : SqL K H a vs) : RoL K H a vs := by
  rcases h with (h | ⟨o, h⟩) | h
  · rcases hO a with z | ⟨o, xs, z⟩
    · rw [z] at h; cases h
    · rw [z] at h; cases h
  · exact .inl ⟨o, h⟩
  · exact .inr h
theorem walk {l : PySem.W.OpenLaw} {q : Program} {loose : List Str} {XP : (Str → Option Value) → Heap → Prop} {YP : World → Heap → Prop} {d : DefRec} {K : Params → Frag} {k : Nat} (hn : l.most = some 63) (hdf : d.params.defaults = []) (hk : Room k callerA)
    (hY : ∀ (w : World) (h : Heap), YP w h → (K w.params).In h)
    (F : ∀ (w : World) (mg : Str → Option Value) (fa : Addr) (h : Heap), (K w.params).In h → h.Ns mainGlobals mg → mg d.name = some (.ref fa) →
      ∃ fd : FuncData, (∀ (s : Shared) (u : Value), BindsTo s fd ⟨[u], []⟩ [("script", u)]) ∧ ∀ base : Heap, (K w.params).In base → base.Ns mainGlobals mg → FnOk l.prog w (K w.params) mg base (CX l.prog w) k fa fd ["script"] (spLaw (K w.params))) :
    PySem.W.WalkO q loose XP YP l.row.toRowW d [] (fun f vs => PySem.call f vs) :=
  L2.walk_of (n := 63) (k := k) (x := "script") (CX := fun w => CX l.prog w) (sp := fun w => spLaw (K w.params)) hn (by decide) hdf hk hY F (fun w H a ns hl hO hS => ⟨a, ns, rfl, ro_of hO hS, hl, fun _ => rfl⟩)
    fun w H s e s' ⟨_, _, _, _, _, _, _, _, _, _, _, _, z⟩ => z
/-- a def's fact, from what is read off the written part -/
theorem fact_of {K : Frag} {P : Pg} {nm : Nm} {mg : Str → Option Value} {h : Heap} (X : K.In h) (G : h.Ns mainGlobals mg) {n : Str} {i : Nat} {st : Stmt} {N ps : List Str} {b : S} {f : Addr} {oc : Value} {od an : Option Addr} {osl : Array (Option Value)} {kV doc pm cdv ct : Value}
    (a : nsIn K mainGlobals n = some (some (.ref f))) (l : K.lookup f = some ⟨oc, od, .func (PySem.W.fnOf n n (defArgs st) (defBody st) (defScope st) .none kV doc pm an cdv ct), osl⟩) (c : PySem.W.codeIn K cdv n = true) (k : keepIn K (.ref f) = true)
    (S : FnScope N ps (defScope st)) (hp : P.fns[i]? = some ⟨ps.length, N.length, b⟩) (hc : ((cFn P nm N st).map fun x => x.b') = some b)
    (hb : ∀ (kV doc pm : Value) (an : Option Addr) (cdv ct : Value) (us : List Value), us.length = ps.length → bindArgs (PySem.W.fnOf n n (defArgs st) (defBody st) (defScope st) .none kV doc pm an cdv ct) ⟨us, []⟩ = pure (ps.zip us)) : FnFact P nm K mg n i :=
  ⟨f, _, ps, N, st, b, PySem.W.mg_of X G a, fun_mk l c k, (fun_mk l c k).binds hb, S, hp, hc⟩
/-- .. that is called while an exception is handled -/
theorem hf_of {K : Frag} {P : Pg} {nm : Nm} {mg : Str → Option Value} {h : Heap} (X : K.In h) (G : h.Ns mainGlobals mg) {n : Str} {i : Nat} {hb : Bool} {st : Stmt} {N ps : List Str} {b : S} {f : Addr} {oc : Value} {od an : Option Addr} {osl : Array (Option Value)} {kV doc pm cdv ct : Value}
    (a : nsIn K mainGlobals n = some (some (.ref f))) (l : K.lookup f = some ⟨oc, od, .func (PySem.W.fnOf n n (defArgs st) (defBody st) (defScope st) .none kV doc pm an cdv ct), osl⟩) (c : PySem.W.codeIn K cdv n = true) (k : keepIn K (.ref f) = true)
    (S : FnScope N ps (defScope st)) (hp : P.fns[i]? = some ⟨ps.length, N.length, b⟩) (hc : ((cFnH P nm N st hb).map fun x => x.b') = some b) (h1 : (!hb || ps.length == 1) = true)
    (hbd : ∀ (kV doc pm : Value) (an : Option Addr) (cdv ct : Value) (us : List Value), us.length = ps.length → bindArgs (PySem.W.fnOf n n (defArgs st) (defBody st) (defScope st) .none kV doc pm an cdv ct) ⟨us, []⟩ = pure (ps.zip us)) : HfFact P nm K mg n i hb :=
  ⟨f, _, ps, N, st, b, PySem.W.mg_of X G a, fun_mk l c k, (fun_mk l c k).binds hbd, S, hp, hc, fun e => by subst e; simpa using h1⟩
/-- an exception class that keeps its one argument -/
theorem xi_fact {K : Frag} {mg : Str → Option Value} {h : Heap} (X : K.In h) (G : h.Ns mainGlobals mg) {cn f s y q : Str} {st : Stmt} {C fI : Addr} {oc : Value} {od an : Option Addr} {osl : Array (Option Value)} {kV doc pm cdv ct : Value}
    (aC : nsIn K mainGlobals cn = some (some (.ref C))) (ox : oexB K C = true) (no : findIn K (.ref C) f = some none) (a : findIn K (.ref C) "__init__" = some (some (.ref fI))) (t : typeIn K (.ref fI) = some (.type "function")) (l : K.lookup fI = some ⟨oc, od, .func (PySem.W.fnOf "__init__" q (defArgs st) (defBody st) (defScope st) .none kV doc pm an cdv ct), osl⟩) (c : PySem.W.codeIn K cdv q = true) (k : keepIn K (.ref fI) = true)
    (S : FnScope [s, y] [s, y] (defScope st)) (hi : initOf st = some (s, f, y)) (hd : ((s == ("__debug__" : Str)) || (s == ("__classdict__" : Str)) || (y == ("__debug__" : Str)) || (y == ("__classdict__" : Str))) = false)
    (hb : ∀ (kV doc pm : Value) (an : Option Addr) (cdv ct : Value) (us : List Value), us.length = [s, y].length → bindArgs (PySem.W.fnOf "__init__" q (defArgs st) (defBody st) (defScope st) .none kV doc pm an cdv ct) ⟨us, []⟩ = pure (([s, y] : List Str).zip us)) : XiFact K mg cn f :=
  ⟨C, fI, _, s, y, "__init__", q, st, PySem.W.mg_of X G aC, oexB_ok ox, a, t, (fun_mk l c k).binds hb, fun_mk l c k, S, hi, no, hd⟩
/-- a method's fact -/
theorem body_of {K : Frag} {P : Pg} {nm : Nm} {x q : Str} {i : Nat} {st : Stmt} {N ps : List Str} {b : S} {f : Addr} {oc : Value} {od an : Option Addr} {osl : Array (Option Value)} {kV doc pm cdv ct : Value}
    (l : K.lookup f = some ⟨oc, od, .func (PySem.W.fnOf x q (defArgs st) (defBody st) (defScope st) .none kV doc pm an cdv ct), osl⟩) (c : PySem.W.codeIn K cdv q = true) (k : keepIn K (.ref f) = true)
    (S : FnScope N ps (defScope st)) (hp : P.fns[i]? = some ⟨ps.length, N.length, b⟩) (hc : ((cFn P nm N st).map fun x => x.b') = some b)
    (hb : ∀ (kV doc pm : Value) (an : Option Addr) (cdv ct : Value) (us : List Value), us.length = ps.length → bindArgs (PySem.W.fnOf x q (defArgs st) (defBody st) (defScope st) .none kV doc pm an cdv ct) ⟨us, []⟩ = pure (ps.zip us)) :
    BodyFact P nm K i f (PySem.W.fnOf x q (defArgs st) (defBody st) (defScope st) .none kV doc pm an cdv ct) ps :=
  ⟨x, q, N, st, b, fun_mk l c k, (fun_mk l c k).binds hb, S, hp, hc⟩
/-- an own class, what is reckoned of it -/
def ownB (K : Frag) (C : Addr) (F : List Str) : Bool :=
  PySem.W.plainGet K C Str.empty && (hasDictIn K C && (PySem.W.plainOver K C && ((findIn K (.ref C) "__setattr__" == some (some (.builtin "object.__setattr__"))) && F.all fun f => findIn K (.ref C) f == some none)))
theorem ownB_ok {K : Frag} {C : Addr} {F : List Str} (h : ownB K C F = true) : Cls K C ∧ ∀ f ∈ F, NoAttr K C f := by
  unfold ownB at h
  simp only [Bool.and_eq_true, beq_iff_eq, List.all_eq_true] at h
  exact ⟨⟨h.1, h.2.1, h.2.2.1, h.2.2.2.1⟩, fun f hf => h.2.2.2.2 f hf⟩
theorem meth_of {K : Frag} {P : Pg} {nm : Nm} {C : Addr} {m x q : Str} {j : Nat} {st : Stmt} {N ps : List Str} {b : S} {f : Addr} {oc : Value} {od an : Option Addr} {osl : Array (Option Value)} {kV doc pm cdv ct : Value}
    (a : findIn K (.ref C) m = some (some (.ref f))) (i : PySem.W.isFn K (.ref f) = true) (l : K.lookup f = some ⟨oc, od, .func (PySem.W.fnOf x q (defArgs st) (defBody st) (defScope st) .none kV doc pm an cdv ct), osl⟩) (c : PySem.W.codeIn K cdv q = true) (k : keepIn K (.ref f) = true)
    (S : FnScope N ps (defScope st)) (hp : P.fns[j]? = some ⟨ps.length, N.length, b⟩) (hc : ((cFn P nm N st).map fun x => x.b') = some b)
    (hb : ∀ (kV doc pm : Value) (an : Option Addr) (cdv ct : Value) (us : List Value), us.length = ps.length → bindArgs (PySem.W.fnOf x q (defArgs st) (defBody st) (defScope st) .none kV doc pm an cdv ct) ⟨us, []⟩ = pure (ps.zip us)) :
    ∃ f fd ps, Meth K C m f ∧ BodyFact P nm K j f fd ps := ⟨f, _, ps, ⟨a, i, k⟩, body_of l c k S hp hc hb⟩
theorem init_of {K : Frag} {P : Pg} {nm : Nm} {C : Addr} {x q : Str} {j : Nat} {st : Stmt} {N ps : List Str} {b : S} {f : Addr} {oc : Value} {od an : Option Addr} {osl : Array (Option Value)} {kV doc pm cdv ct : Value}
    (a : findIn K (.ref C) "__init__" = some (some (.ref f))) (i : PySem.W.isFn K (.ref f) = true) (l : K.lookup f = some ⟨oc, od, .func (PySem.W.fnOf x q (defArgs st) (defBody st) (defScope st) .none kV doc pm an cdv ct), osl⟩) (c : PySem.W.codeIn K cdv q = true) (k : keepIn K (.ref f) = true) (mk : PySem.W.makesIn K C = true) (kc : keepIn K (.ref C) = true)
    (S : FnScope N ps (defScope st)) (hp : P.fns[j]? = some ⟨ps.length, N.length, b⟩) (hc : ((cFn P nm N st).map fun x => x.b') = some b)
    (hb : ∀ (kV doc pm : Value) (an : Option Addr) (cdv ct : Value) (us : List Value), us.length = ps.length → bindArgs (PySem.W.fnOf x q (defArgs st) (defBody st) (defScope st) .none kV doc pm an cdv ct) ⟨us, []⟩ = pure (ps.zip us)) :
    ∃ f fd ps, Mk K C f ∧ BodyFact P nm K j f fd ps := ⟨f, _, ps, ⟨mk, a, i, kc⟩, body_of l c k S hp hc hb⟩
theorem cls_of {K : Frag} {P : Pg} {nm : Nm} {mg : Str → Option Value} {h : Heap} (X : K.In h) (G : h.Ns mainGlobals mg) {c : Str} {F : List Str} {i : Nat} {ms : List (Str × Nat)} {C : Addr}
    (aC : nsIn K mainGlobals c = some (some (.ref C))) (ow : ownB K C F = true) (hi : ∃ f fd ps, Mk K C f ∧ BodyFact P nm K i f fd ps) (hm : ∀ m j, (m, j) ∈ ms → ∃ f fd ps, Meth K C m f ∧ BodyFact P nm K j f fd ps) : ClFact P nm K mg c F i ms :=
  ⟨C, PySem.W.mg_of X G aC, (ownB_ok ow).1, (ownB_ok ow).2, hi, hm⟩
theorem prop_of {K : Frag} {P : Pg} {nm : Nm} {mg : Str → Option Value} {h : Heap} (X : K.In h) (G : h.Ns mainGlobals mg) {c : Str} {C p : Addr} {m x q : Str} {j : Nat} {st : Stmt} {N ps : List Str} {b : S} {f : Addr} {rest : List Value} {oc : Value} {od an : Option Addr} {osl : Array (Option Value)} {kV doc pm cdv ct : Value}
    (aC : nsIn K mainGlobals c = some (some (.ref C))) (ow : ownB K C [] = true) (at_ : findIn K (.ref C) m = some (some (.ref p))) (get : PySem.W.specialIn K (.ref p) "__get__" = some (some (.builtin "property.__get__"))) (tak : PySem.W.takesIn K (.ref p) = some true) (rc : PySem.W.recIn K p "property" = some (.ref f :: rest))
    (l : K.lookup f = some ⟨oc, od, .func (PySem.W.fnOf x q (defArgs st) (defBody st) (defScope st) .none kV doc pm an cdv ct), osl⟩) (cc : PySem.W.codeIn K cdv q = true) (k : keepIn K (.ref f) = true)
    (S : FnScope N ps (defScope st)) (hp : P.fns[j]? = some ⟨ps.length, N.length, b⟩) (hc : ((cFn P nm N st).map fun x => x.b') = some b)
    (hb : ∀ (kV doc pm : Value) (an : Option Addr) (cdv ct : Value) (us : List Value), us.length = ps.length → bindArgs (PySem.W.fnOf x q (defArgs st) (defBody st) (defScope st) .none kV doc pm an cdv ct) ⟨us, []⟩ = pure (ps.zip us)) :
    PrFact P nm K mg c m j := ⟨C, p, f, _, ps, PySem.W.mg_of X G aC, (ownB_ok ow).1, ⟨at_, get, tak, rest, rc⟩, body_of l cc k S hp hc hb⟩
/-- a keyword's default, as a value -/
def dfV : D → Option V
  | .int i => some (.int i) | .bl b => some (.bl b) | .non => some .non | .str s => some (.str s) | _ => none
theorem dfV_rep {d : D} {v : V} (h : dfV d = some v) (G : Gx) (H : Hp) (π : List Addr) : Rep G H π d v := by
  cases d <;> simp only [dfV, reduceCtorEq, Option.some.injEq] at h <;> subst h <;> constructor
def dfB (K : Frag) (D : Addr) (q : Str × Z.D) : Bool := match nsIn K D q.1, q.2 with
  | some (some (.int i _)), .int j => i == j
  | some (some (.bool a)), .bl b => a == b
  | some (some .none), .non => true
  | some (some (.str i _)), .str j => i == j
  | _, _ => false
theorem dfB_ok {K : Frag} {D : Addr} {q : Str × Z.D} (h : dfB K D q = true) : ∃ u v, nsIn K D q.1 = some (some u) ∧ dfV q.2 = some v ∧ RelV v u := by
  obtain ⟨x, d⟩ := q
  unfold dfB at h
  split at h
  · rename_i i t j e1 e2
    simp only at e1 e2
    subst e2
    have := beq_iff_eq.mp h
    subst this
    exact ⟨_, _, e1, rfl, ⟨t, rfl⟩⟩
  · rename_i a b e1 e2
    simp only at e1 e2
    subst e2
    have := beq_iff_eq.mp h
    subst this
    exact ⟨_, _, e1, rfl, rfl⟩
  · rename_i e1 e2
    simp only at e1 e2
    subst e2
    exact ⟨_, _, e1, rfl, rfl⟩
  · rename_i i t j e1 e2
    simp only at e1 e2
    subst e2
    have := beq_iff_eq.mp h
    subst this
    exact ⟨_, _, e1, rfl, ⟨t, rfl⟩⟩
  · cases h
theorem dfs_ok {K : Frag} {D : Addr} : ∀ {dl : List (Str × Z.D)}, dl.all (dfB K D) = true → ∃ kv : List (Str × V), kv.map (·.1) = dl.map (·.1) ∧ kv.length = dl.length ∧ (∀ q ∈ kv, ∃ u, nsIn K D q.1 = some (some u) ∧ RelV q.2 u) ∧ ∀ (G : Gx) H π, Reps G H π (dl.map (·.2)) (kv.map (·.2))
  | [], _ => ⟨[], rfl, rfl, (fun q hq => by cases hq), fun _ _ _ => .nil⟩
  | q :: r, h => by
    simp only [List.all_cons, Bool.and_eq_true] at h
    obtain ⟨u, v, h1, h2, h3⟩ := dfB_ok h.1
    obtain ⟨kv, k1, k2, k3, k4⟩ := dfs_ok h.2
    refine ⟨(q.1, v) :: kv, by simp [k1], by simp [k2], fun p hp => ?_, fun G H π => .cons (dfV_rep h2 G H π) (k4 G H π)⟩
    rcases List.mem_cons.mp hp with rfl | hp
    · exact ⟨u, h1, h3⟩
    · exact k3 p hp
/-- a def with keyword-only parameters that have defaults -/
theorem kw_fact_of {K : Frag} {P : Pg} {nm : Nm} {mg : Str → Option Value} {h : Heap} (X : K.In h) (G : h.Ns mainGlobals mg) {n : Str} {i : Nat} {st : Stmt} {N ps : List Str} {b : S} {f D : Addr} {dl : List (Str × Z.D)} {oc : Value} {od an : Option Addr} {osl : Array (Option Value)} {doc pm cdv ct : Value}
    (hd : dl ≠ []) (hn : (ps.length - dl.length) + dl.length = ps.length)
    (a : nsIn K mainGlobals n = some (some (.ref f))) (l : K.lookup f = some ⟨oc, od, .func (PySem.W.fnOf n n (defArgs st) (defBody st) (defScope st) .none (.ref D) doc pm an cdv ct), osl⟩) (c : PySem.W.codeIn K cdv n = true) (k : keepIn K (.ref f) = true) (df : dl.all (dfB K D) = true)
    (S : FnScope N ps (defScope st)) (hp : P.fns[i]? = some ⟨ps.length, N.length, b⟩) (hc : ((cFn P nm N st).map fun x => x.b') = some b)
    (hb : ∀ (D : Addr) (doc pm : Value) (an : Option Addr) (cdv ct : Value) (us ks : List Value), us.length = ps.length - dl.length → ks.length = dl.length →
      KwChain D ((dl.map (·.1)).zip ks) (bindArgs (PySem.W.fnOf n n (defArgs st) (defBody st) (defScope st) .none (.ref D) doc pm an cdv ct) ⟨us, []⟩) (ps.zip (us ++ ks)))
    (hkb : ∀ (D : Addr) (doc pm : Value) (an : Option Addr) (cdv ct : Value) (us ws : List Value), us.length = ps.length - dl.length → ws.length = dl.length →
      bindArgs (PySem.W.fnOf n n (defArgs st) (defBody st) (defScope st) .none (.ref D) doc pm an cdv ct) ⟨us, (dl.map (·.1)).zip ws⟩ = pure (ps.zip (us ++ ws))) : KwFact P nm K mg n i dl := by
  obtain ⟨kv, k1, k2, k3, k4⟩ := dfs_ok df
  have F : FunD K n n (defArgs st) (defBody st) (defScope st) [] kv f (PySem.W.fnOf n n (defArgs st) (defBody st) (defScope st) .none (.ref D) doc pm an cdv ct) :=
    ⟨⟨oc, od, .none, .ref D, doc, pm, an, cdv, ct, osl, rfl, l, c, .inl ⟨rfl, rfl⟩, .inr ⟨D, rfl, k3⟩⟩, k⟩
  have kne : kv ≠ [] := fun e => hd (List.eq_nil_of_length_eq_zero (by rw [← k2, e]; rfl))
  obtain ⟨us, v1, v2⟩ := F.binds0 (ps := ps) (ps.length - dl.length) kne (by rw [k2]; exact hn) fun D doc pm an cdv ct us ks l1 l2 => by
    rw [k1]
    exact hb D doc pm an cdv ct us ks l1 (l2.trans k2)
  obtain ⟨mv, kb⟩ := F.kbinds0 (ps := ps) (ps.length - dl.length) (dl.map (·.1)) [] (fun a _ c => a ++ c) kne (fun q hq => by cases hq) (fun r1 _ r3 => r1.append r3) fun D doc pm an cdv ct us mv ws l1 l2 l3 => by
    have : mv = [] := List.eq_nil_of_length_eq_zero l2
    subst this
    show KwChain D [] _ _
    exact hkb D doc pm an cdv ct us ws l1 (by rw [l3, List.length_map])
  exact ⟨f, _, ps, N, st, b, us, kv.map (·.2), PySem.W.mg_of X G a, fun_mk l c k, v1, k4, v2, kb, S, hp, hc⟩
/-- the law's own promise, from what its def computes -/
theorem law_done {K : Frag} {P : Pg} {nm : Nm} {mg : Str → Option Value} {h : Heap} {prog : Program} {wd : World} {fa : Addr} (X : K.In h) (G : h.Ns mainGlobals mg) (W : Wd P nm K mg) {w k i : Nat} {st : Stmt} {N : List Str} {b : S} {f : Addr} {oc : Value} {od an : Option Addr} {osl : Array (Option Value)} {kV doc pm cdv ct : Value}
    (hm : mg ("law" : Str) = some (.ref fa)) (a : nsIn K mainGlobals "law" = some (some (.ref f))) (l : K.lookup f = some ⟨oc, od, .func (PySem.W.fnOf "law" "law" (defArgs st) (defBody st) (defScope st) .none kV doc pm an cdv ct), osl⟩) (c : PySem.W.codeIn K cdv "law" = true) (kp : keepIn K (.ref f) = true)
    (S : FnScope N ["script"] (defScope st)) (hp : P.fns[i]? = some ⟨1, N.length, b⟩) (hc : ((cFn P nm N st).map fun x => x.b') = some b) (hd : ∀ s v, BindsTo s (PySem.W.fnOf "law" "law" (defArgs st) (defBody st) (defScope st) .none kV doc pm an cdv ct) ⟨[v], []⟩ [("script", v)])
    (hl : ∀ ns : List Int, ns.length ≤ 63 → ∃ h, callF P w (k + 1) i [.ro (ns.map .int)] [] = .ok (.bl true) h) :
    ∃ fd : FuncData, (∀ (s : Shared) (u : Value), BindsTo s fd ⟨[u], []⟩ [("script", u)]) ∧ ∀ base : Heap, K.In base → base.Ns mainGlobals mg → FnOk prog wd K mg base (CX prog wd) (3 * (k + 1)) fa fd ["script"] (spLaw K) := by
  have e := hm.symm.trans (PySem.W.mg_of X G a)
  cases e
  exact ⟨_, hd, fun base _ _ => (fn_one w W k (fn_level2 w W k) (fun_mk l c kp) S hp hc).imp fun vs H Q E z => law_sp (G := G0 nm K mg wd) hl vs H Q E z⟩
end Z

set_option Elab.async false
set_option linter.all false
set_option maxRecDepth 100000
set_option maxHeartbeats 4000000
namespace Z
open PySem L2
/-! ### what is enough for an end -/
def RW (r : R) (K : D → Hm → Prop) (X : Exn → Hm → Prop) : Prop := match r with
  | .ok d h => K d h
  | .exn x h => X x h
  | .bad => False
abbrev Cal := Nat → List D → Hm → R
def EW (c : Cal) (e : E) (ρ : Env') (h : Hm) (K : D → Hm → Prop) (X : Exn → Hm → Prop) : Prop := RW (evE c e ρ h) K X
def LW (c : Cal) (e : E) (ρ : Env') (h : Hm) (K : List D → Hm → Prop) (X : Exn → Hm → Prop) : Prop := RW (evE c e ρ h) (fun d h => ∃ xs, d = .tup xs ∧ K xs h) X
def PW (p : Pm) (ds : List D) (h : Hm) (K : D → Hm → Prop) (X : Exn → Hm → Prop) : Prop := RW (evP p ds h) K X
def SW (c : Cal) (w : Nat) (sub : Str → Str → Bool) (s : S) (ρ : Env') (h : Hm) (Q : O → Prop) : Prop := Q (evS c w sub s ρ h)
/-- which way a truth leads -/
def TW (h : Hm) (d : D) (A B : Prop) : Prop := match truth h d with
  | some true => A
  | some false => B
  | none => False
def NW (h : Hm) (d : D) (K : D → Hm → Prop) : Prop := match truth h d with
  | some b => K (.bl (!b)) h
  | none => False
theorem RW.mono {r K K' X X'} (h : RW r K X) (k : ∀ d h, K d h → K' d h) (x : ∀ e h, X e h → X' e h) : RW r K' X' := by
  cases r <;> simp only [RW] at h ⊢
  · exact k _ _ h
  · exact x _ _ h
theorem RW.bind {r : R} {f : D → Hm → R} {K X} (h : RW r (fun d h => RW (f d h) K X) X) : RW (r.bind f) K X := by
  cases r <;> simpa [RW, R.bind] using h
variable {c : Cal} {w : Nat} {sub : Str → Str → Bool} {ρ : Env'} {h : Hm} {K : D → Hm → Prop} {KL : List D → Hm → Prop} {X : Exn → Hm → Prop} {Q : O → Prop}
theorem tw_t {A B : Prop} (a : A) : TW h (.bl true) A B := a
theorem tw_f {A B : Prop} (a : B) : TW h (.bl false) A B := a
theorem tw_not {A B : Prop} {b : Bool} (a : TW h (.bl b) B A) : TW h (.bl (!b)) A B := by cases b <;> simpa [TW, truth] using a
theorem tw_dec {A B q : Prop} [i : Decidable q] (a : q → A) (b : ¬ q → B) : TW h (.bl (decide q)) A B := by
  by_cases z : q
  · simpa [TW, truth, z] using a z
  · simpa [TW, truth, z] using b z
theorem tw_b {A B : Prop} {q : Bool} (a : q = true → A) (b : q = false → B) : TW h (.bl q) A B := by
  cases q
  · exact b rfl
  · exact a rfl
theorem nw_b {b : Bool} (a : K (.bl (!b)) h) : NW h (.bl b) K := a
theorem nw_t (a : K (.bl false) h) : NW h (.bl true) K := a
theorem nw_f (a : K (.bl true) h) : NW h (.bl false) K := a
theorem ew_var {i d} (e : ρ[i]? = some (some d)) (k : K d h) : EW c (.var i) ρ h K X := by
  simp only [EW, evE, e, RW]; exact k
theorem ew_lit {d} (k : K d h) : EW c (.lit d) ρ h K X := k
theorem lw_nil (k : KL [] h) : LW c .nil ρ h KL X := ⟨[], rfl, k⟩
theorem lw_cons {a r} (k : EW c a ρ h (fun d h => LW c r ρ h (fun ds h => KL (d :: ds) h) X) X) : LW c (.cons a r) ρ h KL X := by
  unfold LW evE
  refine RW.bind (RW.mono k (fun d h z => ?_) fun _ _ z => z)
  refine RW.bind (RW.mono z (fun d h z => ?_) fun _ _ z => z)
  obtain ⟨xs, rfl, z⟩ := z
  exact ⟨_, rfl, z⟩
theorem lw_to {e : E} {f : List D → Hm → R} {g : D → Hm → R} (hg : ∀ xs h, g (.tup xs) h = f xs h) (k : LW c e ρ h (fun ds h => RW (f ds h) K X) X) : RW ((evE c e ρ h).bind g) K X := by
  refine RW.bind (RW.mono k (fun d h z => ?_) fun _ _ z => z)
  obtain ⟨xs, rfl, z⟩ := z
  rw [hg]; exact z
theorem ew_prim {p args} (k : LW c args ρ h (fun ds h => PW p ds h K X) X) : EW c (.prim p args) ρ h K X := by
  unfold EW evE; exact lw_to (fun _ _ => rfl) k
theorem ew_call {f args} (k : LW c args ρ h (fun ds h => RW (c f ds h) K X) X) : EW c (.call f args) ρ h K X := by
  unfold EW evE; exact lw_to (fun _ _ => rfl) k
theorem ew_tup {args} (k : LW c args ρ h (fun ds h => ds.length ≤ sizeLine ∧ K (.tup ds) h) X) : EW c (.tup args) ρ h K X := by
  unfold EW evE; refine lw_to (f := mkt) (fun _ _ => rfl) (RW.mono k (fun d h z => ?_) fun _ _ z => z)
  obtain ⟨xs, rfl, z1, z2⟩ := z
  exact ⟨xs, rfl, by simp only [mkt, z1, if_true, RW]; exact z2⟩
theorem ew_lst {args} (k : LW c args ρ h (fun ds h => ds.length ≤ sizeLine ∧ K (.ref h.length) (h ++ [.lst ds])) X) : EW c (.lst args) ρ h K X := by
  unfold EW evE; refine lw_to (f := mkl) (fun _ _ => rfl) (RW.mono k (fun d h z => ?_) fun _ _ z => z)
  obtain ⟨xs, rfl, z1, z2⟩ := z
  exact ⟨xs, rfl, by simp only [mkl, z1, if_true, RW]; exact z2⟩
theorem ew_meth {p o args} (k : EW c o ρ h (fun x h => recvOk p x h = true ∧ LW c args ρ h (fun ds h => PW p (x :: ds) h K X) X) X) : EW c (.meth p o args) ρ h K X := by
  unfold EW evE
  refine RW.bind (RW.mono k (fun d h z => ?_) fun _ _ z => z)
  rw [if_pos z.1]
  exact lw_to (f := fun xs h => evP p (d :: xs) h) (fun _ _ => rfl) z.2
theorem tw_to {d} {f g : R} {K X} (k : TW h d (RW f K X) (RW g K X)) : RW (match truth h d with | some true => f | some false => g | none => .bad) K X := by
  unfold TW at k; split <;> simp_all
/-- `and`'s first half is known: the second is asked, or it answers -/
def AW (h : Hm) (d : D) (A : Prop) (K : D → Hm → Prop) : Prop := TW h d A (K d h)
def OW (h : Hm) (d : D) (A : Prop) (K : D → Hm → Prop) : Prop := TW h d (K d h) A
theorem aw_b {A : Prop} {q : Bool} (a : q = true → A) (b : q = false → K (.bl false) h) : AW h (.bl q) A K := by
  cases q
  · exact b rfl
  · exact a rfl
theorem ow_b {A : Prop} {q : Bool} (a : q = true → K (.bl true) h) (b : q = false → A) : OW h (.bl q) A K := by
  cases q
  · exact b rfl
  · exact a rfl
theorem aw_dec {A q : Prop} [i : Decidable q] (a : q → A) (b : ¬ q → K (.bl false) h) : AW h (.bl (decide q)) A K := aw_b (fun e => a (of_decide_eq_true e)) fun e => b (of_decide_eq_false e)
theorem ow_dec {A q : Prop} [i : Decidable q] (a : q → K (.bl true) h) (b : ¬ q → A) : OW h (.bl (decide q)) A K := ow_b (fun e => a (of_decide_eq_true e)) fun e => b (of_decide_eq_false e)
theorem aw_t {A : Prop} (a : A) : AW h (.bl true) A K := a
theorem aw_f {A : Prop} (a : K (.bl false) h) : AW h (.bl false) A K := a
theorem ow_t {A : Prop} (a : K (.bl true) h) : OW h (.bl true) A K := a
theorem ow_f {A : Prop} (a : A) : OW h (.bl false) A K := a
theorem tw_pos {A B q : Prop} [i : Decidable q] (z : q) (a : A) : TW h (.bl (decide q)) A B := tw_dec (fun _ => a) fun n => (n z).elim
theorem tw_neg {A B q : Prop} [i : Decidable q] (z : ¬ q) (a : B) : TW h (.bl (decide q)) A B := tw_dec (fun n => (z n).elim) fun _ => a
theorem aw_pos {A q : Prop} [i : Decidable q] (z : q) (a : A) : AW h (.bl (decide q)) A K := aw_dec (fun _ => a) fun n => (n z).elim
theorem aw_neg {A q : Prop} [i : Decidable q] (z : ¬ q) (a : K (.bl false) h) : AW h (.bl (decide q)) A K := aw_dec (fun n => (z n).elim) fun _ => a
theorem ow_pos {A q : Prop} [i : Decidable q] (z : q) (a : K (.bl true) h) : OW h (.bl (decide q)) A K := ow_dec (fun _ => a) fun n => (n z).elim
theorem ow_neg {A q : Prop} [i : Decidable q] (z : ¬ q) (a : A) : OW h (.bl (decide q)) A K := ow_dec (fun n => (z n).elim) fun _ => a
theorem nw_dec {q : Prop} [i : Decidable q] (a : K (.bl (decide (¬ q))) h) : NW h (.bl (decide q)) K := by
  have : (!decide q) = decide (¬ q) := by simp
  unfold NW truth; simp only [this]; exact a
theorem ew_and {a b} (k : EW c a ρ h (fun d h => AW h d (EW c b ρ h K X) K) X) : EW c (.and a b) ρ h K X := by
  unfold EW evE
  exact RW.bind (RW.mono k (fun d h z => tw_to (g := .ok d h) z) fun _ _ z => z)
theorem ew_or {a b} (k : EW c a ρ h (fun d h => OW h d (EW c b ρ h K X) K) X) : EW c (.or a b) ρ h K X := by
  unfold EW evE
  exact RW.bind (RW.mono k (fun d h z => tw_to (f := .ok d h) z) fun _ _ z => z)
theorem ew_ite {q a b} (k : EW c q ρ h (fun d h => TW h d (EW c a ρ h K X) (EW c b ρ h K X)) X) : EW c (.ite q a b) ρ h K X := by
  unfold EW evE
  exact RW.bind (RW.mono k (fun d h z => tw_to z) fun _ _ z => z)
theorem ew_not {a} (k : EW c a ρ h (fun d h => NW h d K) X) : EW c (.not a) ρ h K X := by
  unfold EW evE
  refine RW.bind (RW.mono k (fun d h z => ?_) fun _ _ z => z)
  unfold NW at z; split <;> simp_all [RW]
/-- a truth that the evaluator asks as it stands -/
def BW (d : D) (A B : Prop) : Prop := match d with
  | .bl true => A
  | .bl false => B
  | _ => False
theorem bw_dec {A B q : Prop} [i : Decidable q] (a : q → A) (b : ¬ q → B) : BW (.bl (decide q)) A B := by
  by_cases z : q
  · simpa [BW, z] using a z
  · simpa [BW, z] using b z
theorem bw_b {A B : Prop} {q : Bool} (a : q = true → A) (b : q = false → B) : BW (.bl q) A B := by
  cases q
  · exact b rfl
  · exact a rfl
theorem bw_pos {A B q : Prop} [i : Decidable q] (z : q) (a : A) : BW (.bl (decide q)) A B := bw_dec (fun _ => a) fun n => (n z).elim
theorem bw_neg {A B q : Prop} [i : Decidable q] (z : ¬ q) (a : B) : BW (.bl (decide q)) A B := bw_dec (fun n => (z n).elim) fun _ => a
theorem ew_chain {p q a b e} (k : EW c a ρ h (fun x h => EW c b ρ h (fun y h => PW p [x, y] h (fun k h => BW k (EW c e ρ h (fun z h => PW q [y, z] h K X) X) (K (.bl false) h)) X) X) X) : EW c (.chain p q a b e) ρ h K X := by
  unfold EW evE
  refine RW.bind (RW.mono k (fun x h z => ?_) fun _ _ z => z)
  refine RW.bind (RW.mono z (fun y h z => ?_) fun _ _ z => z)
  refine RW.bind (RW.mono z (fun k h z => ?_) fun _ _ z => z)
  unfold BW at z
  split at z
  · exact RW.bind (RW.mono z (fun x h z => z) fun _ _ z => z)
  · exact z
  · exact z.elim
theorem ew_xis {i cs x fs ds} (e : ρ[i]? = some (some (.xv x fs ds))) (k : K (.bl (cs.contains x)) h) : EW c (.xis i cs) ρ h K X := by
  simp only [EW, evE, e, RW]; exact k
theorem ew_xist {i cs x fs ds} (e : ρ[i]? = some (some (.xv x fs ds))) (z : cs.contains x = true) (k : K (.bl true) h) : EW c (.xis i cs) ρ h K X := ew_xis e (z ▸ k)
theorem ew_xisf {i cs x fs ds} (e : ρ[i]? = some (some (.xv x fs ds))) (z : cs.contains x = false) (k : K (.bl false) h) : EW c (.xis i cs) ρ h K X := ew_xis e (z ▸ k)
theorem ew_xfld {i f x fs ds d} (e : ρ[i]? = some (some (.xv x fs ds))) (z : (fs.zip ds).lookup f = some d) (k : K d h) : EW c (.xfld i f) ρ h K X := by
  simp only [EW, evE, e, z, RW]; exact k
/-! primitives -/
section
variable {i j k : Int} {x y z : D} {xs ys : List D}
theorem pw_add (a : K (.int (i + j)) h) : PW .add [.int i, .int j] h K X := a
theorem pw_addt (l : xs.length + ys.length ≤ sizeLine) (a : K (.tup (xs ++ ys)) h) : PW .add [.tup xs, .tup ys] h K X := by
  have : (xs ++ ys).length ≤ sizeLine := by simpa using l
  simp only [PW, evP, opAdd, mkt, this, if_true, RW]; exact a
theorem pw_sub (a : K (.int (i - j)) h) : PW .sub [.int i, .int j] h K X := a
theorem pw_mul (l : okMul i j = true) (a : K (.int (i * j)) h) : PW .mul [.int i, .int j] h K X := by
  simp only [PW, evP, opMul, l, if_true, RW]; exact a
theorem pw_mul1 (l : -(2 ^ 64) < i) (l' : i < 2 ^ 64) (a : K (.int (i * j)) h) : PW .mul [.int i, .int j] h K X := pw_mul (by simp [okMul]; left; exact ⟨l, l'⟩) a
theorem pw_mul2 (l : -(2 ^ 64) < j) (l' : j < 2 ^ 64) (a : K (.int (i * j)) h) : PW .mul [.int i, .int j] h K X := pw_mul (by simp [okMul]; right; exact ⟨l, l'⟩) a
theorem pw_fdiv (l : 0 < j) (l' : j < 1073741824) (a : K (.int (i / j)) h) : PW .fdiv [.int i, .int j] h K X := by
  simp only [PW, evP, opFdiv, l, l', and_self, if_true, RW]; exact a
theorem pw_fdivw (l : 0 < j) (l' : j.natAbs.log2 < 9000) (a : K (.int (i / j)) h) : PW .fdiv [.int i, .int j] h K X := by
  simp only [PW, evP, opFdiv, l, l', and_self, if_true, true_and]
  split <;> exact a
theorem pw_mod (l : 0 < j) (a : K (.int (i % j)) h) : PW .mod [.int i, .int j] h K X := by
  simp only [PW, evP, opMod, l, if_true, RW]; exact a
theorem pw_pow (l : (0 ≤ j ∧ j ≤ 1000000 ∧ i.natAbs < 2 ^ 64)) (a : K (.int (i ^ j.toNat)) h) : PW .pow [.int i, .int j] h K X := by
  simp only [PW, evP, opPow, if_pos l, RW]; exact a
theorem pw_eq (a : K (.bl (decide (i = j))) h) : PW .eq [.int i, .int j] h K X := a
theorem pw_ne (a : K (.bl (decide (i ≠ j))) h) : PW .ne [.int i, .int j] h K X := by
  have : (!decide (i = j)) = decide (i ≠ j) := by simp
  simp only [PW, evP, opNe, eqD, this, RW]; exact a
theorem pw_lt (a : K (.bl (decide (i < j))) h) : PW .lt [.int i, .int j] h K X := a
theorem pw_le (a : K (.bl (decide (i ≤ j))) h) : PW .le [.int i, .int j] h K X := a
theorem pw_gt (a : K (.bl (decide (j < i))) h) : PW .gt [.int i, .int j] h K X := a
theorem pw_ge (a : K (.bl (decide (j ≤ i))) h) : PW .ge [.int i, .int j] h K X := a
theorem pw_neg (a : K (.int (-i)) h) : PW .neg [.int i] h K X := a
theorem pw_abs (a : K (.int (if i < 0 then -i else i)) h) : PW .abs [.int i] h K X := a
theorem pw_int (a : K (.int i) h) : PW .int [.int i] h K X := a
theorem pw_max2 (a : K (.int (if j > i then j else i)) h) : PW .max2 [.int i, .int j] h K X := a
theorem pw_min2 (a : K (.int (if j < i then j else i)) h) : PW .min2 [.int i, .int j] h K X := a
theorem pw_lent (a : K (.int xs.length) h) : PW .len [.tup xs] h K X := a
theorem pw_len (e : listOf h x = some xs) (hs : ∀ s, x ≠ .str s) (a : K (.int xs.length) h) : PW .len [x] h K X := by
  cases x with
  | str s => exact (hs s rfl).elim
  | _ => simp only [PW, evP, opLen, e, RW]; exact a
theorem pw_lenr {r : Nat} (e : h[r]? = some (.lst xs)) (a : K (.int xs.length) h) : PW .len [.ref r] h K X := by
  simp only [PW, evP, opLen, listOf, e, RW]; exact a
theorem pw_idxt {d} (e : atD xs i = some d) (a : K d h) : PW .idx [.tup xs, .int i] h K X := by
  simp only [PW, evP, opIdx, listOf, e, RW]; exact a
theorem pw_idxr {r : Nat} {d} (e : h[r]? = some (.lst xs)) (e' : atD xs i = some d) (a : K d h) : PW .idx [.ref r, .int i] h K X := by
  simp only [PW, evP, opIdx, listOf, e, e', RW]; exact a
theorem pw_part (l : -(2 ^ 62) ≤ i ∧ i < 2 ^ 62) (a : K (.int i) h) : PW .part [.int i] h K X := by
  simp only [PW, evP, opPart, if_pos l, RW]; exact a
theorem pw_append {r : Nat} (e : h[r]? = some (.lst xs)) (l : xs.length < sizeLine) (a : K .non (h.set r (.lst (xs ++ [y])))) : PW .append [.ref r, y] h K X := by
  simp only [PW, evP, opAppend, onList, e, if_pos l, RW]; exact a
theorem pw_eqD {b} (e : eqD x y h = some b) (a : K (.bl b) h) : PW .eq [x, y] h K X := by
  simp only [PW, evP, opEq, e, RW]; exact a
theorem pw_neD {b} (e : eqD x y h = some b) (a : K (.bl (!b)) h) : PW .ne [x, y] h K X := by
  simp only [PW, evP, opNe, e, RW]; exact a
theorem eqD_bl {a b : Bool} : eqD (.bl a) (.bl b) h = some (decide (a = b)) := by cases a <;> cases b <;> rfl
theorem pw_eqbl {a b : Bool} (q : K (.bl (decide (a = b))) h) : PW .eq [.bl a, .bl b] h K X := pw_eqD eqD_bl q
theorem pw_nebl {a b : Bool} (q : K (.bl (decide (a ≠ b))) h) : PW .ne [.bl a, .bl b] h K X := by
  have : (!decide (a = b)) = decide (a ≠ b) := by simp
  exact pw_neD eqD_bl (by rw [this]; exact q)
theorem pw_is {b} (e : isD x y = some b) (a : K (.bl b) h) : PW .is [x, y] h K X := by
  simp only [PW, evP, opIs, e, RW]; exact a
theorem pw_isnot {b} (e : isD x y = some b) (a : K (.bl (!b)) h) : PW .isnot [x, y] h K X := by
  simp only [PW, evP, opIsnot, e, RW]; exact a
theorem notIns_int {i : Int} {h : Hm} : notIns (.int i) h = true := rfl
theorem notIns_bl {i : Bool} {h : Hm} : notIns (.bl i) h = true := rfl
theorem notIns_str {i : Str} {h : Hm} : notIns (.str i) h = true := rfl
theorem notIns_tup {i : List D} {h : Hm} : notIns (.tup i) h = true := rfl
theorem notIns_non {h : Hm} : notIns .non h = true := rfl
theorem notIns_ref {r : Nat} {xs : List D} {h : Hm} (e : h[r]? = some (.lst xs)) : notIns (.ref r) h = true := by simp only [notIns, e]
theorem pw_isint {b} (e : kInt x = some b) (ni : notIns x h = true := by first | rfl | assumption) (a : K (.bl b) h) : PW .isint [x] h K X := by
  simp only [PW, evP, isKind, kG, ni, if_true, e, RW]; exact a
theorem pw_isbool {b} (e : kBool x = some b) (ni : notIns x h = true := by first | rfl | assumption) (a : K (.bl b) h) : PW .isbool [x] h K X := by
  simp only [PW, evP, isKind, kG, ni, if_true, e, RW]; exact a
theorem pw_isstr {b} (e : kStr x = some b) (ni : notIns x h = true := by first | rfl | assumption) (a : K (.bl b) h) : PW .isstr [x] h K X := by
  simp only [PW, evP, isKind, kG, ni, if_true, e, RW]; exact a
theorem pw_istup {b} (e : kTup x = some b) (ni : notIns x h = true := by first | rfl | assumption) (a : K (.bl b) h) : PW .istup [x] h K X := by
  simp only [PW, evP, isKind, kG, ni, if_true, e, RW]; exact a
theorem pw_islist {b} (e : kList h x = some b) (ni : notIns x h = true := by first | rfl | assumption) (a : K (.bl b) h) : PW .islist [x] h K X := by
  simp only [PW, evP, isKind, kG, ni, if_true, e, RW]; exact a
theorem pw_isseq {b} (e : kSeq h x = some b) (ni : notIns x h = true := by first | rfl | assumption) (a : K (.bl b) h) : PW .isseq [x] h K X := by
  simp only [PW, evP, isKind, kG, ni, if_true, e, RW]; exact a
theorem pw_count {ns : List Int} (e : listOf h x = some xs) (e' : intsOf xs = some ns) (a : K (.int (ns.count i : Nat)) h) : PW .count [x, .int i] h K X := by
  simp only [PW, evP, opCount, e, e', RW]; exact a
theorem pw_sorted {r : Nat} {ns : List Int} (e : h[r]? = some (.lst (ns.map .int))) (e' : intsOf (ns.map .int) = some ns) (a : K (.ref h.length) (h ++ [.lst ((sortI ns).map .int)])) : PW .sorted [.ref r] h K X := by
  simp only [PW, evP, opSorted, lstOf, listOf, e, Option.bind, e', RW]; exact a
theorem pw_unpt (a : K (.tup xs) h) : PW .unp [.tup xs] h K X := a
theorem pw_unpr {r : Nat} (e : h[r]? = some (.lst xs)) (a : K (.tup xs) h) : PW .unp [.ref r] h K X := by
  simp only [PW, evP, opTuple, listOf, e, RW]; exact a
theorem pw_tuple (e : listOf h x = some xs) (a : K (.tup xs) h) : PW .tuple [x] h K X := by
  simp only [PW, evP, opTuple, e, RW]; exact a
theorem pw_list (e : listOf h x = some xs) (a : K (.ref h.length) (h ++ [.lst xs])) : PW .list [x] h K X := by
  simp only [PW, evP, opList, e, RW]; exact a
theorem pw_slicet {lo hi l u} (e : partOf lo = some l) (e' : partOf hi = some u) (a : K (.tup (cutD xs l u)) h) : PW .slice [.tup xs, lo, hi] h K X := by
  simp only [PW, evP, opSlice, e, e', RW]; exact a
theorem pw_slicero {lo hi l u} (e : partOf lo = some l) (e' : partOf hi = some u) (a : K (.ref h.length) (h ++ [.lst (cutD xs l u)])) : PW .slice [.ro xs, lo, hi] h K X := by
  simp only [PW, evP, opSlice, e, e', listOf, RW]; exact a
theorem pw_slicer {r : Nat} {lo hi l u} (q : h[r]? = some (.lst xs)) (e : partOf lo = some l) (e' : partOf hi = some u) (a : K (.ref h.length) (h ++ [.lst (cutD xs l u)])) : PW .slice [.ref r, lo, hi] h K X := by
  simp only [PW, evP, opSlice, e, e', listOf, q, RW]; exact a
end
/-! statements -/
/-- what is left after the first of two -/
def sq (c : Cal) (w : Nat) (sub : Str → Str → Bool) (b : S) (Q : O → Prop) (o : O) : Prop := match o with
  | .nx ρ h => SW c w sub b ρ h Q
  | o => Q o
def endQ (K : D → Hm → Prop) (X : Exn → Hm → Prop) (o : O) : Prop := RW (endO o) K X
theorem sq_nx {b} (k : SW c w sub b ρ h Q) : sq c w sub b Q (.nx ρ h) := k
theorem sq_rt {b d} (k : Q (.rt d h)) : sq c w sub b Q (.rt d h) := k
theorem sq_ex {b x} (k : Q (.ex x ρ h)) : sq c w sub b Q (.ex x ρ h) := k
theorem sq_bk {b} (k : Q (.bk ρ h)) : sq c w sub b Q (.bk ρ h) := k
theorem sq_ct {b} (k : Q (.ct ρ h)) : sq c w sub b Q (.ct ρ h) := k
theorem eq_nx (k : K .non h) : endQ K X (.nx ρ h) := k
theorem eq_rt {d} (k : K d h) : endQ K X (.rt d h) := k
theorem eq_ex {x} (k : X x h) : endQ K X (.ex x ρ h) := k
theorem sw_seq {a b} (k : SW c w sub a ρ h (sq c w sub b Q)) : SW c w sub (.seq a b) ρ h Q := by
  unfold SW sq at k
  unfold SW evS
  split
  · rename_i e; rw [e] at k; exact k
  · rename_i ne
    split at k
    · rename_i ρ1 h1 e; exact (ne _ _ e).elim
    · exact k
/-- the first of two, cut by a word -/
def cq (I : Env' → Hm → Prop) (Q : O → Prop) (o : O) : Prop := match o with
  | .nx ρ h => I ρ h
  | o => Q o
theorem cq_nx {I : Env' → Hm → Prop} (k : I ρ h) : cq I Q (.nx ρ h) := k
theorem cq_rt {I : Env' → Hm → Prop} {d} (k : Q (.rt d h)) : cq I Q (.rt d h) := k
theorem cq_ex {I : Env' → Hm → Prop} {x} (k : Q (.ex x ρ h)) : cq I Q (.ex x ρ h) := k
theorem sw_cut {a b} (I : Env' → Hm → Prop) (k : SW c w sub a ρ h (cq I Q)) (k' : ∀ ρ h, I ρ h → SW c w sub b ρ h Q) : SW c w sub (.seq a b) ρ h Q := by
  refine sw_seq ?_
  unfold SW cq at k
  unfold SW sq
  split at k
  · exact k' _ _ k
  · exact k
theorem sw_skip (k : Q (.nx ρ h)) : SW c w sub .skip ρ h Q := k
theorem sw_brk (k : Q (.bk ρ h)) : SW c w sub .brk ρ h Q := k
theorem sw_cont (k : Q (.ct ρ h)) : SW c w sub .cont ρ h Q := k
theorem sw_retn (k : Q (.rt .non h)) : SW c w sub .retn ρ h Q := k
theorem rw_to {r : R} {f : D → Hm → O} (k : RW r (fun d h => Q (f d h)) (fun x h => Q (.ex x ρ h))) : Q (r.to ρ f) := by
  cases r
  · exact k
  · exact k
  · exact k.elim
theorem sw_set {i e} (k : EW c e ρ h (fun d h => Q (.nx (ρ.set i (some d)) h)) (fun x h => Q (.ex x ρ h))) : SW c w sub (.set (.name i) e) ρ h Q := by
  unfold SW evS; exact rw_to k
theorem sw_sett {tg e} (k : EW c e ρ h (fun d h => ∃ ρ1, setT tg d ρ = some ρ1 ∧ Q (.nx ρ1 h)) (fun x h => Q (.ex x ρ h))) : SW c w sub (.set tg e) ρ h Q := by
  unfold SW evS; refine rw_to (RW.mono k (fun d h z => ?_) fun _ _ z => z)
  obtain ⟨ρ1, e, z⟩ := z
  rw [e]; exact z
theorem sw_expr {e} (k : EW c e ρ h (fun _ h => Q (.nx ρ h)) (fun x h => Q (.ex x ρ h))) : SW c w sub (.expr e) ρ h Q := by
  unfold SW evS; exact rw_to k
theorem sw_ret {e} (k : EW c e ρ h (fun d h => Q (.rt d h)) (fun x h => Q (.ex x ρ h))) : SW c w sub (.ret e) ρ h Q := by
  unfold SW evS; exact rw_to k
theorem sw_ite {q a b} (k : EW c q ρ h (fun d h => TW h d (SW c w sub a ρ h Q) (SW c w sub b ρ h Q)) (fun x h => Q (.ex x ρ h))) : SW c w sub (.ite q a b) ρ h Q := by
  unfold SW evS; refine rw_to (RW.mono k (fun d h z => ?_) fun _ _ z => z)
  unfold TW at z; split <;> simp_all [SW]
theorem sw_aug {p x e a} (er : ρ[x]? = some (some a)) (k : EW c e ρ h (fun d h => RW (evAug p a d h) (fun r h => Q (.nx (ρ.set x (some r)) h)) (fun x h => Q (.ex x ρ h))) (fun x h => Q (.ex x ρ h))) : SW c w sub (.aug p x e) ρ h Q := by
  unfold SW evS; rw [er]; exact rw_to (RW.mono k (fun d h z => rw_to z) fun _ _ z => z)
theorem rw_augadd {i j : Int} (k : K (.int (i + j)) h) : RW (evAug .add (.int i) (.int j) h) K X := k
theorem rw_augsub {i j : Int} (k : K (.int (i - j)) h) : RW (evAug .sub (.int i) (.int j) h) K X := k
theorem rw_augmul {i j : Int} (l : okMul i j = true) (k : K (.int (i * j)) h) : RW (evAug .mul (.int i) (.int j) h) K X := by
  simp only [evAug, opMul, l, if_true, RW]; exact k
theorem rw_augfdiv {i j : Int} (l : 0 < j ∧ j < 1073741824) (k : K (.int (i / j)) h) : RW (evAug .fdiv (.int i) (.int j) h) K X := by
  simp only [evAug, if_pos l, RW]; exact k
theorem rw_augmod {i j : Int} (l : 0 < j) (k : K (.int (i % j)) h) : RW (evAug .mod (.int i) (.int j) h) K X := by
  simp only [evAug, if_pos l, RW]; exact k
theorem sw_setix {o i e} (k : EW c e ρ h (fun d h => EW c o ρ h (fun x h => EW c i ρ h (fun k h => RW (opSetix x k d h) (fun _ h => Q (.nx ρ h)) (fun x h => Q (.ex x ρ h))) (fun x h => Q (.ex x ρ h))) (fun x h => Q (.ex x ρ h))) (fun x h => Q (.ex x ρ h))) : SW c w sub (.setix o i e) ρ h Q := by
  unfold SW evS; exact rw_to (RW.mono k (fun d h z => rw_to (RW.mono z (fun d h z => rw_to (RW.mono z (fun d h z => rw_to z) fun _ _ z => z)) fun _ _ z => z)) fun _ _ z => z)
theorem rw_setix {r m : Nat} {xs : List D} {j : Int} {y : D} (e : h[r]? = some (.lst xs)) (e' : ixN xs.length j = some m) (k : K .non (h.set r (.lst (xs.set m y)))) : RW (opSetix (.ref r) (.int j) y h) K X := by
  simp only [opSetix, onList, e, e', RW]; exact k
theorem rw_get {r : Nat} {xs : List D} {j : Int} {d : D} (e : h[r]? = some (.lst xs)) (e' : atD xs j = some d) (k : K d h) : RW (opGet (.ref r) (.int j) h) K X := by
  simp only [opGet, lstOf, listOf, e, e', RW]; exact k
theorem sw_augix {p o i e} (k : EW c o ρ h (fun x h => EW c i ρ h (fun k h => RW (opGet x k h) (fun a h => EW c e ρ h (fun d h => RW (evAug p a d h) (fun r h => RW (opSetix x k r h) (fun _ h => Q (.nx ρ h)) (fun x h => Q (.ex x ρ h))) (fun x h => Q (.ex x ρ h))) (fun x h => Q (.ex x ρ h))) (fun x h => Q (.ex x ρ h))) (fun x h => Q (.ex x ρ h))) (fun x h => Q (.ex x ρ h))) : SW c w sub (.augix p o i e) ρ h Q := by
  unfold SW evS
  exact rw_to (RW.mono k (fun d h z => rw_to (RW.mono z (fun d h z => rw_to (RW.mono z (fun d h z => rw_to (RW.mono z (fun d h z => rw_to (RW.mono z (fun d h z => rw_to z) fun _ _ z => z)) fun _ _ z => z)) fun _ _ z => z)) fun _ _ z => z)) fun _ _ z => z)
theorem sw_raise {cl fs args} (k : LW c args ρ h (fun ds h => ds.length = fs.length ∧ Q (.ex ⟨cl, fs, ds⟩ ρ h)) (fun x h => Q (.ex x ρ h))) : SW c w sub (.raise cl fs args) ρ h Q := by
  unfold SW evS; refine rw_to (RW.mono k (fun d h z => ?_) fun _ _ z => z)
  obtain ⟨xs, rfl, z1, z2⟩ := z
  simp only [z1, if_true]; exact z2
/-- one item after another -/
def FW (c : Cal) (w : Nat) (sub : Str → Str → Bool) (g : Gd) (tg : Tg) (b : S) (xs : List D) (ρ : Env') (h : Hm) (Q : O → Prop) : Prop := Q (forL g tg (evS c w sub b) xs ρ h)
/-- how a round leads on -/
def rd (I : Env' → Hm → Prop) (Q : O → Prop) (o : O) : Prop := match o with
  | .nx ρ h => I ρ h
  | .ct ρ h => I ρ h
  | .bk ρ h => Q (.nx ρ h)
  | o => Q o
theorem rd_nx {I : Env' → Hm → Prop} (k : I ρ h) : rd I Q (.nx ρ h) := k
theorem rd_ct {I : Env' → Hm → Prop} (k : I ρ h) : rd I Q (.ct ρ h) := k
theorem rd_bk {I : Env' → Hm → Prop} (k : Q (.nx ρ h)) : rd I Q (.bk ρ h) := k
theorem rd_rt {I : Env' → Hm → Prop} {d} (k : Q (.rt d h)) : rd I Q (.rt d h) := k
theorem rd_ex {I : Env' → Hm → Prop} {x} (k : Q (.ex x ρ h)) : rd I Q (.ex x ρ h) := k
theorem fw_inv {g tg b} {xs : List D} (I : List D → Env' → Hm → Prop) (i0 : I xs ρ h)
    (ig : ∀ r ρ h, I r ρ h → gdOk g h = true)
    (is : ∀ x r ρ h, I (x :: r) ρ h → ∃ ρ1, setT tg x ρ = some ρ1 ∧ SW c w sub b ρ1 h (rd (I r) Q))
    (ie : ∀ ρ h, I [] ρ h → Q (.nx ρ h)) : FW c w sub g tg b xs ρ h Q := by
  induction xs generalizing ρ h with
  | nil => simp only [FW, forL, ig _ _ _ i0, if_true]; exact ie _ _ i0
  | cons x r ih =>
    obtain ⟨ρ1, e, z⟩ := is _ _ _ _ i0
    simp only [FW, forL, ig _ _ _ i0, if_true, e]
    unfold SW at z
    cases q : evS c w sub b ρ1 h with
    | nx ρ2 h2 => rw [q] at z; exact ih z
    | ct ρ2 h2 => rw [q] at z; exact ih z
    | bk ρ2 h2 => rw [q] at z; exact z
    | rt d h2 => rw [q] at z; exact z
    | ex x ρ2 h2 => rw [q] at z; exact z
    | bad => rw [q] at z; exact z
theorem sw_loop {s args tg b} (k : LW c args ρ h (fun ds h => ∃ xs g, evSrc s ds h = some (xs, g) ∧ FW c w sub g tg b xs ρ h Q) (fun x h => Q (.ex x ρ h))) : SW c w sub (.loop s args tg b) ρ h Q := by
  unfold SW evS; refine rw_to (RW.mono k (fun d h z => ?_) fun _ _ z => z)
  obtain ⟨ds, rfl, xs, g, e, z⟩ := z
  simp only [e]; exact z
theorem small_of {i : Int} (a : -(2 ^ 62) ≤ i) (b : i < 2 ^ 62) : small i = true := by simp [small]; exact ⟨a, b⟩
theorem src_r1 {n : Int} (a : small n = true) : evSrc .range1 [.int n] h = some (rangeD 0 1 n.toNat, []) := by simp [evSrc, srcR1, a]
theorem src_r2 {n m : Int} (a : small n = true) (b : small m = true) : evSrc .range2 [.int n, .int m] h = some (rangeD n 1 (m - n).toNat, []) := by simp [evSrc, srcR2, a, b]
theorem src_t {xs : List D} : evSrc .plain [.tup xs] h = some (xs, []) := rfl
theorem src_r {r : Nat} {xs : List D} (e : h[r]? = some (.lst xs)) : evSrc .plain [.ref r] h = some (xs, [(r, xs)]) := by simp [evSrc, srcPlain, listOf, e, gdOf]
theorem src_ro {xs : List D} : evSrc .plain [.ro xs] h = some (xs, []) := rfl
theorem gd_nil : gdOk [] h = true := rfl
theorem gd_one {r : Nat} {xs : List D} (e : h[r]? = some (.lst xs)) : gdOk [(r, xs)] h = true := by simp [gdOk, e, D.beqs_refl]
/-- the numbers from lo on, n of them -/
def upD (lo : Int) : Nat → List D
  | 0 => []
  | n + 1 => .int lo :: upD (lo + 1) n
theorem range_up (lo : Int) (n : Nat) : rangeD lo 1 n = upD lo n := by
  induction n generalizing lo with
  | zero => rfl
  | succ n ih =>
    rw [upD, ← ih (lo + 1)]
    simp only [rangeD, List.range_succ_eq_map, List.map_cons, List.map_map]
    congr 1
    · simp
    · apply List.map_congr_left
      intro a _
      simp only [Function.comp, Int.mul_one]
      congr 1
      omega
/-- a walk over numbers: the invariant speaks of the next number -/
theorem fw_up {g tg b lo} {n : Nat} (I : Int → Env' → Hm → Prop) (i0 : I lo ρ h)
    (ig : ∀ k ρ h, I k ρ h → gdOk g h = true)
    (is : ∀ k ρ h, lo ≤ k → k < lo + n → I k ρ h → ∃ ρ1, setT tg (.int k) ρ = some ρ1 ∧ SW c w sub b ρ1 h (rd (I (k + 1)) Q))
    (ie : ∀ ρ h, I (lo + n) ρ h → Q (.nx ρ h)) : FW c w sub g tg b (upD lo n) ρ h Q := by
  induction n generalizing lo ρ h with
  | zero => simp only [FW, upD, forL, ig _ _ _ i0, if_true]; exact ie _ _ (by simpa using i0)
  | succ n ih =>
    obtain ⟨ρ1, e, z⟩ := is lo ρ h (Int.le_refl _) (by omega) i0
    simp only [FW, upD, forL, ig _ _ _ i0, if_true, e]
    unfold SW at z
    have go : ∀ ρ2 h2, I (lo + 1) ρ2 h2 → FW c w sub g tg b (upD (lo + 1) n) ρ2 h2 Q := fun ρ2 h2 z => ih z (fun k ρ h a b => is k ρ h (by omega) (by omega)) (fun ρ h q => ie ρ h ((show lo + 1 + (n : Int) = lo + ((n + 1 : Nat) : Int) by omega) ▸ q))
    cases q : evS c w sub b ρ1 h with
    | nx ρ2 h2 => rw [q] at z; exact go _ _ z
    | ct ρ2 h2 => rw [q] at z; exact go _ _ z
    | bk ρ2 h2 => rw [q] at z; exact z
    | rt d h2 => rw [q] at z; exact z
    | ex x ρ2 h2 => rw [q] at z; exact z
    | bad => rw [q] at z; exact z
/-- a list made item by item -/
theorem rw_comp {g tg q t n} {xs : List D} (I : List D → List D → Hm → Prop) (acc : List D) (i0 : I xs acc h)
    (ig : ∀ r a h, I r a h → gdOk g h = true)
    (ia : ∀ x r a h, I (x :: r) a h → ∃ ρ1, setT tg x ρ = some ρ1 ∧ EW c q ρ1 h (fun d h => TW h d (EW c t ρ1 h (fun y h => h[n]? = some (.lst a) ∧ a.length < sizeLine ∧ I r (a ++ [y]) (h.set n (.lst (a ++ [y])))) (fun _ _ => False)) (I r a h)) (fun _ _ => False))
    (ie : ∀ a h, I [] a h → K (.ref n) h) : RW (compL g tg ρ (evE c q) (evE c t) n xs h) K X := by
  induction xs generalizing acc h with
  | nil => simp only [compL, ig _ _ _ i0, if_true, RW]; exact ie _ _ i0
  | cons x r ih =>
    obtain ⟨ρ1, e, z⟩ := ia _ _ _ _ i0
    simp only [compL, ig _ _ _ i0, if_true, e]
    unfold EW at z
    cases e1 : evE c q ρ1 h with
    | bad => rw [e1] at z; exact z.elim
    | exn _ _ => rw [e1] at z; exact z.elim
    | ok d h1 =>
      rw [e1] at z
      simp only [RW, TW] at z
      simp only
      split
      · rename_i e2
        rw [e2] at z
        simp only at z
        cases e3 : evE c t ρ1 h1 with
        | bad => rw [e3] at z; exact z.elim
        | exn _ _ => rw [e3] at z; exact z.elim
        | ok y h2 =>
          rw [e3] at z
          obtain ⟨z1, z2, z3⟩ := z
          simp only [z1, z2, if_true]
          exact ih _ z3
      · rename_i e2
        rw [e2] at z
        exact ih _ z
      · rename_i e2
        rw [e2] at z
        exact z.elim
theorem ew_comp {own s args tg q t} (k : LW c args ρ h (fun ds h => ∃ xs g, evSrc s ds h = some (xs, g) ∧ RW (compL g tg (wipeE ρ own) (evE c q) (evE c t) h.length xs (h ++ [.lst []])) K X) X) : EW c (.comp own s args tg q t) ρ h K X := by
  unfold EW evE
  refine RW.bind (RW.mono k (fun d h z => ?_) fun _ _ z => z)
  obtain ⟨ds, rfl, xs, g, e, z⟩ := z
  simp only [e]; exact z
/-- try with one except clause that holds the exception -/
def hq (c : Cal) (w : Nat) (sub : Str → Str → Bool) (hs : S) (Q : O → Prop) (o : O) : Prop := match o with
  | .ex x ρ h => Q (evH c w sub hs x ρ h)
  | o => Q o
theorem hq_rt {hs d} (k : Q (.rt d h)) : hq c w sub hs Q (.rt d h) := k
theorem hq_nx {hs} (k : Q (.nx ρ h)) : hq c w sub hs Q (.nx ρ h) := k
theorem hq_bk {hs} (k : Q (.bk ρ h)) : hq c w sub hs Q (.bk ρ h) := k
theorem hq_ct {hs} (k : Q (.ct ρ h)) : hq c w sub hs Q (.ct ρ h) := k
/-- what is left of a suite -/
def xq (i : Nat) (Q : O → Prop) (o : O) : Prop := match o with
  | .nx ρ h => Q (.nx (ρ.set i none) h)
  | .bk ρ h => Q (.bk (ρ.set i none) h)
  | .ct ρ h => Q (.ct (ρ.set i none) h)
  | .rt d h => Q (.rt d h)
  | _ => False
theorem xq_rt {i d} (k : Q (.rt d h)) : xq i Q (.rt d h) := k
theorem xq_nx {i} (k : Q (.nx (ρ.set i none) h)) : xq i Q (.nx ρ h) := k
theorem hq_ex {cl i su rest} {x : Exn} (s : sub x.cls cl = true) (l : i < ρ.length) (k : SW c w sub su (ρ.set i (some (.xv x.cls x.fs x.ds))) h (xq i Q)) : hq c w sub (.hcons cl (some i) su rest) Q (.ex x ρ h) := by
  unfold hq evH
  simp only [s, l, if_true]
  unfold SW xq at k
  split at k <;> simp_all
theorem hq_exn {cl su rest} {x : Exn} (s : sub x.cls cl = true) (k : SW c w sub su ρ h (fun o => match o with | .ex .. => False | o => Q o)) : hq c w sub (.hcons cl none su rest) Q (.ex x ρ h) := by
  unfold hq evH
  simp only [s, if_true]
  unfold SW at k
  dsimp only at k
  split at k <;> simp_all
theorem hq_no {cl i su rest} {x : Exn} (s : sub x.cls cl = false) (k : hq c w sub rest Q (.ex x ρ h)) : hq c w sub (.hcons cl i su rest) Q (.ex x ρ h) := by
  unfold hq at k ⊢
  unfold evH
  simp only [s, Bool.false_eq_true, if_false]
  exact k
theorem hq_end {x : Exn} (k : Q (.ex x ρ h)) : hq c w sub .hnil Q (.ex x ρ h) := k
theorem sw_try {b hs} (k : SW c w sub b ρ h (hq c w sub hs Q)) : SW c w sub (.try b hs) ρ h Q := by
  unfold SW evS
  unfold SW hq at k
  split
  · rename_i e; rw [e] at k; exact k
  · rename_i ne
    split at k
    · rename_i e; exact (ne _ _ _ e).elim
    · exact k
/-- a def entered -/
theorem rw_in {P : Pg} {w k f : Nat} {fn : Fn} {ds : List D} {b : S} (e : P.fns[f]? = some fn) (l : ds.length = fn.arity) (eb : fn.body = b) (er : ds.map some ++ List.replicate (fn.slots - fn.arity) none = ρ)
    (z : SW (callF P w k) w P.sub b ρ h (endQ K X)) : RW (callF P w (k + 1) f ds h) K X := by
  simp only [callF, e, l, if_true, endQ, SW, eb, er] at *
  exact z
theorem rw_use {r : R} {d : D} {h' : Hm} (e : r = .ok d h') (k : K d h') : RW r K X := by rw [e]; exact k
theorem rw_usex {r : R} {x : Exn} {h' : Hm} (e : r = .exn x h') (k : X x h') : RW r K X := by rw [e]; exact k
theorem rw_get_ok {r : R} {q : D} (z : RW r (fun d _ => d = q) (fun _ _ => False)) : ∃ h, r = .ok q h := by
  cases r with
  | ok d h => exact ⟨h, by rw [show d = q from z]⟩
  | exn _ _ => exact z.elim
  | bad => exact z.elim
/-- which of two ends -/
theorem rw_eq {r : R} (z : r = .ok d h') : RW r (fun a b => a = d ∧ b = h') X := by rw [z]; exact ⟨rfl, rfl⟩
theorem atD_pos {xs : List D} {i : Int} (l : i.toNat < xs.length) (i0 : 0 ≤ i) : atD xs i = xs[i.toNat]? := by
  unfold atD ixN
  have a : i < (xs.length : Int) := by omega
  simp [i0, a]
/-! ### the store of the draws -/
def StoreOk (h : Hm) (s : Nat) : Prop := ∃ (a : Nat) (ns : List Int) (i x y z : Int), h[s]? = some (.lst [.ref a, .int i, .int x, .int y, .int z]) ∧ h[a]? = some (.lst (ns.map .int)) ∧ a < s ∧ 0 ≤ i ∧ 0 ≤ x ∧ 0 ≤ z ∧ z < 18446744073709551616 ∧ ns.length ≤ 63
/-- all but the store stands -/
def Fr (s : Nat) (h h' : Hm) : Prop := h.length ≤ h'.length ∧ ∀ i, i < h.length → i ≠ s → h'[i]? = h[i]?
theorem Fr.refl {s : Nat} {h : Hm} : Fr s h h := ⟨Nat.le_refl _, fun _ _ _ => rfl⟩
theorem Fr.trans {s : Nat} {h h1 h2 : Hm} (a : Fr s h h1) (b : Fr s h1 h2) : Fr s h h2 := ⟨Nat.le_trans a.1 b.1, fun i l n => (b.2 i (Nat.lt_of_lt_of_le l a.1) n).trans (a.2 i l n)⟩
theorem Fr.get {s r : Nat} {h h' : Hm} {x : Cell} (a : Fr s h h') (n : r ≠ s) (e : h[r]? = some x) : h'[r]? = some x := by
  have : r < h.length := by
    have := List.getElem?_eq_some_iff.mp e
    exact this.1
  rw [a.2 r this n]; exact e
theorem lt_of_get {r : Nat} {h : Hm} {x : Cell} (e : h[r]? = some x) : r < h.length := (List.getElem?_eq_some_iff.mp e).1
theorem get_app {r : Nat} {h t : Hm} {x : Cell} (e : h[r]? = some x) : (h ++ t)[r]? = some x := by
  rw [List.getElem?_append_left (lt_of_get e)]; exact e
theorem get_new {h : Hm} {x : Cell} : (h ++ [x])[h.length]? = some x := by simp
theorem get_set {r : Nat} {h : Hm} {x y : Cell} (e : h[r]? = some y) : (h.set r x)[r]? = some x := by simp [lt_of_get e]
theorem get_set_ne {r q : Nat} {h : Hm} {x y : Cell} (n : q ≠ r) (e : h[q]? = some y) : (h.set r x)[q]? = some y := by rw [List.getElem?_set_ne (Ne.symm n)]; exact e
theorem Fr.set {s : Nat} {h : Hm} {x : Cell} : Fr s h (h.set s x) := ⟨by simp, fun i l n => by rw [List.getElem?_set_ne (Ne.symm n)]⟩
theorem Fr.app {s : Nat} {h t : Hm} : Fr s h (h ++ t) := ⟨by simp, fun i l n => by rw [List.getElem?_append_left l]⟩
/-- a cell made since then may be written -/
theorem Fr.setn {s r : Nat} {h h' : Hm} {x : Cell} (a : Fr s h h') (l : h.length ≤ r) : Fr s h (h'.set r x) := ⟨by simpa using a.1, fun i l' n => by rw [List.getElem?_set_ne (by omega)]; exact a.2 i l' n⟩
theorem StoreOk.lt {s : Nat} {h : Hm} (a : StoreOk h s) : s < h.length := by
  obtain ⟨_, _, _, _, _, _, e, _⟩ := a
  exact lt_of_get e
theorem StoreOk.app {s : Nat} {h t : Hm} (a : StoreOk h s) : StoreOk (h ++ t) s := by
  obtain ⟨a, ns, i, x, y, z, e, e', q⟩ := a
  exact ⟨a, ns, i, x, y, z, get_app e, get_app e', q⟩
theorem StoreOk.setn {s r : Nat} {h : Hm} {x : Cell} (a : StoreOk h s) (l : s < r) : StoreOk (h.set r x) s := by
  obtain ⟨a, ns, i, x, y, z, e, e', q⟩ := a
  exact ⟨a, ns, i, x, y, z, get_set_ne (by omega) e, get_set_ne (by omega) e', q⟩
theorem recv_r {p : Pm} {r : Nat} {xs : List D} (e : h[r]? = some (.lst xs)) : recvOk p (.ref r) h = true := by cases p <;> simp [recvOk, lstOf, listOf, e]
theorem recv_t {xs : List D} : recvOk .count (.tup xs) h = true := rfl
theorem le_size {n : Nat} (l : n ≤ 16) : n ≤ sizeLine := Nat.le_trans l (by decide)
theorem small_k {i : Int} (a : 0 ≤ i) (b : i < 1073741824) : small i = true := small_of (by omega) (by omega)
/-! ### more of the same -/
section
variable {c : Cal} {w : Nat} {sub : Str → Str → Bool} {ρ : Env'} {h : Hm} {K : D → Hm → Prop} {KL : List D → Hm → Prop} {X : Exn → Hm → Prop} {Q : O → Prop}
theorem ew_callD {f args dl} (k : LW c args ρ h (fun ds h => RW (c f (ds ++ dl) h) K X) X) : EW c (.callD f args dl) ρ h K X := by
  unfold EW evE; exact lw_to (f := fun ds h => c f (ds ++ dl) h) (fun _ _ => rfl) k
theorem lw_app {a b} (k : LW c a ρ h (fun xs h => LW c b ρ h (fun ys h => KL (xs ++ ys) h) X) X) : LW c (.app a b) ρ h KL X := by
  unfold LW evE
  refine RW.bind (RW.mono k (fun d h z => ?_) fun _ _ z => z)
  obtain ⟨xs, rfl, z⟩ := z
  refine RW.bind (RW.mono z (fun d h z => ?_) fun _ _ z => z)
  obtain ⟨ys, rfl, z⟩ := z
  exact ⟨_, rfl, z⟩
theorem pw_revl {x : D} {xs : List D} (e : listOf h x = some xs) (l : xs.length ≤ 1000000) (a : K (.ref h.length) (h ++ [.lst xs.reverse])) : PW .revl [x] h K X := by
  simp only [PW, evP, opRevl, e, l, if_true, RW]; exact a
theorem pw_sumt {ns : List Int} (a : K (.int ns.sum) h) : PW .suml [.tup (ns.map .int)] h K X := by
  simp only [PW, evP, opSum, listOf, Option.bind, intsOf_map, RW]; exact a
theorem pw_sumr {r : Nat} {ns : List Int} (e : h[r]? = some (.lst (ns.map .int))) (a : K (.int ns.sum) h) : PW .suml [.ref r] h K X := by
  simp only [PW, evP, opSum, listOf, e, Option.bind, intsOf_map, RW]; exact a
theorem pw_addr {a b : Nat} {xs ys : List D} (ea : h[a]? = some (.lst xs)) (eb : h[b]? = some (.lst ys)) (l : xs.length + ys.length ≤ sizeLine) (k : K (.ref h.length) (h ++ [.lst (xs ++ ys)])) : PW .add [.ref a, .ref b] h K X := by
  have : (xs ++ ys).length ≤ sizeLine := by simpa using l
  simp only [PW, evP, opAdd, ea, eb, mkl, this, if_true, RW]; exact k
theorem pw_mulr {r : Nat} {xs : List D} {k : Int} (e : h[r]? = some (.lst xs)) (l : k < 2 ^ 62 ∧ -(2 ^ 62) ≤ k ∧ xs.length * k.toNat ≤ sizeLine) (a : K (.ref h.length) (h ++ [.lst (List.replicate k.toNat xs).flatten])) : PW .mul [.ref r, .int k] h K X := by
  simp only [PW, evP, opMul, e, if_pos l, RW]; exact a
theorem pw_listr {r : Nat} {xs : List D} (e : h[r]? = some (.lst xs)) (a : K (.ref h.length) (h ++ [.lst xs])) : PW .list [.ref r] h K X := pw_list (x := .ref r) (by simp only [listOf, e]) a
theorem pw_tupr {r : Nat} {xs : List D} (e : h[r]? = some (.lst xs)) (a : K (.tup xs) h) : PW .tuple [.ref r] h K X := pw_tuple (x := .ref r) (by simp only [listOf, e]) a
theorem flat_rep1 {α : Type} (x : α) (n : Nat) : (List.replicate n [x]).flatten = List.replicate n x := by
  induction n with
  | zero => rfl
  | succ n ih => simp [List.replicate_succ, ih]
/-! instances -/
theorem ew_fld {a f} (k : EW c a ρ h (fun x h => RW (opFld f x h) K X) X) : EW c (.fld a f) ρ h K X := by
  unfold EW evE; exact RW.bind k
theorem rw_fld {r : Nat} {f : Str} {cn : Str} {F : List Str} {fs : List (Str × D)} {d : D} (e : h[r]? = some (.ins cn F fs)) (hF : F.contains f = true) (hl : fs.lookup f = some d) (a : K d h) : RW (opFld f (.ref r) h) K X := by
  simp only [opFld, e, hF, hl, if_true, RW]; exact a
theorem rw_noEx {r : R} (k : RW r K (fun _ _ => False)) : RW (noEx r) K X := by
  cases r with
  | ok d h => exact k
  | exn x h => exact k.elim
  | bad => exact k
theorem ew_new {cn F i args} (k : LW c args ρ h (fun ds h1 => RW (c i (.ref h1.length :: ds) (h1 ++ [.ins cn F []])) (fun d h2 => d = .non ∧ K (.ref h1.length) h2) X) X) : EW c (.new cn F i args) ρ h K X := by
  unfold EW evE
  refine lw_to (f := fun xs h1 => newEnd h1.length (c i (.ref h1.length :: xs) (h1 ++ [.ins cn F []]))) (fun _ _ => rfl) (RW.mono k (fun d h1 z => ?_) fun _ _ z => z)
  obtain ⟨ds, rfl, z⟩ := z
  refine ⟨ds, rfl, ?_⟩
  unfold newEnd
  refine RW.bind (RW.mono z (fun d h2 q => ?_) fun _ _ z => z)
  obtain ⟨rfl, q⟩ := q
  exact q
theorem ew_mcall {cn m i o args} (k : EW c o ρ h (fun x h1 => isIns cn m x h1 = true ∧ LW c args ρ h1 (fun ds h2 => RW (c i (x :: ds) h2) K (fun _ _ => False)) X) X) : EW c (.mcall cn m i o args) ρ h K X := by
  unfold EW evE
  refine RW.bind (RW.mono k (fun x h1 z => ?_) fun _ _ z => z)
  rw [if_pos z.1]
  exact lw_to (f := fun xs h2 => noEx (c i (x :: xs) h2)) (fun _ _ => rfl) (RW.mono z.2 (fun d h2 z => by
    obtain ⟨ds, rfl, z⟩ := z
    exact ⟨ds, rfl, rw_noEx z⟩) fun _ _ z => z)
theorem ew_lenc {cn i o} (k : EW c o ρ h (fun x h1 => isIns cn "__len__" x h1 = true ∧ RW (c i [x] h1) (fun d h2 => ∃ n : Int, d = .int n ∧ 0 ≤ n ∧ n < 1073741824 ∧ K (.int n) h2) (fun _ _ => False)) X) : EW c (.lenc cn i o) ρ h K X := by
  unfold EW evE
  refine RW.bind (RW.mono k (fun x h1 z => ?_) fun _ _ z => z)
  rw [if_pos z.1]
  unfold lenEnd
  refine RW.bind (rw_noEx (RW.mono z.2 (fun d h2 q => ?_) fun _ _ z => z))
  obtain ⟨n, rfl, h0, h1, q⟩ := q
  simp only [h0, h1, and_self, if_true, RW]
  exact q
theorem sw_setfld {w : Nat} {sub : Str → Str → Bool} {Q : O → Prop} {o f e} (k : EW c e ρ h (fun d h1 => EW c o ρ h1 (fun x h2 => RW (opSetfld x f d h2) (fun _ h3 => Q (.nx ρ h3)) (fun x h => Q (.ex x ρ h))) (fun x h => Q (.ex x ρ h))) (fun x h => Q (.ex x ρ h))) : SW c w sub (.setfld o f e) ρ h Q := by
  unfold SW evS
  exact rw_to (RW.mono k (fun d h z => rw_to (RW.mono z (fun d h z => rw_to z) fun _ _ z => z)) fun _ _ z => z)
theorem rw_setfld {r : Nat} {f : Str} {cn : Str} {F : List Str} {fs : List (Str × D)} {d : D} (e : h[r]? = some (.ins cn F fs)) (hF : F.contains f = true) (hl : fs.length < 900) (a : K .non (h.set r (.ins cn F (putD f d fs)))) : RW (opSetfld (.ref r) f d h) K X := by
  simp only [opSetfld, e, hF, hl, and_self, if_true, RW]; exact a
theorem is_ins {r : Nat} {cn m : Str} {F : List Str} {fs : List (Str × D)} (e : h[r]? = some (.ins cn F fs)) (hl : fs.lookup m = none) : isIns cn m (.ref r) h = true := by
  simp only [isIns, e, hl, Option.isNone_none, Bool.and_true, beq_self_eq_true]
/-- the heap that only grew -/
theorem gd_app {g : Gd} {t : Hm} (e : gdOk g h = true) : gdOk g (h ++ t) = true := by
  unfold gdOk at e ⊢
  rw [List.all_eq_true] at e ⊢
  intro p hp
  have := e p hp
  split at this
  · rename_i xs hx; rw [get_app hx]; exact this
  · cases this
/-- a list made of whole numbers, each by itself -/
theorem rw_compI {g tg q t} {ns : List Int} (f : Int → D) (p : Int → Bool) (hg : gdOk g h = true) (l : ns.length ≤ sizeLine)
    (ia : ∀ n ∈ ns, ∀ u : Hm, ∃ ρ1, setT tg (.int n) ρ = some ρ1 ∧ EW c q ρ1 (h ++ u) (fun d h' => d = .bl (p n) ∧ h' = h ++ u) (fun _ _ => False) ∧ (p n = true → EW c t ρ1 (h ++ u) (fun d h' => d = f n ∧ h' = h ++ u) (fun _ _ => False)))
    (ie : K (.ref h.length) (h ++ [.lst ((ns.filter p).map f)])) : RW (compL g tg ρ (evE c q) (evE c t) h.length (ns.map .int) (h ++ [.lst []])) K X := by
  refine rw_comp (I := fun xs acc h' => ∃ a b : List Int, ns = a ++ b ∧ xs = b.map .int ∧ acc = (a.filter p).map f ∧ h' = h ++ [.lst acc]) [] ⟨[], ns, rfl, rfl, rfl, rfl⟩ ?_ ?_ ?_
  · rintro _ _ _ ⟨_, _, _, _, _, rfl⟩
    exact gd_app hg
  · rintro x r acc h' ⟨a, b, e, eb, ea, rfl⟩
    cases b with
    | nil => simp at eb
    | cons n b =>
      simp only [List.map_cons, List.cons.injEq] at eb
      obtain ⟨rfl, rfl⟩ := eb
      obtain ⟨ρ1, e1, e2, e3⟩ := ia n (by rw [e]; simp) [.lst acc]
      refine ⟨ρ1, e1, RW.mono e2 (fun d h2 z => ?_) fun _ _ z => z⟩
      obtain ⟨rfl, rfl⟩ := z
      cases hp : p n with
      | false =>
        exact tw_f ⟨a ++ [n], b, by simp [e], rfl, by rw [ea]; simp [List.filter_append, hp], rfl⟩
      | true =>
        refine tw_t (RW.mono (e3 hp) (fun d h2 z => ?_) fun _ _ z => z)
        obtain ⟨rfl, rfl⟩ := z
        have la : acc.length < sizeLine := by
          rw [ea, List.length_map]
          have := List.length_filter_le p a
          have : ns.length = a.length + (b.length + 1) := by rw [e]; simp
          omega
        refine ⟨get_new, la, a ++ [n], b, by simp [e], rfl, by rw [ea]; simp [List.filter_append, hp], by simp⟩
  · rintro acc h' ⟨a, b, e, eb, ea, rfl⟩
    have : b = [] := by simpa using eb.symm
    subst this
    rw [List.append_nil] at e
    subst e
    rw [ea]
    exact ie
end
/-- what stood, stands at the head -/
def Gr (h H : Hm) : Prop := ∃ t, H = h ++ t
theorem Gr.refl {h : Hm} : Gr h h := ⟨[], by simp⟩
theorem Gr.app {h t : Hm} : Gr h (h ++ t) := ⟨t, rfl⟩
theorem Gr.trans {h H H' : Hm} (a : Gr h H) (b : Gr H H') : Gr h H' := by
  obtain ⟨t, rfl⟩ := a
  obtain ⟨u, rfl⟩ := b
  exact ⟨t ++ u, by simp⟩
theorem Gr.get {h H : Hm} {r : Nat} {x : Cell} (a : Gr h H) (e : h[r]? = some x) : H[r]? = some x := by
  obtain ⟨t, rfl⟩ := a
  exact get_app e
theorem Gr.len {h H : Hm} (a : Gr h H) : h.length ≤ H.length := by
  obtain ⟨t, rfl⟩ := a
  simp
theorem Gr.set {h H : Hm} {r : Nat} {x : Cell} (a : Gr h H) (l : h.length ≤ r) : Gr h (H.set r x) := by
  obtain ⟨t, rfl⟩ := a
  exact ⟨t.set (r - h.length) x, List.set_append_right _ _ l⟩
theorem Gr.add {h H t : Hm} (a : Gr h H) : Gr h (H ++ t) := a.trans .app
theorem Gr.store {h H : Hm} {s : Nat} (a : Gr h H) (hs : StoreOk h s) : StoreOk H s := by
  obtain ⟨t, rfl⟩ := a
  exact hs.app
theorem Gr.fr {h H : Hm} {s : Nat} (a : Gr h H) : Fr s h H := by
  obtain ⟨t, rfl⟩ := a
  exact .app
theorem atD_zero {x : D} {r : List D} : atD (x :: r) 0 = some x := by
  rw [atD_pos (by simp) (by decide)]; rfl
theorem ixN_zero {n : Nat} : ixN (n + 1) 0 = some 0 := by
  unfold ixN
  rw [if_pos (by decide)]
  simp
/-! ### sorted -/
/-- rising numbers from low on, under top -/
def Up (top : Int) : Int → List Int → Prop
  | _, [] => True
  | low, t :: r => low ≤ t ∧ t < top ∧ Up top t r
theorem up_of {top : Int} : ∀ {l : List Int} {low : Int}, l.Pairwise (· ≤ ·) → (∀ t ∈ l, low ≤ t ∧ t < top) → Up top low l
  | [], _, _, _ => trivial
  | t :: r, low, h, b => ⟨(b t (by simp)).1, (b t (by simp)).2, up_of (List.pairwise_cons.mp h).2 fun u hu => ⟨(List.pairwise_cons.mp h).1 u hu, (b u (by simp [hu])).2⟩⟩
theorem up_all {top : Int} : ∀ {l : List Int} {low : Int}, Up top low l → ∀ t ∈ l, low ≤ t ∧ t < top
  | t :: r, low, h, u, hu => by
    rcases List.mem_cons.mp hu with rfl | hu
    · exact ⟨h.1, h.2.1⟩
    · have := up_all h.2.2 u hu
      exact ⟨Int.le_trans h.1 this.1, this.2⟩
end Z

set_option Elab.async false
set_option linter.all false
set_option maxRecDepth 100000
set_option maxHeartbeats 4000000
namespace Z
open PySem L2
/-! ### data of whole numbers: equal, less, least -/
section
variable {c : Cal} {w : Nat} {sub : Str → Str → Bool} {ρ : Env'} {h : Hm} {K : D → Hm → Prop} {X : Exn → Hm → Prop} {Q : O → Prop}
theorem toPs_ints (h : Hm) : ∀ {ns : List Int} {n : Nat}, ns.length + 1 < n → toPs h n (ns.map .int) = some (ns.map PyData.int)
  | [], n + 1, _ => rfl
  | a :: r, n + 2, l => by
    simp only [List.length_cons] at l
    simp only [List.map_cons, toPs, toP, toPs_ints h (ns := r) (n := n + 1) (by omega)]
  | [], 0, l => by omega
  | _ :: _, 0, l => by omega
  | _ :: _, 1, l => by simp at l
theorem toP_tup {ns : List Int} (l : ns.length ≤ 900) : toP h deepP (.tup (ns.map .int)) = some (pTup ns) := by
  show (toPs h 999 (ns.map .int)).map PyData.tuple = _
  rw [toPs_ints h (by omega)]
  rfl
theorem toP_ref {a : Nat} {ns : List Int} (e : h[a]? = some (.lst (ns.map .int))) (l : ns.length ≤ 900) : toP h deepP (.ref a) = some (.list (ns.map .int)) := by
  show (match h[a]? with | some (.lst xs) => (toPs h 999 xs).map PyData.list | _ => none) = _
  rw [e]
  show (toPs h 999 (ns.map .int)).map PyData.list = _
  rw [toPs_ints h (by omega)]
  rfl
theorem lay_ints : ∀ ns : List Int, PyData.canLayAll0 (ns.map .int) = true
  | [] => by simp [PyData.canLayAll0]
  | a :: r => by simp [PyData.canLayAll0, PyData.canLay0, lay_ints r]
theorem shaped_tup (ns : List Int) : SeqAt.shaped (pTup ns) = true := by
  unfold SeqAt.shaped pTup
  rw [PyData.canLay0, lay_ints, PyData.depth, PySem.W.depth_ints]
  rfl
theorem shaped_lst (ns : List Int) : SeqAt.shaped (.list (ns.map .int)) = true := by
  unfold SeqAt.shaped
  rw [PyData.canLay0, lay_ints, PyData.depth, PySem.W.depth_ints]
  rfl
theorem eqvAll_ints : ∀ as bs : List Int, PyData.eqvAll (as.map .int) (bs.map .int) = decide (as = bs)
  | [], [] => by simp [PyData.eqvAll]
  | [], _ :: _ => by simp [PyData.eqvAll]
  | _ :: _, [] => by simp [PyData.eqvAll]
  | a :: r, b :: s => by
    simp only [List.map_cons, PyData.eqvAll, PyData.eqv, eqvAll_ints r s]
    by_cases e : a = b
    · by_cases e2 : r = s
      · simp [e, e2]
      · simp [e, e2]
    · simp [e]
theorem eqv_tup (as bs : List Int) : PyData.eqv (pTup as) (pTup bs) = decide (as = bs) := by
  unfold pTup
  rw [PyData.eqv, eqvAll_ints]
theorem eqD_tup {as bs : List Int} (la : as.length ≤ 900) (lb : bs.length ≤ 900) : eqD (.tup (as.map .int)) (.tup (bs.map .int)) h = some (decide (as = bs)) := by
  unfold eqD
  rw [toP_tup la, toP_tup lb]
  simp only
  rw [if_pos ⟨shaped_tup _, shaped_tup _⟩, eqv_tup]
theorem eqD_ref {a b : Nat} {as bs : List Int} (ea : h[a]? = some (.lst (as.map .int))) (eb : h[b]? = some (.lst (bs.map .int))) (la : as.length ≤ 900) (lb : bs.length ≤ 900) : eqD (.ref a) (.ref b) h = some (decide (as = bs)) := by
  unfold eqD
  rw [toP_ref ea la, toP_ref eb lb]
  simp only
  rw [if_pos ⟨shaped_lst _, shaped_lst _⟩, PyData.eqv, eqvAll_ints]
theorem dataLt_tup (as bs : List Int) : PySem.W.dataLt (pTup as) (pTup bs) = decide (as < bs) := by
  unfold pTup
  rw [PySem.W.dataLt_tuple]
  exact PySem.W.dataLt_ints as bs
theorem dataLt_lst (as bs : List Int) : PySem.W.dataLt (.list (as.map .int)) (.list (bs.map .int)) = decide (as < bs) := by
  rw [PySem.W.dataLt_list]
  exact PySem.W.dataLt_ints as bs
theorem dOk_tup (as bs : List Int) : dOk (pTup as) (pTup bs) = true := by
  unfold dOk
  rw [alike_pTup]
  simp [dSome, pTup, PyData.depth, PySem.W.depth_ints]
theorem dOk_lst (as bs : List Int) : dOk (.list (as.map .int)) (.list (bs.map .int)) = true := by
  unfold dOk
  rw [PySem.W.alike, PySem.W.alike_ints]
  simp [dSome, PyData.depth, PySem.W.depth_ints]
theorem pw_ltT {as bs : List Int} (la : as.length ≤ 900) (lb : bs.length ≤ 900) (a : K (.bl (decide (as < bs))) h) : PW .lt [.tup (as.map .int), .tup (bs.map .int)] h K X := by
  have : opCmp (fun i j => decide (i < j)) qLt (.tup (as.map .int)) (.tup (bs.map .int)) h = .ok (.bl (decide (as < bs))) h := by
    unfold opCmp
    rw [toP_tup la, toP_tup lb]
    simp only
    rw [if_pos (dOk_tup _ _)]
    unfold qLt
    rw [dataLt_tup]
  exact rw_use this a
theorem pw_gtR {x y : Nat} {as bs : List Int} (ea : h[x]? = some (.lst (as.map .int))) (eb : h[y]? = some (.lst (bs.map .int))) (la : as.length ≤ 900) (lb : bs.length ≤ 900) (a : K (.bl (decide (bs < as))) h) : PW .gt [.ref x, .ref y] h K X := by
  have : opCmp (fun i j => decide (j < i)) qGt (.ref x) (.ref y) h = .ok (.bl (decide (bs < as))) h := by
    unfold opCmp
    rw [toP_ref ea la, toP_ref eb lb]
    simp only
    rw [if_pos (dOk_lst _ _)]
    unfold qGt
    rw [dataLt_lst]
  exact rw_use this a
theorem pw_max2R {x y : Nat} {as bs : List Int} (ea : h[x]? = some (.lst (as.map .int))) (eb : h[y]? = some (.lst (bs.map .int))) (la : as.length ≤ 900) (lb : bs.length ≤ 900) (a : K (if as < bs then .ref y else .ref x) h) : PW .max2 [.ref x, .ref y] h K X := by
  have al : alikeB [PyData.list (as.map .int), PyData.list (bs.map .int)] = true := by
    unfold alikeB
    simp [PySem.W.alike, PySem.W.alike_ints, dSome]
  have dp : PyData.depthAll [PyData.list (as.map .int), PyData.list (bs.map .int)] ≤ 60 := by
    simp [PyData.depthAll, PyData.depth, PySem.W.depth_ints]
  have : opMax2 (.ref x) (.ref y) h = .ok (if as < bs then .ref y else .ref x) h := by
    unfold opMax2
    rw [toP_ref ea la, toP_ref eb lb]
    simp only
    rw [if_pos ⟨al, dp⟩, dataLt_lst]
    by_cases z : as < bs
    · rw [if_pos z, if_pos (by simpa using z)]
    · rw [if_neg z, if_neg (by simpa using z)]
  exact rw_use this a
theorem tupsOf_map : ∀ l : List (List Int), tupsOf (l.map fun ns => D.tup (ns.map .int)) = some l
  | [] => rfl
  | ns :: r => by simp only [List.map_cons, tupsOf, intsOf_map, tupsOf_map r]
theorem intsOf_tup {ns : List Int} {r : List D} : intsOf (.tup (ns.map .int) :: r) = none := rfl
theorem pw_minT {x : Nat} {a : List Int} {l : List (List Int)} (e : h[x]? = some (.lst ((a :: l).map fun ns => D.tup (ns.map .int)))) (k : K (.tup ((minT a l).map .int)) h) : PW .minl [.ref x] h K X := by
  have : opMinl (.ref x) h = .ok (.tup ((minT a l).map .int)) h := by
    unfold opMinl
    have e1 : listOf h (.ref x) = some ((a :: l).map fun ns => D.tup (ns.map .int)) := by simp only [listOf, e]
    have e2 : lstOf h (.ref x) = some ((a :: l).map fun ns => D.tup (ns.map .int)) := e1
    rw [e1, e2]
    simp only [Option.bind]
    rw [List.map_cons, intsOf_tup]
    simp only
    rw [← List.map_cons (f := fun ns : List Int => D.tup (ns.map .int)), tupsOf_map]
  exact rw_use this k
theorem minT_ok : ∀ (l : List (List Int)) (x : List Int), minT x l ∈ x :: l ∧ ∀ y ∈ x :: l, ¬ y < minT x l
  | [], x => ⟨by simp [minT], fun y hy => by
      simp only [List.mem_cons, List.not_mem_nil, or_false] at hy
      subst hy
      exact List.lt_irrefl _⟩
  | z :: r, x => by
    have e : minT x (z :: r) = minT (if z < x then z else x) r := by
      unfold minT
      rw [List.foldl_cons]
      congr 1
      rw [dataLt_tup]
      simp
    obtain ⟨h1, h2⟩ := minT_ok r (if z < x then z else x)
    rw [e]
    refine ⟨?_, fun y hy => ?_⟩
    · rcases List.mem_cons.mp h1 with h1 | h1
      · rw [h1]
        split
        · simp
        · simp
      · simp [h1]
    · by_cases zx : z < x
      · rw [if_pos zx] at h2 ⊢
        rcases List.mem_cons.mp hy with rfl | hy
        · intro q
          exact h2 z (by simp) (List.lt_trans zx q)
        · exact h2 y hy
      · rw [if_neg zx] at h2 ⊢
        rcases List.mem_cons.mp hy with rfl | hy
        · exact h2 y (by simp)
        · rcases List.mem_cons.mp hy with rfl | hy
          · intro q
            have h3 := h2 x (by simp)
            have l1 := List.not_lt.mp zx
            have l2 := List.not_lt.mp h3
            exact absurd q (List.not_lt.mpr (List.le_trans l2 l1))
          · exact h2 y (by simp [hy])
theorem toPs_tups (h : Hm) : ∀ {l : List (List Int)} {n : Nat}, (∀ a ∈ l, a.length ≤ 40) → l.length + 100 < n → toPs h n (l.map fun ns => D.tup (ns.map .int)) = some (l.map pTup)
  | [], n + 1, _, _ => rfl
  | a :: r, n + 2, ha, l => by
    simp only [List.length_cons] at l
    have e : toP h (n + 1) (.tup (a.map .int)) = some (pTup a) := by
      show (toPs h n (a.map .int)).map PyData.tuple = _
      rw [toPs_ints h (by have := ha a (by simp); omega)]
      rfl
    simp only [List.map_cons, toPs, e, toPs_tups h (l := r) (n := n + 1) (fun b hb => ha b (by simp [hb])) (by omega)]
  | [], 0, _, l => by omega
  | _ :: _, 0, _, l => by omega
  | _ :: _, 1, _, l => by simp at l
theorem lay_tups : ∀ l : List (List Int), PyData.canLayAll0 (l.map pTup) = true
  | [] => by simp [PyData.canLayAll0]
  | a :: r => by simp [PyData.canLayAll0, PyData.canLay0, pTup, lay_ints a, lay_tups r]
theorem pw_indexT {x j : Nat} {l : List (List Int)} {m : List Int} (e : h[x]? = some (.lst (l.map fun ns => D.tup (ns.map .int)))) (ha : ∀ a ∈ l, a.length ≤ 40) (hl : l.length ≤ 800) (lm : m.length ≤ 40) (jl : l[j]? = some m) (jf : ∀ i, i < j → l[i]? ≠ some m) (k : K (.int j) h) : PW .index [.ref x, .tup (m.map .int)] h K X := by
  have jj : j < l.length := (List.getElem?_eq_some_iff.mp jl).1
  have : opIndex (.ref x) (.tup (m.map .int)) h = .ok (.int j) h := by
    unfold opIndex
    have e2 : lstOf h (.ref x) = some (l.map fun ns => D.tup (ns.map .int)) := by simp only [lstOf, listOf, e]
    rw [e2]
    simp only
    rw [toPs_tups h ha (by show l.length + 100 < 999; omega), toP_tup (by omega)]
    simp only
    have sh : SeqAt.shaped (.list (l.map pTup)) = true := by
      unfold SeqAt.shaped
      rw [PyData.canLay0, lay_tups, PyData.depth]
      have := depth_tups l
      simp
      omega
    rw [if_pos ⟨sh, shaped_tup _⟩]
    have : (l.map pTup).findIdx? (fun z => PyData.eqv z (pTup m)) = some j := by
      rw [List.findIdx?_eq_some_iff_getElem]
      refine ⟨by simpa using jj, ?_, fun i hi => ?_⟩
      · rw [List.getElem_map, eqv_tup]
        have := (List.getElem?_eq_some_iff.mp jl).2
        simpa using this
      · have il : i < l.length := by omega
        have := jf i hi
        rw [List.getElem?_eq_getElem il] at this
        rw [List.getElem_map, eqv_tup]
        simpa using this
    rw [this]
  exact rw_use this k
/-- a list made of things, the heap growing -/
theorem rw_compG {α : Type} {g tg q t} {ns : List α} (g' f : α → D) (p : α → Bool) (hg : gdOk g h = true) (l : ns.length ≤ sizeLine)
    (ia : ∀ n ∈ ns, ∀ H, Gr h H → ∃ ρ1, setT tg (g' n) ρ = some ρ1 ∧ EW c q ρ1 H (fun d H' => d = .bl (p n) ∧ Gr H H') (fun _ _ => False) ∧ (p n = true → ∀ H', Gr H H' → EW c t ρ1 H' (fun d H2 => d = f n ∧ Gr H' H2) (fun _ _ => False)))
    (ie : ∀ H, Gr h H → H[h.length]? = some (.lst ((ns.filter p).map f)) → K (.ref h.length) H) : RW (compL g tg ρ (evE c q) (evE c t) h.length (ns.map g') (h ++ [.lst []])) K X := by
  refine rw_comp (I := fun xs acc h' => ∃ a b : List α, ns = a ++ b ∧ xs = b.map g' ∧ acc = (a.filter p).map f ∧ Gr h h' ∧ h'[h.length]? = some (.lst acc)) [] ⟨[], ns, rfl, rfl, rfl, .app, get_new⟩ ?_ ?_ ?_
  · rintro _ _ _ ⟨_, _, _, _, _, gr, _⟩
    obtain ⟨u, rfl⟩ := gr
    exact gd_app hg
  · rintro x r acc h' ⟨a, b, e, eb, ea, gr, eh⟩
    cases b with
    | nil => simp at eb
    | cons n b =>
      simp only [List.map_cons, List.cons.injEq] at eb
      obtain ⟨rfl, rfl⟩ := eb
      obtain ⟨ρ1, e1, e2, e3⟩ := ia n (by rw [e]; simp) h' gr
      refine ⟨ρ1, e1, RW.mono e2 (fun d h2 z => ?_) fun _ _ z => z⟩
      obtain ⟨rfl, g2⟩ := z
      cases hp : p n with
      | false =>
        exact tw_f ⟨a ++ [n], b, by simp [e], rfl, by rw [ea]; simp [List.filter_append, hp], gr.trans g2, g2.get eh⟩
      | true =>
        refine tw_t (RW.mono (e3 hp h2 g2) (fun d h3 z => ?_) fun _ _ z => z)
        obtain ⟨rfl, g3⟩ := z
        have la : acc.length < sizeLine := by
          rw [ea, List.length_map]
          have := List.length_filter_le p a
          have : ns.length = a.length + (b.length + 1) := by rw [e]; simp
          omega
        have e4 := g3.get (g2.get eh)
        exact ⟨e4, la, a ++ [n], b, by simp [e], rfl, by rw [ea]; simp [List.filter_append, hp], ((gr.trans g2).trans g3).set (Nat.le_refl _), get_set e4⟩
  · rintro acc h' ⟨a, b, e, eb, ea, gr, eh⟩
    have : b = [] := by simpa using eb.symm
    subst this
    rw [List.append_nil] at e
    subst e
    rw [ea] at eh
    exact ie h' gr eh
theorem range_nat (n : Nat) : rangeD 0 1 n = (List.range n).map fun (k : Nat) => D.int k := by
  unfold rangeD
  apply List.map_congr_left
  intro a _
  congr 1
  omega
end
end Z

set_option Elab.async false
set_option linter.all false
set_option maxRecDepth 100000
set_option maxHeartbeats 4000000
namespace Z
open PySem L2
variable {c : Cal} {w : Nat} {sub : Str → Str → Bool} {ρ : Env'} {h : Hm} {K : D → Hm → Prop} {KL : List D → Hm → Prop} {X : Exn → Hm → Prop} {Q : O → Prop}
/-- a walk over items: the invariant speaks of how many are done -/
theorem fw_ix {g tg b} {xs : List D} (I : Nat → Env' → Hm → Prop) (i0 : I 0 ρ h)
    (ig : ∀ k ρ h, I k ρ h → gdOk g h = true)
    (is : ∀ k x ρ h, xs[k]? = some x → I k ρ h → ∃ ρ1, setT tg x ρ = some ρ1 ∧ SW c w sub b ρ1 h (rd (I (k + 1)) Q))
    (ie : ∀ ρ h, I xs.length ρ h → Q (.nx ρ h)) : FW c w sub g tg b xs ρ h Q := by
  refine fw_inv (I := fun r ρ h => ∃ k, xs.drop k = r ∧ k ≤ xs.length ∧ I k ρ h) ⟨0, rfl, Nat.zero_le _, i0⟩ ?_ ?_ ?_
  · rintro r ρ h ⟨k, _, _, z⟩
    exact ig _ _ _ z
  · rintro x r ρ h ⟨k, e, l, z⟩
    have lk : k < xs.length := by
      apply Nat.lt_of_not_le
      intro g
      rw [List.drop_eq_nil_of_le g] at e
      cases e
    have ex : xs[k]? = some x := by
      have := List.getElem?_drop (xs := xs) (i := k) (j := 0)
      rw [e] at this
      simpa using this.symm
    have er : xs.drop (k + 1) = r := by
      have := List.drop_drop (l := xs) (i := 1) (j := k)
      rw [e] at this
      simpa [Nat.add_comm] using this.symm
    obtain ⟨ρ1, e1, z1⟩ := is k x ρ h ex z
    refine ⟨ρ1, e1, ?_⟩
    unfold SW at z1 ⊢
    unfold rd at z1 ⊢
    split
    · rename_i e2; rw [e2] at z1; exact ⟨k + 1, er, lk, z1⟩
    · rename_i e2; rw [e2] at z1; exact ⟨k + 1, er, lk, z1⟩
    · rename_i e2; rw [e2] at z1; exact z1
    · rename_i n1 n2 n3
      split at z1
      · rename_i e2; exact (n1 _ _ e2).elim
      · rename_i e2; exact (n2 _ _ e2).elim
      · rename_i e2; exact (n3 _ _ e2).elim
      · exact z1
  · rintro ρ h ⟨k, e, l, z⟩
    have : xs.length ≤ k := List.drop_eq_nil_iff.mp e
    have : k = xs.length := by omega
    subst this
    exact ie _ _ z
theorem enuD_len : ∀ (xs : List D) (m : Nat), (enumD m xs).length = xs.length
  | [], _ => rfl
  | x :: r, m => by simp only [enumD, List.length_cons, enuD_len r]
theorem enuD_get : ∀ (xs : List D) (m k : Nat) {y : D}, (enumD m xs)[k]? = some y → ∃ x, xs[k]? = some x ∧ y = .tup [.int ((m + k : Nat) : Int), x]
  | [], _, _, _, e => by simp [enumD] at e
  | x :: r, m, 0, y, e => by
    simp only [enumD, List.getElem?_cons_zero, Option.some.injEq] at e
    exact ⟨x, rfl, e.symm⟩
  | x :: r, m, k + 1, y, e => by
    simp only [enumD, List.getElem?_cons_succ] at e
    obtain ⟨x', e1, e2⟩ := enuD_get r (m + 1) k e
    exact ⟨x', by simpa using e1, by rw [e2, show m + 1 + k = m + (k + 1) by omega]⟩
theorem fw_enum {g tg b} {xs : List D} (I : Nat → Env' → Hm → Prop) (i0 : I 0 ρ h)
    (ig : ∀ k ρ h, I k ρ h → gdOk g h = true)
    (is : ∀ k x ρ h, xs[k]? = some x → I k ρ h → ∃ ρ1, setT tg (.tup [.int k, x]) ρ = some ρ1 ∧ SW c w sub b ρ1 h (rd (I (k + 1)) Q))
    (ie : ∀ ρ h, I xs.length ρ h → Q (.nx ρ h)) : FW c w sub g tg b (enumD 0 xs) ρ h Q := by
  refine fw_ix I i0 ig (fun k y ρ h e z => ?_) (by rw [enuD_len]; exact ie)
  obtain ⟨x, ex, rfl⟩ := enuD_get _ _ _ e
  rw [Nat.zero_add]
  exact is k x ρ h ex z
theorem src_enumt {xs : List D} : evSrc .enum [.tup xs] h = some (enumD 0 xs, []) := rfl
theorem src_enumr {r : Nat} {xs : List D} (e : h[r]? = some (.lst xs)) : evSrc .enum [.ref r] h = some (enumD 0 xs, [(r, xs)]) := by simp [evSrc, srcEnum, listOf, e, gdOf]
theorem src_zipt {xs ys : List D} : evSrc .zip [.tup xs, .tup ys] h = some (zipD xs ys, []) := rfl
theorem src_ziptr {r : Nat} {xs ys : List D} (e : h[r]? = some (.lst ys)) : evSrc .zip [.tup xs, .ref r] h = some (zipD xs ys, [(r, ys)]) := by simp [evSrc, srcZip, listOf, e, gdOf]
theorem zipD_map {α β : Type} (f : α → D) (g : β → D) : ∀ (as : List α) (bs : List β), zipD (as.map f) (bs.map g) = (as.zip bs).map fun p => .tup [f p.1, g p.2]
  | [], _ => rfl
  | _ :: _, [] => rfl
  | a :: as, b :: bs => by simp only [List.map_cons, zipD, List.zip_cons_cons, zipD_map f g as bs]
theorem pw_popat {r j : Nat} {xs : List D} {i : Int} {d : D} (e : h[r]? = some (.lst xs)) (s : small i = true) (e' : ixN xs.length i = some j) (e'' : xs[j]? = some d) (a : K d (h.set r (.lst (xs.eraseIdx j)))) : PW .popat [.ref r, .int i] h K X := by
  simp only [PW, evP, opPopat, onList, e, s, e', e'', if_true, RW]; exact a
theorem pw_mult {xs : List D} {k : Int} (l : xs.isEmpty = false ∧ 1 ≤ k ∧ k ≤ 1000 ∧ xs.length ≤ 1000) (a : K (.tup (List.replicate k.toNat xs).flatten) h) : PW .mul [.tup xs, .int k] h K X := by
  simp only [PW, evP, opMul, if_pos l, RW]; exact a
theorem pw_minlr {r : Nat} {n : Int} {ns : List Int} (e : h[r]? = some (.lst ((n :: ns).map .int))) (a : K (.int (minI ns n)) h) : PW .minl [.ref r] h K X := by
  have : opMinl (.ref r) h = .ok (.int (minI ns n)) h := by
    unfold opMinl
    simp only [listOf, e, Option.bind, intsOf_map]
  simp only [PW, evP, this, RW]; exact a
theorem pw_rangel {n : Int} (l : 0 ≤ n) (l' : n ≤ 16777216) (a : K (.ref h.length) (h ++ [.lst ((List.range n.toNat).map fun (k : Nat) => D.int k)])) : PW .rangel [.int n] h K X := by
  have s : small n = true ∧ n ≤ 16777216 := ⟨small_k l (by omega), l'⟩
  simp only [PW, evP, opRangel, if_pos s, RW, range_nat]; exact a
/-- a set made of whole numbers, all of them unlike -/
theorem rw_setI {tg q t} {n0 : Nat} {ns : List Int} (f : Int → Int) (hn : n0 = h.length) (l : ns.length ≤ 900) (nd : (ns.map f).Nodup)
    (ia : ∀ n ∈ ns, ∀ u : Hm, ∃ ρ1, setT tg (.int n) ρ = some ρ1 ∧ EW c q ρ1 (h ++ u) (fun d h' => d = .bl true ∧ h' = h ++ u) (fun _ _ => False) ∧ EW c t ρ1 (h ++ u) (fun d h' => d = .int (f n) ∧ h' = h ++ u) (fun _ _ => False))
    (ie : K (.int ns.length) (h ++ [.set (ns.map f)])) : RW (setL [] tg ρ (evE c q) (evE c t) n0 (ns.map .int) (h ++ [.set []])) K X := by
  subst hn
  suffices z : ∀ (b a : List Int), ns = a ++ b → RW (setL [] tg ρ (evE c q) (evE c t) h.length (b.map .int) (h ++ [.set (a.map f)])) K X from z ns [] rfl
  intro b
  induction b with
  | nil =>
    intro a e
    rw [List.append_nil] at e
    subst e
    simp only [List.map_nil, setL, gdOk, List.all_nil, if_true]
    simp only [List.getElem?_append_right (Nat.le_refl _), Nat.sub_self, List.getElem?_cons_zero]
    simp only [List.length_map, RW]
    exact ie
  | cons n b ih =>
    intro a e
    obtain ⟨ρ1, e1, e2, e3⟩ := ia n (by rw [e]; simp) [.set (a.map f)]
    unfold EW at e2 e3
    have q1 : evE c q ρ1 (h ++ [.set (a.map f)]) = .ok (.bl true) (h ++ [.set (a.map f)]) := by
      cases z : evE c q ρ1 (h ++ [.set (a.map f)]) with
      | ok d h' => rw [z] at e2; obtain ⟨rfl, rfl⟩ := e2; rfl
      | exn _ _ => rw [z] at e2; exact e2.elim
      | bad => rw [z] at e2; exact e2.elim
    have q2 : evE c t ρ1 (h ++ [.set (a.map f)]) = .ok (.int (f n)) (h ++ [.set (a.map f)]) := by
      cases z : evE c t ρ1 (h ++ [.set (a.map f)]) with
      | ok d h' => rw [z] at e3; obtain ⟨rfl, rfl⟩ := e3; rfl
      | exn _ _ => rw [z] at e3; exact e3.elim
      | bad => rw [z] at e3; exact e3.elim
    have la : (a.map f).length < 1000 := by
      have := congrArg List.length e
      simp only [List.length_append, List.length_cons] at this
      rw [List.length_map]
      omega
    have nm : f n ∉ a.map f := by
      rw [e, List.map_append, List.map_cons] at nd
      have := (List.nodup_append.mp nd).2.2
      intro hm
      exact this _ hm _ (by simp) rfl
    simp only [List.map_cons, setL, gdOk, List.all_nil, if_true, e1, q1, truth, q2]
    simp only [List.getElem?_append_right (Nat.le_refl _), Nat.sub_self, List.getElem?_cons_zero, la, if_true]
    have es : (h ++ [Cell.set (a.map f)]).set h.length (.set (addI (f n) (a.map f))) = h ++ [.set ((a ++ [n]).map f)] := by
      rw [List.set_append_right _ _ (Nat.le_refl _), Nat.sub_self]
      simp only [List.set_cons_zero, addI, if_neg nm, List.map_append, List.map_cons, List.map_nil]
    rw [es]
    exact ih (a ++ [n]) (by rw [e]; simp)
theorem ew_lenset {own s args tg q t} (k : LW c args ρ h (fun ds h => ∃ xs g, evSrc s ds h = some (xs, g) ∧ RW (setL g tg (wipeE ρ own) (evE c q) (evE c t) h.length xs (h ++ [.set []])) K X) X) : EW c (.lenset own s args tg q t) ρ h K X := by
  unfold EW evE
  refine RW.bind (RW.mono k (fun d h z => ?_) fun _ _ z => z)
  obtain ⟨ds, rfl, xs, g, e, z⟩ := z
  simp only [e]; exact z
/-- the whole numbers from lo on, n of them -/
def upI (lo : Int) : Nat → List Int
  | 0 => []
  | n + 1 => lo :: upI (lo + 1) n
theorem upD_map : ∀ (n : Nat) (lo : Int), upD lo n = (upI lo n).map .int
  | 0, _ => rfl
  | n + 1, lo => by simp only [upD, upI, List.map_cons, upD_map n]
theorem upI_len : ∀ (n : Nat) (lo : Int), (upI lo n).length = n
  | 0, _ => rfl
  | n + 1, lo => by simp only [upI, List.length_cons, upI_len n]
theorem upI_mem : ∀ (n : Nat) (lo : Int) {x : Int}, x ∈ upI lo n ↔ lo ≤ x ∧ x < lo + n
  | 0, lo, x => by
    constructor
    · intro h; cases h
    · intro h; omega
  | n + 1, lo, x => by
    simp only [upI, List.mem_cons, upI_mem n (lo + 1)]
    omega
theorem upI_snoc : ∀ (n : Nat) (lo : Int), upI lo (n + 1) = upI lo n ++ [lo + n]
  | 0, lo => by simp [upI]
  | n + 1, lo => by
    rw [upI, upI_snoc n (lo + 1), upI, List.cons_append]
    congr 3
    omega
/-- the first of those that answer -/
theorem upI_first {p : Int → Bool} : ∀ (n : Nat) (lo : Int) {m : Int}, lo ≤ m → m < lo + n → p m = true → (∀ j, lo ≤ j → j < m → p j = false) → ∃ r, (upI lo n).filter p = m :: r
  | 0, lo, m, a, b, _, _ => by omega
  | n + 1, lo, m, a, b, pm, lt => by
    by_cases e : lo = m
    · subst e
      exact ⟨(upI (lo + 1) n).filter p, by simp [upI, pm]⟩
    · have pl := lt lo (Int.le_refl _) (by omega)
      obtain ⟨r, hr⟩ := upI_first n (lo + 1) (m := m) (by omega) (by omega) pm fun j j0 j1 => lt j (by omega) j1
      exact ⟨r, by simp [upI, pl, hr]⟩
end Z

section
open PySem L2 Z
local macro_rules | `(tactic| walk_at "zs") => `(tactic| (first | assumption | decide | omega | exact rfl | (simp only [List.length_cons, List.length_nil]; omega)))
local macro_rules | `(tactic| walk_at "zh") => `(tactic| (first | assumption | exact get_set (by walk_at "zh") | exact get_set_ne (by first | assumption | omega) (by walk_at "zh") | exact get_new | exact get_app (by walk_at "zh")))
local macro_rules | `(tactic| walk_at "zn") => `(tactic| (first | exact notIns_int | exact notIns_bl | exact notIns_str | exact notIns_tup | exact notIns_non | (with_reducible show Z.notIns (Z.D.ref _) _ = true; exact notIns_ref (by walk_at "zh"))))
local macro_rules | `(tactic| walk_at "z1") => `(tactic| (first | (with_reducible show Z.EW _ _ _ _ _ _; first | (with_reducible first | refine ew_prim ?_ | refine ew_lit ?_ | refine ew_call ?_ | refine ew_not ?_ | refine ew_and ?_ | refine ew_or ?_ | refine ew_chain ?_ | refine ew_ite ?_ | refine ew_tup ?_ | refine ew_lst ?_ | refine ew_meth ?_ | refine ew_callD ?_) | refine ew_var rfl ?_ | refine ew_xist rfl (by decide +kernel) ?_ | refine ew_xisf rfl (by decide +kernel) ?_) | (with_reducible show Z.LW _ _ _ _ _ _; with_reducible first | refine lw_cons ?_ | refine lw_nil ?_ | refine lw_app ?_) | (with_reducible show Z.SW _ _ _ _ _ _ _; first | (with_reducible first | refine sw_seq ?_ | refine sw_ite ?_ | refine sw_ret ?_ | refine sw_set ?_ | refine sw_sett ?_ | refine sw_expr ?_ | refine sw_skip ?_ | refine sw_setix ?_ | refine sw_augix ?_ | refine sw_brk ?_ | refine sw_cont ?_ | refine sw_retn ?_ | refine sw_raise ?_ | refine sw_try ?_ | refine sw_loop ?_) | refine sw_aug rfl ?_) | (with_reducible show Z.PW _ _ _ _ _; first | (with_reducible first | refine pw_add ?_ | refine pw_sub ?_ | refine pw_eq ?_ | refine pw_ne ?_ | refine pw_lt ?_ | refine pw_le ?_ | refine pw_gt ?_ | refine pw_ge ?_ | refine pw_neg ?_ | refine pw_abs ?_ | refine pw_int ?_ | refine pw_max2 ?_ | refine pw_min2 ?_ | refine pw_lent ?_ | refine pw_eqbl ?_ | refine pw_nebl ?_ | refine pw_mod (by walk_at "zs") ?_ | refine pw_fdiv (by walk_at "zs") (by walk_at "zs") ?_ | refine pw_mul1 (by walk_at "zs") (by walk_at "zs") ?_ | refine pw_mul2 (by walk_at "zs") (by walk_at "zs") ?_ | (show Z.PW .len [.ref _] _ _ _; refine pw_lenr (by walk_at "zh") ?_) | (show Z.PW .append [.ref _, _] _ _ _; refine pw_append (by walk_at "zh") (by walk_at "zs") ?_)) | refine pw_pow (by decide) ?_ | refine pw_part (by decide) ?_ | (with_reducible show Z.PW .is _ _ _ _; refine pw_is rfl ?_) | (with_reducible show Z.PW .unp [.tup _] _ _ _; refine pw_unpt ?_) | (with_reducible show Z.PW .unp [.ref _] _ _ _; refine pw_unpr (by walk_at "zh") ?_) | (with_reducible show Z.PW .isint _ _ _ _; refine pw_isint rfl (by walk_at "zn") ?_) | (with_reducible show Z.PW .isbool _ _ _ _; refine pw_isbool rfl (by walk_at "zn") ?_) | (with_reducible show Z.PW .isstr _ _ _ _; refine pw_isstr rfl (by walk_at "zn") ?_) | (with_reducible show Z.PW .istup _ _ _ _; refine pw_istup rfl (by walk_at "zn") ?_) | (with_reducible show Z.PW .islist _ _ _ _; refine pw_islist rfl (by walk_at "zn") ?_) | (with_reducible show Z.PW .isseq _ _ _ _; refine pw_isseq rfl (by walk_at "zn") ?_) | (with_reducible show Z.PW .slice [.tup _, _, _] _ _ _; refine pw_slicet rfl rfl ?_) | (with_reducible show Z.PW .idx [.tup _, _] _ _ _; refine pw_idxt rfl ?_) | (with_reducible show Z.PW .idx [.ref _, _] _ _ _; refine pw_idxr (by walk_at "zh") rfl ?_)) | (with_reducible first | refine sq_nx ?_ | refine sq_rt ?_ | refine sq_ex ?_ | refine sq_bk ?_ | refine sq_ct ?_ | refine eq_nx ?_ | refine eq_rt ?_ | refine eq_ex ?_ | refine hq_rt ?_ | refine hq_nx ?_ | refine hq_bk ?_ | refine hq_ct ?_ | refine xq_rt ?_ | refine xq_nx ?_ | refine rd_rt ?_ | refine rd_ex ?_ | refine rd_bk ?_ | refine cq_rt ?_ | refine cq_ex ?_ | refine nw_dec ?_ | refine nw_t ?_ | refine nw_f ?_ | refine nw_b ?_ | refine tw_not ?_ | refine tw_t ?_ | refine tw_f ?_ | refine aw_t ?_ | refine aw_f ?_ | refine ow_t ?_ | refine ow_f ?_ | refine rw_augadd ?_ | refine rw_augsub ?_) | (with_reducible show recvOk _ (.tup _) _ = true ∧ _; refine And.intro rfl ?_) | (with_reducible show recvOk _ (.ref _) _ = true ∧ _; refine And.intro (recv_r (by walk_at "zh")) ?_) | (with_reducible show List.length _ = List.length _ ∧ _; refine And.intro rfl ?_) | (with_reducible show List.length _ ≤ sizeLine ∧ _; with_reducible refine And.intro (le_size (by simp only [List.length_cons, List.length_nil]; omega)) ?_) | (with_reducible show Z.RW (Z.opSetix _ _ _ _) _ _; refine rw_setix (by walk_at "zh") rfl ?_) | (with_reducible show Z.RW (Z.opGet _ _ _) _ _; refine rw_get (by walk_at "zh") rfl ?_)))
local macro_rules | `(tactic| walk_at "z2") => `(tactic| (with_reducible first | refine tw_pos (by walk_at "zs") ?_ | refine tw_neg (by walk_at "zs") ?_ | refine aw_pos (by walk_at "zs") ?_ | refine aw_neg (by walk_at "zs") ?_ | refine ow_pos (by walk_at "zs") ?_ | refine ow_neg (by walk_at "zs") ?_ | refine bw_pos (by walk_at "zs") ?_ | refine bw_neg (by walk_at "zs") ?_))
local macro_rules | `(tactic| walk_at "zz") => `(tactic| (repeat (first | walk_at "z1" | walk_at "z2")))

set_option maxRecDepth 100000
namespace K53
open PySem Z
/-- check_ring: ring -/
abbrev i_check_ring : Nat := 0
def b_check_ring : S := (.seq (.ite (.not (.chain .le .le (.lit (.int 1)) (.var 0) (.lit (.int 48)))) (.raise (Str.ofString "RingError") [] .nil) .skip) (.ret (.var 0)))
def f_check_ring : Fn := ⟨1, 1, b_check_ring⟩
/-- check_chord: ring chord low tone -/
abbrev i_check_chord : Nat := 1
def b_check_chord : S := (.seq (.expr (.call 0 (.cons (.var 0) .nil))) (.seq (.ite (.not (.chain .le .le (.lit (.int 1)) (.prim .len (.cons (.var 1) .nil)) (.lit (.int 8)))) (.raise (Str.ofString "ShapeError") [] .nil) .skip) (.seq (.set (.name 2) (.lit (.int 0))) (.seq (.loop .plain (.cons (.var 1) .nil) (.name 3) (.seq (.ite (.not (.chain .le .lt (.var 2) (.var 3) (.var 0))) (.raise (Str.ofString "ShapeError") [] .nil) .skip) (.set (.name 2) (.var 3)))) (.ret (.var 1))))))
def f_check_chord : Fn := ⟨2, 4, b_check_chord⟩
/-- check_pair: ring x y -/
abbrev i_check_pair : Nat := 2
def b_check_pair : S := (.seq (.expr (.call 1 (.cons (.var 0) (.cons (.var 1) .nil)))) (.seq (.expr (.call 1 (.cons (.var 0) (.cons (.var 2) .nil)))) (.ite (.prim .ne (.cons (.prim .len (.cons (.var 1) .nil)) (.cons (.prim .len (.cons (.var 2) .nil)) .nil))) (.raise (Str.ofString "ShapeError") [] .nil) .skip)))
def f_check_pair : Fn := ⟨3, 3, b_check_pair⟩
/-- straight_sizes: ring x y turns many sizes i place pitch -/
abbrev i_straight_sizes : Nat := 3
def b_straight_sizes : S := (.seq (.set (.name 4) (.prim .len (.cons (.var 1) .nil))) (.seq (.set (.name 5) (.lst .nil)) (.seq (.loop .range1 (.cons (.var 4) .nil) (.name 6) (.seq (.set (.name 7) (.prim .add (.cons (.var 6) (.cons (.var 3) .nil)))) (.seq (.set (.name 8) (.prim .add (.cons (.prim .idx (.cons (.var 2) (.cons (.prim .mod (.cons (.var 7) (.cons (.var 4) .nil))) .nil))) (.cons (.prim .mul (.cons (.var 0) (.cons (.prim .fdiv (.cons (.var 7) (.cons (.var 4) .nil))) .nil))) .nil)))) (.expr (.meth .append (.var 5) (.cons (.prim .abs (.cons (.prim .sub (.cons (.var 8) (.cons (.prim .idx (.cons (.var 1) (.cons (.var 6) .nil))) .nil))) .nil)) .nil)))))) (.ret (.var 5)))))
def f_straight_sizes : Fn := ⟨4, 9, b_straight_sizes⟩
/-- least_ends: costs low least first -/
abbrev i_least_ends : Nat := 4
def b_least_ends : S := (.seq (.set (.name 2) (.prim .minl (.cons (.var 0) .nil))) (.seq (.set (.name 3) (.prim .add (.cons (.var 1) (.cons (.meth .index (.var 0) (.cons (.var 2) .nil)) .nil)))) (.ret (.tup (.cons (.var 3) (.cons (.prim .sub (.cons (.prim .add (.cons (.var 3) (.cons (.meth .count (.var 0) (.cons (.var 2) .nil)) .nil))) (.cons (.lit (.int 1)) .nil))) .nil))))))
def f_least_ends : Fn := ⟨2, 4, b_least_ends⟩
/-- hinge_cost: sizes t size -/
abbrev i_hinge_cost : Nat := 5
def b_hinge_cost : S := (.ret (.prim .suml (.cons (.comp [2] .plain (.cons (.var 0) .nil) (.name 2) (.lit (.bl true)) (.prim .max2 (.cons (.lit (.int 0)) (.cons (.prim .add (.cons (.prim .sub (.cons (.var 2) (.cons (.var 1) .nil))) (.cons (.lit (.int 1)) .nil))) .nil)))) .nil)))
def f_hinge_cost : Fn := ⟨2, 3, b_hinge_cost⟩
/-- hinge_spans: ring x y many table spans t costs turns sizes -/
abbrev i_hinge_spans : Nat := 6
def b_hinge_spans : S := (.seq (.set (.name 3) (.prim .len (.cons (.var 1) .nil))) (.seq (.set (.name 4) (.comp [8] .range2 (.cons (.prim .neg (.cons (.var 3) .nil)) (.cons (.prim .add (.cons (.var 3) (.cons (.lit (.int 1)) .nil))) .nil)) (.name 8) (.lit (.bl true)) (.call 3 (.cons (.var 0) (.cons (.var 1) (.cons (.var 2) (.cons (.var 8) .nil))))))) (.seq (.set (.name 5) (.lst .nil)) (.seq (.loop .range2 (.cons (.lit (.int 1)) (.cons (.prim .add (.cons (.prim .fdiv (.cons (.var 0) (.cons (.lit (.int 2)) .nil))) (.cons (.lit (.int 2)) .nil))) .nil)) (.name 6) (.seq (.set (.name 7) (.comp [9] .plain (.cons (.var 4) .nil) (.name 9) (.lit (.bl true)) (.call 5 (.cons (.var 9) (.cons (.var 6) .nil))))) (.expr (.meth .append (.var 5) (.cons (.call 4 (.cons (.var 7) (.cons (.prim .neg (.cons (.var 3) .nil)) .nil))) .nil))))) (.ret (.var 5))))))
def f_hinge_spans : Fn := ⟨3, 10, b_hinge_spans⟩
/-- every_span: ring x y spans low high span -/
abbrev i_every_span : Nat := 7
def b_every_span : S := (.seq (.expr (.call 2 (.cons (.var 0) (.cons (.var 1) (.cons (.var 2) .nil))))) (.seq (.set (.name 3) (.call 6 (.cons (.var 0) (.cons (.var 1) (.cons (.var 2) .nil))))) (.seq (.set (.name 4) (.prim .maxl (.cons (.comp [6] .plain (.cons (.var 3) .nil) (.name 6) (.lit (.bl true)) (.prim .idx (.cons (.var 6) (.cons (.lit (.int 0)) .nil)))) .nil))) (.seq (.set (.name 5) (.prim .minl (.cons (.comp [6] .plain (.cons (.var 3) .nil) (.name 6) (.lit (.bl true)) (.prim .idx (.cons (.var 6) (.cons (.lit (.int 1)) .nil)))) .nil))) (.seq (.ite (.prim .gt (.cons (.var 4) (.cons (.var 5) .nil))) (.ret (.lit .non)) .skip) (.ret (.tup (.cons (.var 4) (.cons (.var 5) .nil)))))))))
def f_every_span : Fn := ⟨3, 7, b_every_span⟩
/-- find_quarrel: ring x y spans lows highs low high span -/
abbrev i_find_quarrel : Nat := 8
def b_find_quarrel : S := (.seq (.expr (.call 2 (.cons (.var 0) (.cons (.var 1) (.cons (.var 2) .nil))))) (.seq (.set (.name 3) (.call 6 (.cons (.var 0) (.cons (.var 1) (.cons (.var 2) .nil))))) (.seq (.set (.name 4) (.comp [8] .plain (.cons (.var 3) .nil) (.name 8) (.lit (.bl true)) (.prim .idx (.cons (.var 8) (.cons (.lit (.int 0)) .nil))))) (.seq (.set (.name 5) (.comp [8] .plain (.cons (.var 3) .nil) (.name 8) (.lit (.bl true)) (.prim .idx (.cons (.var 8) (.cons (.lit (.int 1)) .nil))))) (.seq (.set (.name 6) (.prim .maxl (.cons (.var 4) .nil))) (.seq (.set (.name 7) (.prim .minl (.cons (.var 5) .nil))) (.seq (.ite (.prim .le (.cons (.var 6) (.cons (.var 7) .nil))) (.ret (.lit .non)) .skip) (.ret (.tup (.cons (.prim .add (.cons (.meth .index (.var 5) (.cons (.var 7) .nil)) (.cons (.lit (.int 1)) .nil))) (.cons (.prim .add (.cons (.meth .index (.var 4) (.cons (.var 6) .nil)) (.cons (.lit (.int 1)) .nil))) (.cons (.var 7) .nil))))))))))))
def f_find_quarrel : Fn := ⟨3, 9, b_find_quarrel⟩
/-- is_quarrel: ring x y t s a here above -/
abbrev i_is_quarrel : Nat := 9
def b_is_quarrel : S := (.seq (.expr (.call 2 (.cons (.var 0) (.cons (.var 1) (.cons (.var 2) .nil))))) (.seq (.ite (.or (.prim .lt (.cons (.var 3) (.cons (.lit (.int 1)) .nil))) (.prim .gt (.cons (.var 3) (.cons (.lit (.int 999)) .nil)))) (.raise (Str.ofString "EffortError") [(Str.ofString "at")] (.cons (.lit (.int 0)) .nil)) .skip) (.seq (.ite (.or (.prim .lt (.cons (.var 4) (.cons (.lit (.int 1)) .nil))) (.prim .gt (.cons (.var 4) (.cons (.lit (.int 999)) .nil)))) (.raise (Str.ofString "EffortError") [(Str.ofString "at")] (.cons (.lit (.int 0)) .nil)) .skip) (.seq (.set (.name 6) (.call 3 (.cons (.var 0) (.cons (.var 1) (.cons (.var 2) (.cons (.var 5) .nil)))))) (.seq (.set (.name 7) (.call 3 (.cons (.var 0) (.cons (.var 1) (.cons (.var 2) (.cons (.prim .add (.cons (.var 5) (.cons (.lit (.int 1)) .nil))) .nil)))))) (.seq (.ite (.prim .ge (.cons (.call 5 (.cons (.var 6) (.cons (.var 3) .nil))) (.cons (.call 5 (.cons (.var 7) (.cons (.var 3) .nil))) .nil))) (.ret (.lit (.bl false))) .skip) (.ret (.prim .gt (.cons (.call 5 (.cons (.var 6) (.cons (.var 4) .nil))) (.cons (.call 5 (.cons (.var 7) (.cons (.var 4) .nil))) .nil))))))))))
def f_is_quarrel : Fn := ⟨6, 8, b_is_quarrel⟩
/-- _law_store: script cell -/
abbrev i_law_store : Nat := 10
def b_law_store : S := (.ret (.lst (.cons (.comp [1] .plain (.cons (.prim .slice (.cons (.var 0) (.cons (.lit .non) (.cons (.prim .part (.cons (.lit (.int 63)) .nil)) .nil)))) .nil) (.name 1) (.lit (.bl true)) (.prim .int (.cons (.var 1) .nil))) (.cons (.lit (.int 0)) (.cons (.lit (.int 0)) (.cons (.lit (.int 0)) (.cons (.lit (.int 1)) .nil)))))))
def f_law_store : Fn := ⟨1, 2, b_law_store⟩
/-- _law_take: store many half cell drawn -/
abbrev i_law_take : Nat := 11
def b_law_take : S := (.seq (.ite (.prim .lt (.cons (.var 1) (.cons (.lit (.int 2)) .nil))) (.ret (.lit (.int 0))) .skip) (.seq (.ite (.and (.prim .eq (.cons (.prim .idx (.cons (.var 0) (.cons (.lit (.int 2)) .nil))) (.cons (.lit (.int 0)) .nil))) (.and (.prim .eq (.cons (.prim .idx (.cons (.var 0) (.cons (.lit (.int 3)) .nil))) (.cons (.lit (.int 0)) .nil))) (.prim .lt (.cons (.prim .idx (.cons (.var 0) (.cons (.lit (.int 1)) .nil))) (.cons (.prim .len (.cons (.prim .idx (.cons (.var 0) (.cons (.lit (.int 0)) .nil))) .nil)) .nil))))) (.seq (.set (.name 3) (.prim .int (.cons (.prim .idx (.cons (.prim .idx (.cons (.var 0) (.cons (.lit (.int 0)) .nil))) (.cons (.prim .idx (.cons (.var 0) (.cons (.lit (.int 1)) .nil))) .nil))) .nil))) (.seq (.augix .add (.var 0) (.lit (.int 1)) (.lit (.int 1))) (.seq (.setix (.var 0) (.lit (.int 4)) (.prim .mod (.cons (.prim .int (.cons (.prim .mul (.cons (.prim .add (.cons (.prim .add (.cons (.prim .idx (.cons (.var 0) (.cons (.lit (.int 4)) .nil))) (.cons (.prim .mul (.cons (.lit (.int 2)) (.cons (.var 3) .nil))) .nil))) (.cons (.lit (.int 1)) .nil))) (.cons (.lit (.int 6364136223846793005)) .nil))) .nil)) (.cons (.lit (.int 18446744073709551616)) .nil)))) (.ite (.prim .ge (.cons (.prim .abs (.cons (.var 3) .nil)) (.cons (.prim .pow (.cons (.lit (.int 10)) (.cons (.lit (.int 18)) .nil))) .nil))) (.setix (.var 0) (.lit (.int 2)) (.prim .abs (.cons (.var 3) .nil))) (.setix (.var 0) (.lit (.int 3)) (.lit (.int 3))))))) .skip) (.seq (.ite (.prim .gt (.cons (.prim .idx (.cons (.var 0) (.cons (.lit (.int 2)) .nil))) (.cons (.lit (.int 0)) .nil))) (.seq (.set (.name 4) (.prim .mod (.cons (.prim .int (.cons (.prim .idx (.cons (.var 0) (.cons (.lit (.int 2)) .nil))) .nil)) (.cons (.var 1) .nil)))) (.seq (.setix (.var 0) (.lit (.int 2)) (.prim .fdiv (.cons (.prim .int (.cons (.prim .idx (.cons (.var 0) (.cons (.lit (.int 2)) .nil))) .nil)) (.cons (.var 1) .nil)))) (.ret (.var 4)))) .skip) (.seq (.setix (.var 0) (.lit (.int 3)) (.prim .max2 (.cons (.lit (.int 0)) (.cons (.prim .sub (.cons (.prim .idx (.cons (.var 0) (.cons (.lit (.int 3)) .nil))) (.cons (.lit (.int 1)) .nil))) .nil)))) (.seq (.setix (.var 0) (.lit (.int 4)) (.prim .mod (.cons (.prim .int (.cons (.prim .add (.cons (.prim .mul (.cons (.prim .idx (.cons (.var 0) (.cons (.lit (.int 4)) .nil))) (.cons (.lit (.int 6364136223846793005)) .nil))) (.cons (.lit (.int 1442695040888963407)) .nil))) .nil)) (.cons (.lit (.int 18446744073709551616)) .nil)))) (.seq (.set (.name 2) (.prim .fdiv (.cons (.prim .int (.cons (.prim .idx (.cons (.var 0) (.cons (.lit (.int 4)) .nil))) .nil)) (.cons (.lit (.int 4294967296)) .nil)))) (.ret (.prim .mod (.cons (.prim .int (.cons (.prim .fdiv (.cons (.prim .add (.cons (.prim .mul (.cons (.var 2) (.cons (.var 2) .nil))) (.cons (.prim .idx (.cons (.var 0) (.cons (.lit (.int 4)) .nil))) .nil))) (.cons (.lit (.int 131072)) .nil))) .nil)) (.cons (.var 1) .nil))))))))))
def f_law_take : Fn := ⟨2, 5, b_law_take⟩
/-- _law_odds: store part whole -/
abbrev i_law_odds : Nat := 12
def b_law_odds : S := (.ret (.prim .lt (.cons (.call 11 (.cons (.var 0) (.cons (.var 2) .nil))) (.cons (.var 1) .nil))))
def f_law_odds : Fn := ⟨3, 3, b_law_odds⟩
/-- _law_span: store least greatest -/
abbrev i_law_span : Nat := 13
def b_law_span : S := (.ret (.prim .add (.cons (.var 1) (.cons (.call 11 (.cons (.var 0) (.cons (.prim .add (.cons (.prim .sub (.cons (.var 2) (.cons (.var 1) .nil))) (.cons (.lit (.int 1)) .nil))) .nil))) .nil))))
def f_law_span : Fn := ⟨3, 3, b_law_span⟩
/-- _law_near: store least greatest kind -/
abbrev i_law_near : Nat := 14
def b_law_near : S := (.seq (.ite (.prim .le (.cons (.var 2) (.cons (.var 1) .nil))) (.ret (.var 1)) .skip) (.seq (.set (.name 3) (.call 11 (.cons (.var 0) (.cons (.lit (.int 9)) .nil)))) (.seq (.ite (.prim .eq (.cons (.var 3) (.cons (.lit (.int 0)) .nil))) (.ret (.var 1)) .skip) (.seq (.ite (.prim .eq (.cons (.var 3) (.cons (.lit (.int 1)) .nil))) (.ret (.var 2)) .skip) (.seq (.ite (.prim .eq (.cons (.var 3) (.cons (.lit (.int 2)) .nil))) (.ret (.prim .add (.cons (.var 1) (.cons (.lit (.int 1)) .nil)))) .skip) (.seq (.ite (.prim .eq (.cons (.var 3) (.cons (.lit (.int 3)) .nil))) (.ret (.prim .sub (.cons (.var 2) (.cons (.lit (.int 1)) .nil)))) .skip) (.ret (.call 13 (.cons (.var 0) (.cons (.var 1) (.cons (.var 2) .nil)))))))))))
def f_law_near : Fn := ⟨3, 4, b_law_near⟩
/-- _law_pick: store things -/
abbrev i_law_pick : Nat := 15
def b_law_pick : S := (.ret (.prim .idx (.cons (.var 1) (.cons (.call 11 (.cons (.var 0) (.cons (.prim .len (.cons (.var 1) .nil)) .nil))) .nil))))
def f_law_pick : Fn := ⟨2, 2, b_law_pick⟩
/-- _law_whole: store kind number k -/
abbrev i_law_whole : Nat := 16
def b_law_whole : S := (.seq (.set (.name 1) (.call 11 (.cons (.var 0) (.cons (.lit (.int 4)) .nil)))) (.seq (.set (.name 2) (.lit (.int 0))) (.seq (.ite (.prim .eq (.cons (.var 1) (.cons (.lit (.int 0)) .nil))) (.set (.name 2) (.call 11 (.cons (.var 0) (.cons (.lit (.int 4)) .nil)))) .skip) (.seq (.ite (.prim .eq (.cons (.var 1) (.cons (.lit (.int 1)) .nil))) (.set (.name 2) (.call 11 (.cons (.var 0) (.cons (.lit (.int 2000)) .nil)))) .skip) (.seq (.ite (.prim .eq (.cons (.var 1) (.cons (.lit (.int 2)) .nil))) (.set (.name 2) (.prim .sub (.cons (.prim .sub (.cons (.prim .pow (.cons (.lit (.int 10)) (.cons (.lit (.int 30)) .nil))) (.cons (.lit (.int 1)) .nil))) (.cons (.call 11 (.cons (.var 0) (.cons (.lit (.int 3)) .nil))) .nil)))) .skip) (.seq (.ite (.prim .eq (.cons (.var 1) (.cons (.lit (.int 3)) .nil))) (.loop .range1 (.cons (.lit (.int 5)) .nil) (.name 3) (.set (.name 2) (.prim .add (.cons (.prim .mul (.cons (.var 2) (.cons (.lit (.int 1000000)) .nil))) (.cons (.call 11 (.cons (.var 0) (.cons (.lit (.int 1000000)) .nil))) .nil))))) .skip) (.seq (.ite (.call 12 (.cons (.var 0) (.cons (.lit (.int 1)) (.cons (.lit (.int 2)) .nil)))) (.ret (.prim .neg (.cons (.var 2) .nil))) .skip) (.ret (.var 2)))))))))
def f_law_whole : Fn := ⟨1, 4, b_law_whole⟩
/-- _law_is_whole: x -/
abbrev i_law_is_whole : Nat := 17
def b_law_is_whole : S := (.ret (.and (.prim .isint (.cons (.var 0) .nil)) (.not (.prim .isbool (.cons (.var 0) .nil)))))
def f_law_is_whole : Fn := ⟨1, 1, b_law_is_whole⟩
/-- _law_same: told due k -/
abbrev i_law_same : Nat := 18
def b_law_same : S := (.seq (.ite (.prim .is (.cons (.var 1) (.cons (.lit .non) .nil))) (.ret (.prim .is (.cons (.var 0) (.cons (.lit .non) .nil)))) .skip) (.seq (.ite (.prim .is (.cons (.var 1) (.cons (.lit (.bl true)) .nil))) (.ret (.prim .is (.cons (.var 0) (.cons (.lit (.bl true)) .nil)))) .skip) (.seq (.ite (.prim .is (.cons (.var 1) (.cons (.lit (.bl false)) .nil))) (.ret (.prim .is (.cons (.var 0) (.cons (.lit (.bl false)) .nil)))) .skip) (.seq (.ite (.prim .isint (.cons (.var 1) .nil)) (.ret (.and (.call 17 (.cons (.var 0) .nil)) (.prim .eq (.cons (.var 0) (.cons (.var 1) .nil))))) .skip) (.seq (.ite (.prim .isstr (.cons (.var 1) .nil)) (.ret (.and (.prim .isstr (.cons (.var 0) .nil)) (.prim .eq (.cons (.var 0) (.cons (.var 1) .nil))))) .skip) (.seq (.ite (.or (.prim .ne (.cons (.prim .islist (.cons (.var 1) .nil)) (.cons (.prim .islist (.cons (.var 0) .nil)) .nil))) (.prim .ne (.cons (.prim .istup (.cons (.var 1) .nil)) (.cons (.prim .istup (.cons (.var 0) .nil)) .nil)))) (.ret (.lit (.bl false))) .skip) (.seq (.ite (.or (.not (.prim .isseq (.cons (.var 1) .nil))) (.prim .ne (.cons (.prim .len (.cons (.var 0) .nil)) (.cons (.prim .len (.cons (.var 1) .nil)) .nil)))) (.ret (.lit (.bl false))) .skip) (.seq (.loop .range1 (.cons (.prim .len (.cons (.var 1) .nil)) .nil) (.name 2) (.ite (.not (.call 18 (.cons (.prim .idx (.cons (.var 0) (.cons (.var 2) .nil))) (.cons (.prim .idx (.cons (.var 1) (.cons (.var 2) .nil))) .nil)))) (.ret (.lit (.bl false))) .skip)) (.ret (.lit (.bl true)))))))))))
def f_law_same : Fn := ⟨2, 3, b_law_same⟩
/-- _law_chord: store ring many kind tones k -/
abbrev i_law_chord : Nat := 19
def b_law_chord : S := (.seq (.set (.name 3) (.call 11 (.cons (.var 0) (.cons (.lit (.int 6)) .nil)))) (.seq (.set (.name 4) (.lst .nil)) (.seq (.loop .range1 (.cons (.var 2) .nil) (.name 5) (.ite (.and (.prim .eq (.cons (.var 3) (.cons (.lit (.int 0)) .nil))) (.prim .gt (.cons (.var 5) (.cons (.lit (.int 0)) .nil)))) (.expr (.meth .append (.var 4) (.cons (.prim .idx (.cons (.var 4) (.cons (.lit (.int 0)) .nil))) .nil))) (.ite (.prim .eq (.cons (.var 3) (.cons (.lit (.int 1)) .nil))) (.expr (.meth .append (.var 4) (.cons (.prim .mul (.cons (.prim .sub (.cons (.var 1) (.cons (.lit (.int 1)) .nil))) (.cons (.call 11 (.cons (.var 0) (.cons (.lit (.int 2)) .nil))) .nil))) .nil))) (.ite (.prim .eq (.cons (.var 3) (.cons (.lit (.int 2)) .nil))) (.expr (.meth .append (.var 4) (.cons (.prim .mod (.cons (.prim .int (.cons (.prim .add (.cons (.prim .fdiv (.cons (.prim .mul (.cons (.var 5) (.cons (.var 1) .nil))) (.cons (.var 2) .nil))) (.cons (.call 11 (.cons (.var 0) (.cons (.lit (.int 2)) .nil))) .nil))) .nil)) (.cons (.var 1) .nil))) .nil))) (.expr (.meth .append (.var 4) (.cons (.call 11 (.cons (.var 0) (.cons (.var 1) .nil))) .nil))))))) (.ret (.prim .tuple (.cons (.prim .sorted (.cons (.var 4) .nil)) .nil))))))
def f_law_chord : Fn := ⟨3, 6, b_law_chord⟩
/-- _law_next_chord: store ring chord kind by tones at tone -/
abbrev i_law_next_chord : Nat := 20
def b_law_next_chord : S := (.seq (.set (.name 3) (.call 11 (.cons (.var 0) (.cons (.lit (.int 6)) .nil)))) (.seq (.ite (.prim .eq (.cons (.var 3) (.cons (.lit (.int 0)) .nil))) (.ret (.var 2)) .skip) (.seq (.ite (.prim .eq (.cons (.var 3) (.cons (.lit (.int 1)) .nil))) (.seq (.set (.name 4) (.call 11 (.cons (.var 0) (.cons (.var 1) .nil)))) (.ret (.prim .tuple (.cons (.prim .sorted (.cons (.comp [7] .plain (.cons (.var 2) .nil) (.name 7) (.lit (.bl true)) (.prim .mod (.cons (.prim .int (.cons (.prim .add (.cons (.var 7) (.cons (.var 4) .nil))) .nil)) (.cons (.var 1) .nil)))) .nil)) .nil)))) .skip) (.seq (.ite (.prim .eq (.cons (.var 3) (.cons (.lit (.int 2)) .nil))) (.seq (.set (.name 5) (.prim .list (.cons (.var 2) .nil))) (.seq (.set (.name 6) (.call 11 (.cons (.var 0) (.cons (.prim .len (.cons (.var 5) .nil)) .nil)))) (.seq (.setix (.var 5) (.var 6) (.prim .mod (.cons (.prim .int (.cons (.prim .sub (.cons (.prim .add (.cons (.prim .idx (.cons (.var 5) (.cons (.var 6) .nil))) (.cons (.lit (.int 1)) .nil))) (.cons (.prim .mul (.cons (.lit (.int 2)) (.cons (.call 11 (.cons (.var 0) (.cons (.lit (.int 2)) .nil))) .nil))) .nil))) .nil)) (.cons (.var 1) .nil)))) (.ret (.prim .tuple (.cons (.prim .sorted (.cons (.var 5) .nil)) .nil)))))) .skip) (.seq (.ite (.prim .eq (.cons (.var 3) (.cons (.lit (.int 3)) .nil))) (.ret (.prim .tuple (.cons (.prim .sorted (.cons (.comp [7] .plain (.cons (.var 2) .nil) (.name 7) (.lit (.bl true)) (.prim .mod (.cons (.prim .int (.cons (.prim .sub (.cons (.prim .add (.cons (.var 7) (.cons (.call 11 (.cons (.var 0) (.cons (.lit (.int 3)) .nil))) .nil))) (.cons (.lit (.int 1)) .nil))) .nil)) (.cons (.var 1) .nil)))) .nil)) .nil))) .skip) (.ret (.call 19 (.cons (.var 0) (.cons (.var 1) (.cons (.prim .len (.cons (.var 2) .nil)) .nil))))))))))
def f_law_next_chord : Fn := ⟨3, 8, b_law_next_chord⟩
/-- _law_bad_chord: store ring many kind tones rises k at held -/
abbrev i_law_bad_chord : Nat := 21
def b_law_bad_chord : S := (.seq (.set (.name 3) (.call 11 (.cons (.var 0) (.cons (.lit (.int 7)) .nil)))) (.seq (.ite (.prim .eq (.cons (.var 3) (.cons (.lit (.int 0)) .nil))) (.ret (.tup .nil)) .skip) (.seq (.ite (.prim .eq (.cons (.var 3) (.cons (.lit (.int 1)) .nil))) (.ret (.prim .add (.cons (.call 19 (.cons (.var 0) (.cons (.var 1) (.cons (.lit (.int 8)) .nil)))) (.cons (.tup (.cons (.prim .sub (.cons (.var 1) (.cons (.lit (.int 1)) .nil))) .nil)) .nil)))) .skip) (.seq (.set (.name 4) (.prim .list (.cons (.call 19 (.cons (.var 0) (.cons (.var 1) (.cons (.var 2) .nil)))) .nil))) (.seq (.set (.name 5) (.comp [6] .range1 (.cons (.prim .sub (.cons (.var 2) (.cons (.lit (.int 1)) .nil))) .nil) (.name 6) (.prim .lt (.cons (.prim .idx (.cons (.var 4) (.cons (.var 6) .nil))) (.cons (.prim .idx (.cons (.var 4) (.cons (.prim .add (.cons (.var 6) (.cons (.lit (.int 1)) .nil))) .nil))) .nil))) (.var 6))) (.seq (.ite (.prim .eq (.cons (.var 3) (.cons (.lit (.int 2)) .nil))) (.setix (.var 4) (.lit (.int 0)) (.prim .sub (.cons (.prim .neg (.cons (.lit (.int 1)) .nil)) (.cons (.call 11 (.cons (.var 0) (.cons (.lit (.int 3)) .nil))) .nil)))) (.ite (.or (.prim .eq (.cons (.var 3) (.cons (.lit (.int 3)) .nil))) (.prim .eq (.cons (.prim .len (.cons (.var 5) .nil)) (.cons (.lit (.int 0)) .nil)))) (.setix (.var 4) (.prim .sub (.cons (.var 2) (.cons (.lit (.int 1)) .nil))) (.prim .add (.cons (.var 1) (.cons (.call 11 (.cons (.var 0) (.cons (.lit (.int 3)) .nil))) .nil)))) (.seq (.set (.name 7) (.call 15 (.cons (.var 0) (.cons (.var 5) .nil)))) (.seq (.set (.name 8) (.prim .idx (.cons (.var 4) (.cons (.var 7) .nil)))) (.seq (.setix (.var 4) (.var 7) (.prim .idx (.cons (.var 4) (.cons (.prim .add (.cons (.var 7) (.cons (.lit (.int 1)) .nil))) .nil)))) (.setix (.var 4) (.prim .add (.cons (.var 7) (.cons (.lit (.int 1)) .nil))) (.var 8))))))) (.ret (.prim .tuple (.cons (.var 4) .nil)))))))))
def f_law_bad_chord : Fn := ⟨3, 9, b_law_bad_chord⟩
/-- _law_pitch: ring chord place many -/
abbrev i_law_pitch : Nat := 22
def b_law_pitch : S := (.seq (.set (.name 3) (.prim .len (.cons (.var 1) .nil))) (.ret (.prim .add (.cons (.prim .idx (.cons (.var 1) (.cons (.prim .mod (.cons (.prim .int (.cons (.var 2) .nil)) (.cons (.var 3) .nil))) .nil))) (.cons (.prim .mul (.cons (.var 0) (.cons (.prim .fdiv (.cons (.prim .int (.cons (.var 2) .nil)) (.cons (.var 3) .nil))) .nil))) .nil)))))
def f_law_pitch : Fn := ⟨3, 4, b_law_pitch⟩
/-- _law_tops: sizes tops total size -/
abbrev i_law_tops : Nat := 23
def b_law_tops : S := (.seq (.set (.name 1) (.lst .nil)) (.seq (.set (.name 2) (.lit (.int 0))) (.seq (.loop .rev (.cons (.prim .sorted (.cons (.var 0) .nil)) .nil) (.name 3) (.seq (.set (.name 2) (.prim .add (.cons (.var 2) (.cons (.var 3) .nil)))) (.expr (.meth .append (.var 1) (.cons (.var 2) .nil))))) (.ret (.var 1)))))
def f_law_tops : Fn := ⟨1, 4, b_law_tops⟩
/-- _law_hinge: sizes t size -/
abbrev i_law_hinge : Nat := 24
def b_law_hinge : S := (.ret (.prim .suml (.cons (.comp [2] .plain (.cons (.var 0) .nil) (.name 2) (.lit (.bl true)) (.prim .max2 (.cons (.lit (.int 0)) (.cons (.prim .add (.cons (.prim .sub (.cons (.var 2) (.cons (.var 1) .nil))) (.cons (.lit (.int 1)) .nil))) .nil)))) .nil)))
def f_law_hinge : Fn := ⟨2, 3, b_law_hinge⟩
/-- _law_straight_sizes: ring x y turns k -/
abbrev i_law_straight_sizes : Nat := 25
def b_law_straight_sizes : S := (.ret (.comp [4] .range1 (.cons (.prim .len (.cons (.var 1) .nil)) .nil) (.name 4) (.lit (.bl true)) (.prim .abs (.cons (.prim .sub (.cons (.call 22 (.cons (.var 0) (.cons (.var 2) (.cons (.prim .add (.cons (.var 4) (.cons (.var 3) .nil))) .nil)))) (.cons (.prim .idx (.cons (.var 1) (.cons (.var 4) .nil))) .nil))) .nil))))
def f_law_straight_sizes : Fn := ⟨4, 5, b_law_straight_sizes⟩
/-- _law_every: ring x y many rows least found k row -/
abbrev i_law_every : Nat := 26
def b_law_every : S := (.seq (.set (.name 3) (.prim .len (.cons (.var 1) .nil))) (.seq (.set (.name 4) (.comp [7] .range1 (.cons (.prim .add (.cons (.prim .mul (.cons (.lit (.int 2)) (.cons (.var 3) .nil))) (.cons (.lit (.int 1)) .nil))) .nil) (.name 7) (.lit (.bl true)) (.call 23 (.cons (.call 25 (.cons (.var 0) (.cons (.var 1) (.cons (.var 2) (.cons (.prim .sub (.cons (.var 7) (.cons (.var 3) .nil))) .nil))))) .nil)))) (.seq (.set (.name 5) (.comp [7] .range1 (.cons (.var 3) .nil) (.name 7) (.lit (.bl true)) (.prim .minl (.cons (.comp [8] .plain (.cons (.var 4) .nil) (.name 8) (.lit (.bl true)) (.prim .idx (.cons (.var 8) (.cons (.var 7) .nil)))) .nil)))) (.seq (.set (.name 6) (.comp [7] .range1 (.cons (.prim .len (.cons (.var 4) .nil)) .nil) (.name 7) (.prim .eq (.cons (.prim .idx (.cons (.var 4) (.cons (.var 7) .nil))) (.cons (.var 5) .nil))) (.prim .sub (.cons (.var 7) (.cons (.var 3) .nil))))) (.seq (.ite (.prim .eq (.cons (.prim .len (.cons (.var 6) .nil)) (.cons (.lit (.int 0)) .nil))) (.ret (.lit .non)) .skip) (.ret (.tup (.cons (.prim .idx (.cons (.var 6) (.cons (.lit (.int 0)) .nil))) (.cons (.prim .idx (.cons (.var 6) (.cons (.prim .sub (.cons (.prim .len (.cons (.var 6) .nil)) (.cons (.lit (.int 1)) .nil))) .nil))) .nil)))))))))
def f_law_every : Fn := ⟨3, 9, b_law_every⟩
/-- _law_hinge_spans: ring x y many rows spans t sums least found k sizes -/
abbrev i_law_hinge_spans : Nat := 27
def b_law_hinge_spans : S := (.seq (.set (.name 3) (.prim .len (.cons (.var 1) .nil))) (.seq (.set (.name 4) (.comp [10] .range1 (.cons (.prim .add (.cons (.prim .mul (.cons (.lit (.int 2)) (.cons (.var 3) .nil))) (.cons (.lit (.int 1)) .nil))) .nil) (.name 10) (.lit (.bl true)) (.call 25 (.cons (.var 0) (.cons (.var 1) (.cons (.var 2) (.cons (.prim .sub (.cons (.var 10) (.cons (.var 3) .nil))) .nil))))))) (.seq (.set (.name 5) (.lst .nil)) (.seq (.loop .range2 (.cons (.lit (.int 1)) (.cons (.prim .add (.cons (.prim .fdiv (.cons (.var 0) (.cons (.lit (.int 2)) .nil))) (.cons (.lit (.int 2)) .nil))) .nil)) (.name 6) (.seq (.set (.name 7) (.comp [11] .plain (.cons (.var 4) .nil) (.name 11) (.lit (.bl true)) (.call 24 (.cons (.var 11) (.cons (.var 6) .nil))))) (.seq (.set (.name 8) (.prim .minl (.cons (.var 7) .nil))) (.seq (.set (.name 9) (.comp [10] .range1 (.cons (.prim .len (.cons (.var 7) .nil)) .nil) (.name 10) (.prim .eq (.cons (.prim .idx (.cons (.var 7) (.cons (.var 10) .nil))) (.cons (.var 8) .nil))) (.prim .sub (.cons (.var 10) (.cons (.var 3) .nil))))) (.expr (.meth .append (.var 5) (.cons (.tup (.cons (.prim .idx (.cons (.var 9) (.cons (.lit (.int 0)) .nil))) (.cons (.prim .idx (.cons (.var 9) (.cons (.prim .sub (.cons (.prim .len (.cons (.var 9) .nil)) (.cons (.lit (.int 1)) .nil))) .nil))) .nil))) .nil))))))) (.ret (.var 5))))))
def f_law_hinge_spans : Fn := ⟨3, 12, b_law_hinge_spans⟩
/-- _law_hinged: ring x y turns t -/
abbrev i_law_hinged : Nat := 28
def b_law_hinged : S := (.ret (.call 24 (.cons (.call 25 (.cons (.var 0) (.cons (.var 1) (.cons (.var 2) (.cons (.var 3) .nil))))) (.cons (.var 4) .nil))))
def f_law_hinged : Fn := ⟨5, 5, b_law_hinged⟩
/-- _law_world: store -/
abbrev i_law_world : Nat := 29
def b_law_world : S := (.seq (.ite (.call 12 (.cons (.var 0) (.cons (.lit (.int 1)) (.cons (.lit (.int 8)) .nil)))) (.ret (.lst (.cons (.call 14 (.cons (.var 0) (.cons (.lit (.int 1)) (.cons (.lit (.int 48)) .nil)))) (.cons (.call 14 (.cons (.var 0) (.cons (.lit (.int 1)) (.cons (.lit (.int 8)) .nil)))) .nil)))) .skip) (.ret (.lst (.cons (.prim .sub (.cons (.lit (.int 12)) (.cons (.call 11 (.cons (.var 0) (.cons (.lit (.int 12)) .nil))) .nil))) (.cons (.prim .add (.cons (.lit (.int 1)) (.cons (.call 11 (.cons (.var 0) (.cons (.lit (.int 4)) .nil))) .nil))) .nil)))))
def f_law_world : Fn := ⟨1, 1, b_law_world⟩
/-- _law_two_chords: store ring many x kind tones k at -/
abbrev i_law_two_chords : Nat := 30
def b_law_two_chords : S := (.seq (.set (.name 3) (.call 19 (.cons (.var 0) (.cons (.var 1) (.cons (.var 2) .nil))))) (.seq (.set (.name 4) (.call 11 (.cons (.var 0) (.cons (.lit (.int 4)) .nil)))) (.seq (.ite (.prim .eq (.cons (.var 4) (.cons (.lit (.int 0)) .nil))) (.ret (.lst (.cons (.var 3) (.cons (.call 20 (.cons (.var 0) (.cons (.var 1) (.cons (.var 3) .nil)))) .nil)))) .skip) (.seq (.ite (.prim .lt (.cons (.var 4) (.cons (.lit (.int 3)) .nil))) (.seq (.set (.name 5) (.prim .list (.cons (.var 3) .nil))) (.seq (.loop .range1 (.cons (.prim .add (.cons (.lit (.int 1)) (.cons (.call 11 (.cons (.var 0) (.cons (.lit (.int 2)) .nil))) .nil))) .nil) (.name 6) (.seq (.set (.name 7) (.call 11 (.cons (.var 0) (.cons (.var 2) .nil)))) (.setix (.var 5) (.var 7) (.call 11 (.cons (.var 0) (.cons (.var 1) .nil)))))) (.ret (.lst (.cons (.var 3) (.cons (.prim .tuple (.cons (.prim .sorted (.cons (.var 5) .nil)) .nil)) .nil)))))) .skip) (.ret (.lst (.cons (.var 3) (.cons (.call 19 (.cons (.var 0) (.cons (.var 1) (.cons (.var 2) .nil)))) .nil))))))))
def f_law_two_chords : Fn := ⟨3, 8, b_law_two_chords⟩
/-- _law_quarrelling: store ring many pair wanted k -/
abbrev i_law_quarrelling : Nat := 31
def b_law_quarrelling : S := (.seq (.set (.name 3) (.call 30 (.cons (.var 0) (.cons (.var 1) (.cons (.var 2) .nil))))) (.seq (.set (.name 4) (.call 12 (.cons (.var 0) (.cons (.lit (.int 1)) (.cons (.lit (.int 2)) .nil))))) (.seq (.loop .range1 (.cons (.lit (.int 5)) .nil) (.name 5) (.seq (.ite (.or (.not (.var 4)) (.prim .is (.cons (.call 26 (.cons (.var 1) (.cons (.prim .idx (.cons (.var 3) (.cons (.lit (.int 0)) .nil))) (.cons (.prim .idx (.cons (.var 3) (.cons (.lit (.int 1)) .nil))) .nil)))) (.cons (.lit .non) .nil)))) (.ret (.var 3)) .skip) (.set (.name 3) (.call 30 (.cons (.var 0) (.cons (.var 1) (.cons (.var 2) .nil))))))) (.ret (.var 3)))))
def f_law_quarrelling : Fn := ⟨3, 6, b_law_quarrelling⟩
/-- _law_bad_hinge: store -/
abbrev i_law_bad_hinge : Nat := 32
def b_law_bad_hinge : S := (.ret (.call 15 (.cons (.var 0) (.cons (.lst (.cons (.lit (.int 0)) (.cons (.lit (.int 1000)) (.cons (.prim .neg (.cons (.lit (.int 1)) .nil)) (.cons (.lit (.int 1001)) (.cons (.prim .sub (.cons (.prim .pow (.cons (.lit (.int 10)) (.cons (.lit (.int 30)) .nil))) (.cons (.lit (.int 1)) .nil))) (.cons (.prim .sub (.cons (.lit (.int 1)) (.cons (.prim .pow (.cons (.lit (.int 10)) (.cons (.lit (.int 30)) .nil))) .nil))) .nil))))))) .nil))))
def f_law_bad_hinge : Fn := ⟨1, 1, b_law_bad_hinge⟩
/-- _law_bad_pair: store ring x y kind wrong -/
abbrev i_law_bad_pair : Nat := 33
def b_law_bad_pair : S := (.seq (.set (.name 4) (.call 11 (.cons (.var 0) (.cons (.lit (.int 5)) .nil)))) (.seq (.set (.name 5) (.call 15 (.cons (.var 0) (.cons (.lst (.cons (.lit (.int 0)) (.cons (.lit (.int 49)) (.cons (.prim .sub (.cons (.lit (.int 0)) (.cons (.call 11 (.cons (.var 0) (.cons (.lit (.int 50)) .nil))) .nil))) (.cons (.prim .add (.cons (.lit (.int 50)) (.cons (.call 11 (.cons (.var 0) (.cons (.lit (.int 1000)) .nil))) .nil))) (.cons (.prim .sub (.cons (.prim .pow (.cons (.lit (.int 10)) (.cons (.lit (.int 30)) .nil))) (.cons (.lit (.int 1)) .nil))) (.cons (.prim .sub (.cons (.lit (.int 1)) (.cons (.prim .pow (.cons (.lit (.int 10)) (.cons (.lit (.int 30)) .nil))) .nil))) .nil))))))) .nil)))) (.seq (.ite (.prim .eq (.cons (.var 4) (.cons (.lit (.int 0)) .nil))) (.ret (.lst (.cons (.var 5) (.cons (.var 2) (.cons (.var 3) (.cons (.lit (.str (Str.ofString "ring"))) .nil)))))) .skip) (.seq (.ite (.prim .eq (.cons (.var 4) (.cons (.lit (.int 1)) .nil))) (.ret (.lst (.cons (.var 1) (.cons (.call 21 (.cons (.var 0) (.cons (.var 1) (.cons (.prim .len (.cons (.var 2) .nil)) .nil)))) (.cons (.var 3) (.cons (.lit (.str (Str.ofString "shape"))) .nil)))))) .skip) (.seq (.ite (.prim .eq (.cons (.var 4) (.cons (.lit (.int 2)) .nil))) (.ret (.lst (.cons (.var 1) (.cons (.var 2) (.cons (.call 21 (.cons (.var 0) (.cons (.var 1) (.cons (.prim .len (.cons (.var 3) .nil)) .nil)))) (.cons (.lit (.str (Str.ofString "shape"))) .nil)))))) .skip) (.seq (.ite (.prim .eq (.cons (.var 4) (.cons (.lit (.int 3)) .nil))) (.ret (.lst (.cons (.var 1) (.cons (.var 2) (.cons (.call 19 (.cons (.var 0) (.cons (.var 1) (.cons (.prim .add (.cons (.lit (.int 1)) (.cons (.prim .mod (.cons (.prim .add (.cons (.prim .len (.cons (.var 2) .nil)) (.cons (.call 11 (.cons (.var 0) (.cons (.lit (.int 7)) .nil))) .nil))) (.cons (.lit (.int 8)) .nil))) .nil))) .nil)))) (.cons (.lit (.str (Str.ofString "shape"))) .nil)))))) .skip) (.ret (.lst (.cons (.var 5) (.cons (.call 21 (.cons (.var 0) (.cons (.var 1) (.cons (.prim .len (.cons (.var 2) .nil)) .nil)))) (.cons (.var 3) (.cons (.lit (.str (Str.ofString "ring"))) .nil))))))))))))
def f_law_bad_pair : Fn := ⟨4, 6, b_law_bad_pair⟩
/-- _law_refusal: which ring x y t s a e -/
abbrev i_law_refusal : Nat := 34
def b_law_refusal : S := (.seq (.try (.ite (.prim .eq (.cons (.var 0) (.cons (.lit (.int 0)) .nil))) (.expr (.call 7 (.cons (.var 1) (.cons (.var 2) (.cons (.var 3) .nil))))) (.ite (.prim .eq (.cons (.var 0) (.cons (.lit (.int 1)) .nil))) (.expr (.call 8 (.cons (.var 1) (.cons (.var 2) (.cons (.var 3) .nil))))) (.expr (.call 9 (.cons (.var 1) (.cons (.var 2) (.cons (.var 3) (.cons (.var 4) (.cons (.var 5) (.cons (.var 6) .nil)))))))))) (.hcons (Str.ofString "EffortError") (some 7) (.seq (.ite (.xis 7 [(Str.ofString "RingError"), (Str.ofString "ToneError"), (Str.ofString "ShapeError"), (Str.ofString "FigureError"), (Str.ofString "NotBent"), (Str.ofString "LeadError"), (Str.ofString "RangeError"), (Str.ofString "StyleError")]) (.ret (.lit (.str (Str.ofString "other")))) .skip) (.seq (.ite (.xis 7 [(Str.ofString "NoFit"), (Str.ofString "TooMany"), (Str.ofString "WebError"), (Str.ofString "NoWay"), (Str.ofString "PaperError"), (Str.ofString "SheetError"), (Str.ofString "ScriptError")]) (.ret (.lit (.str (Str.ofString "other")))) .skip) (.ret (.prim .idx (.cons (.lst (.cons (.lit (.str (Str.ofString "other"))) (.cons (.lit (.str (Str.ofString "effort"))) .nil))) (.cons (.prim .int (.cons (.call 18 (.cons (.xfld 7 (Str.ofString "at")) (.cons (.lit (.int 0)) .nil))) .nil)) .nil)))))) (.hcons (Str.ofString "ChordError") (some 7) (.seq (.ite (.xis 7 [(Str.ofString "FigureError"), (Str.ofString "NotBent"), (Str.ofString "LeadError"), (Str.ofString "RangeError"), (Str.ofString "NoFit"), (Str.ofString "NoWay"), (Str.ofString "PaperError")]) (.ret (.lit (.str (Str.ofString "other")))) .skip) (.seq (.ite (.xis 7 [(Str.ofString "ToneError"), (Str.ofString "StyleError"), (Str.ofString "TooMany"), (Str.ofString "WebError"), (Str.ofString "SheetError"), (Str.ofString "ScriptError")]) (.ret (.lit (.str (Str.ofString "other")))) .skip) (.seq (.ite (.or (.prim .eq (.cons (.xis 7 [(Str.ofString "RingError")]) (.cons (.xis 7 [(Str.ofString "ShapeError")]) .nil))) (.not (.xis 7 [(Str.ofString "ChordError"), (Str.ofString "RingError"), (Str.ofString "ToneError"), (Str.ofString "ShapeError"), (Str.ofString "FigureError"), (Str.ofString "EffortError"), (Str.ofString "NotBent"), (Str.ofString "LeadError"), (Str.ofString "RangeError"), (Str.ofString "StyleError"), (Str.ofString "NoFit"), (Str.ofString "TooMany"), (Str.ofString "WebError"), (Str.ofString "NoWay"), (Str.ofString "PaperError"), (Str.ofString "SheetError"), (Str.ofString "ScriptError")]))) (.ret (.lit (.str (Str.ofString "other")))) .skip) (.seq (.ite (.xis 7 [(Str.ofString "RingError")]) (.ret (.lit (.str (Str.ofString "ring")))) .skip) (.ret (.lit (.str (Str.ofString "shape")))))))) .hnil))) (.ret (.lit (.str (Str.ofString "none")))))
def f_law_refusal : Fn := ⟨7, 8, b_law_refusal⟩
/-- _law_quarrel: ring x y spans end begin first second span k -/
abbrev i_law_quarrel : Nat := 35
def b_law_quarrel : S := (.seq (.set (.name 3) (.call 27 (.cons (.var 0) (.cons (.var 1) (.cons (.var 2) .nil))))) (.seq (.set (.name 4) (.prim .minl (.cons (.comp [8] .plain (.cons (.var 3) .nil) (.name 8) (.lit (.bl true)) (.prim .idx (.cons (.var 8) (.cons (.lit (.int 1)) .nil)))) .nil))) (.seq (.set (.name 5) (.prim .maxl (.cons (.comp [8] .plain (.cons (.var 3) .nil) (.name 8) (.lit (.bl true)) (.prim .idx (.cons (.var 8) (.cons (.lit (.int 0)) .nil)))) .nil))) (.seq (.ite (.prim .le (.cons (.var 5) (.cons (.var 4) .nil))) (.ret (.lit .non)) .skip) (.seq (.set (.name 6) (.prim .idx (.cons (.comp [9] .range1 (.cons (.prim .len (.cons (.var 3) .nil)) .nil) (.name 9) (.prim .eq (.cons (.prim .idx (.cons (.prim .idx (.cons (.var 3) (.cons (.var 9) .nil))) (.cons (.lit (.int 1)) .nil))) (.cons (.var 4) .nil))) (.prim .add (.cons (.var 9) (.cons (.lit (.int 1)) .nil)))) (.cons (.lit (.int 0)) .nil)))) (.seq (.set (.name 7) (.prim .idx (.cons (.comp [9] .range1 (.cons (.prim .len (.cons (.var 3) .nil)) .nil) (.name 9) (.prim .eq (.cons (.prim .idx (.cons (.prim .idx (.cons (.var 3) (.cons (.var 9) .nil))) (.cons (.lit (.int 0)) .nil))) (.cons (.var 5) .nil))) (.prim .add (.cons (.var 9) (.cons (.lit (.int 1)) .nil)))) (.cons (.lit (.int 0)) .nil)))) (.ret (.tup (.cons (.var 6) (.cons (.var 7) (.cons (.var 4) .nil)))))))))))
def f_law_quarrel : Fn := ⟨3, 10, b_law_quarrel⟩
/-- _law_is_quarrel: ring x y t s a rises -/
abbrev i_law_is_quarrel : Nat := 36
def b_law_is_quarrel : S := (.seq (.set (.name 6) (.prim .lt (.cons (.call 28 (.cons (.var 0) (.cons (.var 1) (.cons (.var 2) (.cons (.var 5) (.cons (.var 3) .nil)))))) (.cons (.call 28 (.cons (.var 0) (.cons (.var 1) (.cons (.var 2) (.cons (.prim .add (.cons (.var 5) (.cons (.lit (.int 1)) .nil))) (.cons (.var 3) .nil)))))) .nil)))) (.ret (.and (.var 6) (.prim .gt (.cons (.call 28 (.cons (.var 0) (.cons (.var 1) (.cons (.var 2) (.cons (.var 5) (.cons (.var 4) .nil)))))) (.cons (.call 28 (.cons (.var 0) (.cons (.var 1) (.cons (.var 2) (.cons (.prim .add (.cons (.var 5) (.cons (.lit (.int 1)) .nil))) (.cons (.var 4) .nil)))))) .nil))))))
def f_law_is_quarrel : Fn := ⟨6, 7, b_law_is_quarrel⟩
/-- _law_pair_holds: ring x y due quarrel t s a -/
abbrev i_law_pair_holds : Nat := 37
def b_law_pair_holds : S := (.seq (.set (.name 3) (.call 26 (.cons (.var 0) (.cons (.var 1) (.cons (.var 2) .nil))))) (.seq (.set (.name 4) (.call 35 (.cons (.var 0) (.cons (.var 1) (.cons (.var 2) .nil))))) (.seq (.ite (.or (.not (.call 18 (.cons (.call 7 (.cons (.var 0) (.cons (.var 1) (.cons (.var 2) .nil)))) (.cons (.var 3) .nil)))) (.not (.call 18 (.cons (.call 8 (.cons (.var 0) (.cons (.var 1) (.cons (.var 2) .nil)))) (.cons (.var 4) .nil))))) (.ret (.lit (.bl false))) .skip) (.seq (.ite (.prim .is (.cons (.var 4) (.cons (.lit .non) .nil))) (.ret (.prim .isnot (.cons (.var 3) (.cons (.lit .non) .nil)))) .skip) (.seq (.set (.tup3 5 6 7) (.var 4)) (.ret (.and (.prim .is (.cons (.var 3) (.cons (.lit .non) .nil))) (.call 36 (.cons (.var 0) (.cons (.var 1) (.cons (.var 2) (.cons (.var 5) (.cons (.var 6) (.cons (.var 7) .nil))))))))))))))
def f_law_pair_holds : Fn := ⟨3, 8, b_law_pair_holds⟩
/-- _law_judged: ring x y rows row t s a -/
abbrev i_law_judged : Nat := 38
def b_law_judged : S := (.seq (.loop .plain (.cons (.var 3) .nil) (.name 4) (.seq (.set (.tup3 5 6 7) (.var 4)) (.ite (.not (.call 18 (.cons (.call 9 (.cons (.var 0) (.cons (.var 1) (.cons (.var 2) (.cons (.var 5) (.cons (.var 6) (.cons (.var 7) .nil))))))) (.cons (.call 36 (.cons (.var 0) (.cons (.var 1) (.cons (.var 2) (.cons (.var 5) (.cons (.var 6) (.cons (.var 7) .nil))))))) .nil)))) (.ret (.lit (.bl false))) .skip))) (.ret (.lit (.bl true))))
def f_law_judged : Fn := ⟨4, 8, b_law_judged⟩
/-- law: script store world ring other quarrel rows wrong hinges which good x y u v t s a bad -/
abbrev i_law : Nat := 39
def b_law : S := (.seq (.set (.name 1) (.call 10 (.cons (.var 0) .nil))) (.seq (.set (.name 2) (.call 29 (.cons (.var 1) .nil))) (.seq (.set (.name 3) (.prim .idx (.cons (.var 2) (.cons (.lit (.int 0)) .nil)))) (.seq (.set (.tup2 11 12) (.prim .unp (.cons (.call 31 (.cons (.var 1) (.cons (.var 3) (.cons (.prim .idx (.cons (.var 2) (.cons (.lit (.int 1)) .nil))) .nil)))) .nil))) (.seq (.set (.name 4) (.call 29 (.cons (.var 1) .nil))) (.seq (.set (.tup2 13 14) (.prim .unp (.cons (.call 30 (.cons (.var 1) (.cons (.prim .idx (.cons (.var 4) (.cons (.lit (.int 0)) .nil))) (.cons (.prim .idx (.cons (.var 4) (.cons (.lit (.int 1)) .nil))) .nil)))) .nil))) (.seq (.ite (.or (.not (.call 37 (.cons (.var 3) (.cons (.var 11) (.cons (.var 12) .nil))))) (.not (.call 37 (.cons (.prim .idx (.cons (.var 4) (.cons (.lit (.int 0)) .nil))) (.cons (.var 13) (.cons (.var 14) .nil)))))) (.ret (.lit (.bl false))) .skip) (.seq (.set (.name 5) (.call 35 (.cons (.var 3) (.cons (.var 11) (.cons (.var 12) .nil))))) (.seq (.ite (.prim .is (.cons (.var 5) (.cons (.lit .non) .nil))) (.set (.name 5) (.tup (.cons (.call 14 (.cons (.var 1) (.cons (.lit (.int 1)) (.cons (.prim .add (.cons (.prim .fdiv (.cons (.var 3) (.cons (.lit (.int 2)) .nil))) (.cons (.lit (.int 1)) .nil))) .nil)))) (.cons (.lit (.int 1)) (.cons (.call 13 (.cons (.var 1) (.cons (.prim .sub (.cons (.prim .sub (.cons (.lit (.int 0)) (.cons (.prim .idx (.cons (.var 2) (.cons (.lit (.int 1)) .nil))) .nil))) (.cons (.lit (.int 1)) .nil))) (.cons (.prim .idx (.cons (.var 2) (.cons (.lit (.int 1)) .nil))) .nil)))) .nil))))) .skip) (.seq (.set (.tup3 15 16 17) (.var 5)) (.seq (.set (.name 6) (.lst (.cons (.tup (.cons (.var 15) (.cons (.var 16) (.cons (.var 17) .nil)))) (.cons (.tup (.cons (.var 16) (.cons (.var 15) (.cons (.var 17) .nil)))) (.cons (.tup (.cons (.var 15) (.cons (.var 15) (.cons (.var 17) .nil)))) (.cons (.tup (.cons (.var 15) (.cons (.var 16) (.cons (.prim .add (.cons (.var 17) (.cons (.lit (.int 1)) .nil))) .nil)))) (.cons (.tup (.cons (.var 15) (.cons (.var 16) (.cons (.prim .sub (.cons (.var 17) (.cons (.lit (.int 1)) .nil))) .nil)))) (.cons (.tup (.cons (.prim .add (.cons (.var 15) (.cons (.lit (.int 1)) .nil))) (.cons (.var 16) (.cons (.var 17) .nil)))) (.cons (.tup (.cons (.var 15) (.cons (.prim .add (.cons (.var 16) (.cons (.lit (.int 1)) .nil))) (.cons (.var 17) .nil)))) (.cons (.tup (.cons (.lit (.int 1)) (.cons (.var 16) (.cons (.var 17) .nil)))) .nil)))))))))) (.seq (.set (.name 6) (.prim .add (.cons (.var 6) (.cons (.lst (.cons (.tup (.cons (.call 14 (.cons (.var 1) (.cons (.lit (.int 1)) (.cons (.lit (.int 999)) .nil)))) (.cons (.call 14 (.cons (.var 1) (.cons (.lit (.int 1)) (.cons (.lit (.int 12)) .nil)))) (.cons (.var 17) .nil)))) (.cons (.tup (.cons (.var 15) (.cons (.var 16) (.cons (.call 16 (.cons (.var 1) .nil)) .nil)))) .nil))) .nil)))) (.seq (.ite (.not (.call 38 (.cons (.var 3) (.cons (.var 11) (.cons (.var 12) (.cons (.var 6) .nil)))))) (.ret (.lit (.bl false))) .skip) (.seq (.set (.name 7) (.call 32 (.cons (.var 1) .nil))) (.seq (.set (.name 8) (.call 15 (.cons (.var 1) (.cons (.lst (.cons (.tup (.cons (.var 7) (.cons (.var 16) .nil))) (.cons (.tup (.cons (.var 15) (.cons (.var 7) .nil))) (.cons (.tup (.cons (.var 7) (.cons (.var 7) .nil))) .nil)))) .nil)))) (.seq (.ite (.prim .ne (.cons (.call 34 (.cons (.lit (.int 2)) (.cons (.var 3) (.cons (.var 11) (.cons (.var 12) (.cons (.prim .idx (.cons (.var 8) (.cons (.lit (.int 0)) .nil))) (.cons (.prim .idx (.cons (.var 8) (.cons (.lit (.int 1)) .nil))) (.cons (.var 17) .nil)))))))) (.cons (.lit (.str (Str.ofString "effort"))) .nil))) (.ret (.lit (.bl false))) .skip) (.seq (.loop .range1 (.cons (.lit (.int 3)) .nil) (.name 9) (.seq (.set (.name 18) (.call 33 (.cons (.var 1) (.cons (.var 3) (.cons (.var 11) (.cons (.var 12) .nil)))))) (.ite (.prim .ne (.cons (.call 34 (.cons (.var 9) (.cons (.prim .idx (.cons (.var 18) (.cons (.lit (.int 0)) .nil))) (.cons (.prim .idx (.cons (.var 18) (.cons (.lit (.int 1)) .nil))) (.cons (.prim .idx (.cons (.var 18) (.cons (.lit (.int 2)) .nil))) (.cons (.var 7) (.cons (.var 16) (.cons (.var 17) .nil)))))))) (.cons (.prim .idx (.cons (.var 18) (.cons (.lit (.int 3)) .nil))) .nil))) (.ret (.lit (.bl false))) .skip))) (.seq (.loop .plain (.cons (.lst (.cons (.lit (.int 1)) (.cons (.lit (.int 999)) .nil))) .nil) (.name 10) (.ite (.prim .ne (.cons (.call 34 (.cons (.lit (.int 2)) (.cons (.var 3) (.cons (.var 11) (.cons (.var 12) (.cons (.var 10) (.cons (.prim .sub (.cons (.lit (.int 1000)) (.cons (.var 10) .nil))) (.cons (.var 17) .nil)))))))) (.cons (.lit (.str (Str.ofString "none"))) .nil))) (.ret (.lit (.bl false))) .skip)) (.ret (.call 37 (.cons (.var 3) (.cons (.var 11) (.cons (.var 12) .nil)))))))))))))))))))))))
def f_law : Fn := ⟨1, 19, b_law⟩
def subs : List (Str × List Str) := [((Str.ofString "ChordError"), [(Str.ofString "ChordError"), (Str.ofString "ValueError"), (Str.ofString "Exception"), (Str.ofString "BaseException")]), ((Str.ofString "RingError"), [(Str.ofString "RingError"), (Str.ofString "ChordError"), (Str.ofString "ValueError"), (Str.ofString "Exception"), (Str.ofString "BaseException")]), ((Str.ofString "ToneError"), [(Str.ofString "ToneError"), (Str.ofString "ChordError"), (Str.ofString "ValueError"), (Str.ofString "Exception"), (Str.ofString "BaseException")]), ((Str.ofString "ShapeError"), [(Str.ofString "ShapeError"), (Str.ofString "ChordError"), (Str.ofString "ValueError"), (Str.ofString "Exception"), (Str.ofString "BaseException")]), ((Str.ofString "FigureError"), [(Str.ofString "FigureError"), (Str.ofString "ChordError"), (Str.ofString "ValueError"), (Str.ofString "Exception"), (Str.ofString "BaseException")]), ((Str.ofString "EffortError"), [(Str.ofString "EffortError"), (Str.ofString "ChordError"), (Str.ofString "ValueError"), (Str.ofString "Exception"), (Str.ofString "BaseException")]), ((Str.ofString "NotBent"), [(Str.ofString "NotBent"), (Str.ofString "ChordError"), (Str.ofString "ValueError"), (Str.ofString "Exception"), (Str.ofString "BaseException")]), ((Str.ofString "LeadError"), [(Str.ofString "LeadError"), (Str.ofString "ChordError"), (Str.ofString "ValueError"), (Str.ofString "Exception"), (Str.ofString "BaseException")]), ((Str.ofString "RangeError"), [(Str.ofString "RangeError"), (Str.ofString "ChordError"), (Str.ofString "ValueError"), (Str.ofString "Exception"), (Str.ofString "BaseException")]), ((Str.ofString "StyleError"), [(Str.ofString "StyleError"), (Str.ofString "ChordError"), (Str.ofString "ValueError"), (Str.ofString "Exception"), (Str.ofString "BaseException")]), ((Str.ofString "NoFit"), [(Str.ofString "NoFit"), (Str.ofString "ChordError"), (Str.ofString "ValueError"), (Str.ofString "Exception"), (Str.ofString "BaseException")]), ((Str.ofString "TooMany"), [(Str.ofString "TooMany"), (Str.ofString "ChordError"), (Str.ofString "ValueError"), (Str.ofString "Exception"), (Str.ofString "BaseException")]), ((Str.ofString "WebError"), [(Str.ofString "WebError"), (Str.ofString "ChordError"), (Str.ofString "ValueError"), (Str.ofString "Exception"), (Str.ofString "BaseException")]), ((Str.ofString "NoWay"), [(Str.ofString "NoWay"), (Str.ofString "ChordError"), (Str.ofString "ValueError"), (Str.ofString "Exception"), (Str.ofString "BaseException")]), ((Str.ofString "PaperError"), [(Str.ofString "PaperError"), (Str.ofString "ChordError"), (Str.ofString "ValueError"), (Str.ofString "Exception"), (Str.ofString "BaseException")]), ((Str.ofString "SheetError"), [(Str.ofString "SheetError"), (Str.ofString "ChordError"), (Str.ofString "ValueError"), (Str.ofString "Exception"), (Str.ofString "BaseException")]), ((Str.ofString "ScriptError"), [(Str.ofString "ScriptError"), (Str.ofString "ChordError"), (Str.ofString "ValueError"), (Str.ofString "Exception"), (Str.ofString "BaseException")])]
def nm : Nm := ⟨[((Str.ofString "check_ring"), 0), ((Str.ofString "check_chord"), 1), ((Str.ofString "check_pair"), 2), ((Str.ofString "straight_sizes"), 3), ((Str.ofString "least_ends"), 4), ((Str.ofString "hinge_cost"), 5), ((Str.ofString "hinge_spans"), 6), ((Str.ofString "every_span"), 7), ((Str.ofString "find_quarrel"), 8), ((Str.ofString "is_quarrel"), 9), ((Str.ofString "_law_store"), 10), ((Str.ofString "_law_take"), 11), ((Str.ofString "_law_odds"), 12), ((Str.ofString "_law_span"), 13), ((Str.ofString "_law_near"), 14), ((Str.ofString "_law_pick"), 15), ((Str.ofString "_law_whole"), 16), ((Str.ofString "_law_is_whole"), 17), ((Str.ofString "_law_same"), 18), ((Str.ofString "_law_chord"), 19), ((Str.ofString "_law_next_chord"), 20), ((Str.ofString "_law_bad_chord"), 21), ((Str.ofString "_law_pitch"), 22), ((Str.ofString "_law_tops"), 23), ((Str.ofString "_law_hinge"), 24), ((Str.ofString "_law_straight_sizes"), 25), ((Str.ofString "_law_every"), 26), ((Str.ofString "_law_hinge_spans"), 27), ((Str.ofString "_law_hinged"), 28), ((Str.ofString "_law_world"), 29), ((Str.ofString "_law_two_chords"), 30), ((Str.ofString "_law_quarrelling"), 31), ((Str.ofString "_law_bad_hinge"), 32), ((Str.ofString "_law_bad_pair"), 33), ((Str.ofString "_law_refusal"), 34), ((Str.ofString "_law_quarrel"), 35), ((Str.ofString "_law_is_quarrel"), 36), ((Str.ofString "_law_pair_holds"), 37), ((Str.ofString "_law_judged"), 38), ((Str.ofString "law"), 39)], [], [((Str.ofString "ChordError"), []), ((Str.ofString "RingError"), []), ((Str.ofString "ToneError"), [(Str.ofString "at")]), ((Str.ofString "ShapeError"), []), ((Str.ofString "FigureError"), [(Str.ofString "at")]), ((Str.ofString "EffortError"), [(Str.ofString "at")]), ((Str.ofString "NotBent"), [(Str.ofString "at")]), ((Str.ofString "LeadError"), []), ((Str.ofString "RangeError"), [(Str.ofString "singer")]), ((Str.ofString "StyleError"), []), ((Str.ofString "NoFit"), [(Str.ofString "bar")]), ((Str.ofString "TooMany"), [(Str.ofString "limit")]), ((Str.ofString "WebError"), []), ((Str.ofString "NoWay"), []), ((Str.ofString "PaperError"), [(Str.ofString "line")]), ((Str.ofString "SheetError"), [(Str.ofString "line"), (Str.ofString "at")]), ((Str.ofString "ScriptError"), [(Str.ofString "line")])], [], [], [], [], [((Str.ofString "_law_is_whole"), 17, false), ((Str.ofString "_law_same"), 18, false)], [((Str.ofString "EffortError"), (Str.ofString "at"))], [(Str.ofString "at")]⟩
def pg : Pg := ⟨[f_check_ring, f_check_chord, f_check_pair, f_straight_sizes, f_least_ends, f_hinge_cost, f_hinge_spans, f_every_span, f_find_quarrel, f_is_quarrel, f_law_store, f_law_take, f_law_odds, f_law_span, f_law_near, f_law_pick, f_law_whole, f_law_is_whole, f_law_same, f_law_chord, f_law_next_chord, f_law_bad_chord, f_law_pitch, f_law_tops, f_law_hinge, f_law_straight_sizes, f_law_every, f_law_hinge_spans, f_law_hinged, f_law_world, f_law_two_chords, f_law_quarrelling, f_law_bad_hinge, f_law_bad_pair, f_law_refusal, f_law_quarrel, f_law_is_quarrel, f_law_pair_holds, f_law_judged, f_law], subs⟩
end K53

set_option Elab.async false
set_option linter.all false
set_option maxRecDepth 100000
set_option maxHeartbeats 4000000
namespace K53
open PySem L2 Z
variable {k : Nat} {h : Hm} {K : D → Hm → Prop} {X : Exn → Hm → Prop} {s : Nat}
abbrev fuel : Nat := 1
abbrev C (k f : Nat) (ds : List D) (h : Hm) (K : D → Hm → Prop) (X : Exn → Hm → Prop) : Prop := RW (callF pg fuel k f ds h) K X
abbrev tupI (ts : List Int) : D := .tup (ts.map .int)
theorem pow18 : (10 : Int) ^ (18 : Int).toNat = 1000000000000000000 := by decide
theorem take_wp {many : Int} (hs : StoreOk h s) (m1 : 1 ≤ many) (m2 : many < 1073741824) (q : ∀ d h', 0 ≤ d → d < many → StoreOk h' s → Fr s h h' → K (.int d) h') : C (k + 1) i_law_take [.ref s, .int many] h K X := by
  obtain ⟨a, ns, i, x, y, z, e, e', na, i0, x0, z0, z1, ln⟩ := hs
  (with_reducible refine rw_in (fn := f_law_take) (b := b_law_take) ?_ ?_ ?_ (ρ := [some (.ref s), some (.int many), none, none, none]) ?_ ?_); rfl; rfl; rfl; rfl; delta b_law_take
  refine sw_seq ?_
  walk_at "zz"
  (with_reducible first | refine tw_dec (fun c => ?_) (fun c => ?_) | refine aw_dec (fun c => ?_) (fun c => ?_) | refine ow_dec (fun c => ?_) (fun c => ?_) | refine bw_dec (fun c => ?_) (fun c => ?_) | refine tw_b (fun c => ?_) (fun c => ?_) | refine aw_b (fun c => ?_) (fun c => ?_) | refine ow_b (fun c => ?_) (fun c => ?_) | refine bw_b (fun c => ?_) (fun c => ?_))
  · walk_at "zz"
    exact q 0 h (Int.le_refl _) (by omega) ⟨a, ns, i, x, y, z, e, e', na, i0, x0, z0, z1, ln⟩ .refl
  refine sw_skip (sq_nx (sw_cut (fun ρ2 h2 => ∃ v j x y z, ρ2 = [some (.ref s), some (.int many), none, v, none] ∧ h2[s]? = some (.lst [.ref a, .int j, .int x, .int y, .int z]) ∧ h2[a]? = some (.lst (ns.map .int)) ∧ 0 ≤ j ∧ 0 ≤ x ∧ 0 ≤ z ∧ z < 18446744073709551616 ∧ Fr s h h2) ?_ ?_))
  · walk_at "zz"
    (with_reducible first | refine tw_dec (fun c1 => ?_) (fun c1 => ?_) | refine aw_dec (fun c1 => ?_) (fun c1 => ?_) | refine ow_dec (fun c1 => ?_) (fun c1 => ?_) | refine bw_dec (fun c1 => ?_) (fun c1 => ?_) | refine tw_b (fun c1 => ?_) (fun c1 => ?_) | refine aw_b (fun c1 => ?_) (fun c1 => ?_) | refine ow_b (fun c1 => ?_) (fun c1 => ?_) | refine bw_b (fun c1 => ?_) (fun c1 => ?_))
    · walk_at "zz"
      (with_reducible first | refine tw_dec (fun c2 => ?_) (fun c2 => ?_) | refine aw_dec (fun c2 => ?_) (fun c2 => ?_) | refine ow_dec (fun c2 => ?_) (fun c2 => ?_) | refine bw_dec (fun c2 => ?_) (fun c2 => ?_) | refine tw_b (fun c2 => ?_) (fun c2 => ?_) | refine aw_b (fun c2 => ?_) (fun c2 => ?_) | refine ow_b (fun c2 => ?_) (fun c2 => ?_) | refine bw_b (fun c2 => ?_) (fun c2 => ?_))
      · walk_at "zz"
        (with_reducible first | refine tw_dec (fun c3 => ?_) (fun c3 => ?_) | refine aw_dec (fun c3 => ?_) (fun c3 => ?_) | refine ow_dec (fun c3 => ?_) (fun c3 => ?_) | refine bw_dec (fun c3 => ?_) (fun c3 => ?_) | refine tw_b (fun c3 => ?_) (fun c3 => ?_) | refine aw_b (fun c3 => ?_) (fun c3 => ?_) | refine ow_b (fun c3 => ?_) (fun c3 => ?_) | refine bw_b (fun c3 => ?_) (fun c3 => ?_))
        · walk_at "zz"
          have il : i.toNat < ns.length := by
            rw [List.length_map] at c3
            omega
          have ea : atD (ns.map .int) i = some (.int (ns[i.toNat]'il)) := by
            have : (ns.map D.int)[i.toNat]? = some (.int (ns[i.toNat]'il)) := by simp [il]
            rw [← this]
            exact atD_pos (by rw [List.length_map]; exact il) i0
          refine pw_idxr e' ea ?_
          generalize (ns[i.toNat]'il) = cell
          walk_at "zz"
          have z2 := Int.emod_nonneg ((z + 2 * cell + 1) * 6364136223846793005) (b := 18446744073709551616) (by decide)
          have z3 := Int.emod_lt_of_pos ((z + 2 * cell + 1) * 6364136223846793005) (b := 18446744073709551616) (by decide)
          (with_reducible first | refine tw_dec (fun c4 => ?_) (fun c4 => ?_) | refine aw_dec (fun c4 => ?_) (fun c4 => ?_) | refine ow_dec (fun c4 => ?_) (fun c4 => ?_) | refine bw_dec (fun c4 => ?_) (fun c4 => ?_) | refine tw_b (fun c4 => ?_) (fun c4 => ?_) | refine aw_b (fun c4 => ?_) (fun c4 => ?_) | refine ow_b (fun c4 => ?_) (fun c4 => ?_) | refine bw_b (fun c4 => ?_) (fun c4 => ?_))
          · walk_at "zz"
            exact cq_nx ⟨_, _, _, _, _, rfl, by walk_at "zh", by walk_at "zh", by omega, by split <;> omega, z2, z3, .trans .set (.trans .set .set)⟩
          · walk_at "zz"
            exact cq_nx ⟨_, _, _, _, _, rfl, by walk_at "zh", by walk_at "zh", by omega, by omega, z2, z3, .trans .set (.trans .set .set)⟩
        · walk_at "zz"
          exact cq_nx ⟨_, _, _, _, _, rfl, e, e', i0, x0, z0, z1, .refl⟩
      · walk_at "zz"
        exact cq_nx ⟨_, _, _, _, _, rfl, e, e', i0, x0, z0, z1, .refl⟩
    · walk_at "zz"
      exact cq_nx ⟨_, _, _, _, _, rfl, e, e', i0, x0, z0, z1, .refl⟩
  clear e e' i0 x0 z0 z1 i x y z
  rintro _ h2 ⟨v, j, x, y, z, rfl, e, e', j0, x0, z0, z1, fr⟩
  walk_at "zz"
  (with_reducible first | refine tw_dec (fun cx => ?_) (fun cx => ?_) | refine aw_dec (fun cx => ?_) (fun cx => ?_) | refine ow_dec (fun cx => ?_) (fun cx => ?_) | refine bw_dec (fun cx => ?_) (fun cx => ?_) | refine tw_b (fun cx => ?_) (fun cx => ?_) | refine aw_b (fun cx => ?_) (fun cx => ?_) | refine ow_b (fun cx => ?_) (fun cx => ?_) | refine bw_b (fun cx => ?_) (fun cx => ?_))
  · walk_at "zz"
    refine q _ _ (Int.emod_nonneg _ (by omega)) (Int.emod_lt_of_pos _ (by omega)) ⟨a, ns, j, x / many, y, z, by walk_at "zh", by walk_at "zh", na, j0, Int.ediv_nonneg x0 (by omega), z0, z1, ln⟩ (fr.trans .set)
  · walk_at "zz"
    refine pw_fdivw (j := 4294967296) (by decide) (by decide) ?_
    have z2 := Int.emod_nonneg (z * 6364136223846793005 + 1442695040888963407) (b := 18446744073709551616) (by decide)
    have z3 := Int.emod_lt_of_pos (z * 6364136223846793005 + 1442695040888963407) (b := 18446744073709551616) (by decide)
    generalize (z * 6364136223846793005 + 1442695040888963407) % 18446744073709551616 = zw0 at *
    walk_at "zz"
    refine q _ _ (Int.emod_nonneg _ (by omega)) (Int.emod_lt_of_pos _ (by omega)) ⟨a, ns, j, x, _, zw0, by walk_at "zh", by walk_at "zh", na, j0, x0, z2, z3, ln⟩ (fr.trans (.trans .set .set))
end K53

set_option Elab.async false
set_option linter.all false
set_option maxRecDepth 100000
set_option maxHeartbeats 4000000
namespace K53
open PySem L2 Z
variable {k : Nat} {h : Hm} {K : D → Hm → Prop} {X : Exn → Hm → Prop} {s : Nat}
theorem odds_wp {part whole : Int} (hs : StoreOk h s) (m1 : 1 ≤ whole) (m2 : whole < 1073741824) (q : ∀ b h', StoreOk h' s → Fr s h h' → K (.bl b) h') : C (k + 2) i_law_odds [.ref s, .int part, .int whole] h K X := by
  (with_reducible refine rw_in (fn := f_law_odds) (b := b_law_odds) ?_ ?_ ?_ (ρ := [some (.ref s), some (.int part), some (.int whole)]) ?_ ?_); rfl; rfl; rfl; rfl; delta b_law_odds
  walk_at "zz"
  refine take_wp hs m1 m2 fun d h' d0 d1 hs' fr => ?_
  walk_at "zz"
  exact q _ _ hs' fr
theorem span_wp {lo hi : Int} (hs : StoreOk h s) (m1 : lo ≤ hi) (m2 : hi - lo < 1000000000) (q : ∀ d h', lo ≤ d → d ≤ hi → StoreOk h' s → Fr s h h' → K (.int d) h') : C (k + 2) i_law_span [.ref s, .int lo, .int hi] h K X := by
  (with_reducible refine rw_in (fn := f_law_span) (b := b_law_span) ?_ ?_ ?_ (ρ := [some (.ref s), some (.int lo), some (.int hi)]) ?_ ?_); rfl; rfl; rfl; rfl; delta b_law_span
  walk_at "zz"
  refine take_wp hs (by omega) (by omega) fun d h' d0 d1 hs' fr => ?_
  walk_at "zz"
  exact q _ _ (by omega) (by omega) hs' fr
theorem near_wp {lo hi : Int} (hs : StoreOk h s) (m1 : lo ≤ hi) (m2 : hi - lo < 1000000000) (q : ∀ d h', lo ≤ d → d ≤ hi → StoreOk h' s → Fr s h h' → K (.int d) h') : C (k + 3) i_law_near [.ref s, .int lo, .int hi] h K X := by
  (with_reducible refine rw_in (fn := f_law_near) (b := b_law_near) ?_ ?_ ?_ (ρ := [some (.ref s), some (.int lo), some (.int hi), none]) ?_ ?_); rfl; rfl; rfl; rfl; delta b_law_near
  walk_at "zz"
  (with_reducible first | refine tw_dec (fun c => ?_) (fun c => ?_) | refine aw_dec (fun c => ?_) (fun c => ?_) | refine ow_dec (fun c => ?_) (fun c => ?_) | refine bw_dec (fun c => ?_) (fun c => ?_) | refine tw_b (fun c => ?_) (fun c => ?_) | refine aw_b (fun c => ?_) (fun c => ?_) | refine ow_b (fun c => ?_) (fun c => ?_) | refine bw_b (fun c => ?_) (fun c => ?_))
  · walk_at "zz"
    exact q _ _ (by omega) (by omega) hs .refl
  walk_at "zz"
  refine take_wp hs (by omega) (by omega) fun d h' d0 d1 hs' fr => ?_
  walk_at "zz"
  (with_reducible first | refine tw_dec (fun c => ?_) (fun c => ?_) | refine aw_dec (fun c => ?_) (fun c => ?_) | refine ow_dec (fun c => ?_) (fun c => ?_) | refine bw_dec (fun c => ?_) (fun c => ?_) | refine tw_b (fun c => ?_) (fun c => ?_) | refine aw_b (fun c => ?_) (fun c => ?_) | refine ow_b (fun c => ?_) (fun c => ?_) | refine bw_b (fun c => ?_) (fun c => ?_))
  · walk_at "zz"
    exact q _ _ (by omega) (by omega) hs' fr
  walk_at "zz"
  (with_reducible first | refine tw_dec (fun c => ?_) (fun c => ?_) | refine aw_dec (fun c => ?_) (fun c => ?_) | refine ow_dec (fun c => ?_) (fun c => ?_) | refine bw_dec (fun c => ?_) (fun c => ?_) | refine tw_b (fun c => ?_) (fun c => ?_) | refine aw_b (fun c => ?_) (fun c => ?_) | refine ow_b (fun c => ?_) (fun c => ?_) | refine bw_b (fun c => ?_) (fun c => ?_))
  · walk_at "zz"
    exact q _ _ (by omega) (by omega) hs' fr
  walk_at "zz"
  (with_reducible first | refine tw_dec (fun c => ?_) (fun c => ?_) | refine aw_dec (fun c => ?_) (fun c => ?_) | refine ow_dec (fun c => ?_) (fun c => ?_) | refine bw_dec (fun c => ?_) (fun c => ?_) | refine tw_b (fun c => ?_) (fun c => ?_) | refine aw_b (fun c => ?_) (fun c => ?_) | refine ow_b (fun c => ?_) (fun c => ?_) | refine bw_b (fun c => ?_) (fun c => ?_))
  · walk_at "zz"
    exact q _ _ (by omega) (by omega) hs' fr
  walk_at "zz"
  (with_reducible first | refine tw_dec (fun c => ?_) (fun c => ?_) | refine aw_dec (fun c => ?_) (fun c => ?_) | refine ow_dec (fun c => ?_) (fun c => ?_) | refine bw_dec (fun c => ?_) (fun c => ?_) | refine tw_b (fun c => ?_) (fun c => ?_) | refine aw_b (fun c => ?_) (fun c => ?_) | refine ow_b (fun c => ?_) (fun c => ?_) | refine bw_b (fun c => ?_) (fun c => ?_))
  · walk_at "zz"
    exact q _ _ (by omega) (by omega) hs' fr
  walk_at "zz"
  refine span_wp hs' m1 m2 fun d h2 d0 d1 hs2 fr2 => ?_
  walk_at "zz"
  exact q _ _ d0 d1 hs2 (fr.trans fr2)
theorem pickt_wp {xs : List D} (hs : StoreOk h s) (m1 : 1 ≤ xs.length) (m2 : xs.length < 1073741824) (q : ∀ d h', d ∈ xs → StoreOk h' s → Fr s h h' → K d h') : C (k + 2) i_law_pick [.ref s, .tup xs] h K X := by
  (with_reducible refine rw_in (fn := f_law_pick) (b := b_law_pick) ?_ ?_ ?_ (ρ := [some (.ref s), some (.tup xs)]) ?_ ?_); rfl; rfl; rfl; rfl; delta b_law_pick
  walk_at "zz"
  refine take_wp hs (by omega) (by omega) fun d h' d0 d1 hs' fr => ?_
  walk_at "zz"
  have l : d.toNat < xs.length := by omega
  refine pw_idxt (d := xs[d.toNat]) ((atD_pos l d0).trans (by simp [l])) ?_
  walk_at "zz"
  exact q _ _ (List.getElem_mem l) hs' fr
theorem pickr_wp {xs : List D} {r : Nat} (hs : StoreOk h s) (e : h[r]? = some (.lst xs)) (n : r ≠ s) (m1 : 1 ≤ xs.length) (m2 : xs.length < 1073741824) (q : ∀ d h', d ∈ xs → StoreOk h' s → Fr s h h' → K d h') : C (k + 2) i_law_pick [.ref s, .ref r] h K X := by
  (with_reducible refine rw_in (fn := f_law_pick) (b := b_law_pick) ?_ ?_ ?_ (ρ := [some (.ref s), some (.ref r)]) ?_ ?_); rfl; rfl; rfl; rfl; delta b_law_pick
  walk_at "zz"
  refine take_wp hs (by omega) (by omega) fun d h' d0 d1 hs' fr => ?_
  have e' := fr.get n e
  walk_at "zz"
  have l : d.toNat < xs.length := by omega
  refine pw_idxr (d := xs[d.toNat]) e' ((atD_pos l d0).trans (by simp [l])) ?_
  walk_at "zz"
  exact q _ _ (List.getElem_mem l) hs' fr
end K53

set_option Elab.async false
set_option linter.all false
set_option maxRecDepth 100000
set_option maxHeartbeats 4000000
namespace K53
open PySem L2 Z
variable {k : Nat} {h : Hm} {K : D → Hm → Prop} {X : Exn → Hm → Prop} {s : Nat}
theorem cut_map (ns : List Int) (l u : Option Int) : cutD (ns.map D.int) l u = (cutD ns l u).map D.int := by
  simp [cutD, List.map_drop, List.map_take]
theorem store_wp {ns : List Int} (l : ns.length ≤ 63) (q : ∀ s h', StoreOk h' s → K (.ref s) h') : C (k + 1) i_law_store [.ro (ns.map .int)] h K X := by
  (with_reducible refine rw_in (fn := f_law_store) (b := b_law_store) ?_ ?_ ?_ (ρ := [some (.ro (ns.map .int)), none]) ?_ ?_); rfl; rfl; rfl; rfl; delta b_law_store
  walk_at "zz"
  refine ew_comp ?_
  walk_at "zz"
  refine pw_slicero rfl rfl ?_
  rw [cut_map]
  have l2 : (cutD ns none (some 63)).length ≤ 63 := by
    refine Nat.le_trans ?_ l
    unfold cutD
    rw [List.length_take, List.length_drop]
    omega
  generalize cutD ns none (some 63) = ms at l2 ⊢
  walk_at "zz"
  refine ⟨_, _, src_r get_new, ?_⟩
  refine rw_comp (I := fun xs acc h' => ∃ r a : List Int, xs = r.map .int ∧ acc = a.map .int ∧ a.length + r.length ≤ 63 ∧ h'[h.length]? = some (.lst (ms.map .int)) ∧ h'[h.length + 1]? = some (.lst acc) ∧ h'.length = h.length + 2) [] ⟨ms, [], rfl, rfl, by simpa using l2, by simp, by simp, by simp⟩ ?_ ?_ ?_
  · rintro r a h' ⟨_, _, _, _, _, e, _⟩
    exact gd_one e
  · rintro x r acc h' ⟨r', a, er, rfl, la, e1, e2, e3⟩
    cases r' with
    | nil => simp at er
    | cons y r' =>
      simp only [List.map_cons, List.cons.injEq] at er
      obtain ⟨rfl, rfl⟩ := er
      refine ⟨_, rfl, ?_⟩
      walk_at "zz"
      have : (h ++ [Cell.lst (ms.map D.int)]).length = h.length + 1 := by simp
      rw [this]
      refine ⟨e2, ?_, r', a ++ [y], rfl, by simp, by simp at la ⊢; omega, ?_, get_set e2, by simpa using e3⟩
      · simp only [List.length_map]
        simp only [List.length_cons] at la
        exact Nat.lt_of_le_of_lt (show a.length ≤ 63 by omega) (by decide)
      · exact get_set_ne (by omega) e1
  · rintro acc h' ⟨r, a, er, rfl, la, e1, e2, e3⟩
    have : (h ++ [Cell.lst (ms.map D.int)]).length = h.length + 1 := by simp
    rw [this]
    walk_at "zz"
    exact q _ _ ⟨_, _, _, _, _, _, get_new, get_app e2, by omega, by decide, by decide, by decide, by decide, by omega⟩
end K53

set_option Elab.async false
set_option linter.all false
set_option maxRecDepth 100000
set_option maxHeartbeats 4000000
namespace K53
open PySem L2 Z
variable {k : Nat} {h : Hm} {K : D → Hm → Prop} {X : Exn → Hm → Prop} {s : Nat}
theorem whole_wp (hs : StoreOk h s) (q : ∀ d h', StoreOk h' s → Fr s h h' → K (.int d) h') : C (k + 3) i_law_whole [.ref s] h K X := by
  (with_reducible refine rw_in (fn := f_law_whole) (b := b_law_whole) ?_ ?_ ?_ (ρ := [some (.ref s), none, none, none]) ?_ ?_); rfl; rfl; rfl; rfl; delta b_law_whole
  walk_at "zz"
  refine take_wp hs (by omega) (by omega) fun d h1 d0 d1 hs1 fr1 => ?_
  refine sq_nx (sw_seq (sw_set (ew_lit (sq_nx ?_))))
  refine sw_cut (fun ρ2 h2 => ∃ n : Int, ρ2 = [some (.ref s), some (.int d), some (.int n), none] ∧ StoreOk h2 s ∧ Fr s h h2) ?_ ?_
  · walk_at "zz"
    (with_reducible first | refine tw_dec (fun c => ?_) (fun c => ?_) | refine aw_dec (fun c => ?_) (fun c => ?_) | refine ow_dec (fun c => ?_) (fun c => ?_) | refine bw_dec (fun c => ?_) (fun c => ?_) | refine tw_b (fun c => ?_) (fun c => ?_) | refine aw_b (fun c => ?_) (fun c => ?_) | refine ow_b (fun c => ?_) (fun c => ?_) | refine bw_b (fun c => ?_) (fun c => ?_))
    · walk_at "zz"
      refine take_wp hs1 (by omega) (by omega) fun d h2 d0 d1 hs2 fr2 => ?_
      walk_at "zz"
      exact cq_nx ⟨_, rfl, hs2, fr1.trans fr2⟩
    · walk_at "zz"
      exact cq_nx ⟨_, rfl, hs1, fr1⟩
  rintro _ h1 ⟨n, rfl, hs1, fr1⟩
  refine sw_cut (fun ρ2 h2 => ∃ n : Int, ρ2 = [some (.ref s), some (.int d), some (.int n), none] ∧ StoreOk h2 s ∧ Fr s h h2) ?_ ?_
  · walk_at "zz"
    (with_reducible first | refine tw_dec (fun c => ?_) (fun c => ?_) | refine aw_dec (fun c => ?_) (fun c => ?_) | refine ow_dec (fun c => ?_) (fun c => ?_) | refine bw_dec (fun c => ?_) (fun c => ?_) | refine tw_b (fun c => ?_) (fun c => ?_) | refine aw_b (fun c => ?_) (fun c => ?_) | refine ow_b (fun c => ?_) (fun c => ?_) | refine bw_b (fun c => ?_) (fun c => ?_))
    · walk_at "zz"
      refine take_wp hs1 (by omega) (by omega) fun d h2 d0 d1 hs2 fr2 => ?_
      walk_at "zz"
      exact cq_nx ⟨_, rfl, hs2, fr1.trans fr2⟩
    · walk_at "zz"
      exact cq_nx ⟨_, rfl, hs1, fr1⟩
  clear n hs1 fr1 h1
  rintro _ h1 ⟨n, rfl, hs1, fr1⟩
  refine sw_cut (fun ρ2 h2 => ∃ n : Int, ρ2 = [some (.ref s), some (.int d), some (.int n), none] ∧ StoreOk h2 s ∧ Fr s h h2) ?_ ?_
  · walk_at "zz"
    (with_reducible first | refine tw_dec (fun c => ?_) (fun c => ?_) | refine aw_dec (fun c => ?_) (fun c => ?_) | refine ow_dec (fun c => ?_) (fun c => ?_) | refine bw_dec (fun c => ?_) (fun c => ?_) | refine tw_b (fun c => ?_) (fun c => ?_) | refine aw_b (fun c => ?_) (fun c => ?_) | refine ow_b (fun c => ?_) (fun c => ?_) | refine bw_b (fun c => ?_) (fun c => ?_))
    · walk_at "zz"
      refine take_wp hs1 (by omega) (by omega) fun d h2 d0 d1 hs2 fr2 => ?_
      walk_at "zz"
      exact cq_nx ⟨_, rfl, hs2, fr1.trans fr2⟩
    · walk_at "zz"
      exact cq_nx ⟨_, rfl, hs1, fr1⟩
  clear n hs1 fr1 h1
  rintro _ h1 ⟨n, rfl, hs1, fr1⟩
  refine sw_cut (fun ρ2 h2 => ∃ (n : Int) (v : Option D), ρ2 = [some (.ref s), some (.int d), some (.int n), v] ∧ StoreOk h2 s ∧ Fr s h h2) ?_ ?_
  · walk_at "zz"
    (with_reducible first | refine tw_dec (fun c => ?_) (fun c => ?_) | refine aw_dec (fun c => ?_) (fun c => ?_) | refine ow_dec (fun c => ?_) (fun c => ?_) | refine bw_dec (fun c => ?_) (fun c => ?_) | refine tw_b (fun c => ?_) (fun c => ?_) | refine aw_b (fun c => ?_) (fun c => ?_) | refine ow_b (fun c => ?_) (fun c => ?_) | refine bw_b (fun c => ?_) (fun c => ?_))
    · walk_at "zz"
      refine ⟨_, _, src_r1 (by decide), ?_⟩
      rw [range_up]
      refine fw_up (I := fun _ ρ2 h2 => ∃ (n : Int) (v : Option D), ρ2 = [some (.ref s), some (.int d), some (.int n), v] ∧ StoreOk h2 s ∧ Fr s h h2) ⟨n, none, rfl, hs1, fr1⟩ (fun _ _ _ _ => rfl) ?_ ?_
      · rintro j _ h3 j0 j1 ⟨n, v, rfl, hs3, fr3⟩
        refine ⟨_, rfl, ?_⟩
        walk_at "zz"
        refine take_wp hs3 (by omega) (by omega) fun d h2 d0 d1 hs2 fr2 => ?_
        walk_at "zz"
        exact rd_nx ⟨_, _, rfl, hs2, fr3.trans fr2⟩
      · rintro _ h3 ⟨n, v, rfl, hs3, fr3⟩
        exact cq_nx ⟨_, _, rfl, hs3, fr3⟩
    · walk_at "zz"
      exact cq_nx ⟨_, _, rfl, hs1, fr1⟩
  clear n hs1 fr1 h1
  rintro _ h1 ⟨n, v, rfl, hs1, fr1⟩
  walk_at "zz"
  refine odds_wp hs1 (by omega) (by omega) fun b h2 hs2 fr2 => ?_
  (with_reducible first | refine tw_dec (fun c => ?_) (fun c => ?_) | refine aw_dec (fun c => ?_) (fun c => ?_) | refine ow_dec (fun c => ?_) (fun c => ?_) | refine bw_dec (fun c => ?_) (fun c => ?_) | refine tw_b (fun c => ?_) (fun c => ?_) | refine aw_b (fun c => ?_) (fun c => ?_) | refine ow_b (fun c => ?_) (fun c => ?_) | refine bw_b (fun c => ?_) (fun c => ?_))
  · walk_at "zz"
    exact q _ _ hs2 (fr1.trans fr2)
  · walk_at "zz"
    exact q _ _ hs2 (fr1.trans fr2)
end K53

set_option Elab.async false
set_option linter.all false
set_option maxRecDepth 100000
set_option maxHeartbeats 4000000
namespace K53
open PySem L2 Z
variable {k : Nat} {h : Hm} {K : D → Hm → Prop} {X : Exn → Hm → Prop} {s : Nat}
theorem getD_zero {ts : List Int} {n : Nat} (l : ts.length = n) (n0 : 0 < n) : ∃ t, t ∈ ts ∧ atD (ts.map D.int) 0 = some (.int t) := by
  cases ts with
  | nil => simp at l; omega
  | cons t r => exact ⟨t, by simp, by rw [atD_pos (by simp) (by decide)]; simp⟩
theorem chord_wp {ring many : Int} (hs : StoreOk h s) (r1 : 1 ≤ ring) (r2 : ring < 1000000) (m1 : 1 ≤ many) (m2 : many < 1000000) (q : ∀ (ts : List Int) h', (ts.length : Int) = many → Up ring 0 ts → StoreOk h' s → Fr s h h' → K (.tup (ts.map .int)) h') : C (k + 2) i_law_chord [.ref s, .int ring, .int many] h K X := by
  (with_reducible refine rw_in (fn := f_law_chord) (b := b_law_chord) ?_ ?_ ?_ (ρ := [some (.ref s), some (.int ring), some (.int many), none, none, none]) ?_ ?_); rfl; rfl; rfl; rfl; delta b_law_chord
  walk_at "zz"
  refine take_wp hs (by omega) (by omega) fun d h1 d0 d1 hs1 fr1 => ?_
  have hl := fr1.1
  have hn := hs1.lt
  have hn0 := hs.lt
  walk_at "zz"
  refine ⟨_, _, src_r1 (small_k (by omega) (by omega)), ?_⟩
  rw [range_up]
  refine fw_up (I := fun j ρ2 h2 => ∃ (ts : List Int) (v : Option D), ρ2 = [some (.ref s), some (.int ring), some (.int many), some (.int d), some (.ref h1.length), v] ∧ h2[h1.length]? = some (.lst (ts.map .int)) ∧ (ts.length : Int) = j ∧ (∀ t ∈ ts, 0 ≤ t ∧ t < ring) ∧ StoreOk h2 s ∧ Fr s h h2) ⟨[], none, rfl, get_new, rfl, by simp, hs1.app, fr1.trans .app⟩ (fun _ _ _ _ => rfl) ?_ ?_
  · rintro j _ h3 j0 j1 ⟨ts, v, rfl, e, lt, ht, hs3, fr3⟩
    have app : ∀ (t : Int) (h4 : Hm) , 0 ≤ t → t < ring → h4[h1.length]? = some (.lst (ts.map .int)) → StoreOk h4 s → Fr s h h4 → ∃ (us : List Int) (v : Option D), [some (D.ref s), some (.int ring), some (.int many), some (.int d), some (.ref h1.length), some (.int j)] = [some (.ref s), some (.int ring), some (.int many), some (.int d), some (.ref h1.length), v] ∧ (h4.set h1.length (.lst (ts.map .int ++ [.int t])))[h1.length]? = some (.lst (us.map .int)) ∧ (us.length : Int) = j + 1 ∧ (∀ t ∈ us, 0 ≤ t ∧ t < ring) ∧ StoreOk (h4.set h1.length (.lst (ts.map .int ++ [.int t]))) s ∧ Fr s h (h4.set h1.length (.lst (ts.map .int ++ [.int t]))) := by
      intro t h4 t0 t1 e4 hs4 fr4
      refine ⟨ts ++ [t], _, rfl, (get_set e4).trans (by simp), by simp; omega, ?_, ?_, fr4.setn (by omega)⟩
      · intro u hu
        rcases List.mem_append.mp hu with hu | hu
        · exact ht u hu
        · simp only [List.mem_singleton] at hu
          subst hu
          exact ⟨t0, t1⟩
      · exact hs4.setn (by omega)
    have szl : (ts.map D.int).length < sizeLine := by
      rw [List.length_map]
      exact Nat.lt_of_lt_of_le (show ts.length < 1000000 by omega) (by decide)
    refine ⟨_, rfl, ?_⟩
    have ne : h1.length ≠ s := by omega
    refine sw_ite (ew_and ?_)
    walk_at "zz"
    (with_reducible first | refine tw_dec (fun c => ?_) (fun c => ?_) | refine aw_dec (fun c => ?_) (fun c => ?_) | refine ow_dec (fun c => ?_) (fun c => ?_) | refine bw_dec (fun c => ?_) (fun c => ?_) | refine tw_b (fun c => ?_) (fun c => ?_) | refine aw_b (fun c => ?_) (fun c => ?_) | refine ow_b (fun c => ?_) (fun c => ?_) | refine bw_b (fun c => ?_) (fun c => ?_))
    · walk_at "zz"
      (with_reducible first | refine tw_dec (fun c2 => ?_) (fun c2 => ?_) | refine aw_dec (fun c2 => ?_) (fun c2 => ?_) | refine ow_dec (fun c2 => ?_) (fun c2 => ?_) | refine bw_dec (fun c2 => ?_) (fun c2 => ?_) | refine tw_b (fun c2 => ?_) (fun c2 => ?_) | refine aw_b (fun c2 => ?_) (fun c2 => ?_) | refine ow_b (fun c2 => ?_) (fun c2 => ?_) | refine bw_b (fun c2 => ?_) (fun c2 => ?_))
      · obtain ⟨t, tm, te⟩ := getD_zero (n := ts.length) rfl (by omega)
        walk_at "zz"
        refine pw_idxr e te ?_
        walk_at "zz"
        exact rd_nx (app t h3 (ht t tm).1 (ht t tm).2 e hs3 fr3)
      · walk_at "zz"
        refine take_wp hs3 (by omega) (by omega) fun u h4 u0 u1 hs4 fr4 => ?_
        have e4 := fr4.get ne e
        walk_at "zz"
        exact rd_nx (app u h4 u0 u1 e4 hs4 (fr3.trans fr4))
    · walk_at "zz"
      (with_reducible first | refine tw_dec (fun c2 => ?_) (fun c2 => ?_) | refine aw_dec (fun c2 => ?_) (fun c2 => ?_) | refine ow_dec (fun c2 => ?_) (fun c2 => ?_) | refine bw_dec (fun c2 => ?_) (fun c2 => ?_) | refine tw_b (fun c2 => ?_) (fun c2 => ?_) | refine aw_b (fun c2 => ?_) (fun c2 => ?_) | refine ow_b (fun c2 => ?_) (fun c2 => ?_) | refine bw_b (fun c2 => ?_) (fun c2 => ?_))
      · walk_at "zz"
        refine take_wp hs3 (by omega) (by omega) fun u h4 u0 u1 hs4 fr4 => ?_
        have e4 := fr4.get ne e
        walk_at "zz"
        refine rd_nx (app _ h4 ?_ ?_ e4 hs4 (fr3.trans fr4))
        · exact Int.mul_nonneg (by omega) u0
        · have : u = 0 ∨ u = 1 := by omega
          rcases this with rfl | rfl
          · simp; omega
          · simp; omega
      · walk_at "zz"
        (with_reducible first | refine tw_dec (fun c3 => ?_) (fun c3 => ?_) | refine aw_dec (fun c3 => ?_) (fun c3 => ?_) | refine ow_dec (fun c3 => ?_) (fun c3 => ?_) | refine bw_dec (fun c3 => ?_) (fun c3 => ?_) | refine tw_b (fun c3 => ?_) (fun c3 => ?_) | refine aw_b (fun c3 => ?_) (fun c3 => ?_) | refine ow_b (fun c3 => ?_) (fun c3 => ?_) | refine bw_b (fun c3 => ?_) (fun c3 => ?_))
        · walk_at "zz"
          refine take_wp hs3 (by omega) (by omega) fun u h4 u0 u1 hs4 fr4 => ?_
          have e4 := fr4.get ne e
          walk_at "zz"
          exact rd_nx (app _ h4 (Int.emod_nonneg _ (by omega)) (Int.emod_lt_of_pos _ (by omega)) e4 hs4 (fr3.trans fr4))
        · walk_at "zz"
          refine take_wp hs3 (by omega) (by omega) fun u h4 u0 u1 hs4 fr4 => ?_
          have e4 := fr4.get ne e
          walk_at "zz"
          exact rd_nx (app u h4 u0 u1 e4 hs4 (fr3.trans fr4))
  · rintro _ h3 ⟨ts, v, rfl, e, lt, ht, hs3, fr3⟩
    walk_at "zz"
    refine pw_sorted e (intsOf_map ts) ?_
    walk_at "zz"
    refine pw_tuple (x := .ref _) (xs := (sortI ts).map .int) (by simp only [Z.listOf, get_new]) ?_
    walk_at "zz"
    refine q (sortI ts) _ ?_ ?_ hs3.app (fr3.trans .app)
    · rw [(sortI_perm ts).length_eq]; omega
    · exact up_of (sortI_sorted ts) fun t tm => ht t ((sortI_perm ts).mem_iff.mp tm)
end K53

set_option Elab.async false
set_option linter.all false
set_option maxRecDepth 100000
set_option maxHeartbeats 4000000
namespace K53
open PySem L2 Z
variable {k : Nat} {h : Hm} {K : D → Hm → Prop} {X : Exn → Hm → Prop} {s : Nat}
theorem up_sorted {top : Int} : ∀ {l : List Int} {low : Int}, Up top low l → l.Pairwise (· ≤ ·)
  | [], _, _ => .nil
  | t :: r, _, h => .cons (fun u hu => (up_all h.2.2 u hu).1) (up_sorted h.2.2)
theorem atD_get {ts : List Int} {i : Int} (i0 : 0 ≤ i) (l : i.toNat < ts.length) : atD (ts.map D.int) i = some (.int (ts[i.toNat]'l)) := by
  rw [atD_pos (by simpa using l) i0]
  simp [l]
theorem ixN_get {n : Nat} {i : Int} (i0 : 0 ≤ i) (l : i < n) : ixN n i = some i.toNat := by simp [ixN, i0, l]
/-- what a wrong chord is -/
def Wrong (ring : Int) (ts : List Int) : Prop := ¬(1 ≤ ts.length ∧ ts.length ≤ 8 ∧ Up ring 0 ts)
theorem wrong_set {ring v : Int} {ts : List Int} {m : Nat} (l : m < ts.length) (hv : v < 0 ∨ ring ≤ v) : Wrong ring (ts.set m v) := by
  rintro ⟨_, _, u⟩
  have := up_all u v (by
    refine List.mem_iff_getElem.mpr ⟨m, by simpa using l, by simp⟩)
  omega
theorem wrong_swap {ring : Int} {ts : List Int} {m : Nat} (l : m + 1 < ts.length) (lt : ts[m]'(by omega) < ts[m + 1]) : Wrong ring ((ts.set m ts[m + 1]).set (m + 1) (ts[m]'(by omega))) := by
  rintro ⟨_, _, u⟩
  have p := List.pairwise_iff_getElem.mp (up_sorted u) m (m + 1) (by simp; omega) (by simp; omega) (by omega)
  simp [List.getElem_set] at p
  omega
theorem tup_set {r m : Nat} {v : Int} {ts : List Int} (e : h[r]? = some (.lst (ts.map .int))) : Z.listOf (h.set r (.lst ((ts.map D.int).set m (.int v)))) (.ref r) = some ((ts.set m v).map .int) := by
  simp only [Z.listOf, get_set e, List.map_set]
theorem badchord_wp {ring many : Int} (hs : StoreOk h s) (r1 : 1 ≤ ring) (r2 : ring < 1000000) (m1 : 1 ≤ many) (m2 : many < 1000000) (q : ∀ (ts : List Int) h', Wrong ring ts → StoreOk h' s → Fr s h h' → K (.tup (ts.map .int)) h') : C (k + 3) i_law_bad_chord [.ref s, .int ring, .int many] h K X := by
  (with_reducible refine rw_in (fn := f_law_bad_chord) (b := b_law_bad_chord) ?_ ?_ ?_ (ρ := [some (.ref s), some (.int ring), some (.int many), none, none, none, none, none, none]) ?_ ?_); rfl; rfl; rfl; rfl; delta b_law_bad_chord
  walk_at "zz"
  refine take_wp hs (by omega) (by omega) fun d h1 d0 d1 hs1 fr1 => ?_
  walk_at "zz"
  (with_reducible first | refine tw_dec (fun c => ?_) (fun c => ?_) | refine aw_dec (fun c => ?_) (fun c => ?_) | refine ow_dec (fun c => ?_) (fun c => ?_) | refine bw_dec (fun c => ?_) (fun c => ?_) | refine tw_b (fun c => ?_) (fun c => ?_) | refine aw_b (fun c => ?_) (fun c => ?_) | refine ow_b (fun c => ?_) (fun c => ?_) | refine bw_b (fun c => ?_) (fun c => ?_))
  · walk_at "zz"
    exact q [] _ (fun z => by simp at z) hs1 fr1
  walk_at "zz"
  (with_reducible first | refine tw_dec (fun c => ?_) (fun c => ?_) | refine aw_dec (fun c => ?_) (fun c => ?_) | refine ow_dec (fun c => ?_) (fun c => ?_) | refine bw_dec (fun c => ?_) (fun c => ?_) | refine tw_b (fun c => ?_) (fun c => ?_) | refine aw_b (fun c => ?_) (fun c => ?_) | refine ow_b (fun c => ?_) (fun c => ?_) | refine bw_b (fun c => ?_) (fun c => ?_))
  · walk_at "zz"
    refine chord_wp hs1 r1 r2 (by omega) (by omega) fun ts h2 l u hs2 fr2 => ?_
    walk_at "zz"
    refine pw_addt (by simp only [List.length_map, List.length_cons, List.length_nil]; exact le_size (by omega)) ?_
    walk_at "zz"
    have : ts.map D.int ++ [D.int (ring - 1)] = (ts ++ [ring - 1]).map .int := by simp
    rw [this]
    exact q _ _ (fun z => by simp at z; omega) hs2 (fr1.trans fr2)
  walk_at "zz"
  refine chord_wp hs1 r1 r2 (by omega) (by omega) fun ts h2 l u hs2 fr2 => ?_
  walk_at "zz"
  refine pw_list (x := .tup _) rfl ?_
  have hs3 : StoreOk (h2 ++ [.lst (ts.map .int)]) s := hs2.app
  have fr3 : Fr s h (h2 ++ [.lst (ts.map .int)]) := fr1.trans (fr2.trans .app)
  have e3 : (h2 ++ [.lst (ts.map .int)])[h2.length]? = some (.lst (ts.map .int)) := get_new
  have lr : s < h2.length := hs2.lt
  have lh : h.length ≤ h2.length := (fr1.trans fr2).1
  generalize h2.length = r at e3 lr lh ⊢
  generalize h2 ++ [.lst (ts.map .int)] = h3 at hs3 fr3 e3 ⊢
  clear hs2 fr2
  walk_at "zz"
  refine ew_comp ?_
  walk_at "zz"
  refine ⟨_, _, src_r1 (small_k (by omega) (by omega)), ?_⟩
  have l3 : s < h3.length := hs3.lt
  have l33 : h.length ≤ h3.length := fr3.1
  have l3r : r < h3.length := lt_of_get e3
  rw [range_up]
  refine rw_comp (I := fun xs acc h' => ∃ (js : List Int) (lo : Int) (n : Nat), xs = upD lo n ∧ 0 ≤ lo ∧ lo + n = (many - 1).toNat ∧ acc = js.map .int ∧ (js.length : Int) ≤ lo ∧ (∀ j ∈ js, ∃ (j0 : 0 ≤ j) (jl : j.toNat + 1 < ts.length), ts[j.toNat]'(by omega) < ts[j.toNat + 1]) ∧ h' = h3 ++ [.lst (js.map .int)]) [] ⟨[], 0, _, rfl, by omega, by omega, rfl, by simp, by simp, rfl⟩ (fun _ _ _ _ => rfl) ?_ ?_
  · rintro x xs acc h' ⟨js, lo, n, en, lo0, ln, rfl, lj, hj, rfl⟩
    cases n with
    | zero => simp [upD] at en
    | succ n =>
      simp only [upD, List.cons.injEq] at en
      obtain ⟨rfl, rfl⟩ := en
      refine ⟨_, rfl, ?_⟩
      walk_at "zz"
      refine pw_idxr (get_app e3) (atD_get lo0 (by omega)) ?_
      walk_at "zz"
      refine pw_idxr (get_app e3) (atD_get (by omega) (by omega)) ?_
      walk_at "zz"
      (with_reducible first | refine tw_dec (fun cc => ?_) (fun cc => ?_) | refine aw_dec (fun cc => ?_) (fun cc => ?_) | refine ow_dec (fun cc => ?_) (fun cc => ?_) | refine bw_dec (fun cc => ?_) (fun cc => ?_) | refine tw_b (fun cc => ?_) (fun cc => ?_) | refine aw_b (fun cc => ?_) (fun cc => ?_) | refine ow_b (fun cc => ?_) (fun cc => ?_) | refine bw_b (fun cc => ?_) (fun cc => ?_))
      · walk_at "zz"
        refine ⟨get_new, ?_, js ++ [lo], lo + 1, n, rfl, by omega, by omega, by simp, by simp; omega, ?_, ?_⟩
        · rw [List.length_map]
          exact Nat.lt_of_lt_of_le (show js.length < 1000000 by omega) (by decide)
        · intro j hjm
          rcases List.mem_append.mp hjm with hjm | hjm
          · exact hj j hjm
          · simp only [List.mem_singleton] at hjm
            subst hjm
            refine ⟨lo0, by omega, ?_⟩
            have : (j + 1).toNat = j.toNat + 1 := by omega
            simpa [this] using cc
        · simp
      · exact ⟨js, lo + 1, n, rfl, by omega, by omega, rfl, by omega, hj, rfl⟩
  rintro acc h' ⟨js, lo, n, en, lo0, ln, rfl, lj, hj, rfl⟩
  have e4 : (h3 ++ [.lst (js.map .int)])[r]? = some (.lst (ts.map .int)) := get_app e3
  have ej : (h3 ++ [.lst (js.map .int)])[h3.length]? = some (.lst (js.map .int)) := get_new
  have hs4 : StoreOk (h3 ++ [.lst (js.map .int)]) s := hs3.app
  have fr4 : Fr s h (h3 ++ [.lst (js.map .int)]) := fr3.trans .app
  generalize h3 ++ [.lst (js.map .int)] = h4 at e4 ej hs4 fr4 ⊢
  have nrs : r ≠ s := by omega
  have jlr : h3.length ≠ s := by omega
  have tl : (ts.map D.int).length = ts.length := by simp
  walk_at "zz"
  (with_reducible first | refine tw_dec (fun c2 => ?_) (fun c2 => ?_) | refine aw_dec (fun c2 => ?_) (fun c2 => ?_) | refine ow_dec (fun c2 => ?_) (fun c2 => ?_) | refine bw_dec (fun c2 => ?_) (fun c2 => ?_) | refine tw_b (fun c2 => ?_) (fun c2 => ?_) | refine aw_b (fun c2 => ?_) (fun c2 => ?_) | refine ow_b (fun c2 => ?_) (fun c2 => ?_) | refine bw_b (fun c2 => ?_) (fun c2 => ?_))
  · walk_at "zz"
    refine take_wp hs4 (by omega) (by omega) fun u h5 u0 u1 hs5 fr5 => ?_
    have e5 := fr5.get nrs e4
    walk_at "zz"
    refine rw_setix e5 (ixN_get (by omega) (by omega)) ?_
    walk_at "zz"
    refine pw_tuple (x := .ref r) (tup_set e5) ?_
    walk_at "zz"
    exact q _ _ (wrong_set (by omega) (.inl (by omega))) (hs5.setn (by omega)) ((fr4.trans fr5).setn lh)
  have last : ∀ {Q : O → Prop} {ρ : Env'}, ρ[0]? = some (some (.ref s)) → ρ[1]? = some (some (.int ring)) → ρ[2]? = some (some (.int many)) → ρ[4]? = some (some (.ref r)) →
      (∀ u h5, 0 ≤ u → StoreOk h5 s → Fr s h4 h5 → h5[r]? = some (.lst (ts.map .int)) → Q (.nx ρ (h5.set r (.lst ((ts.map D.int).set (many - 1).toNat (.int (ring + u))))))) →
      SW (callF pg fuel (k + 2)) fuel pg.sub (.setix (.var 4) (.prim .sub (.cons (.var 2) (.cons (.lit (.int 1)) .nil))) (.prim .add (.cons (.var 1) (.cons (.call i_law_take (.cons (.var 0) (.cons (.lit (.int 3)) .nil))) .nil)))) ρ h4 Q := by
    intro Q ρ e0 e1 e2 e4' kk
    refine sw_setix (ew_prim (lw_cons (ew_var e1 (lw_cons (ew_call (lw_cons (ew_var e0 (lw_cons (ew_lit (lw_nil ?_))))))))))
    refine take_wp hs4 (by omega) (by omega) fun u h5 u0 u1 hs5 fr5 => ?_
    have e5 := fr5.get nrs e4
    refine lw_nil (pw_add (ew_var e4' (ew_prim (lw_cons (ew_var e2 (lw_cons (ew_lit (lw_nil (pw_sub ?_)))))))))
    refine rw_setix e5 (ixN_get (by omega) (by omega)) ?_
    exact kk u h5 u0 hs5 fr5 e5
  walk_at "zz"
  (with_reducible first | refine tw_dec (fun c3 => ?_) (fun c3 => ?_) | refine aw_dec (fun c3 => ?_) (fun c3 => ?_) | refine ow_dec (fun c3 => ?_) (fun c3 => ?_) | refine bw_dec (fun c3 => ?_) (fun c3 => ?_) | refine tw_b (fun c3 => ?_) (fun c3 => ?_) | refine aw_b (fun c3 => ?_) (fun c3 => ?_) | refine ow_b (fun c3 => ?_) (fun c3 => ?_) | refine bw_b (fun c3 => ?_) (fun c3 => ?_))
  · refine tw_t (last rfl rfl rfl rfl fun u h5 u0 hs5 fr5 e5 => ?_)
    walk_at "zz"
    refine pw_tuple (x := .ref r) (tup_set e5) ?_
    walk_at "zz"
    exact q _ _ (wrong_set (by omega) (.inr (by omega))) (hs5.setn (by omega)) ((fr4.trans fr5).setn lh)
  walk_at "zz"
  (with_reducible first | refine tw_dec (fun c4 => ?_) (fun c4 => ?_) | refine aw_dec (fun c4 => ?_) (fun c4 => ?_) | refine ow_dec (fun c4 => ?_) (fun c4 => ?_) | refine bw_dec (fun c4 => ?_) (fun c4 => ?_) | refine tw_b (fun c4 => ?_) (fun c4 => ?_) | refine aw_b (fun c4 => ?_) (fun c4 => ?_) | refine ow_b (fun c4 => ?_) (fun c4 => ?_) | refine bw_b (fun c4 => ?_) (fun c4 => ?_))
  · refine last rfl rfl rfl rfl fun u h5 u0 hs5 fr5 e5 => ?_
    walk_at "zz"
    refine pw_tuple (x := .ref r) (tup_set e5) ?_
    walk_at "zz"
    exact q _ _ (wrong_set (by omega) (.inr (by omega))) (hs5.setn (by omega)) ((fr4.trans fr5).setn lh)
  rw [List.length_map] at c4
  walk_at "zz"
  refine pickr_wp hs4 ej jlr (by rw [List.length_map]; omega) (by rw [List.length_map]; omega) fun d h5 hd hs5 fr5 => ?_
  obtain ⟨j, jm, rfl⟩ := List.mem_map.mp hd
  obtain ⟨j0, jl, jlt⟩ := hj j jm
  have e5 := fr5.get nrs e4
  have j1 : (j + 1).toNat = j.toNat + 1 := by omega
  walk_at "zz"
  refine pw_idxr e5 (atD_get j0 (by omega)) ?_
  walk_at "zz"
  refine pw_idxr e5 (atD_get (by omega) (by omega)) ?_
  walk_at "zz"
  refine rw_setix e5 (ixN_get (by omega) (by omega)) ?_
  walk_at "zz"
  refine rw_setix (get_set e5) (ixN_get (by omega) (by rw [List.length_set]; omega)) ?_
  walk_at "zz"
  refine pw_tuple (x := .ref r) (xs := ((ts.set j.toNat (ts[j.toNat + 1]'jl)).set (j.toNat + 1) (ts[j.toNat]'(by omega))).map .int) ?_ ?_
  · simp only [Z.listOf, get_set (get_set e5), List.map_set, j1]
  walk_at "zz"
  exact q _ _ (wrong_swap jl jlt) ((hs5.setn (by omega)).setn (by omega)) (((fr4.trans fr5).setn lh).setn lh)
end K53

set_option Elab.async false
set_option linter.all false
set_option maxRecDepth 100000
set_option maxHeartbeats 4000000
namespace K53
open PySem L2 Z
variable {k : Nat} {h : Hm} {K : D → Hm → Prop} {X : Exn → Hm → Prop} {s : Nat}
abbrev xR : Exn := ⟨Str.ofString "RingError", [], []⟩
abbrev xS : Exn := ⟨Str.ofString "ShapeError", [], []⟩

theorem cr_wp {r : Int} (a : 1 ≤ r → r ≤ 48 → K (.int r) h) (b : (r < 1 ∨ 48 < r) → X xR h) : C (k + 1) i_check_ring [.int r] h K X := by
  (with_reducible refine rw_in (fn := f_check_ring) (b := b_check_ring) ?_ ?_ ?_ (ρ := [some (.int r)]) ?_ ?_); rfl; rfl; rfl; rfl; delta b_check_ring
  walk_at "zz"
  (with_reducible first | refine tw_dec (fun c => ?_) (fun c => ?_) | refine aw_dec (fun c => ?_) (fun c => ?_) | refine ow_dec (fun c => ?_) (fun c => ?_) | refine bw_dec (fun c => ?_) (fun c => ?_) | refine tw_b (fun c => ?_) (fun c => ?_) | refine aw_b (fun c => ?_) (fun c => ?_) | refine ow_b (fun c => ?_) (fun c => ?_) | refine bw_b (fun c => ?_) (fun c => ?_))
  · walk_at "zz"
    (with_reducible first | refine tw_dec (fun c2 => ?_) (fun c2 => ?_) | refine aw_dec (fun c2 => ?_) (fun c2 => ?_) | refine ow_dec (fun c2 => ?_) (fun c2 => ?_) | refine bw_dec (fun c2 => ?_) (fun c2 => ?_) | refine tw_b (fun c2 => ?_) (fun c2 => ?_) | refine aw_b (fun c2 => ?_) (fun c2 => ?_) | refine ow_b (fun c2 => ?_) (fun c2 => ?_) | refine bw_b (fun c2 => ?_) (fun c2 => ?_))
    · walk_at "zz"
      exact b (by omega)
    · walk_at "zz"
      exact a c (by omega)
  · walk_at "zz"
    exact b (by omega)
theorem cc_wp {ring : Int} {ts : List Int} (ok : 1 ≤ ring → ring ≤ 48 → 1 ≤ ts.length → ts.length ≤ 8 → Up ring 0 ts → K (tupI ts) h) (bad : (ring < 1 ∨ 48 < ring) → X xR h) (wr : 1 ≤ ring → ring ≤ 48 → Wrong ring ts → X xS h) : C (k + 2) i_check_chord [.int ring, tupI ts] h K X := by
  (with_reducible refine rw_in (fn := f_check_chord) (b := b_check_chord) ?_ ?_ ?_ (ρ := [some (.int ring), some (tupI ts), none, none]) ?_ ?_); rfl; rfl; rfl; rfl; delta b_check_chord
  walk_at "zz"
  refine cr_wp (fun r1 r2 => ?_) fun q => ?_
  · walk_at "zz"
    have tl : (ts.map D.int).length = ts.length := by simp
    (with_reducible first | refine tw_dec (fun c => ?_) (fun c => ?_) | refine aw_dec (fun c => ?_) (fun c => ?_) | refine ow_dec (fun c => ?_) (fun c => ?_) | refine bw_dec (fun c => ?_) (fun c => ?_) | refine tw_b (fun c => ?_) (fun c => ?_) | refine aw_b (fun c => ?_) (fun c => ?_) | refine ow_b (fun c => ?_) (fun c => ?_) | refine bw_b (fun c => ?_) (fun c => ?_))
    · walk_at "zz"
      (with_reducible first | refine tw_dec (fun c2 => ?_) (fun c2 => ?_) | refine aw_dec (fun c2 => ?_) (fun c2 => ?_) | refine ow_dec (fun c2 => ?_) (fun c2 => ?_) | refine bw_dec (fun c2 => ?_) (fun c2 => ?_) | refine tw_b (fun c2 => ?_) (fun c2 => ?_) | refine aw_b (fun c2 => ?_) (fun c2 => ?_) | refine ow_b (fun c2 => ?_) (fun c2 => ?_) | refine bw_b (fun c2 => ?_) (fun c2 => ?_))
      · walk_at "zz"
        exact wr r1 r2 (fun z => by omega)
      · walk_at "zz"
        refine ⟨_, _, src_t, ?_⟩
        refine fw_inv (I := fun r ρ2 h2 => ∃ (us : List Int) (low : Int) (v : Option D), r = us.map .int ∧ ρ2 = [some (.int ring), some (tupI ts), some (.int low), v] ∧ h2 = h ∧ (Up ring low us ↔ Up ring 0 ts)) ⟨ts, 0, none, rfl, rfl, rfl, .rfl⟩ (fun _ _ _ _ => rfl) ?_ ?_
        · rintro x r _ _ ⟨us, low, v, er, rfl, rfl, hu⟩
          cases us with
          | nil => simp at er
          | cons t us =>
            simp only [List.map_cons, List.cons.injEq] at er
            obtain ⟨rfl, rfl⟩ := er
            refine ⟨_, rfl, ?_⟩
            walk_at "zz"
            (with_reducible first | refine tw_dec (fun c3 => ?_) (fun c3 => ?_) | refine aw_dec (fun c3 => ?_) (fun c3 => ?_) | refine ow_dec (fun c3 => ?_) (fun c3 => ?_) | refine bw_dec (fun c3 => ?_) (fun c3 => ?_) | refine tw_b (fun c3 => ?_) (fun c3 => ?_) | refine aw_b (fun c3 => ?_) (fun c3 => ?_) | refine ow_b (fun c3 => ?_) (fun c3 => ?_) | refine bw_b (fun c3 => ?_) (fun c3 => ?_))
            · walk_at "zz"
              (with_reducible first | refine tw_dec (fun c4 => ?_) (fun c4 => ?_) | refine aw_dec (fun c4 => ?_) (fun c4 => ?_) | refine ow_dec (fun c4 => ?_) (fun c4 => ?_) | refine bw_dec (fun c4 => ?_) (fun c4 => ?_) | refine tw_b (fun c4 => ?_) (fun c4 => ?_) | refine aw_b (fun c4 => ?_) (fun c4 => ?_) | refine ow_b (fun c4 => ?_) (fun c4 => ?_) | refine bw_b (fun c4 => ?_) (fun c4 => ?_))
              · walk_at "zz"
                exact wr r1 r2 (fun z => c4 (hu.mpr z.2.2).2.1)
              · walk_at "zz"
                exact rd_nx ⟨us, t, _, rfl, rfl, rfl, ⟨fun q => hu.mp ⟨c3, by omega, q⟩, fun q => (hu.mpr q).2.2⟩⟩
            · walk_at "zz"
              exact wr r1 r2 (fun z => c3 (hu.mpr z.2.2).1)
        · rintro _ _ ⟨us, low, v, er, rfl, rfl, hu⟩
          have : us = [] := by simpa using er.symm
          subst this
          walk_at "zz"
          exact ok r1 r2 (by omega) (by omega) (hu.mp trivial)
    · walk_at "zz"
      exact wr r1 r2 (fun z => by omega)
  · walk_at "zz"
    exact bad q
end K53

set_option Elab.async false
set_option linter.all false
set_option maxRecDepth 100000
set_option maxHeartbeats 4000000
namespace K53
open PySem L2 Z
variable {k : Nat} {h : Hm} {K : D → Hm → Prop} {X : Exn → Hm → Prop} {s : Nat}
theorem whole_is {d : D} {b : Bool} (ni : notIns d h = true) (e : kInt d = some b) (e2 : kBool d = some (!b) ∨ kBool d = some false) (q : K (.bl b) h) (z : b = true → kBool d = some false) : C (k + 1) i_law_is_whole [d] h K X := by
  (with_reducible refine rw_in (fn := f_law_is_whole) (b := b_law_is_whole) ?_ ?_ ?_ (ρ := [some d]) ?_ ?_); rfl; rfl; rfl; rfl; delta b_law_is_whole
  walk_at "zz"
  refine pw_isint e ni ?_
  (with_reducible first | refine tw_dec (fun c => ?_) (fun c => ?_) | refine aw_dec (fun c => ?_) (fun c => ?_) | refine ow_dec (fun c => ?_) (fun c => ?_) | refine bw_dec (fun c => ?_) (fun c => ?_) | refine tw_b (fun c => ?_) (fun c => ?_) | refine aw_b (fun c => ?_) (fun c => ?_) | refine ow_b (fun c => ?_) (fun c => ?_) | refine bw_b (fun c => ?_) (fun c => ?_))
  · walk_at "zz"
    refine pw_isbool (z c) ni ?_
    walk_at "zz"
    subst c
    exact q
  · subst c
    walk_at "zz"
    exact q
/-- the same, as the law asks it -/
def Sm (h : Hm) : Nat → D → D → Prop
  | _, .non, .non => True
  | _, .bl a, .bl b => a = b
  | _, .int i, .int j => i = j
  | _, .str s, .str t => s = t ∧ SeqAt.shaped (PyData.str s) = true
  | n + 1, .tup xs, .tup ys => xs.length = ys.length ∧ xs.length ≤ 1000000 ∧ ∀ (i : Nat) x y, xs[i]? = some x → ys[i]? = some y → Sm h n x y
  | n + 1, .ref a, .ref b => ∃ xs ys, h[a]? = some (.lst xs) ∧ h[b]? = some (.lst ys) ∧ xs.length = ys.length ∧ xs.length ≤ 1000000 ∧ ∀ (i : Nat) x y, xs[i]? = some x → ys[i]? = some y → Sm h n x y
  | _, _, _ => False
theorem eqD_str {a : Str} (z : SeqAt.shaped (PyData.str a) = true) : eqD (.str a) (.str a) h = some true := by
  show (if SeqAt.shaped (PyData.str a) = true ∧ SeqAt.shaped (PyData.str a) = true then some (PyData.eqv (.str a) (.str a)) else none) = some true
  rw [if_pos ⟨z, z⟩]
  simp [PyData.eqv]
theorem kl_ref {r : Nat} {xs : List D} (e : h[r]? = some (.lst xs)) : kList h (.ref r) = some true := by simp [kList, e]
theorem ks_ref {r : Nat} {xs : List D} (e : h[r]? = some (.lst xs)) : kSeq h (.ref r) = some true := by simp [kSeq, kl_ref e, Z.kTup]
theorem same_flat {n : Nat} {d e : D} (t : Sm h n d e) (fl : d.flat = true) (q : K (.bl true) h) : C (k + 2) i_law_same [d, e] h K X := by
  (with_reducible refine rw_in (fn := f_law_same) (b := b_law_same) ?_ ?_ ?_ (ρ := [some d, some e, none]) ?_ ?_); rfl; rfl; rfl; rfl; delta b_law_same
  cases d with
  | non => cases e <;> first | (cases n <;> exact t.elim) | (walk_at "zz"; exact q)
  | bl b =>
    cases e with
    | bl c => have t : b = c := by { cases n <;> exact t }; subst t; cases b <;> (walk_at "zz"; exact q)
    | _ => cases n <;> exact t.elim
  | int i =>
    cases e with
    | int j =>
      have t : i = j := by { cases n <;> exact t }
      subst t
      walk_at "zz"
      refine whole_is (b := true) rfl rfl (.inr rfl) ?_ (fun _ => rfl)
      walk_at "zz"
      simpa using q
    | _ => cases n <;> exact t.elim
  | str s =>
    cases e with
    | str s' =>
      have t : s = s' ∧ SeqAt.shaped (PyData.str s) = true := by { cases n <;> exact t }
      obtain ⟨rfl, t2⟩ := t
      walk_at "zz"
      refine pw_eqD (eqD_str t2) ?_
      walk_at "zz"
      exact q
    | _ => cases n <;> exact t.elim
  | tup xs => cases fl
  | ref r => cases fl
  | ro xs => cases fl
  | xv a b c => cases fl
theorem atD_some {xs : List D} {j : Int} (j0 : 0 ≤ j) (jl : j.toNat < xs.length) : atD xs j = some (xs[j.toNat]'jl) := (atD_pos jl j0).trans (by simp [jl])
theorem same_wp : ∀ (n : Nat) {d e : D}, Sm h n d e → ∀ {k : Nat} {K : D → Hm → Prop} {X : Exn → Hm → Prop}, K (.bl true) h → C (k + n + 2) i_law_same [d, e] h K X := by
  intro n
  induction n with
  | zero =>
    intro d e t k K X q
    cases d with
    | tup xs => cases e <;> exact t.elim
    | ref r => cases e <;> exact t.elim
    | ro xs => exact t.elim
    | xv a b c => exact t.elim
    | _ => exact same_flat t rfl q
  | succ n ih =>
    intro d e t k K X q
    cases d with
    | tup xs =>
      cases e with
      | tup ys =>
        obtain ⟨l1, l2, t⟩ := t
        (with_reducible refine rw_in (fn := f_law_same) (b := b_law_same) ?_ ?_ ?_ (ρ := [some (.tup xs), some (.tup ys), none]) ?_ ?_); rfl; rfl; rfl; rfl; delta b_law_same
        walk_at "zz"
        refine ow_f ?_
        walk_at "zz"
        refine ⟨_, _, src_r1 (small_k (by omega) (by omega)), ?_⟩
        rw [range_up]
        refine fw_up (I := fun j ρ2 h2 => ∃ (v : Option D), ρ2 = [some (.tup xs), some (.tup ys), v] ∧ h2 = h) ⟨none, rfl, rfl⟩ (fun _ _ _ _ => rfl) ?_ ?_
        · intro j ρ2 h2 j0 j1 hh
          obtain ⟨v, e1, e2⟩ := hh
          subst e1 e2
          refine ⟨_, rfl, ?_⟩
          have jl : j.toNat < xs.length := by omega
          have jl2 : j.toNat < ys.length := by omega
          walk_at "zz"
          refine pw_idxt (atD_some j0 jl) ?_
          walk_at "zz"
          refine pw_idxt (atD_some j0 jl2) ?_
          walk_at "zz"
          refine ih (t j.toNat _ _ (List.getElem?_eq_getElem jl) (List.getElem?_eq_getElem jl2)) ?_
          walk_at "zz"
          exact rd_nx ⟨_, rfl, rfl⟩
        · intro ρ2 h2 hh
          obtain ⟨v, e1, e2⟩ := hh
          subst e1 e2
          walk_at "zz"
          exact q
      | _ => exact t.elim
    | ref a =>
      cases e with
      | ref b =>
        obtain ⟨xs, ys, ea, eb, l1, l2, t⟩ := t
        (with_reducible refine rw_in (fn := f_law_same) (b := b_law_same) ?_ ?_ ?_ (ρ := [some (.ref a), some (.ref b), none]) ?_ ?_); rfl; rfl; rfl; rfl; delta b_law_same
        walk_at "zz"
        refine pw_islist (kl_ref eb) (notIns_ref eb) ?_
        walk_at "zz"
        refine pw_islist (kl_ref ea) (notIns_ref ea) ?_
        walk_at "zz"
        refine pw_isseq (ks_ref eb) (notIns_ref eb) ?_
        walk_at "zz"
        refine ⟨_, _, src_r1 (small_k (by omega) (by omega)), ?_⟩
        rw [range_up]
        refine fw_up (I := fun j ρ2 h2 => ∃ (v : Option D), ρ2 = [some (.ref a), some (.ref b), v] ∧ h2 = h) ⟨none, rfl, rfl⟩ (fun _ _ _ _ => rfl) ?_ ?_
        · intro j ρ2 h2 j0 j1 hh
          obtain ⟨v, e1, e2⟩ := hh
          subst e1 e2
          refine ⟨_, rfl, ?_⟩
          have jl : j.toNat < xs.length := by omega
          have jl2 : j.toNat < ys.length := by omega
          walk_at "zz"
          refine pw_idxr ea (atD_some j0 jl) ?_
          walk_at "zz"
          refine pw_idxr eb (atD_some j0 jl2) ?_
          walk_at "zz"
          refine ih (t j.toNat _ _ (List.getElem?_eq_getElem jl) (List.getElem?_eq_getElem jl2)) ?_
          walk_at "zz"
          exact rd_nx ⟨_, rfl, rfl⟩
        · intro ρ2 h2 hh
          obtain ⟨v, e1, e2⟩ := hh
          subst e1 e2
          walk_at "zz"
          exact q
      | _ => exact t.elim
    | ro xs => exact t.elim
    | xv a b c => exact t.elim
    | _ => exact same_flat (k := k + n + 1) t rfl q
/-- data without lists are the same as themselves -/
def Tre : Nat → D → Prop
  | _, .non => True
  | _, .bl _ => True
  | _, .int _ => True
  | _, .str s => SeqAt.shaped (PyData.str s) = true
  | n + 1, .tup xs => xs.length ≤ 1000000 ∧ ∀ x ∈ xs, Tre n x
  | _, _ => False
theorem sm_refl : ∀ (n : Nat) {d : D}, Tre n d → Sm h n d d
  | n, .non, _ => by cases n <;> exact trivial
  | n, .bl b, _ => by cases n <;> exact rfl
  | n, .int i, _ => by cases n <;> exact rfl
  | n, .str s, t => by cases n <;> exact ⟨rfl, t⟩
  | 0, .tup xs, t => t.elim
  | n + 1, .tup xs, t => ⟨rfl, t.1, fun i x y e1 e2 => by
      rw [e1] at e2; cases e2
      exact sm_refl n (t.2 x (List.mem_of_getElem? e1))⟩
  | n, .ref r, t => by cases n <;> exact t.elim
  | n, .ro xs, t => by cases n <;> exact t.elim
  | n, .xv a b c, t => by cases n <;> exact t.elim
abbrev ans (d : D) : D := .tup [.str (Str.ofString "answer"), d]
theorem tre_tupI {ts : List Int} (l : ts.length ≤ 1000000) : Tre 1 (tupI ts) := ⟨by simpa using l, fun x hx => by
  obtain ⟨n, _, rfl⟩ := List.mem_map.mp hx
  trivial⟩
theorem tre_one {a : Str} (z : SeqAt.shaped (PyData.str a) = true) : Tre 2 (.tup [.str a]) := ⟨by simp, fun x hx => by
  simp only [List.mem_cons, List.not_mem_nil, or_false] at hx
  subst hx
  exact z⟩
theorem tre_ans {d : D} (t : Tre 1 d) : Tre 2 (ans d) := ⟨by simp, fun x hx => by
  simp only [List.mem_cons, List.not_mem_nil, or_false] at hx
  rcases hx with rfl | rfl
  · exact (by decide +kernel : SeqAt.shaped (PyData.str (Str.ofString "answer")) = true)
  · exact t⟩
theorem sm_ints {a b : Nat} {ns : List Int} (ea : h[a]? = some (.lst (ns.map .int))) (eb : h[b]? = some (.lst (ns.map .int))) (l : ns.length ≤ 1000000) : Sm h 1 (.ref a) (.ref b) :=
  ⟨_, _, ea, eb, rfl, by simpa using l, fun i x y e1 e2 => by
    rw [e1] at e2; cases e2
    rw [List.getElem?_map] at e1
    obtain ⟨n, _, rfl⟩ := Option.map_eq_some_iff.mp e1
    exact rfl⟩
end K53

set_option Elab.async false
set_option linter.all false
set_option maxRecDepth 100000
set_option maxHeartbeats 4000000
namespace K53
open PySem L2 Z
variable {k : Nat} {h : Hm} {K : D → Hm → Prop} {X : Exn → Hm → Prop} {s : Nat}
/-- a list of drawn things, one for each number -/
theorem draws_wp {c : Cal} {i : Nat} {e : E} {ρ : Env'} {m : Nat} (P : D → Prop) (hs : StoreOk h s) (l : m < 1000000)
    (hd : ∀ (j : Int) (h1 : Hm), StoreOk h1 s → Fr s h h1 → EW c e (ρ.set i (some (.int j))) h1 (fun d h2 => P d ∧ StoreOk h2 s ∧ Fr s h1 h2) (fun _ _ => False))
    (q : ∀ (ds : List D) h', ds.length = m → (∀ d ∈ ds, P d) → h'[h.length]? = some (.lst ds) → StoreOk h' s → Fr s h h' → K (.ref h.length) h') :
    RW (compL [] (.name i) ρ (evE c (.lit (.bl true))) (evE c e) h.length (upD 0 m) (h ++ [.lst []])) K X := by
  have ls := hs.lt
  refine rw_comp (I := fun xs acc h' => ∃ (lo : Int) (n : Nat), xs = upD lo n ∧ acc.length + n = m ∧ (∀ d ∈ acc, P d) ∧ h'[h.length]? = some (.lst acc) ∧ StoreOk h' s ∧ Fr s h h') [] ⟨0, m, rfl, by simp, by simp, get_new, hs.app, .app⟩ (fun _ _ _ _ => rfl) ?_ ?_
  · rintro x xs acc h' ⟨lo, n, en, la, pa, ea, hs', fr⟩
    cases n with
    | zero => simp [upD] at en
    | succ n =>
      simp only [upD, List.cons.injEq] at en
      obtain ⟨rfl, rfl⟩ := en
      refine ⟨_, rfl, ew_lit (tw_t (RW.mono (hd lo h' hs' fr) (fun d h2 z => ?_) fun _ _ z => z))⟩
      obtain ⟨pd, hs2, fr2⟩ := z
      have e2 := fr2.get (by omega) ea
      have sz : acc.length < sizeLine := Nat.lt_of_lt_of_le (show acc.length < 1000000 by omega) (by decide)
      refine ⟨e2, sz, lo + 1, n, rfl, by simp; omega, ?_, get_set e2, hs2.setn ls, (fr.trans fr2).setn (Nat.le_refl _)⟩
      intro d' hd'
      rcases List.mem_append.mp hd' with hd' | hd'
      · exact pa d' hd'
      · simp only [List.mem_singleton] at hd'
        subst hd'; exact pd
  · rintro acc h' ⟨lo, n, en, la, pa, ea, hs', fr⟩
    have : n = 0 := by
      cases n with
      | zero => rfl
      | succ n => simp [upD] at en
    subst this
    exact q acc h' (by omega) pa ea hs' fr
/-- whole numbers all -/
theorem all_ints {ds : List D} (P : Int → Prop) (h : ∀ d ∈ ds, ∃ n : Int, d = .int n ∧ P n) : ∃ ns : List Int, ds = ns.map .int ∧ ∀ n ∈ ns, P n := by
  induction ds with
  | nil => exact ⟨[], rfl, by simp⟩
  | cons d r ih =>
    obtain ⟨n, rfl, p⟩ := h d (by simp)
    obtain ⟨ns, rfl, q⟩ := ih fun d hd => h d (by simp [hd])
    exact ⟨n :: ns, rfl, fun m hm => by
      rcases List.mem_cons.mp hm with rfl | hm
      · exact p
      · exact q m hm⟩
end K53

set_option Elab.async false
set_option linter.all false
set_option maxRecDepth 100000
set_option maxHeartbeats 4000000
namespace K53
open PySem L2 Z
variable {k : Nat} {h : Hm} {K : D → Hm → Prop} {X : Exn → Hm → Prop} {s : Nat}
theorem sorted_in {ring : Int} {ns : List Int} (b : ∀ t ∈ ns, 0 ≤ t ∧ t < ring) : (sortI ns).length = ns.length ∧ Up ring 0 (sortI ns) :=
  ⟨(sortI_perm ns).length_eq, up_of (sortI_sorted ns) fun t tm => b t ((sortI_perm ns).mem_iff.mp tm)⟩
theorem nextchord_wp {ring : Int} {ts : List Int} (hs : StoreOk h s) (r1 : 1 ≤ ring) (r2 : ring ≤ 48) (l1 : 1 ≤ ts.length) (l2 : ts.length ≤ 8) (u : Up ring 0 ts) (q : ∀ (us : List Int) h', us.length = ts.length → Up ring 0 us → StoreOk h' s → Fr s h h' → K (tupI us) h') : C (k + 3) i_law_next_chord [.ref s, .int ring, tupI ts] h K X := by
  (with_reducible refine rw_in (fn := f_law_next_chord) (b := b_law_next_chord) ?_ ?_ ?_ (ρ := [some (.ref s), some (.int ring), some (tupI ts), none, none, none, none, none]) ?_ ?_); rfl; rfl; rfl; rfl; delta b_law_next_chord
  have hl := hs.lt
  have ub := up_all u
  have md : ∀ a : Int, 0 ≤ a % ring ∧ a % ring < ring := fun a => ⟨Int.emod_nonneg _ (by omega), Int.emod_lt_of_pos _ (by omega)⟩
  walk_at "zz"
  with_reducible refine take_wp hs (by decide) (by decide) fun d h1 d0 d1 hs1 fr1 => ?_
  have h1l := fr1.1
  walk_at "zz"
  (with_reducible first | refine tw_dec (fun c0 => ?_) (fun c0 => ?_) | refine aw_dec (fun c0 => ?_) (fun c0 => ?_) | refine ow_dec (fun c0 => ?_) (fun c0 => ?_) | refine bw_dec (fun c0 => ?_) (fun c0 => ?_) | refine tw_b (fun c0 => ?_) (fun c0 => ?_) | refine aw_b (fun c0 => ?_) (fun c0 => ?_) | refine ow_b (fun c0 => ?_) (fun c0 => ?_) | refine bw_b (fun c0 => ?_) (fun c0 => ?_))
  · walk_at "zz"
    exact q ts _ rfl u hs1 fr1
  walk_at "zz"
  (with_reducible first | refine tw_dec (fun c1 => ?_) (fun c1 => ?_) | refine aw_dec (fun c1 => ?_) (fun c1 => ?_) | refine ow_dec (fun c1 => ?_) (fun c1 => ?_) | refine bw_dec (fun c1 => ?_) (fun c1 => ?_) | refine tw_b (fun c1 => ?_) (fun c1 => ?_) | refine aw_b (fun c1 => ?_) (fun c1 => ?_) | refine ow_b (fun c1 => ?_) (fun c1 => ?_) | refine bw_b (fun c1 => ?_) (fun c1 => ?_))
  · walk_at "zz"
    with_reducible refine take_wp hs1 (by omega) (by omega) fun by' h2 b0 b1 hs2 fr2 => ?_
    walk_at "zz"
    with_reducible refine ew_comp ?_
    walk_at "zz"
    refine ⟨_, _, src_t, ?_⟩
    refine rw_compI (fun n => .int ((n + by') % ring)) (fun _ => true) rfl (Nat.le_trans l2 (by decide)) (fun n _ u => ⟨_, rfl, ?_, fun _ => ?_⟩) ?_
    · walk_at "zz"
      exact ⟨rfl, rfl⟩
    · walk_at "zz"
      exact ⟨rfl, rfl⟩
    rw [List.filter_eq_self.mpr fun _ _ => rfl]
    have em : (ts.map fun n => D.int ((n + by') % ring)) = (ts.map fun n => (n + by') % ring).map .int := by rw [List.map_map]; rfl
    rw [em]
    have si := sorted_in (ring := ring) (ns := ts.map fun n => (n + by') % ring) (fun t ht => by obtain ⟨a, _, rfl⟩ := List.mem_map.mp ht; exact md _)
    rw [List.length_map] at si
    refine lw_nil (pw_sorted get_new (intsOf_map _) ?_)
    refine lw_nil (pw_tupr get_new ?_)
    exact q _ _ si.1 si.2 hs2.app.app ((fr1.trans fr2).trans (Fr.trans .app .app))
  walk_at "zz"
  (with_reducible first | refine tw_dec (fun c2 => ?_) (fun c2 => ?_) | refine aw_dec (fun c2 => ?_) (fun c2 => ?_) | refine ow_dec (fun c2 => ?_) (fun c2 => ?_) | refine bw_dec (fun c2 => ?_) (fun c2 => ?_) | refine tw_b (fun c2 => ?_) (fun c2 => ?_) | refine aw_b (fun c2 => ?_) (fun c2 => ?_) | refine ow_b (fun c2 => ?_) (fun c2 => ?_) | refine bw_b (fun c2 => ?_) (fun c2 => ?_))
  · walk_at "zz"
    with_reducible refine pw_list (xs := ts.map .int) ?_ ?_
    · rfl
    with_reducible refine sq_nx (sw_seq (sw_set (ew_call (lw_cons ?_))))
    refine ew_var rfl ?_
    with_reducible refine lw_cons (ew_prim (lw_cons ?_))
    refine ew_var rfl ?_
    with_reducible refine lw_nil (pw_lenr get_new ?_)
    rw [List.length_map]
    with_reducible refine lw_nil ?_
    have hs1' : StoreOk (h1 ++ [Cell.lst (ts.map .int)]) s := hs1.app
    with_reducible refine take_wp hs1' ?_ ?_ fun i h2 i0 i1 hs2 fr2 => ?_
    · omega
    · omega
    have e2 := fr2.get (by omega) (get_new (h := h1) (x := Cell.lst (ts.map .int)))
    have h2l := fr2.1
    have il : i.toNat < ts.length := by omega
    have ea : atD (ts.map D.int) i = some (.int (ts[i.toNat]'il)) := by
      rw [atD_pos (by rw [List.length_map]; exact il) i0]
      simp [il]
    walk_at "zz"
    refine pw_idxr e2 ea ?_
    walk_at "zz"
    with_reducible refine take_wp hs2 (by decide) (by decide) fun v h3 v0 v1 hs3 fr3 => ?_
    have e3 := fr3.get (by omega) e2
    walk_at "zz"
    refine rw_setix e3 (m := i.toNat) (by unfold ixN; rw [List.length_map]; simp [i0, i1]) ?_
    rw [show (D.int ((ts[i.toNat]'il + 1 - 2 * v) % ring)) = D.int ((ts[i.toNat]'il + 1 - 2 * v) % ring) from rfl, ← List.map_set]
    have si := sorted_in (ring := ring) (ns := ts.set i.toNat ((ts[i.toNat]'il + 1 - 2 * v) % ring)) (fun t ht => by
      rcases List.mem_or_eq_of_mem_set ht with z | rfl
      · exact ub t z
      · exact md _)
    rw [List.length_set] at si
    have e4 := get_set (x := Cell.lst ((ts.set i.toNat ((ts[i.toNat]'il + 1 - 2 * v) % ring)).map .int)) e3
    walk_at "zz"
    refine pw_sorted e4 (intsOf_map _) ?_
    refine lw_nil (pw_tupr get_new ?_)
    refine q _ _ si.1 si.2 (hs3.setn (by omega)).app (Fr.trans (Fr.setn (((fr1.trans .app).trans fr2).trans fr3) (by omega)) .app)
  walk_at "zz"
  (with_reducible first | refine tw_dec (fun c3 => ?_) (fun c3 => ?_) | refine aw_dec (fun c3 => ?_) (fun c3 => ?_) | refine ow_dec (fun c3 => ?_) (fun c3 => ?_) | refine bw_dec (fun c3 => ?_) (fun c3 => ?_) | refine tw_b (fun c3 => ?_) (fun c3 => ?_) | refine aw_b (fun c3 => ?_) (fun c3 => ?_) | refine ow_b (fun c3 => ?_) (fun c3 => ?_) | refine bw_b (fun c3 => ?_) (fun c3 => ?_))
  · walk_at "zz"
    with_reducible refine ew_comp ?_
    walk_at "zz"
    refine ⟨_, _, src_t, ?_⟩
    refine rw_comp (I := fun xs acc h' => ∃ us vs : List Int, xs = us.map .int ∧ acc = vs.map .int ∧ us.length + vs.length = ts.length ∧ (∀ t ∈ vs, 0 ≤ t ∧ t < ring) ∧ h'[h1.length]? = some (.lst (vs.map .int)) ∧ StoreOk h' s ∧ Fr s h h') [] ⟨ts, [], rfl, rfl, by simp, by simp, get_new, hs1.app, fr1.trans .app⟩ (fun _ _ _ _ => rfl) ?_ ?_
    · rintro x r acc h2 ⟨us, vs, eu, rfl, lu, bv, e2, hs2, fr2⟩
      cases us with
      | nil => simp at eu
      | cons a us =>
        simp only [List.map_cons, List.cons.injEq] at eu
        obtain ⟨rfl, rfl⟩ := eu
        simp only [List.length_cons] at lu
        refine ⟨_, rfl, ?_⟩
        walk_at "zz"
        with_reducible refine take_wp hs2 (by decide) (by decide) fun v h3 v0 v1 hs3 fr3 => ?_
        have e3 := fr3.get (by omega) e2
        walk_at "zz"
        refine ⟨e3, ?_, us, vs ++ [(a + v - 1) % ring], rfl, by simp, by simp; omega, ?_, (get_set e3).trans (by simp), hs3.setn (by omega), (fr2.trans fr3).setn (by omega)⟩
        · rw [List.length_map]
          exact Nat.lt_of_lt_of_le (show _ < 1000000 by omega) (by decide)
        · intro t ht
          rcases List.mem_append.mp ht with z | z
          · exact bv t z
          · rw [List.mem_singleton.mp z]
            exact md _
    · rintro acc h2 ⟨us, vs, eu, rfl, lu, bv, e2, hs2, fr2⟩
      have : us = [] := by simpa using eu.symm
      subst this
      have si := sorted_in bv
      simp only [List.length_nil] at lu
      refine lw_nil (pw_sorted e2 (intsOf_map _) ?_)
      refine lw_nil (pw_tupr get_new ?_)
      exact q _ _ (by omega) si.2 hs2.app (fr2.trans .app)
  walk_at "zz"
  rw [List.length_map]
  with_reducible refine chord_wp hs1 r1 ?_ ?_ ?_ fun us h2 lu uu hs2 fr2 => ?_
  · omega
  · omega
  · omega
  walk_at "zz"
  exact q us _ (by omega) uu hs2 (fr1.trans fr2)
end K53

set_option Elab.async false
set_option linter.all false
set_option maxRecDepth 100000
set_option maxHeartbeats 4000000
namespace K53
open PySem L2 Z
/-! rows of sums and sums above a line -/
def pos (c : Int) : List Int → Int
  | [] => 0
  | x :: r => (if c < x then x - c else 0) + pos c r
theorem pos_perm {c : Int} {a b : List Int} (p : a.Perm b) : pos c a = pos c b := by
  induction p with
  | nil => rfl
  | cons x _ ih => simp only [pos, ih]
  | swap x y l => simp only [pos]; omega
  | trans _ _ h1 h2 => exact h1.trans h2
theorem pos_nn {c : Int} : ∀ l : List Int, 0 ≤ pos c l
  | [] => by simp [pos]
  | x :: r => by
    have := pos_nn (c := c) r
    simp only [pos]; split <;> omega
theorem pos_ge {c : Int} : ∀ (l : List Int) (k : Nat), k ≤ l.length → (l.take k).sum - k * c ≤ pos c l
  | l, 0, _ => by
    have := pos_nn (c := c) l
    simpa using this
  | [], k + 1, h => by simp at h
  | x :: r, k + 1, h => by
    have := pos_ge (c := c) r k (by simpa using h)
    have e : (((k + 1 : Nat) : Int)) * c = k * c + c := by rw [Int.natCast_add, Int.add_mul]; simp
    simp only [List.take_succ_cons, List.sum_cons, pos, e]
    split <;> omega
theorem pos_zero {c : Int} : ∀ l : List Int, (∀ x ∈ l, x ≤ c) → pos c l = 0
  | [], _ => rfl
  | x :: r, h => by
    have := h x (by simp)
    simp only [pos, pos_zero r fun y hy => h y (by simp [hy])]
    rw [if_neg (by omega)]; rfl
theorem pos_eq {c : Int} : ∀ (l : List Int) (k : Nat), k ≤ l.length → (∀ x ∈ l.take k, c ≤ x) → (∀ x ∈ l.drop k, x ≤ c) → pos c l = (l.take k).sum - k * c
  | l, 0, _, _, h => by
    rw [pos_zero l (by simpa using h)]
    simp
  | [], k + 1, h, _, _ => by simp at h
  | x :: r, k + 1, h, h1, h2 => by
    have e : (((k + 1 : Nat) : Int)) * c = k * c + c := by rw [Int.natCast_add, Int.add_mul]; simp
    have ih := pos_eq (c := c) r k (by simpa using h) (fun y hy => h1 y (by simp [hy])) (fun y hy => h2 y (by simpa using hy))
    have hx := h1 x (by simp)
    simp only [List.take_succ_cons, List.sum_cons, pos, e, ih]
    split <;> omega
theorem pos_at {c : Int} : ∀ l : List Int, l.Pairwise (· ≥ ·) → ∃ k, k ≤ l.length ∧ pos c l = (l.take k).sum - k * c
  | [], _ => ⟨0, by simp, by simp [pos]⟩
  | x :: r, h => by
    rw [List.pairwise_cons] at h
    by_cases hx : c < x
    · obtain ⟨k, h1, h2⟩ := pos_at (c := c) r h.2
      refine ⟨k + 1, by simpa using h1, ?_⟩
      have e : (((k + 1 : Nat) : Int)) * c = k * c + c := by rw [Int.natCast_add, Int.add_mul]; simp
      simp only [List.take_succ_cons, List.sum_cons, pos, e, h2, if_pos hx]
      omega
    · refine ⟨0, by simp, ?_⟩
      rw [pos_zero (x :: r) fun y hy => ?_]
      · simp
      · rcases List.mem_cons.mp hy with rfl | hy
        · omega
        · have := h.1 y hy
          omega
theorem desc_take {l : List Int} (h : l.Pairwise (· ≥ ·)) {k : Nat} (hk : k < l.length) : (∀ x ∈ l.take (k + 1), l[k] ≤ x) ∧ ∀ x ∈ l.drop (k + 1), x ≤ l[k] := by
  rw [List.pairwise_iff_getElem] at h
  constructor
  · intro x hx
    obtain ⟨i, hi, rfl⟩ := List.mem_iff_getElem.mp hx
    rw [List.getElem_take]
    simp at hi
    by_cases e : i = k
    · subst e; exact Int.le_refl _
    · exact h i k (by omega) hk (by omega)
  · intro x hx
    obtain ⟨i, hi, rfl⟩ := List.mem_iff_getElem.mp hx
    rw [List.getElem_drop]
    simp at hi
    exact h k (k + 1 + i) hk (by omega) (by omega)
theorem under_pos {a b : List Int} (l : a.length = b.length) (da : a.Pairwise (· ≥ ·)) (u : ∀ k, k ≤ a.length → (a.take k).sum ≤ (b.take k).sum) (c : Int) : pos c a ≤ pos c b := by
  obtain ⟨k, h1, h2⟩ := pos_at (c := c) a da
  have h3 := pos_ge (c := c) b k (by omega)
  have := u k h1
  omega
theorem pos_under {a b : List Int} (l : a.length = b.length) (db : b.Pairwise (· ≥ ·)) (u : ∀ c ∈ b, pos c a ≤ pos c b) (k : Nat) (hk : k ≤ a.length) : (a.take k).sum ≤ (b.take k).sum := by
  cases k with
  | zero => simp
  | succ k =>
    have hkb : k < b.length := by omega
    obtain ⟨h1, h2⟩ := desc_take db hkb
    have h3 := pos_eq (c := b[k]) b (k + 1) (by omega) h1 h2
    have h4 := pos_ge (c := b[k]) a (k + 1) hk
    have := u b[k] (List.getElem_mem _)
    omega
/-- the rows' sums, from the greatest on -/
def descI (l : List Int) : List Int := (sortI l).reverse
theorem descI_perm {l : List Int} : (descI l).Perm l := (List.reverse_perm _).trans (sortI_perm l)
theorem descI_desc {l : List Int} : (descI l).Pairwise (· ≥ ·) := by
  unfold descI
  rw [List.pairwise_reverse]
  exact sortI_sorted l
theorem descI_len {l : List Int} : (descI l).length = l.length := descI_perm.length_eq
def topI (l : List Int) (k : Nat) : Int := ((descI l).take k).sum
/-- under, by tops and by sums above each line -/
theorem under_iff {a b : List Int} (l : a.length = b.length) : (∀ k, k ≤ a.length → topI a k ≤ topI b k) ↔ ∀ c, pos c a ≤ pos c b := by
  have la : (descI a).length = a.length := descI_len
  have lb : (descI b).length = b.length := descI_len
  constructor
  · intro u c
    rw [← pos_perm (descI_perm (l := a)), ← pos_perm (descI_perm (l := b))]
    exact under_pos (by omega) descI_desc (fun k hk => u k (by omega)) c
  · intro u k hk
    refine pos_under (by omega) descI_desc (fun c _ => ?_) k (by omega)
    rw [pos_perm (descI_perm (l := a)), pos_perm (descI_perm (l := b))]
    exact u c
theorem under_iff' {a b : List Int} (l : a.length = b.length) : (∀ k, k ≤ a.length → topI a k ≤ topI b k) ↔ ∀ c ∈ b, pos c a ≤ pos c b := by
  have la : (descI a).length = a.length := descI_len
  have lb : (descI b).length = b.length := descI_len
  constructor
  · intro u c _
    exact (under_iff l).mp u c
  · intro u k hk
    refine pos_under (by omega) descI_desc (fun c hc => ?_) k (by omega)
    rw [pos_perm (descI_perm (l := a)), pos_perm (descI_perm (l := b))]
    exact u c (descI_perm.mem_iff.mp hc)
/-- running sums -/
def runI (t : Int) : List Int → List Int
  | [] => []
  | x :: r => (t + x) :: runI (t + x) r
theorem runI_len : ∀ (l : List Int) (t : Int), (runI t l).length = l.length
  | [], _ => rfl
  | x :: r, t => by simp [runI, runI_len r]
theorem runI_get : ∀ (l : List Int) (t : Int) (k : Nat) (h : k < (runI t l).length), (runI t l)[k] = t + (l.take (k + 1)).sum
  | [], _, _, h => by simp [runI] at h
  | x :: r, t, 0, h => by simp [runI]
  | x :: r, t, k + 1, h => by
    simp only [runI, List.getElem_cons_succ]
    rw [runI_get r]
    simp [Int.add_assoc]
theorem runI_snoc : ∀ (l : List Int) (t x : Int), runI t (l ++ [x]) = runI t l ++ [t + l.sum + x]
  | [], t, x => by simp [runI]
  | y :: r, t, x => by
    simp only [List.cons_append, runI, runI_snoc r]
    simp [Int.add_assoc]
def topsI (l : List Int) : List Int := runI 0 (descI l)
theorem topsI_len {l : List Int} : (topsI l).length = l.length := by rw [topsI, runI_len, descI_len]
theorem topsI_get {l : List Int} {k : Nat} (h : k < (topsI l).length) : (topsI l)[k] = topI l (k + 1) := by
  exact (runI_get (descI l) 0 k h).trans (Int.zero_add _)
end K53

set_option Elab.async false
set_option linter.all false
set_option maxRecDepth 100000
set_option maxHeartbeats 4000000
namespace K53
open PySem L2 Z
variable {k : Nat} {h : Hm} {K : D → Hm → Prop} {X : Exn → Hm → Prop} {s : Nat}
/-- the pitch of a place in a row of tones -/
def pit (ring : Int) (row : List Int) (p : Int) : Int := (row.getD (p % row.length).toNat 0) + ring * (p / row.length)
theorem pit_at {row : List Int} {p : Int} (n0 : 1 ≤ row.length) : atD (row.map D.int) (p % (row.length : Int)) = some (.int (row.getD (p % row.length).toNat 0)) := by
  have h0 : 0 ≤ p % (row.length : Int) := Int.emod_nonneg _ (by omega)
  have h1 : p % (row.length : Int) < row.length := Int.emod_lt_of_pos _ (by omega)
  have h2 : (p % (row.length : Int)).toNat < row.length := by omega
  rw [atD_pos (by rw [List.length_map]; exact h2) h0, List.getElem?_map, List.getElem?_eq_getElem h2, List.getD_eq_getElem?_getD, List.getElem?_eq_getElem h2]
  rfl
theorem lawpitch_wp {ring p : Int} {row : List Int} (n0 : 1 ≤ row.length) (n1 : row.length < 1000000) (r0 : -(2 ^ 64) < ring) (r1 : ring < 2 ^ 64) (q : K (.int (pit ring row p)) h) : C (k + 1) i_law_pitch [.int ring, .tup (row.map .int), .int p] h K X := by
  (with_reducible refine rw_in (fn := f_law_pitch) (b := b_law_pitch) ?_ ?_ ?_ (ρ := [some (.int ring), some (.tup (row.map .int)), some (.int p), none]) ?_ ?_); rfl; rfl; rfl; rfl; delta b_law_pitch
  walk_at "zz"
  rw [List.length_map]
  refine pw_mod (by omega) ?_
  walk_at "zz"
  refine pw_idxt (pit_at n0) ?_
  walk_at "zz"
  exact q
def absI (i : Int) : Int := if i < 0 then -i else i
/-- the sizes of the straight leading with so many turns -/
def szs (ring : Int) (x y : List Int) (a : Int) : List Int := (List.range x.length).map fun (k : Nat) => absI (pit ring y ((k : Int) + a) - x.getD k 0)
theorem szs_len {ring : Int} {x y : List Int} {a : Int} : (szs ring x y a).length = x.length := by simp [szs]
theorem getD_at {x : List Int} {n : Nat} (hn : n < x.length) : atD (x.map D.int) (n : Int) = some (.int (x.getD n 0)) := by
  rw [atD_pos (by rw [List.length_map]; simpa using hn) (by omega), List.getElem?_map]
  have : (n : Int).toNat = n := by omega
  rw [this, List.getElem?_eq_getElem hn, List.getD_eq_getElem?_getD, List.getElem?_eq_getElem hn]
  rfl
/-- what a threshold makes of sizes -/
def hin (xs : List Int) (t : Int) : Int := (xs.map fun z => if z - t + 1 > 0 then z - t + 1 else 0).sum
section
variable {ring : Int} {x y : List Int} {a t : Int}
theorem law_szs_wp (r1 : 1 ≤ ring) (r2 : ring ≤ 48) (l1 : 1 ≤ x.length) (l2 : x.length ≤ 8) (ly : y.length = x.length) (q : ∀ H r, Gr h H → h.length ≤ r → H[r]? = some (.lst ((szs ring x y a).map .int)) → K (.ref r) H) : C (k + 2) i_law_straight_sizes [.int ring, tupI x, tupI y, .int a] h K X := by
  (with_reducible refine rw_in (fn := f_law_straight_sizes) (b := b_law_straight_sizes) ?_ ?_ ?_ (ρ := [some (.int ring), some (tupI x), some (tupI y), some (.int a), none]) ?_ ?_); rfl; rfl; rfl; rfl; delta b_law_straight_sizes
  walk_at "zz"
  with_reducible refine ew_comp ?_
  walk_at "zz"
  rw [List.length_map]
  refine ⟨_, _, src_r1 (small_k (by omega) (by omega)), ?_⟩
  rw [range_nat, Int.toNat_natCast]
  refine rw_compG (fun k : Nat => D.int k) (fun k : Nat => D.int (absI (pit ring y ((k : Int) + a) - x.getD k 0))) (fun _ => true) rfl (by rw [List.length_range]; exact Nat.le_trans l2 (by decide)) (fun n hn H g => ⟨_, rfl, ?_, fun _ H' g' => ?_⟩) fun H g e => ?_
  · walk_at "zz"
    exact ⟨rfl, .refl⟩
  · rw [List.mem_range] at hn
    walk_at "zz"
    refine lawpitch_wp (by omega) (by omega) (by omega) (by omega) ?_
    walk_at "zz"
    refine pw_idxt (getD_at hn) ?_
    walk_at "zz"
    exact ⟨rfl, .refl⟩
  · refine q _ _ g (Nat.le_refl _) ?_
    rw [e, List.filter_eq_self.mpr fun _ _ => rfl]
    unfold szs
    rw [List.map_map]
    rfl
theorem szs_wp (r1 : 1 ≤ ring) (r2 : ring ≤ 48) (l1 : 1 ≤ x.length) (l2 : x.length ≤ 8) (ly : y.length = x.length) (q : ∀ H r, Gr h H → h.length ≤ r → H[r]? = some (.lst ((szs ring x y a).map .int)) → K (.ref r) H) : C (k + 1) i_straight_sizes [.int ring, tupI x, tupI y, .int a] h K X := by
  (with_reducible refine rw_in (fn := f_straight_sizes) (b := b_straight_sizes) ?_ ?_ ?_ (ρ := [some (.int ring), some (tupI x), some (tupI y), some (.int a), none, none, none, none, none]) ?_ ?_); rfl; rfl; rfl; rfl; delta b_straight_sizes
  walk_at "zz"
  rw [List.length_map]
  refine ⟨_, _, src_r1 (small_k (by omega) (by omega)), ?_⟩
  rw [range_up, Int.toNat_natCast]
  refine fw_up (I := fun k ρ2 h2 => ∃ v6 v7 v8, ρ2 = [some (.int ring), some (tupI x), some (tupI y), some (.int a), some (.int x.length), some (.ref h.length), v6, v7, v8] ∧ Gr h h2 ∧ h2[h.length]? = some (.lst (((szs ring x y a).take k.toNat).map .int))) ⟨none, none, none, rfl, .app, get_new⟩ (fun _ _ _ _ => rfl) ?_ ?_
  · rintro n _ h2 n0 n1 ⟨v6, v7, v8, rfl, g, e⟩
    refine ⟨_, rfl, ?_⟩
    walk_at "zz"
    have hn : n.toNat < x.length := by omega
    have hp : atD (y.map D.int) ((n + a) % (x.length : Int)) = some (.int (y.getD ((n + a) % (x.length : Int)).toNat 0)) := by
      have := pit_at (row := y) (p := n + a) (by omega)
      rw [ly] at this; exact this
    refine pw_idxt hp ?_
    walk_at "zz"
    have hx : atD (x.map D.int) n = some (.int (x.getD n.toNat 0)) := by
      have := getD_at hn
      rwa [show ((n.toNat : Nat) : Int) = n by omega] at this
    refine pw_idxt hx ?_
    walk_at "zz"
    refine pw_append e ?_ ?_
    · rw [List.length_map, List.length_take]
      exact Nat.lt_of_le_of_lt (Nat.le_trans (Nat.min_le_right _ _) (by rw [szs_len]; exact l2)) (by decide)
    · walk_at "zz"
      refine rd_nx ⟨_, _, _, rfl, g.set (Nat.le_refl _), ?_⟩
      rw [get_set e]
      have e1 : (n + 1).toNat = n.toNat + 1 := by omega
      rw [e1, List.take_succ_eq_append_getElem (by rw [szs_len]; exact hn), List.map_append]
      congr 3
      simp only [List.map_cons, List.map_nil, szs, List.getElem_map, List.getElem_range, absI, pit, ly]
      rw [show ((n.toNat : Nat) : Int) = n by omega]
  · rintro _ h2 ⟨v6, v7, v8, rfl, g, e⟩
    walk_at "zz"
    refine q _ _ g (Nat.le_refl _) ?_
    rw [e, List.take_of_length_le (by rw [szs_len]; omega)]
theorem law_hin_wp {r : Nat} {xs : List Int} (e : h[r]? = some (.lst (xs.map .int))) (l : xs.length ≤ 900) (q : ∀ H, Gr h H → K (.int (hin xs t)) H) : C (k + 1) i_law_hinge [.ref r, .int t] h K X := by
  (with_reducible refine rw_in (fn := f_law_hinge) (b := b_law_hinge) ?_ ?_ ?_ (ρ := [some (.ref r), some (.int t), none]) ?_ ?_); rfl; rfl; rfl; rfl; delta b_law_hinge
  walk_at "zz"
  refine ew_comp (lw_cons (ew_var rfl (lw_nil ⟨_, _, src_r e, ?_⟩)))
  refine rw_compG D.int (fun z : Int => D.int (if z - t + 1 > 0 then z - t + 1 else 0)) (fun _ => true) (gd_one e) (Nat.le_trans l (by decide)) (fun n hn H g => ⟨_, rfl, ?_, fun _ H' g' => ?_⟩) fun H g e => ?_
  · walk_at "zz"
    exact ⟨rfl, .refl⟩
  · walk_at "zz"
    exact ⟨rfl, .refl⟩
  · rw [List.filter_eq_self.mpr fun _ _ => rfl] at e
    have e2 : H[h.length]? = some (.lst ((xs.map fun z => if z - t + 1 > 0 then z - t + 1 else 0).map .int)) := by rw [e, List.map_map]; rfl
    refine lw_nil (pw_sumr e2 ?_)
    walk_at "zz"
    exact q _ g
theorem hin_wp {r : Nat} {xs : List Int} (e : h[r]? = some (.lst (xs.map .int))) (l : xs.length ≤ 900) (q : ∀ H, Gr h H → K (.int (hin xs t)) H) : C (k + 1) i_hinge_cost [.ref r, .int t] h K X := by
  (with_reducible refine rw_in (fn := f_hinge_cost) (b := b_hinge_cost) ?_ ?_ ?_ (ρ := [some (.ref r), some (.int t), none]) ?_ ?_); rfl; rfl; rfl; rfl; delta b_hinge_cost
  walk_at "zz"
  refine ew_comp (lw_cons (ew_var rfl (lw_nil ⟨_, _, src_r e, ?_⟩)))
  refine rw_compG D.int (fun z : Int => D.int (if z - t + 1 > 0 then z - t + 1 else 0)) (fun _ => true) (gd_one e) (Nat.le_trans l (by decide)) (fun n hn H g => ⟨_, rfl, ?_, fun _ H' g' => ?_⟩) fun H g e => ?_
  · walk_at "zz"
    exact ⟨rfl, .refl⟩
  · walk_at "zz"
    exact ⟨rfl, .refl⟩
  · rw [List.filter_eq_self.mpr fun _ _ => rfl] at e
    have e2 : H[h.length]? = some (.lst ((xs.map fun z => if z - t + 1 > 0 then z - t + 1 else 0).map .int)) := by rw [e, List.map_map]; rfl
    refine lw_nil (pw_sumr e2 ?_)
    walk_at "zz"
    exact q _ g
end
end K53

set_option Elab.async false
set_option linter.all false
set_option maxRecDepth 100000
set_option maxHeartbeats 4000000
namespace K53
open PySem L2 Z
variable {k : Nat} {h : Hm} {K : D → Hm → Prop} {X : Exn → Hm → Prop} {s : Nat}
abbrev xE : Exn := ⟨Str.ofString "EffortError", [Str.ofString "at"], [.int 0]⟩
section
variable {ring : Int} {x y : List Int} {a t u : Int}
/-- what a leading more costs -/
def rise (ring : Int) (x y : List Int) (t a : Int) : Int := hin (szs ring x y (a + 1)) t - hin (szs ring x y a) t
structure Two (ring : Int) (x y : List Int) : Prop where
  r1 : 1 ≤ ring
  r2 : ring ≤ 48
  l1 : 1 ≤ x.length
  l2 : x.length ≤ 8
  ly : y.length = x.length
  ux : Up ring 0 x
  uy : Up ring 0 y
theorem pair_wp (ok : Two ring x y → K .non h) (bad : (ring < 1 ∨ 48 < ring) → X xR h) (wr : 1 ≤ ring → ring ≤ 48 → (Wrong ring x ∨ Wrong ring y ∨ x.length ≠ y.length) → X xS h) : C (k + 3) i_check_pair [.int ring, tupI x, tupI y] h K X := by
  (with_reducible refine rw_in (fn := f_check_pair) (b := b_check_pair) ?_ ?_ ?_ (ρ := [some (.int ring), some (tupI x), some (tupI y)]) ?_ ?_); rfl; rfl; rfl; rfl; delta b_check_pair
  walk_at "zz"
  with_reducible refine cc_wp (fun r1 r2 a1 a2 a3 => ?_) (fun c => ?_) fun r1 r2 c => ?_
  · walk_at "zz"
    with_reducible refine cc_wp (fun _ _ b1 b2 b3 => ?_) (fun c => ?_) fun _ _ c => ?_
    · walk_at "zz"
      rw [List.length_map, List.length_map]
      refine tw_dec (fun c => ?_) fun c => ?_
      · walk_at "zz"
        exact wr r1 r2 (.inr (.inr (by omega)))
      · walk_at "zz"
        exact ok ⟨r1, r2, a1, a2, by omega, a3, b3⟩
    · omega
    · walk_at "zz"
      exact wr r1 r2 (.inr (.inl c))
  · walk_at "zz"
    exact bad c
  · walk_at "zz"
    exact wr r1 r2 (.inl c)
theorem quarrel_wp (ok : Two ring x y → 1 ≤ t → t ≤ 999 → 1 ≤ u → u ≤ 999 → ∀ H, Gr h H → K (.bl (decide (0 < rise ring x y t a) && decide (rise ring x y u a < 0))) H) (bad : (ring < 1 ∨ 48 < ring) → X xR h) (wr : 1 ≤ ring → ring ≤ 48 → (Wrong ring x ∨ Wrong ring y ∨ x.length ≠ y.length) → X xS h) (er : Two ring x y → (t < 1 ∨ 999 < t ∨ u < 1 ∨ 999 < u) → X xE h) : C (k + 4) i_is_quarrel [.int ring, tupI x, tupI y, .int t, .int u, .int a] h K X := by
  (with_reducible refine rw_in (fn := f_is_quarrel) (b := b_is_quarrel) ?_ ?_ ?_ (ρ := [some (.int ring), some (tupI x), some (tupI y), some (.int t), some (.int u), some (.int a), none, none]) ?_ ?_); rfl; rfl; rfl; rfl; delta b_is_quarrel
  walk_at "zz"
  with_reducible refine pair_wp (fun T => ?_) (fun c => ?_) fun r1 r2 c => ?_
  · have er := er T
    walk_at "zz"
    (with_reducible first | refine tw_dec (fun c1 => ?_) (fun c1 => ?_) | refine aw_dec (fun c1 => ?_) (fun c1 => ?_) | refine ow_dec (fun c1 => ?_) (fun c1 => ?_) | refine bw_dec (fun c1 => ?_) (fun c1 => ?_) | refine tw_b (fun c1 => ?_) (fun c1 => ?_) | refine aw_b (fun c1 => ?_) (fun c1 => ?_) | refine ow_b (fun c1 => ?_) (fun c1 => ?_) | refine bw_b (fun c1 => ?_) (fun c1 => ?_))
    · walk_at "zz"
      exact er (by omega)
    · walk_at "zz"
      (with_reducible first | refine tw_dec (fun c2 => ?_) (fun c2 => ?_) | refine aw_dec (fun c2 => ?_) (fun c2 => ?_) | refine ow_dec (fun c2 => ?_) (fun c2 => ?_) | refine bw_dec (fun c2 => ?_) (fun c2 => ?_) | refine tw_b (fun c2 => ?_) (fun c2 => ?_) | refine aw_b (fun c2 => ?_) (fun c2 => ?_) | refine ow_b (fun c2 => ?_) (fun c2 => ?_) | refine bw_b (fun c2 => ?_) (fun c2 => ?_))
      · walk_at "zz"
        exact er (by omega)
      · walk_at "zz"
        (with_reducible first | refine tw_dec (fun c3 => ?_) (fun c3 => ?_) | refine aw_dec (fun c3 => ?_) (fun c3 => ?_) | refine ow_dec (fun c3 => ?_) (fun c3 => ?_) | refine bw_dec (fun c3 => ?_) (fun c3 => ?_) | refine tw_b (fun c3 => ?_) (fun c3 => ?_) | refine aw_b (fun c3 => ?_) (fun c3 => ?_) | refine ow_b (fun c3 => ?_) (fun c3 => ?_) | refine bw_b (fun c3 => ?_) (fun c3 => ?_))
        · walk_at "zz"
          exact er (by omega)
        · walk_at "zz"
          (with_reducible first | refine tw_dec (fun c4 => ?_) (fun c4 => ?_) | refine aw_dec (fun c4 => ?_) (fun c4 => ?_) | refine ow_dec (fun c4 => ?_) (fun c4 => ?_) | refine bw_dec (fun c4 => ?_) (fun c4 => ?_) | refine tw_b (fun c4 => ?_) (fun c4 => ?_) | refine aw_b (fun c4 => ?_) (fun c4 => ?_) | refine ow_b (fun c4 => ?_) (fun c4 => ?_) | refine bw_b (fun c4 => ?_) (fun c4 => ?_))
          · walk_at "zz"
            exact er (by omega)
          · walk_at "zz"
            with_reducible refine szs_wp T.r1 T.r2 T.l1 T.l2 T.ly fun H1 r1 g1 _ e1 => ?_
            walk_at "zz"
            with_reducible refine szs_wp T.r1 T.r2 T.l1 T.l2 T.ly fun H2 r2 g2 _ e2 => ?_
            have e1 := g2.get e1
            have lz : ∀ b, (szs ring x y b).length ≤ 900 := fun b => by rw [szs_len]; have := T.l2; omega
            walk_at "zz"
            with_reducible refine hin_wp e1 (lz _) fun H3 g3 => ?_
            walk_at "zz"
            with_reducible refine hin_wp (g3.get e2) (lz _) fun H4 g4 => ?_
            have ok := ok T (by omega) (by omega) (by omega) (by omega)
            walk_at "zz"
            refine tw_dec (fun c => ?_) fun c => ?_
            · walk_at "zz"
              have := ok H4 (g1.trans (g2.trans (g3.trans g4)))
              rw [decide_eq_false (show ¬ 0 < rise ring x y t a by unfold rise; omega), Bool.false_and] at this
              exact this
            · walk_at "zz"
              with_reducible refine hin_wp (g4.get (g3.get e1)) (lz _) fun H5 g5 => ?_
              walk_at "zz"
              with_reducible refine hin_wp (g5.get (g4.get (g3.get e2))) (lz _) fun H6 g6 => ?_
              walk_at "zz"
              have := ok H6 (g1.trans (g2.trans (g3.trans (g4.trans (g5.trans g6)))))
              rw [decide_eq_true (show 0 < rise ring x y t a by unfold rise; omega), Bool.true_and] at this
              rw [show decide (hin (szs ring x y (a + 1)) u < hin (szs ring x y a) u) = decide (rise ring x y u a < 0) from decide_eq_decide.mpr (by unfold rise; omega)]
              exact this
  · walk_at "zz"
    exact bad c
  · walk_at "zz"
    exact wr r1 r2 c
end
end K53

set_option Elab.async false
set_option linter.all false
set_option maxRecDepth 100000
set_option maxHeartbeats 4000000
namespace K53
open PySem L2 Z
/-! the rows go on upwards all round -/
section
variable {ring : Int} {x y : List Int}
theorem up_get {top : Int} : ∀ {l : List Int} {low : Int}, Up top low l → ∀ i (h : i < l.length), low ≤ l[i] ∧ l[i] < top
  | _, _, u, i, h => up_all u _ (List.getElem_mem h)
theorem up_mono {top : Int} {l : List Int} {low : Int} (u : Up top low l) {i j : Nat} (ij : i ≤ j) (hj : j < l.length) : l[i] ≤ l[j] := by
  have p := up_sorted u
  rw [List.pairwise_iff_getElem] at p
  by_cases e : i = j
  · subst e; exact Int.le_refl _
  · exact p i j (by omega) hj (by omega)
theorem pit_turn {p : Int} {row : List Int} (n0 : 1 ≤ row.length) : pit ring row (p + row.length) = pit ring row p + ring := by
  unfold pit
  rw [Int.add_emod_right, Int.add_ediv_of_dvd_right (Int.dvd_refl _), Int.ediv_self (by omega), Int.mul_add]
  omega
theorem getD_get {l : List Int} {i : Nat} (h : i < l.length) : l.getD i 0 = l[i] := by
  rw [List.getD_eq_getElem?_getD, List.getElem?_eq_getElem h]; rfl
theorem pit_step {row : List Int} (r0 : 0 ≤ ring) (n0 : 1 ≤ row.length) (u : Up ring 0 row) (p : Int) : pit ring row p ≤ pit ring row (p + 1) := by
  have nz : (0 : Int) < row.length := by omega
  have m0 := Int.emod_nonneg p (show (row.length : Int) ≠ 0 by omega)
  have m1 := Int.emod_lt_of_pos p nz
  have em := Int.emod_add_mul_ediv p row.length
  by_cases c : p % (row.length : Int) + 1 < row.length
  · have e1 : (p + 1) % (row.length : Int) = p % row.length + 1 := by
      rw [Int.add_emod]
      by_cases c1 : (row.length : Int) = 1
      · omega
      · rw [Int.emod_eq_of_lt (show (0 : Int) ≤ 1 by decide) (show (1 : Int) < row.length by omega), Int.emod_eq_of_lt (by omega) c]
    have e2 : (p + 1) / (row.length : Int) = p / row.length := by
      rw [Int.ediv_eq_iff_of_pos nz]
      constructor
      · rw [Int.mul_comm]; omega
      · rw [Int.mul_comm (p / _)]; omega
    unfold pit
    rw [e1, e2, getD_get (show (p % (row.length : Int)).toNat < row.length by omega), getD_get (show (p % (row.length : Int) + 1).toNat < row.length by omega)]
    have := up_mono u (i := (p % (row.length : Int)).toNat) (j := (p % (row.length : Int) + 1).toNat) (by omega) (by omega)
    omega
  · have e0 : p % (row.length : Int) = row.length - 1 := by omega
    have e2 : (p + 1) / (row.length : Int) = p / row.length + 1 := by
      rw [Int.ediv_eq_iff_of_pos nz]
      constructor
      · rw [Int.add_mul, Int.mul_comm (p / _)]; omega
      · rw [Int.add_mul, Int.mul_comm (p / _)]; omega
    have e1 : (p + 1) % (row.length : Int) = 0 := by
      have := Int.emod_add_mul_ediv (p + 1) row.length
      rw [e2, Int.mul_add] at this
      omega
    unfold pit
    rw [e1, e2, getD_get (show (p % (row.length : Int)).toNat < row.length by omega), getD_get (show (0 : Int).toNat < row.length by simp; omega), Int.mul_add]
    have h1 := (up_get u (p % (row.length : Int)).toNat (by omega)).2
    have h2 := (up_get u (0 : Int).toNat (by simp; omega)).1
    omega
theorem pit_mono {row : List Int} (r0 : 0 ≤ ring) (n0 : 1 ≤ row.length) (u : Up ring 0 row) {p q : Int} (h : p ≤ q) : pit ring row p ≤ pit ring row q := by
  obtain ⟨n, rfl⟩ : ∃ n : Nat, q = p + n := ⟨(q - p).toNat, by omega⟩
  clear h
  induction n with
  | zero => simp
  | succ n ih =>
    have := pit_step r0 n0 u (p + n)
    rw [show p + ((n + 1 : Nat) : Int) = p + n + 1 by omega]
    omega
/-- what a move beyond a line costs -/
def phi (c d : Int) : Int := if c < absI d then absI d - c else 0
theorem monge {c p q u v : Int} (pq : p ≤ q) (uv : u ≤ v) : phi c (u - p) + phi c (v - q) ≤ phi c (v - p) + phi c (u - q) := by
  unfold phi absI
  repeat' split
  all_goals omega
/-- the sum over the voices -/
def sumN (f : Int → Int) : Nat → Int
  | 0 => 0
  | n + 1 => sumN f n + f n
theorem sumN_le {f g : Int → Int} (n : Nat) (h : ∀ k : Nat, k < n → f k ≤ g k) : sumN f n ≤ sumN g n := by
  induction n with
  | zero => simp [sumN]
  | succ n ih =>
    have := h n (by omega)
    have := ih fun k hk => h k (by omega)
    simp only [sumN]; omega
theorem sumN_add {f g : Int → Int} (n : Nat) : sumN (fun k => f k + g k) n = sumN f n + sumN g n := by
  induction n with
  | zero => simp [sumN]
  | succ n ih => simp only [sumN, ih]; omega
theorem sumN_shift {f : Int → Int} (n : Nat) : sumN (fun k => f (k + 1)) n = sumN f n + f n - f 0 := by
  induction n with
  | zero => simp [sumN]
  | succ n ih =>
    simp only [sumN, ih]
    have : (((n + 1 : Nat) : Int)) = n + 1 := by omega
    rw [this]; omega
def gv (ring : Int) (x y : List Int) (c a k : Int) : Int := phi c (pit ring y (k + a) - pit ring x k)
def cost (ring : Int) (x y : List Int) (c a : Int) : Int := sumN (gv ring x y c a) x.length
theorem cost_cvx (T : Two ring x y) (c a : Int) : cost ring x y c a + cost ring x y c a ≤ cost ring x y c (a + 1) + cost ring x y c (a - 1) := by
  have r1 := T.r1
  have l1 := T.l1
  have ly := T.ly
  have per : ∀ b, gv ring x y c b x.length = gv ring x y c b 0 := fun b => by
    unfold gv
    have e1 := pit_turn (ring := ring) (p := b) (row := y) (by omega)
    have e2 := pit_turn (ring := ring) (p := 0) (row := x) l1
    rw [ly] at e1
    rw [Int.add_comm (x.length : Int) b, e1, Int.zero_add, show ((x.length : Int)) = 0 + x.length by omega, e2]
    congr 1; omega
  have s1 := sumN_shift (f := gv ring x y c a) x.length
  have s2 := sumN_shift (f := gv ring x y c (a - 1)) x.length
  rw [per] at s1 s2
  have h := sumN_le (f := fun k => gv ring x y c a k + gv ring x y c a (k + 1)) (g := fun k => gv ring x y c (a + 1) k + gv ring x y c (a - 1) (k + 1)) x.length fun k _ => by
    have := monge (c := c) (pit_mono (by omega) l1 T.ux (show (k : Int) ≤ k + 1 by omega)) (pit_mono (by omega) (by omega) T.uy (show (k : Int) + a ≤ k + a + 1 by omega))
    unfold gv
    rw [show (k : Int) + (a + 1) = k + a + 1 by omega, show (k : Int) + 1 + (a - 1) = k + a by omega, show (k : Int) + 1 + a = k + a + 1 by omega]
    exact this
  rw [sumN_add, sumN_add, s1, s2] at h
  unfold cost
  omega
/-! a cost that bends upwards: its least places stand side by side -/
theorem cvx_dec {F : Int → Int} (cv : ∀ a, F a + F a ≤ F (a + 1) + F (a - 1)) {a : Int} (h : F (a + 1) < F a) : ∀ n : Nat, F (a + 1) < F (a - n) := by
  have step : ∀ n : Nat, F (a + 1 - n) < F (a - n) := by
    intro n
    induction n with
    | zero => simpa using h
    | succ n ih =>
      have := cv (a - n)
      rw [show a - ((n + 1 : Nat) : Int) = a - n - 1 by omega, show a + 1 - ((n + 1 : Nat) : Int) = a - n by omega]
      rw [show a - (n : Int) + 1 = a + 1 - n by omega] at this
      omega
  intro n
  induction n with
  | zero => simpa using h
  | succ n ih =>
    have := step (n + 1)
    rw [show a + 1 - ((n + 1 : Nat) : Int) = a - n by omega] at this
    omega
theorem cvx_inc {F : Int → Int} (cv : ∀ a, F a + F a ≤ F (a + 1) + F (a - 1)) {a : Int} (h : F a < F (a + 1)) : ∀ n : Nat, F a < F (a + 1 + n) := by
  have step : ∀ n : Nat, F (a + n) < F (a + n + 1) := by
    intro n
    induction n with
    | zero => simpa using h
    | succ n ih =>
      have := cv (a + n + 1)
      rw [show a + ((n + 1 : Nat) : Int) = a + n + 1 by omega]
      rw [show a + (n : Int) + 1 - 1 = a + n by omega] at this
      omega
  intro n
  induction n with
  | zero => simpa using h
  | succ n ih =>
    have := step (n + 1)
    rw [show a + ((n + 1 : Nat) : Int) = a + 1 + n by omega] at this
    rw [show a + 1 + ((n + 1 : Nat) : Int) = a + 1 + n + 1 by omega]
    omega
/-- least among the turns from -n to n -/
def Lst (F : Int → Int) (n a : Int) : Prop := -n ≤ a ∧ a ≤ n ∧ ∀ b, -n ≤ b → b ≤ n → F a ≤ F b
theorem lst_mid {F : Int → Int} (cv : ∀ a, F a + F a ≤ F (a + 1) + F (a - 1)) {n a b m : Int} (ha : Lst F n a) (hb : Lst F n b) (h1 : a ≤ m) (h2 : m ≤ b) : Lst F n m := by
  have key : F m ≤ F a := by
    apply Int.not_lt.mp
    intro lt
    -- somewhere between a and m it rises
    have : ∃ k : Nat, a + k < m ∧ F (a + k) < F (a + k + 1) ∧ F a ≤ F (a + k) := by
      have : ∀ j : Nat, a + j ≤ m → F a < F (a + j) → ∃ k : Nat, k < j ∧ F (a + k) < F (a + k + 1) := by
        intro j
        induction j with
        | zero => intro _ h; simp at h
        | succ j ih =>
          intro hj h
          by_cases c : F a < F (a + j)
          · obtain ⟨k, hk, h⟩ := ih (by omega) c
            exact ⟨k, by omega, h⟩
          · refine ⟨j, by omega, ?_⟩
            rw [show a + ((j + 1 : Nat) : Int) = a + j + 1 by omega] at h
            omega
      obtain ⟨k, hk, h⟩ := this (m - a).toNat (by omega) (by rw [show a + (((m - a).toNat : Nat) : Int) = m by omega]; exact lt)
      exact ⟨k, by omega, h, ha.2.2 _ (by have := ha.1; omega) (by have := hb.2.1; omega)⟩
    obtain ⟨k, hk, h, h3⟩ := this
    have h4 := cvx_inc cv h (b - (a + k + 1)).toNat
    rw [show a + (k : Int) + 1 + (((b - (a + k + 1)).toNat : Nat) : Int) = b by omega] at h4
    have h5 := hb.2.2 a ha.1 ha.2.1
    omega
  exact ⟨by have := ha.1; omega, by have := hb.2.1; omega, fun c c1 c2 => Int.le_trans key (ha.2.2 c c1 c2)⟩
/-- the ends of the least turns -/
structure Spn (F : Int → Int) (n lo hi : Int) : Prop where
  a0 : -n ≤ lo
  a1 : lo ≤ hi
  a2 : hi ≤ n
  eq : ∀ a, -n ≤ a → a ≤ n → (Lst F n a ↔ lo ≤ a ∧ a ≤ hi)
theorem lst_some (F : Int → Int) {n : Int} (n0 : 0 ≤ n) : ∃ a, Lst F n a := by
  have : ∀ m : Nat, ∃ a, -n ≤ a ∧ a ≤ -n + m ∧ ∀ b, -n ≤ b → b ≤ -n + m → F a ≤ F b := by
    intro m
    induction m with
    | zero =>
      refine ⟨-n, by omega, by omega, fun b b1 b2 => ?_⟩
      have : b = -n := by omega
      rw [this]; exact Int.le_refl _
    | succ m ih =>
      obtain ⟨a, a1, a2, a3⟩ := ih
      by_cases c : F a ≤ F (-n + (m + 1 : Nat))
      · refine ⟨a, a1, by omega, fun b b1 b2 => ?_⟩
        by_cases e : b = -n + (m + 1 : Nat)
        · rw [e]; exact c
        · exact a3 b b1 (by omega)
      · refine ⟨-n + (m + 1 : Nat), by omega, by omega, fun b b1 b2 => ?_⟩
        by_cases e : b = -n + (m + 1 : Nat)
        · rw [e]; exact Int.le_refl _
        · have := a3 b b1 (by omega); omega
  obtain ⟨a, a1, a2, a3⟩ := this (2 * n).toNat
  exact ⟨a, a1, by omega, fun b b1 b2 => a3 b b1 (by omega)⟩
theorem int_least {P : Int → Prop} {lo a : Int} (h : P a) (l : lo ≤ a) : ∃ m, lo ≤ m ∧ m ≤ a ∧ P m ∧ ∀ b, lo ≤ b → b < m → ¬ P b := by
  have : ∀ n : Nat, (∃ m, lo ≤ m ∧ m < lo + n ∧ P m ∧ ∀ b, lo ≤ b → b < m → ¬ P b) ∨ ∀ b, lo ≤ b → b < lo + n → ¬ P b := by
    intro n
    induction n with
    | zero => exact .inr fun b b1 b2 => by omega
    | succ n ih =>
      rcases ih with ⟨m, m1, m2, m3⟩ | h0
      · exact .inl ⟨m, m1, by omega, m3⟩
      · by_cases c : P (lo + n)
        · exact .inl ⟨lo + n, by omega, by omega, c, fun b b1 b2 => h0 b b1 b2⟩
        · refine .inr fun b b1 b2 => ?_
          by_cases e : b = lo + n
          · rw [e]; exact c
          · exact h0 b b1 (by omega)
  rcases this (a - lo + 1).toNat with ⟨m, m1, m2, m3⟩ | h0
  · exact ⟨m, m1, by omega, m3⟩
  · exact (h0 a l (by omega) h).elim
theorem int_most {P : Int → Prop} {hi a : Int} (h : P a) (l : a ≤ hi) : ∃ m, a ≤ m ∧ m ≤ hi ∧ P m ∧ ∀ b, m < b → b ≤ hi → ¬ P b := by
  obtain ⟨m, m1, m2, m3, m4⟩ := int_least (P := fun i => P (-i)) (lo := -hi) (a := -a) (by simpa using h) (by omega)
  exact ⟨-m, by omega, by omega, m3, fun b b1 b2 => by have := m4 (-b) (by omega) (by omega); simpa using this⟩
theorem spn_ex {F : Int → Int} (cv : ∀ a, F a + F a ≤ F (a + 1) + F (a - 1)) {n : Int} (n0 : 0 ≤ n) : ∃ lo hi, Spn F n lo hi := by
  obtain ⟨a, ha⟩ := lst_some F n0
  obtain ⟨lo, l1, l2, l3, l4⟩ := int_least (P := Lst F n) ha ha.1
  obtain ⟨hi, h1, h2, h3, h4⟩ := int_most (P := Lst F n) ha ha.2.1
  exact ⟨lo, hi, l1, by omega, h2, fun b b1 b2 => ⟨fun hb => ⟨Int.not_lt.mp fun z => l4 b b1 z hb, Int.not_lt.mp fun z => h4 b z b2 hb⟩, fun hb => lst_mid cv l3 h3 hb.1 hb.2⟩⟩
end
end K53

set_option Elab.async false
set_option linter.all false
set_option maxRecDepth 100000
set_option maxHeartbeats 4000000
namespace K53
open PySem L2 Z
section
variable {ring : Int} {x y : List Int}
theorem sum_range (f : Int → Int) : ∀ n : Nat, ((List.range n).map fun (k : Nat) => f k).sum = sumN f n
  | 0 => rfl
  | n + 1 => by rw [List.range_succ, List.map_append, List.sum_append, sum_range f n]; simp [sumN]
theorem pos_sum (c : Int) : ∀ l : List Int, pos c l = (l.map fun z => if c < z then z - c else 0).sum
  | [] => rfl
  | z :: r => by simp only [pos, List.map_cons, List.sum_cons, pos_sum c r]
theorem pos_hin (t : Int) (l : List Int) : hin l t = pos (t - 1) l := by
  rw [pos_sum]
  unfold hin
  congr 1
  apply List.map_congr_left
  intro z _
  by_cases c : t - 1 < z
  · rw [if_pos (show z - t + 1 > 0 by omega), if_pos c]; omega
  · rw [if_neg (show ¬ z - t + 1 > 0 by omega), if_neg c]
theorem pit_own {row : List Int} {k : Nat} (h : k < row.length) : pit ring row k = row.getD k 0 := by
  unfold pit
  rw [Int.emod_eq_of_lt (by omega) (by omega), Int.ediv_eq_zero_of_lt (by omega) (by omega)]
  simp
theorem pos_cost (c a : Int) : pos c (szs ring x y a) = cost ring x y c a := by
  rw [pos_sum, szs, List.map_map, cost, ← sum_range]
  congr 1
  apply List.map_congr_left
  intro k hk
  rw [List.mem_range] at hk
  simp only [Function.comp, gv, phi, pit_own hk]
theorem hin_cost (t a : Int) : hin (szs ring x y a) t = cost ring x y (t - 1) a := by rw [pos_hin, pos_cost]
theorem szs_nn {a z : Int} (h : z ∈ szs ring x y a) : 0 ≤ z := by
  obtain ⟨k, _, rfl⟩ := List.mem_map.mp h
  unfold absI; split <;> omega
theorem szs_mem {a : Int} {k : Nat} (h : k < x.length) : absI (pit ring y (k + a) - pit ring x k) ∈ szs ring x y a := by
  rw [pit_own h]
  exact List.mem_map.mpr ⟨k, List.mem_range.mpr h, rfl⟩
theorem cost_nn (c a : Int) : 0 ≤ cost ring x y c a := by rw [← pos_cost]; exact pos_nn _
theorem pos_null {c : Int} : ∀ {l : List Int}, pos c l = 0 → ∀ z ∈ l, z ≤ c
  | [], _, z, h => by cases h
  | a :: r, e, z, h => by
    have := pos_nn (c := c) r
    simp only [pos] at e
    have e2 : pos c r = 0 ∧ a ≤ c := by split at e <;> omega
    rcases List.mem_cons.mp h with rfl | h
    · exact e2.2
    · exact pos_null e2.1 z h
/-- under all other turns, top by top -/
def Evr (ring : Int) (x y : List Int) (a : Int) : Prop := ∀ b, -(x.length : Int) ≤ b → b ≤ x.length → ∀ k, k ≤ x.length → topI (szs ring x y a) k ≤ topI (szs ring x y b) k
theorem evr_cost {a : Int} (a0 : -(x.length : Int) ≤ a) (a1 : a ≤ x.length) : Evr ring x y a ↔ ∀ c, 0 ≤ c → Lst (cost ring x y c) x.length a := by
  have le : ∀ b, (szs ring x y a).length = (szs ring x y b).length := fun b => by rw [szs_len, szs_len]
  constructor
  · intro u c _
    refine ⟨a0, a1, fun b b0 b1 => ?_⟩
    have := (under_iff (le b)).mp (by rw [szs_len]; exact u b b0 b1) c
    rwa [pos_cost, pos_cost] at this
  · intro u b b0 b1
    have := (under_iff' (le b)).mpr fun c hc => by
      rw [pos_cost, pos_cost]
      exact (u c (szs_nn hc)).2.2 b b0 b1
    rwa [szs_len] at this
/-- some turn brings every voice at most half round -/
theorem half_ex (T : Two ring x y) : ∃ a, -(x.length : Int) ≤ a ∧ a ≤ x.length ∧ cost ring x y (ring / 2) a = 0 := by
  have r1 := T.r1
  have l1 := T.l1
  have ly := T.ly
  have hr : 2 * (ring / 2) ≤ ring ∧ ring ≤ 2 * (ring / 2) + 1 := by omega
  generalize ring / 2 = H at hr
  have xi : ∀ k : Int, 0 ≤ k → k < x.length → 0 ≤ pit ring x k ∧ pit ring x k < ring := fun k k0 k1 => by
    have hk : k.toNat < x.length := by omega
    have := pit_own (ring := ring) hk
    rw [show ((k.toNat : Nat) : Int) = k by omega, getD_get hk] at this
    rw [this]; exact up_get T.ux k.toNat hk
  have yi : ∀ k : Int, 0 ≤ k → k < x.length → 0 ≤ pit ring y k ∧ pit ring y k < ring := fun k k0 k1 => by
    have hk : k.toNat < y.length := by omega
    have := pit_own (ring := ring) hk
    rw [show ((k.toNat : Nat) : Int) = k by omega, getD_get hk] at this
    rw [this]; exact up_get T.uy k.toNat hk
  have ty : ∀ p : Int, pit ring y (p + x.length) = pit ring y p + ring := fun p => by
    have := pit_turn (ring := ring) (p := p) (row := y) (by omega)
    rwa [ly] at this
  have tx : ∀ p : Int, pit ring x (p + x.length) = pit ring x p + ring := fun p => pit_turn l1
  have my : ∀ {p q : Int}, p ≤ q → pit ring y p ≤ pit ring y q := fun h => pit_mono (by omega) (by omega) T.uy h
  have mx : ∀ {p q : Int}, p ≤ q → pit ring x p ≤ pit ring x q := fun h => pit_mono (by omega) l1 T.ux h
  let P : Int → Prop := fun a => ∀ k : Int, 0 ≤ k → k < x.length → pit ring y (k + a) - pit ring x k ≤ H
  have p0 : P (-(x.length : Int)) := fun k k0 k1 => by
    have := ty (k + -(x.length : Int))
    rw [show k + -(x.length : Int) + x.length = k by omega] at this
    have := yi k k0 k1
    have := xi k k0 k1
    omega
  obtain ⟨a, a0, a1, pa, pm⟩ := int_most (P := P) (hi := (x.length : Int) + 1) p0 (by omega)
  have an : a ≤ x.length := by
    apply Int.not_lt.mp
    intro lt
    have : a = x.length + 1 := by omega
    have h := pa (x.length - 1) (by omega) (by omega)
    rw [this, show (x.length : Int) - 1 + (x.length + 1) = 0 + x.length + x.length by omega, ty, ty] at h
    have := yi 0 (by omega) (by omega)
    have := xi (x.length - 1) (by omega) (by omega)
    omega
  have np := pm (a + 1) (by omega) (by omega)
  refine ⟨a, by omega, an, ?_⟩
  have low : ∀ i : Int, 0 ≤ i → i < x.length → -H ≤ pit ring y (i + a) - pit ring x i := by
    intro i i0 i1
    apply Int.not_lt.mp
    intro lt
    apply np
    intro j j0 j1
    apply Int.not_lt.mp
    intro gt
    by_cases c : j + 1 ≤ i
    · have h1 := my (show j + (a + 1) ≤ i + a by omega)
      have h2 := mx (show i ≤ j + x.length by omega)
      rw [tx] at h2
      omega
    · have h1 := my (show j + (a + 1) ≤ i + a + x.length by omega)
      rw [ty] at h1
      have h2 := mx (show i ≤ j by omega)
      omega
  rw [← pos_cost]
  refine pos_zero _ fun z hz => ?_
  obtain ⟨k, hk, rfl⟩ := List.mem_map.mp hz
  rw [List.mem_range] at hk
  have h1 := pa k (by omega) (by omega)
  have h2 := low k (by omega) (by omega)
  rw [pit_own hk] at h1 h2
  unfold absI
  split <;> omega
theorem evr_some (T : Two ring x y) {a : Int} (a0 : -(x.length : Int) ≤ a) (a1 : a ≤ x.length) : Evr ring x y a ↔ ∀ c, 0 ≤ c → c ≤ ring / 2 → Lst (cost ring x y c) x.length a := by
  rw [evr_cost a0 a1]
  constructor
  · exact fun h c c0 _ => h c c0
  · intro h c c0
    by_cases cc : c ≤ ring / 2
    · exact h c c0 cc
    · obtain ⟨b, b0, b1, b2⟩ := half_ex T
      have := (h (ring / 2) (by have := T.r1; omega) (by omega)).2.2 b b0 b1
      have nn := cost_nn (ring := ring) (x := x) (y := y) (ring / 2) a
      have z : cost ring x y (ring / 2) a = 0 := by omega
      rw [← pos_cost] at z
      have z2 : cost ring x y c a = 0 := by
        rw [← pos_cost]
        exact pos_zero _ fun z' hz => by have := pos_null z z' hz; omega
      exact ⟨a0, a1, fun d _ _ => by rw [z2]; exact cost_nn _ _⟩
/-! the ends of all lines -/
def IsSp (ring : Int) (x y : List Int) (sp : List (Int × Int)) : Prop := sp.length = (ring / 2 + 1).toNat ∧ ∀ i (h : i < sp.length), Spn (cost ring x y i) x.length sp[i].1 sp[i].2
theorem sp_one {sp sq : List (Int × Int)} (p : IsSp ring x y sp) (q : IsSp ring x y sq) : sp = sq := by
  apply List.ext_getElem (p.1.trans q.1.symm)
  intro i h1 h2
  have a := p.2 i h1
  have b := q.2 i h2
  have e1 := (a.eq _ b.a0 (by have := b.a1; have := b.a2; omega)).mp ((b.eq _ b.a0 (by have := b.a1; have := b.a2; omega)).mpr ⟨by omega, b.a1⟩)
  have e2 := (a.eq _ (by have := b.a0; have := b.a1; omega) b.a2).mp ((b.eq _ (by have := b.a0; have := b.a1; omega) b.a2).mpr ⟨b.a1, by omega⟩)
  have e3 := (b.eq _ a.a0 (by have := a.a1; have := a.a2; omega)).mp ((a.eq _ a.a0 (by have := a.a1; have := a.a2; omega)).mpr ⟨by omega, a.a1⟩)
  have e4 := (b.eq _ (by have := a.a0; have := a.a1; omega) a.a2).mp ((a.eq _ (by have := a.a0; have := a.a1; omega) a.a2).mpr ⟨a.a1, by omega⟩)
  apply Prod.ext
  · omega
  · omega
theorem sp_ex (T : Two ring x y) : ∃ sp, IsSp ring x y sp := by
  have ex : ∀ c : Int, ∃ p : Int × Int, Spn (cost ring x y c) x.length p.1 p.2 := fun c => by
    obtain ⟨lo, hi, h⟩ := spn_ex (cost_cvx T c) (n := x.length) (by omega)
    exact ⟨(lo, hi), h⟩
  have : ∀ n : Nat, ∃ sp : List (Int × Int), sp.length = n ∧ ∀ i (h : i < sp.length), Spn (cost ring x y i) x.length sp[i].1 sp[i].2 := by
    intro n
    induction n with
    | zero => exact ⟨[], rfl, fun i h => by simp at h⟩
    | succ n ih =>
      obtain ⟨sp, l, h⟩ := ih
      obtain ⟨p, hp⟩ := ex n
      refine ⟨sp ++ [p], by simp [l], fun i hi => ?_⟩
      by_cases c : i < sp.length
      · simp only [List.getElem_append_left c]
        exact h i c
      · have : i = sp.length := by simp at hi; omega
        subst this
        simp only [List.getElem_append_right (Nat.le_refl _), Nat.sub_self, List.getElem_cons_zero]
        rw [l]; exact hp
  exact this _
def lowest (sp : List (Int × Int)) : Int := match sp with
  | [] => 0
  | p :: r => maxI (r.map (·.1)) p.1
def highest (sp : List (Int × Int)) : Int := match sp with
  | [] => 0
  | p :: r => minI (r.map (·.2)) p.2
theorem low_ok {sp : List (Int × Int)} (n : 1 ≤ sp.length) : (∃ p ∈ sp, p.1 = lowest sp) ∧ ∀ p ∈ sp, p.1 ≤ lowest sp := by
  cases sp with
  | nil => simp at n
  | cons p r =>
    obtain ⟨h1, h2, h3⟩ := maxI_ok (r.map (·.1)) p.1
    refine ⟨?_, fun q hq => ?_⟩
    · rcases h1 with h1 | h1
      · exact ⟨p, by simp, h1.symm⟩
      · obtain ⟨q, hq, e⟩ := List.mem_map.mp h1
        exact ⟨q, List.mem_cons_of_mem _ hq, e⟩
    · rcases List.mem_cons.mp hq with rfl | hq
      · exact h2
      · exact h3 _ (List.mem_map.mpr ⟨q, hq, rfl⟩)
theorem high_ok {sp : List (Int × Int)} (n : 1 ≤ sp.length) : (∃ p ∈ sp, p.2 = highest sp) ∧ ∀ p ∈ sp, highest sp ≤ p.2 := by
  cases sp with
  | nil => simp at n
  | cons p r =>
    obtain ⟨h1, h2, h3⟩ := minI_ok (r.map (·.2)) p.2
    refine ⟨?_, fun q hq => ?_⟩
    · rcases h1 with h1 | h1
      · exact ⟨p, by simp, h1.symm⟩
      · obtain ⟨q, hq, e⟩ := List.mem_map.mp h1
        exact ⟨q, List.mem_cons_of_mem _ hq, e⟩
    · rcases List.mem_cons.mp hq with rfl | hq
      · exact h2
      · exact h3 _ (List.mem_map.mpr ⟨q, hq, rfl⟩)
theorem sp_len {sp : List (Int × Int)} (T : Two ring x y) (p : IsSp ring x y sp) : 1 ≤ sp.length := by have := p.1; have := T.r1; omega
theorem evr_sp {sp : List (Int × Int)} (T : Two ring x y) (p : IsSp ring x y sp) {a : Int} (a0 : -(x.length : Int) ≤ a) (a1 : a ≤ x.length) : Evr ring x y a ↔ lowest sp ≤ a ∧ a ≤ highest sp := by
  have n := sp_len T p
  obtain ⟨⟨pl, hl, el⟩, ll⟩ := low_ok n
  obtain ⟨⟨ph, hh, eh⟩, hl2⟩ := high_ok n
  have r1 := T.r1
  rw [evr_some T a0 a1]
  constructor
  · intro h
    have go : ∀ q ∈ sp, q.1 ≤ a ∧ a ≤ q.2 := fun q hq => by
      obtain ⟨i, hi, rfl⟩ := List.mem_iff_getElem.mp hq
      have := p.1
      exact ((p.2 i hi).eq a a0 a1).mp (h i (by omega) (by omega))
    have h1 := go pl hl
    have h2 := go ph hh
    omega
  · intro h c c0 c1
    have l := p.1
    have hi : c.toNat < sp.length := by omega
    have s := p.2 c.toNat hi
    rw [show ((c.toNat : Nat) : Int) = c by omega] at s
    refine (s.eq a a0 a1).mpr ?_
    have h1 := ll _ (List.getElem_mem hi)
    have h2 := hl2 _ (List.getElem_mem hi)
    omega
/-- where they part, one rises and the other falls -/
theorem part_rise {sp : List (Int × Int)} (T : Two ring x y) (p : IsSp ring x y sp) (lt : highest sp < lowest sp) {i j : Nat} (hi : i < sp.length) (hj : j < sp.length) (ei : sp[i].2 = highest sp) (ej : sp[j].1 = lowest sp) :
    cost ring x y i (highest sp) < cost ring x y i (highest sp + 1) ∧ cost ring x y j (highest sp + 1) < cost ring x y j (highest sp) := by
  have si := p.2 i hi
  have sj := p.2 j hj
  rw [ei] at si
  rw [ej] at sj
  have a2 : lowest sp ≤ x.length := by have := sj.a1; have := sj.a2; omega
  have a0 : -(x.length : Int) ≤ highest sp := by have := si.a0; have := si.a1; omega
  have li := (si.eq _ a0 (by omega)).mpr ⟨si.a1, by omega⟩
  have lj := (sj.eq _ (by omega) a2).mpr ⟨by omega, sj.a1⟩
  constructor
  · apply Int.not_le.mp
    intro c
    have : Lst (cost ring x y i) x.length (highest sp + 1) := ⟨by omega, by omega, fun b b0 b1 => Int.le_trans c (li.2.2 b b0 b1)⟩
    have := (si.eq _ (by omega) (by omega)).mp this
    omega
  · apply Int.not_le.mp
    intro c
    have nl : ¬ Lst (cost ring x y j) x.length (highest sp) := fun z => by
      have := (sj.eq _ a0 (by omega)).mp z
      omega
    have gt : cost ring x y j (lowest sp) < cost ring x y j (highest sp) := by
      apply Int.not_le.mp
      intro z
      exact nl ⟨a0, by omega, fun b b0 b1 => Int.le_trans z (lj.2.2 b b0 b1)⟩
    rcases Int.lt_or_eq_of_le c with c | c
    · have := cvx_inc (cost_cvx T j) c (lowest sp - (highest sp + 1)).toNat
      rw [show highest sp + 1 + (((lowest sp - (highest sp + 1)).toNat : Nat) : Int) = lowest sp by omega] at this
      omega
    · -- level at first: then it can only rise
      have flat : ∀ n : Nat, cost ring x y j (highest sp + n) ≤ cost ring x y j (highest sp + n + 1) := by
        intro n
        induction n with
        | zero => simp; omega
        | succ n ih =>
          have := cost_cvx T (j : Int) (highest sp + n + 1)
          rw [show highest sp + (n : Int) + 1 - 1 = highest sp + n by omega] at this
          rw [show highest sp + ((n + 1 : Nat) : Int) = highest sp + n + 1 by omega]
          omega
      have up : ∀ n : Nat, cost ring x y j (highest sp) ≤ cost ring x y j (highest sp + n) := by
        intro n
        induction n with
        | zero => simp
        | succ n ih =>
          have := flat n
          rw [show highest sp + ((n + 1 : Nat) : Int) = highest sp + n + 1 by omega]
          omega
      have := up (lowest sp - highest sp).toNat
      rw [show highest sp + (((lowest sp - highest sp).toNat : Nat) : Int) = lowest sp by omega] at this
      omega
end
end K53

set_option Elab.async false
set_option linter.all false
set_option maxRecDepth 100000
set_option maxHeartbeats 4000000
namespace K53
open PySem L2 Z
section
variable {c : Cal} {h : Hm} {K : D → Hm → Prop} {X : Exn → Hm → Prop} {ρ : Env'}
/-- lists that stand each in a cell of its own -/
def RowsAt (H : Hm) (bs : List Nat) (Ls : List (List Int)) : Prop := bs.length = Ls.length ∧ ∀ (i b : Nat) (L : List Int), bs[i]? = some b → Ls[i]? = some L → H[b]? = some (Cell.lst (L.map .int))
theorem RowsAt.gr {H H' : Hm} {bs : List Nat} {Ls : List (List Int)} (g : Gr H H') (r : RowsAt H bs Ls) : RowsAt H' bs Ls := ⟨r.1, fun i b L e1 e2 => g.get (r.2 i b L e1 e2)⟩
theorem rw_compR {α : Type} {g tg t} {ns : List α} (g' : α → D) (F : α → List Int) (hg : gdOk g h = true) (l : ns.length ≤ sizeLine)
    (ia : ∀ n ∈ ns, ∀ H, Gr h H → ∃ ρ1, setT tg (g' n) ρ = some ρ1 ∧ EW c t ρ1 H (fun d H2 => (∃ b, d = .ref b ∧ H.length ≤ b ∧ H2[b]? = some (.lst ((F n).map .int))) ∧ Gr H H2) (fun _ _ => False))
    (ie : ∀ H bs, Gr h H → H[h.length]? = some (.lst (bs.map .ref)) → RowsAt H bs (ns.map F) → (∀ b ∈ bs, h.length < b) → K (.ref h.length) H) :
    RW (compL g tg ρ (evE c (.lit (.bl true))) (evE c t) h.length (ns.map g') (h ++ [.lst []])) K X := by
  refine rw_comp (I := fun xs acc h' => ∃ (a b : List α) (bs : List Nat), ns = a ++ b ∧ xs = b.map g' ∧ acc = bs.map .ref ∧ RowsAt h' bs (a.map F) ∧ Gr h h' ∧ h'[h.length]? = some (.lst acc) ∧ ∀ x ∈ bs, h.length < x) [] ⟨[], ns, [], rfl, rfl, rfl, ⟨rfl, fun i b L e => by simp at e⟩, .app, get_new, fun x hx => by cases hx⟩ ?_ ?_ ?_
  · rintro _ _ _ ⟨_, _, _, _, _, _, _, gr, _⟩
    obtain ⟨u, rfl⟩ := gr
    exact gd_app hg
  · rintro x r acc h' ⟨a, b, bs, e, eb, ea, ra, gr, eh, hb⟩
    cases b with
    | nil => simp at eb
    | cons n b =>
      simp only [List.map_cons, List.cons.injEq] at eb
      obtain ⟨rfl, rfl⟩ := eb
      obtain ⟨ρ1, e1, e2⟩ := ia n (by rw [e]; simp) h' gr
      refine ⟨ρ1, e1, ew_lit (tw_t (RW.mono e2 (fun d h2 z => ?_) fun _ _ z => z))⟩
      obtain ⟨⟨q, rfl, lq, eq⟩, g2⟩ := z
      have e4 := g2.get eh
      have lh := lt_of_get eh
      have la : acc.length < sizeLine := by
        have h1 := ra.1
        rw [ea, List.length_map, h1, List.length_map]
        have : ns.length = a.length + (b.length + 1) := by rw [e]; simp
        omega
      refine ⟨e4, la, a ++ [n], b, bs ++ [q], by simp [e], rfl, by rw [ea]; simp, ⟨by simp [ra.1], fun i x L h1 h2 => ?_⟩, (gr.trans g2).set (Nat.le_refl _), get_set e4, fun x hx => ?_⟩
      · have l1 : bs.length = a.length := by have := ra.1; simpa using this
        by_cases ci : i < bs.length
        · rw [List.getElem?_append_left ci] at h1
          rw [List.map_append, List.getElem?_append_left (by rw [List.length_map]; omega)] at h2
          have := hb x (List.mem_of_getElem? h1)
          exact get_set_ne (by omega) (g2.get (ra.2 i x L h1 h2))
        · have hi : i = bs.length := by
            have := (List.getElem?_eq_some_iff.mp h1).1
            simp at this; omega
          subst hi
          rw [List.getElem?_append_right (Nat.le_refl _), Nat.sub_self] at h1
          rw [List.map_append, List.getElem?_append_right (by rw [List.length_map]; omega), List.length_map, l1, Nat.sub_self] at h2
          simp at h1 h2
          subst h1; subst h2
          exact get_set_ne (by omega) eq
      · rcases List.mem_append.mp hx with hx | hx
        · exact hb x hx
        · simp at hx; omega
  · rintro acc h' ⟨a, b, bs, e, eb, ea, ra, gr, eh, hb⟩
    have : b = [] := by simpa using eb.symm
    subst this
    rw [List.append_nil] at e
    subst e
    rw [ea] at eh
    exact ie h' bs gr eh ra hb
theorem rows_zip {H : Hm} {bs : List Nat} {Ls : List (List Int)} (r : RowsAt H bs Ls) : bs.map D.ref = (bs.zip Ls).map (fun p => D.ref p.1) ∧ (∀ p ∈ bs.zip Ls, H[p.1]? = some (.lst (p.2.map .int)) ∧ p.2 ∈ Ls) ∧ (bs.zip Ls).map (·.2) = Ls := by
  refine ⟨?_, fun p hp => ?_, ?_⟩
  · rw [show (fun p : Nat × List Int => D.ref p.1) = D.ref ∘ Prod.fst from rfl, ← List.map_map, List.map_fst_zip (by rw [r.1]; exact Nat.le_refl _)]
  · obtain ⟨i, hi, rfl⟩ := List.mem_iff_getElem.mp hp
    simp at hi
    rw [List.getElem_zip]
    exact ⟨r.2 i _ _ (List.getElem?_eq_getElem (by omega)) (List.getElem?_eq_getElem (by omega)), List.getElem_mem _⟩
  · exact List.map_snd_zip (by rw [r.1]; exact Nat.le_refl _)
theorem shaped_int (i : Int) : SeqAt.shaped (.int i) = true := by
  unfold SeqAt.shaped
  simp [PyData.canLay0, PyData.depth]
theorem pw_indexI {x j : Nat} {l : List Int} {m : Int} (e : h[x]? = some (.lst (l.map .int))) (hl : l.length ≤ 900) (jl : l[j]? = some m) (jf : ∀ i, i < j → l[i]? ≠ some m) (k : K (.int j) h) : Z.PW .index [.ref x, .int m] h K X := by
  have jj : j < l.length := (List.getElem?_eq_some_iff.mp jl).1
  have : opIndex (.ref x) (.int m) h = .ok (.int j) h := by
    unfold opIndex
    have e2 : lstOf h (.ref x) = some (l.map .int) := by simp only [lstOf, Z.listOf, e]
    rw [e2]
    simp only
    rw [toPs_ints h (by show l.length + 1 < 999; omega)]
    have e3 : toP h deepP (.int m) = some (.int m) := rfl
    rw [e3]
    simp only
    rw [if_pos ⟨shaped_lst l, shaped_int m⟩]
    have : (l.map PyData.int).findIdx? (fun z => PyData.eqv z (.int m)) = some j := by
      rw [List.findIdx?_eq_some_iff_getElem]
      refine ⟨by simpa using jj, ?_, fun i hi => ?_⟩
      · rw [List.getElem_map]
        have := (List.getElem?_eq_some_iff.mp jl).2
        simp [PyData.eqv, this]
      · have il : i < l.length := by omega
        have := jf i hi
        rw [List.getElem?_eq_getElem il] at this
        rw [List.getElem_map]
        simpa [PyData.eqv] using this
    rw [this]
  simp only [Z.PW, evP, this, RW]
  exact k
theorem pw_maxlr {r : Nat} {n : Int} {ns : List Int} (e : h[r]? = some (.lst ((n :: ns).map .int))) (a : K (.int (maxI ns n)) h) : Z.PW .maxl [.ref r] h K X := by
  have : (Z.listOf h (.ref r)).bind intsOf = some (n :: ns) := by
    simp only [Z.listOf, e, Option.bind, intsOf_map]
  simp only [Z.PW, evP, opMaxl, this, RW]
  exact a
end
theorem upI_get : ∀ (n : Nat) (lo : Int) (i : Nat), i < n → (upI lo n)[i]? = some (lo + i)
  | 0, _, _, h => by omega
  | n + 1, lo, 0, _ => by simp [upI]
  | n + 1, lo, i + 1, h => by
    simp only [upI, List.getElem?_cons_succ]
    rw [upI_get n (lo + 1) i (by omega)]
    congr 1; omega
theorem upI_map_add : ∀ (n : Nat) (lo d : Int), (upI lo n).map (fun k => k + d) = upI (lo + d) n
  | 0, _, _ => rfl
  | n + 1, lo, d => by
    simp only [upI, List.map_cons, upI_map_add n (lo + 1) d]
    rw [show lo + 1 + d = lo + d + 1 by omega]
/-- those between two ends -/
theorem filter_upI {p : Int → Bool} {lo hi : Int} : ∀ (n : Nat) (a : Int), a ≤ lo → hi < a + n → lo ≤ hi + 1 → (∀ b, a ≤ b → b < a + n → (p b = true ↔ lo ≤ b ∧ b ≤ hi)) → (upI a n).filter p = upI lo (hi - lo + 1).toNat
  | 0, a, h1, h2, h3, _ => by
    rw [show (hi - lo + 1).toNat = 0 by omega]; rfl
  | n + 1, a, h1, h2, h3, h4 => by
    have ha := h4 a (by omega) (by omega)
    simp only [upI, List.filter_cons]
    by_cases c : a = lo
    · subst c
      by_cases e : a ≤ hi
      · rw [if_pos (ha.mpr ⟨by omega, e⟩)]
        by_cases z : a = hi
        · subst z
          rw [show (a - a + 1).toNat = 1 by omega]
          have : (upI (a + 1) n).filter p = [] := by
            rw [List.filter_eq_nil_iff]
            intro b hb
            rw [upI_mem] at hb
            intro t
            have := (h4 b (by omega) (by omega)).mp t
            omega
          rw [this]; rfl
        · have ih := filter_upI (p := fun b => p b && decide (a < b)) (lo := a + 1) (hi := hi) n (a + 1) (by omega) (by omega) (by omega) fun b b1 b2 => by
            rw [Bool.and_eq_true, h4 b (by omega) (by omega), decide_eq_true_iff]
            omega
          have : (upI (a + 1) n).filter p = (upI (a + 1) n).filter fun b => p b && decide (a < b) := by
            apply List.filter_congr
            intro b hb
            rw [upI_mem] at hb
            rw [decide_eq_true (by omega), Bool.and_true]
          rw [this, ih]
          obtain ⟨m, hm⟩ : ∃ m, (hi - a + 1).toNat = m + 1 := ⟨(hi - a).toNat, by omega⟩
          rw [hm, show (hi - (a + 1) + 1).toNat = m by omega]; rfl
      · rw [if_neg (fun t => by have := ha.mp t; omega), show (hi - a + 1).toNat = 0 by omega]
        have : (upI (a + 1) n).filter p = [] := by
          rw [List.filter_eq_nil_iff]
          intro b hb
          rw [upI_mem] at hb
          intro t
          have := (h4 b (by omega) (by omega)).mp t
          omega
        rw [this]; rfl
    · rw [if_neg (fun t => by have := ha.mp t; omega)]
      exact filter_upI n (a + 1) (by omega) (by omega) h3 fun b b1 b2 => h4 b (by omega) (by omega)
theorem filter_none {p : Int → Bool} {n : Nat} {a : Int} (h : ∀ b, a ≤ b → b < a + n → p b = false) : (upI a n).filter p = [] := by
  rw [List.filter_eq_nil_iff]
  intro b hb
  rw [upI_mem] at hb
  rw [h b hb.1 hb.2]
  simp
end K53

set_option Elab.async false
set_option linter.all false
set_option maxRecDepth 100000
set_option maxHeartbeats 4000000
namespace K53
open PySem L2 Z
variable {k : Nat} {h : Hm} {K : D → Hm → Prop} {X : Exn → Hm → Prop} {s : Nat}
section
variable {ring : Int} {x y : List Int} {r : Nat}
def costs (ring : Int) (x y : List Int) (t : Int) : List Int := (upI (-(x.length : Int)) (2 * x.length + 1)).map fun a => cost ring x y (t - 1) a
theorem spn_lst {F : Int → Int} {n lo hi : Int} (s : Spn F n lo hi) : Lst F n lo := (s.eq lo s.a0 (by have := s.a1; have := s.a2; omega)).mpr ⟨Int.le_refl _, s.a1⟩
theorem spn_val {F : Int → Int} {n lo hi b : Int} (s : Spn F n lo hi) (b0 : -n ≤ b) (b1 : b ≤ n) : F b = F lo ↔ lo ≤ b ∧ b ≤ hi := by
  have hl := spn_lst s
  rw [← s.eq b b0 b1]
  constructor
  · intro e
    exact ⟨b0, b1, fun d d0 d1 => by rw [e]; exact hl.2.2 d d0 d1⟩
  · intro hb
    have h1 := hb.2.2 lo hl.1 hl.2.1
    have h2 := hl.2.2 b b0 b1
    omega
/-- the least of a row of costs is that at the first end -/
theorem min_row {F : Int → Int} {n : Nat} {lo hi : Int} (s : Spn F n lo hi) {m : Int} {l : List Int} (e : (upI (-(n : Int)) (2 * n + 1)).map F = m :: l) : minI l m = F lo := by
  obtain ⟨h1, h2, h3⟩ := minI_ok l m
  have hl := spn_lst s
  have inn : ∀ z ∈ m :: l, ∃ b, -(n : Int) ≤ b ∧ b ≤ n ∧ z = F b := fun z hz => by
    rw [← e] at hz
    obtain ⟨b, hb, rfl⟩ := List.mem_map.mp hz
    rw [upI_mem] at hb
    exact ⟨b, by omega, by omega, rfl⟩
  have lom : F lo ∈ m :: l := by
    rw [← e]
    exact List.mem_map.mpr ⟨lo, by rw [upI_mem]; have := hl.1; have := hl.2.1; omega, rfl⟩
  have le : minI l m ≤ F lo := by
    rcases List.mem_cons.mp lom with h | h
    · rw [h]; exact h2
    · exact h3 _ h
  have ge : F lo ≤ minI l m := by
    have : minI l m ∈ m :: l := by
      rcases h1 with h1 | h1
      · rw [h1]; simp
      · exact List.mem_cons_of_mem _ h1
    obtain ⟨b, b0, b1, eb⟩ := inn _ this
    rw [eb]
    exact hl.2.2 b b0 b1
  omega
theorem row_cons {F : Int → Int} (n : Nat) : ∃ m l, (upI (-(n : Int)) (2 * n + 1)).map F = m :: l := ⟨_, _, rfl⟩
theorem ends_wp {F : Int → Int} {n : Nat} {lo hi : Int} (n8 : n ≤ 8) (s : Spn F n lo hi) (e : h[r]? = some (.lst (((upI (-(n : Int)) (2 * n + 1)).map F).map .int))) (q : K (.tup [.int lo, .int hi]) h) : C (k + 1) i_least_ends [.ref r, .int (-(n : Int))] h K X := by
  (with_reducible refine rw_in (fn := f_least_ends) (b := b_least_ends) ?_ ?_ ?_ (ρ := [some (.ref r), some (.int (-(n : Int))), none, none]) ?_ ?_); rfl; rfl; rfl; rfl; delta b_least_ends
  obtain ⟨m, l, er⟩ := row_cons (F := F) n
  have e' := e
  rw [er] at e'
  have s0 := s.a0
  have s1 := s.a1
  have s2 := s.a2
  walk_at "zz"
  refine pw_minlr e' ?_
  rw [min_row s er]
  walk_at "zz"
  refine pw_indexI (j := (lo + n).toNat) e (by simp [upI_len]; omega) ?_ (fun i hi e1 => ?_) ?_
  · rw [List.getElem?_map, upI_get _ _ _ (by omega)]
    simp only [Option.map_some]
    congr 2; omega
  · rw [List.getElem?_map, upI_get _ _ _ (by omega)] at e1
    simp only [Option.map_some, Option.some.injEq] at e1
    have := (spn_val s (b := -(n : Int) + i) (by omega) (by omega)).mp e1
    omega
  walk_at "zz"
  refine pw_count (xs := ((upI (-(n : Int)) (2 * n + 1)).map F).map .int) (ns := (upI (-(n : Int)) (2 * n + 1)).map F) (by simp only [Z.listOf, e]) (intsOf_map _) ?_
  have hc : ((upI (-(n : Int)) (2 * n + 1)).map F).count (F lo) = (hi - lo + 1).toNat := by
    rw [List.count_eq_countP, List.countP_map, List.countP_eq_length_filter]
    rw [filter_upI (lo := lo) (hi := hi) (2 * n + 1) (-(n : Int)) s0 (by omega) (by omega) fun b b0 b1 => by
      rw [Function.comp, beq_iff_eq]
      exact spn_val s b0 (by omega)]
    exact upI_len _ _
  rw [hc]
  walk_at "zz"
  rw [show -(n : Int) + (((lo + n).toNat : Nat) : Int) = lo by omega, show lo + (((hi - lo + 1).toNat : Nat) : Int) - 1 = hi by omega]
  exact q
abbrev pr2 (p : Int × Int) : D := .tup [.int p.1, .int p.2]
theorem spans_wp (T : Two ring x y) (q : ∀ H r sp, Gr h H → h.length ≤ r → IsSp ring x y sp → H[r]? = some (.lst (sp.map pr2)) → K (.ref r) H) : C (k + 2) i_hinge_spans [.int ring, tupI x, tupI y] h K X := by
  (with_reducible refine rw_in (fn := f_hinge_spans) (b := b_hinge_spans) ?_ ?_ ?_ (ρ := [some (.int ring), some (tupI x), some (tupI y), none, none, none, none, none, none, none]) ?_ ?_); rfl; rfl; rfl; rfl; delta b_hinge_spans
  have r1 := T.r1
  have r2 := T.r2
  have l1 := T.l1
  have l2 := T.l2
  have ly := T.ly
  walk_at "zz"
  rw [List.length_map]
  refine ew_comp ?_
  walk_at "zz"
  refine ⟨_, _, src_r2 (small_of (by omega) (by omega)) (small_k (by omega) (by omega)), ?_⟩
  rw [range_up, upD_map, show ((x.length : Int) + 1 - -(x.length : Int)).toNat = 2 * x.length + 1 by omega]
  with_reducible refine rw_compR D.int (fun a => szs ring x y a) ?_ ?_ ?_ ?_
  · rfl
  · rw [upI_len]; exact Nat.le_trans (show 2 * x.length + 1 ≤ 17 by omega) (by decide)
  · intro a ha H g
    refine ⟨_, rfl, ?_⟩
    walk_at "zz"
    with_reducible refine szs_wp r1 r2 l1 l2 ly fun H2 b g2 lb eb => ?_
    exact ⟨⟨b, rfl, lb, eb⟩, g2⟩
  intro H1 bs g1 e1 ra hb
  obtain ⟨zb, zc, zl⟩ := rows_zip ra
  have e1' := e1
  rw [zb] at e1'
  have lz : (bs.zip ((upI (-(x.length : Int)) (2 * x.length + 1)).map fun a => szs ring x y a)).length ≤ 17 := by simp [upI_len]; omega
  walk_at "zz"
  refine ⟨_, _, src_r2 (small_k (by omega) (by omega)) (small_k (by omega) (by omega)), ?_⟩
  rw [range_up, show (ring / 2 + 2 - 1).toNat = (ring / 2 + 1).toNat by omega]
  have lh1 := lt_of_get e1
  refine fw_up (I := fun t ρ2 h2 => ∃ (sp : List (Int × Int)) (v6 v7 : Option D), ρ2 = [some (.int ring), some (tupI x), some (tupI y), some (.int x.length), some (.ref h.length), some (.ref H1.length), v6, v7, none, none] ∧ Gr H1 h2 ∧ (sp.length : Int) = t - 1 ∧ (∀ i (hi : i < sp.length), Spn (cost ring x y i) x.length sp[i].1 sp[i].2) ∧ h2[H1.length]? = some (.lst (sp.map pr2))) ⟨[], _, _, rfl, .app, by simp, fun i hi => by simp at hi, get_new⟩ (fun _ _ _ _ => rfl) ?_ ?_
  · rintro t _ h2 t0 t1 ⟨sp, v6, v7, rfl, g2, ls, hsp, es⟩
    refine ⟨_, rfl, ?_⟩
    have lt := lt_of_get es
    walk_at "zz"
    refine ew_comp ?_
    refine lw_cons (ew_var rfl (lw_nil ⟨_, _, src_r (g2.get e1'), ?_⟩))
    refine rw_compG (fun p : Nat × List Int => D.ref p.1) (fun p : Nat × List Int => D.int (hin p.2 t)) (fun _ => true) (gd_one (g2.get e1')) (Nat.le_trans lz (by decide)) (fun p hp H g => ⟨_, rfl, ?_, fun _ H' g' => ?_⟩) fun H3 g3 e3 => ?_
    · walk_at "zz"
      exact ⟨rfl, .refl⟩
    · have hz := zc p hp
      obtain ⟨a, _, ea⟩ := List.mem_map.mp hz.2
      walk_at "zz"
      with_reducible refine hin_wp (g'.get (g.get (g2.get hz.1))) (by rw [← ea, szs_len]; omega) fun H4 g4 => ?_
      exact ⟨rfl, g4⟩
    rw [List.filter_eq_self.mpr fun _ _ => rfl] at e3
    have em : (bs.zip ((upI (-(x.length : Int)) (2 * x.length + 1)).map fun a => szs ring x y a)).map (fun p : Nat × List Int => D.int (hin p.2 t)) = ((upI (-(x.length : Int)) (2 * x.length + 1)).map fun a => cost ring x y (t - 1) a).map .int := by
      rw [show (fun p : Nat × List Int => D.int (hin p.2 t)) = (fun l => D.int (hin l t)) ∘ Prod.snd from rfl, ← List.map_map, zl, List.map_map, List.map_map]
      apply List.map_congr_left
      intro a _
      simp only [Function.comp, hin_cost]
    rw [em] at e3
    obtain ⟨lo, hi, hs⟩ := spn_ex (cost_cvx T (t - 1)) (n := x.length) (by omega)
    have es3 := g3.get es
    walk_at "zz"
    with_reducible refine ends_wp l2 hs e3 ?_
    walk_at "zz"
    refine pw_append es3 (by rw [List.length_map]; exact Nat.lt_of_lt_of_le (show sp.length < 60 by omega) (by decide)) ?_
    refine rd_nx ⟨sp ++ [(lo, hi)], _, _, rfl, (g2.trans g3).set (Nat.le_refl _), by simp; omega, fun i hi' => ?_, ?_⟩
    · by_cases c : i < sp.length
      · simp only [List.getElem_append_left c]
        exact hsp i c
      · have : i = sp.length := by simp at hi'; omega
        subst this
        simp only [List.getElem_append_right (Nat.le_refl _), Nat.sub_self, List.getElem_cons_zero]
        rw [show (sp.length : Int) = t - 1 by omega]
        exact hs
    · rw [get_set es3]; simp
  rintro _ h2 ⟨sp, v6, v7, rfl, g2, ls, hsp, es⟩
  walk_at "zz"
  exact q _ _ sp (g1.trans g2) (by omega) ⟨by omega, hsp⟩ es
end
end K53

set_option Elab.async false
set_option linter.all false
set_option maxRecDepth 100000
set_option maxHeartbeats 4000000
namespace K53
open PySem L2 Z
variable {k : Nat} {h : Hm} {K : D → Hm → Prop} {X : Exn → Hm → Prop} {s : Nat}
section
variable {ring : Int} {x y : List Int} {r : Nat} {sp : List (Int × Int)}
/-- the answers -/
def dEv (sp : List (Int × Int)) : D := if highest sp < lowest sp then .non else .tup [.int (lowest sp), .int (highest sp)]
def ixH (sp : List (Int × Int)) : Nat := (sp.map (·.2)).idxOf (highest sp)
def ixL (sp : List (Int × Int)) : Nat := (sp.map (·.1)).idxOf (lowest sp)
def dQu (sp : List (Int × Int)) : D := if lowest sp ≤ highest sp then .non else .tup [.int ((ixH sp : Nat) + 1), .int ((ixL sp : Nat) + 1), .int (highest sp)]
theorem sp_lenT (T : Two ring x y) (p : IsSp ring x y sp) : sp.length ≤ 25 := by have := p.1; have := T.r2; omega
theorem comp_sp {c : Cal} {ρ : Env'} {i : Nat} {e : E} {f : Int × Int → Int} (er : h[r]? = some (.lst (sp.map pr2))) (ls : sp.length ≤ 25) (hi : i < ρ.length)
    (he : ∀ p H, EW c e (ρ.set i (some (pr2 p))) H (fun d H2 => d = .int (f p) ∧ Gr H H2) (fun _ _ => False))
    (q : ∀ H, Gr h H → H[h.length]? = some (.lst ((sp.map f).map .int)) → K (.ref h.length) H) :
    RW (compL [(r, sp.map pr2)] (.name i) ρ (evE c (.lit (.bl true))) (evE c e) h.length (sp.map pr2) (h ++ [.lst []])) K X := by
  refine rw_compG pr2 (fun p => D.int (f p)) (fun _ => true) (gd_one er) (Nat.le_trans ls (by decide)) (fun p _ H g => ⟨ρ.set i (some (pr2 p)), by simp [setT, hi], ew_lit ⟨rfl, .refl⟩, fun _ H' _ => he p H'⟩) fun H g e => ?_
  rw [List.filter_eq_self.mpr fun _ _ => rfl] at e
  exact q H g (by rw [e, List.map_map]; rfl)
theorem every_wp (ok : ∀ sp H, Two ring x y → IsSp ring x y sp → Gr h H → K (dEv sp) H) (bad : (ring < 1 ∨ 48 < ring) → X xR h) (wr : 1 ≤ ring → ring ≤ 48 → (Wrong ring x ∨ Wrong ring y ∨ x.length ≠ y.length) → X xS h) : C (k + 4) i_every_span [.int ring, tupI x, tupI y] h K X := by
  (with_reducible refine rw_in (fn := f_every_span) (b := b_every_span) ?_ ?_ ?_ (ρ := [some (.int ring), some (tupI x), some (tupI y), none, none, none, none]) ?_ ?_); rfl; rfl; rfl; rfl; delta b_every_span
  walk_at "zz"
  with_reducible refine pair_wp (fun T => ?_) (fun c => ?_) fun r1 r2 c => ?_
  rotate_left
  · walk_at "zz"
    exact bad c
  · walk_at "zz"
    exact wr r1 r2 c
  walk_at "zz"
  with_reducible refine spans_wp T fun H1 r sp g1 lr isp e1 => ?_
  have ls := sp_lenT T isp
  have l0 := sp_len T isp
  obtain ⟨p, sr, rfl⟩ : ∃ p sr, sp = p :: sr := by
    cases sp with
    | nil => simp at l0
    | cons p sr => exact ⟨p, sr, rfl⟩
  walk_at "zz"
  refine ew_comp (lw_cons (ew_var rfl (lw_nil ⟨_, _, src_r e1, ?_⟩)))
  refine comp_sp (f := fun p => p.1) e1 ls (by simp [wipeE]) (fun p H => ?_) fun H2 g2 e2 => ?_
  · walk_at "zz"
    exact ⟨rfl, .refl⟩
  walk_at "zz"
  refine pw_maxlr e2 ?_
  have e1 := g2.get e1
  walk_at "zz"
  refine ew_comp (lw_cons (ew_var rfl (lw_nil ⟨_, _, src_r e1, ?_⟩)))
  refine comp_sp (f := fun p => p.2) e1 ls (by simp [wipeE]) (fun p H => ?_) fun H3 g3 e3 => ?_
  · walk_at "zz"
    exact ⟨rfl, .refl⟩
  walk_at "zz"
  refine pw_minlr e3 ?_
  walk_at "zz"
  have ok := ok (p :: sr) H3 T isp (g1.trans (g2.trans g3))
  refine tw_dec (fun c => ?_) fun c => ?_
  · walk_at "zz"
    have c : highest (p :: sr) < lowest (p :: sr) := c
    rw [dEv, if_pos c] at ok
    exact ok
  · walk_at "zz"
    have c : ¬ highest (p :: sr) < lowest (p :: sr) := c
    rw [dEv, if_neg c] at ok
    exact ok
theorem idx_first (v : Int) : ∀ (l : List Int) (i : Nat), i < l.idxOf v → l[i]? ≠ some v
  | [], i, h => by simp
  | a :: r, 0, h => by
    intro e
    simp at e
    subst e
    simp at h
  | a :: r, i + 1, h => by
    rw [List.getElem?_cons_succ]
    apply idx_first v r i
    rw [List.idxOf_cons] at h
    cases e : (a == v) <;> rw [e] at h <;> simp_all
theorem idx_get {l : List Int} {v : Int} (h : v ∈ l) : l[l.idxOf v]? = some v ∧ ∀ i, i < l.idxOf v → l[i]? ≠ some v := by
  refine ⟨?_, fun i hi e => ?_⟩
  · rw [List.getElem?_eq_getElem (List.idxOf_lt_length_of_mem h)]
    simp
  · exact idx_first v l i hi e
theorem low_in (n : 1 ≤ sp.length) : lowest sp ∈ sp.map (·.1) := by
  obtain ⟨p, hp, e⟩ := (low_ok n).1
  exact List.mem_map.mpr ⟨p, hp, e⟩
theorem high_in (n : 1 ≤ sp.length) : highest sp ∈ sp.map (·.2) := by
  obtain ⟨p, hp, e⟩ := (high_ok n).1
  exact List.mem_map.mpr ⟨p, hp, e⟩
theorem find_wp (ok : ∀ sp H, Two ring x y → IsSp ring x y sp → Gr h H → K (dQu sp) H) (bad : (ring < 1 ∨ 48 < ring) → X xR h) (wr : 1 ≤ ring → ring ≤ 48 → (Wrong ring x ∨ Wrong ring y ∨ x.length ≠ y.length) → X xS h) : C (k + 4) i_find_quarrel [.int ring, tupI x, tupI y] h K X := by
  (with_reducible refine rw_in (fn := f_find_quarrel) (b := b_find_quarrel) ?_ ?_ ?_ (ρ := [some (.int ring), some (tupI x), some (tupI y), none, none, none, none, none, none]) ?_ ?_); rfl; rfl; rfl; rfl; delta b_find_quarrel
  walk_at "zz"
  with_reducible refine pair_wp (fun T => ?_) (fun c => ?_) fun r1 r2 c => ?_
  rotate_left
  · walk_at "zz"
    exact bad c
  · walk_at "zz"
    exact wr r1 r2 c
  walk_at "zz"
  with_reducible refine spans_wp T fun H1 r sp g1 lr isp e1 => ?_
  have ls := sp_lenT T isp
  have l0 := sp_len T isp
  have hl := low_in l0
  have hh := high_in l0
  have ok := fun H g => ok sp H T isp g
  unfold dQu ixH ixL at ok
  obtain ⟨p, sr, rfl⟩ : ∃ p sr, sp = p :: sr := by
    cases sp with
    | nil => simp at l0
    | cons p sr => exact ⟨p, sr, rfl⟩
  walk_at "zz"
  refine ew_comp (lw_cons (ew_var rfl (lw_nil ⟨_, _, src_r e1, ?_⟩)))
  refine comp_sp (f := fun p => p.1) e1 ls (by simp [wipeE]) (fun p H => ?_) fun H2 g2 e2 => ?_
  · walk_at "zz"
    exact ⟨rfl, .refl⟩
  have e1 := g2.get e1
  walk_at "zz"
  refine ew_comp (lw_cons (ew_var rfl (lw_nil ⟨_, _, src_r e1, ?_⟩)))
  refine comp_sp (f := fun p => p.2) e1 ls (by simp [wipeE]) (fun p H => ?_) fun H3 g3 e3 => ?_
  · walk_at "zz"
    exact ⟨rfl, .refl⟩
  have e2 := g3.get e2
  have ok := ok H3 (g1.trans (g2.trans g3))
  walk_at "zz"
  refine pw_maxlr e2 ?_
  walk_at "zz"
  refine pw_minlr e3 ?_
  walk_at "zz"
  refine tw_dec (fun c => ?_) fun c => ?_
  · walk_at "zz"
    have c : lowest (p :: sr) ≤ highest (p :: sr) := c
    rw [if_pos c] at ok
    exact ok
  · have c : ¬ lowest (p :: sr) ≤ highest (p :: sr) := c
    rw [if_neg c] at ok
    walk_at "zz"
    refine pw_indexI e3 (by rw [List.length_map]; omega) (idx_get hh).1 (idx_get hh).2 ?_
    walk_at "zz"
    refine pw_indexI e2 (by rw [List.length_map]; omega) (idx_get hl).1 (idx_get hl).2 ?_
    walk_at "zz"
    exact ok
end
end K53

set_option Elab.async false
set_option linter.all false
set_option maxRecDepth 100000
set_option maxHeartbeats 4000000
namespace K53
open PySem L2 Z
variable {k : Nat} {h : Hm} {K : D → Hm → Prop} {X : Exn → Hm → Prop} {s : Nat}
section
variable {ring : Int} {x y : List Int} {r : Nat} {sp : List (Int × Int)}
theorem src_revr {r : Nat} {xs : List D} (e : h[r]? = some (.lst xs)) : evSrc .rev [.ref r] h = some (xs.reverse, [(r, xs)]) := by simp [evSrc, srcRev, Z.listOf, e, gdOf]
theorem ltops_wp {ts : List Int} (e : h[r]? = some (.lst (ts.map .int))) (l : ts.length ≤ 900) (q : ∀ H b, Gr h H → h.length ≤ b → H[b]? = some (.lst ((topsI ts).map .int)) → K (.ref b) H) : C (k + 1) i_law_tops [.ref r] h K X := by
  (with_reducible refine rw_in (fn := f_law_tops) (b := b_law_tops) ?_ ?_ ?_ (ρ := [some (.ref r), none, none, none]) ?_ ?_); rfl; rfl; rfl; rfl; delta b_law_tops
  walk_at "zz"
  refine pw_sorted (get_app e) (intsOf_map _) ?_
  walk_at "zz"
  refine ⟨_, _, src_revr get_new, ?_⟩
  rw [← List.map_reverse]
  refine fw_inv (I := fun w ρ2 h2 => ∃ done us v3, descI ts = done ++ us ∧ w = us.map D.int ∧ ρ2 = [some (.ref r), some (.ref h.length), some (.int done.sum), v3] ∧ Gr h h2 ∧ h2[h.length]? = some (.lst ((runI 0 done).map .int)) ∧ h2[(h ++ [Cell.lst []]).length]? = some (.lst ((sortI ts).map .int))) ⟨[], descI ts, _, rfl, rfl, rfl, Gr.app.trans .app, get_app get_new, get_new⟩ (fun _ _ _ z => by obtain ⟨_, _, _, _, _, _, _, _, z⟩ := z; exact gd_one z) ?_ ?_
  · rintro d w _ h2 ⟨done, us, v3, ex, eu, rfl, gr, eh, es⟩
    cases us with
    | nil => simp at eu
    | cons x us =>
      simp only [List.map_cons, List.cons.injEq] at eu
      obtain ⟨rfl, rfl⟩ := eu
      refine ⟨_, rfl, ?_⟩
      walk_at "zz"
      have ld : done.length ≤ 900 := by
        have h1 : (descI ts).length = ts.length := descI_len
        rw [ex] at h1; simp at h1; omega
      refine pw_append eh (by rw [List.length_map, runI_len]; exact Nat.lt_of_le_of_lt ld (by decide)) ?_
      walk_at "zz"
      refine rd_nx ⟨done ++ [x], us, some (.int x), by simp [ex], rfl, ?_, gr.set (Nat.le_refl _), ?_, get_set_ne (by simp) es⟩
      · rw [show (done ++ [x]).sum = done.sum + x by simp]; rfl
      · rw [get_set eh, runI_snoc]; simp
  rintro _ h2 ⟨done, us, v3, ex, eu, rfl, gr, eh, es⟩
  have : us = [] := by simpa using eu.symm
  subst this
  rw [List.append_nil] at ex
  walk_at "zz"
  refine q _ _ gr (Nat.le_refl _) ?_
  rw [topsI, ex]; exact eh
theorem at_get {l : List Int} {i : Int} (i0 : 0 ≤ i) (i1 : i < l.length) : atD (l.map D.int) i = some (.int (l[i.toNat]'(by omega))) := by
  rw [atD_pos (by rw [List.length_map]; omega) i0, List.getElem?_map, List.getElem?_eq_getElem (by omega)]; rfl
theorem at_ref {l : List Nat} {i : Int} (i0 : 0 ≤ i) (i1 : i < l.length) : atD (l.map D.ref) i = some (.ref (l[i.toNat]'(by omega))) := by
  rw [atD_pos (by rw [List.length_map]; omega) i0, List.getElem?_map, List.getElem?_eq_getElem (by omega)]; rfl
/-- the ends of a row that goes up by ones -/
theorem up_ends {lo hi : Int} (c : lo ≤ hi) : atD ((upI lo (hi - lo + 1).toNat).map D.int) 0 = some (.int lo) ∧ atD ((upI lo (hi - lo + 1).toNat).map D.int) ((((hi - lo + 1).toNat : Nat) : Int) - 1) = some (.int hi) := by
  constructor
  · rw [atD_pos (by rw [List.length_map, upI_len]; simp; omega) (by decide), List.getElem?_map, upI_get _ _ _ (by simp; omega)]
    simp
  · rw [atD_pos (by rw [List.length_map, upI_len]; omega) (by omega), List.getElem?_map, upI_get _ _ _ (by omega)]
    simp only [Option.map_some]
    congr 2; omega
theorem lspans_wp (T : Two ring x y) (q : ∀ H r sp, Gr h H → h.length ≤ r → IsSp ring x y sp → H[r]? = some (.lst (sp.map pr2)) → K (.ref r) H) : C (k + 3) i_law_hinge_spans [.int ring, tupI x, tupI y] h K X := by
  (with_reducible refine rw_in (fn := f_law_hinge_spans) (b := b_law_hinge_spans) ?_ ?_ ?_ (ρ := [some (.int ring), some (tupI x), some (tupI y), none, none, none, none, none, none, none, none, none]) ?_ ?_); rfl; rfl; rfl; rfl; delta b_law_hinge_spans
  have r1 := T.r1
  have r2 := T.r2
  have l1 := T.l1
  have l2 := T.l2
  have ly := T.ly
  walk_at "zz"
  rw [List.length_map]
  with_reducible refine ew_comp ?_
  walk_at "zz"
  refine ⟨_, _, src_r1 (small_k (by omega) (by omega)), ?_⟩
  rw [range_up, upD_map, show (2 * (x.length : Int) + 1).toNat = 2 * x.length + 1 by omega]
  with_reducible refine rw_compR D.int (fun a => szs ring x y (a - x.length)) ?_ ?_ ?_ ?_
  · rfl
  · rw [upI_len]; exact Nat.le_trans (show 2 * x.length + 1 ≤ 17 by omega) (by decide)
  · intro a ha H g
    refine ⟨_, rfl, ?_⟩
    walk_at "zz"
    with_reducible refine law_szs_wp r1 r2 l1 l2 ly fun H2 b g2 lb eb => ?_
    exact ⟨⟨b, rfl, lb, eb⟩, g2⟩
  intro H1 bs g1 e1 ra hb
  obtain ⟨zb, zc, zl⟩ := rows_zip ra
  have e1' := e1
  rw [zb] at e1'
  have lz : (bs.zip ((upI 0 (2 * x.length + 1)).map fun a => szs ring x y (a - x.length))).length ≤ 17 := by simp [upI_len]; omega
  walk_at "zz"
  refine ⟨_, _, src_r2 (small_k (by omega) (by omega)) (small_k (by omega) (by omega)), ?_⟩
  rw [range_up, show (ring / 2 + 2 - 1).toNat = (ring / 2 + 1).toNat by omega]
  have lh1 := lt_of_get e1
  refine fw_up (I := fun t ρ2 h2 => ∃ (sp : List (Int × Int)) (v6 v7 v8 v9 : Option D), ρ2 = [some (.int ring), some (tupI x), some (tupI y), some (.int x.length), some (.ref h.length), some (.ref H1.length), v6, v7, v8, v9, none, none] ∧ Gr H1 h2 ∧ (sp.length : Int) = t - 1 ∧ (∀ i (hi : i < sp.length), Spn (cost ring x y i) x.length sp[i].1 sp[i].2) ∧ h2[H1.length]? = some (.lst (sp.map pr2))) ⟨[], _, _, _, _, rfl, .app, by simp, fun i hi => by simp at hi, get_new⟩ (fun _ _ _ _ => rfl) ?_ ?_
  · rintro t _ h2 t0 t1 ⟨sp, v6, v7, v8, v9, rfl, g2, ls, hsp, es⟩
    refine ⟨_, rfl, ?_⟩
    have lt := lt_of_get es
    walk_at "zz"
    with_reducible refine ew_comp ?_
    refine lw_cons (ew_var rfl (lw_nil ⟨_, _, src_r (g2.get e1'), ?_⟩))
    refine rw_compG (fun p : Nat × List Int => D.ref p.1) (fun p : Nat × List Int => D.int (hin p.2 t)) (fun _ => true) (gd_one (g2.get e1')) (Nat.le_trans lz (by decide)) (fun p hp H g => ⟨_, rfl, ?_, fun _ H' g' => ?_⟩) fun H3 g3 e3 => ?_
    · walk_at "zz"
      exact ⟨rfl, .refl⟩
    · have hz := zc p hp
      obtain ⟨a, _, ea⟩ := List.mem_map.mp hz.2
      walk_at "zz"
      with_reducible refine law_hin_wp (g'.get (g.get (g2.get hz.1))) (by rw [← ea, szs_len]; omega) fun H4 g4 => ?_
      exact ⟨rfl, g4⟩
    rw [List.filter_eq_self.mpr fun _ _ => rfl] at e3
    have em : (bs.zip ((upI 0 (2 * x.length + 1)).map fun a => szs ring x y (a - x.length))).map (fun p : Nat × List Int => D.int (hin p.2 t)) = ((upI (-(x.length : Int)) (2 * x.length + 1)).map fun a => cost ring x y (t - 1) a).map .int := by
      rw [show (fun p : Nat × List Int => D.int (hin p.2 t)) = (fun l => D.int (hin l t)) ∘ Prod.snd from rfl, ← List.map_map, zl, show -(x.length : Int) = 0 + -(x.length : Int) by omega, ← upI_map_add, List.map_map, List.map_map, List.map_map]
      apply List.map_congr_left
      intro a _
      simp only [Function.comp, hin_cost]
      rfl
    rw [em] at e3
    obtain ⟨lo, hi, hs⟩ := spn_ex (cost_cvx T (t - 1)) (n := x.length) (by omega)
    have s0 := hs.a0
    have s1 := hs.a1
    have s2 := hs.a2
    have es3 := g3.get es
    obtain ⟨m, l, er⟩ := row_cons (F := cost ring x y (t - 1)) x.length
    have e3' := e3
    rw [er] at e3'
    walk_at "zz"
    refine pw_minlr e3' ?_
    rw [min_row hs er]
    clear e3' er
    walk_at "zz"
    with_reducible refine ew_comp ?_
    walk_at "zz"
    rw [List.length_map, List.length_map, upI_len]
    refine ⟨_, _, src_r1 (small_k (by omega) (by omega)), ?_⟩
    rw [range_up, upD_map, Int.toNat_natCast]
    refine rw_compG D.int (fun a : Int => D.int (a - x.length)) (fun a => decide (cost ring x y (t - 1) (a - x.length) = cost ring x y (t - 1) lo)) rfl (by rw [upI_len]; exact Nat.le_trans (show 2 * x.length + 1 ≤ 17 by omega) (by decide)) (fun a ha H g => ⟨_, rfl, ?_, fun _ H' g' => ?_⟩) fun H4 g4 e4 => ?_
    · rw [upI_mem] at ha
      have p1 : atD ((((upI (-(x.length : Int)) (2 * x.length + 1)).map fun a => cost ring x y (t - 1) a)).map D.int) a = some (.int (cost ring x y (t - 1) (a - x.length))) := by
        rw [at_get ha.1 (by rw [List.length_map, upI_len]; omega)]
        congr 2
        have := upI_get (2 * x.length + 1) (-(x.length : Int)) a.toNat (by omega)
        rw [List.getElem_map]
        obtain ⟨_, h2⟩ := List.getElem?_eq_some_iff.mp this
        rw [h2]
        congr 1; omega
      walk_at "zz"
      refine pw_idxr (g.get e3) p1 ?_
      walk_at "zz"
      exact ⟨rfl, .refl⟩
    · walk_at "zz"
      exact ⟨rfl, .refl⟩
    have ef : ((upI 0 (2 * x.length + 1)).filter fun a => decide (cost ring x y (t - 1) (a - x.length) = cost ring x y (t - 1) lo)).map (fun a : Int => D.int (a - x.length)) = (upI lo (hi - lo + 1).toNat).map .int := by
      rw [filter_upI (lo := lo + x.length) (hi := hi + x.length) (2 * x.length + 1) 0 (by omega) (by omega) (by omega) fun b b0 b1 => by
        rw [decide_eq_true_iff, spn_val hs (by omega) (by omega)]
        omega]
      have h1 : upI lo (hi - lo + 1).toNat = (upI (lo + x.length) (hi + x.length - (lo + x.length) + 1).toNat).map fun k => k + -(x.length : Int) := by
        rw [upI_map_add, show lo + x.length + -(x.length : Int) = lo by omega, show hi + (x.length : Int) - (lo + x.length) + 1 = hi - lo + 1 by omega]
      rw [h1, List.map_map]
      rfl
    rw [ef] at e4
    have es4 := g4.get es3
    obtain ⟨u1, u2⟩ := up_ends s1
    walk_at "zz"
    refine pw_idxr e4 u1 ?_
    walk_at "zz"
    rw [List.length_map, upI_len]
    refine pw_idxr e4 u2 ?_
    walk_at "zz"
    refine pw_append es4 (by rw [List.length_map]; exact Nat.lt_of_lt_of_le (show sp.length < 60 by omega) (by decide)) ?_
    refine rd_nx ⟨sp ++ [(lo, hi)], _, _, _, _, rfl, (g2.trans (g3.trans g4)).set (Nat.le_refl _), by simp; omega, fun i hi' => ?_, ?_⟩
    · by_cases c : i < sp.length
      · simp only [List.getElem_append_left c]
        exact hsp i c
      · have : i = sp.length := by simp at hi'; omega
        subst this
        simp only [List.getElem_append_right (Nat.le_refl _), Nat.sub_self, List.getElem_cons_zero]
        rw [show (sp.length : Int) = t - 1 by omega]
        exact hs
    · rw [get_set es4]; simp
  rintro _ h2 ⟨sp, v6, v7, v8, v9, rfl, g2, ls, hsp, es⟩
  walk_at "zz"
  exact q _ _ sp (g1.trans g2) (by omega) ⟨by omega, hsp⟩ es
end
end K53

set_option Elab.async false
set_option linter.all false
set_option maxRecDepth 100000
set_option maxHeartbeats 4000000
namespace K53
open PySem L2 Z
variable {k : Nat} {h : Hm} {K : D → Hm → Prop} {X : Exn → Hm → Prop} {s : Nat}
section
variable {ring : Int} {x y : List Int} {r : Nat} {sp : List (Int × Int)}
def minC : List Int → Int
  | [] => 0
  | a :: r => minI r a
theorem minC_le {l : List Int} {z : Int} (h : z ∈ l) : minC l ≤ z := by
  cases l with
  | nil => cases h
  | cons a r =>
    obtain ⟨_, h2, h3⟩ := minI_ok r a
    rcases List.mem_cons.mp h with rfl | h
    · exact h2
    · exact h3 z h
theorem minC_in {l : List Int} (n : 1 ≤ l.length) : minC l ∈ l := by
  cases l with
  | nil => simp at n
  | cons a r =>
    obtain ⟨h1, _, _⟩ := minI_ok r a
    rcases h1 with h1 | h1
    · show minI r a ∈ a :: r
      rw [h1]; simp
    · exact List.mem_cons_of_mem _ h1
def rowsL (ring : Int) (x y : List Int) : List (List Int) := (upI 0 (2 * x.length + 1)).map fun a => topsI (szs ring x y (a - x.length))
def leastL (ring : Int) (x y : List Int) : List Int := (upI 0 x.length).map fun j => minC ((rowsL ring x y).map fun L => L.getD j.toNat 0)
theorem tops_len {a : Int} : (topsI (szs ring x y a)).length = x.length := by rw [topsI_len, szs_len]
theorem tops_at {a : Int} {j : Nat} (h : j < x.length) : (topsI (szs ring x y a)).getD j 0 = topI (szs ring x y a) (j + 1) := by
  rw [getD_get (by rw [tops_len]; exact h), topsI_get (by rw [tops_len]; exact h)]
theorem least_at {j : Nat} (h : j < x.length) : (leastL ring x y)[j]? = some (minC ((rowsL ring x y).map fun L => L.getD j 0)) := by
  unfold leastL
  rw [List.getElem?_map, upI_get _ _ _ h]
  simp
theorem least_len : (leastL ring x y).length = x.length := by simp [leastL, upI_len]
theorem every_row {a : Int} (a0 : -(x.length : Int) ≤ a) (a1 : a ≤ x.length) : topsI (szs ring x y a) = leastL ring x y ↔ Evr ring x y a := by
  have inn : ∀ b, -(x.length : Int) ≤ b → b ≤ x.length → topsI (szs ring x y b) ∈ rowsL ring x y := fun b b0 b1 =>
    List.mem_map.mpr ⟨b + x.length, by rw [upI_mem]; omega, by rw [show b + (x.length : Int) - x.length = b by omega]⟩
  constructor
  · intro e b b0 b1 k hk
    cases k with
    | zero => simp [topI]
    | succ j =>
      have hj : j < x.length := by omega
      have e1 := least_at (ring := ring) (y := y) hj
      rw [← e, List.getElem?_eq_getElem (by rw [tops_len]; exact hj), Option.some.injEq, topsI_get] at e1
      rw [e1, ← tops_at hj]
      exact minC_le (List.mem_map.mpr ⟨_, inn b b0 b1, rfl⟩)
  · intro u
    apply List.ext_getElem?
    intro j
    by_cases hj : j < x.length
    · rw [least_at hj, List.getElem?_eq_getElem (by rw [tops_len]; exact hj), topsI_get]
      congr 1
      apply Int.le_antisymm
      · have hm := minC_in (l := (rowsL ring x y).map fun L => L.getD j 0) (by simp [rowsL, upI_len])
        obtain ⟨L, hL, e⟩ := List.mem_map.mp hm
        obtain ⟨b, hb, rfl⟩ := List.mem_map.mp hL
        rw [upI_mem] at hb
        rw [← e, tops_at hj]
        exact u (b - x.length) (by omega) (by omega) (j + 1) (by omega)
      · rw [← tops_at hj]
        exact minC_le (List.mem_map.mpr ⟨_, inn a a0 a1, rfl⟩)
    · rw [List.getElem?_eq_none (by rw [tops_len]; omega), List.getElem?_eq_none (by rw [least_len]; omega)]
theorem sp_in (T : Two ring x y) (p : IsSp ring x y sp) : -(x.length : Int) ≤ lowest sp ∧ lowest sp ≤ x.length ∧ -(x.length : Int) ≤ highest sp ∧ highest sp ≤ x.length := by
  have n := sp_len T p
  obtain ⟨⟨pl, hl, el⟩, _⟩ := low_ok n
  obtain ⟨⟨ph, hh, eh⟩, _⟩ := high_ok n
  obtain ⟨i, hi, rfl⟩ := List.mem_iff_getElem.mp hl
  obtain ⟨j, hj, rfl⟩ := List.mem_iff_getElem.mp hh
  have s1 := p.2 i hi
  have s2 := p.2 j hj
  have a0 := s1.a0; have a1 := s1.a1; have a2 := s1.a2
  have b0 := s2.a0; have b1 := s2.a1; have b2 := s2.a2
  omega
theorem levery_wp (T : Two ring x y) (isp : IsSp ring x y sp) (q : ∀ H, Gr h H → K (dEv sp) H) : C (k + 3) i_law_every [.int ring, tupI x, tupI y] h K X := by
  (with_reducible refine rw_in (fn := f_law_every) (b := b_law_every) ?_ ?_ ?_ (ρ := [some (.int ring), some (tupI x), some (tupI y), none, none, none, none, none, none]) ?_ ?_); rfl; rfl; rfl; rfl; delta b_law_every
  have r1 := T.r1
  have r2 := T.r2
  have l1 := T.l1
  have l2 := T.l2
  have ly := T.ly
  have il := sp_in T isp
  have il0 := il.1
  have il1 := il.2.1
  have ih0 := il.2.2.1
  have ih1 := il.2.2.2
  walk_at "zz"
  rw [List.length_map]
  with_reducible refine ew_comp ?_
  walk_at "zz"
  refine ⟨_, _, src_r1 (small_k (by omega) (by omega)), ?_⟩
  rw [range_up, upD_map, show (2 * (x.length : Int) + 1).toNat = 2 * x.length + 1 by omega]
  with_reducible refine rw_compR D.int (fun a => topsI (szs ring x y (a - x.length))) ?_ ?_ ?_ ?_
  · rfl
  · rw [upI_len]; exact Nat.le_trans (show 2 * x.length + 1 ≤ 17 by omega) (by decide)
  · intro a ha H g
    refine ⟨_, rfl, ?_⟩
    walk_at "zz"
    with_reducible refine law_szs_wp r1 r2 l1 l2 ly fun H2 b g2 lb eb => ?_
    walk_at "zz"
    with_reducible refine ltops_wp eb (by rw [szs_len]; omega) fun H3 b3 g3 lb3 eb3 => ?_
    exact ⟨⟨b3, rfl, Nat.le_trans g2.len lb3, eb3⟩, g2.trans g3⟩
  intro H1 bs g1 e1 ra hb
  change RowsAt H1 bs (rowsL ring x y) at ra
  have lr : (rowsL ring x y).length = 2 * x.length + 1 := by simp [rowsL, upI_len]
  have lbs : bs.length = 2 * x.length + 1 := ra.1.trans lr
  have zb := (rows_zip ra).1
  have zc := (rows_zip ra).2.1
  have zl := (rows_zip ra).2.2
  have e1' := e1
  rw [zb] at e1'
  have lz : (bs.zip (rowsL ring x y)).length ≤ 17 := by rw [List.length_zip, lr]; omega
  walk_at "zz"
  with_reducible refine ew_comp ?_
  walk_at "zz"
  refine ⟨_, _, src_r1 (small_k (by omega) (by omega)), ?_⟩
  rw [range_up, upD_map, Int.toNat_natCast]
  with_reducible refine rw_compG D.int (fun j : Int => D.int (minC ((rowsL ring x y).map fun L => L.getD j.toNat 0))) (fun _ => true) rfl (by rw [upI_len]; exact Nat.le_trans l2 (by decide)) (fun j hj H g => ⟨_, rfl, ?_, fun _ H' g' => ?_⟩) fun H2 g2 e2 => ?_
  · walk_at "zz"
    exact ⟨rfl, .refl⟩
  · rw [upI_mem] at hj
    have gg := g.trans g'
    walk_at "zz"
    with_reducible refine ew_comp ?_
    refine lw_cons (ew_var rfl (lw_nil ⟨_, _, src_r (gg.get e1'), ?_⟩))
    refine rw_compG (fun p : Nat × List Int => D.ref p.1) (fun p : Nat × List Int => D.int (p.2.getD j.toNat 0)) (fun _ => true) (gd_one (gg.get e1')) (Nat.le_trans lz (by decide)) (fun p hp H4 g4 => ⟨_, rfl, ?_, fun _ H5 g5 => ?_⟩) fun H6 g6 e6 => ?_
    · walk_at "zz"
      exact ⟨rfl, .refl⟩
    · have hz := zc p hp
      obtain ⟨a, _, ea⟩ := List.mem_map.mp hz.2
      have lp : p.2.length = x.length := by rw [← ea, tops_len]
      have p1 : atD (p.2.map D.int) j = some (.int (p.2.getD j.toNat 0)) := by
        rw [at_get hj.1 (by omega), getD_get (by omega)]
      walk_at "zz"
      refine pw_idxr (g5.get (g4.get (gg.get hz.1))) p1 ⟨rfl, .refl⟩
    rw [List.filter_eq_self.mpr fun _ _ => rfl] at e6
    have em : (bs.zip (rowsL ring x y)).map (fun p : Nat × List Int => D.int (p.2.getD j.toNat 0)) = ((rowsL ring x y).map fun L => L.getD j.toNat 0).map .int := by
      rw [show (fun p : Nat × List Int => D.int (p.2.getD j.toNat 0)) = (fun l => D.int (List.getD l j.toNat 0)) ∘ Prod.snd from rfl, ← List.map_map, zl, List.map_map]
      rfl
    rw [em] at e6
    have lc : ((rowsL ring x y).map fun L => L.getD j.toNat 0).length = 2 * x.length + 1 := by rw [List.length_map, lr]
    generalize ((rowsL ring x y).map fun L => L.getD j.toNat 0) = col at e6 lc ⊢
    cases col with
    | nil => simp at lc
    | cons c0 cr => exact lw_nil (pw_minlr e6 ⟨rfl, g6⟩)
  rw [List.filter_eq_self.mpr fun _ _ => rfl] at e2
  have e2 : H2[H1.length]? = some (.lst ((leastL ring x y).map .int)) := by
    rw [e2]; unfold leastL; rw [List.map_map]; rfl
  have e12 := g2.get e1
  clear e1'
  walk_at "zz"
  with_reducible refine ew_comp ?_
  walk_at "zz"
  rw [List.length_map, lbs]
  refine ⟨_, _, src_r1 (small_k (by omega) (by omega)), ?_⟩
  rw [range_up, upD_map, Int.toNat_natCast]
  with_reducible refine rw_compG D.int (fun a : Int => D.int (a - x.length)) (fun a => decide (topsI (szs ring x y (a - x.length)) = leastL ring x y)) rfl (by rw [upI_len]; exact Nat.le_trans (show 2 * x.length + 1 ≤ 17 by omega) (by decide)) (fun a ha H g => ⟨_, rfl, ?_, fun _ H' g' => ?_⟩) fun H4 g4 e4 => ?_
  · rw [upI_mem] at ha
    have la : a.toNat < bs.length := by omega
    have hr : H1[bs[a.toNat]'la]? = some (.lst ((topsI (szs ring x y (a - x.length))).map .int)) := by
      refine ra.2 a.toNat _ _ (List.getElem?_eq_getElem la) ?_
      unfold rowsL
      rw [List.getElem?_map, upI_get _ _ _ (by omega)]
      simp only [Option.map_some]
      rw [show (0 : Int) + ((a.toNat : Nat) : Int) = a by omega]
    walk_at "zz"
    refine pw_idxr (g.get e12) (at_ref ha.1 (by omega)) ?_
    walk_at "zz"
    refine pw_eqD (eqD_ref (g.get (g2.get hr)) (g.get e2) (by rw [tops_len]; omega) (by rw [least_len]; omega)) ⟨rfl, .refl⟩
  · walk_at "zz"
    exact ⟨rfl, .refl⟩
  have q := q H4 (g1.trans (g2.trans g4))
  unfold dEv at q
  have pe : ∀ b : Int, 0 ≤ b → b < 0 + ((2 * x.length + 1 : Nat) : Int) → (decide (topsI (szs ring x y (b - x.length)) = leastL ring x y) = true ↔ lowest sp ≤ b - x.length ∧ b - x.length ≤ highest sp) := fun b b0 b1 => by
    rw [decide_eq_true_iff, every_row (by omega) (by omega), evr_sp T isp (by omega) (by omega)]
  by_cases c : highest sp < lowest sp
  · rw [if_pos c] at q
    have ef : ((upI 0 (2 * x.length + 1)).filter fun a => decide (topsI (szs ring x y (a - x.length)) = leastL ring x y)) = [] := filter_none fun b b0 b1 => by
      have := pe b b0 b1
      cases e : decide (topsI (szs ring x y (b - x.length)) = leastL ring x y) with
      | false => rfl
      | true => have := this.mp e; omega
    rw [ef] at e4
    walk_at "zz"
    exact q
  · rw [if_neg c] at q
    have ef : ((upI 0 (2 * x.length + 1)).filter fun a => decide (topsI (szs ring x y (a - x.length)) = leastL ring x y)).map (fun a : Int => D.int (a - x.length)) = (upI (lowest sp) (highest sp - lowest sp + 1).toNat).map .int := by
      rw [filter_upI (lo := lowest sp + x.length) (hi := highest sp + x.length) (2 * x.length + 1) 0 (by omega) (by omega) (by omega) fun b b0 b1 => by
        rw [pe b b0 b1]; omega]
      have h1 : upI (lowest sp) (highest sp - lowest sp + 1).toNat = (upI (lowest sp + x.length) (highest sp + x.length - (lowest sp + x.length) + 1).toNat).map fun k => k + -(x.length : Int) := by
        rw [upI_map_add, show lowest sp + x.length + -(x.length : Int) = lowest sp by omega, show highest sp + (x.length : Int) - (lowest sp + x.length) + 1 = highest sp - lowest sp + 1 by omega]
      rw [h1, List.map_map]
      rfl
    rw [ef] at e4
    have u1 := (up_ends (show lowest sp ≤ highest sp by omega)).1
    have u2 := (up_ends (show lowest sp ≤ highest sp by omega)).2
    walk_at "zz"
    rw [List.length_map, upI_len]
    refine tw_neg (by omega) ?_
    walk_at "zz"
    refine pw_idxr e4 u1 ?_
    walk_at "zz"
    rw [List.length_map, upI_len]
    refine pw_idxr e4 u2 ?_
    walk_at "zz"
    exact q
end
end K53

set_option Elab.async false
set_option linter.all false
set_option maxRecDepth 100000
set_option maxHeartbeats 4000000
namespace K53
open PySem L2 Z
variable {k : Nat} {h : Hm} {K : D → Hm → Prop} {X : Exn → Hm → Prop} {s : Nat}
section
variable {ring : Int} {x y : List Int} {r : Nat} {sp : List (Int × Int)} {t u a : Int}
theorem first_idx {col : List Int} {v : Int} (hv : v ∈ col) : ∃ rest, (upI 0 col.length).filter (fun k => decide (col.getD k.toNat 0 = v)) = (col.idxOf v : Int) :: rest := by
  have hl := List.idxOf_lt_length_of_mem hv
  have h1 := (idx_get hv).1
  refine upI_first col.length 0 (by omega) (by omega) ?_ fun j j0 j1 => ?_
  · rw [Int.toNat_natCast, decide_eq_true_iff, List.getD_eq_getElem?_getD, h1]; rfl
  · have h2 := (idx_get hv).2 j.toNat (by omega)
    rw [List.getElem?_eq_getElem (by omega)] at h2
    rw [decide_eq_false_iff_not, getD_get (by omega)]
    intro e
    exact h2 (by rw [e])
theorem at_pr {i : Int} (i0 : 0 ≤ i) (i1 : i < sp.length) : atD (sp.map pr2) i = some (.tup [.int ((sp.map (·.1)).getD i.toNat 0), .int ((sp.map (·.2)).getD i.toNat 0)]) := by
  have l : i.toNat < sp.length := by omega
  rw [atD_pos (by rw [List.length_map]; omega) i0, List.getElem?_map, List.getElem?_eq_getElem l, getD_get (by simpa using l), getD_get (by simpa using l)]
  simp
theorem lquarrel_wp (T : Two ring x y) (isp : IsSp ring x y sp) (q : ∀ H, Gr h H → K (dQu sp) H) : C (k + 4) i_law_quarrel [.int ring, tupI x, tupI y] h K X := by
  (with_reducible refine rw_in (fn := f_law_quarrel) (b := b_law_quarrel) ?_ ?_ ?_ (ρ := [some (.int ring), some (tupI x), some (tupI y), none, none, none, none, none, none, none]) ?_ ?_); rfl; rfl; rfl; rfl; delta b_law_quarrel
  walk_at "zz"
  with_reducible refine lspans_wp T fun H1 r sp' g1 lr isp' e1 => ?_
  have := sp_one isp' isp
  subst this
  have ls := sp_lenT T isp
  have l0 := sp_len T isp
  have hl := low_in l0
  have hh := high_in l0
  unfold dQu ixH ixL at q
  have ex : ∃ p sr, sp' = p :: sr := by
    cases sp' with
    | nil => simp at l0
    | cons p sr => exact ⟨p, sr, rfl⟩
  walk_at "zz"
  with_reducible refine ew_comp ?_
  refine lw_cons (ew_var rfl (lw_nil ⟨_, _, src_r e1, ?_⟩))
  refine comp_sp (f := fun p => p.2) e1 ls (by simp [wipeE]) (fun p H => ?_) fun H2 g2 e2 => ?_
  · walk_at "zz"
    exact ⟨rfl, .refl⟩
  have mh : Z.PW .minl [.ref H1.length] H2 (fun d H => d = .int (highest sp') ∧ H = H2) (fun _ _ => False) := by
    cases sp' with
    | nil => simp at l0
    | cons p sr => exact pw_minlr e2 ⟨rfl, rfl⟩
  walk_at "zz"
  refine RW.mono mh (fun d H z => ?_) fun _ _ z => z.elim
  have z1 := z.1
  have z2 := z.2
  subst z1
  subst z2
  have e1 := g2.get e1
  walk_at "zz"
  with_reducible refine ew_comp ?_
  refine lw_cons (ew_var rfl (lw_nil ⟨_, _, src_r e1, ?_⟩))
  refine comp_sp (f := fun p => p.1) e1 ls (by simp [wipeE]) (fun p H => ?_) fun H3 g3 e3 => ?_
  · walk_at "zz"
    exact ⟨rfl, .refl⟩
  have mh : Z.PW .maxl [.ref H.length] H3 (fun d H => d = .int (lowest sp') ∧ H = H3) (fun _ _ => False) := by
    cases sp' with
    | nil => simp at l0
    | cons p sr => exact pw_maxlr e3 ⟨rfl, rfl⟩
  walk_at "zz"
  refine RW.mono mh (fun d H' z => ?_) fun _ _ z => z.elim
  have z1 := z.1
  have z2 := z.2
  subst z1
  subst z2
  have e1 := g3.get e1
  have g13 := g1.trans (g2.trans g3)
  walk_at "zz"
  refine tw_dec (fun c => ?_) fun c => ?_
  · walk_at "zz"
    have q := q _ g13
    rw [if_pos c] at q
    exact q
  walk_at "zz"
  have lc2 : (sp'.map (·.2)).length = sp'.length := List.length_map _
  have lc1 : (sp'.map (·.1)).length = sp'.length := List.length_map _
  have fi := first_idx hh
  rw [lc2] at fi
  have fl := first_idx hl
  rw [lc1] at fl
  with_reducible refine ew_comp ?_
  walk_at "zz"
  rw [List.length_map]
  refine ⟨_, _, src_r1 (small_k (by omega) (by omega)), ?_⟩
  rw [range_up, upD_map, Int.toNat_natCast]
  with_reducible refine rw_compG D.int (fun a : Int => D.int (a + 1)) (fun a => decide ((sp'.map (·.2)).getD a.toNat 0 = highest sp')) rfl (by rw [upI_len]; exact Nat.le_trans ls (by decide)) (fun a ha H5 g => ⟨_, rfl, ?_, fun _ H' g' => ?_⟩) fun H5 g5 e5 => ?_
  · rw [upI_mem] at ha
    walk_at "zz"
    refine pw_idxr (g.get e1) (at_pr ha.1 (by omega)) ?_
    walk_at "zz"
    exact ⟨rfl, .refl⟩
  · walk_at "zz"
    exact ⟨rfl, .refl⟩
  obtain ⟨rest, fi⟩ := fi
  rw [fi, List.map_cons] at e5
  walk_at "zz"
  refine pw_idxr e5 atD_zero ?_
  have e1 := g5.get e1
  walk_at "zz"
  with_reducible refine ew_comp ?_
  walk_at "zz"
  rw [List.length_map]
  refine ⟨_, _, src_r1 (small_k (by omega) (by omega)), ?_⟩
  rw [range_up, upD_map, Int.toNat_natCast]
  with_reducible refine rw_compG D.int (fun a : Int => D.int (a + 1)) (fun a => decide ((sp'.map (·.1)).getD a.toNat 0 = lowest sp')) rfl (by rw [upI_len]; exact Nat.le_trans ls (by decide)) (fun a ha H6 g => ⟨_, rfl, ?_, fun _ H' g' => ?_⟩) fun H6 g6 e6 => ?_
  · rw [upI_mem] at ha
    walk_at "zz"
    refine pw_idxr (g.get e1) (at_pr ha.1 (by omega)) ?_
    walk_at "zz"
    exact ⟨rfl, .refl⟩
  · walk_at "zz"
    exact ⟨rfl, .refl⟩
  obtain ⟨rest2, fl⟩ := fl
  rw [fl, List.map_cons] at e6
  walk_at "zz"
  refine pw_idxr e6 atD_zero ?_
  walk_at "zz"
  have q := q _ (g13.trans (g5.trans g6))
  rw [if_neg c] at q
  exact q
theorem hinged_wp (T : Two ring x y) (q : ∀ H, Gr h H → K (.int (cost ring x y (t - 1) a)) H) : C (k + 3) i_law_hinged [.int ring, tupI x, tupI y, .int a, .int t] h K X := by
  (with_reducible refine rw_in (fn := f_law_hinged) (b := b_law_hinged) ?_ ?_ ?_ (ρ := [some (.int ring), some (tupI x), some (tupI y), some (.int a), some (.int t)]) ?_ ?_); rfl; rfl; rfl; rfl; delta b_law_hinged
  have l2 := T.l2
  walk_at "zz"
  with_reducible refine law_szs_wp T.r1 T.r2 T.l1 T.l2 T.ly fun H1 b g1 lb eb => ?_
  walk_at "zz"
  with_reducible refine law_hin_wp eb (by rw [szs_len]; omega) fun H2 g2 => ?_
  rw [hin_cost]
  walk_at "zz"
  exact q _ (g1.trans g2)
def qb (ring : Int) (x y : List Int) (t u a : Int) : Bool := decide (cost ring x y (t - 1) a < cost ring x y (t - 1) (a + 1)) && decide (cost ring x y (u - 1) (a + 1) < cost ring x y (u - 1) a)
theorem isq_wp (T : Two ring x y) (q : ∀ H, Gr h H → K (.bl (qb ring x y t u a)) H) : C (k + 4) i_law_is_quarrel [.int ring, tupI x, tupI y, .int t, .int u, .int a] h K X := by
  (with_reducible refine rw_in (fn := f_law_is_quarrel) (b := b_law_is_quarrel) ?_ ?_ ?_ (ρ := [some (.int ring), some (tupI x), some (tupI y), some (.int t), some (.int u), some (.int a), none]) ?_ ?_); rfl; rfl; rfl; rfl; delta b_law_is_quarrel
  walk_at "zz"
  with_reducible refine hinged_wp T fun H1 g1 => ?_
  walk_at "zz"
  with_reducible refine hinged_wp T fun H2 g2 => ?_
  walk_at "zz"
  unfold qb at q
  refine aw_dec (fun c => ?_) fun c => ?_
  · walk_at "zz"
    with_reducible refine hinged_wp T fun H3 g3 => ?_
    walk_at "zz"
    with_reducible refine hinged_wp T fun H4 g4 => ?_
    walk_at "zz"
    have q := q _ (g1.trans (g2.trans (g3.trans g4)))
    rw [decide_eq_true c, Bool.true_and] at q
    exact q
  · walk_at "zz"
    have q := q _ (g1.trans g2)
    rw [decide_eq_false c, Bool.false_and] at q
    exact q
theorem rise_cost : rise ring x y t a = cost ring x y (t - 1) (a + 1) - cost ring x y (t - 1) a := by unfold rise; rw [hin_cost, hin_cost]
theorem qb_rise : (decide (0 < rise ring x y t a) && decide (rise ring x y u a < 0)) = qb ring x y t u a := by
  unfold qb
  rw [rise_cost, rise_cost]
  congr 1
  · exact decide_eq_decide.mpr (by omega)
  · exact decide_eq_decide.mpr (by omega)
theorem two_no (T : Two ring x y) (c : Wrong ring x ∨ Wrong ring y ∨ x.length ≠ y.length) : False := by
  rcases c with c | c | c
  · exact c ⟨T.l1, T.l2, T.ux⟩
  · exact c ⟨by rw [T.ly]; exact T.l1, by rw [T.ly]; exact T.l2, T.uy⟩
  · exact c T.ly.symm
theorem tre_dEv : Tre 1 (dEv sp) := by
  unfold dEv
  split
  · trivial
  · exact ⟨by simp, fun z hz => by
      simp only [List.mem_cons, List.not_mem_nil, or_false] at hz
      rcases hz with rfl | rfl <;> trivial⟩
theorem tre_dQu : Tre 1 (dQu sp) := by
  unfold dQu
  split
  · trivial
  · exact ⟨by simp, fun z hz => by
      simp only [List.mem_cons, List.not_mem_nil, or_false] at hz
      rcases hz with rfl | rfl | rfl <;> trivial⟩
theorem qb_true (T : Two ring x y) (isp : IsSp ring x y sp) (c : highest sp < lowest sp) : qb ring x y ((ixH sp : Nat) + 1) ((ixL sp : Nat) + 1) (highest sp) = true := by
  have l0 := sp_len T isp
  have h1 := (idx_get (high_in l0)).1
  have h2 := (idx_get (low_in l0)).1
  obtain ⟨hi, e1⟩ := List.getElem?_eq_some_iff.mp h1
  obtain ⟨hj, e2⟩ := List.getElem?_eq_some_iff.mp h2
  rw [List.getElem_map] at e1 e2
  rw [List.length_map] at hi hj
  have := part_rise T isp c hi hj e1 e2
  unfold qb ixH ixL
  rw [show ((((sp.map (·.2)).idxOf (highest sp) : Nat) : Int) + 1 - 1) = (((sp.map (·.2)).idxOf (highest sp) : Nat) : Int) by omega, show ((((sp.map (·.1)).idxOf (lowest sp) : Nat) : Int) + 1 - 1) = (((sp.map (·.1)).idxOf (lowest sp) : Nat) : Int) by omega, decide_eq_true this.1, decide_eq_true this.2]
  rfl
theorem holds0_wp (T : Two ring x y) (isp : IsSp ring x y sp) (q : ∀ H, Gr h H → K (.bl true) H) : C (k + 5) i_law_pair_holds [.int ring, tupI x, tupI y] h K X := by
  (with_reducible refine rw_in (fn := f_law_pair_holds) (b := b_law_pair_holds) ?_ ?_ ?_ (ρ := [some (.int ring), some (tupI x), some (tupI y), none, none, none, none, none]) ?_ ?_); rfl; rfl; rfl; rfl; delta b_law_pair_holds
  walk_at "zz"
  with_reducible refine levery_wp T isp fun H1 g1 => ?_
  walk_at "zz"
  with_reducible refine lquarrel_wp T isp fun H2 g2 => ?_
  walk_at "zz"
  with_reducible refine every_wp (fun sp' H3 _ isp' g3 => ?_) (fun c => by have := T.r1; have := T.r2; omega) fun _ _ c => (two_no T c).elim
  have := sp_one isp' isp
  subst this
  walk_at "zz"
  with_reducible refine same_wp 1 (sm_refl 1 tre_dEv) ?_
  walk_at "zz"
  with_reducible refine find_wp (fun sp2 H4 _ isp2 g4 => ?_) (fun c => by have := T.r1; have := T.r2; omega) fun _ _ c => (two_no T c).elim
  have := sp_one isp2 isp
  subst this
  walk_at "zz"
  with_reducible refine same_wp 1 (sm_refl 1 tre_dQu) ?_
  have gg := g1.trans (g2.trans (g3.trans g4))
  by_cases c : lowest sp2 ≤ highest sp2
  · have e1 : dQu sp2 = .non := if_pos c
    have e2 : dEv sp2 = .tup [.int (lowest sp2), .int (highest sp2)] := if_neg (by omega)
    rw [e1, e2]
    walk_at "zz"
    refine pw_isnot (b := false) rfl ?_
    exact q _ gg
  · have e1 : dQu sp2 = .tup [.int ((ixH sp2 : Nat) + 1), .int ((ixL sp2 : Nat) + 1), .int (highest sp2)] := if_neg c
    have e2 : dEv sp2 = .non := if_pos (by omega)
    rw [e1, e2]
    walk_at "zz"
    refine ⟨_, rfl, ?_⟩
    walk_at "zz"
    with_reducible refine isq_wp T fun H5 g5 => ?_
    rw [qb_true T isp (by omega)]
    exact q _ (gg.trans g5)
theorem sp_go (T : Two ring x y) {P : Prop} (f : ∀ sp, IsSp ring x y sp → P) : P := Exists.elim (sp_ex T) f
theorem holds_wp (T : Two ring x y) (q : ∀ H, Gr h H → K (.bl true) H) : C (k + 5) i_law_pair_holds [.int ring, tupI x, tupI y] h K X := by
  with_reducible refine sp_go T ?_
  with_reducible intro sp isp
  with_reducible exact holds0_wp T isp q
end
end K53

set_option Elab.async false
set_option linter.all false
set_option maxRecDepth 100000
set_option maxHeartbeats 4000000
namespace K53
open PySem L2 Z
variable {k : Nat} {h : Hm} {K : D → Hm → Prop} {X : Exn → Hm → Prop} {s : Nat}
section
variable {ring : Int} {x y : List Int} {r : Nat} {t u a : Int}
/-- a question with right lines -/
def CD (d : D) : Prop := ∃ p q a : Int, d = .tup [.int p, .int q, .int a] ∧ 1 ≤ p ∧ p ≤ 999 ∧ 1 ≤ q ∧ q ≤ 999
theorem cd_of {p q a : Int} (p1 : 1 ≤ p) (p2 : p ≤ 999) (q1 : 1 ≤ q) (q2 : q ≤ 999) : CD (.tup [.int p, .int q, .int a]) := ⟨p, q, a, rfl, p1, p2, q1, q2⟩
theorem judged_wp {ds : List D} (e : h[r]? = some (.lst ds)) (hd : ∀ d ∈ ds, CD d) (T : Two ring x y) (q : ∀ H, Gr h H → K (.bl true) H) : C (k + 5) i_law_judged [.int ring, tupI x, tupI y, .ref r] h K X := by
  (with_reducible refine rw_in (fn := f_law_judged) (b := b_law_judged) ?_ ?_ ?_ (ρ := [some (.int ring), some (tupI x), some (tupI y), some (.ref r), none, none, none, none]) ?_ ?_); rfl; rfl; rfl; rfl; delta b_law_judged
  have r1 := T.r1
  have r2 := T.r2
  walk_at "zz"
  refine ⟨_, _, src_r e, ?_⟩
  refine fw_inv (I := fun w ρ2 h2 => ∃ v4 v5 v6 v7, (∀ d ∈ w, CD d) ∧ ρ2 = [some (.int ring), some (tupI x), some (tupI y), some (.ref r), v4, v5, v6, v7] ∧ Gr h h2) ⟨_, _, _, _, hd, rfl, .refl⟩ (fun _ _ _ z => by obtain ⟨_, _, _, _, _, _, g⟩ := z; exact gd_one (g.get e)) ?_ ?_
  · rintro d w _ h2 ⟨v4, v5, v6, v7, hd, rfl, g⟩
    obtain ⟨p, q2, a2, rfl, p1, p2, b1, b2⟩ := hd d (by simp)
    refine ⟨_, rfl, ?_⟩
    walk_at "zz"
    refine ⟨_, rfl, ?_⟩
    walk_at "zz"
    with_reducible refine quarrel_wp (fun _ _ _ _ _ H3 g3 => ?_) (fun c => by omega) (fun _ _ c => (two_no T c).elim) fun _ c => by omega
    rw [qb_rise]
    walk_at "zz"
    with_reducible refine isq_wp T fun H4 g4 => ?_
    walk_at "zz"
    with_reducible refine same_wp 0 (by simp [Sm]) ?_
    walk_at "zz"
    exact rd_nx ⟨_, _, _, _, fun d hd' => hd d (List.mem_cons_of_mem _ hd'), rfl, g.trans (g3.trans g4)⟩
  rintro _ h2 ⟨v4, v5, v6, v7, _, rfl, g⟩
  walk_at "zz"
  exact q _ g
theorem world_wp (hs : StoreOk h s) (q : ∀ H r ring many, 1 ≤ ring → ring ≤ 48 → 1 ≤ many → many ≤ 8 → StoreOk H s → Fr s h H → H[r]? = some (.lst [.int ring, .int many]) → h.length ≤ r → K (.ref r) H) : C (k + 4) i_law_world [.ref s] h K X := by
  (with_reducible refine rw_in (fn := f_law_world) (b := b_law_world) ?_ ?_ ?_ (ρ := [some (.ref s)]) ?_ ?_); rfl; rfl; rfl; rfl; delta b_law_world
  walk_at "zz"
  with_reducible refine odds_wp hs (by omega) (by omega) fun od h1 hs1 f1 => ?_
  refine tw_b (fun c => ?_) fun c => ?_
  · walk_at "zz"
    with_reducible refine near_wp hs1 (by omega) (by omega) fun ring h2 r1 r2 hs2 f2 => ?_
    walk_at "zz"
    with_reducible refine near_wp hs2 (by omega) (by omega) fun many h3 m1 m2 hs3 f3 => ?_
    walk_at "zz"
    exact q _ _ _ _ r1 r2 m1 m2 hs3.app ((f1.trans (f2.trans f3)).trans .app) get_new (f1.trans (f2.trans f3)).1
  · walk_at "zz"
    with_reducible refine take_wp hs1 (by omega) (by omega) fun a h2 r1 r2 hs2 f2 => ?_
    walk_at "zz"
    with_reducible refine take_wp hs2 (by omega) (by omega) fun b h3 m1 m2 hs3 f3 => ?_
    walk_at "zz"
    exact q _ _ _ _ (by omega) (by omega) (by omega) (by omega) hs3.app ((f1.trans (f2.trans f3)).trans .app) get_new (f1.trans (f2.trans f3)).1
theorem chords_wp {many : Int} (hs : StoreOk h s) (r1 : 1 ≤ ring) (r2 : ring ≤ 48) (m1 : 1 ≤ many) (m2 : many ≤ 8) (q : ∀ H r x y, Two ring x y → (x.length : Int) = many → StoreOk H s → Fr s h H → H[r]? = some (.lst [tupI x, tupI y]) → h.length ≤ r → K (.ref r) H) : C (k + 4) i_law_two_chords [.ref s, .int ring, .int many] h K X := by
  (with_reducible refine rw_in (fn := f_law_two_chords) (b := b_law_two_chords) ?_ ?_ ?_ (ρ := [some (.ref s), some (.int ring), some (.int many), none, none, none, none, none]) ?_ ?_); rfl; rfl; rfl; rfl; delta b_law_two_chords
  walk_at "zz"
  with_reducible refine chord_wp hs r1 (by omega) m1 (by omega) fun x h1 lx ux hs1 f1 => ?_
  walk_at "zz"
  with_reducible refine take_wp hs1 (by omega) (by omega) fun kd h2 k0 k1 hs2 f2 => ?_
  have f12 := f1.trans f2
  have ls2 := hs2.lt
  walk_at "zz"
  (with_reducible first | refine tw_dec (fun c0 => ?_) (fun c0 => ?_) | refine aw_dec (fun c0 => ?_) (fun c0 => ?_) | refine ow_dec (fun c0 => ?_) (fun c0 => ?_) | refine bw_dec (fun c0 => ?_) (fun c0 => ?_) | refine tw_b (fun c0 => ?_) (fun c0 => ?_) | refine aw_b (fun c0 => ?_) (fun c0 => ?_) | refine ow_b (fun c0 => ?_) (fun c0 => ?_) | refine bw_b (fun c0 => ?_) (fun c0 => ?_))
  · walk_at "zz"
    with_reducible refine nextchord_wp hs2 r1 r2 (by omega) (by omega) ux fun y h3 ly uy hs3 f3 => ?_
    walk_at "zz"
    exact q _ _ x y ⟨r1, r2, by omega, by omega, by omega, ux, uy⟩ lx hs3.app ((f12.trans f3).trans .app) get_new (f12.trans f3).1
  walk_at "zz"
  (with_reducible first | refine tw_dec (fun c1 => ?_) (fun c1 => ?_) | refine aw_dec (fun c1 => ?_) (fun c1 => ?_) | refine ow_dec (fun c1 => ?_) (fun c1 => ?_) | refine bw_dec (fun c1 => ?_) (fun c1 => ?_) | refine tw_b (fun c1 => ?_) (fun c1 => ?_) | refine aw_b (fun c1 => ?_) (fun c1 => ?_) | refine ow_b (fun c1 => ?_) (fun c1 => ?_) | refine bw_b (fun c1 => ?_) (fun c1 => ?_))
  · walk_at "zz"
    refine pw_list (x := tupI x) rfl ?_
    walk_at "zz"
    with_reducible refine take_wp hs2.app (by omega) (by omega) fun n h3 n0 n1 hs3 f3 => ?_
    have e3 : h3[h2.length]? = some (.lst (x.map .int)) := f3.get (by omega) get_new
    have f3 : Fr s h h3 := f12.trans (Fr.app.trans f3)
    have l2 := f12.1
    walk_at "zz"
    refine ⟨_, _, src_r1 (small_k (by omega) (by omega)), ?_⟩
    rw [range_up]
    refine fw_up (I := fun _ ρ2 h4 => ∃ (us : List Int) (v6 v7 : Option D), ρ2 = [some (.ref s), some (.int ring), some (.int many), some (tupI x), some (.int kd), some (.ref h2.length), v6, v7] ∧ us.length = x.length ∧ (∀ z ∈ us, 0 ≤ z ∧ z < ring) ∧ h4[h2.length]? = some (.lst (us.map .int)) ∧ StoreOk h4 s ∧ Fr s h h4) ⟨x, _, _, rfl, rfl, up_all ux, e3, hs3, f3⟩ (fun _ _ _ _ => rfl) ?_ ?_
    · rintro j _ h4 j0 j1 ⟨us, v6, v7, rfl, lu, hu, eu, hs4, f4⟩
      refine ⟨_, rfl, ?_⟩
      walk_at "zz"
      with_reducible refine take_wp hs4 (by omega) (by omega) fun i h5 i0 i1 hs5 f5 => ?_
      walk_at "zz"
      with_reducible refine take_wp hs5 (by omega) (by omega) fun v h6 v0 v1 hs6 f6 => ?_
      have e6 := f6.get (by omega) (f5.get (by omega) eu)
      walk_at "zz"
      refine rw_setix e6 (by rw [List.length_map]; exact ixN_get i0 (by omega)) ?_
      rw [show (us.map D.int).set i.toNat (.int v) = (us.set i.toNat v).map .int from List.map_set.symm]
      refine rd_nx ⟨us.set i.toNat v, _, _, rfl, by simpa using lu, fun z hz => ?_, get_set e6, hs6.setn (by omega), (f4.trans (f5.trans f6)).setn l2⟩
      rcases List.mem_or_eq_of_mem_set hz with hz | hz
      · exact hu z hz
      · omega
    rintro _ h4 ⟨us, v6, v7, rfl, lu, hu, eu, hs4, f4⟩
    have si := sorted_in hu
    walk_at "zz"
    refine pw_sorted eu (intsOf_map _) ?_
    refine lw_nil (pw_tupr get_new ?_)
    walk_at "zz"
    exact q _ _ x (sortI us) ⟨r1, r2, by omega, by omega, by omega, ux, si.2⟩ lx hs4.app.app (f4.trans (Fr.app.trans .app)) get_new (by have := f4.1; simp; omega)
  walk_at "zz"
  with_reducible refine chord_wp hs2 r1 (by omega) m1 (by omega) fun y h3 ly uy hs3 f3 => ?_
  walk_at "zz"
  exact q _ _ x y ⟨r1, r2, by omega, by omega, by omega, ux, uy⟩ lx hs3.app ((f12.trans f3).trans .app) get_new (f12.trans f3).1
theorem quarrelling_wp {many : Int} (hs : StoreOk h s) (r1 : 1 ≤ ring) (r2 : ring ≤ 48) (m1 : 1 ≤ many) (m2 : many ≤ 8) (q : ∀ H r x y, Two ring x y → (x.length : Int) = many → StoreOk H s → Fr s h H → H[r]? = some (.lst [tupI x, tupI y]) → h.length ≤ r → K (.ref r) H) : C (k + 5) i_law_quarrelling [.ref s, .int ring, .int many] h K X := by
  (with_reducible refine rw_in (fn := f_law_quarrelling) (b := b_law_quarrelling) ?_ ?_ ?_ (ρ := [some (.ref s), some (.int ring), some (.int many), none, none, none]) ?_ ?_); rfl; rfl; rfl; rfl; delta b_law_quarrelling
  walk_at "zz"
  with_reducible refine chords_wp hs r1 r2 m1 m2 fun h1 r0 x0 y0 T0 lx0 hs1 f1 e1 lr0 => ?_
  walk_at "zz"
  with_reducible refine odds_wp hs1 (by omega) (by omega) fun od h2 hs2 f2 => ?_
  have ls := hs.lt
  have e2 := f2.get (by omega) e1
  walk_at "zz"
  refine ⟨_, _, src_r1 (small_k (by omega) (by omega)), ?_⟩
  rw [range_up]
  refine fw_up (I := fun _ ρ2 h3 => ∃ (r : Nat) (x y : List Int) (v5 : Option D), ρ2 = [some (.ref s), some (.int ring), some (.int many), some (.ref r), some (.bl od), v5] ∧ Two ring x y ∧ (x.length : Int) = many ∧ StoreOk h3 s ∧ Fr s h h3 ∧ h3[r]? = some (.lst [tupI x, tupI y]) ∧ h.length ≤ r) ⟨r0, x0, y0, _, rfl, T0, lx0, hs2, f1.trans f2, e2, lr0⟩ (fun _ _ _ _ => rfl) ?_ ?_
  · rintro j _ h3 j0 j1 ⟨r, x, y, v5, rfl, T, lx, hs3, f3, e3, lr⟩
    refine ⟨_, rfl, ?_⟩
    have next : ∀ H, StoreOk H s → Fr s h H → SW (callF pg fuel (k + 4)) fuel pg.sub (.set (.name 3) (.call 30 (.cons (.var 0) (.cons (.var 1) (.cons (.var 2) .nil))))) [some (.ref s), some (.int ring), some (.int many), some (.ref r), some (.bl od), some (.int j)] H (rd (fun ρ2 h3 => ∃ (r : Nat) (x y : List Int) (v5 : Option D), ρ2 = [some (.ref s), some (.int ring), some (.int many), some (.ref r), some (.bl od), v5] ∧ Two ring x y ∧ (x.length : Int) = many ∧ StoreOk h3 s ∧ Fr s h h3 ∧ h3[r]? = some (.lst [tupI x, tupI y]) ∧ h.length ≤ r) (sq (callF pg fuel (k + 4)) fuel pg.sub (.ret (.var 3)) (endQ K X))) := by
      intro H hsH fH
      walk_at "zz"
      with_reducible refine chords_wp hsH r1 r2 m1 m2 fun h5 r5 x5 y5 T5 lx5 hs5 f5 e5 lr5 => ?_
      exact rd_nx ⟨r5, x5, y5, _, rfl, T5, lx5, hs5, fH.trans f5, e5, Nat.le_trans fH.1 lr5⟩
    cases od with
    | false =>
      walk_at "zz"
      exact q _ _ _ _ T lx hs3 f3 e3 lr
    | true =>
      walk_at "zz"
      with_reducible refine sp_go T ?_
      with_reducible intro sp isp
      with_reducible refine levery_wp T isp fun H4 g4 => ?_
      by_cases c : highest sp < lowest sp
      · rw [show dEv sp = .non from if_pos c]
        walk_at "zz"
        exact q _ _ _ _ T lx (g4.store hs3) (f3.trans g4.fr) (g4.get e3) lr
      · rw [show dEv sp = .tup [.int (lowest sp), .int (highest sp)] from if_neg c]
        refine lw_cons (ew_lit (lw_nil (pw_is (b := false) rfl (tw_f (sw_skip (sq_nx (next H4 (g4.store hs3) (f3.trans g4.fr))))))))
  rintro _ h3 ⟨r, x, y, v5, rfl, T, lx, hs3, f3, e3, lr⟩
  walk_at "zz"
  exact q _ _ _ _ T lx hs3 f3 e3 lr
end
end K53

set_option Elab.async false
set_option linter.all false
set_option maxRecDepth 100000
set_option maxHeartbeats 4000000
namespace K53
open PySem L2 Z
variable {k : Nat} {h : Hm} {K : D → Hm → Prop} {X : Exn → Hm → Prop} {s : Nat}
section
variable {ring : Int} {x y : List Int} {r : Nat} {t u a : Int}
theorem p30 : (10 : Int) ^ (30 : Int).toNat = 1000000000000000000000000000000 := by decide
theorem badhinge_wp (hs : StoreOk h s) (q : ∀ d h', (d < 1 ∨ 999 < d) → StoreOk h' s → Fr s h h' → K (.int d) h') : C (k + 3) i_law_bad_hinge [.ref s] h K X := by
  (with_reducible refine rw_in (fn := f_law_bad_hinge) (b := b_law_bad_hinge) ?_ ?_ ?_ (ρ := [some (.ref s)]) ?_ ?_); rfl; rfl; rfl; rfl; delta b_law_bad_hinge
  have ls := hs.lt
  walk_at "zz"
  rw [p30]
  with_reducible refine pickr_wp (xs := [.int 0, .int 1000, .int (-1), .int 1001, .int (1000000000000000000000000000000 - 1), .int (1 - 1000000000000000000000000000000)]) hs.app get_new (by omega) (by simp) (by simp) fun d h2 hd hs2 f2 => ?_
  simp only [List.mem_cons, List.not_mem_nil, or_false] at hd
  rcases hd with rfl | rfl | rfl | rfl | rfl | rfl
  all_goals
    walk_at "zz"
    exact q _ _ (by omega) hs2 (Fr.app.trans f2)
abbrev sRing : D := .str (Str.ofString "ring")
abbrev sShape : D := .str (Str.ofString "shape")
abbrev sEff : D := .str (Str.ofString "effort")
abbrev sNone : D := .str (Str.ofString "none")
def WrongP (ring : Int) (x y : List Int) : Prop := Wrong ring x ∨ Wrong ring y ∨ x.length ≠ y.length
/-- a pair that is refused -/
def BP (ring : Int) (x y : List Int) (d : D) : Prop := (d = sRing ∧ (ring < 1 ∨ 48 < ring)) ∨ (d = sShape ∧ 1 ≤ ring ∧ ring ≤ 48 ∧ WrongP ring x y)
theorem badpair_wp (hs : StoreOk h s) (T : Two ring x y) (q : ∀ H r ring' x' y' d, BP ring' x' y' d → StoreOk H s → Fr s h H → H[r]? = some (.lst [.int ring', tupI x', tupI y', d]) → K (.ref r) H) : C (k + 5) i_law_bad_pair [.ref s, .int ring, tupI x, tupI y] h K X := by
  (with_reducible refine rw_in (fn := f_law_bad_pair) (b := b_law_bad_pair) ?_ ?_ ?_ (ρ := [some (.ref s), some (.int ring), some (tupI x), some (tupI y), none, none]) ?_ ?_); rfl; rfl; rfl; rfl; delta b_law_bad_pair
  have r1 := T.r1
  have r2 := T.r2
  have l1 := T.l1
  have l2 := T.l2
  have ly := T.ly
  walk_at "zz"
  with_reducible refine take_wp hs (by omega) (by omega) fun kd h1 k0 k1 hs1 f1 => ?_
  walk_at "zz"
  with_reducible refine take_wp hs1 (by omega) (by omega) fun w1 h2 w10 w11 hs2 f2 => ?_
  walk_at "zz"
  with_reducible refine take_wp hs2 (by omega) (by omega) fun w2 h3 w20 w21 hs3 f3 => ?_
  have ls3 := hs3.lt
  walk_at "zz"
  rw [p30]
  with_reducible refine pickr_wp (xs := [.int 0, .int 49, .int (0 - w1), .int (50 + w2), .int (1000000000000000000000000000000 - 1), .int (1 - 1000000000000000000000000000000)]) hs3.app get_new (by omega) (by simp) (by simp) fun d h4 hd hs4 f4 => ?_
  have f4 : Fr s h h4 := f1.trans (f2.trans (f3.trans (Fr.app.trans f4)))
  obtain ⟨w, rfl, hw⟩ : ∃ w : Int, d = .int w ∧ (w < 1 ∨ 48 < w) := by
    simp only [List.mem_cons, List.not_mem_nil, or_false] at hd
    rcases hd with rfl | rfl | rfl | rfl | rfl | rfl
    all_goals exact ⟨_, rfl, by omega⟩
  walk_at "zz"
  (with_reducible first | refine tw_dec (fun c0 => ?_) (fun c0 => ?_) | refine aw_dec (fun c0 => ?_) (fun c0 => ?_) | refine ow_dec (fun c0 => ?_) (fun c0 => ?_) | refine bw_dec (fun c0 => ?_) (fun c0 => ?_) | refine tw_b (fun c0 => ?_) (fun c0 => ?_) | refine aw_b (fun c0 => ?_) (fun c0 => ?_) | refine ow_b (fun c0 => ?_) (fun c0 => ?_) | refine bw_b (fun c0 => ?_) (fun c0 => ?_))
  · walk_at "zz"
    exact q _ _ w x y sRing (.inl ⟨rfl, hw⟩) hs4.app (f4.trans .app) get_new
  walk_at "zz"
  (with_reducible first | refine tw_dec (fun c1 => ?_) (fun c1 => ?_) | refine aw_dec (fun c1 => ?_) (fun c1 => ?_) | refine ow_dec (fun c1 => ?_) (fun c1 => ?_) | refine bw_dec (fun c1 => ?_) (fun c1 => ?_) | refine tw_b (fun c1 => ?_) (fun c1 => ?_) | refine aw_b (fun c1 => ?_) (fun c1 => ?_) | refine ow_b (fun c1 => ?_) (fun c1 => ?_) | refine bw_b (fun c1 => ?_) (fun c1 => ?_))
  · walk_at "zz"
    rw [List.length_map]
    with_reducible refine badchord_wp hs4 r1 (by omega) (by omega) (by omega) fun z h5 wz hs5 f5 => ?_
    walk_at "zz"
    exact q _ _ ring z y sShape (.inr ⟨rfl, r1, r2, .inl wz⟩) hs5.app ((f4.trans f5).trans .app) get_new
  walk_at "zz"
  (with_reducible first | refine tw_dec (fun c2 => ?_) (fun c2 => ?_) | refine aw_dec (fun c2 => ?_) (fun c2 => ?_) | refine ow_dec (fun c2 => ?_) (fun c2 => ?_) | refine bw_dec (fun c2 => ?_) (fun c2 => ?_) | refine tw_b (fun c2 => ?_) (fun c2 => ?_) | refine aw_b (fun c2 => ?_) (fun c2 => ?_) | refine ow_b (fun c2 => ?_) (fun c2 => ?_) | refine bw_b (fun c2 => ?_) (fun c2 => ?_))
  · walk_at "zz"
    rw [List.length_map]
    with_reducible refine badchord_wp hs4 r1 (by omega) (by omega) (by omega) fun z h5 wz hs5 f5 => ?_
    walk_at "zz"
    exact q _ _ ring x z sShape (.inr ⟨rfl, r1, r2, .inr (.inl wz)⟩) hs5.app ((f4.trans f5).trans .app) get_new
  walk_at "zz"
  (with_reducible first | refine tw_dec (fun c3 => ?_) (fun c3 => ?_) | refine aw_dec (fun c3 => ?_) (fun c3 => ?_) | refine ow_dec (fun c3 => ?_) (fun c3 => ?_) | refine bw_dec (fun c3 => ?_) (fun c3 => ?_) | refine tw_b (fun c3 => ?_) (fun c3 => ?_) | refine aw_b (fun c3 => ?_) (fun c3 => ?_) | refine ow_b (fun c3 => ?_) (fun c3 => ?_) | refine bw_b (fun c3 => ?_) (fun c3 => ?_))
  · walk_at "zz"
    rw [List.length_map]
    with_reducible refine take_wp hs4 (by omega) (by omega) fun v h5 v0 v1 hs5 f5 => ?_
    walk_at "zz"
    with_reducible refine chord_wp hs5 r1 (by omega) (by omega) (by omega) fun z h6 lz uz hs6 f6 => ?_
    walk_at "zz"
    exact q _ _ ring x z sShape (.inr ⟨rfl, r1, r2, .inr (.inr (by omega))⟩) hs6.app ((f4.trans (f5.trans f6)).trans .app) get_new
  walk_at "zz"
  rw [List.length_map]
  with_reducible refine badchord_wp hs4 r1 (by omega) (by omega) (by omega) fun z h5 wz hs5 f5 => ?_
  walk_at "zz"
  exact q _ _ w z y sRing (.inl ⟨rfl, hw⟩) hs5.app ((f4.trans f5).trans .app) get_new
theorem pw_intb {b : Bool} (q : K (.int (if b then 1 else 0)) h) : Z.PW .int [.bl b] h K X := q
abbrev hnd : S := match b_law_refusal with
  | .seq (.try _ hs) _ => hs
  | s => s
abbrev rst : S := match b_law_refusal with
  | .seq _ b => b
  | s => s
theorem hnd_r {v0 v1 v2 v3 v4 v5 v6 : Option D} (q : K sRing h) : hq (callF pg fuel k) fuel pg.sub hnd (sq (callF pg fuel k) fuel pg.sub rst (endQ K X)) (.ex xR [v0, v1, v2, v3, v4, v5, v6, none] h) := by
  unfold hnd rst
  delta b_law_refusal
  refine hq_no (by decide +kernel) (hq_ex (by decide +kernel) (by simp) ?_)
  walk_at "zz"
  exact q
theorem hnd_s {v0 v1 v2 v3 v4 v5 v6 : Option D} (q : K sShape h) : hq (callF pg fuel k) fuel pg.sub hnd (sq (callF pg fuel k) fuel pg.sub rst (endQ K X)) (.ex xS [v0, v1, v2, v3, v4, v5, v6, none] h) := by
  unfold hnd rst
  delta b_law_refusal
  refine hq_no (by decide +kernel) (hq_ex (by decide +kernel) (by simp) ?_)
  walk_at "zz"
  exact q
theorem ref_pair_wp {w : Int} {d : D} (hw : w = 0 ∨ w = 1 ∨ w = 2) (b : BP ring x y d) (q : K d h) : C (k + 5) i_law_refusal [.int w, .int ring, tupI x, tupI y, .int t, .int u, .int a] h K X := by
  have nt : ¬ Two ring x y := fun T => by
    rcases b with ⟨_, b⟩ | ⟨_, _, _, b⟩
    · have := T.r1; have := T.r2; omega
    · exact two_no T b
  (with_reducible refine rw_in (fn := f_law_refusal) (b := b_law_refusal) ?_ ?_ ?_ (ρ := [some (.int w), some (.int ring), some (tupI x), some (tupI y), some (.int t), some (.int u), some (.int a), none]) ?_ ?_); rfl; rfl; rfl; rfl; delta b_law_refusal
  have hr : (ring < 1 ∨ 48 < ring) → K sRing h := fun c => by
    rcases b with ⟨rfl, _⟩ | ⟨_, _, _, _⟩
    · exact q
    · omega
  have hs' : 1 ≤ ring → ring ≤ 48 → K sShape h := fun c1 c2 => by
    rcases b with ⟨_, _⟩ | ⟨rfl, _, _, _⟩
    · omega
    · exact q
  rcases hw with rfl | rfl | rfl
  · walk_at "zz"
    with_reducible refine every_wp (fun sp H T _ _ => absurd T nt) (fun c => ?_) fun c1 c2 _ => ?_
    · walk_at "zz"
      exact hnd_r (hr c)
    · walk_at "zz"
      exact hnd_s (hs' c1 c2)
  · walk_at "zz"
    with_reducible refine find_wp (fun sp H T _ _ => absurd T nt) (fun c => ?_) fun c1 c2 _ => ?_
    · walk_at "zz"
      exact hnd_r (hr c)
    · walk_at "zz"
      exact hnd_s (hs' c1 c2)
  · walk_at "zz"
    with_reducible refine quarrel_wp (fun T => absurd T nt) (fun c => ?_) (fun c1 c2 _ => ?_) fun T => absurd T nt
    · walk_at "zz"
      exact hnd_r (hr c)
    · walk_at "zz"
      exact hnd_s (hs' c1 c2)
theorem ref_eff_wp (T : Two ring x y) (b : t < 1 ∨ 999 < t ∨ u < 1 ∨ 999 < u) (q : ∀ H, Gr h H → K sEff H) : C (k + 5) i_law_refusal [.int 2, .int ring, tupI x, tupI y, .int t, .int u, .int a] h K X := by
  have r1 := T.r1
  have r2 := T.r2
  (with_reducible refine rw_in (fn := f_law_refusal) (b := b_law_refusal) ?_ ?_ ?_ (ρ := [some (.int 2), some (.int ring), some (tupI x), some (tupI y), some (.int t), some (.int u), some (.int a), none]) ?_ ?_); rfl; rfl; rfl; rfl; delta b_law_refusal
  walk_at "zz"
  with_reducible refine quarrel_wp (fun _ _ _ _ _ => by omega) (fun c => by omega) (fun c1 c2 c => (two_no T c).elim) fun _ _ => ?_
  refine hq_ex (by decide +kernel) (by simp) ?_
  walk_at "zz"
  refine ew_xfld rfl rfl ?_
  walk_at "zz"
  with_reducible refine same_wp 0 (by simp [Sm]) ?_
  walk_at "zz"
  with_reducible refine pw_intb ?_
  have e2 : atD [D.str (Str.ofString "other"), sEff] (if true = true then 1 else 0) = some sEff := rfl
  refine lw_nil ?_
  with_reducible refine pw_idxr get_new e2 ?_
  walk_at "zz"
  exact q _ .app
theorem ref_good_wp (T : Two ring x y) (t1 : 1 ≤ t) (t2 : t ≤ 999) (u1 : 1 ≤ u) (u2 : u ≤ 999) (q : ∀ H, Gr h H → K sNone H) : C (k + 5) i_law_refusal [.int 2, .int ring, tupI x, tupI y, .int t, .int u, .int a] h K X := by
  have r1 := T.r1
  have r2 := T.r2
  (with_reducible refine rw_in (fn := f_law_refusal) (b := b_law_refusal) ?_ ?_ ?_ (ρ := [some (.int 2), some (.int ring), some (tupI x), some (tupI y), some (.int t), some (.int u), some (.int a), none]) ?_ ?_); rfl; rfl; rfl; rfl; delta b_law_refusal
  walk_at "zz"
  with_reducible refine quarrel_wp (fun _ _ _ _ _ H3 g3 => ?_) (fun c => by omega) (fun _ _ c => (two_no T c).elim) fun _ c => by omega
  walk_at "zz"
  exact q _ g3
end
end K53

set_option Elab.async false
set_option linter.all false
set_option maxRecDepth 100000
set_option maxHeartbeats 4000000
namespace K53
open PySem L2 Z
variable {k : Nat} {h : Hm} {K : D → Hm → Prop} {X : Exn → Hm → Prop} {s : Nat}
section
variable {ring : Int} {x y : List Int} {sp : List (Int × Int)}
theorem pw_nes {a : Str} (z : SeqAt.shaped (PyData.str a) = true) (q : K (.bl false) h) : Z.PW .ne [.str a, .str a] h K X := pw_neD (eqD_str z) q
theorem dQu_ok (T : Two ring x y) (isp : IsSp ring x y sp) (c : ¬ lowest sp ≤ highest sp) : ∃ t u a : Int, dQu sp = .tup [.int t, .int u, .int a] ∧ 1 ≤ t ∧ t ≤ 30 ∧ 1 ≤ u ∧ u ≤ 30 := by
  have l0 := sp_len T isp
  have ls := sp_lenT T isp
  have h1 : ixH sp < sp.length := by
    have := List.idxOf_lt_length_of_mem (high_in l0)
    rwa [List.length_map] at this
  have h2 : ixL sp < sp.length := by
    have := List.idxOf_lt_length_of_mem (low_in l0)
    rwa [List.length_map] at this
  exact ⟨_, _, _, if_neg c, by omega, by omega, by omega, by omega⟩
theorem law_wp {ns : List Int} (l : ns.length ≤ 63) (q : ∀ H, K (.bl true) H) : C (k + 8) i_law [.ro (ns.map .int)] h K X := by
  (with_reducible refine rw_in (fn := f_law) (b := b_law) ?_ ?_ ?_ (ρ := [some (.ro (ns.map .int)), none, none, none, none, none, none, none, none, none, none, none, none, none, none, none, none, none, none]) ?_ ?_); rfl; rfl; rfl; rfl; delta b_law
  walk_at "zz"
  with_reducible refine store_wp l fun s h1 hs1 => ?_
  walk_at "zz"
  with_reducible refine world_wp hs1 fun h2 w ring many r1 r2 m1 m2 hs2 f2 ew lw => ?_
  have ls1 := hs1.lt
  walk_at "zz"
  with_reducible refine quarrelling_wp hs2 r1 r2 m1 m2 fun h3 p x y T lx hs3 f3 ep lp => ?_
  have ew3 := f3.get (by omega) ew
  walk_at "zz"
  refine ⟨_, rfl, ?_⟩
  walk_at "zz"
  with_reducible refine world_wp hs3 fun h4 w2 ring2 many2 a1 a2 b1 b2 hs4 f4 ew4 lw4 => ?_
  have ls3 := hs3.lt
  have ew34 := f4.get (by omega) ew3
  walk_at "zz"
  with_reducible refine chords_wp hs4 a1 a2 b1 b2 fun h5 p5 u v T2 lu hs5 f5 ep5 lp5 => ?_
  have ew5 := f5.get (by omega) ew4
  have ew35 := f5.get (by omega) ew34
  walk_at "zz"
  refine ⟨_, rfl, ?_⟩
  walk_at "zz"
  with_reducible refine holds_wp T fun h6 g6 => ?_
  have ew6 := g6.get ew5
  walk_at "zz"
  with_reducible refine holds_wp T2 fun h7 g7 => ?_
  have hs7 := g7.store (g6.store hs5)
  have ew7 := g7.get (g6.get ew35)
  clear ew6 ew5 ew34 ew3 ew
  walk_at "zz"
  with_reducible refine sp_go T ?_
  with_reducible intro sp isp
  with_reducible refine lquarrel_wp T isp fun h8 g8 => ?_
  have hs8 := g8.store hs7
  have ew8 := g8.get ew7
  clear ew7 ew35 g6 g7 g8 hs7
  refine sq_nx (sw_cut (I := fun ρ H => ∃ t u' a : Int, ρ = [some (.ro (ns.map .int)), some (.ref s), some (.ref w), some (.int ring), some (.ref w2), some (.tup [.int t, .int u', .int a]), none, none, none, none, none, some (tupI x), some (tupI y), some (tupI u), some (tupI v), none, none, none, none] ∧ 1 ≤ t ∧ t ≤ 30 ∧ 1 ≤ u' ∧ u' ≤ 30 ∧ StoreOk H s) ?_ ?_)
  · by_cases c : lowest sp ≤ highest sp
    · rw [show dQu sp = .non from if_pos c]
      walk_at "zz"
      with_reducible refine near_wp hs8 (by omega) (by omega) fun t h9 t1 t2 hs9 f9 => ?_
      have ew9 := f9.get (by omega) ew8
      walk_at "zz"
      with_reducible refine span_wp hs9 (by omega) (by omega) fun a h10 t3 t4 hs10 f10 => ?_
      walk_at "zz"
      exact cq_nx ⟨_, _, _, rfl, by omega, by omega, by omega, by omega, hs10⟩
    · have hq := dQu_ok T isp c
      have hq := hq
      generalize dQu sp = d at hq ⊢
      with_reducible refine Exists.elim hq ?_
      with_reducible intro t hq
      with_reducible refine Exists.elim hq ?_
      with_reducible intro u' hq
      with_reducible refine Exists.elim hq ?_
      with_reducible intro a hq
      have e := hq.1
      have b1 := hq.2.1
      have b2 := hq.2.2.1
      have b3 := hq.2.2.2.1
      have b4 := hq.2.2.2.2
      subst e
      walk_at "zz"
      exact cq_nx ⟨_, _, _, rfl, b1, b2, b3, b4, hs8⟩
  rintro _ h9 ⟨t, u', a, rfl, t1, t2, u1, u2, hs9⟩
  clear hs8 ew8
  walk_at "zz"
  refine ⟨_, rfl, ?_⟩
  walk_at "zz"
  with_reducible refine near_wp hs9.app (by omega) (by omega) fun n1 h10 n10 n11 hs10 f10 => ?_
  walk_at "zz"
  with_reducible refine near_wp hs10 (by omega) (by omega) fun n2 h11 n20 n21 hs11 f11 => ?_
  walk_at "zz"
  with_reducible refine whole_wp hs11 fun wh h12 hs12 f12 => ?_
  have er := f12.get (by have := hs9.lt; omega) (f11.get (by have := hs9.lt; omega) (f10.get (by have := hs9.lt; omega) (get_new (h := h9) (x := .lst [.tup [.int t, .int u', .int a], .tup [.int u', .int t, .int a], .tup [.int t, .int t, .int a], .tup [.int t, .int u', .int (a + 1)], .tup [.int t, .int u', .int (a - 1)], .tup [.int (t + 1), .int u', .int a], .tup [.int t, .int (u' + 1), .int a], .tup [.int 1, .int u', .int a]]))))
  walk_at "zz"
  refine pw_addr (get_app er) get_new (le_size (by simp)) ?_
  walk_at "zz"
  with_reducible refine judged_wp get_new (fun d hd => ?_) T fun h13 g13 => ?_
  · simp only [List.mem_append, List.mem_cons, List.not_mem_nil, or_false] at hd
    rcases hd with (rfl | rfl | rfl | rfl | rfl | rfl | rfl | rfl) | rfl | rfl
    all_goals exact cd_of (by omega) (by omega) (by omega) (by omega)
  have hs13 := (Gr.trans .app (Gr.trans .app g13)).store hs12
  clear er
  walk_at "zz"
  with_reducible refine badhinge_wp hs13 fun wr h14 hw hs14 f14 => ?_
  have ls14 := hs14.lt
  walk_at "zz"
  with_reducible refine pickr_wp hs14.app get_new (by omega) (by simp) (by simp) fun d h15 hd hs15 f15 => ?_
  have hd2 : ∃ p q : Int, d = .tup [.int p, .int q] ∧ (p < 1 ∨ 999 < p ∨ q < 1 ∨ 999 < q) := by
    simp only [List.mem_cons, List.not_mem_nil, or_false] at hd
    rcases hd with rfl | rfl | rfl
    all_goals exact ⟨_, _, rfl, by omega⟩
  with_reducible refine Exists.elim hd2 ?_
  with_reducible intro hp hd2
  with_reducible refine Exists.elim hd2 ?_
  with_reducible intro hq hd2
  have e := hd2.1
  have hb := hd2.2
  subst e
  walk_at "zz"
  with_reducible refine ref_eff_wp T hb fun h16 g16 => ?_
  have hs16 := g16.store hs15
  walk_at "zz"
  refine pw_nes (by decide +kernel) ?_
  walk_at "zz"
  refine ⟨_, _, src_r1 (small_k (by decide) (by decide)), ?_⟩
  rw [range_up]
  refine fw_up (I := fun _ ρ2 h2 => ∃ v9 v18, ρ2 = [some (.ro (ns.map .int)), some (.ref s), some (.ref w), some (.int ring), some (.ref w2), some (.tup [.int t, .int u', .int a]), some (.ref (h12 ++ [Cell.lst [.tup [.int n1, .int n2, .int a], .tup [.int t, .int u', .int wh]]]).length), some (.int wr), some (.tup [.int hp, .int hq]), v9, none, some (tupI x), some (tupI y), some (tupI u), some (tupI v), some (.int t), some (.int u'), some (.int a), v18] ∧ StoreOk h2 s) ⟨_, _, rfl, hs16⟩ (fun _ _ _ _ => rfl) ?_ ?_
  · rintro j _ h17 j0 j1 ⟨v9, v18, rfl, hs17⟩
    refine ⟨_, rfl, ?_⟩
    walk_at "zz"
    with_reducible refine badpair_wp hs17 T fun h18 rb ring' x' y' d' bp hs18 f18 e18 => ?_
    walk_at "zz"
    have jw : j = 0 ∨ j = 1 ∨ j = 2 := by have : (3 : Int).toNat = 3 := rfl; omega
    have e3 : atD [D.int ring', tupI x', tupI y', d'] 3 = some d' := rfl
    with_reducible refine ref_pair_wp jw bp ?_
    have sh : ∃ st, d' = .str st ∧ SeqAt.shaped (PyData.str st) = true := by
      rcases bp with ⟨rfl, _⟩ | ⟨rfl, _⟩
      · exact ⟨_, rfl, by decide +kernel⟩
      · exact ⟨_, rfl, by decide +kernel⟩
    with_reducible refine Exists.elim sh ?_
    with_reducible intro st sh
    have es := sh.1
    have sh2 := sh.2
    subst es
    walk_at "zz"
    refine pw_nes sh2 ?_
    walk_at "zz"
    exact rd_nx ⟨_, _, rfl, hs18⟩
  rintro _ h17 ⟨v9, v18, rfl, hs17⟩
  walk_at "zz"
  refine ⟨_, _, src_r get_new, ?_⟩
  refine fw_inv (I := fun w' ρ2 h2 => ∃ v10, (∀ d ∈ w', ∃ g : Int, d = .int g ∧ 1 ≤ g ∧ g ≤ 999) ∧ ρ2 = [some (.ro (ns.map .int)), some (.ref s), some (.ref w), some (.int ring), some (.ref w2), some (.tup [.int t, .int u', .int a]), some (.ref (h12 ++ [Cell.lst [.tup [.int n1, .int n2, .int a], .tup [.int t, .int u', .int wh]]]).length), some (.int wr), some (.tup [.int hp, .int hq]), v9, v10, some (tupI x), some (tupI y), some (tupI u), some (tupI v), some (.int t), some (.int u'), some (.int a), v18] ∧ Gr (h17 ++ [.lst [.int 1, .int 999]]) h2) ⟨_, ?_, rfl, .refl⟩ (fun _ _ _ z => by obtain ⟨_, _, _, g⟩ := z; exact gd_one (g.get get_new)) ?_ ?_
  · intro d hd
    simp only [List.mem_cons, List.not_mem_nil, or_false] at hd
    rcases hd with rfl | rfl
    all_goals exact ⟨_, rfl, by omega, by omega⟩
  · rintro d w' _ h18 ⟨v10, hd, rfl, g18⟩
    obtain ⟨g, rfl, g1, g2⟩ := hd d (by simp)
    refine ⟨_, rfl, ?_⟩
    walk_at "zz"
    with_reducible refine ref_good_wp T g1 g2 (by omega) (by omega) fun h19 g19 => ?_
    walk_at "zz"
    refine pw_nes (by decide +kernel) ?_
    walk_at "zz"
    exact rd_nx ⟨_, fun d hd' => hd d (List.mem_cons_of_mem _ hd'), rfl, g18.trans g19⟩
  rintro _ h18 ⟨v10, _, rfl, g18⟩
  walk_at "zz"
  with_reducible refine holds_wp T fun h19 g19 => ?_
  exact q _
end
theorem law_true : ∀ ns : List Int, ns.length ≤ 63 → ∃ h, callF pg fuel 30 i_law [.ro (ns.map .int)] [] = .ok (.bl true) h := fun ns l => by
  have q : C (22 + 8) i_law [.ro (ns.map .int)] [] (fun d _ => d = .bl true) (fun _ _ => False) := law_wp l fun _ => rfl
  unfold C at q
  generalize callF pg fuel (22 + 8) i_law [.ro (ns.map .int)] [] = r at q
  cases r with
  | ok d h => exact ⟨h, by rw [show d = .bl true from q]⟩
  | exn x h => exact q.elim
  | bad => exact q.elim
end K53

end
set_option Elab.async false
set_option linter.all false
set_option maxRecDepth 100000
set_option maxHeartbeats 4000000
namespace K53
open PySem L2 Z
abbrev top (i : Nat) : Stmt := PySem.Challenge.pw_nextchord_k53_every_span_or_a_quarrel.main.body.getD i (.Pass ⟨0, 0, 0, 0⟩)
theorem s_check_ring : FnScope ([(Str.ofString "ring")] : List Str) ([(Str.ofString "ring")] : List Str) (defScope (top 19)) := ⟨rfl, rfl, rfl, by decide +kernel, rfl, by decide +kernel, by decide +kernel⟩
theorem c_check_ring : ((cFn pg nm ([(Str.ofString "ring")] : List Str) (top 19)).map fun x => x.b') = some b_check_ring := by kernel_rfl
theorem s_check_chord : FnScope ([(Str.ofString "ring"), (Str.ofString "chord"), (Str.ofString "low"), (Str.ofString "tone")] : List Str) ([(Str.ofString "ring"), (Str.ofString "chord")] : List Str) (defScope (top 20)) := ⟨rfl, rfl, rfl, by decide +kernel, rfl, by decide +kernel, by decide +kernel⟩
theorem c_check_chord : ((cFn pg nm ([(Str.ofString "ring"), (Str.ofString "chord"), (Str.ofString "low"), (Str.ofString "tone")] : List Str) (top 20)).map fun x => x.b') = some b_check_chord := by kernel_rfl
theorem s_check_pair : FnScope ([(Str.ofString "ring"), (Str.ofString "x"), (Str.ofString "y")] : List Str) ([(Str.ofString "ring"), (Str.ofString "x"), (Str.ofString "y")] : List Str) (defScope (top 22)) := ⟨rfl, rfl, rfl, by decide +kernel, rfl, by decide +kernel, by decide +kernel⟩
theorem c_check_pair : ((cFn pg nm ([(Str.ofString "ring"), (Str.ofString "x"), (Str.ofString "y")] : List Str) (top 22)).map fun x => x.b') = some b_check_pair := by kernel_rfl
theorem s_straight_sizes : FnScope ([(Str.ofString "ring"), (Str.ofString "x"), (Str.ofString "y"), (Str.ofString "turns"), (Str.ofString "many"), (Str.ofString "sizes"), (Str.ofString "i"), (Str.ofString "place"), (Str.ofString "pitch")] : List Str) ([(Str.ofString "ring"), (Str.ofString "x"), (Str.ofString "y"), (Str.ofString "turns")] : List Str) (defScope (top 23)) := ⟨rfl, rfl, rfl, by decide +kernel, rfl, by decide +kernel, by decide +kernel⟩
theorem c_straight_sizes : ((cFn pg nm ([(Str.ofString "ring"), (Str.ofString "x"), (Str.ofString "y"), (Str.ofString "turns"), (Str.ofString "many"), (Str.ofString "sizes"), (Str.ofString "i"), (Str.ofString "place"), (Str.ofString "pitch")] : List Str) (top 23)).map fun x => x.b') = some b_straight_sizes := by kernel_rfl
theorem s_least_ends : FnScope ([(Str.ofString "costs"), (Str.ofString "low"), (Str.ofString "least"), (Str.ofString "first")] : List Str) ([(Str.ofString "costs"), (Str.ofString "low")] : List Str) (defScope (top 24)) := ⟨rfl, rfl, rfl, by decide +kernel, rfl, by decide +kernel, by decide +kernel⟩
theorem c_least_ends : ((cFn pg nm ([(Str.ofString "costs"), (Str.ofString "low"), (Str.ofString "least"), (Str.ofString "first")] : List Str) (top 24)).map fun x => x.b') = some b_least_ends := by kernel_rfl
theorem s_hinge_cost : FnScope ([(Str.ofString "sizes"), (Str.ofString "t"), (Str.ofString "size")] : List Str) ([(Str.ofString "sizes"), (Str.ofString "t")] : List Str) (defScope (top 26)) := ⟨rfl, rfl, rfl, by decide +kernel, rfl, by decide +kernel, by decide +kernel⟩
theorem c_hinge_cost : ((cFn pg nm ([(Str.ofString "sizes"), (Str.ofString "t"), (Str.ofString "size")] : List Str) (top 26)).map fun x => x.b') = some b_hinge_cost := by kernel_rfl
theorem s_hinge_spans : FnScope ([(Str.ofString "ring"), (Str.ofString "x"), (Str.ofString "y"), (Str.ofString "many"), (Str.ofString "table"), (Str.ofString "spans"), (Str.ofString "t"), (Str.ofString "costs"), (Str.ofString "turns"), (Str.ofString "sizes")] : List Str) ([(Str.ofString "ring"), (Str.ofString "x"), (Str.ofString "y")] : List Str) (defScope (top 27)) := ⟨rfl, rfl, rfl, by decide +kernel, rfl, by decide +kernel, by decide +kernel⟩
theorem c_hinge_spans : ((cFn pg nm ([(Str.ofString "ring"), (Str.ofString "x"), (Str.ofString "y"), (Str.ofString "many"), (Str.ofString "table"), (Str.ofString "spans"), (Str.ofString "t"), (Str.ofString "costs"), (Str.ofString "turns"), (Str.ofString "sizes")] : List Str) (top 27)).map fun x => x.b') = some b_hinge_spans := by kernel_rfl
theorem s_every_span : FnScope ([(Str.ofString "ring"), (Str.ofString "x"), (Str.ofString "y"), (Str.ofString "spans"), (Str.ofString "low"), (Str.ofString "high"), (Str.ofString "span")] : List Str) ([(Str.ofString "ring"), (Str.ofString "x"), (Str.ofString "y")] : List Str) (defScope (top 28)) := ⟨rfl, rfl, rfl, by decide +kernel, rfl, by decide +kernel, by decide +kernel⟩
theorem c_every_span : ((cFn pg nm ([(Str.ofString "ring"), (Str.ofString "x"), (Str.ofString "y"), (Str.ofString "spans"), (Str.ofString "low"), (Str.ofString "high"), (Str.ofString "span")] : List Str) (top 28)).map fun x => x.b') = some b_every_span := by kernel_rfl
theorem s_find_quarrel : FnScope ([(Str.ofString "ring"), (Str.ofString "x"), (Str.ofString "y"), (Str.ofString "spans"), (Str.ofString "lows"), (Str.ofString "highs"), (Str.ofString "low"), (Str.ofString "high"), (Str.ofString "span")] : List Str) ([(Str.ofString "ring"), (Str.ofString "x"), (Str.ofString "y")] : List Str) (defScope (top 29)) := ⟨rfl, rfl, rfl, by decide +kernel, rfl, by decide +kernel, by decide +kernel⟩
theorem c_find_quarrel : ((cFn pg nm ([(Str.ofString "ring"), (Str.ofString "x"), (Str.ofString "y"), (Str.ofString "spans"), (Str.ofString "lows"), (Str.ofString "highs"), (Str.ofString "low"), (Str.ofString "high"), (Str.ofString "span")] : List Str) (top 29)).map fun x => x.b') = some b_find_quarrel := by kernel_rfl
theorem s_is_quarrel : FnScope ([(Str.ofString "ring"), (Str.ofString "x"), (Str.ofString "y"), (Str.ofString "t"), (Str.ofString "s"), (Str.ofString "a"), (Str.ofString "here"), (Str.ofString "above")] : List Str) ([(Str.ofString "ring"), (Str.ofString "x"), (Str.ofString "y"), (Str.ofString "t"), (Str.ofString "s"), (Str.ofString "a")] : List Str) (defScope (top 30)) := ⟨rfl, rfl, rfl, by decide +kernel, rfl, by decide +kernel, by decide +kernel⟩
theorem c_is_quarrel : ((cFn pg nm ([(Str.ofString "ring"), (Str.ofString "x"), (Str.ofString "y"), (Str.ofString "t"), (Str.ofString "s"), (Str.ofString "a"), (Str.ofString "here"), (Str.ofString "above")] : List Str) (top 30)).map fun x => x.b') = some b_is_quarrel := by kernel_rfl
theorem s_law_store : FnScope ([(Str.ofString "script"), (Str.ofString "cell")] : List Str) ([(Str.ofString "script")] : List Str) (defScope (top 32)) := ⟨rfl, rfl, rfl, by decide +kernel, rfl, by decide +kernel, by decide +kernel⟩
theorem c_law_store : ((cFn pg nm ([(Str.ofString "script"), (Str.ofString "cell")] : List Str) (top 32)).map fun x => x.b') = some b_law_store := by kernel_rfl
theorem s_law_take : FnScope ([(Str.ofString "store"), (Str.ofString "many"), (Str.ofString "half"), (Str.ofString "cell"), (Str.ofString "drawn")] : List Str) ([(Str.ofString "store"), (Str.ofString "many")] : List Str) (defScope (top 33)) := ⟨rfl, rfl, rfl, by decide +kernel, rfl, by decide +kernel, by decide +kernel⟩
theorem c_law_take : ((cFn pg nm ([(Str.ofString "store"), (Str.ofString "many"), (Str.ofString "half"), (Str.ofString "cell"), (Str.ofString "drawn")] : List Str) (top 33)).map fun x => x.b') = some b_law_take := by kernel_rfl
theorem s_law_odds : FnScope ([(Str.ofString "store"), (Str.ofString "part"), (Str.ofString "whole")] : List Str) ([(Str.ofString "store"), (Str.ofString "part"), (Str.ofString "whole")] : List Str) (defScope (top 34)) := ⟨rfl, rfl, rfl, by decide +kernel, rfl, by decide +kernel, by decide +kernel⟩
theorem c_law_odds : ((cFn pg nm ([(Str.ofString "store"), (Str.ofString "part"), (Str.ofString "whole")] : List Str) (top 34)).map fun x => x.b') = some b_law_odds := by kernel_rfl
theorem s_law_span : FnScope ([(Str.ofString "store"), (Str.ofString "least"), (Str.ofString "greatest")] : List Str) ([(Str.ofString "store"), (Str.ofString "least"), (Str.ofString "greatest")] : List Str) (defScope (top 35)) := ⟨rfl, rfl, rfl, by decide +kernel, rfl, by decide +kernel, by decide +kernel⟩
theorem c_law_span : ((cFn pg nm ([(Str.ofString "store"), (Str.ofString "least"), (Str.ofString "greatest")] : List Str) (top 35)).map fun x => x.b') = some b_law_span := by kernel_rfl
theorem s_law_near : FnScope ([(Str.ofString "store"), (Str.ofString "least"), (Str.ofString "greatest"), (Str.ofString "kind")] : List Str) ([(Str.ofString "store"), (Str.ofString "least"), (Str.ofString "greatest")] : List Str) (defScope (top 36)) := ⟨rfl, rfl, rfl, by decide +kernel, rfl, by decide +kernel, by decide +kernel⟩
theorem c_law_near : ((cFn pg nm ([(Str.ofString "store"), (Str.ofString "least"), (Str.ofString "greatest"), (Str.ofString "kind")] : List Str) (top 36)).map fun x => x.b') = some b_law_near := by kernel_rfl
theorem s_law_pick : FnScope ([(Str.ofString "store"), (Str.ofString "things")] : List Str) ([(Str.ofString "store"), (Str.ofString "things")] : List Str) (defScope (top 37)) := ⟨rfl, rfl, rfl, by decide +kernel, rfl, by decide +kernel, by decide +kernel⟩
theorem c_law_pick : ((cFn pg nm ([(Str.ofString "store"), (Str.ofString "things")] : List Str) (top 37)).map fun x => x.b') = some b_law_pick := by kernel_rfl
theorem s_law_whole : FnScope ([(Str.ofString "store"), (Str.ofString "kind"), (Str.ofString "number"), (Str.ofString "k")] : List Str) ([(Str.ofString "store")] : List Str) (defScope (top 38)) := ⟨rfl, rfl, rfl, by decide +kernel, rfl, by decide +kernel, by decide +kernel⟩
theorem c_law_whole : ((cFn pg nm ([(Str.ofString "store"), (Str.ofString "kind"), (Str.ofString "number"), (Str.ofString "k")] : List Str) (top 38)).map fun x => x.b') = some b_law_whole := by kernel_rfl
theorem s_law_is_whole : FnScope ([(Str.ofString "x")] : List Str) ([(Str.ofString "x")] : List Str) (defScope (top 39)) := ⟨rfl, rfl, rfl, by decide +kernel, rfl, by decide +kernel, by decide +kernel⟩
theorem c_law_is_whole : ((cFn pg nm ([(Str.ofString "x")] : List Str) (top 39)).map fun x => x.b') = some b_law_is_whole := by kernel_rfl
theorem ch_law_is_whole : ((cFnH pg nm ([(Str.ofString "x")] : List Str) (top 39) false).map fun x => x.b') = some b_law_is_whole := by kernel_rfl
theorem s_law_same : FnScope ([(Str.ofString "told"), (Str.ofString "due"), (Str.ofString "k")] : List Str) ([(Str.ofString "told"), (Str.ofString "due")] : List Str) (defScope (top 40)) := ⟨rfl, rfl, rfl, by decide +kernel, rfl, by decide +kernel, by decide +kernel⟩
theorem c_law_same : ((cFn pg nm ([(Str.ofString "told"), (Str.ofString "due"), (Str.ofString "k")] : List Str) (top 40)).map fun x => x.b') = some b_law_same := by kernel_rfl
theorem ch_law_same : ((cFnH pg nm ([(Str.ofString "told"), (Str.ofString "due"), (Str.ofString "k")] : List Str) (top 40) false).map fun x => x.b') = some b_law_same := by kernel_rfl
theorem s_law_chord : FnScope ([(Str.ofString "store"), (Str.ofString "ring"), (Str.ofString "many"), (Str.ofString "kind"), (Str.ofString "tones"), (Str.ofString "k")] : List Str) ([(Str.ofString "store"), (Str.ofString "ring"), (Str.ofString "many")] : List Str) (defScope (top 41)) := ⟨rfl, rfl, rfl, by decide +kernel, rfl, by decide +kernel, by decide +kernel⟩
theorem c_law_chord : ((cFn pg nm ([(Str.ofString "store"), (Str.ofString "ring"), (Str.ofString "many"), (Str.ofString "kind"), (Str.ofString "tones"), (Str.ofString "k")] : List Str) (top 41)).map fun x => x.b') = some b_law_chord := by kernel_rfl
theorem s_law_next_chord : FnScope ([(Str.ofString "store"), (Str.ofString "ring"), (Str.ofString "chord"), (Str.ofString "kind"), (Str.ofString "by"), (Str.ofString "tones"), (Str.ofString "at"), (Str.ofString "tone")] : List Str) ([(Str.ofString "store"), (Str.ofString "ring"), (Str.ofString "chord")] : List Str) (defScope (top 42)) := ⟨rfl, rfl, rfl, by decide +kernel, rfl, by decide +kernel, by decide +kernel⟩
theorem c_law_next_chord : ((cFn pg nm ([(Str.ofString "store"), (Str.ofString "ring"), (Str.ofString "chord"), (Str.ofString "kind"), (Str.ofString "by"), (Str.ofString "tones"), (Str.ofString "at"), (Str.ofString "tone")] : List Str) (top 42)).map fun x => x.b') = some b_law_next_chord := by kernel_rfl
theorem s_law_bad_chord : FnScope ([(Str.ofString "store"), (Str.ofString "ring"), (Str.ofString "many"), (Str.ofString "kind"), (Str.ofString "tones"), (Str.ofString "rises"), (Str.ofString "k"), (Str.ofString "at"), (Str.ofString "held")] : List Str) ([(Str.ofString "store"), (Str.ofString "ring"), (Str.ofString "many")] : List Str) (defScope (top 43)) := ⟨rfl, rfl, rfl, by decide +kernel, rfl, by decide +kernel, by decide +kernel⟩
theorem c_law_bad_chord : ((cFn pg nm ([(Str.ofString "store"), (Str.ofString "ring"), (Str.ofString "many"), (Str.ofString "kind"), (Str.ofString "tones"), (Str.ofString "rises"), (Str.ofString "k"), (Str.ofString "at"), (Str.ofString "held")] : List Str) (top 43)).map fun x => x.b') = some b_law_bad_chord := by kernel_rfl
theorem s_law_pitch : FnScope ([(Str.ofString "ring"), (Str.ofString "chord"), (Str.ofString "place"), (Str.ofString "many")] : List Str) ([(Str.ofString "ring"), (Str.ofString "chord"), (Str.ofString "place")] : List Str) (defScope (top 44)) := ⟨rfl, rfl, rfl, by decide +kernel, rfl, by decide +kernel, by decide +kernel⟩
theorem c_law_pitch : ((cFn pg nm ([(Str.ofString "ring"), (Str.ofString "chord"), (Str.ofString "place"), (Str.ofString "many")] : List Str) (top 44)).map fun x => x.b') = some b_law_pitch := by kernel_rfl
theorem s_law_tops : FnScope ([(Str.ofString "sizes"), (Str.ofString "tops"), (Str.ofString "total"), (Str.ofString "size")] : List Str) ([(Str.ofString "sizes")] : List Str) (defScope (top 45)) := ⟨rfl, rfl, rfl, by decide +kernel, rfl, by decide +kernel, by decide +kernel⟩
theorem c_law_tops : ((cFn pg nm ([(Str.ofString "sizes"), (Str.ofString "tops"), (Str.ofString "total"), (Str.ofString "size")] : List Str) (top 45)).map fun x => x.b') = some b_law_tops := by kernel_rfl
theorem s_law_hinge : FnScope ([(Str.ofString "sizes"), (Str.ofString "t"), (Str.ofString "size")] : List Str) ([(Str.ofString "sizes"), (Str.ofString "t")] : List Str) (defScope (top 46)) := ⟨rfl, rfl, rfl, by decide +kernel, rfl, by decide +kernel, by decide +kernel⟩
theorem c_law_hinge : ((cFn pg nm ([(Str.ofString "sizes"), (Str.ofString "t"), (Str.ofString "size")] : List Str) (top 46)).map fun x => x.b') = some b_law_hinge := by kernel_rfl
theorem s_law_straight_sizes : FnScope ([(Str.ofString "ring"), (Str.ofString "x"), (Str.ofString "y"), (Str.ofString "turns"), (Str.ofString "k")] : List Str) ([(Str.ofString "ring"), (Str.ofString "x"), (Str.ofString "y"), (Str.ofString "turns")] : List Str) (defScope (top 47)) := ⟨rfl, rfl, rfl, by decide +kernel, rfl, by decide +kernel, by decide +kernel⟩
theorem c_law_straight_sizes : ((cFn pg nm ([(Str.ofString "ring"), (Str.ofString "x"), (Str.ofString "y"), (Str.ofString "turns"), (Str.ofString "k")] : List Str) (top 47)).map fun x => x.b') = some b_law_straight_sizes := by kernel_rfl
theorem s_law_every : FnScope ([(Str.ofString "ring"), (Str.ofString "x"), (Str.ofString "y"), (Str.ofString "many"), (Str.ofString "rows"), (Str.ofString "least"), (Str.ofString "found"), (Str.ofString "k"), (Str.ofString "row")] : List Str) ([(Str.ofString "ring"), (Str.ofString "x"), (Str.ofString "y")] : List Str) (defScope (top 48)) := ⟨rfl, rfl, rfl, by decide +kernel, rfl, by decide +kernel, by decide +kernel⟩
theorem c_law_every : ((cFn pg nm ([(Str.ofString "ring"), (Str.ofString "x"), (Str.ofString "y"), (Str.ofString "many"), (Str.ofString "rows"), (Str.ofString "least"), (Str.ofString "found"), (Str.ofString "k"), (Str.ofString "row")] : List Str) (top 48)).map fun x => x.b') = some b_law_every := by kernel_rfl
theorem s_law_hinge_spans : FnScope ([(Str.ofString "ring"), (Str.ofString "x"), (Str.ofString "y"), (Str.ofString "many"), (Str.ofString "rows"), (Str.ofString "spans"), (Str.ofString "t"), (Str.ofString "sums"), (Str.ofString "least"), (Str.ofString "found"), (Str.ofString "k"), (Str.ofString "sizes")] : List Str) ([(Str.ofString "ring"), (Str.ofString "x"), (Str.ofString "y")] : List Str) (defScope (top 49)) := ⟨rfl, rfl, rfl, by decide +kernel, rfl, by decide +kernel, by decide +kernel⟩
theorem c_law_hinge_spans : ((cFn pg nm ([(Str.ofString "ring"), (Str.ofString "x"), (Str.ofString "y"), (Str.ofString "many"), (Str.ofString "rows"), (Str.ofString "spans"), (Str.ofString "t"), (Str.ofString "sums"), (Str.ofString "least"), (Str.ofString "found"), (Str.ofString "k"), (Str.ofString "sizes")] : List Str) (top 49)).map fun x => x.b') = some b_law_hinge_spans := by kernel_rfl
theorem s_law_hinged : FnScope ([(Str.ofString "ring"), (Str.ofString "x"), (Str.ofString "y"), (Str.ofString "turns"), (Str.ofString "t")] : List Str) ([(Str.ofString "ring"), (Str.ofString "x"), (Str.ofString "y"), (Str.ofString "turns"), (Str.ofString "t")] : List Str) (defScope (top 50)) := ⟨rfl, rfl, rfl, by decide +kernel, rfl, by decide +kernel, by decide +kernel⟩
theorem c_law_hinged : ((cFn pg nm ([(Str.ofString "ring"), (Str.ofString "x"), (Str.ofString "y"), (Str.ofString "turns"), (Str.ofString "t")] : List Str) (top 50)).map fun x => x.b') = some b_law_hinged := by kernel_rfl
theorem s_law_world : FnScope ([(Str.ofString "store")] : List Str) ([(Str.ofString "store")] : List Str) (defScope (top 51)) := ⟨rfl, rfl, rfl, by decide +kernel, rfl, by decide +kernel, by decide +kernel⟩
theorem c_law_world : ((cFn pg nm ([(Str.ofString "store")] : List Str) (top 51)).map fun x => x.b') = some b_law_world := by kernel_rfl
theorem s_law_two_chords : FnScope ([(Str.ofString "store"), (Str.ofString "ring"), (Str.ofString "many"), (Str.ofString "x"), (Str.ofString "kind"), (Str.ofString "tones"), (Str.ofString "k"), (Str.ofString "at")] : List Str) ([(Str.ofString "store"), (Str.ofString "ring"), (Str.ofString "many")] : List Str) (defScope (top 52)) := ⟨rfl, rfl, rfl, by decide +kernel, rfl, by decide +kernel, by decide +kernel⟩
theorem c_law_two_chords : ((cFn pg nm ([(Str.ofString "store"), (Str.ofString "ring"), (Str.ofString "many"), (Str.ofString "x"), (Str.ofString "kind"), (Str.ofString "tones"), (Str.ofString "k"), (Str.ofString "at")] : List Str) (top 52)).map fun x => x.b') = some b_law_two_chords := by kernel_rfl
theorem s_law_quarrelling : FnScope ([(Str.ofString "store"), (Str.ofString "ring"), (Str.ofString "many"), (Str.ofString "pair"), (Str.ofString "wanted"), (Str.ofString "k")] : List Str) ([(Str.ofString "store"), (Str.ofString "ring"), (Str.ofString "many")] : List Str) (defScope (top 53)) := ⟨rfl, rfl, rfl, by decide +kernel, rfl, by decide +kernel, by decide +kernel⟩
theorem c_law_quarrelling : ((cFn pg nm ([(Str.ofString "store"), (Str.ofString "ring"), (Str.ofString "many"), (Str.ofString "pair"), (Str.ofString "wanted"), (Str.ofString "k")] : List Str) (top 53)).map fun x => x.b') = some b_law_quarrelling := by kernel_rfl
theorem s_law_bad_hinge : FnScope ([(Str.ofString "store")] : List Str) ([(Str.ofString "store")] : List Str) (defScope (top 54)) := ⟨rfl, rfl, rfl, by decide +kernel, rfl, by decide +kernel, by decide +kernel⟩
theorem c_law_bad_hinge : ((cFn pg nm ([(Str.ofString "store")] : List Str) (top 54)).map fun x => x.b') = some b_law_bad_hinge := by kernel_rfl
theorem s_law_bad_pair : FnScope ([(Str.ofString "store"), (Str.ofString "ring"), (Str.ofString "x"), (Str.ofString "y"), (Str.ofString "kind"), (Str.ofString "wrong")] : List Str) ([(Str.ofString "store"), (Str.ofString "ring"), (Str.ofString "x"), (Str.ofString "y")] : List Str) (defScope (top 55)) := ⟨rfl, rfl, rfl, by decide +kernel, rfl, by decide +kernel, by decide +kernel⟩
theorem c_law_bad_pair : ((cFn pg nm ([(Str.ofString "store"), (Str.ofString "ring"), (Str.ofString "x"), (Str.ofString "y"), (Str.ofString "kind"), (Str.ofString "wrong")] : List Str) (top 55)).map fun x => x.b') = some b_law_bad_pair := by kernel_rfl
theorem s_law_refusal : FnScope ([(Str.ofString "which"), (Str.ofString "ring"), (Str.ofString "x"), (Str.ofString "y"), (Str.ofString "t"), (Str.ofString "s"), (Str.ofString "a"), (Str.ofString "e")] : List Str) ([(Str.ofString "which"), (Str.ofString "ring"), (Str.ofString "x"), (Str.ofString "y"), (Str.ofString "t"), (Str.ofString "s"), (Str.ofString "a")] : List Str) (defScope (top 56)) := ⟨rfl, rfl, rfl, by decide +kernel, rfl, by decide +kernel, by decide +kernel⟩
theorem c_law_refusal : ((cFn pg nm ([(Str.ofString "which"), (Str.ofString "ring"), (Str.ofString "x"), (Str.ofString "y"), (Str.ofString "t"), (Str.ofString "s"), (Str.ofString "a"), (Str.ofString "e")] : List Str) (top 56)).map fun x => x.b') = some b_law_refusal := by kernel_rfl
theorem s_law_quarrel : FnScope ([(Str.ofString "ring"), (Str.ofString "x"), (Str.ofString "y"), (Str.ofString "spans"), (Str.ofString "end"), (Str.ofString "begin"), (Str.ofString "first"), (Str.ofString "second"), (Str.ofString "span"), (Str.ofString "k")] : List Str) ([(Str.ofString "ring"), (Str.ofString "x"), (Str.ofString "y")] : List Str) (defScope (top 57)) := ⟨rfl, rfl, rfl, by decide +kernel, rfl, by decide +kernel, by decide +kernel⟩
theorem c_law_quarrel : ((cFn pg nm ([(Str.ofString "ring"), (Str.ofString "x"), (Str.ofString "y"), (Str.ofString "spans"), (Str.ofString "end"), (Str.ofString "begin"), (Str.ofString "first"), (Str.ofString "second"), (Str.ofString "span"), (Str.ofString "k")] : List Str) (top 57)).map fun x => x.b') = some b_law_quarrel := by kernel_rfl
theorem s_law_is_quarrel : FnScope ([(Str.ofString "ring"), (Str.ofString "x"), (Str.ofString "y"), (Str.ofString "t"), (Str.ofString "s"), (Str.ofString "a"), (Str.ofString "rises")] : List Str) ([(Str.ofString "ring"), (Str.ofString "x"), (Str.ofString "y"), (Str.ofString "t"), (Str.ofString "s"), (Str.ofString "a")] : List Str) (defScope (top 58)) := ⟨rfl, rfl, rfl, by decide +kernel, rfl, by decide +kernel, by decide +kernel⟩
theorem c_law_is_quarrel : ((cFn pg nm ([(Str.ofString "ring"), (Str.ofString "x"), (Str.ofString "y"), (Str.ofString "t"), (Str.ofString "s"), (Str.ofString "a"), (Str.ofString "rises")] : List Str) (top 58)).map fun x => x.b') = some b_law_is_quarrel := by kernel_rfl
theorem s_law_pair_holds : FnScope ([(Str.ofString "ring"), (Str.ofString "x"), (Str.ofString "y"), (Str.ofString "due"), (Str.ofString "quarrel"), (Str.ofString "t"), (Str.ofString "s"), (Str.ofString "a")] : List Str) ([(Str.ofString "ring"), (Str.ofString "x"), (Str.ofString "y")] : List Str) (defScope (top 59)) := ⟨rfl, rfl, rfl, by decide +kernel, rfl, by decide +kernel, by decide +kernel⟩
theorem c_law_pair_holds : ((cFn pg nm ([(Str.ofString "ring"), (Str.ofString "x"), (Str.ofString "y"), (Str.ofString "due"), (Str.ofString "quarrel"), (Str.ofString "t"), (Str.ofString "s"), (Str.ofString "a")] : List Str) (top 59)).map fun x => x.b') = some b_law_pair_holds := by kernel_rfl
theorem s_law_judged : FnScope ([(Str.ofString "ring"), (Str.ofString "x"), (Str.ofString "y"), (Str.ofString "rows"), (Str.ofString "row"), (Str.ofString "t"), (Str.ofString "s"), (Str.ofString "a")] : List Str) ([(Str.ofString "ring"), (Str.ofString "x"), (Str.ofString "y"), (Str.ofString "rows")] : List Str) (defScope (top 60)) := ⟨rfl, rfl, rfl, by decide +kernel, rfl, by decide +kernel, by decide +kernel⟩
theorem c_law_judged : ((cFn pg nm ([(Str.ofString "ring"), (Str.ofString "x"), (Str.ofString "y"), (Str.ofString "rows"), (Str.ofString "row"), (Str.ofString "t"), (Str.ofString "s"), (Str.ofString "a")] : List Str) (top 60)).map fun x => x.b') = some b_law_judged := by kernel_rfl
theorem s_law : FnScope ([(Str.ofString "script"), (Str.ofString "store"), (Str.ofString "world"), (Str.ofString "ring"), (Str.ofString "other"), (Str.ofString "quarrel"), (Str.ofString "rows"), (Str.ofString "wrong"), (Str.ofString "hinges"), (Str.ofString "which"), (Str.ofString "good"), (Str.ofString "x"), (Str.ofString "y"), (Str.ofString "u"), (Str.ofString "v"), (Str.ofString "t"), (Str.ofString "s"), (Str.ofString "a"), (Str.ofString "bad")] : List Str) ([(Str.ofString "script")] : List Str) (defScope (top 61)) := ⟨rfl, rfl, rfl, by decide +kernel, rfl, by decide +kernel, by decide +kernel⟩
theorem c_law : ((cFn pg nm ([(Str.ofString "script"), (Str.ofString "store"), (Str.ofString "world"), (Str.ofString "ring"), (Str.ofString "other"), (Str.ofString "quarrel"), (Str.ofString "rows"), (Str.ofString "wrong"), (Str.ofString "hinges"), (Str.ofString "which"), (Str.ofString "good"), (Str.ofString "x"), (Str.ofString "y"), (Str.ofString "u"), (Str.ofString "v"), (Str.ofString "t"), (Str.ofString "s"), (Str.ofString "a"), (Str.ofString "bad")] : List Str) (top 61)).map fun x => x.b') = some b_law := by kernel_rfl
theorem si_EffortError : FnScope ([(Str.ofString "self"), (Str.ofString "at")] : List Str) ([(Str.ofString "self"), (Str.ofString "at")] : List Str) (defScope (inClass (top 6) 0)) := ⟨rfl, rfl, rfl, by decide +kernel, rfl, by decide +kernel, by decide +kernel⟩
end K53
open PySem PySem.W PyProof.Rows in
set_option maxRecDepth 100000 in
set_option maxHeartbeats 0 in
theorem PySem.Challenge.cw_nextchord_k53_every_span_or_a_quarrel_holds : PySem.Challenge.rw_nextchord_k53_every_span_or_a_quarrel.Holds := by
  w_on; o_law; k_head; (case hw => w_witness2)
  k_fill
  refine Z.walk (l := PySem.Challenge.rw_nextchord_k53_every_span_or_a_quarrel) (k := 90) rfl rfl ⟨rfl, by decide, by decide⟩ (fun w h Y => PySem.W.kIn_of Y) ?F
  case F =>
    intro w mg fa h KX G hmg
    have W := Z.wd_of (P := K53.pg) (nm := K53.nm) KX G (by kernel_rfl) (by
      intro n i hx
      simp only [K53.nm, List.mem_cons, List.not_mem_nil, or_false, Prod.mk.injEq] at hx
      rcases hx with ⟨rfl, rfl⟩ | ⟨rfl, rfl⟩ | ⟨rfl, rfl⟩ | ⟨rfl, rfl⟩ | ⟨rfl, rfl⟩ | ⟨rfl, rfl⟩ | ⟨rfl, rfl⟩ | ⟨rfl, rfl⟩ | ⟨rfl, rfl⟩ | ⟨rfl, rfl⟩ | ⟨rfl, rfl⟩ | ⟨rfl, rfl⟩ | ⟨rfl, rfl⟩ | ⟨rfl, rfl⟩ | ⟨rfl, rfl⟩ | ⟨rfl, rfl⟩ | ⟨rfl, rfl⟩ | ⟨rfl, rfl⟩ | ⟨rfl, rfl⟩ | ⟨rfl, rfl⟩ | ⟨rfl, rfl⟩ | ⟨rfl, rfl⟩ | ⟨rfl, rfl⟩ | ⟨rfl, rfl⟩ | ⟨rfl, rfl⟩ | ⟨rfl, rfl⟩ | ⟨rfl, rfl⟩ | ⟨rfl, rfl⟩ | ⟨rfl, rfl⟩ | ⟨rfl, rfl⟩ | ⟨rfl, rfl⟩ | ⟨rfl, rfl⟩ | ⟨rfl, rfl⟩ | ⟨rfl, rfl⟩ | ⟨rfl, rfl⟩ | ⟨rfl, rfl⟩ | ⟨rfl, rfl⟩ | ⟨rfl, rfl⟩ | ⟨rfl, rfl⟩ | ⟨rfl, rfl⟩
      · apply Z.fact_of KX G (st := K53.top 19) ?a19 ?l19 ?c19 ?k19 K53.s_check_ring rfl K53.c_check_ring (fun _ _ _ _ _ _ us hl => match us, hl with | [_], _ => rfl)
        (case a19 => k_is); (case l19 => k_is); (case c19 => k_is); (case k19 => k_is)
      · apply Z.fact_of KX G (st := K53.top 20) ?a20 ?l20 ?c20 ?k20 K53.s_check_chord rfl K53.c_check_chord (fun _ _ _ _ _ _ us hl => match us, hl with | [_, _], _ => rfl)
        (case a20 => k_is); (case l20 => k_is); (case c20 => k_is); (case k20 => k_is)
      · apply Z.fact_of KX G (st := K53.top 22) ?a22 ?l22 ?c22 ?k22 K53.s_check_pair rfl K53.c_check_pair (fun _ _ _ _ _ _ us hl => match us, hl with | [_, _, _], _ => rfl)
        (case a22 => k_is); (case l22 => k_is); (case c22 => k_is); (case k22 => k_is)
      · apply Z.fact_of KX G (st := K53.top 23) ?a23 ?l23 ?c23 ?k23 K53.s_straight_sizes rfl K53.c_straight_sizes (fun _ _ _ _ _ _ us hl => match us, hl with | [_, _, _, _], _ => rfl)
        (case a23 => k_is); (case l23 => k_is); (case c23 => k_is); (case k23 => k_is)
      · apply Z.fact_of KX G (st := K53.top 24) ?a24 ?l24 ?c24 ?k24 K53.s_least_ends rfl K53.c_least_ends (fun _ _ _ _ _ _ us hl => match us, hl with | [_, _], _ => rfl)
        (case a24 => k_is); (case l24 => k_is); (case c24 => k_is); (case k24 => k_is)
      · apply Z.fact_of KX G (st := K53.top 26) ?a26 ?l26 ?c26 ?k26 K53.s_hinge_cost rfl K53.c_hinge_cost (fun _ _ _ _ _ _ us hl => match us, hl with | [_, _], _ => rfl)
        (case a26 => k_is); (case l26 => k_is); (case c26 => k_is); (case k26 => k_is)
      · apply Z.fact_of KX G (st := K53.top 27) ?a27 ?l27 ?c27 ?k27 K53.s_hinge_spans rfl K53.c_hinge_spans (fun _ _ _ _ _ _ us hl => match us, hl with | [_, _, _], _ => rfl)
        (case a27 => k_is); (case l27 => k_is); (case c27 => k_is); (case k27 => k_is)
      · apply Z.fact_of KX G (st := K53.top 28) ?a28 ?l28 ?c28 ?k28 K53.s_every_span rfl K53.c_every_span (fun _ _ _ _ _ _ us hl => match us, hl with | [_, _, _], _ => rfl)
        (case a28 => k_is); (case l28 => k_is); (case c28 => k_is); (case k28 => k_is)
      · apply Z.fact_of KX G (st := K53.top 29) ?a29 ?l29 ?c29 ?k29 K53.s_find_quarrel rfl K53.c_find_quarrel (fun _ _ _ _ _ _ us hl => match us, hl with | [_, _, _], _ => rfl)
        (case a29 => k_is); (case l29 => k_is); (case c29 => k_is); (case k29 => k_is)
      · apply Z.fact_of KX G (st := K53.top 30) ?a30 ?l30 ?c30 ?k30 K53.s_is_quarrel rfl K53.c_is_quarrel (fun _ _ _ _ _ _ us hl => match us, hl with | [_, _, _, _, _, _], _ => rfl)
        (case a30 => k_is); (case l30 => k_is); (case c30 => k_is); (case k30 => k_is)
      · apply Z.fact_of KX G (st := K53.top 32) ?a32 ?l32 ?c32 ?k32 K53.s_law_store rfl K53.c_law_store (fun _ _ _ _ _ _ us hl => match us, hl with | [_], _ => rfl)
        (case a32 => k_is); (case l32 => k_is); (case c32 => k_is); (case k32 => k_is)
      · apply Z.fact_of KX G (st := K53.top 33) ?a33 ?l33 ?c33 ?k33 K53.s_law_take rfl K53.c_law_take (fun _ _ _ _ _ _ us hl => match us, hl with | [_, _], _ => rfl)
        (case a33 => k_is); (case l33 => k_is); (case c33 => k_is); (case k33 => k_is)
      · apply Z.fact_of KX G (st := K53.top 34) ?a34 ?l34 ?c34 ?k34 K53.s_law_odds rfl K53.c_law_odds (fun _ _ _ _ _ _ us hl => match us, hl with | [_, _, _], _ => rfl)
        (case a34 => k_is); (case l34 => k_is); (case c34 => k_is); (case k34 => k_is)
      · apply Z.fact_of KX G (st := K53.top 35) ?a35 ?l35 ?c35 ?k35 K53.s_law_span rfl K53.c_law_span (fun _ _ _ _ _ _ us hl => match us, hl with | [_, _, _], _ => rfl)
        (case a35 => k_is); (case l35 => k_is); (case c35 => k_is); (case k35 => k_is)
      · apply Z.fact_of KX G (st := K53.top 36) ?a36 ?l36 ?c36 ?k36 K53.s_law_near rfl K53.c_law_near (fun _ _ _ _ _ _ us hl => match us, hl with | [_, _, _], _ => rfl)
        (case a36 => k_is); (case l36 => k_is); (case c36 => k_is); (case k36 => k_is)
      · apply Z.fact_of KX G (st := K53.top 37) ?a37 ?l37 ?c37 ?k37 K53.s_law_pick rfl K53.c_law_pick (fun _ _ _ _ _ _ us hl => match us, hl with | [_, _], _ => rfl)
        (case a37 => k_is); (case l37 => k_is); (case c37 => k_is); (case k37 => k_is)
      · apply Z.fact_of KX G (st := K53.top 38) ?a38 ?l38 ?c38 ?k38 K53.s_law_whole rfl K53.c_law_whole (fun _ _ _ _ _ _ us hl => match us, hl with | [_], _ => rfl)
        (case a38 => k_is); (case l38 => k_is); (case c38 => k_is); (case k38 => k_is)
      · apply Z.fact_of KX G (st := K53.top 39) ?a39 ?l39 ?c39 ?k39 K53.s_law_is_whole rfl K53.c_law_is_whole (fun _ _ _ _ _ _ us hl => match us, hl with | [_], _ => rfl)
        (case a39 => k_is); (case l39 => k_is); (case c39 => k_is); (case k39 => k_is)
      · apply Z.fact_of KX G (st := K53.top 40) ?a40 ?l40 ?c40 ?k40 K53.s_law_same rfl K53.c_law_same (fun _ _ _ _ _ _ us hl => match us, hl with | [_, _], _ => rfl)
        (case a40 => k_is); (case l40 => k_is); (case c40 => k_is); (case k40 => k_is)
      · apply Z.fact_of KX G (st := K53.top 41) ?a41 ?l41 ?c41 ?k41 K53.s_law_chord rfl K53.c_law_chord (fun _ _ _ _ _ _ us hl => match us, hl with | [_, _, _], _ => rfl)
        (case a41 => k_is); (case l41 => k_is); (case c41 => k_is); (case k41 => k_is)
      · apply Z.fact_of KX G (st := K53.top 42) ?a42 ?l42 ?c42 ?k42 K53.s_law_next_chord rfl K53.c_law_next_chord (fun _ _ _ _ _ _ us hl => match us, hl with | [_, _, _], _ => rfl)
        (case a42 => k_is); (case l42 => k_is); (case c42 => k_is); (case k42 => k_is)
      · apply Z.fact_of KX G (st := K53.top 43) ?a43 ?l43 ?c43 ?k43 K53.s_law_bad_chord rfl K53.c_law_bad_chord (fun _ _ _ _ _ _ us hl => match us, hl with | [_, _, _], _ => rfl)
        (case a43 => k_is); (case l43 => k_is); (case c43 => k_is); (case k43 => k_is)
      · apply Z.fact_of KX G (st := K53.top 44) ?a44 ?l44 ?c44 ?k44 K53.s_law_pitch rfl K53.c_law_pitch (fun _ _ _ _ _ _ us hl => match us, hl with | [_, _, _], _ => rfl)
        (case a44 => k_is); (case l44 => k_is); (case c44 => k_is); (case k44 => k_is)
      · apply Z.fact_of KX G (st := K53.top 45) ?a45 ?l45 ?c45 ?k45 K53.s_law_tops rfl K53.c_law_tops (fun _ _ _ _ _ _ us hl => match us, hl with | [_], _ => rfl)
        (case a45 => k_is); (case l45 => k_is); (case c45 => k_is); (case k45 => k_is)
      · apply Z.fact_of KX G (st := K53.top 46) ?a46 ?l46 ?c46 ?k46 K53.s_law_hinge rfl K53.c_law_hinge (fun _ _ _ _ _ _ us hl => match us, hl with | [_, _], _ => rfl)
        (case a46 => k_is); (case l46 => k_is); (case c46 => k_is); (case k46 => k_is)
      · apply Z.fact_of KX G (st := K53.top 47) ?a47 ?l47 ?c47 ?k47 K53.s_law_straight_sizes rfl K53.c_law_straight_sizes (fun _ _ _ _ _ _ us hl => match us, hl with | [_, _, _, _], _ => rfl)
        (case a47 => k_is); (case l47 => k_is); (case c47 => k_is); (case k47 => k_is)
      · apply Z.fact_of KX G (st := K53.top 48) ?a48 ?l48 ?c48 ?k48 K53.s_law_every rfl K53.c_law_every (fun _ _ _ _ _ _ us hl => match us, hl with | [_, _, _], _ => rfl)
        (case a48 => k_is); (case l48 => k_is); (case c48 => k_is); (case k48 => k_is)
      · apply Z.fact_of KX G (st := K53.top 49) ?a49 ?l49 ?c49 ?k49 K53.s_law_hinge_spans rfl K53.c_law_hinge_spans (fun _ _ _ _ _ _ us hl => match us, hl with | [_, _, _], _ => rfl)
        (case a49 => k_is); (case l49 => k_is); (case c49 => k_is); (case k49 => k_is)
      · apply Z.fact_of KX G (st := K53.top 50) ?a50 ?l50 ?c50 ?k50 K53.s_law_hinged rfl K53.c_law_hinged (fun _ _ _ _ _ _ us hl => match us, hl with | [_, _, _, _, _], _ => rfl)
        (case a50 => k_is); (case l50 => k_is); (case c50 => k_is); (case k50 => k_is)
      · apply Z.fact_of KX G (st := K53.top 51) ?a51 ?l51 ?c51 ?k51 K53.s_law_world rfl K53.c_law_world (fun _ _ _ _ _ _ us hl => match us, hl with | [_], _ => rfl)
        (case a51 => k_is); (case l51 => k_is); (case c51 => k_is); (case k51 => k_is)
      · apply Z.fact_of KX G (st := K53.top 52) ?a52 ?l52 ?c52 ?k52 K53.s_law_two_chords rfl K53.c_law_two_chords (fun _ _ _ _ _ _ us hl => match us, hl with | [_, _, _], _ => rfl)
        (case a52 => k_is); (case l52 => k_is); (case c52 => k_is); (case k52 => k_is)
      · apply Z.fact_of KX G (st := K53.top 53) ?a53 ?l53 ?c53 ?k53 K53.s_law_quarrelling rfl K53.c_law_quarrelling (fun _ _ _ _ _ _ us hl => match us, hl with | [_, _, _], _ => rfl)
        (case a53 => k_is); (case l53 => k_is); (case c53 => k_is); (case k53 => k_is)
      · apply Z.fact_of KX G (st := K53.top 54) ?a54 ?l54 ?c54 ?k54 K53.s_law_bad_hinge rfl K53.c_law_bad_hinge (fun _ _ _ _ _ _ us hl => match us, hl with | [_], _ => rfl)
        (case a54 => k_is); (case l54 => k_is); (case c54 => k_is); (case k54 => k_is)
      · apply Z.fact_of KX G (st := K53.top 55) ?a55 ?l55 ?c55 ?k55 K53.s_law_bad_pair rfl K53.c_law_bad_pair (fun _ _ _ _ _ _ us hl => match us, hl with | [_, _, _, _], _ => rfl)
        (case a55 => k_is); (case l55 => k_is); (case c55 => k_is); (case k55 => k_is)
      · apply Z.fact_of KX G (st := K53.top 56) ?a56 ?l56 ?c56 ?k56 K53.s_law_refusal rfl K53.c_law_refusal (fun _ _ _ _ _ _ us hl => match us, hl with | [_, _, _, _, _, _, _], _ => rfl)
        (case a56 => k_is); (case l56 => k_is); (case c56 => k_is); (case k56 => k_is)
      · apply Z.fact_of KX G (st := K53.top 57) ?a57 ?l57 ?c57 ?k57 K53.s_law_quarrel rfl K53.c_law_quarrel (fun _ _ _ _ _ _ us hl => match us, hl with | [_, _, _], _ => rfl)
        (case a57 => k_is); (case l57 => k_is); (case c57 => k_is); (case k57 => k_is)
      · apply Z.fact_of KX G (st := K53.top 58) ?a58 ?l58 ?c58 ?k58 K53.s_law_is_quarrel rfl K53.c_law_is_quarrel (fun _ _ _ _ _ _ us hl => match us, hl with | [_, _, _, _, _, _], _ => rfl)
        (case a58 => k_is); (case l58 => k_is); (case c58 => k_is); (case k58 => k_is)
      · apply Z.fact_of KX G (st := K53.top 59) ?a59 ?l59 ?c59 ?k59 K53.s_law_pair_holds rfl K53.c_law_pair_holds (fun _ _ _ _ _ _ us hl => match us, hl with | [_, _, _], _ => rfl)
        (case a59 => k_is); (case l59 => k_is); (case c59 => k_is); (case k59 => k_is)
      · apply Z.fact_of KX G (st := K53.top 60) ?a60 ?l60 ?c60 ?k60 K53.s_law_judged rfl K53.c_law_judged (fun _ _ _ _ _ _ us hl => match us, hl with | [_, _, _, _], _ => rfl)
        (case a60 => k_is); (case l60 => k_is); (case c60 => k_is); (case k60 => k_is)
      · apply Z.fact_of KX G (st := K53.top 61) ?a61 ?l61 ?c61 ?k61 K53.s_law rfl K53.c_law (fun _ _ _ _ _ _ us hl => match us, hl with | [_], _ => rfl)
        (case a61 => k_is); (case l61 => k_is); (case c61 => k_is); (case k61 => k_is)
      )
      (by intro n i dl h; simp [K53.nm] at h)
      (by intro c F i ms h; simp [K53.nm] at h)
      (by intro c m j h; simp [K53.nm] at h)
      (by
      intro n i b hx
      simp only [K53.nm, List.mem_cons, List.not_mem_nil, or_false, Prod.mk.injEq] at hx
      rcases hx with ⟨rfl, rfl, rfl⟩ | ⟨rfl, rfl, rfl⟩
      · apply Z.hf_of KX G (st := K53.top 39) ?ah39 ?lh39 ?ch39 ?kh39 K53.s_law_is_whole rfl K53.ch_law_is_whole rfl (fun _ _ _ _ _ _ us hl => match us, hl with | [_], _ => rfl)
        (case ah39 => k_is); (case lh39 => k_is); (case ch39 => k_is); (case kh39 => k_is)
      · apply Z.hf_of KX G (st := K53.top 40) ?ah40 ?lh40 ?ch40 ?kh40 K53.s_law_same rfl K53.ch_law_same rfl (fun _ _ _ _ _ _ us hl => match us, hl with | [_, _], _ => rfl)
        (case ah40 => k_is); (case lh40 => k_is); (case ch40 => k_is); (case kh40 => k_is)
      )
      (by
      intro c f hx
      simp only [K53.nm, List.mem_cons, List.not_mem_nil, or_false, Prod.mk.injEq] at hx
      rcases hx with ⟨rfl, rfl⟩
      · apply Z.xi_fact KX G (st := L2.inClass (K53.top 6) 0) (q := "EffortError.__init__") ?xEffortErrorC ?xEffortErroro ?xEffortErrorn ?xEffortErrori ?xEffortErrort ?xEffortErrorl ?xEffortErrorc ?xEffortErrork K53.si_EffortError (by kernel_rfl) (by decide) (fun _ _ _ _ _ _ us hl => match us, hl with | [_, _], _ => rfl)
        case xEffortErrorC => k_is
        case xEffortErroro => kernel_rfl
        case xEffortErrori => k_is
        (case xEffortErrorn => k_is); (case xEffortErrort => k_is); (case xEffortErrorl => k_is); (case xEffortErrorc => k_is); (case xEffortErrork => k_is)
      )
    apply Z.law_done (w := K53.fuel) (k := 29) KX G W (st := K53.top 61) hmg ?a ?l ?c ?k K53.s_law rfl K53.c_law (fun s v => .of_eq rfl) K53.law_true
    (case a => k_is)
    (case l => k_is)
    (case c => k_is)
    (case k => k_is)

