import PyProof.Rows.All
import Wide.All
import OpenK.AllK
import Wide.FinOn
import HandS.ForMost
import HandS.More
import HandS.TupAny
import HandS.Wide
import HandS.WordsList
import HandS.WordsDict
import HandS.Conv
import HandS.Defaults
import HandS.EndBits
import HandS.Rev
import PyProof.ListNew
import KE.KDictList
import KE.KDictZip
import KE.GoesEnum
import KE.KIntText
import HandS.Text
import KE.DataEq
import HandS.Zip
import HandS.Exc
import HandS.Codes
import PySem.Challenge.RW_goaltrail_k39_whole_plain_model
set_option Elab.async false
set_option linter.all false
set_option maxRecDepth 100000
set_option maxHeartbeats 4000000
namespace Gt
open PySem L2
/-! ### own rules, 1: a list lengthened by a tuple; a list against the empty one -/
theorem ext_tup (l : Addr) (xs : Array Value) (n : Nat) (b : Addr) (dd : Option Addr) (sl : Array (Option Value)) (ys : Array Value) (k : Nat)
    (h0 : ¬(!xs.isEmpty && Builtin.List.listTooLong (xs.size + ys.size)) = true) (h1 : xs.size ≤ sizeLine) (h2 : xs.size + ys.size ≤ sizeLine + 1) :
    Meets (Builtin.«list.extend» ⟨[.ref l, .ref b], []⟩) (fun _ R s =>
      s.heap.get? l = some { cls := .type "list", dict := none, data := .seq xs n, slots := #[] } ∧
      s.heap.get? b = some { cls := .type "tuple", dict := dd, data := .seq ys k, slots := sl } ∧
      R (.ok (.ret Value.none)) { s with heap := s.heap.update l (Obj.mapSeq fun x => x ++ ys), toks := s.toks }) :=
  .of_wp fun prog w A R s h => by
    obtain ⟨hp, g, d, tk, os⟩ := s
    obtain ⟨hl, hb, h⟩ := h
    have f1 := AutoSeq1.idx_int
    have f2 := AutoSeq1.sub_tuple_tuple
    have f3 := AutoSeq1.sub_list_list
    have f4 := AutoSeq1.sub_tuple_list
    have f5 := AutoSeq1.sub_list_tuple
    have hz : (xs ++ ys).size ≤ sizeLine + 1 := by rw [Array.size_append]; exact h2
    wp_walk using (wpAny_updateSeq hl rfl (hz := h1) (_hz' := hz)), AutoSeq1.wpAny_loadPart' hl, AutoSeq1.wpAny_loadPart' hb
    exact ⟨_, rfl, h⟩
def rExtT (K : PySem.W.Frag) : V → List V → Hp → VK → Prop := fun x vs H Q => ∃ l b xs zs,
  x = .ref l ∧ vs = [.ref b] ∧ H l = some (.lst xs) ∧ SqT K H b zs ∧ xs.length + zs.length ≤ sizeLine ∧ Q .non (upd H l (.lst (xs ++ zs)))
theorem mt_extT {X : Cx} : MtM X "list.extend" (rExtT X.K) := by
  intro pins s σ H x vs v us Q I rx rv h
  obtain ⟨l, b, xs, zs, rfl, rfl, hH, hB, hz, q⟩ := h
  cases rx
  obtain ⟨u, rfl, ru⟩ := rv.one
  cases ru
  obtain ⟨z, its, n, r, hl, e⟩ := I.lstM hH
  obtain ⟨its2, r2, ⟨⟨cls, dd, dat, sl⟩, e2, c2, n2, d2⟩, z2⟩ := I.tuple hB
  simp only at c2 d2
  subst c2 d2
  have hl2 := r2.length
  have hsz : its.toArray.size + its2.toArray.size ≤ sizeLine := by simp only [List.size_toArray]; omega
  have hlong : ¬ (!its.toArray.isEmpty && Builtin.List.listTooLong (its.toArray.size + its2.toArray.size)) = true := by
    rw [notLongL hsz, Bool.and_false]; simp
  refine call_meets F.slot_list_extend ⟨_, e, rfl⟩ F.entry_list_extend (F.args_list_extend_2 _ _)
    (ext_tup l its.toArray n b dd sl its2.toArray n2 hlong (by simp only [List.size_toArray]; omega) (by omega)) ⟨e, e2, ?_⟩
  exact ⟨.non, _, I.lset (its' := its ++ its2) hH e (by simp) (r.append r2) (by rw [List.length_append]; omega), rfl, q⟩
/-- xs == [] (the second a list that is empty) -/
def rEqNil (K : PySem.W.Frag) : R2 := fun x y H Q => ∃ a b xs, x = .ref a ∧ y = .ref b ∧ SqL K H a xs ∧ SqL K H b [] ∧ Q (.bl xs.isEmpty) H
theorem op_eqNil {X : Cx} (hu : X.A.units + 64 < cLine) : OpR X (compareOp .Eq) (rEqNil X.K) := by
  intro pins s σ H x y v u Q I rx ry h
  obtain ⟨a, b, xs, rfl, rfl, ha, hb, q⟩ := h
  cases rx
  cases ry
  obtain ⟨us, r1, p1, _⟩ := I.list ha
  obtain ⟨ws, r2, p2, _⟩ := I.list hb
  have l1 := r1.length
  have l2 := r2.length
  have u0 : X.A.units < cLine := by omega
  cases xs with
  | nil =>
    refine SeqAt.eq_listAt (e := fun _ => true) p1.isList p2.isList (by simp only [List.size_toArray]; omega) u0 (fun j h1 h2 => ?_) ?_
    · simp only [List.size_toArray] at h1
      simp only [List.length_nil] at l1
      omega
    · rw [show ((List.range us.toArray.size).all fun _ => true) = true from List.all_eq_true.mpr fun _ _ => rfl]
      exact ⟨.bl true, H, I, rfl, q⟩
  | cons z zs =>
    refine SeqAt.eq_list_lengthsAt p1.isList p2.isList ?_ u0 ⟨.bl false, H, I, rfl, q⟩
    simp only [List.length_cons, List.length_nil] at l1 l2
    simp only [List.size_toArray, bne_iff_ne, ne_eq]
    omega
end Gt
set_option Elab.async false
set_option linter.all false
set_option maxRecDepth 100000
set_option maxHeartbeats 4000000
namespace Gt
open PySem L2
/-! ### own rules, 2: list(an iterator) -/
section
variable {prog : Program} {w : World} {A : Around} {E : Value → Shared → Prop} {s : Shared} {T : String}
variable {I : Addr} {fp wr : List Addr} {n : Nat} {P : Nat → Value → Prop} {St : Nat → Heap → Prop}
/-- how the hint of an iterator ends: some answer, the heap as it was -/
def Hints (prog : Program) (w : World) (A : Around) (I : Addr) (St : Nat → Heap → Prop) : Prop :=
  ∀ (E : Value → Shared → Prop) (Q : Bool → Shared → Prop) (s : Shared), St 0 s.heap →
    (∀ b tk, Q b { s with toks := tk }) → wpAny (model prog w) A (Builtin.List.listLengthHint (.ref I)) Q E s
theorem it_extend {R : Result → Shared → Prop} (W : Walks prog w A.in1 I fp wr n P St) (hT : ∀ i (s : Shared), St i s.heap → s.TypeIs (.ref I) T)
    (nl : (Value.type T == Value.type "list") = false) (nt : (Value.type T == Value.type "tuple") = false) (hint : Hints prog w A.in1 I St)
    (S : Addr) (res : Value) (c0 : Nat) (hst : St 0 s.heap) (hSf : S ∉ fp) (hI : I ∈ fp)
    (hS : s.heap.get? S = some { cls := .type "list", data := .seq #[] c0 })
    (hR : ∀ h' tk acc c, (∀ b o, b ∉ S :: wr → s.heap.get? b = some o → h'.get? b = some o) →
      h'.get? S = some { cls := .type "list", dict := none, data := .seq acc c, slots := #[] } → ItemsOf P acc n → R (.ok (.ret res)) { s with heap := h', toks := tk }) (hn : n ≤ sizeLine) :
    wpAny (model prog w) A.in1 (Builtin.List.listExtendWith (.ref S) (.ref I) res)
      (fun fin s' => match fin with | .done f => R (.ok f) s' | .again c' => c'.quiet = true ∧ codeAny (model prog w) A c' R s') (fun e s' => R (.error e) s') s := by
  have hSI : S ≠ I := fun e => hSf (e ▸ hI)
  have key : ∀ (h : Heap) (c1 tk : Nat), St 0 h → (∀ b o, b ≠ S → s.heap.get? b = some o → h.get? b = some o) →
      h.get? S = some { cls := .type "list", data := .seq #[] c1 } →
      codeAny (model prog w) A (.builtin "list.extend.loop" ⟨[.ref S, .ref I, res], []⟩) R { s with heap := h, toks := tk } := by
    intro h c1 tk hst1 hk hS1
    refine codeAny_extend_loopS W.toS hn S hSf res n 0 _ #[] c1 rfl (Nat.zero_le _) hst1 hS1 (ItemsOf.nil _) fun s' acc c hm hS' hacc => ?_
    rw [Moved.eq_with hm]
    exact hR s'.heap s'.toks acc c (fun b o hb e => hm.heap b o hb (hk b o (fun z => hb (by rw [z]; exact List.mem_cons_self)) e)) hS' hacc
  unfold Builtin.List.listExtendWith
  refine wpAny_bind (wpAny_typeOf (T := T) (hT 0 _ hst) ?_)
  have h1 : Builtin.List.listSameRef (.ref S) (.ref I) = false := by simp [Builtin.List.listSameRef, hSI]
  simp only [h1, nl, nt, Bool.or_false, Bool.false_eq_true, if_false]
  refine wpAny_bind (W.self 0 _ _ _ hst ?_)
  refine wpAny_bind (wpAny_holding (hint _ _ _ hst fun b tk => ?_))
  refine wpAny_ite_split (fun _ => ?_) (fun _ => wpAny_pure ⟨plainId_quiet F.plain_extend_loop _, key _ c0 _ hst (fun b o _ e => e) hS⟩)
  refine wpAny_bind (wpAny_rule ?_)
  refine wpAny_bind ?_
  show wpAny _ _ (updateSeq S (·.push .none) >>= fun _ => updateSeq S (·.pop)) _ _ _
  refine wpAny_bind (wpAny_updateSeq (s := { s with toks := tk }) hS rfl ?_)
  have hS2 := Heap.get?_update_self (Obj.mapSeq (·.push Value.none)) hS rfl
  refine wpAny_updateSeq (hz := by seq_fits) hS2 rfl ?_
  have hS3 := Heap.get?_update_self (Obj.mapSeq (·.pop)) hS2 rfl
  have oth : ∀ b o, b ≠ S → s.heap.get? b = some o → ((s.heap.update S (Obj.mapSeq (·.push Value.none))).update S (Obj.mapSeq (·.pop))).get? b = some o :=
    fun b o hb e => (Heap.get?_update_other _ _ (Ne.symm hb)).trans ((Heap.get?_update_other _ _ (Ne.symm hb)).trans e)
  exact wpAny_pure ⟨plainId_quiet F.plain_extend_loop _, key _ _ _ (W.frame 0 _ _ hst fun b hb o e => oth b o (fun z => hSf (z ▸ hb)) e) oth hS3⟩
theorem it_list {Q : Value → Shared → Prop} (W : Walks prog w A.in1.in1 I fp wr n P St) (hT : ∀ i (s : Shared), St i s.heap → s.TypeIs (.ref I) T)
    (nl : (Value.type T == Value.type "list") = false) (nt : (Value.type T == Value.type "tuple") = false) (hint : Hints prog w A.in1.in1 I St)
    (hst : St 0 s.heap) (hfp : ∀ b ∈ fp, b < s.heap.objs.size) (hI : I ∈ fp) (hn : n ≤ sizeLine)
    (hQ : ∀ h' tk acc c, (∀ b o, b ∉ wr → s.heap.get? b = some o → h'.get? b = some o) →
      h'.get? s.heap.objs.size = some { cls := .type "list", dict := none, data := .seq acc c, slots := #[] } → ItemsOf P acc n → Q (.ref s.heap.objs.size) { s with heap := h', toks := tk }) :
    wpAny (model prog w) A (call (.type "list") [.ref I]) Q E s := by
  have hSf : s.heap.objs.size ∉ fp := fun hm => Nat.lt_irrefl _ (hfp _ hm)
  refine callType_codes (Q₁ := fun obj s1 => obj = .ref s.heap.objs.size ∧ s1 = { s with heap := s.heap.push { cls := .type "list", data := .seq #[] } }) F.called_list (F.typeCall_list_1 _) F.entry_list_init
    (code_list_new _ ⟨rfl, rfl⟩) fun obj s1 h1 => ?_
  obtain ⟨rfl, rfl⟩ := h1
  have hS : (s.heap.push { cls := .type "list", data := .seq #[] }).get? s.heap.objs.size = some { cls := .type "list", data := .seq #[] } := Heap.get?_push_size _ rfl
  refine ⟨⟨_, hS, rfl⟩, F.args_list_init_2 _ _, ?_⟩
  show wpAny _ _ (do let old ← Builtin.List.listItems (.ref s.heap.objs.size); Builtin.List.listUpdate (.ref s.heap.objs.size) (fun _ => #[]); letGo old.toList.reverse; Builtin.List.listExtendWith (.ref s.heap.objs.size) (.ref I) .none) _ _ _
  refine wpAny_bind ?_
  unfold Builtin.List.listItems
  refine wpAny_bind (wpAny_seqItems hS rfl (wpAny_pure ?_))
  show wpAny _ _ (updateSeq s.heap.objs.size (fun _ => #[]) >>= fun _ => letGo (#[] : Array Value).toList.reverse >>= fun _ => Builtin.List.listExtendWith (.ref s.heap.objs.size) (.ref I) .none) _ _ _
  refine wpAny_bind (wpAny_updateSeq hS rfl ?_)
  have hS2 := Heap.get?_update_self (Obj.mapSeq (fun _ => (#[] : Array Value))) hS rfl
  have oth : ∀ b o, b ≠ s.heap.objs.size → s.heap.get? b = some o → ((s.heap.push { cls := .type "list", data := .seq #[] }).update s.heap.objs.size (Obj.mapSeq (fun _ => (#[] : Array Value)))).get? b = some o :=
    fun b o hb e => (Heap.get?_update_other _ _ (Ne.symm hb)).trans (Heap.get?_push_of_some _ e)
  refine wpAny_bind (wpAny_letGo ?_)
  refine it_extend (A := A.in1) W hT nl nt hint _ .none _ (W.frame 0 _ _ hst fun b hb o e => oth b o (Nat.ne_of_lt (hfp b hb)) e) hSf hI hS2 (fun h' tk acc c hk hS' hacc => ?_) hn
  refine ⟨rfl, hQ h' tk acc c (fun b o hb e => ?_) hS' hacc⟩
  have hne : b ≠ s.heap.objs.size := Nat.ne_of_lt (Heap.lt_size e)
  refine hk b o (fun hm => ?_) (oth b o hne e)
  rcases List.mem_cons.mp hm with z | z
  · exact hne z
  · exact hb z
end
end Gt
set_option Elab.async false
set_option linter.all false
set_option maxRecDepth 100000
set_option maxHeartbeats 4000000
namespace Gt
open PySem L2
section
variable {prog : Program} {w : World} {A : Around} {E : Value → Shared → Prop} {s : Shared}
theorem hint_lri (I l : Addr) (items : Array Value) : Hints prog w A I (fun i h => i ≤ items.size ∧ h.IsRevIter I l ((items.size : Int) - 1 - (i : Int)) ∧ h.IsList l items) := by
  intro E Q s hst hQ
  have hT : s.TypeIs (.ref I) "list_reverseiterator" := hst.2.1.typeIs
  unfold Builtin.List.listLengthHint
  refine wpAny_bind (wpAny_specialOf hT RT.nolen_lri ?_)
  show wpAny _ _ (specialOf (Value.ref I) (Str.ofString "__length_hint__") >>= _) _ _ _
  refine wpAny_bind (wpAny_specialOf hT RT.hint_lri ?_)
  generalize hid : ("list_reverseiterator.__length_hint__" : String) = id0
  wp_delta
  rw [show splitId id0 = some ("list_reverseiterator", "__length_hint__") from by subst hid; decide +kernel]
  subst hid
  refine wpAny_bind (wpAny_isInstance (b := true) hT (by rw [isSubtype_type]; kernel_rfl) ?_)
  exact wpAny_pure (hQ false s.toks)
theorem nolen_rt : typeLookup (.type "reversed") "__len__" = pure none := by rw [typeLookup_type, builtinLookup_eq_fast]; kernel_rfl
theorem slot_rt_hint : Slot "reversed" "__length_hint__" "reversed.__length_hint__" :=
  .of (owner := "reversed") (n := "__length_hint__") (by rw [typeLookup_type, builtinLookup_eq_fast]; kernel_rfl) (by decide +kernel) (by decide +kernel) (by decide +kernel)
    (by first | exact .inl (by decide +kernel) | exact .inr (by decide +kernel)) (by rw [isSubtype_type]; kernel_rfl)
theorem entry_rt_hint : entryFor table "reversed.__length_hint__" = some Builtin.«reversed.__length_hint__» := entryFor_of_tree (by kernel_rfl)
theorem args_rt_hint (a : Value) : argsOk "reversed.__length_hint__" ⟨[a], []⟩ := by
  unfold argsOk
  rw [signature?_of (id := "reversed.__length_hint__") (n := "__length_hint__".toList.reverse) (o := "reversed".toList.reverse) (by kernel_rfl) RT.owner_rt]
  kernel_rfl
theorem sub_rt : isSubtype (.type "reversed") (.type "reversed") = pure true := by rw [isSubtype_type]; kernel_rfl
theorem call_rt_hint {I t : Addr} {items : Array Value} {Q : Value → Shared → Prop} (hz : items.size ≤ sizeLine)
    (hit : RT.IsRt s.heap I t ((items.size : Int) - 1 - ((0 : Nat) : Int))) (ht : PyProof.Rows.IsTup s.heap t items) (h : ∀ t' tk, Q (.int (items.size : Int) t') { s with toks := tk }) :
    wpAny (model prog w) A (call (.builtin "reversed.__length_hint__") [.ref I]) Q E s := by
  obtain ⟨o, ho, hc, hd⟩ := id hit
  have hn : (items.size : Int) < 2 ^ 63 := by rw [sizeLine_eq] at hz; omega
  refine wpAny_call_entry slot_rt_hint hit.typeIs entry_rt_hint ?_ (args_rt_hint _)
  unfold Builtin.«reversed.__length_hint__»
  refine wpAny_bind (wpAny_of_eq (a := Value.ref I) rfl ?_)
  refine wpAny_bind (wpAny_field ho hd (x := .ref t) rfl ?_)
  refine wpAny_ite_split (fun h => absurd h Bool.false_ne_true) (fun _ => ?_)
  refine wpAny_bind (PyProof.Rows.len_tuple ht hn ?_)
  refine wpAny_bind (wpAny_of_eq (a := some ((items.size : Nat) : Int)) rfl ?_)
  try dsimp only
  refine wpAny_bind (wpAny_field (s := { s with toks := s.toks + 1 + 1 }) ho hd (x := rawInt ((items.size : Int) - 1 - ((0 : Nat) : Int))) rfl ?_)
  show wpAny _ _ (if _ < _ then _ else _) _ _ _
  refine wpAny_ite_split (fun h => absurd h (by omega)) (fun _ => ?_)
  have e : (items.size : Int) - 1 - ((0 : Nat) : Int) + 1 = (items.size : Int) := by omega
  rw [e]
  unfold retInt
  refine wpAny_bind (wpAny_mkInt ?_)
  exact wpAny_pure ⟨_, rfl, h _ _⟩
theorem hint_rt (I t : Addr) (items : Array Value) (hz : items.size ≤ sizeLine) :
    Hints prog w A I (fun i h => i ≤ items.size ∧ RT.IsRt h I t ((items.size : Int) - 1 - (i : Int)) ∧ PyProof.Rows.IsTup h t items) := by
  intro E Q s hst hQ
  obtain ⟨_, hit, ht⟩ := hst
  have hT : s.TypeIs (.ref I) "reversed" := hit.typeIs
  obtain ⟨o, ho, hc, hd⟩ := id hit
  unfold Builtin.List.listLengthHint
  refine wpAny_bind (wpAny_specialOf hT nolen_rt ?_)
  show wpAny _ _ (specialOf (Value.ref I) (Str.ofString "__length_hint__") >>= _) _ _ _
  refine wpAny_bind (wpAny_specialOf hT slot_rt_hint.lookup ?_)
  generalize hid : ("reversed.__length_hint__" : String) = id0
  wp_delta
  rw [show splitId id0 = some ("reversed", "__length_hint__") from by subst hid; decide +kernel]
  subst hid
  refine wpAny_bind (wpAny_isInstance (b := true) hT sub_rt ?_)
  refine wpAny_ite_split (fun h => absurd h (by decide)) (fun _ => ?_)
  refine wpAny_ite_split (fun h => absurd h (by decide +kernel)) (fun _ => ?_)
  refine wpAny_bind (wpAny_rule ?_)
  refine wpAny_bind (wpAny_of_eq (a := (Value.builtin "reversed.__length_hint__", [Value.ref I])) (by first | rfl | kernel_rfl) ?_)
  try dsimp only
  have hn : (items.size : Int) < 2 ^ 63 := by rw [sizeLine_eq] at hz; omega
  refine wpAny_bind (wpAny_attempt (call_rt_hint hz hit ht fun t' tk => ?_))
  try dsimp only
  have h0 : 0 ≤ (items.size : Int) := Int.natCast_nonneg _
  have hl : Builtin.List.listTooLong (items.size : Int).toNat = false := by rw [show (items.size : Int).toNat = items.size from by omega]; exact notLongL hz
  generalize (items.size : Int) = k at hn h0 hl
  refine wpAny_bind (m := asInt? (.int k t')) (wpAny_pure ?_)
  dsimp only
  have hf : Builtin.List.listFitsIndex k = true := by
    unfold Builtin.List.listFitsIndex
    rw [decide_eq_true (show -(2 ^ 63 : Int) ≤ k by omega), decide_eq_true hn]
    rfl
  rw [if_neg (by rw [hf]; exact Bool.false_ne_true), if_neg (by omega), if_neg (by rw [hl]; exact Bool.false_ne_true)]
  exact wpAny_pure (hQ _ tk)
end
end Gt
set_option Elab.async false
set_option linter.all false
set_option maxRecDepth 100000
set_option maxHeartbeats 4000000
namespace Gt
open PySem PySem.Spec L2
open PyProof.Rows (Call_ args_cons args_nil)
section
variable {prog : Program} {w : World} {A : Around} {E : Value → Shared → Prop} {s : Shared}
theorem walks_rt (hh : A.handled = none) (I t : Addr) (hne : t ≠ I) (items : Array Value) (hz : items.size ≤ sizeLine) :
    Walks prog w A I [I, t] [I] items.size (fun i v => items[items.size - 1 - i]? = some v)
      (fun i h => i ≤ items.size ∧ RT.IsRt h I t ((items.size : Int) - 1 - (i : Int)) ∧ PyProof.Rows.IsTup h t items) where
  sub := fun b hb => by simp at hb; simp [hb]
  frame := fun _ _ _ x hk => ⟨x.1, x.2.1.at fun o e => hk I (by simp) o e, let ⟨o, e, r⟩ := x.2.2; ⟨o, hk t (by simp) o e, r⟩⟩
  item := fun i s Q E hi x hQ => by
    obtain ⟨_, hit, ht⟩ := x
    have e : (items.size : Int) - 1 - (i : Int) = ((items.size - 1 - i : Nat) : Int) := by omega
    rw [e] at hit
    have hx : items[items.size - 1 - i]? = some (items[items.size - 1 - i]'(by omega)) := Array.getElem?_eq_getElem (by omega)
    refine RT.next_rt_item hit ht hx hz fun h' hit' hs' => ?_
    have e2 : ((items.size - 1 - i : Nat) : Int) - 1 = (items.size : Int) - 1 - ((i + 1 : Nat) : Int) := by omega
    rw [e2] at hit'
    obtain ⟨o, eo, r⟩ := ht
    exact hQ _ h' _ hx ⟨hi, hit', o, (hs'.2 t hne).trans eo, r⟩ fun b o hb eo => hs'.extBut b o (fun h => hb (by simp [h])) eo
  done := fun s Q E x hQ => by
    obtain ⟨_, hit, ht⟩ := x
    have e : (items.size : Int) - 1 - (items.size : Int) = -1 := by omega
    rw [e] at hit
    exact RT.next_rt_end hh hit fun h' he' => hQ h' s.toks fun b o hb eo => he' b o (fun h => hb (by simp [h])) eo
  self := fun _ _ _ _ x hQ => RT.iter_rt x.2.1 hQ
end
/-- list(reversed(x)), x a list or a tuple: a new list -/
def tLstRev (K : PySem.W.Frag) (te : TE) : TE := fun σ H Q => te σ H fun v H1 => ∃ (a : Addr) (xs : List V),
  v = .ref a ∧ (SqL K H1 a xs ∨ SqT K H1 a xs) ∧ ∀ q, H1 q = none → Q (.ref q) (upd H1 q (.lst xs.reverse))
section
variable {X : Cx}
theorem pe_lstRev {e : Expr} {te : TE} {p p2 pos pos2 : Pos} (hc : X.calm = true) (hg : Gl X "list") (hm : X.mg "list" = none) (hg2 : Gl X "reversed") (hm2 : X.mg "reversed" = none) (he : PE X e te)
    (hs : starEach [e] X.env = (false, eval e X.env) :: starEach [] X.env := by rfl)
    (hs2 : starEach [.Call (.Name "reversed" p2) [e] [] pos2] X.env = (false, eval (.Call (.Name "reversed" p2) [e] [] pos2) X.env) :: starEach [] X.env := by rfl) :
    PE X (.Call (.Name "list" p) [.Call (.Name "reversed" p2) [e] [] pos2] [] pos) (tLstRev X.K te) := by
  refine ⟨fun pins s σ H Q I h => ?_⟩
  refine Call_ (ld_blt I hg hm PyProof.Rows.boot_list (PyProof.Rows.callWith_type1 (args_cons (Call_ (ld_blt I hg2 hm2 PyProof.Rows.boot_reversed (PyProof.Rows.callWith_type1 (args_cons (thn (he.run pins s σ H _ I h)
    fun u s1 ⟨v, H1, I1, r1, q1⟩ => args_nil ?_) hs) hs rfl))) hs2) hs2 rfl))
  obtain ⟨a, xs, ev, hq, q⟩ := q1
  subst ev
  obtain rfl : u = Value.ref a := r1
  have hh := I1.ok.hd hc
  rcases hq with hq | hq
  · obtain ⟨its, rv, p', hz⟩ := I1.list hq
    have hn : its.toArray.size ≤ sizeLine := by rw [List.size_toArray, ← rv.length]; exact hz
    refine call_reversed_list p'.isList (args_nil ?_)
    have hl := p'.isList
    obtain ⟨ol, hol, _⟩ := id hl
    have hlt := Heap.lt_size hol
    have hne : a ≠ s1.heap.objs.size := Nat.ne_of_lt hlt
    have hsz : (s1.heap.push (revObj a ((its.toArray.size : Int) - 1))).objs.size = s1.heap.objs.size + 1 := Heap.size_push ..
    refine it_list (s := { s1 with heap := s1.heap.push (revObj a ((its.toArray.size : Int) - 1)) }) (T := "list_reverseiterator")
      (Walks.listRev (A := X.A.in1.in1) hh s1.heap.objs.size a hne its.toArray) (fun i s st => st.2.1.typeIs) (by decide) (by decide) (hint_lri _ _ _) ⟨Nat.zero_le _, ?_, hl.push _⟩ (fun b hb => ?_) (by simp) hn
      fun h' tk acc c hk hS hi => ?_
    · exact ⟨_, Heap.get?_push_size _ rfl, rfl, by simp [revObj]⟩
    · simp only [List.mem_cons, List.not_mem_nil, or_false] at hb
      rw [hsz]
      rcases hb with rfl | rfl
      · exact Nat.lt_succ_self _
      · exact Nat.lt_succ_of_lt hlt
    · refine ⟨.ref _, upd H1 _ (.lst xs.reverse), I1.laid (t' := tk) (fun b o e => hk b o (fun hb => ?_) (Heap.get?_push_of_some _ e)) ?_ (show ObjOk X.prog X.w _ _ _ (.lst xs.reverse) from ⟨by rw [List.length_reverse]; exact hz, acc.toList, c, RT.vals_rev rv hi, ?_⟩), rfl, q _ (I1.hok.fresh ?_)⟩
      · exact absurd (List.mem_singleton.mp hb) (Nat.ne_of_lt (Heap.lt_size e))
      · rw [hsz]; exact Nat.le_succ _
      · rw [Array.toArray_toList]; exact hS
      · rw [hsz]; exact Nat.le_succ _
  · obtain ⟨its, rv, p', hz⟩ := I1.tuple hq
    have hn : its.toArray.size ≤ sizeLine := by rw [List.size_toArray, ← rv.length]; exact hz
    have hn63 : (its.toArray.size : Int) < 2 ^ 63 := by rw [sizeLine_eq] at hn; omega
    refine RT.call_reversed_tup p' (fun A E Q k => PyProof.Rows.len_tuple p' hn63 k) (args_nil ?_)
    obtain ⟨ol, hol, rest⟩ := id p'
    have hlt := Heap.lt_size hol
    have hne : a ≠ s1.heap.objs.size := Nat.ne_of_lt hlt
    have hsz : (s1.heap.push (RT.rtObj a ((its.toArray.size : Int) - 1))).objs.size = s1.heap.objs.size + 1 := Heap.size_push ..
    refine it_list (s := { s1 with heap := s1.heap.push (RT.rtObj a ((its.toArray.size : Int) - 1)), toks := s1.toks + 1 + 1 }) (T := "reversed")
      (walks_rt (A := X.A.in1.in1) hh s1.heap.objs.size a hne its.toArray hn) (fun i s st => st.2.1.typeIs) (by decide) (by decide) (hint_rt _ _ _ hn) ⟨Nat.zero_le _, ?_, ol, Heap.get?_push_of_some _ hol, rest⟩ (fun b hb => ?_) (by simp) hn
      fun h' tk acc c hk hS hi => ?_
    · exact ⟨_, Heap.get?_push_size _ rfl, rfl, by simp [RT.rtObj]⟩
    · simp only [List.mem_cons, List.not_mem_nil, or_false] at hb
      show b < (s1.heap.push (RT.rtObj a ((its.toArray.size : Int) - 1))).objs.size
      rw [hsz]
      rcases hb with rfl | rfl
      · exact Nat.lt_succ_self _
      · exact Nat.lt_succ_of_lt hlt
    · refine ⟨.ref _, upd H1 _ (.lst xs.reverse), I1.laid (t' := tk) (fun b o e => hk b o (fun hb => ?_) (Heap.get?_push_of_some _ e)) ?_ (show ObjOk X.prog X.w _ _ _ (.lst xs.reverse) from ⟨by rw [List.length_reverse]; exact hz, acc.toList, c, RT.vals_rev rv hi, ?_⟩), rfl, q _ (I1.hok.fresh ?_)⟩
      · exact absurd (List.mem_singleton.mp hb) (Nat.ne_of_lt (Heap.lt_size e))
      · rw [hsz]; exact Nat.le_succ _
      · rw [Array.toArray_toList]; exact hS
      · rw [hsz]; exact Nat.le_succ _
end
end Gt
set_option Elab.async false
set_option linter.all false
set_option maxRecDepth 100000
set_option maxHeartbeats 4000000
namespace Gt
open PySem PySem.Spec L2
/-! ### own rules, 4: list(zip(a, b)) over a list or a tuple each -/
section
variable {prog : Program} {w : World} {A : Around} {E : Value → Shared → Prop} {s : Shared} {z TI TO i1 i2 T : Addr} {fp1 fp2 : List Addr} {n1 n2 i : Nat}
  {P1 P2 : Nat → Value → Prop} {St1 St2 : Nat → Heap → Prop} {f : Bool} {oT : Obj}
theorem zh_item {Q : Value → Shared → Prop} (S : ZipSep2 z TI TO i1 i2 fp1 fp2) (D1 : Draws prog w A i1 fp1 n1 P1 St1) (D2 : Draws prog w A i2 fp2 n2 P2 St2)
    (hz : IsZipHeld s.heap z TI TO T f) (hT : s.heap.get? T = some oT) (hTI : IsTupOf2 s.heap TI (.ref i1) (.ref i2)) (st1 : St1 i s.heap) (st2 : St2 i s.heap) (h1 : i < n1) (h2 : i < n2)
    (hQ : ∀ x1 x2 h' tk, P1 i x1 → P2 i x2 → IsZipHeld h' z TI TO T true → St1 (i + 1) h' → St2 (i + 1) h' → IsTupOf2 h' s.heap.objs.size x1 x2 → h'.objs.size = s.heap.objs.size + 1 →
      (∀ c o, c ≠ z → c ≠ i1 → c ≠ i2 → s.heap.get? c = some o → h'.get? c = some o) → Q (.ref s.heap.objs.size) { s with heap := h', toks := tk }) :
    wpAny (model prog w) A (Builtin.«zip.__next__» ⟨[.ref z], []⟩) (fun fin s' => ∃ v, fin = .done (.ret v) ∧ Q v s') E s := by
  obtain ⟨hp, g, d, tk0, os⟩ := s
  show wpAny _ _ (field (.ref z) 2 >>= _) _ _ _
  refine wpAny_bind (wpAny_field hz rfl (x := .bool false) rfl ?_)
  show wpAny _ _ (field (.ref z) 3 >>= _) _ _ _
  refine wpAny_bind (wpAny_field hz rfl (x := .ref TI) rfl ?_)
  refine wpAny_bind (wpAny_seqItems hTI rfl ?_)
  show wpAny _ _ (Builtin.SmallTypes.ownedTupleIsFree (.ref z) >>= _) _ _ _
  refine wpAny_bind (wpAny_tupleHeld_zip hz hT fun g0 hz0 hs0 => ?_)
  simp only [Bool.false_eq_true, if_false]
  refine wpAny_bind ?_
  rw [← Array.forIn_toList]
  simp only [List.forIn_cons, List.forIn_nil]
  refine wpAny_bind (wpAny_bind (wpAny_holding ?_))
  show wpAny _ _ (Builtin.SmallTypes.nextOf (.ref i1) >>= _) _ _ ⟨g0, g, d, tk0, os⟩
  refine wpAny_bind (D1.item i _ _ _ h1 (D1.over st1 hs0 S.zf1) fun x1 p1 tk1 hx1 sn1 hp1 => wpAny_pure ?_)
  replace hp1 : Heap.SameBut i1 g0 p1 := hp1
  refine wpAny_pure ?_
  refine wpAny_bind (wpAny_bind (wpAny_holding ?_))
  show wpAny _ _ (Builtin.SmallTypes.nextOf (.ref i2) >>= _) _ _ ⟨p1, g, d, tk1, os⟩
  refine wpAny_bind (D2.item i _ _ _ h2 (D2.over (D2.over st2 hs0 S.zf2) hp1 S.sep1_2) fun x2 p2 tk2 hx2 sn2 hp2 => wpAny_pure ?_)
  replace hp2 : Heap.SameBut i2 p1 p2 := hp2
  refine wpAny_pure (wpAny_pure ?_)
  show wpAny _ _ (newTuple [x1, x2] >>= _) _ _ _
  refine wpAny_bind (wpAny_newTuple ?_)
  replace hs0 : Heap.SameBut z hp g0 := hs0
  have hsz : p2.objs.size = hp.objs.size := by rw [hp2.1, hp1.1, hs0.1]
  have hz3 : IsZipHeld p2 z TI TO T true := hp2.extBut _ _ S.zi2 (hp1.extBut _ _ S.zi1 hz0)
  have hk : ∀ c o, c ≠ z → c ≠ i1 → c ≠ i2 → hp.get? c = some o → p2.get? c = some o := fun c o c1 c2 c3 e => hp2.extBut _ _ c3 (hp1.extBut _ _ c2 (hs0.extBut _ _ c1 e))
  refine wpAny_pure ⟨_, rfl, ?_⟩
  show Q (.ref p2.objs.size) ⟨p2.push { cls := .type "tuple", data := .seq #[x1, x2] }, g, d, tk2, os⟩
  have hpr : IsTupOf2 (p2.push { cls := .type "tuple", data := .seq #[x1, x2] }) p2.objs.size x1 x2 := Heap.get?_push_size _ rfl
  have hz4 : (p2.push { cls := .type "tuple", data := .seq #[x1, x2] }).objs.size = p2.objs.size + 1 := Heap.size_push ..
  rw [hsz] at hpr hz4 ⊢
  exact hQ x1 x2 _ tk2 hx1 hx2 (Heap.get?_push_of_some _ hz3) (D1.frame _ _ _ (D1.over sn1 hp2 S.sep2_1) fun b _ o e => Heap.get?_push_of_some _ e) (D2.frame _ _ _ sn2 fun b _ o e => Heap.get?_push_of_some _ e) hpr hz4
    fun c o c1 c2 c3 e => Heap.get?_push_of_some _ (hk c o c1 c2 c3 e)
theorem zh_end {Q : Fin → Shared → Prop} (S : ZipSep2 z TI TO i1 i2 fp1 fp2) (D1 : Draws prog w A i1 fp1 n1 P1 St1) (D2 : Draws prog w A i2 fp2 n2 P2 St2)
    (hz : IsZipHeld s.heap z TI TO T f) (hT : s.heap.get? T = some oT) (hTI : IsTupOf2 s.heap TI (.ref i1) (.ref i2)) (st1 : St1 n1 s.heap) (h : n1 = i)
    (hE : ∀ h' tk e, (∀ c o, c ≠ z → c ≠ i1 → c ≠ i2 → s.heap.get? c = some o → h'.get? c = some o) → (∃ o, h'.get? e = some o ∧ o.cls = .type "StopIteration") → E (.ref e) { s with heap := h', toks := tk }) :
    wpAny (model prog w) A (Builtin.«zip.__next__» ⟨[.ref z], []⟩) Q E s := by
  obtain ⟨hp, g, d, tk0, os⟩ := s
  show wpAny _ _ (field (.ref z) 2 >>= _) _ _ _
  refine wpAny_bind (wpAny_field hz rfl (x := .bool false) rfl ?_)
  show wpAny _ _ (field (.ref z) 3 >>= _) _ _ _
  refine wpAny_bind (wpAny_field hz rfl (x := .ref TI) rfl ?_)
  refine wpAny_bind (wpAny_seqItems hTI rfl ?_)
  show wpAny _ _ (Builtin.SmallTypes.ownedTupleIsFree (.ref z) >>= _) _ _ _
  refine wpAny_bind (wpAny_tupleHeld_zip hz hT fun g0 hz0 hs0 => ?_)
  simp only [Bool.false_eq_true, if_false]
  refine wpAny_bind ?_
  rw [← Array.forIn_toList]
  simp only [List.forIn_cons, List.forIn_nil]
  refine wpAny_bind (wpAny_bind (wpAny_holding ?_))
  show wpAny _ _ (Builtin.SmallTypes.nextOf (.ref i1) >>= _) _ _ ⟨g0, g, d, tk0, os⟩
  replace hs0 : Heap.SameBut z hp g0 := hs0
  refine wpAny_bind (D1.done ⟨g0, g, d, tk0, os⟩ _ _ (D1.over st1 hs0 S.zf1) fun q e hq he => ?_)
  exact hE q tk0 e (fun c o c1 c2 _ x => hq _ _ c2 (hs0.extBut _ _ c1 x)) he
end
end Gt
set_option Elab.async false
set_option linter.all false
set_option maxRecDepth 100000
set_option maxHeartbeats 4000000
namespace Gt
open PySem PySem.Spec L2
theorem lt_up {a b c : Nat} (h : a < b) (e : c = b + 1) : a < c := by omega
theorem ne_up {a b : Nat} (h : a < b) : b ≠ a := by omega
section
variable {prog : Program} {w : World} {A : Around} {E : Value → Shared → Prop} {s : Shared} {z TI TO i1 i2 T : Addr} {fp1 fp2 : List Addr} {n i : Nat}
  {P1 P2 : Nat → Value → Prop} {St1 St2 : Nat → Heap → Prop}
/-- the zip before its i-th pair; S is the list that is filled meanwhile -/
def ZipSt (z TI TO i1 i2 S : Addr) (St1 St2 : Nat → Heap → Prop) (i : Nat) (h : Heap) : Prop :=
  IsTupOf2 h TI (.ref i1) (.ref i2) ∧ St1 i h ∧ St2 i h ∧ z < h.objs.size ∧ TO < h.objs.size ∧ i1 < h.objs.size ∧ i2 < h.objs.size ∧
    ((IsZip h z TI TO .none ∧ ∃ a b, IsTupOf2 h TO a b) ∨ ∃ T f oT, IsZipHeld h z TI TO T f ∧ h.get? T = some oT ∧ T ≠ z ∧ T ≠ i1 ∧ T ≠ i2 ∧ T ≠ S)
theorem ZipSt.keep {S : Addr} {h h' : Heap} (D1 : Draws prog w A i1 fp1 n P1 St1) (D2 : Draws prog w A i2 fp2 n P2 St2) (hz : S ≠ z) (hTI : S ≠ TI) (hTO : S ≠ TO) (h1 : S ∉ fp1) (h2 : S ∉ fp2)
    (st : ZipSt z TI TO i1 i2 S St1 St2 i h) (hk : ∀ b o, b ≠ S → h.get? b = some o → h'.get? b = some o) (hsz : h.objs.size ≤ h'.objs.size) : ZipSt z TI TO i1 i2 S St1 St2 i h' := by
  obtain ⟨a, b, c, l1, l2, l3, l4, d⟩ := st
  refine ⟨hk _ _ (Ne.symm hTI) a, D1.frame _ _ _ b fun x hx o e => hk _ _ (fun q => h1 (q ▸ hx)) e, D2.frame _ _ _ c fun x hx o e => hk _ _ (fun q => h2 (q ▸ hx)) e, Nat.lt_of_lt_of_le l1 hsz, Nat.lt_of_lt_of_le l2 hsz, Nat.lt_of_lt_of_le l3 hsz, Nat.lt_of_lt_of_le l4 hsz, ?_⟩
  rcases d with ⟨d, x, y, e⟩ | ⟨T, f, oT, d, e, r1, r2, r3, r4⟩
  · exact .inl ⟨hk _ _ (Ne.symm hz) d, x, y, hk _ _ (Ne.symm hTO) e⟩
  · exact .inr ⟨T, f, oT, hk _ _ (Ne.symm hz) d, hk _ _ r4 e, r1, r2, r3, r4⟩
theorem zs_item {S : Addr} {Q : Option Value → Shared → Prop} (Z : ZipSep2 z TI TO i1 i2 fp1 fp2) (D1 : Draws prog w A.in1 i1 fp1 n P1 St1) (D2 : Draws prog w A.in1 i2 fp2 n P2 St2)
    (st : ZipSt z TI TO i1 i2 S St1 St2 i s.heap) (hi : i < n) (hS : S < s.heap.objs.size)
    (hQ : ∀ x1 x2 h' tk, P1 i x1 → P2 i x2 → ZipSt z TI TO i1 i2 S St1 St2 (i + 1) h' → IsTupOf2 h' s.heap.objs.size x1 x2 → h'.objs.size = s.heap.objs.size + 1 →
      (∀ c o, c ≠ z → c ≠ TO → c ≠ i1 → c ≠ i2 → s.heap.get? c = some o → h'.get? c = some o) → Q (some (.ref s.heap.objs.size)) { s with heap := h', toks := tk }) :
    wpAny (model prog w) A (pyNext (.ref z)) Q E s := by
  obtain ⟨a, b, c, l1, l2, l3, l4, d⟩ := st
  rcases d with ⟨d, x, y, e⟩ | ⟨T, f, oT, d, e, r1, r2, r3, r4⟩
  · refine wpAny_pyNext_zipD2_item Z D1 D2 d a e b c hi hi fun x1 x2 h' tk q1 q2 a1 a2 t1 t2 a5 a6 hk => ?_
    exact hQ x1 x2 h' tk q1 q2 ⟨hk _ _ Z.TIz Z.TITO Z.TIi1 Z.TIi2 a, t1, t2, lt_up l1 a6, lt_up l2 a6, lt_up l3 a6, lt_up l4 a6,
      .inr ⟨_, false, _, a1, a5, ne_up l1, ne_up l3, ne_up l4, ne_up hS⟩⟩ a5 a6 hk
  · have hTy : s.TypeIs (.ref z) "zip" := ⟨_, d, rfl⟩
    unfold pyNext
    exact wpAny_bind (wpAny_attempt (wpAny_callSpecial?_slot (name := Str.ofString "__next__") hTy F.slot_zip_next (wpAny_call_entry F.slot_zip_next hTy F.entry_zip_next
      (zh_item Z D1 D2 d e a b c hi hi fun x1 x2 h' tk q1 q2 a1 t1 t2 a5 a6 hk => wpAny_pure (hQ x1 x2 h' tk q1 q2
        ⟨hk _ _ Z.TIz Z.TIi1 Z.TIi2 a, t1, t2, lt_up l1 a6, lt_up l2 a6, lt_up l3 a6, lt_up l4 a6, .inr ⟨T, true, oT, a1, hk _ _ r1 r2 r3 e, r1, r2, r3, r4⟩⟩ a5 a6 fun c o c1 _ c3 c4 e => hk c o c1 c3 c4 e)) (F.args_zip_next_1 _))))
theorem zs_end {S : Addr} {Q : Option Value → Shared → Prop} (Z : ZipSep2 z TI TO i1 i2 fp1 fp2) (D1 : Draws prog w A.in1 i1 fp1 n P1 St1) (D2 : Draws prog w A.in1 i2 fp2 n P2 St2)
    (st : ZipSt z TI TO i1 i2 S St1 St2 n s.heap)
    (hQ : ∀ h' tk, (∀ c o, c ≠ z → c ≠ TO → c ≠ i1 → c ≠ i2 → s.heap.get? c = some o → h'.get? c = some o) → Q none { s with heap := h', toks := tk }) :
    wpAny (model prog w) A (pyNext (.ref z)) Q E s := by
  obtain ⟨a, b, c, l1, l2, l3, l4, d⟩ := st
  rcases d with ⟨d, x, y, e⟩ | ⟨T, f, oT, d, e, r1, r2, r3, r4⟩
  · exact wpAny_pyNext_zipD2_end Z D1 D2 d a e b c (Nat.le_refl _) (Nat.le_refl _) (.inl rfl) hQ
  · have hTy : s.TypeIs (.ref z) "zip" := ⟨_, d, rfl⟩
    unfold pyNext
    refine wpAny_bind (wpAny_attempt (wpAny_callSpecial?_slot (name := Str.ofString "__next__") hTy F.slot_zip_next (wpAny_call_entry F.slot_zip_next hTy F.entry_zip_next
      (zh_end (i := n) Z D1 D2 d e a b rfl fun h' tk e hk he => ?_) (F.args_zip_next_1 _))))
    obtain ⟨o, ho, hc⟩ := he
    refine wpAny_bind (wpAny_isInstance (T := "StopIteration") (b := true) ⟨o, ho, hc⟩ isSubtype_stop ?_)
    exact wpAny_pure (hQ _ _ fun c o c1 _ c3 c4 e => hk c o c1 c3 c4 e)
theorem nolen_zip : typeLookup (.type "zip") "__len__" = pure none := by rw [typeLookup_type, builtinLookup_eq_fast]; kernel_rfl
theorem nohint_zip : typeLookup (.type "zip") "__length_hint__" = pure none := by rw [typeLookup_type, builtinLookup_eq_fast]; kernel_rfl
/-- the pairs drawn so far -/
structure Pairs (P1 P2 : Nat → Value → Prop) (lo : Addr) (h : Heap) (as : List Addr) : Prop where
  above : ∀ a ∈ as, lo < a
  nd : as.Nodup
  pair : ∀ (j : Nat) (a : Addr), as[j]? = some a → ∃ x1 x2, P1 j x1 ∧ P2 j x2 ∧ IsTupOf2 h a x1 x2
theorem zs_loop {R : Result → Shared → Prop} {S : Addr} (Z : ZipSep2 z TI TO i1 i2 fp1 fp2) (D1 : Draws prog w A.in1.in1 i1 fp1 n P1 St1) (D2 : Draws prog w A.in1.in1 i2 fp2 n P2 St2)
    (hz : S ≠ z) (hTI : S ≠ TI) (hTO : S ≠ TO) (h1 : S ∉ fp1) (h2 : S ∉ fp2) (hi1 : S ≠ i1) (hi2 : S ≠ i2) (lo : Addr) (hlo : ∀ c, c = z ∨ c = TO ∨ c = i1 ∨ c = i2 ∨ c = S → c ≤ lo) (hn : n ≤ sizeLine) (res : Value) {g1 : Heap}
    (hR : ∀ h' tk acc c as, (∀ b o, b ≠ S → b ≠ z → b ≠ TO → b ≠ i1 → b ≠ i2 → g1.get? b = some o → h'.get? b = some o) → h'.get? S = some { cls := .type "list", dict := none, data := .seq acc c, slots := #[] } →
      as.length = n → Pairs P1 P2 lo h' as → acc.toList = as.map Value.ref → R (.ok (.ret res)) { s with heap := h', toks := tk }) :
    ∀ (k i : Nat) (h : Heap) (tk c : Nat) (acc : Array Value) (as : List Addr), n - i = k → i ≤ n → ZipSt z TI TO i1 i2 S St1 St2 i h →
      (∀ b o, b ≠ S → b ≠ z → b ≠ TO → b ≠ i1 → b ≠ i2 → g1.get? b = some o → h.get? b = some o) →
      h.get? S = some { cls := .type "list", dict := none, data := .seq acc c, slots := #[] } → acc.toList = as.map Value.ref → as.length = i → Pairs P1 P2 lo h as → (∀ a ∈ as, a < h.objs.size) → lo < h.objs.size →
      codeAny (model prog w) A (.builtin "list.extend.loop" ⟨[.ref S, .ref z, res], []⟩) R { s with heap := h, toks := tk } := by
  intro k
  induction k with
  | zero =>
    intro i h tk c acc as hk hi hst hkeep hS hacc hal hG hlt hl0
    have hin : i = n := by omega
    subst hin
    refine codeAny_builtin F.entry_extend_loop ?_
    rw [Around.under_plainId F.plain_extend_loop _]
    show wpAny _ A.in1 (pyNext (.ref z) >>= _) _ _ _
    refine wpAny_bind (zs_end (s := { s with heap := h, toks := tk }) Z D1 D2 hst fun h' tk' he => ?_)
    refine wpAny_pure (hR h' tk' acc c as (fun b o q1 q2 q3 q4 q5 e => he b o q2 q3 q4 q5 (hkeep b o q1 q2 q3 q4 q5 e)) (he S _ hz hTO hi1 hi2 hS) hal ⟨hG.above, hG.nd, fun j a hj => ?_⟩ hacc)
    obtain ⟨x1, x2, p1, p2, e⟩ := hG.pair j a hj
    have hab := hG.above a (List.mem_of_getElem? hj)
    have ne : ∀ c, c = z ∨ c = TO ∨ c = i1 ∨ c = i2 ∨ c = S → a ≠ c := fun c hc => Nat.ne_of_gt (Nat.lt_of_le_of_lt (hlo c hc) hab)
    exact ⟨x1, x2, p1, p2, he a _ (ne _ (by simp)) (ne _ (by simp)) (ne _ (by simp)) (ne _ (by simp)) e⟩
  | succ k ih =>
    intro i h tk c acc as hk hi hst hkeep hS hacc hal hG hlt hl0
    have hin : i < n := by omega
    have hsz : acc.size = i := by rw [← Array.length_toList, hacc, List.length_map, hal]
    refine codeAny_builtin F.entry_extend_loop ?_
    rw [Around.under_plainId F.plain_extend_loop _]
    show wpAny _ A.in1 (pyNext (.ref z) >>= _) _ _ _
    refine wpAny_bind (zs_item (s := { s with heap := h, toks := tk }) (S := S) Z D1 D2 hst hin (Heap.lt_size hS) fun x1 x2 h' tk' q1 q2 hst' ht hz' hkp => ?_)
    dsimp only at ht hz' hkp ⊢
    have hS' := hkp S _ hz hTO hi1 hi2 hS
    have up : ∀ b o, b ≠ S → h'.get? b = some o → (h'.update S (Obj.mapSeq (·.push (Value.ref h.objs.size)))).get? b = some o := fun b o hb e => (Heap.get?_update_other _ _ (Ne.symm hb)).trans e
    have hsu : (h'.update S (Obj.mapSeq (·.push (Value.ref h.objs.size)))).objs.size = h'.objs.size := (Heap.SameBut.update ..).1
    have hSl : S < h.objs.size := Heap.lt_size hS
    have ne : ∀ a, lo < a → ∀ c, c = z ∨ c = TO ∨ c = i1 ∨ c = i2 ∨ c = S → a ≠ c := fun a hab c hc => Nat.ne_of_gt (Nat.lt_of_le_of_lt (hlo c hc) hab)
    show wpAny _ A.in1 (updateSeq S (·.push (Value.ref h.objs.size)) >>= _) _ _ _
    refine wpAny_bind ?_
    refine wpAny_updateSeq hS' rfl (wpAny_pure ⟨plainId_quiet F.plain_extend_loop _, ih (i + 1) _ tk' _ (acc.push (Value.ref h.objs.size)) (as ++ [h.objs.size]) (by omega) hin
      (ZipSt.keep D1 D2 hz hTI hTO h1 h2 hst' up (by rw [hsu]; exact Nat.le_refl _)) (fun b o b1 b2 b3 b4 b5 e => up b o b1 (hkp b o b2 b3 b4 b5 (hkeep b o b1 b2 b3 b4 b5 e)))
      (Heap.get?_update_self _ hS' rfl) (by rw [Array.toList_push, hacc, List.map_append]; rfl) (by rw [List.length_append, hal]; rfl) ⟨fun a ha => ?_, ?_, fun j b hj => ?_⟩ (fun a ha => ?_) (by rw [hsu]; exact lt_up hl0 hz')⟩)
      (by rw [hsz]; omega) (by show (acc.push (Value.ref h.objs.size)).size ≤ sizeLine + 1; rw [Array.size_push, hsz]; omega)
    · rcases List.mem_append.mp ha with ha | ha
      · exact hG.above a ha
      · rw [List.mem_singleton.mp ha]; exact hl0
    · refine List.nodup_append.mpr ⟨hG.nd, by simp, fun a ha b hb => ?_⟩
      rw [List.mem_singleton.mp hb]
      exact Nat.ne_of_lt (hlt a ha)
    · rcases Nat.lt_trichotomy j as.length with l | l | l
      · rw [List.getElem?_append_left l] at hj
        obtain ⟨y1, y2, p1, p2, e⟩ := hG.pair j b hj
        have hab := hG.above b (List.mem_of_getElem? hj)
        exact ⟨y1, y2, p1, p2, up b _ (ne b hab _ (by simp)) (hkp b _ (ne b hab _ (by simp)) (ne b hab _ (by simp)) (ne b hab _ (by simp)) (ne b hab _ (by simp)) e)⟩
      · subst l
        have hb : h.objs.size = b := by simpa using hj
        subst hb
        subst hal
        exact ⟨x1, x2, q1, q2, up _ _ (Nat.ne_of_gt hSl) ht⟩
      · have hnone : (as ++ [h.objs.size])[j]? = none := List.getElem?_eq_none (by rw [List.length_append, List.length_singleton]; omega)
        rw [hnone] at hj; cases hj
    · rw [hsu, hz']
      rcases List.mem_append.mp ha with ha | ha
      · exact Nat.lt_succ_of_lt (hlt a ha)
      · rw [List.mem_singleton.mp ha]; exact Nat.lt_succ_self _
end
end Gt
set_option Elab.async false
set_option linter.all false
set_option maxRecDepth 100000
set_option maxHeartbeats 4000000
namespace Gt
open PySem PySem.Spec L2
open PyProof.Rows (Call_ args_cons args_nil)
section
variable {prog : Program} {w : World} {A : Around} {E : Value → Shared → Prop} {s : Shared} {z TI TO i1 i2 : Addr} {fp1 fp2 : List Addr} {n : Nat}
  {P1 P2 : Nat → Value → Prop} {St1 St2 : Nat → Heap → Prop}
theorem zs_extend {R : Result → Shared → Prop} {S : Addr} (Z : ZipSep2 z TI TO i1 i2 fp1 fp2) (D1 : Draws prog w A.in1.in1 i1 fp1 n P1 St1) (D2 : Draws prog w A.in1.in1 i2 fp2 n P2 St2)
    (hz : S ≠ z) (hTI : S ≠ TI) (hTO : S ≠ TO) (h1 : S ∉ fp1) (h2 : S ∉ fp2) (hi1 : S ≠ i1) (hi2 : S ≠ i2) (lo : Addr) (hlo : ∀ c, c = z ∨ c = TO ∨ c = i1 ∨ c = i2 ∨ c = S → c ≤ lo) (hl0 : lo < s.heap.objs.size) (hn : n ≤ sizeLine) (res : Value) (c0 : Nat)
    (hst : ZipSt z TI TO i1 i2 S St1 St2 0 s.heap) (hf : ∃ f0, IsZip s.heap z TI TO f0) (hS : s.heap.get? S = some { cls := .type "list", data := .seq #[] c0 })
    (hR : ∀ h' tk acc c as, (∀ b o, b ≠ S → b ≠ z → b ≠ TO → b ≠ i1 → b ≠ i2 → s.heap.get? b = some o → h'.get? b = some o) → h'.get? S = some { cls := .type "list", dict := none, data := .seq acc c, slots := #[] } →
      as.length = n → Pairs P1 P2 lo h' as → acc.toList = as.map Value.ref → R (.ok (.ret res)) { s with heap := h', toks := tk }) :
    wpAny (model prog w) A.in1 (Builtin.List.listExtendWith (.ref S) (.ref z) res)
      (fun fin s' => match fin with | .done f => R (.ok f) s' | .again c' => c'.quiet = true ∧ codeAny (model prog w) A c' R s') (fun e s' => R (.error e) s') s := by
  obtain ⟨f0, hf⟩ := hf
  have hTy : s.TypeIs (.ref z) "zip" := ⟨_, hf, rfl⟩
  unfold Builtin.List.listExtendWith
  refine wpAny_bind (wpAny_typeOf hTy ?_)
  have e1 : Builtin.List.listSameRef (.ref S) (.ref z) = false := by simp [Builtin.List.listSameRef, hz]
  have e2 : (Value.type "zip" == Value.type "list") = false := by decide
  have e3 : (Value.type "zip" == Value.type "tuple") = false := by decide
  simp only [e1, e2, e3, Bool.or_false, Bool.false_eq_true, if_false]
  refine wpAny_bind (wpAny_pyIter_zip hf ?_)
  refine wpAny_bind (wpAny_holding ?_)
  unfold Builtin.List.listLengthHint
  refine wpAny_bind (wpAny_specialOf hTy nolen_zip ?_)
  show wpAny _ A.in1 (specialOf (Value.ref z) (Str.ofString "__length_hint__") >>= _) _ _ _
  refine wpAny_bind (wpAny_specialOf hTy nohint_zip ?_)
  refine wpAny_pure ?_
  refine wpAny_ite_split (fun _ => ?_) (fun h => absurd (by simp) h)
  refine wpAny_bind (wpAny_rule ?_)
  refine wpAny_bind ?_
  show wpAny _ _ (updateSeq S (·.push .none) >>= fun _ => updateSeq S (·.pop)) _ _ _
  refine wpAny_bind (wpAny_updateSeq hS rfl ?_)
  have hS2 := Heap.get?_update_self (Obj.mapSeq (·.push Value.none)) hS rfl
  refine wpAny_updateSeq (hz := by seq_fits) hS2 rfl ?_
  have hS3 := Heap.get?_update_self (Obj.mapSeq (·.pop)) hS2 rfl
  have oth : ∀ b o, b ≠ S → s.heap.get? b = some o → ((s.heap.update S (Obj.mapSeq (·.push Value.none))).update S (Obj.mapSeq (·.pop))).get? b = some o :=
    fun b o hb e => (Heap.get?_update_other _ _ (Ne.symm hb)).trans ((Heap.get?_update_other _ _ (Ne.symm hb)).trans e)
  have hsu : ((s.heap.update S (Obj.mapSeq (·.push Value.none))).update S (Obj.mapSeq (·.pop))).objs.size = s.heap.objs.size := by
    rw [(Heap.SameBut.update ..).1, (Heap.SameBut.update ..).1]
  refine wpAny_pure ⟨plainId_quiet F.plain_extend_loop _, zs_loop (g1 := s.heap) Z D1 D2 hz hTI hTO h1 h2 hi1 hi2 lo hlo hn res hR n 0 _ s.toks _ #[] [] rfl (Nat.zero_le _)
    (ZipSt.keep D1 D2 hz hTI hTO h1 h2 hst oth (by rw [hsu]; exact Nat.le_refl _)) (fun b o b1 _ _ _ _ e => oth b o b1 e) hS3 rfl rfl ⟨(fun _ h => nomatch h), List.nodup_nil, (fun j a h => by simp at h)⟩ (fun _ h => nomatch h) (by rw [hsu]; exact hl0)⟩
theorem zs_list {Q : Value → Shared → Prop} (Z : ZipSep2 z TI TO i1 i2 fp1 fp2) (D1 : Draws prog w A.in1.in1.in1 i1 fp1 n P1 St1) (D2 : Draws prog w A.in1.in1.in1 i2 fp2 n P2 St2)
    (hlt1 : ∀ b ∈ fp1, b < s.heap.objs.size) (hlt2 : ∀ b ∈ fp2, b < s.heap.objs.size) (hTIl : TI < s.heap.objs.size) (hn : n ≤ sizeLine)
    (hst : ∀ S, S = s.heap.objs.size → ZipSt z TI TO i1 i2 S St1 St2 0 s.heap) (hf : IsZip s.heap z TI TO .none)
    (hQ : ∀ h' tk acc c as, (∀ b o, b ≠ z → b ≠ TO → b ≠ i1 → b ≠ i2 → s.heap.get? b = some o → h'.get? b = some o) →
      h'.get? s.heap.objs.size = some { cls := .type "list", dict := none, data := .seq acc c, slots := #[] } →
      as.length = n → Pairs P1 P2 s.heap.objs.size h' as → acc.toList = as.map Value.ref → Q (.ref s.heap.objs.size) { s with heap := h', toks := tk }) :
    wpAny (model prog w) A (call (.type "list") [.ref z]) Q E s := by
  obtain ⟨a, b, c, l1, l2, l3, l4, d⟩ := hst _ rfl
  refine callType_codes (Q₁ := fun obj s1 => obj = .ref s.heap.objs.size ∧ s1 = { s with heap := s.heap.push { cls := .type "list", data := .seq #[] } }) F.called_list (F.typeCall_list_1 _) F.entry_list_init
    (code_list_new _ ⟨rfl, rfl⟩) fun obj s1 h1 => ?_
  obtain ⟨rfl, rfl⟩ := h1
  have hS : (s.heap.push { cls := .type "list", data := .seq #[] }).get? s.heap.objs.size = some { cls := .type "list", data := .seq #[] } := Heap.get?_push_size _ rfl
  refine ⟨⟨_, hS, rfl⟩, F.args_list_init_2 _ _, ?_⟩
  show wpAny _ _ (do let old ← Builtin.List.listItems (.ref s.heap.objs.size); Builtin.List.listUpdate (.ref s.heap.objs.size) (fun _ => #[]); letGo old.toList.reverse; Builtin.List.listExtendWith (.ref s.heap.objs.size) (.ref z) .none) _ _ _
  refine wpAny_bind ?_
  unfold Builtin.List.listItems
  refine wpAny_bind (wpAny_seqItems hS rfl (wpAny_pure ?_))
  show wpAny _ _ (updateSeq s.heap.objs.size (fun _ => #[]) >>= fun _ => letGo (#[] : Array Value).toList.reverse >>= fun _ => Builtin.List.listExtendWith (.ref s.heap.objs.size) (.ref z) .none) _ _ _
  refine wpAny_bind (wpAny_updateSeq hS rfl ?_)
  have hS2 := Heap.get?_update_self (Obj.mapSeq (fun _ => (#[] : Array Value))) hS rfl
  have oth : ∀ b o, b ≠ s.heap.objs.size → s.heap.get? b = some o → ((s.heap.push { cls := .type "list", data := .seq #[] }).update s.heap.objs.size (Obj.mapSeq (fun _ => (#[] : Array Value)))).get? b = some o :=
    fun b o hb e => (Heap.get?_update_other _ _ (Ne.symm hb)).trans (Heap.get?_push_of_some _ e)
  have hsu : ((s.heap.push { cls := .type "list", data := .seq #[] }).update s.heap.objs.size (Obj.mapSeq (fun _ => (#[] : Array Value)))).objs.size = s.heap.objs.size + 1 := by
    rw [(Heap.SameBut.update ..).1, Heap.size_push]
  refine wpAny_bind (wpAny_letGo ?_)
  refine zs_extend (A := A.in1) Z D1 D2 (ne_up l1) (ne_up hTIl) (ne_up l2) (fun h => Nat.lt_irrefl _ (hlt1 _ h)) (fun h => Nat.lt_irrefl _ (hlt2 _ h)) (ne_up l3) (ne_up l4) s.heap.objs.size (fun c hc => ?_) (by show s.heap.objs.size < Array.size _; rw [hsu]; exact Nat.lt_succ_self _) hn .none _
    (ZipSt.keep (S := s.heap.objs.size) D1 D2 (ne_up l1) (ne_up hTIl) (ne_up l2) (fun h => Nat.lt_irrefl _ (hlt1 _ h)) (fun h => Nat.lt_irrefl _ (hlt2 _ h)) (hst _ rfl) oth (by rw [hsu]; exact Nat.le_succ _)) ⟨.none, oth _ _ (Nat.ne_of_lt l1) hf⟩ hS2
    (fun h' tk acc c as hk hS' hl hG hacc => ?_)
  · rcases hc with rfl | rfl | rfl | rfl | rfl
    · exact Nat.le_of_lt l1
    · exact Nat.le_of_lt l2
    · exact Nat.le_of_lt l3
    · exact Nat.le_of_lt l4
    · exact Nat.le_refl _
  · exact ⟨rfl, hQ h' tk acc c as (fun b o b1 b2 b3 b4 e => hk b o (Nat.ne_of_lt (Heap.lt_size e)) b1 b2 b3 b4 (oth b o (Nat.ne_of_lt (Heap.lt_size e)) e)) hS' hl hG hacc⟩
end
end Gt
set_option Elab.async false
set_option linter.all false
set_option maxRecDepth 100000
set_option maxHeartbeats 4000000
namespace Gt
open PySem PySem.Spec L2
open PyProof.Rows (Call_ args_cons args_nil)
/-- many new objects at once -/
def mix (N H : Hp) : Hp := fun b => match N b with | some o => some o | none => H b
theorem mix_new {N H : Hp} {b : Addr} {o : HO} (h : N b = some o) : mix N H b = some o := by unfold mix; rw [h]
theorem mix_old {N H : Hp} {b : Addr} (h : N b = none) : mix N H b = H b := by unfold mix; rw [h]
section
variable {X : Cx} {pins : List (Addr × Obj)} {σ : St} {N H : Hp} {s : Shared} {h' : Heap}
theorem laids {t' : Nat} (I : Inv X pins σ H s) (k : ∀ b u, s.heap.get? b = some u → h'.get? b = some u) (hp : ∀ b o, N b = some o → s.heap.objs.size ≤ b)
    (new : ∀ b o, N b = some o → ObjOk X.prog X.w (mix N H) h' b o) : Inv X pins σ (mix N H) { s with heap := h', toks := t' } := by
  have old : ∀ b, b < s.heap.objs.size → N b = none := fun b hb => by
    cases q : N b with
    | none => rfl
    | some o => exact absurd (hp b o q) (Nat.not_le_of_lt hb)
  refine I.un ⟨fun b o e _ _ _ => k b o e, fun b o e _ _ _ => ⟨o.slots, k b o e⟩, fun b o e n _ => by rw [mix_old (old b (Heap.lt_size e))]; exact n, fun b o e _ => ⟨o, k b o e⟩,
    fun b xs e => by rw [mix_old (old b (I.hok.lt e))]; exact e, fun b o u e => by rw [mix_old (old b (I.hok.lt e))]; exact e, fun b ps e => ⟨#[], by rw [mix_old (old b (I.hok.lt e)), e]; simp⟩⟩ ?_
  intro b o e
  cases q : N b with
  | some u =>
    rw [mix_new q] at e
    cases e
    exact new b _ q
  | none =>
    rw [mix_old q] at e
    exact (I.hok b o e).stay (fun c u _ z => k c u z) (fun c z => by rw [mix_old (old c (I.hok.lt z))]; exact z) fun c xs z => by rw [mix_old (old c (I.hok.lt z))]; exact z
end
/-- list(zip(a, b)): a list, a list or a tuple, of one length -/
def tLstZip (K : PySem.W.Frag) (t : TA) : TE := fun σ H Q => t σ H fun vs H1 => ∃ a b xs ys, vs = [.ref a, .ref b] ∧ SqL K H1 a xs ∧ (SqL K H1 b ys ∨ SqT K H1 b ys) ∧ xs.length = ys.length ∧
  ∀ (q : Addr) (ps : List Addr) (H' : Hp), H1 q = none → Same H1 H' → H' q = some (.lst (ps.map V.ref)) → ps.length = xs.length →
    (∀ (j : Nat) (p : Addr) (x y : V), ps[j]? = some p → xs[j]? = some x → ys[j]? = some y → H' p = some (.tup [x, y])) → Q (.ref q) H'
theorem vals_refs : ∀ as : List Addr, Vals (as.map V.ref) (as.map Value.ref)
  | [] => .nil
  | _ :: r => .cons rfl (vals_refs r)
/-- the new objects: the list at q, the pairs at ps -/
def zipN (q : Addr) (ps : List Addr) (xs ys : List V) : Hp := fun b => if b = q then some (.lst (ps.map V.ref)) else
  match ps.findIdx? (· == b) with | some j => (match xs[j]?, ys[j]? with | some x, some y => some (.tup [x, y]) | _, _ => none) | none => none
theorem findIdx_nd : ∀ {ps : List Addr} {j : Nat} {p : Addr}, ps.Nodup → ps[j]? = some p → ps.findIdx? (· == p) = some j
  | [], j, p, _, h => by simp at h
  | a :: r, 0, p, _, h => by
    have e : a = p := by simpa using h
    subst e
    simp [List.findIdx?_cons]
  | a :: r, j + 1, p, nd, h => by
    obtain ⟨h1, h2⟩ := List.nodup_cons.mp nd
    have h' : r[j]? = some p := by simpa using h
    have ne : ¬ (a == p) = true := fun e => h1 (by rw [eq_of_beq e]; exact List.mem_of_getElem? h')
    rw [List.findIdx?_cons, if_neg ne, findIdx_nd h2 h']
    rfl
theorem zipN_at {q : Addr} {ps : List Addr} {xs ys : List V} (nd : ps.Nodup) (hq : q ∉ ps) {j : Nat} {p : Addr} {x y : V} (h : ps[j]? = some p) (hx : xs[j]? = some x) (hy : ys[j]? = some y) : zipN q ps xs ys p = some (.tup [x, y]) := by
  unfold zipN
  have hne : ¬ p = q := fun e => hq (by rw [← e]; exact List.mem_of_getElem? h)
  rw [if_neg hne, findIdx_nd nd h]
  simp only [hx, hy]
theorem zipN_of {q : Addr} {ps : List Addr} {xs ys : List V} {b : Addr} {o : HO} (h : zipN q ps xs ys b = some o) :
    (b = q ∧ o = .lst (ps.map V.ref)) ∨ ∃ (j : Nat) (x y : V), ps[j]? = some b ∧ xs[j]? = some x ∧ ys[j]? = some y ∧ o = .tup [x, y] := by
  unfold zipN at h
  split at h
  · exact .inl ⟨by assumption, (Option.some.inj h).symm⟩
  · split at h
    · rename_i j hj
      split at h
      · rename_i x y hx hy
        obtain ⟨hl, he, _⟩ := List.findIdx?_eq_some_iff_getElem.mp hj
        exact .inr ⟨j, x, y, by rw [List.getElem?_eq_getElem hl]; exact congrArg some (eq_of_beq he), hx, hy, (Option.some.inj h).symm⟩
      · cases h
    · cases h
section
variable {X : Cx}
theorem pe_lstZip {e e2 : Expr} {ta : TA} {p p2 pos pos2 : Pos} (hc : X.calm = true) (hg : Gl X "list") (hm : X.mg "list" = none) (hg2 : Gl X "zip") (hm2 : X.mg "zip" = none) (ha : PA X [e, e2] ta)
    (hs : starEach [e, e2] X.env = (false, eval e X.env) :: starEach [e2] X.env := by rfl) (hpl : (backTo pos2 (starEach [e2] X.env)).any (·.1) = false := by rfl)
    (hs2 : starEach [.Call (.Name "zip" p2) [e, e2] [] pos2] X.env = (false, eval (.Call (.Name "zip" p2) [e, e2] [] pos2) X.env) :: starEach [] X.env := by rfl) :
    PE X (.Call (.Name "list" p) [.Call (.Name "zip" p2) [e, e2] [] pos2] [] pos) (tLstZip X.K ta) := by
  refine ⟨fun pins s σ H Q I h => ?_⟩
  refine Call_ (ld_blt I hg hm PyProof.Rows.boot_list (PyProof.Rows.callWith_type1 (args_cons (Call_ (ld_blt I hg2 hm2 PyProof.Rows.boot_zip (PyProof.Rows.callWith_type1 (thn (ha.run pos2 pins s σ H _ I h)
    fun us s1 ⟨vs, H1, I1, r1, q1⟩ => ?_) hs hpl))) hs2) hs2 rfl))
  obtain ⟨a, b, xs, ys, ex, hqx, hqy, hlen, q⟩ := q1
  subst ex
  obtain ⟨u1, u2, rfl, r, r'⟩ := r1.two
  obtain rfl : u1 = Value.ref a := r
  obtain rfl : u2 = Value.ref b := r'
  have hh := I1.ok.hd hc
  obtain ⟨its, rv, p1, hz⟩ := I1.list hqx
  have hn : its.length ≤ sizeLine := by rw [← rv.length]; exact hz
  have la : a < s1.heap.objs.size := p1.lt
  -- the second: its iterator's object, what it draws
  have sec : ∃ (o2 : Obj) (B : Heap → Prop) (its2 : List Value) (St2 : Nat → Heap → Prop), Vals ys its2 ∧ b < s1.heap.objs.size ∧ Begins (.ref b) o2 B ∧ B s1.heap ∧
      Draws X.prog X.w X.A.in1.in1.in1 (s1.heap.objs.size + 1) [s1.heap.objs.size + 1, b] its2.length (fun i v => its2[i]? = some v) St2 ∧
      ∀ h' : Heap, h'.get? (s1.heap.objs.size + 1) = some o2 → (∀ c o, s1.heap.get? c = some o → h'.get? c = some o) → St2 0 h' := by
    rcases hqy with hqy | hqy
    · obtain ⟨its2, rv2, p2, _⟩ := I1.list hqy
      have lb : b < s1.heap.objs.size := p2.lt
      refine ⟨_, _, its2, fun i h => h.IsListIter (s1.heap.objs.size + 1) b i ∧ h.IsList b its2.toArray, rv2, lb, begins_list b its2.toArray, p2.isList, ?_, fun h' e1 e2 => ?_⟩
      · have D := Draws.list (prog := X.prog) (w := X.w) (A := X.A.in1.in1.in1) hh (s1.heap.objs.size + 1) b (Nat.ne_of_lt (Nat.lt_succ_of_lt lb)) its2.toArray
        simp only [List.size_toArray, List.getElem?_toArray] at D
        exact D
      · exact ⟨⟨_, e1, rfl, rfl⟩, p2.isList.at fun o e => e2 _ o e⟩
    · obtain ⟨its2, rv2, p2, _⟩ := I1.tuple hqy
      have lb : b < s1.heap.objs.size := let ⟨_, e, _⟩ := p2; Heap.lt_size e
      have p2' : s1.heap.IsTuple b its2.toArray := p2
      refine ⟨_, _, its2, fun i h => h.IsTupleIter (s1.heap.objs.size + 1) b i ∧ h.IsTuple b its2.toArray, rv2, lb, begins_tuple b its2.toArray, p2', ?_, fun h' e1 e2 => ?_⟩
      · have D := Draws.tuple (prog := X.prog) (w := X.w) (A := X.A.in1.in1.in1) hh (s1.heap.objs.size + 1) b (Nat.ne_of_lt (Nat.lt_succ_of_lt lb)) its2.toArray
        simp only [List.size_toArray, List.getElem?_toArray] at D
        exact D
      · exact ⟨⟨_, e1, rfl, rfl⟩, p2'.at fun o e => e2 _ o e⟩
  obtain ⟨o2, B, its2, St2, rv2, lb, Bg, hB, D2, hst2⟩ := sec
  have D1 := Draws.list (prog := X.prog) (w := X.w) (A := X.A.in1.in1.in1) hh s1.heap.objs.size a (Nat.ne_of_lt la) its.toArray
  simp only [List.size_toArray, List.getElem?_toArray] at D1
  have el : its2.length = its.length := by rw [← rv.length, ← rv2.length, hlen]
  rw [el] at D2
  refine zip_begins2 (begins_list a its.toArray) Bg p1.isList hB fun h1 z1 t1 t2 g1 g2 sz hk => args_nil ?_
  have Z : ZipSep2 (s1.heap.objs.size + 4) (s1.heap.objs.size + 2) (s1.heap.objs.size + 3) s1.heap.objs.size (s1.heap.objs.size + 1) [s1.heap.objs.size, a] [s1.heap.objs.size + 1, b] :=
    zip_sep2 (N := s1.heap.objs.size) (fp1 := [a]) (fp2 := [b]) (fun c hc => by rw [List.mem_singleton.mp hc]; exact la) (fun c hc => by rw [List.mem_singleton.mp hc]; exact lb)
  have up : ∀ j : Nat, j < 5 → s1.heap.objs.size + j < h1.objs.size := fun j hj => by rw [sz]; exact Nat.add_lt_add_left hj _
  refine zs_list (s := { s1 with heap := h1 }) Z D1 D2 (fun c hc => ?_) (fun c hc => ?_) (up 2 (by omega)) hn (fun S _ => ⟨t1, ⟨⟨_, g1, rfl, rfl⟩, p1.isList.at fun o e => hk _ o e⟩, hst2 h1 g2 hk, up 4 (by omega), up 3 (by omega), up 0 (by omega), up 1 (by omega), .inl ⟨z1, _, _, t2⟩⟩) z1
    fun h' tk acc c as hk' hS hl hG hacc => ?_
  · simp only [List.mem_cons, List.not_mem_nil, or_false] at hc
    rcases hc with rfl | rfl
    · exact up 0 (by omega)
    · exact Nat.lt_trans la (up 0 (by omega))
  · simp only [List.mem_cons, List.not_mem_nil, or_false] at hc
    rcases hc with rfl | rfl
    · exact up 1 (by omega)
    · exact Nat.lt_trans lb (up 0 (by omega))
  · dsimp only at hk' hS hG ⊢
    have big : ∀ j : Nat, j < 5 → ∀ c o, s1.heap.get? c = some o → c ≠ s1.heap.objs.size + j := fun j _ c o e => Nat.ne_of_lt (Nat.lt_of_lt_of_le (Heap.lt_size e) (Nat.le_add_right _ _))
    have keep : ∀ c o, s1.heap.get? c = some o → h'.get? c = some o := fun c o e => hk' c o (big 4 (by omega) c o e) (big 3 (by omega) c o e) (big 0 (by omega) c o e) (big 1 (by omega) c o e) (hk c o e)
    have hle : s1.heap.objs.size ≤ h1.objs.size := by rw [sz]; exact Nat.le_add_right _ _
    have hqps : h1.objs.size ∉ as := fun hm => Nat.lt_irrefl _ (hG.above _ hm)
    have hN : ∀ b' o, zipN h1.objs.size as xs ys b' = some o → s1.heap.objs.size ≤ b' := fun b' o e => by
      rcases zipN_of e with ⟨e, _⟩ | ⟨j, x, y, e, _⟩
      · rw [e]; exact hle
      · exact Nat.le_trans hle (Nat.le_of_lt (hG.above _ (List.mem_of_getElem? e)))
    have hNq : zipN h1.objs.size as xs ys h1.objs.size = some (.lst (as.map V.ref)) := by unfold zipN; rw [if_pos rfl]
    have hlx : as.length = xs.length := by rw [hl, rv.length]
    have I2 := laids (N := zipN h1.objs.size as xs ys) (t' := tk) I1 keep hN fun b' o e => by
      rcases zipN_of e with ⟨e1, e2⟩ | ⟨j, x, y, e1, e2, e3, e4⟩
      · subst e1 e2
        refine ⟨by rw [List.length_map, hl]; exact hn, acc.toList, c, ?_, by rw [Array.toArray_toList]; exact hS⟩
        rw [hacc]
        exact vals_refs as
      · subst e4
        obtain ⟨x1, x2, q1, q2, q3⟩ := hG.pair j b' e1
        obtain ⟨v1, w1, s1'⟩ := rv.get e2
        obtain ⟨v2, w2, s2'⟩ := rv2.get e3
        rw [q1] at w1
        rw [q2] at w2
        cases w1
        cases w2
        exact ⟨by show 2 ≤ sizeLine; decide, [x1, x2], .cons s1' (.cons s2' .nil), _, q3, rfl, _, rfl⟩
    refine ⟨.ref h1.objs.size, _, I2, rfl, q h1.objs.size as _ (I1.hok.fresh hle) (fun b' o e => ?_) (mix_new hNq) hlx fun j p x y e1 e2 e3 => mix_new (zipN_at hG.nd hqps e1 e2 e3)⟩
    have hno : zipN h1.objs.size as xs ys b' = none := by
      cases q' : zipN h1.objs.size as xs ys b' with
      | none => rfl
      | some u => exact absurd (hN b' u q') (Nat.not_le_of_lt (I1.hok.lt e))
    rw [mix_old hno]
    exact e
end
end Gt
set_option Elab.async false
set_option linter.all false
/-! Terms, valuations, the names that are marked. -/
namespace Gt
open PySem
inductive Tm where
  | num (n : Int)
  | any (x : Str)
  | app (s : Str) (ks : List Tm)
/-! ### equality is decided -/
mutual
def Tm.beq : Tm → Tm → Bool
  | .num a, .num b => a == b
  | .any a, .any b => a == b
  | .app a ks, .app b ls => a == b && Tm.beqL ks ls
  | .num _, .any _ => false
  | .num _, .app _ _ => false
  | .any _, .num _ => false
  | .any _, .app _ _ => false
  | .app _ _, .num _ => false
  | .app _ _, .any _ => false
def Tm.beqL : List Tm → List Tm → Bool
  | [], [] => true
  | a :: r, b :: t => Tm.beq a b && Tm.beqL r t
  | [], _ :: _ => false
  | _ :: _, [] => false
end
mutual
theorem Tm.beq_iff : ∀ a b : Tm, Tm.beq a b = true ↔ a = b
  | .num a, .num b => by simp [Tm.beq]
  | .any a, .any b => by simp [Tm.beq]
  | .app a ks, .app b ls => by
    have h := Tm.beqL_iff ks ls
    simp [Tm.beq, h]
  | .num _, .any _ => by simp [Tm.beq]
  | .num _, .app _ _ => by simp [Tm.beq]
  | .any _, .num _ => by simp [Tm.beq]
  | .any _, .app _ _ => by simp [Tm.beq]
  | .app _ _, .num _ => by simp [Tm.beq]
  | .app _ _, .any _ => by simp [Tm.beq]
theorem Tm.beqL_iff : ∀ a b : List Tm, Tm.beqL a b = true ↔ a = b
  | [], [] => by simp [Tm.beqL]
  | a :: r, b :: t => by
    have h1 := Tm.beq_iff a b
    have h2 := Tm.beqL_iff r t
    simp [Tm.beqL, h1, h2]
  | [], _ :: _ => by simp [Tm.beqL]
  | _ :: _, [] => by simp [Tm.beqL]
end
instance : DecidableEq Tm := fun a b => decidable_of_iff _ (Tm.beq_iff a b)
/-! ### size, depth, the unknowns -/
mutual
def Tm.size : Tm → Nat
  | .num _ => 1
  | .any _ => 1
  | .app _ ks => 1 + Tm.sizeL ks
def Tm.sizeL : List Tm → Nat
  | [] => 0
  | t :: r => t.size + Tm.sizeL r
end
mutual
def Tm.dep : Tm → Nat
  | .num _ => 1
  | .any _ => 1
  | .app _ ks => 1 + Tm.depL ks
def Tm.depL : List Tm → Nat
  | [] => 0
  | t :: r => max t.dep (Tm.depL r)
end
mutual
def Tm.vars : Tm → List Str
  | .num _ => []
  | .any x => [x]
  | .app _ ks => Tm.varsL ks
def Tm.varsL : List Tm → List Str
  | [] => []
  | t :: r => t.vars ++ Tm.varsL r
end
/-! a valuation put in -/
mutual
def ap (v : Str → Tm) : Tm → Tm
  | .num n => .num n
  | .any x => v x
  | .app s ks => .app s (apL v ks)
def apL (v : Str → Tm) : List Tm → List Tm
  | [] => []
  | t :: r => ap v t :: apL v r
end
theorem apL_map (v : Str → Tm) : ∀ ks : List Tm, apL v ks = ks.map (ap v)
  | [] => rfl
  | t :: r => by rw [apL, apL_map v r, List.map_cons]
theorem apL_length (v : Str → Tm) (ks : List Tm) : (apL v ks).length = ks.length := by rw [apL_map, List.length_map]
theorem varsL_mem {x : Str} : ∀ {ks : List Tm}, x ∈ Tm.varsL ks ↔ ∃ k ∈ ks, x ∈ k.vars
  | [] => by simp [Tm.varsL]
  | t :: r => by
    have h := varsL_mem (x := x) (ks := r)
    simp [Tm.varsL, h]
theorem varsL_append (a b : List Tm) : Tm.varsL (a ++ b) = Tm.varsL a ++ Tm.varsL b := by
  induction a with
  | nil => rfl
  | cons t r ih => rw [List.cons_append, Tm.varsL, Tm.varsL, ih, List.append_assoc]
theorem sizeL_append (a b : List Tm) : Tm.sizeL (a ++ b) = Tm.sizeL a + Tm.sizeL b := by
  induction a with
  | nil => rw [List.nil_append, Tm.sizeL, Nat.zero_add]
  | cons t r ih => rw [List.cons_append, Tm.sizeL, Tm.sizeL, ih, Nat.add_assoc]
theorem depL_le {n : Nat} : ∀ {ks : List Tm}, Tm.depL ks ≤ n ↔ ∀ k ∈ ks, k.dep ≤ n
  | [] => by simp [Tm.depL]
  | t :: r => by
    have h := depL_le (n := n) (ks := r)
    simp [Tm.depL, Nat.max_le, h]
theorem size_pos : ∀ t : Tm, 1 ≤ t.size
  | .num _ => Nat.le_refl _
  | .any _ => Nat.le_refl _
  | .app _ ks => by rw [Tm.size]; exact Nat.le_add_right _ _
theorem dep_pos : ∀ t : Tm, 1 ≤ t.dep
  | .num _ => Nat.le_refl _
  | .any _ => Nat.le_refl _
  | .app _ ks => by rw [Tm.dep]; exact Nat.le_add_right _ _
mutual
theorem dep_le_size : ∀ t : Tm, t.dep ≤ t.size
  | .num _ => Nat.le_refl _
  | .any _ => Nat.le_refl _
  | .app _ ks => by rw [Tm.dep, Tm.size]; exact Nat.add_le_add_left (depL_le_size ks) 1
theorem depL_le_size : ∀ ks : List Tm, Tm.depL ks ≤ Tm.sizeL ks
  | [] => Nat.le_refl _
  | t :: r => by
    rw [Tm.depL, Tm.sizeL]
    have h1 := dep_le_size t
    have h2 := depL_le_size r
    omega
end
mutual
theorem ap_congr {v w : Str → Tm} : ∀ t : Tm, (∀ x ∈ t.vars, v x = w x) → ap v t = ap w t
  | .num _, _ => rfl
  | .any x, h => h x (by simp [Tm.vars])
  | .app s ks, h => by rw [ap, ap, apL_congr ks h]
theorem apL_congr {v w : Str → Tm} : ∀ ks : List Tm, (∀ x ∈ Tm.varsL ks, v x = w x) → apL v ks = apL w ks
  | [], _ => rfl
  | t :: r, h => by
    rw [apL, apL, ap_congr t fun x hx => h x (by rw [Tm.varsL]; exact List.mem_append_left _ hx), apL_congr r fun x hx => h x (by rw [Tm.varsL]; exact List.mem_append_right _ hx)]
end
/-! the converse: where a term reads the same, its unknowns do -/
mutual
theorem ap_inj {v w : Str → Tm} : ∀ t : Tm, ap v t = ap w t → ∀ x ∈ t.vars, v x = w x
  | .num _, _, x, hx => by simp [Tm.vars] at hx
  | .any y, h, x, hx => by
    simp only [Tm.vars, List.mem_singleton] at hx
    rw [hx]
    exact h
  | .app s ks, h, x, hx => by
    rw [ap, ap] at h
    injection h with _ h
    exact apL_inj ks h x hx
theorem apL_inj {v w : Str → Tm} : ∀ ks : List Tm, apL v ks = apL w ks → ∀ x ∈ Tm.varsL ks, v x = w x
  | [], _, x, hx => by simp [Tm.varsL] at hx
  | t :: r, h, x, hx => by
    rw [apL, apL] at h
    injection h with h1 h2
    rw [Tm.varsL] at hx
    rcases List.mem_append.mp hx with hx | hx
    · exact ap_inj t h1 x hx
    · exact apL_inj r h2 x hx
end
mutual
theorem ap_ap (v w : Str → Tm) : ∀ t : Tm, ap v (ap w t) = ap (fun x => ap v (w x)) t
  | .num _ => rfl
  | .any x => by rw [ap, ap]
  | .app s ks => by rw [ap, ap, ap, apL_apL v w ks]
theorem apL_apL (v w : Str → Tm) : ∀ ks : List Tm, apL v (apL w ks) = apL (fun x => ap v (w x)) ks
  | [] => rfl
  | t :: r => by rw [apL, apL, apL, ap_ap v w t, apL_apL v w r]
end
mutual
theorem ap_any : ∀ t : Tm, ap .any t = t
  | .num _ => rfl
  | .any x => rfl
  | .app s ks => by rw [ap, apL_any ks]
theorem apL_any : ∀ ks : List Tm, apL .any ks = ks
  | [] => rfl
  | t :: r => by rw [apL, ap_any t, apL_any r]
end
mutual
theorem ap_vars (v : Str → Tm) (y : Str) : ∀ t : Tm, y ∈ (ap v t).vars ↔ ∃ x ∈ t.vars, y ∈ (v x).vars
  | .num _ => by simp [ap, Tm.vars]
  | .any x => by simp [ap, Tm.vars]
  | .app s ks => by rw [ap, Tm.vars, Tm.vars]; exact apL_vars v y ks
theorem apL_vars (v : Str → Tm) (y : Str) : ∀ ks : List Tm, y ∈ Tm.varsL (apL v ks) ↔ ∃ x ∈ Tm.varsL ks, y ∈ (v x).vars
  | [] => by simp [apL, Tm.varsL]
  | t :: r => by
    rw [apL, Tm.varsL, Tm.varsL, List.mem_append, ap_vars v y t, apL_vars v y r]
    constructor
    · rintro (⟨x, h, k⟩ | ⟨x, h, k⟩)
      · exact ⟨x, List.mem_append_left _ h, k⟩
      · exact ⟨x, List.mem_append_right _ h, k⟩
    · rintro ⟨x, h, k⟩
      rcases List.mem_append.mp h with h | h
      · exact .inl ⟨x, h, k⟩
      · exact .inr ⟨x, h, k⟩
end
/-! a term in which x stands reads at least as large as x -/
mutual
theorem size_var (v : Str → Tm) : ∀ (t : Tm) (x : Str), x ∈ t.vars → (v x).size ≤ (ap v t).size
  | .num _, x, h => by simp [Tm.vars] at h
  | .any y, x, h => by
    simp only [Tm.vars, List.mem_singleton] at h
    rw [h, ap]
    exact Nat.le_refl _
  | .app s ks, x, h => by
    rw [ap, Tm.size]
    have := sizeL_var v ks x h
    omega
theorem sizeL_var (v : Str → Tm) : ∀ (ks : List Tm) (x : Str), x ∈ Tm.varsL ks → (v x).size ≤ Tm.sizeL (apL v ks)
  | [], x, h => by simp [Tm.varsL] at h
  | t :: r, x, h => by
    rw [Tm.varsL] at h
    rw [apL, Tm.sizeL]
    rcases List.mem_append.mp h with h | h
    · have := size_var v t x h; omega
    · have := sizeL_var v r x h; omega
end
theorem size_app_var (v : Str → Tm) {s : Str} {ks : List Tm} {x : Str} (h : x ∈ (Tm.app s ks).vars) : (v x).size < (ap v (.app s ks)).size := by
  rw [ap, Tm.size]
  have := sizeL_var v ks x h
  omega
mutual
theorem dep_ap {v : Str → Tm} {M : Nat} (hM : 1 ≤ M) : ∀ t : Tm, (∀ x ∈ t.vars, (v x).dep ≤ M) → (ap v t).dep + 1 ≤ t.dep + M
  | .num _, _ => by simp only [ap, Tm.dep]; omega
  | .any x, h => by
    have := h x (by simp [Tm.vars])
    simp only [ap, Tm.dep]
    omega
  | .app s ks, h => by
    have := depL_ap hM ks h
    simp only [ap, Tm.dep]
    omega
theorem depL_ap {v : Str → Tm} {M : Nat} (hM : 1 ≤ M) : ∀ ks : List Tm, (∀ x ∈ Tm.varsL ks, (v x).dep ≤ M) → Tm.depL (apL v ks) + 1 ≤ Tm.depL ks + M
  | [], _ => by simp only [apL, Tm.depL]; omega
  | t :: r, h => by
    have h1 := dep_ap hM t fun x hx => h x (by rw [Tm.varsL]; exact List.mem_append_left _ hx)
    have h2 := depL_ap hM r fun x hx => h x (by rw [Tm.varsL]; exact List.mem_append_right _ hx)
    simp only [apL, Tm.depL]
    omega
end
end Gt
set_option Elab.async false
set_option linter.all false
/-! Puttings-in: acyclic ones, how a term reads by them, a new one put in. -/
namespace Gt
open PySem
abbrev Pf := Str → Option Tm
def Topo (f : Pf) : List Str → Prop
  | [] => True
  | x :: L => x ∉ L ∧ (∃ t, f x = some t ∧ ∀ y ∈ t.vars, y ∈ L ∨ f y = none) ∧ Topo f L
structure Acy (f : Pf) (L : List Str) : Prop where
  topo : Topo f L
  dom : ∀ x, f x ≠ none → x ∈ L
def Fix (f : Pf) (r : Str → Tm) : Prop := ∀ x, r x = match f x with | none => .any x | some t => ap r t
def rv (f : Pf) : Nat → Str → Tm
  | 0, x => .any x
  | n + 1, x => match f x with | none => .any x | some t => ap (rv f n) t
theorem Fix.none {f : Pf} {r : Str → Tm} (h : Fix f r) {x : Str} (e : f x = none) : r x = .any x := by rw [h x, e]
theorem Fix.some {f : Pf} {r : Str → Tm} (h : Fix f r) {x : Str} {t : Tm} (e : f x = some t) : r x = ap r t := by rw [h x, e]
theorem Topo.nodup {f : Pf} : ∀ {L : List Str}, Topo f L → L.Nodup
  | [], _ => List.nodup_nil
  | _ :: _, ⟨h1, _, h3⟩ => List.nodup_cons.mpr ⟨h1, h3.nodup⟩
theorem Topo.bound {f : Pf} : ∀ {L : List Str}, Topo f L → ∀ x ∈ L, f x ≠ none
  | [], _, _, h => nomatch h
  | y :: L, ⟨_, ⟨t, e, _⟩, h3⟩, x, h => by
    rcases List.mem_cons.mp h with rfl | h
    · rw [e]; exact fun q => nomatch q
    · exact h3.bound x h
theorem Acy.mem {f : Pf} {L : List Str} (A : Acy f L) (x : Str) : x ∈ L ∨ f x = none := by
  cases h : f x with
  | none => exact .inr rfl
  | some t => exact .inl (A.dom x (by rw [h]; exact fun q => nomatch q))
/-- an induction along the order: what holds of all unknowns that stand for nothing, and of each that stands for a term of such, holds of all -/
theorem topo_ind {f : Pf} {p : Str → Prop} (h0 : ∀ x, f x = none → p x) (h1 : ∀ x t, f x = some t → (∀ y ∈ t.vars, p y) → p x) : ∀ {L : List Str}, Topo f L → ∀ x ∈ L, p x
  | [], _, _, h => nomatch h
  | y :: L, ⟨_, ⟨t, e, q⟩, h3⟩, x, h => by
    rcases List.mem_cons.mp h with rfl | h
    · exact h1 x t e fun z hz => (q z hz).elim (topo_ind h0 h1 h3 z) (h0 z)
    · exact topo_ind h0 h1 h3 x h
theorem Acy.ind {f : Pf} {L : List Str} (A : Acy f L) {p : Str → Prop} (h0 : ∀ x, f x = none → p x) (h1 : ∀ x t, f x = some t → (∀ y ∈ t.vars, p y) → p x) (x : Str) : p x :=
  (A.mem x).elim (topo_ind h0 h1 A.topo x) (h0 x)
theorem rv_stable {f : Pf} : ∀ {L : List Str}, Topo f L → ∀ n, L.length ≤ n → ∀ y, (y ∈ L ∨ f y = none) → rv f (n + 1) y = rv f n y := by
  have unb : ∀ n y, f y = none → rv f n y = .any y := fun n y h => by
    cases n with
    | zero => rfl
    | succ n => rw [rv, h]
  intro L
  induction L with
  | nil =>
    intro _ n _ y h
    rcases h with h | h
    · exact nomatch h
    · rw [unb _ y h, unb _ y h]
  | cons x L ih =>
    intro T n hn y h
    obtain ⟨_, ⟨t, e, q⟩, h3⟩ := T
    rw [List.length_cons] at hn
    rcases h with h | h
    · rcases List.mem_cons.mp h with rfl | h
      · obtain ⟨m, rfl⟩ : ∃ m, n = m + 1 := ⟨n - 1, by omega⟩
        rw [rv, rv, e]
        exact ap_congr t fun z hz => ih h3 m (by omega) z (q z hz)
      · exact ih h3 n (by omega) y (.inl h)
    · rw [unb _ y h, unb _ y h]
theorem Acy.fix {f : Pf} {L : List Str} (A : Acy f L) {n : Nat} (hn : L.length ≤ n) : Fix f (rv f n) := fun x => by
  rw [← rv_stable A.topo n hn x (A.mem x), rv]
theorem Acy.fix_eq {f : Pf} {L : List Str} (A : Acy f L) {r w : Str → Tm} (hr : Fix f r) (hw : Fix f w) (x : Str) : r x = w x :=
  A.ind (p := fun x => r x = w x) (fun x h => by rw [hr.none h, hw.none h]) (fun x t h q => by rw [hr.some h, hw.some h]; exact ap_congr t q) x
/-! ### what agrees with the puttings-in -/
def Sol (f : Pf) (v : Str → Tm) : Prop := ∀ x t, f x = some t → v x = ap v t
theorem Fix.sol {f : Pf} {r : Str → Tm} (h : Fix f r) : Sol f r := fun _ _ e => h.some e
theorem Acy.sol_var {f : Pf} {L : List Str} (A : Acy f L) {r v : Str → Tm} (hr : Fix f r) (hv : Sol f v) (x : Str) : ap v (r x) = v x :=
  A.ind (p := fun x => ap v (r x) = v x) (fun x h => by rw [hr.none h, ap]) (fun x t h q => by rw [hr.some h, hv x t h, ap_ap]; exact ap_congr t q) x
theorem Acy.sol_read {f : Pf} {L : List Str} (A : Acy f L) {r v : Str → Tm} (hr : Fix f r) (hv : Sol f v) (t : Tm) : ap v (ap r t) = ap v t := by
  rw [ap_ap]
  exact ap_congr t fun x _ => A.sol_var hr hv x
theorem Acy.read_read {f : Pf} {L : List Str} (A : Acy f L) {r : Str → Tm} (hr : Fix f r) (t : Tm) : ap r (ap r t) = ap r t := A.sol_read hr hr.sol t
/-- the unknowns of what is read stand for nothing -/
theorem Acy.read_free {f : Pf} {L : List Str} (A : Acy f L) {r : Str → Tm} (hr : Fix f r) (x : Str) : ∀ y ∈ (r x).vars, f y = none :=
  A.ind (p := fun x => ∀ y ∈ (r x).vars, f y = none) (fun x h y hy => by
    rw [hr.none h, Tm.vars, List.mem_singleton] at hy
    rw [hy]
    exact h) (fun x t h q y hy => by
    rw [hr.some h] at hy
    obtain ⟨z, hz, hy⟩ := (ap_vars r y t).mp hy
    exact q z hz y hy) x
/-! ### the depth of what is read -/
theorem topo_dep {f : Pf} {r : Str → Tm} (hr : Fix f r) {D : Nat} (hD : ∀ x t, f x = some t → t.dep ≤ D + 1) : ∀ {L : List Str}, Topo f L → ∀ x, (x ∈ L ∨ f x = none) → (r x).dep ≤ 1 + L.length * D
  | [], _, x, h => by
    rcases h with h | h
    · exact nomatch h
    · rw [hr.none h, Tm.dep]; exact Nat.le_add_right _ _
  | y :: L, ⟨_, ⟨t, e, q⟩, h3⟩, x, h => by
    rw [List.length_cons, Nat.succ_mul]
    have rest : (x ∈ L ∨ f x = none) → (r x).dep ≤ 1 + (L.length * D + D) := fun h => by
      have := topo_dep hr hD h3 x h
      omega
    rcases h with h | h
    · rcases List.mem_cons.mp h with rfl | h
      · rw [hr.some e]
        have h1 := dep_ap (v := r) (M := 1 + L.length * D) (by omega) t fun z hz => topo_dep hr hD h3 z (q z hz)
        have h2 := hD x t e
        omega
      · exact rest (.inl h)
    · exact rest (.inr h)
theorem Acy.dep {f : Pf} {L : List Str} (A : Acy f L) {r : Str → Tm} (hr : Fix f r) {D : Nat} (hD : ∀ x t, f x = some t → t.dep ≤ D + 1) (x : Str) : (r x).dep ≤ 1 + L.length * D :=
  topo_dep hr hD A.topo x (A.mem x)
/-! ### one more -/
def ins (f : Pf) (x : Str) (t : Tm) : Pf := fun y => if y = x then some t else f y
theorem ins_same {f : Pf} {x : Str} {t : Tm} : ins f x t x = some t := by unfold ins; rw [if_pos rfl]
theorem ins_ne {f : Pf} {x y : Str} {t : Tm} (h : y ≠ x) : ins f x t y = f y := by unfold ins; rw [if_neg h]
theorem sol_ins {f : Pf} {x : Str} {t : Tm} {v : Str → Tm} (h : f x = none) : Sol (ins f x t) v ↔ Sol f v ∧ v x = ap v t := by
  constructor
  · intro S
    refine ⟨fun y u e => S y u ?_, S x t ins_same⟩
    rw [ins_ne (fun q => by rw [q, h] at e; exact nomatch e), e]
  · rintro ⟨S, hx⟩ y u e
    by_cases q : y = x
    · rw [q, ins_same] at e
      cases e
      rw [q]
      exact hx
    · rw [ins_ne q] at e
      exact S y u e
theorem filter_all {α : Type} {p : α → Bool} {L : List α} {x : α} (h : x ∈ L) (hp : p x = true) : x ∈ L.filter p := List.mem_filter.mpr ⟨h, hp⟩
theorem Acy.ins {f : Pf} {L : List Str} (A : Acy f L) {r : Str → Tm} (hr : Fix f r) {x : Str} {t : Tm} (hx : f x = none) (ht : x ∉ (ap r t).vars) :
    ∃ M, Acy (ins f x t) M ∧ M.length = L.length + 1 := by
  -- who reaches x
  let p : Str → Bool := fun y => decide (x ∈ (r y).vars)
  have px : p x = true := by simp only [p, hr.none hx, Tm.vars, List.mem_singleton, decide_true]
  have pt : ∀ z ∈ t.vars, p z = false := fun z hz => decide_eq_false fun q => ht ((ap_vars r x t).mpr ⟨z, hz, q⟩)
  have down : ∀ y u, f y = some u → p y = false → ∀ z ∈ u.vars, p z = false := fun y u e h z hz => decide_eq_false fun q => by
    refine of_decide_eq_false h ?_
    rw [hr.some e]
    exact (ap_vars r x u).mpr ⟨z, hz, q⟩
  have xL : x ∉ L := fun h => A.topo.bound x h hx
  have nx : ∀ z, p z = false → z ≠ x := fun z h q => by rw [q, px] at h; exact nomatch h
  have lowT : ∀ {M : List Str}, Topo f M → Topo (Gt.ins f x t) (M.filter fun y => !p y) := by
    intro M
    induction M with
    | nil => intro _; exact trivial
    | cons y M ih =>
      rintro ⟨h1, ⟨u, e, q⟩, h3⟩
      rw [List.filter_cons]
      cases hp : p y with
      | true => simpa using ih h3
      | false =>
        have hy := nx y hp
        simp only [Bool.not_false, if_true]
        refine ⟨fun h => h1 (List.mem_filter.mp h).1, ⟨u, by rw [ins_ne hy, e], fun z hz => ?_⟩, ih h3⟩
        have pz := down y u e hp z hz
        rcases q z hz with q | q
        · exact .inl (filter_all q (by simp [pz]))
        · exact .inr (by rw [ins_ne (nx z pz), q])
  have midT : Topo (Gt.ins f x t) (x :: L.filter fun y => !p y) := by
    refine ⟨fun h => xL (List.mem_filter.mp h).1, ⟨t, ins_same, fun z hz => ?_⟩, lowT A.topo⟩
    have pz := pt z hz
    rcases A.mem z with q | q
    · exact .inl (filter_all q (by simp [pz]))
    · exact .inr (by rw [ins_ne (nx z pz), q])
  have topT : ∀ {M : List Str}, Topo f M → (∀ y ∈ M, y ∈ L) → Topo (Gt.ins f x t) (M.filter p ++ x :: L.filter fun y => !p y) := by
    intro M
    induction M with
    | nil => intro _ _; exact midT
    | cons y M ih =>
      rintro ⟨h1, ⟨u, e, q⟩, h3⟩ hs
      have ih' := ih h3 fun z hz => hs z (List.mem_cons_of_mem _ hz)
      rw [List.filter_cons]
      cases hp : p y with
      | false => simpa using ih'
      | true =>
        have hyL := hs y List.mem_cons_self
        have hy : y ≠ x := fun q => xL (q ▸ hyL)
        simp only [if_true, List.cons_append]
        refine ⟨fun h => ?_, ⟨u, by rw [ins_ne hy, e], fun z hz => ?_⟩, ih'⟩
        · rcases List.mem_append.mp h with h | h
          · exact h1 (List.mem_filter.mp h).1
          · rcases List.mem_cons.mp h with h | h
            · exact hy h
            · have := (List.mem_filter.mp h).2
              rw [hp] at this
              exact nomatch this
        · rcases q z hz with q | q
          · cases hz' : p z with
            | true => exact .inl (List.mem_append_left _ (filter_all q hz'))
            | false => exact .inl (List.mem_append_right _ (List.mem_cons_of_mem _ (filter_all (hs z (List.mem_cons_of_mem _ q)) (by simp [hz']))))
          · by_cases hzx : z = x
            · exact .inl (List.mem_append_right _ (by rw [hzx]; exact List.mem_cons_self))
            · exact .inr (by rw [ins_ne hzx, q])
  refine ⟨L.filter p ++ x :: L.filter fun y => !p y, ⟨topT A.topo fun _ h => h, fun y hy => ?_⟩, ?_⟩
  · by_cases h : y = x
    · rw [h]; exact List.mem_append_right _ List.mem_cons_self
    · rw [ins_ne h] at hy
      have := A.dom y hy
      cases hp : p y with
      | true => exact List.mem_append_left _ (filter_all this hp)
      | false => exact List.mem_append_right _ (List.mem_cons_of_mem _ (filter_all this (by simp [hp])))
  · have e : ∀ M : List Str, (M.filter p).length + (M.filter fun y => !p y).length = M.length := by
      intro M
      induction M with
      | nil => rfl
      | cons y M ih =>
        rw [List.filter_cons, List.filter_cons]
        cases p y
        · simp only [Bool.false_eq_true, if_false, Bool.not_false, if_true, List.length_cons]; omega
        · simp only [Bool.false_eq_true, if_false, Bool.not_true, if_true, List.length_cons]; omega
    rw [List.length_append, List.length_cons]
    have := e L
    omega
theorem nodup_len {α : Type} [DecidableEq α] : ∀ {L U : List α}, L.Nodup → (∀ x ∈ L, x ∈ U) → L.length ≤ U.length
  | [], _, _, _ => Nat.zero_le _
  | x :: L, U, nd, h => by
    obtain ⟨h1, h2⟩ := List.nodup_cons.mp nd
    have := nodup_len (L := L) (U := U.erase x) h2 fun y hy => (List.mem_erase_of_ne (show y ≠ x from fun q => h1 (by rw [← q]; exact hy))).mpr (h y (List.mem_cons_of_mem _ hy))
    rw [List.length_erase_of_mem (h x List.mem_cons_self)] at this
    have := List.length_pos_of_mem (h x List.mem_cons_self)
    rw [List.length_cons]
    omega
end Gt
set_option Elab.async false
set_option linter.all false
/-! Terms made one: the law's way (a recursion), the program's way (a stack); both are the most open ones. -/
namespace Gt
open PySem
abbrev Puts := List (Str × Tm)
def look (p : Puts) : Pf := fun x => (p.find? fun q => decide (q.1 = x)).map (·.2)
theorem look_nil (x : Str) : look [] x = none := rfl
theorem look_snoc {p : Puts} {x : Str} {t : Tm} (h : look p x = none) : look (p ++ [(x, t)]) = ins (look p) x t := by
  funext y
  unfold look ins at *
  rw [List.find?_append]
  by_cases e : y = x
  · subst e
    rw [if_pos rfl]
    have : (List.find? (fun q => decide (q.1 = y)) p) = none := by
      cases q : List.find? (fun q => decide (q.1 = y)) p with
      | none => rfl
      | some z => rw [q] at h; exact nomatch h
    rw [this]
    simp
  · rw [if_neg e]
    have : List.find? (fun q => decide (q.1 = y)) [(x, t)] = none := by simp [Ne.symm e]
    rw [this, Option.or_none]
theorem look_some {p : Puts} {x : Str} {t : Tm} (h : look p x = some t) : (x, t) ∈ p := by
  unfold look at h
  cases q : List.find? (fun q => decide (q.1 = x)) p with
  | none => rw [q] at h; exact nomatch h
  | some z =>
    rw [q] at h
    have h1 := List.mem_of_find?_eq_some q
    have h2 := List.find?_some q
    have e1 : z.1 = x := of_decide_eq_true h2
    have e2 : z.2 = t := Option.some.inj h
    rw [← e1, ← e2]
    exact h1
theorem look_none {p : Puts} {x : Str} : look p x = none ↔ x ∉ p.map (·.1) := by
  unfold look
  rw [Option.map_eq_none_iff, List.find?_eq_none]
  constructor
  · intro h m
    obtain ⟨q, hq, e⟩ := List.mem_map.mp m
    exact h q hq (decide_eq_true e)
  · intro h q hq e
    exact h (List.mem_map.mpr ⟨q, hq, of_decide_eq_true e⟩)
def walkN (f : Pf) : Nat → Tm → Tm
  | 0, t => t
  | n + 1, .any x => match f x with | none => .any x | some t => walkN f n t
  | _ + 1, t => t
def walk (p : Puts) (t : Tm) : Tm := walkN (look p) p.length t
/-- how an unknown reads, a term -/
def rdv (p : Puts) : Str → Tm := rv (look p) p.length
def rd (p : Puts) (t : Tm) : Tm := ap (rdv p) t
/-- puttings-in as they come about: acyclic, terms of P, each key once -/
structure OKs (P : Tm → Prop) (p : Puts) : Prop where
  acy : ∃ L, Acy (look p) L
  st : ∀ q ∈ p, P q.2 ∧ P (.any q.1)
  nd : (p.map (·.1)).Nodup
theorem OKs.nil {P : Tm → Prop} : OKs P [] := ⟨⟨[], ⟨trivial, fun x h => absurd rfl h⟩⟩, (fun _ h => nomatch h), List.nodup_nil⟩
theorem OKs.len {P : Tm → Prop} {p : Puts} (h : OKs P p) {L : List Str} (A : Acy (look p) L) : L.length ≤ p.length := by
  rw [← List.length_map (f := (·.1)) (as := p)]
  refine nodup_len A.topo.nodup fun x hx => ?_
  have := A.topo.bound x hx
  rw [ne_eq, look_none] at this
  exact Classical.not_not.mp this
theorem OKs.fix {P : Tm → Prop} {p : Puts} (h : OKs P p) : Fix (look p) (rdv p) := let ⟨_, A⟩ := h.acy; A.fix (h.len A)
theorem OKs.univ {P : Tm → Prop} {p : Puts} (h : OKs P p) {U : List Str} (hU : ∀ x, P (.any x) → x ∈ U) : p.length ≤ U.length := by
  rw [← List.length_map (f := (·.1)) (as := p)]
  exact nodup_len h.nd fun x hx => let ⟨q, hq, e⟩ := List.mem_map.mp hx; e ▸ hU _ (h.st q hq).2
theorem OKs.dep {P : Tm → Prop} {p : Puts} (h : OKs P p) {U : List Str} (hU : ∀ x, P (.any x) → x ∈ U) {D : Nat} (hD : ∀ t, P t → t.dep ≤ D + 1) (t : Tm) (ht : P t) : (rd p t).dep ≤ 1 + (U.length + 1) * D := by
  obtain ⟨L, A⟩ := h.acy
  have h1 : ∀ x, (rdv p x).dep ≤ 1 + U.length * D := fun x => by
    have h1 := A.dep h.fix (D := D) (fun x t e => hD t (h.st _ (look_some e)).1) x
    have h2 := Nat.mul_le_mul_right D (Nat.le_trans (h.len A) (h.univ hU))
    omega
  have h2 := dep_ap (v := rdv p) (M := 1 + U.length * D) (by omega) t fun x _ => h1 x
  have h3 := hD t ht
  rw [Nat.succ_mul]
  show (ap (rdv p) t).dep ≤ _
  omega
theorem walkN_free {f : Pf} : ∀ {L : List Str}, Topo f L → ∀ (n : Nat) (t : Tm), L.length ≤ n → (∀ x, t = .any x → x ∈ L ∨ f x = none) → ∀ x, walkN f n t = .any x → f x = none
  | [], _, n, t, _, h, x, e => by
    cases t with
    | any y =>
      have hy : f y = none := (h y rfl).elim (fun q => nomatch q) id
      cases n with
      | zero => cases e; exact hy
      | succ n => rw [walkN, hy] at e; cases e; exact hy
    | num k => cases n <;> cases e
    | app s ks => cases n <;> cases e
  | z :: L, T, n, t, hn, h, x, e => by
    rw [List.length_cons] at hn
    obtain ⟨m, rfl⟩ : ∃ m, n = m + 1 := ⟨n - 1, by omega⟩
    cases t with
    | num k => cases e
    | app s ks => cases e
    | any y =>
      rw [walkN] at e
      cases hf : f y with
      | none => rw [hf] at e; cases e; exact hf
      | some u =>
        rw [hf] at e
        obtain ⟨T1, ⟨u', eu, q⟩, T3⟩ := T
        rcases h y rfl with hy | hy
        · rcases List.mem_cons.mp hy with hz | hy
          · have hu : u' = u := by rw [hz, eu] at hf; exact Option.some.inj hf
            rw [hu] at q
            exact walkN_free T3 m u (by omega) (fun w ew => q w (by rw [ew]; simp [Tm.vars])) x e
          · refine walkN_free (L := L) T3 (m + 1) (.any y) (by omega) (fun w ew => by cases ew; exact .inl hy) x ?_
            rw [walkN, hf]
            exact e
        · rw [hf] at hy; exact nomatch hy
theorem walkN_read {f : Pf} {v : Str → Tm} (hv : Sol f v) : ∀ (n : Nat) (t : Tm), ap v (walkN f n t) = ap v t
  | 0, t => rfl
  | n + 1, .any x => by
    rw [walkN]
    cases h : f x with
    | none => rfl
    | some t =>
      show ap v (walkN f n t) = v x
      rw [walkN_read hv n t, hv x t h]
  | n + 1, .num k => rfl
  | n + 1, .app s ks => rfl
theorem walkN_P {P : Tm → Prop} {f : Pf} (hP : ∀ x t, f x = some t → P t) : ∀ (n : Nat) (t : Tm), P t → P (walkN f n t)
  | 0, t, h => h
  | n + 1, .any x, h => by
    rw [walkN]
    cases e : f x with
    | none => exact h
    | some t => exact walkN_P hP n t (hP x t e)
  | n + 1, .num k, h => h
  | n + 1, .app s ks, h => h
section
variable {P : Tm → Prop} {p : Puts}
theorem OKs.walk_free (h : OKs P p) {t : Tm} {x : Str} (e : walk p t = .any x) : look p x = none := by
  obtain ⟨L, A⟩ := h.acy
  exact walkN_free A.topo p.length t (h.len A) (fun x _ => A.mem x) x e
theorem walk_sol {v : Str → Tm} (hv : Sol (look p) v) (t : Tm) : ap v (walk p t) = ap v t := walkN_read hv _ t
theorem OKs.walk_rd (h : OKs P p) (t : Tm) : rd p (walk p t) = rd p t := walkN_read h.fix.sol _ t
theorem OKs.walk_P (h : OKs P p) {t : Tm} (ht : P t) : P (walk p t) := walkN_P (f := look p) (fun x t e => (h.st (x, t) (look_some e)).1) _ t ht
theorem OKs.sol_rd (h : OKs P p) {v : Str → Tm} (hv : Sol (look p) v) (t : Tm) : ap v (rd p t) = ap v t := let ⟨_, A⟩ := h.acy; A.sol_read h.fix hv t
theorem OKs.rd_free (h : OKs P p) {x : Str} (e : look p x = none) : rd p (.any x) = .any x := h.fix.none e
/-- one more is put in -/
theorem OKs.snoc (h : OKs P p) {x : Str} {t : Tm} (hx : look p x = none) (ht : x ∉ (rd p t).vars) (Pt : P t) (Px : P (.any x)) : OKs P (p ++ [(x, t)]) := by
  obtain ⟨L, A⟩ := h.acy
  obtain ⟨M, B, _⟩ := A.ins h.fix hx ht
  refine ⟨⟨M, by rw [look_snoc hx]; exact B⟩, fun q hq => ?_, ?_⟩
  · rcases List.mem_append.mp hq with hq | hq
    · exact h.st q hq
    · rw [List.mem_singleton.mp hq]; exact ⟨Pt, Px⟩
  · rw [List.map_append, List.nodup_append]
    refine ⟨h.nd, by simp, fun a ha b hb => ?_⟩
    simp only [List.map_cons, List.map_nil, List.mem_singleton] at hb
    rw [hb]
    exact fun q => (look_none.mp hx) (q ▸ ha)
end
def Ext (p q : Puts) : Prop := ∀ x t, look p x = some t → look q x = some t
theorem Ext.refl (p : Puts) : Ext p p := fun _ _ h => h
theorem Ext.trans {p q r : Puts} (a : Ext p q) (b : Ext q r) : Ext p r := fun x t h => b x t (a x t h)
theorem Ext.snoc {p : Puts} {x : Str} {t : Tm} (hx : look p x = none) : Ext p (p ++ [(x, t)]) := fun y u h => by
  rw [look_snoc hx, ins_ne (fun q => by rw [q, hx] at h; exact nomatch h)]
  exact h
theorem Ext.sol {p q : Puts} (e : Ext p q) {v : Str → Tm} (h : Sol (look q) v) : Sol (look p) v := fun x t k => h x t (e x t k)
/-- what making a and b one tells, of all pairs at once -/
def Mgu (P : Tm → Prop) (p : Puts) (st : List (Tm × Tm)) : Option Puts → Prop
  | some q => OKs P q ∧ Ext p q ∧ ∀ v, Sol (look q) v ↔ (Sol (look p) v ∧ ∀ c ∈ st, ap v c.1 = ap v c.2)
  | none => ∀ v, Sol (look p) v → ¬ ∀ c ∈ st, ap v c.1 = ap v c.2
/-- what is met at a place, the unknown first -/
inductive Met where
  | same
  | ring
  | put (x : Str) (t : Tm)
  | part
  | kids (l : List (Tm × Tm))
def meet (p : Puts) (a b : Tm) : Met :=
  match walk p a, walk p b with
  | .any x, d => if Tm.any x = d then .same else if x ∈ (rd p d).vars then .ring else .put x d
  | c, .any x => if x ∈ (rd p c).vars then .ring else .put x c
  | .num k, .num l => if k = l then .same else .part
  | .app s ks, .app s' ls => if s = s' ∧ ks.length = ls.length then .kids (ks.zip ls) else .part
  | .num _, .app _ _ => .part
  | .app _ _, .num _ => .part
theorem zip_eq {v : Str → Tm} : ∀ {ks ls : List Tm}, ks.length = ls.length → ((∀ c ∈ ks.zip ls, ap v c.1 = ap v c.2) ↔ apL v ks = apL v ls)
  | [], [], _ => by simp
  | k :: ks, l :: ls, h => by
    have ih := zip_eq (v := v) (ks := ks) (ls := ls) (by simpa using h)
    simp only [List.zip_cons_cons, List.forall_mem_cons, apL, List.cons.injEq, ih]
  | [], _ :: _, h => by simp at h
  | _ :: _, [], h => by simp at h
section
variable {P : Tm → Prop} {p : Puts} {a b : Tm}
theorem no_ring (h : OKs P p) {x : Str} {d : Tm} (hd : ∀ y, d = .any y → look p y = none) (hne : Tm.any x ≠ d) (hx : x ∈ (rd p d).vars) {v : Str → Tm} (hv : Sol (look p) v) : v x ≠ ap v d := by
  intro e
  cases d with
  | num k => simp [rd, ap, Tm.vars] at hx
  | any y =>
    rw [h.rd_free (hd y rfl), Tm.vars, List.mem_singleton] at hx
    exact hne (by rw [hx])
  | app s ks =>
    have h1 : (v x).size < (ap v (rd p (.app s ks))).size := by
      have hx' : x ∈ (Tm.app s (apL (rdv p) ks)).vars := hx
      exact size_app_var v hx'
    rw [h.sol_rd hv, ← e] at h1
    exact Nat.lt_irrefl _ h1
theorem bind_sol {x : Str} {d : Tm} (hx : look p x = none) (v : Str → Tm) : Sol (look (p ++ [(x, d)])) v ↔ Sol (look p) v ∧ v x = ap v d := by
  rw [look_snoc hx]; exact sol_ins hx
/-- one place -/
theorem meet_spec (h : OKs P p) (Pk : ∀ s ks, P (.app s ks) → ∀ k ∈ ks, P k) (ha : P a) (hb : P b) :
    match meet p a b with
    | .same => ∀ v, Sol (look p) v → ap v a = ap v b
    | .ring => ∀ v, Sol (look p) v → ap v a ≠ ap v b
    | .part => ∀ v, Sol (look p) v → ap v a ≠ ap v b
    | .put x t => look p x = none ∧ OKs P (p ++ [(x, t)]) ∧ ∀ v, Sol (look p) v → (ap v a = ap v b ↔ v x = ap v t)
    | .kids l => (∀ c ∈ l, P c.1 ∧ P c.2) ∧ (∀ v, Sol (look p) v → (ap v a = ap v b ↔ ∀ c ∈ l, ap v c.1 = ap v c.2)) ∧
        ∃ s ks ls, walk p a = .app s ks ∧ walk p b = .app s ls ∧ ks.length = ls.length ∧ l = ks.zip ls := by
  have fa : ∀ {v : Str → Tm}, Sol (look p) v → ap v (walk p a) = ap v a := fun hv => walk_sol hv a
  have fb : ∀ {v : Str → Tm}, Sol (look p) v → ap v (walk p b) = ap v b := fun hv => walk_sol hv b
  have Pa := h.walk_P ha
  have Pb := h.walk_P hb
  have ua := fun {x} (e : walk p a = .any x) => h.walk_free e
  have ub := fun {x} (e : walk p b = .any x) => h.walk_free e
  unfold meet
  generalize walk p a = c at *
  generalize walk p b = d at *
  cases c with
  | any x =>
    have hx : look p x = none := ua rfl
    by_cases e : Tm.any x = d
    · simp only [if_pos e]
      intro v hv
      rw [← fa hv, ← fb hv, e]
    · simp only [if_neg e]
      by_cases r : x ∈ (rd p d).vars
      · simp only [if_pos r]
        intro v hv q
        rw [← fa hv, ← fb hv] at q
        exact no_ring h (fun y e => ub e) e r hv q
      · simp only [if_neg r]
        refine ⟨hx, h.snoc hx r Pb Pa, fun v hv => ?_⟩
        rw [← fa hv, ← fb hv, ap]
  | num k =>
    cases d with
    | any x =>
      have hx : look p x = none := ub rfl
      have r : x ∉ (rd p (.num k)).vars := by simp [rd, ap, Tm.vars]
      simp only [if_neg r]
      refine ⟨hx, h.snoc hx r Pa Pb, fun v hv => ?_⟩
      rw [← fa hv, ← fb hv]
      exact eq_comm
    | num l =>
      by_cases e : k = l
      · simp only [if_pos e]
        intro v hv
        rw [← fa hv, ← fb hv, e]
      · simp only [if_neg e]
        intro v hv q
        rw [← fa hv, ← fb hv, ap, ap] at q
        injection q with q
        exact e q
    | app s ls =>
      intro v hv q
      rw [← fa hv, ← fb hv, ap, ap] at q
      exact nomatch q
  | app s ks =>
    cases d with
    | any x =>
      have hx : look p x = none := ub rfl
      by_cases r : x ∈ (rd p (.app s ks)).vars
      · simp only [if_pos r]
        intro v hv q
        rw [← fa hv, ← fb hv] at q
        exact no_ring h (x := x) (d := .app s ks) (fun y e => nomatch e) (fun e => nomatch e) r hv (by rw [ap] at q; exact q.symm)
      · simp only [if_neg r]
        refine ⟨hx, h.snoc hx r Pa Pb, fun v hv => ?_⟩
        rw [← fa hv, ← fb hv]
        exact eq_comm
    | num l =>
      intro v hv q
      rw [← fa hv, ← fb hv, ap, ap] at q
      exact nomatch q
    | app s' ls =>
      by_cases e : s = s' ∧ ks.length = ls.length
      · simp only [if_pos e]
        obtain ⟨rfl, e⟩ := e
        refine ⟨fun c hc => ⟨Pk s ks Pa _ (List.of_mem_zip hc).1, Pk s ls Pb _ (List.of_mem_zip hc).2⟩, fun v hv => ?_, s, ks, ls, rfl, rfl, e, rfl⟩
        rw [← fa hv, ← fb hv, ap, ap, zip_eq e]
        simp
      · simp only [if_neg e]
        intro v hv q
        rw [← fa hv, ← fb hv, ap, ap] at q
        injection q with q1 q2
        refine e ⟨q1, ?_⟩
        have := congrArg List.length q2
        rw [apL_length, apL_length] at this
        exact this
end
end Gt
set_option Elab.async false
set_option linter.all false
/-! The law's way to make two terms one; the marks. -/
namespace Gt
open PySem
def foldO (f : Tm → Tm → Puts → Option Puts) : List (Tm × Tm) → Option Puts → Option Puts
  | [], o => o
  | c :: l, none => foldO f l none
  | c :: l, some q => foldO f l (f c.1 c.2 q)
theorem foldO_none {f : Tm → Tm → Puts → Option Puts} : ∀ l, foldO f l none = none
  | [] => rfl
  | _ :: l => by rw [foldO]; exact foldO_none l
def uni : Nat → Tm → Tm → Puts → Option Puts
  | 0, _, _, _ => none
  | n + 1, a, b, p => match meet p a b with
    | .same => some p
    | .ring => none
    | .part => none
    | .put x t => some (p ++ [(x, t)])
    | .kids l => foldO (uni n) l (some p)
/-- how deep a term reads, now and later -/
def Deep (P : Tm → Prop) (p : Puts) (n : Nat) (t : Tm) : Prop := ∀ q, OKs P q → Ext p q → (rd q t).dep ≤ n
theorem Deep.ext {P : Tm → Prop} {p q : Puts} {n : Nat} {t : Tm} (h : Deep P p n t) (e : Ext p q) : Deep P q n t := fun r hr k => h r hr (e.trans k)
theorem dep_mem {s : Str} {ks : List Tm} {v : Str → Tm} {k : Tm} (hk : k ∈ ks) : (ap v k).dep + 1 ≤ (ap v (.app s ks)).dep := by
  rw [ap, Tm.dep, apL_map]
  have := (depL_le (n := Tm.depL (ks.map (ap v)))).mp (Nat.le_refl _) (ap v k) (List.mem_map.mpr ⟨k, hk, rfl⟩)
  omega
theorem Deep.kid {P : Tm → Prop} {p : Puts} (h : OKs P p) {n : Nat} {t : Tm} (hd : Deep P p (n + 1) t) {s : Str} {ks : List Tm} (e : walk p t = .app s ks) {k : Tm} (hk : k ∈ ks) : Deep P p n k := fun q hq x => by
  have h1 := hd q hq x
  have h2 : rd q (walk p t) = rd q t := walk_sol (x.sol hq.fix.sol) t
  rw [← h2, e] at h1
  have h3 := dep_mem (s := s) (v := rdv q) hk
  unfold rd at *
  omega
theorem Mgu.none_ext {P : Tm → Prop} {p : Puts} {st : List (Tm × Tm)} : Mgu P p st none = ∀ v, Sol (look p) v → ¬ ∀ c ∈ st, ap v c.1 = ap v c.2 := rfl
theorem foldO_spec {P : Tm → Prop} {f : Tm → Tm → Puts → Option Puts} {n : Nat}
    (hf : ∀ a b p, OKs P p → P a → P b → Deep P p n a → Deep P p n b → Mgu P p [(a, b)] (f a b p)) :
    ∀ (l : List (Tm × Tm)) (p : Puts), OKs P p → (∀ c ∈ l, P c.1 ∧ P c.2 ∧ Deep P p n c.1 ∧ Deep P p n c.2) → Mgu P p l (foldO f l (some p))
  | [], p, h, _ => ⟨h, Ext.refl p, fun v => by simp⟩
  | c :: l, p, h, hl => by
    obtain ⟨P1, P2, D1, D2⟩ := hl c List.mem_cons_self
    have hc := hf c.1 c.2 p h P1 P2 D1 D2
    rw [foldO]
    cases e : f c.1 c.2 p with
    | none =>
      rw [e] at hc
      rw [foldO_none]
      intro v hv k
      exact hc v hv fun d hd => by rw [List.mem_singleton.mp hd]; exact k c List.mem_cons_self
    | some q =>
      rw [e] at hc
      obtain ⟨h1, h2, h3⟩ := hc
      have ih := foldO_spec hf l q h1 fun d hd => let ⟨a, b, x, y⟩ := hl d (List.mem_cons_of_mem _ hd); ⟨a, b, x.ext h2, y.ext h2⟩
      cases e2 : foldO f l (some q) with
      | none =>
        rw [e2] at ih
        intro v hv k
        exact ih v ((h3 v).mpr ⟨hv, fun d hd => by rw [List.mem_singleton.mp hd]; exact k c List.mem_cons_self⟩) fun d hd => k d (List.mem_cons_of_mem _ hd)
      | some r =>
        rw [e2] at ih
        obtain ⟨i1, i2, i3⟩ := ih
        refine ⟨i1, h2.trans i2, fun v => ?_⟩
        rw [i3 v, h3 v, and_assoc]
        simp
theorem uni_spec {P : Tm → Prop} (Pk : ∀ s ks, P (.app s ks) → ∀ k ∈ ks, P k) : ∀ (n : Nat) (a b : Tm) (p : Puts), OKs P p → P a → P b → Deep P p n a → Deep P p n b → Mgu P p [(a, b)] (uni n a b p)
  | 0, a, b, p, h, _, _, D, _ => by
    have := D p h (Ext.refl p)
    have := dep_pos (rd p a)
    omega
  | n + 1, a, b, p, h, Pa, Pb, Da, Db => by
    have M := meet_spec h Pk Pa Pb
    rw [uni]
    cases e : meet p a b with
    | same =>
      rw [e] at M
      exact ⟨h, Ext.refl p, fun v => ⟨fun hv => ⟨hv, fun c hc => by rw [List.mem_singleton.mp hc]; exact M v hv⟩, fun k => k.1⟩⟩
    | ring =>
      rw [e] at M
      exact fun v hv k => M v hv (k (a, b) (List.mem_singleton.mpr rfl))
    | part =>
      rw [e] at M
      exact fun v hv k => M v hv (k (a, b) (List.mem_singleton.mpr rfl))
    | put x t =>
      rw [e] at M
      obtain ⟨hx, h2, h3⟩ := M
      refine ⟨h2, Ext.snoc hx, fun v => ?_⟩
      rw [bind_sol hx v]
      constructor
      · rintro ⟨hv, k⟩
        exact ⟨hv, fun c hc => by rw [List.mem_singleton.mp hc]; exact (h3 v hv).mpr k⟩
      · rintro ⟨hv, k⟩
        exact ⟨hv, (h3 v hv).mp (k (a, b) (List.mem_singleton.mpr rfl))⟩
    | kids l =>
      rw [e] at M
      obtain ⟨M1, M2, s, ks, ls, ea, eb, el, rfl⟩ := M
      have F := foldO_spec (n := n) (fun a b p h x y z w => uni_spec Pk n a b p h x y z w) (ks.zip ls) p h fun c hc => ⟨(M1 c hc).1, (M1 c hc).2, Da.kid h ea (List.of_mem_zip hc).1, Db.kid h eb (List.of_mem_zip hc).2⟩
      show Mgu P p [(a, b)] (foldO (uni n) (ks.zip ls) (some p))
      cases e2 : foldO (uni n) (ks.zip ls) (some p) with
      | none =>
        rw [e2] at F
        exact fun v hv k => F v hv ((M2 v hv).mp (k (a, b) (List.mem_singleton.mpr rfl)))
      | some q =>
        rw [e2] at F
        obtain ⟨F1, F2, F3⟩ := F
        refine ⟨F1, F2, fun v => ?_⟩
        rw [F3 v]
        constructor
        · rintro ⟨hv, k⟩
          exact ⟨hv, fun c hc => by rw [List.mem_singleton.mp hc]; exact (M2 v hv).mpr k⟩
        · rintro ⟨hv, k⟩
          exact ⟨hv, (M2 v hv).mp (k (a, b) (List.mem_singleton.mpr rfl))⟩
/-! ### the marks -/
end Gt
set_option Elab.async false
set_option linter.all false
/-! Marked names; the same answers under two ways of marking. -/
namespace Gt
open PySem L2
def Plain (x : Str) : Prop := 46 ∉ TL.tl x
def mk (n : Nat) (x : Str) : Str := x ++ "." ++ toString (n : Int)
theorem tl_mk' (n : Nat) (x : Str) : TL.tl (mk n x) = TL.tl x ++ 46 :: TL.numL n := by
  unfold mk
  rw [TL.tl_append, TL.tl_append, TL.tl_num, TL.tl_ofString, List.append_assoc]
  rfl
theorem split_dot {a b c d : List Nat} (ha : 46 ∉ a) (hc : 46 ∉ c) (h : a ++ 46 :: b = c ++ 46 :: d) : a = c ∧ b = d := by
  induction a generalizing c with
  | nil =>
    cases c with
    | nil => exact ⟨rfl, (List.cons.inj h).2⟩
    | cons y c =>
      injection h with h1 _
      exact absurd (by rw [h1]; exact List.mem_cons_self) hc
  | cons x a ih =>
    cases c with
    | nil =>
      injection h with h1 _
      exact absurd (by rw [← h1]; exact List.mem_cons_self) ha
    | cons y c =>
      injection h with h1 h2
      obtain ⟨i1, i2⟩ := ih (fun q => ha (List.mem_cons_of_mem _ q)) (fun q => hc (List.mem_cons_of_mem _ q)) h2
      exact ⟨by rw [h1, i1], i2⟩
theorem mk_inj {m n : Nat} {x y : Str} (hx : Plain x) (hy : Plain y) (h : mk m x = mk n y) : m = n ∧ x = y := by
  have h' := congrArg TL.tl h
  rw [tl_mk', tl_mk'] at h'
  obtain ⟨h1, h2⟩ := split_dot hx hy h'
  exact ⟨TL.numL_inj h2, TL.ext_tl h1⟩
theorem mk_not_plain (n : Nat) (x : Str) : ¬ Plain (mk n x) := fun h => h (by rw [tl_mk']; exact List.mem_append_right _ List.mem_cons_self)
/-- a name that is not marked with n or later -/
def Old (n : Nat) (y : Str) : Prop := Plain y ∨ ∃ m x, m < n ∧ Plain x ∧ y = mk m x
theorem Old.mono {m n : Nat} (h : m ≤ n) {y : Str} : Old m y → Old n y
  | .inl p => .inl p
  | .inr ⟨k, x, a, b, c⟩ => .inr ⟨k, x, Nat.lt_of_lt_of_le a h, b, c⟩
theorem Old.fresh {n : Nat} {y x : Str} (h : Old n y) (hx : Plain x) : y ≠ mk n x := fun e => by
  rcases h with h | ⟨m, z, a, b, c⟩
  · exact mk_not_plain n x (e ▸ h)
  · have := (mk_inj b hx (c ▸ e)).1
    omega
theorem Old.mark {n : Nat} {x : Str} (hx : Plain x) : Old (n + 1) (mk n x) := .inr ⟨n, x, Nat.lt_succ_self n, hx, rfl⟩
/-- all unknowns of t in p -/
def Names (p : Str → Prop) (t : Tm) : Prop := ∀ x ∈ t.vars, p x
theorem Names.mono {p q : Str → Prop} (h : ∀ x, p x → q x) {t : Tm} (k : Names p t) : Names q t := fun x hx => h x (k x hx)
theorem Names.kid {p : Str → Prop} {s : Str} {ks : List Tm} (h : Names p (.app s ks)) {k : Tm} (hk : k ∈ ks) : Names p k := fun x hx => h x (by rw [Tm.vars]; exact varsL_mem.mpr ⟨k, hk, hx⟩)
def mkT (n : Nat) (t : Tm) : Tm := ap (fun x => .any (mk n x)) t
theorem mkT_old {n : Nat} {t : Tm} (h : Names Plain t) : Names (Old (n + 1)) (mkT n t) := fun y hy => by
  obtain ⟨x, hx, k⟩ := (ap_vars _ y t).mp hy
  rw [Tm.vars, List.mem_singleton] at k
  rw [k]
  exact .mark (h x hx)
/-- puttings-in over names of p -/
def PNames (p : Str → Prop) (f : Pf) : Prop := ∀ x t, f x = some t → p x ∧ Names p t
/-- the answers: what the terms T read as, under all that agrees with f -/
def Ans (f : Pf) (T : List Tm) (L : List Tm) : Prop := ∃ v, Sol f v ∧ L = apL v T
def EqI (f : Pf) (T : List Tm) (g : Pf) (U : List Tm) : Prop := ∀ L, Ans f T L ↔ Ans g U L
theorem EqI.symm {f g : Pf} {T U : List Tm} (h : EqI f T g U) : EqI g U f T := fun L => (h L).symm
theorem apL_append (v : Str → Tm) (a b : List Tm) : apL v (a ++ b) = apL v a ++ apL v b := by rw [apL_map, apL_map, apL_map, List.map_append]
open Classical in
/-- v where the name is no mark n, else w of the name -/
noncomputable def over (n : Nat) (v w : Str → Tm) : Str → Tm := fun y => if h : ∃ x, Plain x ∧ y = mk n x then w (choose h) else v y
theorem over_mk {n : Nat} {v w : Str → Tm} {x : Str} (hx : Plain x) : over n v w (mk n x) = w x := by
  have h : ∃ z, Plain z ∧ mk n x = mk n z := ⟨x, hx, rfl⟩
  unfold over
  rw [dif_pos h]
  have hc := Classical.choose_spec h
  rw [← (mk_inj hx hc.1 hc.2).2]
theorem over_old {n : Nat} {v w : Str → Tm} {y : Str} (hy : Old n y) : over n v w y = v y := by
  unfold over
  rw [dif_neg]
  rintro ⟨x, hx, e⟩
  exact hy.fresh hx e
theorem over_mkT {n : Nat} {v w : Str → Tm} {t : Tm} (h : Names Plain t) : ap (over n v w) (mkT n t) = ap w t := by
  unfold mkT
  rw [ap_ap]
  exact ap_congr t fun x hx => by rw [ap, over_mk (h x hx)]
theorem over_keep {n : Nat} {v w : Str → Tm} {t : Tm} (h : Names (Old n) t) : ap (over n v w) t = ap v t := ap_congr t fun x hx => over_old (h x hx)
theorem over_sol {n : Nat} {v w : Str → Tm} {f : Pf} (hf : PNames (Old n) f) (h : Sol f v) : Sol f (over n v w) := fun x t e => by
  obtain ⟨h1, h2⟩ := hf x t e
  rw [over_old h1, over_keep h2]
  exact h x t e
theorem over_keepL {n : Nat} {v w : Str → Tm} {T : List Tm} (h : ∀ t ∈ T, Names (Old n) t) : apL (over n v w) T = apL v T := by
  rw [apL_map, apL_map]
  exact List.map_congr_left fun t ht => over_keep (h t ht)
/-- a solution on the one side, marked m, has one on the other, marked n -/
theorem carry {f g : Pf} {T U : List Tm} (h : EqI f T g U) {m n : Nat} (hg : PNames (Old n) g) (hU : ∀ t ∈ U, Names (Old n) t) {v : Str → Tm} (hv : Sol f v) :
    ∃ u, Sol g u ∧ apL u U = apL v T ∧ ∀ t, Names Plain t → ap u (mkT n t) = ap v (mkT m t) := by
  obtain ⟨u, hu, e⟩ := (h (apL v T)).mp ⟨v, hv, rfl⟩
  refine ⟨over n u fun x => v (mk m x), over_sol hg hu, ?_, fun t ht => ?_⟩
  · rw [over_keepL hU, e]
  · rw [over_mkT ht]
    unfold mkT
    rw [ap_ap]
    exact ap_congr t fun x _ => by rw [ap]
/-- what is at place i reads alike -/
theorem apL_mid {v u : Str → Tm} {A A' G G' : List Tm} {g g' : Tm} (hA : A.length = A'.length) (h : apL u (A' ++ g' :: G') = apL v (A ++ g :: G)) : apL u A' = apL v A ∧ ap u g' = ap v g ∧ apL u G' = apL v G := by
  rw [apL_append, apL_append] at h
  obtain ⟨h1, h2⟩ := List.append_inj h (by rw [apL_length, apL_length, hA])
  rw [apL, apL] at h2
  injection h2 with h2 h3
  exact ⟨h1, h2, h3⟩
/-- one rule taken on both sides: half of it -/
theorem res_half {f g : Pf} {A A' G G' : List Tm} {c c' : Tm} (hA : A.length = A'.length) (h : EqI f (A ++ c :: G) g (A' ++ c' :: G')) {m n : Nat} (hg : PNames (Old n) g)
    (hU : ∀ t ∈ A' ++ c' :: G', Names (Old n) t) {hd : Tm} {body : List Tm} (nh : Names Plain hd) (nb : ∀ b ∈ body, Names Plain b) {v : Str → Tm} (hv : Sol f v) (e : ap v (mkT m hd) = ap v c) :
    ∃ u, (Sol g u ∧ ap u (mkT n hd) = ap u c') ∧ apL u (A' ++ (body.map (mkT n) ++ G')) = apL v (A ++ (body.map (mkT m) ++ G)) := by
  obtain ⟨u, h1, h2, h3⟩ := carry h (m := m) hg hU hv
  obtain ⟨k1, k2, k3⟩ := apL_mid hA h2
  refine ⟨u, ⟨h1, by rw [h3 hd nh, k2, e]⟩, ?_⟩
  rw [apL_append, apL_append, apL_append, apL_append, k1, k3]
  congr 2
  rw [apL_map, apL_map, List.map_map, List.map_map]
  exact List.map_congr_left fun b hb => h3 b (nb b hb)
/-- a rule on both sides: made one here iff there, and the same answers after it -/
theorem res_both {p p' : Puts} {A A' G G' : List Tm} {c c' : Tm} (hA : A.length = A'.length) (h : EqI (look p) (A ++ c :: G) (look p') (A' ++ c' :: G')) {m n : Nat}
    (hf : PNames (Old m) (look p)) (hT : ∀ t ∈ A ++ c :: G, Names (Old m) t) (hg : PNames (Old n) (look p')) (hU : ∀ t ∈ A' ++ c' :: G', Names (Old n) t)
    {hd : Tm} {body : List Tm} (nh : Names Plain hd) (nb : ∀ b ∈ body, Names Plain b) {r r' : Option Puts}
    (e1 : ∀ v, (∃ q, r = some q ∧ Sol (look q) v) ↔ Sol (look p) v ∧ ap v (mkT m hd) = ap v c)
    (e2 : ∀ v, (∃ q, r' = some q ∧ Sol (look q) v) ↔ Sol (look p') v ∧ ap v (mkT n hd) = ap v c') (s1 : ∀ q, r = some q → ∃ v, Sol (look q) v) (s2 : ∀ q, r' = some q → ∃ v, Sol (look q) v) :
    (r = none ↔ r' = none) ∧ ∀ q q', r = some q → r' = some q' → EqI (look q) (A ++ (body.map (mkT m) ++ G)) (look q') (A' ++ (body.map (mkT n) ++ G')) := by
  have H1 := fun v (hv : Sol (look p) v) e => res_half hA h hg hU (m := m) (n := n) nh nb hv e
  have H2 := fun v (hv : Sol (look p') v) e => res_half hA.symm h.symm hf hT (m := n) (n := m) nh nb hv e
  have to : ∀ {r r' : Option Puts}, (∀ q, r = some q → ∃ u, ∃ q', r' = some q' ∧ Sol (look q') u) → r' = none → r = none := fun {r r'} k e => by
    cases r with
    | none => rfl
    | some q => obtain ⟨_, q', a, _⟩ := k q rfl; rw [e] at a; exact nomatch a
  have F : ∀ v q, r = some q → Sol (look q) v → ∃ u q', r' = some q' ∧ Sol (look q') u ∧ apL u (A' ++ (body.map (mkT n) ++ G')) = apL v (A ++ (body.map (mkT m) ++ G)) := fun v q hq hv => by
    obtain ⟨a, b⟩ := (e1 v).mp ⟨q, hq, hv⟩
    obtain ⟨u, ⟨k1, k2⟩, k3⟩ := H1 v a b
    obtain ⟨q', x, y⟩ := (e2 u).mpr ⟨k1, k2⟩
    exact ⟨u, q', x, y, k3⟩
  have B : ∀ v q, r' = some q → Sol (look q) v → ∃ u q', r = some q' ∧ Sol (look q') u ∧ apL u (A ++ (body.map (mkT m) ++ G)) = apL v (A' ++ (body.map (mkT n) ++ G')) := fun v q hq hv => by
    obtain ⟨a, b⟩ := (e2 v).mp ⟨q, hq, hv⟩
    obtain ⟨u, ⟨k1, k2⟩, k3⟩ := H2 v a b
    obtain ⟨q', x, y⟩ := (e1 u).mpr ⟨k1, k2⟩
    exact ⟨u, q', x, y, k3⟩
  refine ⟨⟨fun e => to (r := r') (r' := r) (fun q hq => ?_) e, fun e => to (r := r) (r' := r') (fun q hq => ?_) e⟩, fun q q' hq hq' L => ⟨?_, ?_⟩⟩
  · obtain ⟨v, hv⟩ := s2 q hq
    obtain ⟨u, q', a, b, _⟩ := B v q hq hv
    exact ⟨u, q', a, b⟩
  · obtain ⟨v, hv⟩ := s1 q hq
    obtain ⟨u, q', a, b, _⟩ := F v q hq hv
    exact ⟨u, q', a, b⟩
  · rintro ⟨v, hv, e⟩
    obtain ⟨u, z, a, b, k⟩ := F v q hq hv
    rw [hq'] at a
    cases a
    exact ⟨u, b, by rw [e, k]⟩
  · rintro ⟨v, hv, e⟩
    obtain ⟨u, z, a, b, k⟩ := B v q' hq' hv
    rw [hq] at a
    cases a
    exact ⟨u, b, by rw [e, k]⟩
/-- no rule: two terms of one goal made one -/
theorem eq_both {p p' : Puts} {A A' G G' : List Tm} {s : Str} {a b a' b' : Tm} (hA : A.length = A'.length) (h : EqI (look p) (A ++ .app s [a, b] :: G) (look p') (A' ++ .app s [a', b'] :: G'))
    {r r' : Option Puts} (e1 : ∀ v, (∃ q, r = some q ∧ Sol (look q) v) ↔ Sol (look p) v ∧ ap v a = ap v b)
    (e2 : ∀ v, (∃ q, r' = some q ∧ Sol (look q) v) ↔ Sol (look p') v ∧ ap v a' = ap v b') (s1 : ∀ q, r = some q → ∃ v, Sol (look q) v) (s2 : ∀ q, r' = some q → ∃ v, Sol (look q) v) :
    (r = none ↔ r' = none) ∧ ∀ q q', r = some q → r' = some q' → EqI (look q) (A ++ G) (look q') (A' ++ G') := by
  have half : ∀ {p p' : Puts} {A A' G G' : List Tm} {a b a' b' : Tm}, A.length = A'.length → EqI (look p) (A ++ .app s [a, b] :: G) (look p') (A' ++ .app s [a', b'] :: G') → ∀ v, Sol (look p) v → ap v a = ap v b → ∃ u, (Sol (look p') u ∧ ap u a' = ap u b') ∧ apL u (A' ++ G') = apL v (A ++ G) := by
    intro p p' A A' G G' a b a' b' hA h v hv e
    obtain ⟨u, hu, k⟩ := (h _).mp ⟨v, hv, rfl⟩
    obtain ⟨k1, k2, k3⟩ := apL_mid hA k.symm
    simp only [ap, apL] at k2
    injection k2 with _ k2
    injection k2 with k4 k5
    injection k5 with k5 _
    exact ⟨u, ⟨hu, by rw [k4, k5, e]⟩, by rw [apL_append, apL_append, k1, k3]⟩
  have to : ∀ {r r' : Option Puts}, (∀ q, r = some q → ∃ u, ∃ q', r' = some q' ∧ Sol (look q') u) → r' = none → r = none := fun {r r'} k e => by
    cases r with
    | none => rfl
    | some q => obtain ⟨_, q', a, _⟩ := k q rfl; rw [e] at a; exact nomatch a
  have F : ∀ v q, r = some q → Sol (look q) v → ∃ u q', r' = some q' ∧ Sol (look q') u ∧ apL u (A' ++ G') = apL v (A ++ G) := fun v q hq hv => by
    obtain ⟨a, b⟩ := (e1 v).mp ⟨q, hq, hv⟩
    obtain ⟨u, ⟨k1, k2⟩, k3⟩ := half hA h v a b
    obtain ⟨q', x, y⟩ := (e2 u).mpr ⟨k1, k2⟩
    exact ⟨u, q', x, y, k3⟩
  have B : ∀ v q, r' = some q → Sol (look q) v → ∃ u q', r = some q' ∧ Sol (look q') u ∧ apL u (A ++ G) = apL v (A' ++ G') := fun v q hq hv => by
    obtain ⟨a, b⟩ := (e2 v).mp ⟨q, hq, hv⟩
    obtain ⟨u, ⟨k1, k2⟩, k3⟩ := half hA.symm h.symm v a b
    obtain ⟨q', x, y⟩ := (e1 u).mpr ⟨k1, k2⟩
    exact ⟨u, q', x, y, k3⟩
  refine ⟨⟨fun e => to (r := r') (r' := r) (fun q hq => ?_) e, fun e => to (r := r) (r' := r') (fun q hq => ?_) e⟩, fun q q' hq hq' L => ⟨?_, ?_⟩⟩
  · obtain ⟨v, hv⟩ := s2 q hq
    obtain ⟨u, q', a, b, _⟩ := B v q hq hv
    exact ⟨u, q', a, b⟩
  · obtain ⟨v, hv⟩ := s1 q hq
    obtain ⟨u, q', a, b, _⟩ := F v q hq hv
    exact ⟨u, q', a, b⟩
  · rintro ⟨v, hv, e⟩
    obtain ⟨u, z, a, b, k⟩ := F v q hq hv
    rw [hq'] at a
    cases a
    exact ⟨u, b, by rw [e, k]⟩
  · rintro ⟨v, hv, e⟩
    obtain ⟨u, z, a, b, k⟩ := B v q' hq' hv
    rw [hq] at a
    cases a
    exact ⟨u, b, by rw [e, k]⟩
/-- a goal that goes -/
theorem drop_both {f g : Pf} {A A' G G' : List Tm} {c c' : Tm} (hA : A.length = A'.length) (h : EqI f (A ++ c :: G) g (A' ++ c' :: G')) : EqI f (A ++ G) g (A' ++ G') := by
  have half : ∀ {f g : Pf} {A A' G G' : List Tm} {c c' : Tm}, A.length = A'.length → EqI f (A ++ c :: G) g (A' ++ c' :: G') → ∀ L, Ans f (A ++ G) L → Ans g (A' ++ G') L := by
    rintro f g A A' G G' c c' hA h L ⟨v, hv, e⟩
    obtain ⟨u, hu, k⟩ := (h _).mp ⟨v, hv, rfl⟩
    obtain ⟨k1, k2, k3⟩ := apL_mid hA k.symm
    exact ⟨u, hu, by rw [e, apL_append, apL_append, k1, k3]⟩
  exact fun L => ⟨half hA h L, half hA.symm h.symm L⟩
/-- the goals that stand behind the marker don't matter -/
theorem head_both {f g : Pf} {A A' G G' : List Tm} (hA : A.length = A'.length) (h : EqI f (A ++ G) g (A' ++ G')) : EqI f A g A' := by
  have half : ∀ {f g : Pf} {A A' G G' : List Tm}, A.length = A'.length → EqI f (A ++ G) g (A' ++ G') → ∀ L, Ans f A L → Ans g A' L := by
    rintro f g A A' G G' hA h L ⟨v, hv, e⟩
    obtain ⟨u, hu, k⟩ := (h _).mp ⟨v, hv, rfl⟩
    rw [apL_append, apL_append] at k
    obtain ⟨k1, _⟩ := List.append_inj k (by rw [apL_length, apL_length, hA])
    exact ⟨u, hu, by rw [e, k1]⟩
  exact fun L => ⟨half hA h L, half hA.symm h.symm L⟩
end Gt
set_option Elab.async false
set_option linter.all false
/-! Answers told: the unknowns by their order. -/
namespace Gt
open PySem L2
def addN (acc : List Str) (x : Str) : List Str := if x ∈ acc then acc else acc ++ [x]
def uniq (acc : List Str) (l : List Str) : List Str := l.foldl addN acc
theorem addN_mem {acc : List Str} {x y : Str} : y ∈ addN acc x ↔ y ∈ acc ∨ y = x := by
  unfold addN
  by_cases h : x ∈ acc
  · rw [if_pos h]
    exact ⟨.inl, fun k => k.elim id fun e => e ▸ h⟩
  · rw [if_neg h, List.mem_append, List.mem_singleton]
theorem uniq_mem {y : Str} : ∀ {l acc : List Str}, y ∈ uniq acc l ↔ y ∈ acc ∨ y ∈ l
  | [], acc => by simp [uniq]
  | x :: l, acc => by
    show y ∈ uniq (addN acc x) l ↔ _
    rw [uniq_mem (l := l), addN_mem, List.mem_cons]
    exact or_assoc
theorem addN_nodup {acc : List Str} {x : Str} (h : acc.Nodup) : (addN acc x).Nodup := by
  unfold addN
  by_cases k : x ∈ acc
  · rw [if_pos k]; exact h
  · rw [if_neg k, List.nodup_append]
    exact ⟨h, by simp, fun a ha b hb => by rw [List.mem_singleton.mp hb]; exact fun q => k (q ▸ ha)⟩
theorem uniq_nodup : ∀ {l acc : List Str}, acc.Nodup → (uniq acc l).Nodup
  | [], _, h => h
  | _ :: l, _, h => uniq_nodup (l := l) (addN_nodup h)
theorem uniq_map {f : Str → Str} : ∀ {l acc : List Str}, (∀ x y, (x ∈ acc ∨ x ∈ l) → (y ∈ acc ∨ y ∈ l) → f x = f y → x = y) → uniq (acc.map f) (l.map f) = (uniq acc l).map f
  | [], _, _ => rfl
  | x :: l, acc, h => by
    show uniq (addN (acc.map f) (f x)) (l.map f) = (uniq (addN acc x) l).map f
    have e : addN (acc.map f) (f x) = (addN acc x).map f := by
      unfold addN
      by_cases k : x ∈ acc
      · rw [if_pos k, if_pos (List.mem_map.mpr ⟨x, k, rfl⟩)]
      · rw [if_neg k, if_neg, List.map_append]
        · rfl
        · intro q
          obtain ⟨y, hy, e⟩ := List.mem_map.mp q
          exact k (h y x (.inl hy) (.inr List.mem_cons_self) e ▸ hy)
    rw [e]
    refine uniq_map fun a b ha hb k => h a b ?_ ?_ k
    · rw [addN_mem, or_assoc, ← List.mem_cons] at ha; exact ha
    · rw [addN_mem, or_assoc, ← List.mem_cons] at hb; exact hb
theorem idx_map {f : Str → Str} {x : Str} : ∀ {l : List Str}, (∀ y ∈ l, f y = f x → y = x) → (l.map f).idxOf (f x) = l.idxOf x
  | [], _ => rfl
  | y :: l, h => by
    rw [List.map_cons, List.idxOf_cons, List.idxOf_cons]
    by_cases e : y = x
    · rw [e]; simp
    · have e2 : f y ≠ f x := fun q => e (h y List.mem_cons_self q)
      have d1 : (f y == f x) = false := beq_false_of_ne e2
      have d2 : (y == x) = false := beq_false_of_ne e
      rw [idx_map fun z hz => h z (List.mem_cons_of_mem _ hz), d1, d2]
def numU (i : Nat) : Str := "U" ++ toString ((i + 1 : Nat) : Int)
def namesOf (T : List Tm) : List Str := uniq [] (Tm.varsL T)
def calls (U : List Str) (x : Str) : Str := numU (U.idxOf x)
def toldL (T : List Tm) : List Tm := apL (fun x => .any (calls (namesOf T) x)) T
theorem toldL_len (T : List Tm) : (toldL T).length = T.length := apL_length _ _
theorem any_back {u : Str → Tm} {t : Tm} {x : Str} (h : ap u t = .any x) : ∃ y, t = .any y ∧ u y = .any x := by
  cases t with
  | num n => rw [ap] at h; exact nomatch h
  | app s ks => rw [ap] at h; exact nomatch h
  | any y => exact ⟨y, rfl, h⟩
mutual
theorem vars_ren {f : Str → Str} {v : Str → Tm} : ∀ t : Tm, (∀ x ∈ t.vars, v x = .any (f x)) → (ap v t).vars = t.vars.map f
  | .num _, _ => rfl
  | .any x, h => by
    rw [ap, h x (by simp [Tm.vars])]
    rfl
  | .app s ks, h => by rw [ap, Tm.vars, Tm.vars]; exact varsL_ren ks h
theorem varsL_ren {f : Str → Str} {v : Str → Tm} : ∀ ks : List Tm, (∀ x ∈ Tm.varsL ks, v x = .any (f x)) → Tm.varsL (apL v ks) = (Tm.varsL ks).map f
  | [], _ => rfl
  | t :: r, h => by
    rw [apL, Tm.varsL, Tm.varsL, List.map_append, vars_ren t fun x hx => h x (by rw [Tm.varsL]; exact List.mem_append_left _ hx), varsL_ren r fun x hx => h x (by rw [Tm.varsL]; exact List.mem_append_right _ hx)]
end
/-- lists of terms that stand for each other are told alike -/
theorem told_alike {S T : List Tm} {v u : Str → Tm} (h1 : apL v S = T) (h2 : apL u T = S) : toldL S = toldL T := by
  have hb : ∀ x ∈ Tm.varsL S, ∃ y, v x = .any y ∧ u y = .any x := fun x hx => by
    have e : apL (fun x => ap u (v x)) S = apL .any S := by rw [← apL_apL, h1, h2, apL_any]
    exact any_back (apL_inj S e x hx)
  let f : Str → Str := fun x => match v x with | .any y => y | _ => x
  have hf : ∀ x ∈ Tm.varsL S, v x = .any (f x) := fun x hx => by
    obtain ⟨y, hy, _⟩ := hb x hx
    show v x = .any (match v x with | .any y => y | _ => x)
    rw [hy]
  have fi : ∀ x y, x ∈ Tm.varsL S → y ∈ Tm.varsL S → f x = f y → x = y := fun x y hx hy e => by
    obtain ⟨a, ha, ua⟩ := hb x hx
    obtain ⟨b, hb', ub⟩ := hb y hy
    have e1 := hf x hx
    have e2 := hf y hy
    rw [ha] at e1
    rw [hb'] at e2
    injection e1 with e1
    injection e2 with e2
    rw [e1, e, ← e2, ub] at ua
    injection ua with ua
    exact ua.symm
  have eN : namesOf T = (namesOf S).map f := by
    unfold namesOf
    rw [← h1, varsL_ren S hf]
    exact uniq_map (acc := []) fun x y hx hy e => fi x y (hx.resolve_left (List.not_mem_nil)) (hy.resolve_left (List.not_mem_nil)) e
  unfold toldL
  conv => rhs; arg 2; rw [← h1]
  rw [apL_apL, eN]
  refine apL_congr S fun x hx => ?_
  rw [hf x hx, ap]
  refine congrArg Tm.any (congrArg numU ?_)
  exact (idx_map fun y hy e => fi y x ((uniq_mem.mp hy).resolve_left (List.not_mem_nil)) hx e).symm
theorem told_both {P Q : Tm → Prop} {p q : Puts} (hp : OKs P p) (hq : OKs Q q) {T U : List Tm} (h : EqI (look p) T (look q) U) : toldL (T.map (rd p)) = toldL (U.map (rd q)) := by
  have e : ∀ {P Q : Tm → Prop} {p q : Puts} {T U : List Tm}, OKs P p → OKs Q q → EqI (look p) T (look q) U → ∃ v, apL v (T.map (rd p)) = U.map (rd q) := by
    intro P Q p q T U hp hq h
    obtain ⟨v, hv, e⟩ := (h _).mpr ⟨rdv q, hq.fix.sol, rfl⟩
    refine ⟨v, ?_⟩
    have k : U.map (rd q) = apL (rdv q) U := by rw [apL_map]; rfl
    rw [k, e, apL_map, apL_map, List.map_map]
    exact List.map_congr_left fun t _ => hp.sol_rd hv t
  obtain ⟨v, hv⟩ := e hp hq h
  obtain ⟨u, hu⟩ := e hq hp h.symm
  exact told_alike hv hu
end Gt
set_option Elab.async false
set_option linter.all false
/-! The law's own search (A), cut into what a stack of frames still has to give (D, rem). -/
namespace Gt
open PySem L2
abbrev Way := List Nat
abbrev Fnd := List (Puts × Way)
abbrev Rule := Tm × List Tm
def sgn : Tm → Str
  | .app s _ => s
  | .num _ => ""
  | .any _ => ""
def kidsT : Tm → List Tm
  | .app _ ks => ks
  | .num _ => []
  | .any _ => []
structure Cx where
  w0 : Str
  w1 : Str
  w2 : Str
  nb : List Str
  R : List Rule
def Cx.ws (c : Cx) : List Str := [c.w0, c.w1, c.w2]
def cost (c : Cx) (g : Tm) : Nat := if sgn g = c.w0 then 7 else if sgn g = c.w1 then 3 else 1
def costL (c : Cx) : List Tm → Nat
  | [] => 0
  | g :: r => cost c g + costL c r
def same (h g : Tm) : Bool := decide (sgn h = sgn g) && decide ((kidsT h).length = (kidsT g).length)
def unifuel : Nat := 100
def waysG (all : List Tm → Puts → Way → Fnd × Bool) (g : Tm) (p : Puts) (w : Way) : List (Rule × Nat) → Fnd
  | [] => []
  | (r, k) :: R =>
    if same r.1 g = true then
      match uni unifuel g (mkT w.length r.1) p with
      | none => waysG all g p w R
      | some q =>
        let m := all (r.2.map (mkT w.length)) q (w ++ [k + 1])
        if m.2 = true then m.1 else m.1 ++ waysG all g p w R
    else waysG all g p w R
def laterG (all : Puts → Way → Fnd × Bool) : Fnd → Fnd × Bool
  | [] => ([], false)
  | (q, w) :: l =>
    let m := all q w
    if m.2 = true then (m.1, true) else (m.1 ++ (laterG all l).1, (laterG all l).2)
def eqOf (p : Puts) (w : Way) : List Tm → Fnd
  | [a, b] => match uni unifuel a b p with
    | none => []
    | some q => [(q, w ++ [0])]
  | _ => []
def noneYet (p : Puts) (w : Way) (l : Fnd) : Fnd := if l.isEmpty = true then [(p, w ++ [0])] else []
def notOf (f : Tm → Fnd) (p : Puts) (w : Way) : List Tm → Fnd
  | i :: _ => noneYet p w (f i)
  | _ => []
def laterOf (all : List Tm → Puts → Way → Fnd × Bool) (R : List Rule) (g : Tm) (p : Puts) (w : Way) : Fnd :=
  if sgn g = "=" then eqOf p w (kidsT g)
  else if sgn g = "not" then notOf (fun i => waysG all i p w R.zipIdx) p w (kidsT g)
  else waysG all g p w R.zipIdx
def A (R : List Rule) : Nat → List Tm → Puts → Way → Fnd × Bool
  | _, [], p, w => ([(p, w)], false)
  | 0, _ :: _, _, _ => ([], false)
  | n + 1, g :: rest, p, w =>
    if sgn g = "keep" then ((A R n rest p (w ++ [0])).1, true)
    else laterG (A R n rest) (laterOf (A R n) R g p w)
theorem A_nil (R : List Rule) (n : Nat) (p : Puts) (w : Way) : A R n [] p w = ([(p, w)], false) := by cases n <;> rfl
/-! ### names, terms, goals, rules -/
def Un (nb : List Str) (n : Nat) : List Str := nb ++ (List.range n).flatMap fun m => nb.map (mk m)
theorem Un_mem {nb : List Str} {n : Nat} {y : Str} : y ∈ Un nb n ↔ y ∈ nb ∨ ∃ m, m < n ∧ ∃ x ∈ nb, y = mk m x := by
  unfold Un
  rw [List.mem_append, List.mem_flatMap]
  constructor
  · rintro (h | ⟨m, hm, h⟩)
    · exact .inl h
    · obtain ⟨x, hx, e⟩ := List.mem_map.mp h
      exact .inr ⟨m, List.mem_range.mp hm, x, hx, e.symm⟩
  · rintro (h | ⟨m, hm, x, hx, e⟩)
    · exact .inl h
    · exact .inr ⟨m, List.mem_range.mpr hm, List.mem_map.mpr ⟨x, hx, e.symm⟩⟩
theorem Un_mono {nb : List Str} {m n : Nat} (h : m ≤ n) {y : Str} (k : y ∈ Un nb m) : y ∈ Un nb n := by
  rcases Un_mem.mp k with k | ⟨i, hi, x⟩
  · exact Un_mem.mpr (.inl k)
  · exact Un_mem.mpr (.inr ⟨i, by omega, x⟩)
theorem Un_old {nb : List Str} (hp : ∀ x ∈ nb, Plain x) {n : Nat} {y : Str} (k : y ∈ Un nb n) : Old n y := by
  rcases Un_mem.mp k with k | ⟨i, hi, x, hx, e⟩
  · exact .inl (hp y k)
  · exact .inr ⟨i, x, hi, hp x hx, e⟩
theorem Un_len (nb : List Str) : ∀ n, (Un nb n).length = nb.length * (n + 1)
  | 0 => by simp [Un]
  | n + 1 => by
    have := Un_len nb n
    unfold Un at *
    rw [List.range_succ, List.flatMap_append, ← List.append_assoc, List.length_append, this]
    simp only [List.flatMap_cons, List.flatMap_nil, List.append_nil, List.length_map]
    rw [Nat.mul_succ nb.length (n + 1)]
mutual
def Ar : Tm → Prop
  | .num _ => True
  | .any _ => True
  | .app _ ks => ks.length ≤ 2 ∧ ArL ks
def ArL : List Tm → Prop
  | [] => True
  | t :: r => Ar t ∧ ArL r
end
theorem ArL_iff : ∀ {ks : List Tm}, ArL ks ↔ ∀ k ∈ ks, Ar k
  | [] => by simp [ArL]
  | t :: r => by
    have h := ArL_iff (ks := r)
    simp [ArL, h]
mutual
theorem Ar_ap {v : Str → Tm} : ∀ t : Tm, Ar t → (∀ x ∈ t.vars, Ar (v x)) → Ar (ap v t)
  | .num _, _, _ => trivial
  | .any x, _, h => h x (by simp [Tm.vars])
  | .app s ks, ⟨h1, h2⟩, h => ⟨by rw [apL_length]; exact h1, ArL_ap ks h2 h⟩
theorem ArL_ap {v : Str → Tm} : ∀ ks : List Tm, ArL ks → (∀ x ∈ Tm.varsL ks, Ar (v x)) → ArL (apL v ks)
  | [], _, _ => trivial
  | t :: r, ⟨h1, h2⟩, h => ⟨Ar_ap t h1 fun x hx => h x (by rw [Tm.varsL]; exact List.mem_append_left _ hx), ArL_ap r h2 fun x hx => h x (by rw [Tm.varsL]; exact List.mem_append_right _ hx)⟩
end
structure PT (d : Nat) (nb : List Str) (n : Nat) (t : Tm) : Prop where
  dep : t.dep ≤ d
  ar : Ar t
  nm : Names (· ∈ Un nb n) t
theorem PT.mono {d e : Nat} {nb : List Str} {m n : Nat} (h : d ≤ e) (k : m ≤ n) {t : Tm} (q : PT d nb m t) : PT e nb n t := ⟨Nat.le_trans q.dep h, q.ar, fun x hx => Un_mono k (q.nm x hx)⟩
theorem PT.kid {d : Nat} {nb : List Str} {n : Nat} {s : Str} {ks : List Tm} (q : PT d nb n (.app s ks)) {k : Tm} (hk : k ∈ ks) : PT (d - 1) nb n k := by
  refine ⟨?_, ArL_iff.mp q.ar.2 k hk, q.nm.kid hk⟩
  have h := q.dep
  rw [Tm.dep] at h
  have := depL_le.mp (Nat.le_refl (Tm.depL ks)) k hk
  omega
theorem PT.kids {d : Nat} {nb : List Str} {n : Nat} : ∀ s ks, PT d nb n (.app s ks) → ∀ k ∈ ks, PT d nb n k := fun _ _ q _ hk => (q.kid hk).mono (Nat.sub_le _ _) (Nat.le_refl _)
theorem dep_ren {f : Str → Str} : ∀ t : Tm, (ap (fun x => .any (f x)) t).dep ≤ t.dep := fun t => by
  have := dep_ap (v := fun x => .any (f x)) (M := 1) (Nat.le_refl _) t fun x _ => by rw [Tm.dep]; exact Nat.le_refl _
  omega
theorem PT.mark {d : Nat} {nb : List Str} {n : Nat} {t : Tm} (q : PT d nb 0 t) : PT d nb (n + 1) (mkT n t) := by
  refine ⟨Nat.le_trans (dep_ren t) q.dep, Ar_ap t q.ar fun _ _ => trivial, fun y hy => ?_⟩
  obtain ⟨x, hx, k⟩ := (ap_vars _ y t).mp hy
  rw [Tm.vars, List.mem_singleton] at k
  rw [k]
  rcases Un_mem.mp (q.nm x hx) with h | ⟨m, hm, _⟩
  · exact Un_mem.mpr (.inr ⟨n, Nat.lt_succ_self n, x, h, rfl⟩)
  · exact absurd hm (Nat.not_lt_zero m)
inductive GoalOk (c : Cx) (n : Nat) : Tm → Prop
  | keep : GoalOk c n (.app "keep" [])
  | eq {a b : Tm} : PT 2 c.nb n a → PT 2 c.nb n b → GoalOk c n (.app "=" [a, b])
  | no {k : Str} : GoalOk c n (.app "not" [.app c.w2 [.app k []]])
  | named {s : Str} {ks : List Tm} : s ∈ c.ws → ks.length ≤ 2 → (∀ k ∈ ks, PT 2 c.nb n k) → GoalOk c n (.app s ks)
theorem GoalOk.mono {c : Cx} {m n : Nat} (h : m ≤ n) {g : Tm} : GoalOk c m g → GoalOk c n g
  | .keep => .keep
  | .eq a b => .eq (a.mono (Nat.le_refl _) h) (b.mono (Nat.le_refl _) h)
  | .no => .no
  | .named a b k => .named a b fun t ht => (k t ht).mono (Nat.le_refl _) h
theorem GoalOk.mark {c : Cx} {n : Nat} {g : Tm} : GoalOk c 0 g → GoalOk c (n + 1) (mkT n g)
  | .keep => .keep
  | .eq a b => .eq a.mark b.mark
  | .no => .no
  | .named a b k => by
    refine .named a (by rw [apL_length]; exact b) fun t ht => ?_
    rw [apL_map] at ht
    obtain ⟨u, hu, e⟩ := List.mem_map.mp ht
    rw [← e]
    exact (k u hu).mark
theorem GoalOk.pt {c : Cx} {n : Nat} {g : Tm} (h : GoalOk c n g) : PT 3 c.nb n g := by
  have app : ∀ {s : Str} {ks : List Tm}, ks.length ≤ 2 → (∀ k ∈ ks, PT 2 c.nb n k) → PT 3 c.nb n (.app s ks) := fun {s ks} hl hk => by
    refine ⟨?_, ⟨hl, ArL_iff.mpr fun k h => (hk k h).ar⟩, fun x hx => ?_⟩
    · rw [Tm.dep]
      have := depL_le.mpr fun k h => (hk k h).dep
      omega
    · rw [Tm.vars] at hx
      obtain ⟨k, h, hx⟩ := varsL_mem.mp hx
      exact (hk k h).nm x hx
  have gd : ∀ k : Str, PT 2 c.nb n (.app k []) := fun k => ⟨by simp [Tm.dep, Tm.depL], ⟨by simp, trivial⟩, fun x hx => by simp [Tm.vars, Tm.varsL] at hx⟩
  cases h with
  | keep => exact app (by simp) fun k hk => nomatch hk
  | eq a b =>
    refine app (by simp) fun k hk => ?_
    rcases List.mem_cons.mp hk with rfl | hk
    · exact a
    · rw [List.mem_singleton.mp hk]
      exact b
  | @no k =>
      refine app (by simp) fun t hk => ?_
      rw [List.mem_singleton.mp hk]
      refine ⟨by simp [Tm.dep, Tm.depL], ⟨by simp, ⟨⟨by simp, trivial⟩, trivial⟩⟩, fun x hx => by simp [Tm.vars, Tm.varsL] at hx⟩
  | named a b k => exact app b k
theorem GoalOk.sgn_app {c : Cx} {n : Nat} {g : Tm} (h : GoalOk c n g) : g = .app (sgn g) (kidsT g) := by cases h <;> rfl
structure RuleOk (c : Cx) (r : Rule) : Prop where
  head : ∃ s ks, r.1 = .app s ks ∧ s ∈ c.ws ∧ ks.length ≤ 2 ∧ ∀ k ∈ ks, PT 2 c.nb 0 k
  body : ∀ b ∈ r.2, GoalOk c 0 b
  low : costL c r.2 + 1 ≤ cost c r.1
  few : r.2.length ≤ 2
structure CxOk (c : Cx) : Prop where
  plain : ∀ x ∈ c.nb, Plain x
  three : c.nb.length ≤ 3
  word : ∀ s ∈ c.ws, s ≠ "keep" ∧ s ≠ "=" ∧ s ≠ "not" ∧ s ≠ ":=" ∧ s ≠ "<" ∧ s ≠ "<="
  w02 : c.w2 ≠ c.w0
  w12 : c.w2 ≠ c.w1
  rule : ∀ r ∈ c.R, RuleOk c r
  few : c.R.length ≤ 6
theorem sgn_mkT (n : Nat) (t : Tm) : sgn (mkT n t) = sgn t := by cases t <;> rfl
theorem cost_mkT (c : Cx) (n : Nat) (t : Tm) : cost c (mkT n t) = cost c t := by unfold cost; rw [sgn_mkT]
theorem costL_mkT (c : Cx) (n : Nat) : ∀ l : List Tm, costL c (l.map (mkT n)) = costL c l
  | [] => rfl
  | t :: l => by rw [List.map_cons, costL, costL, cost_mkT, costL_mkT c n l]
theorem cost_pos (c : Cx) (g : Tm) : 1 ≤ cost c g := by unfold cost; split <;> (try split) <;> omega
theorem cost_le (c : Cx) (g : Tm) : cost c g ≤ 7 := by unfold cost; split <;> (try split) <;> omega
theorem RuleOk.headOk {c : Cx} {r : Rule} (h : RuleOk c r) : GoalOk c 0 r.1 := let ⟨_, _, e, a, b, k⟩ := h.head; e ▸ .named a b k
theorem same_cost {c : Cx} {h g : Tm} (e : same h g = true) : cost c h = cost c g := by
  unfold same at e
  rw [Bool.and_eq_true] at e
  unfold cost
  rw [of_decide_eq_true e.1]
theorem CxOk.no_cost {c : Cx} (ok : CxOk c) {k : Str} : cost c (.app c.w2 [.app k []]) = 1 := by
  unfold cost sgn
  rw [if_neg ok.w02, if_neg ok.w12]
/-! ### enough fuel -/
theorem waysG_congr {a b : List Tm → Puts → Way → Fnd × Bool} {g : Tm} {p : Puts} {w : Way} : ∀ {R : List (Rule × Nat)}, (∀ x ∈ R, same x.1.1 g = true → ∀ q w', a (x.1.2.map (mkT w.length)) q w' = b (x.1.2.map (mkT w.length)) q w') → waysG a g p w R = waysG b g p w R
  | [], _ => rfl
  | (r, k) :: R, h => by
    have ih := waysG_congr (p := p) (R := R) fun x hx => h x (List.mem_cons_of_mem _ hx)
    rw [waysG, waysG, ih]
    by_cases e : same r.1 g = true
    · rw [if_pos e, if_pos e]
      have h1 := h (r, k) List.mem_cons_self e
      cases uni unifuel g (mkT w.length r.1) p with
      | none => rfl
      | some q =>
        simp only
        rw [h1]
    · rw [if_neg e, if_neg e]
theorem laterG_congr {a b : Puts → Way → Fnd × Bool} (h : ∀ q w, a q w = b q w) (l : Fnd) : laterG a l = laterG b l := by
  have : a = b := funext fun q => funext fun w => h q w
  rw [this]
theorem zip_rule {R : List Rule} {x : Rule × Nat} (h : x ∈ R.zipIdx) : x.1 ∈ R := by
  obtain ⟨r, k⟩ := x
  have := List.mem_zipIdx h
  rw [this.2.2]
  exact List.getElem_mem _
theorem A_fuel {c : Cx} (ok : CxOk c) : ∀ (n : Nat) (goals : List Tm) (p : Puts) (w : Way), costL c goals ≤ n → (∀ g ∈ goals, ∃ m, GoalOk c m g) → A c.R (n + 1) goals p w = A c.R n goals p w
  | n, [], p, w, _, _ => by rw [A_nil, A_nil]
  | 0, g :: rest, p, w, h, _ => by
    rw [costL] at h
    have := cost_pos c g
    omega
  | n + 1, g :: rest, p, w, h, hg => by
    rw [costL] at h
    have hc := cost_pos c g
    have hr : ∀ q w', A c.R (n + 1) rest q w' = A c.R n rest q w' := fun q w' => A_fuel ok n rest q w' (by omega) fun x hx => hg x (List.mem_cons_of_mem _ hx)
    have hw : ∀ i, cost c i ≤ cost c g → ∀ q w', waysG (A c.R (n + 1)) i q w' c.R.zipIdx = waysG (A c.R n) i q w' c.R.zipIdx := fun i hi q w' => by
      refine waysG_congr fun x hx e q2 w2 => ?_
      have r := ok.rule x.1 (zip_rule hx)
      have e' := same_cost (c := c) e
      have := r.low
      refine A_fuel ok n _ q2 w2 (by rw [costL_mkT]; omega) fun y hy => ?_
      obtain ⟨b, hb, eb⟩ := List.mem_map.mp hy
      exact ⟨_, eb ▸ (r.body b hb).mark⟩
    rw [A, A]
    by_cases ek : sgn g = "keep"
    · rw [if_pos ek, if_pos ek, hr]
    · rw [if_neg ek, if_neg ek, laterG_congr hr]
      refine congrArg _ ?_
      unfold laterOf
      by_cases e1 : sgn g = "="
      · rw [if_pos e1, if_pos e1]
      · rw [if_neg e1, if_neg e1]
        by_cases e2 : sgn g = "not"
        · rw [if_pos e2, if_pos e2]
          obtain ⟨m, G⟩ := hg g List.mem_cons_self
          cases G with
          | keep => exact absurd rfl ek
          | eq _ _ => exact absurd rfl e1
          | named a _ _ => exact absurd e2 (ok.word _ a).2.2.1
          | @no k =>
            have := hw (.app c.w2 [.app k []]) (by rw [ok.no_cost]; exact hc) p w
            exact congrArg (noneYet p w) this
        · rw [if_neg e2, if_neg e2, hw g (Nat.le_refl _)]
def Az (c : Cx) (goals : List Tm) (p : Puts) (w : Way) : Fnd × Bool := A c.R (costL c goals) goals p w
theorem Az_of {c : Cx} (ok : CxOk c) {n : Nat} {goals : List Tm} {p : Puts} {w : Way} (h : costL c goals ≤ n) (hg : ∀ g ∈ goals, ∃ m, GoalOk c m g) : A c.R n goals p w = Az c goals p w := by
  obtain ⟨k, rfl⟩ := Nat.exists_eq_add_of_le h
  clear h
  induction k with
  | zero => rfl
  | succ k ih => rw [← Nat.add_assoc, A_fuel ok _ goals p w (Nat.le_add_right _ _) hg, ih]
theorem Az_nil (c : Cx) (p : Puts) (w : Way) : Az c [] p w = ([(p, w)], false) := A_nil _ _ _ _
theorem Az_cons {c : Cx} (ok : CxOk c) {g : Tm} {rest : List Tm} (p : Puts) (w : Way) (hg : ∀ x ∈ g :: rest, ∃ m, GoalOk c m x) :
    Az c (g :: rest) p w = if sgn g = "keep" then ((Az c rest p (w ++ [0])).1, true) else laterG (Az c rest) (laterOf (Az c) c.R g p w) := by
  have hc := cost_pos c g
  obtain ⟨n, hn⟩ : ∃ n, costL c (g :: rest) = n + 1 := ⟨cost c g + costL c rest - 1, by rw [costL]; omega⟩
  have hn' := hn
  rw [costL] at hn'
  have hr : ∀ q w', A c.R n rest q w' = Az c rest q w' := fun q w' => Az_of ok (by omega) fun x hx => hg x (List.mem_cons_of_mem _ hx)
  have hw : ∀ i, cost c i ≤ cost c g → ∀ q w', waysG (A c.R n) i q w' c.R.zipIdx = waysG (Az c) i q w' c.R.zipIdx := fun i hi q w' => by
    refine waysG_congr fun x hx e q2 w2 => ?_
    have r := ok.rule x.1 (zip_rule hx)
    have e' := same_cost (c := c) e
    have := r.low
    refine Az_of ok (by rw [costL_mkT]; omega) fun y hy => ?_
    obtain ⟨b, hb, eb⟩ := List.mem_map.mp hy
    exact ⟨_, eb ▸ (r.body b hb).mark⟩
  unfold Az
  rw [hn, A]
  by_cases ek : sgn g = "keep"
  · rw [if_pos ek, if_pos ek, hr] ; rfl
  · rw [if_neg ek, if_neg ek]
    rw [laterG_congr (a := A c.R n rest) (b := Az c rest) hr]
    refine congrArg _ ?_
    unfold laterOf
    by_cases e1 : sgn g = "="
    · rw [if_pos e1, if_pos e1]
    · rw [if_neg e1, if_neg e1]
      by_cases e2 : sgn g = "not"
      · rw [if_pos e2, if_pos e2]
        obtain ⟨m, G⟩ := hg g List.mem_cons_self
        cases G with
        | keep => exact absurd rfl ek
        | eq _ _ => exact absurd rfl e1
        | named a _ _ => exact absurd e2 (ok.word _ a).2.2.1
        | @no k =>
          have := hw (.app c.w2 [.app k []]) (by rw [ok.no_cost]; exact hc) p w
          exact congrArg (noneYet p w) this
      · rw [if_neg e2, if_neg e2, hw g (Nat.le_refl _)]; rfl
/-! ### what a stack of frames still gives -/
abbrev Out := Fnd × Option Nat
def sq (a b : Out) : Out := match a.2 with
  | some c => (a.1, some c)
  | none => (a.1 ++ b.1, b.2)
def seqs (k : Puts → Way → Out) : Fnd → Out
  | [] => ([], none)
  | x :: l => sq (k x.1 x.2) (seqs k l)
def En (k : Puts → Way → Out) (m : Fnd × Bool) (h : Nat) : Out := sq (seqs k m.1) ([], if m.2 = true then some h else none)
theorem sq_assoc (a b d : Out) : sq (sq a b) d = sq a (sq b d) := by
  obtain ⟨a1, a2⟩ := a
  obtain ⟨b1, b2⟩ := b
  cases a2 <;> cases b2 <;> simp [sq]
theorem sq_nil (a : Out) : sq a ([], none) = a := by
  obtain ⟨a1, a2⟩ := a
  cases a2 <;> simp [sq]
theorem nil_sq (a : Out) : sq ([], none) a = a := by simp [sq]
theorem sq_cut {a b : Out} {h : Nat} : sq (sq a ([], some h)) b = sq a ([], some h) := by
  obtain ⟨a1, a2⟩ := a
  cases a2 <;> simp [sq]
theorem seqs_append (k : Puts → Way → Out) : ∀ l m : Fnd, seqs k (l ++ m) = sq (seqs k l) (seqs k m)
  | [], m => by rw [List.nil_append, seqs, nil_sq]
  | x :: l, m => by rw [List.cons_append, seqs, seqs, seqs_append k l m, sq_assoc]
theorem En_later (k : Puts → Way → Out) (all : Puts → Way → Fnd × Bool) (h : Nat) : ∀ l : Fnd, En k (laterG all l) h = seqs (fun q w => En k (all q w) h) l
  | [] => rfl
  | (q, w) :: l => by
    have ih := En_later k all h l
    rw [laterG, seqs, ← ih]
    by_cases e : (all q w).2 = true
    · simp only [if_pos e]
      unfold En
      simp only [if_pos e, if_true]
      rw [sq_cut]
    · simp only [if_neg e]
      unfold En
      simp only [if_neg e]
      rw [seqs_append, sq_assoc, sq_nil]
def Dn (c : Cx) (fin : Option Nat) : List (List Tm × Nat) → Puts → Way → Out
  | [], p, w => match fin with
    | none => ([(p, w)], none)
    | some h => ([], some h)
  | s :: segs, p, w => En (Dn c fin segs) (Az c s.1 p w) s.2
structure LF where
  segs : List (List Tm × Nat)
  fin : Option Nat
  p : Puts
  w : Way
def LF.out (c : Cx) (f : LF) : Out := Dn c f.fin f.segs f.p f.w
def cutTo {α : Type} : Option Nat → List α → List α
  | none, l => l
  | some h, l => l.drop (l.length - h)
theorem cutTo_len {α : Type} (o : Option Nat) (l : List α) : (cutTo o l).length ≤ l.length := by
  cases o with
  | none => exact Nat.le_refl _
  | some h => rw [cutTo, List.length_drop]; omega
def rem (c : Cx) : List LF → Fnd
  | [] => []
  | f :: r => (f.out c).1 ++ rem c (cutTo (f.out c).2 r)
termination_by l => l.length
decreasing_by exact Nat.lt_succ_of_le (cutTo_len _ _)
def Vn (c : Cx) (below : List LF) (o : Out) : Fnd := o.1 ++ rem c (cutTo o.2 below)
theorem rem_cons (c : Cx) (f : LF) (r : List LF) : rem c (f :: r) = Vn c r (f.out c) := by rw [rem, Vn]
theorem Vn_sq (c : Cx) (below : List LF) (a b : Out) : Vn c below (sq a b) = match a.2 with | some h => Vn c below a | none => a.1 ++ Vn c below b := by
  obtain ⟨a1, a2⟩ := a
  cases a2 with
  | none => simp only [sq, Vn, List.append_assoc]
  | some h => rfl
def HOk (fin : Option Nat) : Nat → List (List Tm × Nat) → Prop
  | j, [] => ∀ h, fin = some h → h ≤ j
  | j, s :: segs => s.2 ≤ j ∧ HOk fin s.2 segs
theorem HOk.mono {fin : Option Nat} {i j : Nat} (h : i ≤ j) : ∀ {segs : List (List Tm × Nat)}, HOk fin i segs → HOk fin j segs
  | [], k => fun x e => Nat.le_trans (k x e) h
  | _ :: _, k => ⟨Nat.le_trans k.1 h, k.2⟩
theorem sq_le {a b : Out} {j : Nat} (h1 : ∀ h, a.2 = some h → h ≤ j) (h2 : ∀ h, b.2 = some h → h ≤ j) : ∀ h, (sq a b).2 = some h → h ≤ j := by
  obtain ⟨a1, a2⟩ := a
  cases a2 with
  | none => exact h2
  | some x => exact h1
theorem seqs_le {k : Puts → Way → Out} {j : Nat} (hk : ∀ q w h, (k q w).2 = some h → h ≤ j) : ∀ (l : Fnd) (h : Nat), (seqs k l).2 = some h → h ≤ j
  | [], _, e => nomatch e
  | x :: l, h, e => sq_le (hk x.1 x.2) (fun h e => seqs_le hk l h e) h e
theorem Dn_le {c : Cx} {fin : Option Nat} : ∀ {segs : List (List Tm × Nat)} {j : Nat}, HOk fin j segs → ∀ p w h, (Dn c fin segs p w).2 = some h → h ≤ j
  | [], j, H, p, w, h, e => by
    cases fin with
    | none => exact nomatch e
    | some x => exact H h (by rw [← e]; rfl)
  | s :: segs, j, H, p, w, h, e => by
    refine sq_le (fun h e => ?_) (fun h e => ?_) h e
    · exact Nat.le_trans (seqs_le (fun q w h e => Dn_le H.2 q w h e) _ h e) H.1
    · by_cases k : (Az c s.1 p w).2 = true
      · simp only [if_pos k] at e
        cases e
        exact H.1
      · simp only [if_neg k] at e
        exact nomatch e
theorem cut_cut {α : Type} {l : List α} {h i : Nat} (hi : i ≤ h) (hl : h ≤ l.length) : cutTo (some i) (cutTo (some h) l) = cutTo (some i) l := by
  simp only [cutTo, List.length_drop, List.drop_drop]
  congr 1
  omega
theorem cut_all {α : Type} {l : List α} {h : Nat} (hl : l.length ≤ h) : cutTo (some h) l = l := by
  rw [cutTo, Nat.sub_eq_zero_of_le hl, List.drop_zero]
theorem cut_over {α : Type} {l m : List α} {h : Nat} (hl : h ≤ m.length) : cutTo (some h) (l ++ m) = cutTo (some h) m := by
  simp only [cutTo, List.length_append]
  rw [List.drop_append, List.drop_eq_nil_of_le (by omega), List.nil_append]
  congr 1
  omega
theorem cut_length {α : Type} {l : List α} {h : Nat} (hl : h ≤ l.length) : (cutTo (some h) l).length = h := by rw [cutTo, List.length_drop]; omega
/-! the steps -/
theorem step_empty (c : Cx) (fin : Option Nat) (h : Nat) (segs : List (List Tm × Nat)) (p : Puts) (w : Way) : Dn c fin (([], h) :: segs) p w = Dn c fin segs p w := by
  rw [Dn, Az_nil, En]
  simp only [seqs, sq_nil, Bool.false_eq_true, if_false]
theorem step_keep {c : Cx} (ok : CxOk c) {fin : Option Nat} {g : Tm} {rest : List Tm} {h : Nat} {segs : List (List Tm × Nat)} {p : Puts} {w : Way} {below : List LF}
    (hg : ∀ x ∈ g :: rest, ∃ m, GoalOk c m x) (ek : sgn g = "keep") (H : HOk fin below.length ((g :: rest, h) :: segs)) :
    rem c (⟨(g :: rest, h) :: segs, fin, p, w⟩ :: below) = rem c (⟨(rest, h) :: segs, fin, p, w ++ [0]⟩ :: cutTo (some h) below) := by
  rw [rem_cons, rem_cons]
  unfold LF.out
  simp only [Dn]
  rw [Az_cons ok p w hg, if_pos ek]
  unfold En
  rw [Vn_sq, Vn_sq]
  have hh : h ≤ below.length := H.1
  have le := seqs_le (k := Dn c fin segs) (fun q w x e => Dn_le H.2 q w x e) (Az c rest p (w ++ [0])).1
  generalize seqs (Dn c fin segs) (Az c rest p (w ++ [0])).1 = s at *
  obtain ⟨s1, s2⟩ := s
  cases s2 with
  | some i =>
    unfold Vn
    simp only
    rw [cut_cut (le i rfl) hh]
  | none =>
    unfold Vn
    simp only [if_true]
    by_cases e : (Az c rest p (w ++ [0])).2 = true
    · rw [if_pos e, cut_cut (Nat.le_refl _) hh]
    · rw [if_neg e]; rfl
theorem step_later {c : Cx} (ok : CxOk c) {fin : Option Nat} {g : Tm} {rest : List Tm} {h : Nat} {segs : List (List Tm × Nat)} (p : Puts) (w : Way)
    (hg : ∀ x ∈ g :: rest, ∃ m, GoalOk c m x) (ek : sgn g ≠ "keep") : Dn c fin ((g :: rest, h) :: segs) p w = seqs (Dn c fin ((rest, h) :: segs)) (laterOf (Az c) c.R g p w) := by
  rw [Dn, Az_cons ok p w hg, if_neg ek, En_later]
  rfl
def altsL (c : Cx) (g : Tm) (p : Puts) (w : Way) (F : List Tm → Puts → Way → LF) : List (Rule × Nat) → List LF
  | [] => []
  | (r, k) :: R =>
    if same r.1 g = true then
      match uni unifuel g (mkT w.length r.1) p with
      | none => altsL c g p w F R
      | some q => F (r.2.map (mkT w.length)) q (w ++ [k + 1]) :: altsL c g p w F R
    else altsL c g p w F R
theorem rem_alts {c : Cx} {g : Tm} {p : Puts} {w : Way} {K : Puts → Way → Out} {F : List Tm → Puts → Way → LF} {below : List LF} (hK : ∀ q w x, (K q w).2 = some x → x ≤ below.length)
    (hF : ∀ body q w, (F body q w).out c = En K (Az c body q w) below.length) : ∀ R : List (Rule × Nat), Vn c below (seqs K (waysG (Az c) g p w R)) = rem c (altsL c g p w F R ++ below)
  | [] => by rw [waysG, altsL, seqs, Vn, List.nil_append, List.nil_append]; rfl
  | (r, k) :: R => by
    have ih := rem_alts (g := g) (p := p) (w := w) hK hF R
    rw [waysG, altsL]
    by_cases e : same r.1 g = true
    · rw [if_pos e, if_pos e]
      cases uni unifuel g (mkT w.length r.1) p with
      | none => exact ih
      | some q =>
        simp only
        rw [List.cons_append, rem_cons, hF]
        have le := seqs_le hK (Az c (r.2.map (mkT w.length)) q (w ++ [k + 1])).1
        unfold En
        rw [Vn_sq]
        by_cases m : (Az c (r.2.map (mkT w.length)) q (w ++ [k + 1])).2 = true
        · rw [if_pos m]
          generalize seqs K (Az c (r.2.map (mkT w.length)) q (w ++ [k + 1])).1 = s at *
          obtain ⟨s1, s2⟩ := s
          cases s2 with
          | some i =>
            unfold Vn
            simp only
            rw [cut_over (le i rfl)]
          | none =>
            unfold Vn
            simp only [if_pos m]
            rw [cut_over (Nat.le_refl _), cut_all (Nat.le_refl _)]
            rfl
        · rw [if_neg m, seqs_append, Vn_sq]
          generalize seqs K (Az c (r.2.map (mkT w.length)) q (w ++ [k + 1])).1 = s at *
          obtain ⟨s1, s2⟩ := s
          cases s2 with
          | some i =>
            unfold Vn
            simp only
            rw [cut_over (le i rfl)]
          | none =>
            simp only [if_neg m]
            rw [ih]
            unfold Vn
            simp only [cutTo, List.nil_append]
    · rw [if_neg e, if_neg e]
      exact ih
end Gt
set_option Elab.async false
set_option linter.all false
/-! The program's frames against the law's. -/
namespace Gt
open PySem L2
abbrev MG := Option Tm × Nat
structure MF where
  gs : List MG
  p : Puts
  w : Way
def flat (segs : List (List Tm × Nat)) : List (Tm × Nat) := segs.flatMap fun s => s.1.map fun g => (g, s.2)
theorem flat_cons (gs : List Tm) (h : Nat) (segs : List (List Tm × Nat)) : flat ((gs, h) :: segs) = gs.map (fun g => (g, h)) ++ flat segs := rfl
def notPart (g : Tm) : Option Tm := if sgn g = "not" then some g else none
def key (x : Tm × Nat) : Nat × Str × Nat × Option Tm := (x.2, sgn x.1, (kidsT x.1).length, notPart x.1)
def tailM : Option Nat → List MG
  | none => []
  | some h => [(none, h)]
def asT (asked : List Str) : List Tm := asked.map .any
def mgs (M : List (Tm × Nat)) : List MG := M.map fun x => (some x.1, x.2)
def costF (c : Cx) (M : List (Tm × Nat)) : Nat := costL c (M.map (·.1))
structure FRel (c : Cx) (asked : List Str) (n j : Nat) (f : LF) (m : MF) (M : List (Tm × Nat)) : Prop where
  way : f.fin = none → m.w = f.w
  wl : m.w.length ≤ f.w.length + 1
  ok1 : OKs (PT 41 c.nb n) m.p
  ok2 : OKs (PT 3 c.nb f.w.length) f.p
  gs : m.gs = mgs M ++ tailM f.fin
  keys : M.map key = (flat f.segs).map key
  g1 : ∀ x ∈ M, GoalOk c n x.1
  g2 : ∀ x ∈ flat f.segs, GoalOk c f.w.length x.1
  eqi : EqI (look m.p) (asT asked ++ M.map (·.1)) (look f.p) (asT asked ++ (flat f.segs).map (·.1))
  hok : HOk f.fin j f.segs
  room : f.w.length + costF c (flat f.segs) ≤ 9
  inn : f.fin ≠ none → ∀ x ∈ flat f.segs, sgn x.1 = c.w2
theorem OKs.mono {P Q : Tm → Prop} (h : ∀ t, P t → Q t) {p : Puts} (k : OKs P p) : OKs Q p := ⟨k.acy, fun q hq => ⟨h _ (k.st q hq).1, h _ (k.st q hq).2⟩, k.nd⟩
theorem len_cost (c : Cx) : ∀ L : List (Tm × Nat), L.length ≤ costF c L
  | [] => Nat.zero_le _
  | x :: L => by
    have h1 := len_cost c L
    have h2 := cost_pos c x.1
    show L.length + 1 ≤ cost c x.1 + costF c L
    omega
theorem FRel.few {c : Cx} {asked : List Str} {n j : Nat} {f : LF} {m : MF} {M : List (Tm × Nat)} (k : FRel c asked n j f m M) : M.length ≤ 9 := by
  have h1 := congrArg List.length k.keys
  rw [List.length_map, List.length_map] at h1
  have h2 := len_cost c (flat f.segs)
  have h3 := k.room
  omega
theorem FRel.mono {c : Cx} {asked : List Str} {n n' j : Nat} {f : LF} {m : MF} {M : List (Tm × Nat)} (h : n ≤ n') (k : FRel c asked n j f m M) : FRel c asked n' j f m M :=
  { k with ok1 := k.ok1.mono fun t q => q.mono (Nat.le_refl _) h, g1 := fun x hx => (k.g1 x hx).mono h }
def RS (c : Cx) (asked : List Str) (n : Nat) : List LF → List MF → Prop
  | [], [] => True
  | f :: r, m :: s => (∃ M, FRel c asked n r.length f m M) ∧ RS c asked n r s
  | [], _ :: _ => False
  | _ :: _, [] => False
theorem RS.mono {c : Cx} {asked : List Str} {n n' : Nat} (h : n ≤ n') : ∀ {l : List LF} {m : List MF}, RS c asked n l m → RS c asked n' l m
  | [], [], _ => trivial
  | _ :: _, _ :: _, ⟨⟨M, a⟩, b⟩ => ⟨⟨M, a.mono h⟩, b.mono h⟩
theorem RS.len {c : Cx} {asked : List Str} {n : Nat} : ∀ {l : List LF} {m : List MF}, RS c asked n l m → l.length = m.length
  | [], [], _ => rfl
  | _ :: _, _ :: _, ⟨_, b⟩ => by rw [List.length_cons, List.length_cons, b.len]
theorem RS.drop {c : Cx} {asked : List Str} {n : Nat} : ∀ (i : Nat) {l : List LF} {m : List MF}, RS c asked n l m → RS c asked n (l.drop i) (m.drop i)
  | 0, _, _, h => h
  | _ + 1, [], [], _ => trivial
  | i + 1, _ :: _, _ :: _, ⟨_, b⟩ => b.drop i
theorem RS.cut {c : Cx} {asked : List Str} {n : Nat} {l : List LF} {m : List MF} (h : RS c asked n l m) (o : Option Nat) : RS c asked n (cutTo o l) (cutTo o m) := by
  cases o with
  | none => exact h
  | some i =>
    show RS c asked n (l.drop (l.length - i)) (m.drop (m.length - i))
    rw [h.len]
    exact h.drop _
theorem s_ek : ("=" : Str) ≠ "keep" := by decide +kernel
theorem s_en : ("=" : Str) ≠ "not" := by decide +kernel
theorem s_nk : ("not" : Str) ≠ "keep" := by decide +kernel
theorem s_ne : ("not" : Str) ≠ "=" := by decide +kernel
/-! ### the first goal of the first piece -/
theorem flat_nil {c : Cx} {fin : Option Nat} : ∀ {segs : List (List Tm × Nat)} {j : Nat}, flat segs = [] → HOk fin j segs → (∀ p w, Dn c fin segs p w = Dn c fin [] p w) ∧ HOk fin j []
  | [], _, _, H => ⟨fun _ _ => rfl, H⟩
  | (gs, h) :: segs, j, e, H => by
    rw [flat_cons] at e
    obtain ⟨e1, e2⟩ := List.append_eq_nil_iff.mp e
    have e1 := List.map_eq_nil_iff.mp e1
    subst e1
    obtain ⟨a, b⟩ := flat_nil (c := c) e2 H.2
    exact ⟨fun p w => by rw [step_empty, a], HOk.mono H.1 (segs := []) b⟩
theorem flat_head {c : Cx} {fin : Option Nat} {g : Tm} {h : Nat} {t : List (Tm × Nat)} : ∀ {segs : List (List Tm × Nat)} {j : Nat}, flat segs = (g, h) :: t → HOk fin j segs →
    ∃ rs segs', t = flat ((rs, h) :: segs') ∧ (∀ p w, Dn c fin segs p w = Dn c fin ((g :: rs, h) :: segs') p w) ∧ HOk fin j ((g :: rs, h) :: segs')
  | [], _, e, _ => nomatch e
  | ([], i) :: segs, j, e, H => by
    obtain ⟨rs, segs', e1, e2, e3⟩ := flat_head (c := c) (segs := segs) (by rw [flat_cons] at e; exact e) H.2
    exact ⟨rs, segs', e1, fun p w => by rw [step_empty, e2], e3.mono H.1⟩
  | (x :: gs, i) :: segs, j, e, H => by
    rw [flat_cons, List.map_cons, List.cons_append] at e
    injection e with e1 e2
    injection e1 with e0 e1
    subst e0
    subst e1
    exact ⟨gs, segs, e2.symm, fun _ _ => rfl, H⟩
/-! ### what a making one tells -/
theorem mgu_iff {P : Tm → Prop} {p : Puts} {a b : Tm} {r : Option Puts} (h : Mgu P p [(a, b)] r) (v : Str → Tm) : (∃ q, r = some q ∧ Sol (look q) v) ↔ Sol (look p) v ∧ ap v a = ap v b := by
  cases r with
  | none =>
    constructor
    · rintro ⟨q, e, _⟩; exact nomatch e
    · rintro ⟨hv, e⟩
      exact absurd (fun c hc => by rw [List.mem_singleton.mp hc]; exact e) (h v hv)
  | some q =>
    obtain ⟨_, _, h3⟩ := h
    constructor
    · rintro ⟨q', e, hv⟩
      cases e
      obtain ⟨x, y⟩ := (h3 v).mp hv
      exact ⟨x, y (a, b) (List.mem_singleton.mpr rfl)⟩
    · rintro ⟨hv, e⟩
      exact ⟨q, rfl, (h3 v).mpr ⟨hv, fun c hc => by rw [List.mem_singleton.mp hc]; exact e⟩⟩
theorem mgu_ok {P : Tm → Prop} {p : Puts} {st : List (Tm × Tm)} {q : Puts} (h : Mgu P p st (some q)) : OKs P q := h.1
theorem mgu_sol {P : Tm → Prop} {p : Puts} {st : List (Tm × Tm)} {r : Option Puts} (h : Mgu P p st r) : ∀ q, r = some q → ∃ v, Sol (look q) v := fun q e => by
  rw [e] at h
  exact ⟨_, h.1.fix.sol⟩
/-- the law's fuel is enough -/
theorem deep_ok {c : Cx} (ok : CxOk c) {n : Nat} (hn : n ≤ 10) {p : Puts} {t : Tm} (ht : PT 3 c.nb n t) : Deep (PT 3 c.nb n) p unifuel t := fun q hq _ => by
  have h := hq.dep (U := Un c.nb n) (fun x hx => hx.nm x (by simp [Tm.vars])) (D := 2) (fun t h => h.dep) t ht
  have hl := Un_len c.nb n
  have h3 := ok.three
  have : (Un c.nb n).length ≤ 3 * 11 := by
    rw [hl]
    exact Nat.mul_le_mul h3 (by omega)
  unfold unifuel
  omega
theorem uni_ok {c : Cx} (ok : CxOk c) {n : Nat} (hn : n ≤ 10) {p : Puts} (h : OKs (PT 3 c.nb n) p) {a b : Tm} (ha : PT 3 c.nb n a) (hb : PT 3 c.nb n b) : Mgu (PT 3 c.nb n) p [(a, b)] (uni unifuel a b p) :=
  uni_spec PT.kids unifuel a b p h ha hb (deep_ok ok hn ha) (deep_ok ok hn hb)
theorem pnames {c : Cx} (ok : CxOk c) {d n : Nat} {p : Puts} (h : OKs (PT d c.nb n) p) : PNames (Old n) (look p) := fun x t e => by
  obtain ⟨h1, h2⟩ := h.st (x, t) (look_some e)
  exact ⟨Un_old ok.plain (h2.nm x (by simp [Tm.vars])), fun y hy => Un_old ok.plain (h1.nm y hy)⟩
theorem goal_names {c : Cx} (ok : CxOk c) {n : Nat} {g : Tm} (h : GoalOk c n g) : Names (Old n) g := fun x hx => Un_old ok.plain (h.pt.nm x hx)
theorem plain_names {c : Cx} (ok : CxOk c) {g : Tm} (h : GoalOk c 0 g) : Names Plain g := fun x hx => by
  rcases Un_mem.mp (h.pt.nm x hx) with h | ⟨m, hm, _⟩
  · exact ok.plain x h
  · exact absurd hm (Nat.not_lt_zero m)
theorem asked_names {c : Cx} (ok : CxOk c) {asked : List Str} (ha : ∀ x ∈ asked, x ∈ c.nb) (n : Nat) : ∀ t ∈ asT asked, Names (Old n) t := fun t ht y hy => by
  obtain ⟨x, hx, e⟩ := List.mem_map.mp ht
  rw [← e, Tm.vars, List.mem_singleton] at hy
  rw [hy]
  exact .inl (ok.plain x (ha x hx))
theorem map_pair {α β : Type} (l : List α) (h : β) : (l.map fun g => (g, h)).map (·.1) = l := by
  rw [List.map_map]
  exact List.map_id' l
theorem costL_append (c : Cx) (a b : List Tm) : costL c (a ++ b) = costL c a + costL c b := by
  induction a with
  | nil => rw [List.nil_append, costL, Nat.zero_add]
  | cons t r ih => rw [List.cons_append, costL, costL, ih, Nat.add_assoc]
theorem key_parts {x y : Tm × Nat} (h : key x = key y) : x.2 = y.2 ∧ sgn x.1 = sgn y.1 ∧ (kidsT x.1).length = (kidsT y.1).length ∧ notPart x.1 = notPart y.1 := by
  unfold key at h
  injection h with h1 h
  injection h with h2 h
  injection h with h3 h4
  exact ⟨h1, h2, h3, h4⟩
theorem mark_key (m n h : Nat) {g : Tm} {c : Cx} (ok : CxOk c) (k : GoalOk c 0 g) : key (mkT m g, h) = key (mkT n g, h) := by
  unfold key
  rw [sgn_mkT, sgn_mkT]
  cases k with
  | keep => rfl
  | eq _ _ => rfl
  | no => rfl
  | @named s ks a b _ =>
    have : notPart (mkT m (.app s ks)) = notPart (mkT n (.app s ks)) := by
      unfold notPart
      rw [sgn_mkT, sgn_mkT, if_neg (show ¬ sgn (Tm.app s ks) = "not" from (ok.word s a).2.2.1), if_neg (show ¬ sgn (Tm.app s ks) = "not" from (ok.word s a).2.2.1)]
    rw [this]
    have l : ∀ i, (kidsT (mkT i (.app s ks))).length = ks.length := fun i => apL_length _ _
    rw [l m, l n]
section
variable {c : Cx} {asked : List Str} {n : Nat} {f : LF} {m : MF} {M : List (Tm × Nat)} {r : List LF} {s : List MF}
/-- no goal is left -/
theorem rel_told (K : FRel c asked n r.length f m M) (e : m.gs = []) : rem c (f :: r) = (f.p, f.w) :: rem c r ∧ m.w = f.w ∧ toldL ((asT asked).map (rd m.p)) = toldL ((asT asked).map (rd f.p)) := by
  have gs := K.gs
  rw [e] at gs
  obtain ⟨e1, e2⟩ := List.append_eq_nil_iff.mp gs.symm
  have eM : M = [] := List.map_eq_nil_iff.mp e1
  have ef : f.fin = none := by
    cases h : f.fin with
    | none => rfl
    | some x => rw [h] at e2; exact nomatch e2
  have eF : flat f.segs = [] := by
    have := K.keys
    rw [eM] at this
    exact List.map_eq_nil_iff.mp this.symm
  obtain ⟨a, _⟩ := flat_nil (c := c) eF K.hok
  refine ⟨?_, K.way ef, ?_⟩
  · rw [rem_cons]
    unfold LF.out
    rw [a, ef]
    rfl
  · have q := K.eqi
    rw [eM, eF] at q
    exact told_both K.ok1 K.ok2 (head_both rfl q)
/-- the marker -/
theorem rel_mark (K : FRel c asked n r.length f m M) {h : Nat} {t : List MG} (e : m.gs = (none, h) :: t) : rem c (f :: r) = rem c (cutTo (some h) r) ∧ h ≤ r.length := by
  have gs := K.gs
  rw [e] at gs
  have eM : M = [] := by
    cases M with
    | nil => rfl
    | cons x M => injection gs with q _; injection q with q _; exact nomatch q
  rw [eM] at gs
  have ef : f.fin = some h := by
    cases k : f.fin with
    | none => rw [k] at gs; exact nomatch gs
    | some x =>
      rw [k] at gs
      injection gs with q _
      injection q with _ q
      rw [q]
  have eF : flat f.segs = [] := by
    have := K.keys
    rw [eM] at this
    exact List.map_eq_nil_iff.mp this.symm
  obtain ⟨a, b⟩ := flat_nil (c := c) eF K.hok
  refine ⟨?_, b h ef⟩
  rw [rem_cons]
  unfold LF.out
  rw [a, ef]
  rfl
/-- what stands at the front of a frame -/
structure Front (c : Cx) (asked : List Str) (n : Nat) (f : LF) (r : List LF) (m : MF) (g : Tm) (h : Nat) (t : List MG) (g2 : Tm) (N : List (Tm × Nat)) (rs : List Tm) (segs : List (List Tm × Nat)) : Prop where
  ok : FRel c asked n r.length ⟨(g2 :: rs, h) :: segs, f.fin, f.p, f.w⟩ m ((g, h) :: N)
  rem : rem c (f :: r) = rem c (⟨(g2 :: rs, h) :: segs, f.fin, f.p, f.w⟩ :: r)
  t : t = mgs N ++ tailM f.fin
  sg : sgn g = sgn g2
  kd : (kidsT g).length = (kidsT g2).length
  np : notPart g = notPart g2
  keys : N.map key = (flat ((rs, h) :: segs)).map key
theorem rel_front (K : FRel c asked n r.length f m M) {g : Tm} {h : Nat} {t : List MG} (e : m.gs = (some g, h) :: t) : ∃ g2 N rs segs, Front c asked n f r m g h t g2 N rs segs := by
  have gs := K.gs
  rw [e] at gs
  cases M with
  | nil =>
    exfalso
    cases k : f.fin with
    | none => rw [k] at gs; exact nomatch gs
    | some x =>
      rw [k] at gs
      injection gs with q _
      injection q with q _
      exact nomatch q
  | cons x N =>
    injection gs with q1 q2
    injection q1 with q0 q1
    injection q0 with q0
    obtain ⟨x1, x2⟩ := x
    simp only at q0 q1
    subst q0
    subst q1
    have ky := K.keys
    cases fl : flat f.segs with
    | nil => rw [fl] at ky; exact nomatch ky
    | cons y t2 =>
      obtain ⟨g2, h2⟩ := y
      rw [fl] at ky
      rw [List.map_cons, List.map_cons] at ky
      injection ky with k1 k2
      obtain ⟨k3, k4, k5, k6⟩ := key_parts k1
      simp only at k3
      subst k3
      obtain ⟨rs, segs, e1, e2, e3⟩ := flat_head (c := c) fl K.hok
      have fe : flat ((g2 :: rs, h) :: segs) = flat f.segs := by rw [fl, e1]; rfl
      refine ⟨g2, N, rs, segs, ⟨⟨K.way, K.wl, K.ok1, K.ok2, K.gs, ?_, K.g1, ?_, ?_, e3, ?_, ?_⟩, ?_, q2, k4, k5, k6, ?_⟩⟩
      · rw [fe]; exact K.keys
      · intro x hx
        exact K.g2 x (by rw [← fe]; exact hx)
      · rw [fe]; exact K.eqi
      · rw [fe]; exact K.room
      · intro hf x hx
        exact K.inn hf x (by rw [← fe]; exact hx)
      · rw [rem_cons, rem_cons]
        unfold LF.out
        rw [e2]
      · rw [k2, e1]
variable {g : Tm} {h : Nat} {t : List MG} {g2 : Tm} {N : List (Tm × Nat)} {rs : List Tm} {segs : List (List Tm × Nat)}
theorem Front.goal2 (F : Front c asked n f r m g h t g2 N rs segs) : GoalOk c f.w.length g2 := F.ok.g2 (g2, h) List.mem_cons_self
theorem Front.goal1 (F : Front c asked n f r m g h t g2 N rs segs) : GoalOk c n g := F.ok.g1 (g, h) List.mem_cons_self
theorem Front.all2 (F : Front c asked n f r m g h t g2 N rs segs) : ∀ x ∈ g2 :: rs, ∃ k, GoalOk c k x := fun x hx => ⟨f.w.length, F.ok.g2 (x, h) (by rw [flat_cons]; exact List.mem_append_left _ (List.mem_map.mpr ⟨x, hx, rfl⟩))⟩
theorem costF_front (c : Cx) (g2 : Tm) (rs : List Tm) (h : Nat) (segs : List (List Tm × Nat)) : costF c (flat ((g2 :: rs, h) :: segs)) = cost c g2 + costF c (flat ((rs, h) :: segs)) := rfl
theorem way_len (w : Way) (k : Nat) : (w ++ [k]).length = w.length + 1 := by simp
/-- a frame from which the first goal is gone -/
theorem Front.rest (F : Front c asked n f r m g h t g2 N rs segs) {n' j' : Nat} (hn : n ≤ n') {p1 p2 : Puts} {w1 w2 : Way} (hw : f.fin = none → w1 = w2) (hl : w2.length = f.w.length + 1) (hl1 : w1.length ≤ w2.length + 1)
    (o1 : OKs (PT 41 c.nb n') p1) (o2 : OKs (PT 3 c.nb w2.length) p2) (q : EqI (look p1) (asT asked ++ N.map (·.1)) (look p2) (asT asked ++ (flat ((rs, h) :: segs)).map (·.1))) (H : HOk f.fin j' ((rs, h) :: segs)) :
    FRel c asked n' j' ⟨(rs, h) :: segs, f.fin, p2, w2⟩ ⟨t, p1, w1⟩ N := by
  have room := F.ok.room
  refine ⟨hw, hl1, o1, o2, F.t, F.keys, fun x hx => (F.ok.g1 x (List.mem_cons_of_mem _ hx)).mono hn, fun x hx => ?_, q, H, ?_, fun hf x hx => F.ok.inn hf x (List.mem_cons_of_mem _ hx)⟩
  · exact (F.ok.g2 x (List.mem_cons_of_mem _ hx)).mono (by simp only; omega)
  · simp only at room ⊢
    rw [costF_front] at room
    have := cost_pos c g2
    omega
/-- keep -/
theorem rel_keep (ok : CxOk c) (F : Front c asked n f r m g h t g2 N rs segs) (R : RS c asked n r s) (ek : sgn g = "keep") {n' : Nat} (hn : n ≤ n') :
    ∃ l, RS c asked n' l (⟨t, m.p, m.w ++ [0]⟩ :: cutTo (some h) s) ∧ rem c (f :: r) = rem c l ∧ h ≤ s.length := by
  have hh : h ≤ r.length := F.ok.hok.1
  refine ⟨⟨(rs, h) :: segs, f.fin, f.p, f.w ++ [0]⟩ :: cutTo (some h) r, ⟨⟨N, ?_⟩, (R.mono hn).cut _⟩, ?_, R.len ▸ hh⟩
  · have wl := F.ok.wl
    simp only at wl
    refine F.rest hn (fun e => by rw [F.ok.way e]) (way_len _ _) (by rw [way_len, way_len]; omega) (F.ok.ok1.mono fun t q => q.mono (Nat.le_refl _) hn) ?_ ?_ ?_
    · rw [way_len]
      exact F.ok.ok2.mono fun t q => q.mono (Nat.le_refl _) (Nat.le_succ _)
    · exact drop_both rfl F.ok.eqi
    · rw [cut_length hh]
      exact ⟨Nat.le_refl _, F.ok.hok.2⟩
  · rw [F.rem, step_keep ok F.all2 (by rw [← F.sg]; exact ek) F.ok.hok]
def addF (t : List MG) (w : Way) (s : List MF) : Option Puts → List MF
  | some q => ⟨t, q, w ++ [0]⟩ :: s
  | none => s
/-- a deed -/
theorem rel_eq (ok : CxOk c) (F : Front c asked n f r m g h t g2 N rs segs) (R : RS c asked n r s) {a b : Tm} (eg : g = .app "=" [a, b]) {n' : Nat} (hn : n ≤ n') {P : Tm → Prop} (hP : ∀ t, P t → PT 41 c.nb n' t)
    {a' b' : Tm} (ha : ∀ v, Sol (look m.p) v → ap v a' = ap v a) (hb : ∀ v, Sol (look m.p) v → ap v b' = ap v b) {o : Option Puts} (hu : Mgu P m.p [(a', b')] o) :
    ∃ l, RS c asked n' l (addF t m.w s o) ∧ rem c (f :: r) = rem c l := by
  have e2 : ∃ a2 b2, g2 = .app "=" [a2, b2] ∧ PT 2 c.nb f.w.length a2 ∧ PT 2 c.nb f.w.length b2 := by
    have sg := F.sg
    rw [eg] at sg
    have G := F.goal2
    generalize f.w.length = k at *
    cases G with
    | keep => exact absurd sg s_ek
    | no => exact absurd sg s_en
    | named x _ _ => exact absurd sg.symm (ok.word _ x).2.1
    | eq x y => exact ⟨_, _, rfl, x, y⟩
  obtain ⟨a2, b2, rfl, pa, pb⟩ := e2
  have room := F.ok.room
  simp only [costF_front] at room
  have hlen : f.w.length ≤ 10 := by omega
  have U := uni_ok ok hlen F.ok.ok2 (pa.mono (by omega) (Nat.le_refl _)) (pb.mono (by omega) (Nat.le_refl _))
  have q0 := F.ok.eqi
  rw [eg] at q0
  have m1 : ∀ v, (∃ q, o = some q ∧ Sol (look q) v) ↔ Sol (look m.p) v ∧ ap v a = ap v b := fun v => by
    rw [mgu_iff hu v]
    constructor
    · rintro ⟨x, y⟩; exact ⟨x, by rw [← ha v x, ← hb v x, y]⟩
    · rintro ⟨x, y⟩; exact ⟨x, by rw [ha v x, hb v x, y]⟩
  obtain ⟨B1, B2⟩ := eq_both (A := asT asked) (A' := asT asked) rfl q0 m1 (mgu_iff U) (mgu_sol hu) (mgu_sol U)
  have rm : rem c (f :: r) = Vn c r (seqs (Dn c f.fin ((rs, h) :: segs)) (eqOf f.p f.w [a2, b2])) := by
    rw [F.rem, rem_cons]
    unfold LF.out
    rw [step_later ok f.p f.w F.all2 s_ek]
    rfl
  rw [rm]
  unfold eqOf
  simp only at B1 B2 U
  cases o with
  | none =>
    have eU := B1.mp rfl
    simp only [eU]
    exact ⟨r, R.mono hn, rfl⟩
  | some q =>
    cases eU : uni unifuel a2 b2 f.p with
    | none => exact nomatch B1.mpr eU
    | some q2 =>
      rw [eU] at U
      have wl := F.ok.wl
      simp only at wl
      refine ⟨⟨(rs, h) :: segs, f.fin, q2, f.w ++ [0]⟩ :: r, ⟨⟨N, F.rest hn (fun e => by rw [F.ok.way e]) (way_len _ _) (by rw [way_len, way_len]; omega) (hu.1.mono hP) ?_ (B2 q q2 rfl eU) F.ok.hok⟩, R.mono hn⟩, ?_⟩
      · rw [way_len]
        exact U.1.mono fun t q => q.mono (Nat.le_refl _) (Nat.le_succ _)
      · rw [rem_cons]
        simp only [eU, seqs, sq_nil]
        rfl
/-- not -/
theorem rel_not (ok : CxOk c) (F : Front c asked n f r m g h t g2 N rs segs) (R : RS c asked n r s) (es : sgn g = "not") {n' : Nat} (hn : n ≤ n') :
    ∃ k l, g = .app "not" [.app c.w2 [.app k []]] ∧ RS c asked n' l (⟨[(some (.app c.w2 [.app k []]), s.length), (none, s.length)], m.p, m.w ++ [0]⟩ :: ⟨t, m.p, m.w ++ [0]⟩ :: s) ∧ rem c (f :: r) = rem c l := by
  have e2 : ∃ k, g = .app "not" [.app c.w2 [.app k []]] := by
    have G := F.goal1
    cases G with
    | keep => exact absurd es s_nk.symm
    | eq _ _ => exact absurd es s_en
    | named x _ _ => exact absurd es (ok.word _ x).2.2.1
    | @no k => exact ⟨k, rfl⟩
  obtain ⟨k, eg⟩ := e2
  have eg2 : g2 = .app "not" [.app c.w2 [.app k []]] := by
    have np := F.np
    have sg := F.sg
    rw [eg] at np
    unfold notPart at np
    rw [if_pos (show sgn (Tm.app "not" [Tm.app c.w2 [Tm.app k []]]) = "not" from rfl), if_pos (show sgn g2 = "not" by rw [← sg, eg]; rfl)] at np
    injection np with np
    exact np.symm
  have wl := F.ok.wl
  simp only at wl
  have room := F.ok.room
  simp only [costF_front] at room
  have behind : FRel c asked n' r.length ⟨(rs, h) :: segs, f.fin, f.p, f.w ++ [0]⟩ ⟨t, m.p, m.w ++ [0]⟩ N := by
    refine F.rest hn (fun e => by rw [F.ok.way e]) (way_len _ _) (by rw [way_len, way_len]; omega) (F.ok.ok1.mono fun t q => q.mono (Nat.le_refl _) hn) ?_ (drop_both rfl F.ok.eqi) F.ok.hok
    rw [way_len]
    exact F.ok.ok2.mono fun t q => q.mono (Nat.le_refl _) (Nat.le_succ _)
  have rl := R.len
  have gi : ∀ i, GoalOk c i (.app c.w2 [.app k []]) := fun i => .named (by simp [Cx.ws]) (by simp) fun t ht => by
    rw [List.mem_singleton.mp ht]
    exact ⟨by simp [Tm.dep, Tm.depL], ⟨by simp, trivial⟩, fun x hx => by simp [Tm.vars, Tm.varsL] at hx⟩
  have fn : f.fin = none := by
    cases hf : f.fin with
    | none => rfl
    | some x =>
      have := F.ok.inn (fun q => nomatch hf.symm.trans q) (g2, h) List.mem_cons_self
      rw [eg2] at this
      exact absurd this.symm (ok.word c.w2 (by simp [Cx.ws])).2.2.1
  have inner : FRel c asked n' (r.length + 1) ⟨[([.app c.w2 [.app k []]], r.length)], some r.length, f.p, f.w⟩ ⟨[(some (.app c.w2 [.app k []]), s.length), (none, s.length)], m.p, m.w ++ [0]⟩ [(.app c.w2 [.app k []], r.length)] := by
    refine ⟨(fun e => nomatch e), ?_, F.ok.ok1.mono fun t q => q.mono (Nat.le_refl _) hn, F.ok.ok2, ?_, rfl, fun x hx => ?_, fun x hx => ?_, ?_, ?_, ?_, fun _ x hx => ?_⟩
    · have := F.ok.way fn
      simp only at this
      rw [way_len, this]
      exact Nat.le_refl _
    · rw [rl]; rfl
    · rw [List.mem_singleton.mp hx]; exact gi _
    · rw [List.mem_singleton.mp hx]; exact gi _
    · have q := head_both rfl F.ok.eqi
      intro L
      have gr : ∀ v : Str → Tm, apL v (asT asked ++ [Tm.app c.w2 [Tm.app k []]]) = apL v (asT asked) ++ [Tm.app c.w2 [Tm.app k []]] := fun v => by rw [apL_append]; rfl
      have half : ∀ {f g : Pf}, EqI f (asT asked) g (asT asked) → Ans f (asT asked ++ [Tm.app c.w2 [Tm.app k []]]) L → Ans g (asT asked ++ [Tm.app c.w2 [Tm.app k []]]) L := by
        rintro f g q ⟨v, hv, e⟩
        obtain ⟨u, hu, e'⟩ := (q _).mp ⟨v, hv, rfl⟩
        exact ⟨u, hu, by rw [e, gr, gr, e']⟩
      exact ⟨half q, half q.symm⟩
    · exact ⟨Nat.le_succ _, fun x e => by injection e with e; rw [e]; exact Nat.le_refl _⟩
    · have h1 := cost_pos c g2
      have h2 : costF c (flat [([Tm.app c.w2 [.app k []]], r.length)]) = 1 := by
        show cost c (Tm.app c.w2 [.app k []]) + 0 = 1
        rw [ok.no_cost]
      simp only
      rw [h2]
      omega
    · rw [List.mem_singleton.mp hx]; rfl
  refine ⟨k, ⟨[([.app c.w2 [.app k []]], r.length)], some r.length, f.p, f.w⟩ :: ⟨(rs, h) :: segs, f.fin, f.p, f.w ++ [0]⟩ :: r, eg, ⟨⟨_, inner⟩, ⟨_, behind⟩, R.mono hn⟩, ?_⟩
  have lo : laterOf (Az c) c.R g2 f.p f.w = noneYet f.p f.w (waysG (Az c) (.app c.w2 [.app k []]) f.p f.w c.R.zipIdx) := by
    rw [eg2]
    rfl
  have li : laterOf (Az c) c.R (.app c.w2 [.app k []]) f.p f.w = waysG (Az c) (.app c.w2 [.app k []]) f.p f.w c.R.zipIdx := by
    unfold laterOf
    have wd := ok.word c.w2 (by simp [Cx.ws])
    rw [if_neg (show ¬ sgn (Tm.app c.w2 [Tm.app k []]) = "=" from wd.2.1), if_neg (show ¬ sgn (Tm.app c.w2 [Tm.app k []]) = "not" from wd.2.2.1)]
  rw [F.rem, rem_cons, rem_cons]
  unfold LF.out
  rw [step_later ok f.p f.w F.all2 (by rw [eg2]; exact s_nk), lo]
  rw [step_later ok (g := .app c.w2 [.app k []]) f.p f.w (fun x hx => ⟨0, by rw [List.mem_singleton.mp hx]; exact gi 0⟩) (ok.word c.w2 (by simp [Cx.ws])).1, li]
  have kk : (Dn c (some r.length) [([], r.length)]) = fun _ _ => ([], some r.length) := by
    funext p w
    rw [step_empty]
    rfl
  rw [kk]
  cases waysG (Az c) (.app c.w2 [.app k []]) f.p f.w c.R.zipIdx with
  | nil =>
    show Vn c r (sq _ ([], none)) = _
    rw [sq_nil]
    show _ = rem c (LF.mk ((rs, h) :: segs) f.fin f.p (f.w ++ [0]) :: r)
    rw [rem_cons]
    rfl
  | cons x l =>
    show Vn c r ([], none) = [] ++ rem c (cutTo (some r.length) _)
    rw [List.nil_append, cutTo, List.length_cons, Nat.add_sub_cancel_left]
    rfl
/-- the alternatives as the program lays them -/
def MAlts (c : Cx) (n j : Nat) (g' : Tm) (p : Puts) (w : Way) (t : List MG) : List (Rule × Nat) → List MF → Prop
  | [], l => l = []
  | (r, k) :: R, l => if same r.1 g' = true then
      ∃ o, Mgu (PT 41 c.nb (n + 1)) p [(mkT n r.1, g')] o ∧ match o with
        | none => MAlts c n j g' p w t R l
        | some q => ∃ l', l = ⟨(r.2.map fun b => (some (mkT n b), j)) ++ t, q, w ++ [k + 1]⟩ :: l' ∧ MAlts c n j g' p w t R l'
    else MAlts c n j g' p w t R l
theorem MAlts.skip {c : Cx} {n j : Nat} {g' : Tm} {p : Puts} {w : Way} {t : List MG} {r : Rule} {k : Nat} : ∀ {R : List (Rule × Nat)} {l : List MF}, MAlts c n j g' p w t R l → (same r.1 g' = true → Mgu (PT 41 c.nb (n + 1)) p [(mkT n r.1, g')] none) → MAlts c n j g' p w t (R ++ [(r, k)]) l
  | [], l, h, e => by
    rw [List.nil_append, MAlts]
    by_cases s : same r.1 g' = true
    · rw [if_pos s]
      exact ⟨none, e s, h⟩
    · rw [if_neg s]
      exact h
  | (r', k') :: R, l, h, e => by
    rw [List.cons_append, MAlts]
    rw [MAlts] at h
    by_cases s : same r'.1 g' = true
    · rw [if_pos s] at h ⊢
      obtain ⟨o, h1, h2⟩ := h
      refine ⟨o, h1, ?_⟩
      cases o with
      | none => exact MAlts.skip h2 e
      | some q =>
        obtain ⟨l', h3, h4⟩ := h2
        exact ⟨l', h3, MAlts.skip h4 e⟩
    · rw [if_neg s] at h ⊢
      exact MAlts.skip h e
theorem MAlts.snoc {c : Cx} {n j : Nat} {g' : Tm} {p : Puts} {w : Way} {t : List MG} {r : Rule} {k : Nat} {q : Puts} (s : same r.1 g' = true) (u : Mgu (PT 41 c.nb (n + 1)) p [(mkT n r.1, g')] (some q)) :
    ∀ {R : List (Rule × Nat)} {l : List MF}, MAlts c n j g' p w t R l → MAlts c n j g' p w t (R ++ [(r, k)]) (l ++ [⟨(r.2.map fun b => (some (mkT n b), j)) ++ t, q, w ++ [k + 1]⟩])
  | [], l, h => by
    rw [List.nil_append, MAlts, if_pos s]
    rw [MAlts] at h
    rw [h]
    exact ⟨some q, u, [], rfl, rfl⟩
  | (r', k') :: R, l, h => by
    rw [List.cons_append, MAlts]
    rw [MAlts] at h
    by_cases s' : same r'.1 g' = true
    · rw [if_pos s'] at h ⊢
      obtain ⟨o, h1, h2⟩ := h
      refine ⟨o, h1, ?_⟩
      cases o with
      | none => exact MAlts.snoc s u h2
      | some q' =>
        obtain ⟨l', h3, h4⟩ := h2
        exact ⟨_, by rw [h3]; rfl, MAlts.snoc s u h4⟩
    · rw [if_neg s'] at h ⊢
      exact MAlts.snoc s u h
theorem MAlts.few {c : Cx} {n j : Nat} {g' : Tm} {p : Puts} {w : Way} {t : List MG} : ∀ {R : List (Rule × Nat)} {l : List MF}, MAlts c n j g' p w t R l → l.length ≤ R.length
  | [], l, h => by rw [MAlts] at h; rw [h]; exact Nat.le_refl _
  | (r', k') :: R, l, h => by
    rw [MAlts] at h
    rw [List.length_cons]
    by_cases s' : same r'.1 g' = true
    · rw [if_pos s'] at h
      obtain ⟨o, h1, h2⟩ := h
      cases o with
      | none =>
        have := MAlts.few h2
        omega
      | some q' =>
        obtain ⟨l', h3, h4⟩ := h2
        have := MAlts.few h4
        rw [h3, List.length_cons]
        omega
    · rw [if_neg s'] at h
      have := MAlts.few h
      omega
theorem same_of {h g g' : Tm} (e1 : sgn g = sgn g') (e2 : (kidsT g).length = (kidsT g').length) : same h g = same h g' := by unfold same; rw [e1, e2]
/-- a named goal -/
theorem rel_named (ok : CxOk c) (ha : ∀ x ∈ asked, x ∈ c.nb) (F : Front c asked n f r m g h t g2 N rs segs) (R : RS c asked n r s) (es : sgn g ∈ c.ws) {g' : Tm} (hg' : ∀ v, Sol (look m.p) v → ap v g' = ap v g) (sg' : sgn g' = sgn g) (kd' : (kidsT g').length = (kidsT g).length)
    {l : List MF} (hl : MAlts c n s.length g' m.p m.w t c.R.zipIdx l) : ∃ fs, RS c asked (n + 1) fs (l ++ s) ∧ rem c (f :: r) = rem c fs := by
  have wd := ok.word _ es
  rw [F.sg] at wd
  let K : List Tm → Puts → Way → LF := fun body q w => ⟨(body, r.length) :: (rs, h) :: segs, f.fin, q, w⟩
  refine ⟨altsL c g2 f.p f.w K c.R.zipIdx ++ r, ?_, ?_⟩
  · have hR : ∀ x ∈ c.R.zipIdx, x.1 ∈ c.R := fun x hx => zip_rule hx
    revert hl hR
    generalize c.R.zipIdx = Z
    intro hl hR
    induction Z generalizing l with
    | nil =>
      rw [MAlts] at hl
      rw [hl, altsL]
      exact R.mono (Nat.le_succ _)
    | cons x Z ih =>
      obtain ⟨ru, k⟩ := x
      rw [MAlts] at hl
      rw [altsL]
      have ih' := fun {l} hl => ih (l := l) hl fun x hx => hR x (List.mem_cons_of_mem _ hx)
      have se : same ru.1 g2 = same ru.1 g' := same_of (by rw [sg', F.sg]) (by rw [kd', F.kd])
      by_cases e : same ru.1 g' = true
      · rw [if_pos e] at hl
        rw [se, if_pos e]
        obtain ⟨o, hu, ho⟩ := hl
        have rk := ok.rule ru (hR (ru, k) List.mem_cons_self)
        have room := F.ok.room
        simp only [costF_front] at room
        have U := uni_ok ok (n := f.w.length + 1) (by have := cost_pos c g2; omega) (F.ok.ok2.mono fun t q => q.mono (Nat.le_refl _) (Nat.le_succ _)) (F.goal2.pt.mono (Nat.le_refl _) (Nat.le_succ _)) (rk.headOk.pt.mark (n := f.w.length))
        have m1 : ∀ v, (∃ q, o = some q ∧ Sol (look q) v) ↔ Sol (look m.p) v ∧ ap v (mkT n ru.1) = ap v g := fun v => by
          rw [mgu_iff hu v]
          constructor
          · rintro ⟨x, y⟩; exact ⟨x, by rw [y, hg' v x]⟩
          · rintro ⟨x, y⟩; exact ⟨x, by rw [y, hg' v x]⟩
        have m2 : ∀ v, (∃ q, uni unifuel g2 (mkT f.w.length ru.1) f.p = some q ∧ Sol (look q) v) ↔ Sol (look f.p) v ∧ ap v (mkT f.w.length ru.1) = ap v g2 := fun v => by
          have := mgu_iff U v
          simp only at this
          rw [this]
          exact and_congr_right fun _ => eq_comm
        have n1 : ∀ x ∈ asT asked ++ ((g, h) :: N).map (·.1), Names (Old n) x := fun x hx => by
          rcases List.mem_append.mp hx with hx | hx
          · exact asked_names ok ha n x hx
          · obtain ⟨y, hy, e⟩ := List.mem_map.mp hx
            rw [← e]
            exact goal_names ok (F.ok.g1 y hy)
        have n2 : ∀ x ∈ asT asked ++ (flat ((g2 :: rs, h) :: segs)).map (·.1), Names (Old f.w.length) x := fun x hx => by
          rcases List.mem_append.mp hx with hx | hx
          · exact asked_names ok ha _ x hx
          · obtain ⟨y, hy, e⟩ := List.mem_map.mp hx
            rw [← e]
            exact goal_names ok (F.ok.g2 y hy)
        obtain ⟨B1, B2⟩ := res_both (A := asT asked) (A' := asT asked) (body := ru.2) rfl F.ok.eqi (pnames ok F.ok.ok1) n1 (pnames ok F.ok.ok2) n2 (plain_names ok rk.headOk) (fun b hb => plain_names ok (rk.body b hb)) m1 m2 (mgu_sol hu) (mgu_sol U)
        cases o with
        | none =>
          rw [B1.mp rfl]
          exact ih' ho
        | some q =>
          obtain ⟨l', rfl, hl'⟩ := ho
          cases eU : uni unifuel g2 (mkT f.w.length ru.1) f.p with
          | none => exact nomatch B1.mpr eU
          | some q2 =>
            rw [eU] at U
            have wl := F.ok.wl
            simp only at wl
            have e0 := B2 q q2 rfl eU
            have cs := same_cost (c := c) (se.trans e)
            have low := rk.low
            have len : (altsL c g2 f.p f.w K Z ++ r).length = (l' ++ s).length := (ih' hl').len
            have fl : flat ((K (ru.2.map (mkT f.w.length)) q2 (f.w ++ [k + 1])).segs) = (ru.2.map fun b => (mkT f.w.length b, r.length)) ++ flat ((rs, h) :: segs) := by
              show flat ((ru.2.map (mkT f.w.length), r.length) :: (rs, h) :: segs) = _
              rw [flat_cons, List.map_map]
              rfl
            refine ⟨⟨(ru.2.map fun b => (mkT n b, s.length)) ++ N, ?_⟩, ih' hl'⟩
            have rl := R.len
            refine ⟨fun e => by have := F.ok.way e; simp only at this; simp only [K]; rw [this], ?_, hu.1, ?_, ?_, ?_, fun x hx => ?_, fun x hx => ?_, ?_, ?_, ?_, ?_⟩
            · simp only [K, way_len]
              omega
            · simp only [K, way_len]
              exact U.1
            · simp only [K, mgs, List.map_append, List.map_map]
              rw [F.t]
              simp only [mgs, List.append_assoc]
              rfl
            · rw [fl, List.map_append, List.map_append, F.keys, rl]
              congr 1
              rw [List.map_map, List.map_map]
              exact List.map_congr_left fun b hb => mark_key n f.w.length s.length ok (rk.body b hb)
            · rcases List.mem_append.mp hx with hx | hx
              · obtain ⟨b, hb, e⟩ := List.mem_map.mp hx
                rw [← e]
                exact (rk.body b hb).mark
              · exact (F.ok.g1 x (List.mem_cons_of_mem _ hx)).mono (Nat.le_succ _)
            · simp only [K, way_len]
              rw [fl] at hx
              rcases List.mem_append.mp hx with hx | hx
              · obtain ⟨b, hb, e⟩ := List.mem_map.mp hx
                rw [← e]
                exact (rk.body b hb).mark
              · exact (F.ok.g2 x (List.mem_cons_of_mem _ hx)).mono (Nat.le_succ _)
            · rw [fl, List.map_append, List.map_append, List.map_map, List.map_map]
              exact e0
            · simp only [K]
              refine ⟨?_, F.ok.hok⟩
              show r.length ≤ (altsL c g2 f.p f.w K Z ++ r).length
              rw [List.length_append]
              exact Nat.le_add_left _ _
            · show (f.w ++ [k + 1]).length + costF c (flat ((K (ru.2.map (mkT f.w.length)) q2 (f.w ++ [k + 1])).segs)) ≤ 9
              rw [fl, way_len]
              unfold costF at room ⊢
              rw [List.map_append, costL_append, List.map_map]
              have : costL c (ru.2.map ((fun x => x.1) ∘ fun b => (mkT f.w.length b, r.length))) = costL c ru.2 := costL_mkT c f.w.length ru.2
              rw [this]
              omega
            · intro hf x hx
              rw [fl] at hx
              have i2 := F.ok.inn hf
              rcases List.mem_append.mp hx with hx | hx
              · exfalso
                have hw := i2 (g2, h) List.mem_cons_self
                have : cost c g2 = 1 := by
                  unfold cost
                  simp only at hw
                  rw [hw, if_neg ok.w02, if_neg ok.w12]
                obtain ⟨b, hb, _⟩ := List.mem_map.mp hx
                cases hbd : ru.2 with
                | nil => rw [hbd] at hb; exact nomatch hb
                | cons y ys =>
                  rw [hbd, costL] at low
                  have := cost_pos c y
                  omega
              · exact i2 x (List.mem_cons_of_mem _ hx)
      · rw [if_neg e] at hl
        rw [se, if_neg e]
        exact ih' hl
  · rw [F.rem, rem_cons]
    have H := F.ok.hok
    unfold LF.out
    rw [step_later ok f.p f.w F.all2 wd.1]
    unfold laterOf
    rw [if_neg wd.2.1, if_neg wd.2.2.1]
    exact rem_alts (fun q w x e => Dn_le (j := r.length) (segs := (rs, h) :: segs) H q w x e) (fun body q w => rfl) c.R.zipIdx
end
end Gt
set_option Elab.async false
set_option linter.all false
/-! The start, the end; what the law's results are like. -/
namespace Gt
open PySem L2
def toldOf (asked : List Str) (x : Puts × Way) : List Tm × Way := (toldL ((asT asked).map (rd x.1)), x.2)
def MInv (c : Cx) (asked : List Str) (ways : Fnd) (taken : Nat) (left : List MF) (given : List (List Tm × Way)) : Prop :=
  ∃ lfs done, RS c asked (taken + 1) lfs left ∧ ways = done ++ rem c lfs ∧ given = done.map (toldOf asked)
section
variable {c : Cx} {asked : List Str} {ways : Fnd} {taken : Nat} {left : List MF} {given : List (List Tm × Way)} {m : MF} {s : List MF}
theorem MInv.init {goals : List Tm} (hg : ∀ g ∈ goals, GoalOk c 0 g) (hc : costL c goals ≤ 9) : MInv c asked (Az c goals [] []).1 0 [⟨goals.map fun g => (some g, 0), [], []⟩] [] := by
  refine ⟨[⟨[(goals, 0)], none, [], []⟩], [], ⟨⟨goals.map fun g => (g, 0), ?_⟩, trivial⟩, ?_, rfl⟩
  · have fl : flat [(goals, 0)] = goals.map fun g => (g, 0) := by rw [flat_cons]; exact List.append_nil _
    refine ⟨fun _ => rfl, Nat.zero_le _, OKs.nil, OKs.nil, ?_, ?_, fun x hx => ?_, fun x hx => ?_, ?_, ⟨Nat.le_refl _, fun _ e => nomatch e⟩, ?_, fun q => absurd rfl q⟩
    · simp only [mgs, tailM, List.map_map, List.append_nil]
      rfl
    · rw [fl]
    · obtain ⟨g, k, e⟩ := List.mem_map.mp hx
      rw [← e]
      exact (hg g k).mono (Nat.zero_le _)
    · rw [fl] at hx
      obtain ⟨g, k, e⟩ := List.mem_map.mp hx
      rw [← e]
      exact hg g k
    · rw [fl]
      exact fun L => Iff.rfl
    · rw [fl]
      unfold costF
      rw [map_pair]
      simp only [List.length_nil]
      omega
  · rw [rem_cons]
    unfold LF.out Vn
    simp only [Dn, En, List.nil_append]
    have k : ∀ l : Fnd, seqs (fun p w => (([(p, w)], none) : Out)) l = (l, none) := by
      intro l
      induction l with
      | nil => rfl
      | cons x l ih => rw [seqs, ih]; rfl
    show _ = (sq (seqs (fun p w => (([(p, w)], none) : Out)) _) _).1 ++ _
    rw [k]
    have z : ∀ o : Option Nat, rem c (cutTo o []) = [] := fun o => by cases o <;> (simp only [cutTo, List.drop_nil]; rw [rem])
    simp only [sq, List.append_nil]
    rw [z]
    simp
theorem MInv.tell (h : MInv c asked ways taken (m :: s) given) (e : m.gs = []) : MInv c asked ways taken s (given ++ [(toldL ((asT asked).map (rd m.p)), m.w)]) := by
  obtain ⟨lfs, done, R, hw, hg⟩ := h
  cases lfs with
  | nil => exact nomatch R
  | cons f r =>
    obtain ⟨⟨M, K⟩, R⟩ := R
    obtain ⟨a, b, d⟩ := rel_told K e
    refine ⟨r, done ++ [(f.p, f.w)], R, by rw [hw, a, List.append_assoc]; rfl, ?_⟩
    rw [List.map_append, hg, b, d]
    rfl
theorem MInv.mark (h : MInv c asked ways taken (m :: s) given) {i : Nat} {t : List MG} (e : m.gs = (none, i) :: t) : MInv c asked ways taken (cutTo (some i) s) given ∧ i ≤ s.length := by
  obtain ⟨lfs, done, R, hw, hg⟩ := h
  cases lfs with
  | nil => exact nomatch R
  | cons f r =>
    obtain ⟨⟨M, K⟩, R⟩ := R
    obtain ⟨a, b⟩ := rel_mark K e
    exact ⟨⟨cutTo (some i) r, done, R.cut _, by rw [hw, a], hg⟩, R.len ▸ b⟩
/-- what is known of a frame on top -/
theorem MInv.top (h : MInv c asked ways taken (m :: s) given) {g : Tm} {i : Nat} {t : List MG} (e : m.gs = (some g, i) :: t) :
    OKs (PT 41 c.nb (taken + 1)) m.p ∧ GoalOk c (taken + 1) g ∧ m.gs.length ≤ 10 ∧ m.w.length ≤ 10 ∧ i ≤ s.length := by
  obtain ⟨lfs, done, R, hw, hg⟩ := h
  cases lfs with
  | nil => exact nomatch R
  | cons f r =>
    obtain ⟨⟨M, K⟩, R⟩ := R
    obtain ⟨g2, N, rs, segs, F⟩ := rel_front K e
    have few := K.few
    have room := K.room
    have wl := K.wl
    refine ⟨K.ok1, F.goal1, ?_, ?_, R.len ▸ F.ok.hok.1⟩
    · rw [K.gs, List.length_append, mgs, List.length_map]
      have : (tailM f.fin).length ≤ 1 := by cases f.fin <;> simp [tailM]
      omega
    · have := cost_pos c g2
      have r2 := F.ok.room
      rw [costF_front] at r2
      simp only at r2
      omega
theorem MInv.ok (h : MInv c asked ways taken (m :: s) given) : OKs (PT 41 c.nb (taken + 1)) m.p ∧ m.w.length ≤ 10 := by
  obtain ⟨lfs, done, R, hw, hg⟩ := h
  cases lfs with
  | nil => exact nomatch R
  | cons f r =>
    obtain ⟨⟨M, K⟩, R⟩ := R
    have room := K.room
    have wl := K.wl
    exact ⟨K.ok1, by omega⟩
theorem MInv.keep (ok : CxOk c) (h : MInv c asked ways taken (m :: s) given) {g : Tm} {i : Nat} {t : List MG} (e : m.gs = (some g, i) :: t) (ek : sgn g = "keep") :
    MInv c asked ways (taken + 1) (⟨t, m.p, m.w ++ [0]⟩ :: cutTo (some i) s) given := by
  obtain ⟨lfs, done, R, hw, hg⟩ := h
  cases lfs with
  | nil => exact nomatch R
  | cons f r =>
    obtain ⟨⟨M, K⟩, R⟩ := R
    obtain ⟨g2, N, rs, segs, F⟩ := rel_front K e
    obtain ⟨l, a, b, _⟩ := rel_keep ok F R ek (Nat.le_succ _)
    exact ⟨l, done, a, by rw [hw, b], hg⟩
theorem MInv.eq (ok : CxOk c) (h : MInv c asked ways taken (m :: s) given) {a b : Tm} {i : Nat} {t : List MG} (e : m.gs = (some (.app "=" [a, b]), i) :: t) {a' b' : Tm} (ha : ∀ v, Sol (look m.p) v → ap v a' = ap v a) (hb : ∀ v, Sol (look m.p) v → ap v b' = ap v b) {o : Option Puts}
    (hu : Mgu (PT 41 c.nb (taken + 1)) m.p [(a', b')] o) : MInv c asked ways (taken + 1) (addF t m.w s o) given := by
  obtain ⟨lfs, done, R, hw, hg⟩ := h
  cases lfs with
  | nil => exact nomatch R
  | cons f r =>
    obtain ⟨⟨M, K⟩, R⟩ := R
    obtain ⟨g2, N, rs, segs, F⟩ := rel_front K e
    obtain ⟨l, x, y⟩ := rel_eq ok F R rfl (Nat.le_succ _) (fun t q => q.mono (Nat.le_refl _) (Nat.le_succ _)) ha hb hu
    exact ⟨l, done, x, by rw [hw, y], hg⟩
theorem MInv.no (ok : CxOk c) (h : MInv c asked ways taken (m :: s) given) {g : Tm} {i : Nat} {t : List MG} (e : m.gs = (some g, i) :: t) (es : sgn g = "not") :
    ∃ k, g = .app "not" [.app c.w2 [.app k []]] ∧ MInv c asked ways (taken + 1) (⟨[(some (.app c.w2 [.app k []]), s.length), (none, s.length)], m.p, m.w ++ [0]⟩ :: ⟨t, m.p, m.w ++ [0]⟩ :: s) given := by
  obtain ⟨lfs, done, R, hw, hg⟩ := h
  cases lfs with
  | nil => exact nomatch R
  | cons f r =>
    obtain ⟨⟨M, K⟩, R⟩ := R
    obtain ⟨g2, N, rs, segs, F⟩ := rel_front K e
    obtain ⟨k, l, eg, x, y⟩ := rel_not ok F R es (Nat.le_succ _)
    exact ⟨k, eg, l, done, x, by rw [hw, y], hg⟩
theorem MInv.named (ok : CxOk c) (ha : ∀ x ∈ asked, x ∈ c.nb) (h : MInv c asked ways taken (m :: s) given) {g : Tm} {i : Nat} {t : List MG} (e : m.gs = (some g, i) :: t) (es : sgn g ∈ c.ws) {g' : Tm} (hg' : ∀ v, Sol (look m.p) v → ap v g' = ap v g)
    (sg' : sgn g' = sgn g) (kd' : (kidsT g').length = (kidsT g).length) {l : List MF} (hl : MAlts c (taken + 1) s.length g' m.p m.w t c.R.zipIdx l) : MInv c asked ways (taken + 1) (l ++ s) given := by
  obtain ⟨lfs, done, R, hw, hg⟩ := h
  cases lfs with
  | nil => exact nomatch R
  | cons f r =>
    obtain ⟨⟨M, K⟩, R⟩ := R
    obtain ⟨g2, N, rs, segs, F⟩ := rel_front K e
    obtain ⟨fs, x, y⟩ := rel_named ok ha F R es hg' sg' kd' hl
    exact ⟨fs, done, x, by rw [hw, y], hg⟩
theorem MInv.pre (h : MInv c asked ways taken left given) : given = (ways.take given.length).map (toldOf asked) ∧ given.length ≤ ways.length := by
  obtain ⟨lfs, done, R, hw, hg⟩ := h
  rw [hg, hw, List.length_map, List.take_left]
  exact ⟨rfl, by rw [List.length_append]; exact Nat.le_add_right _ _⟩
theorem MInv.all (h : MInv c asked ways taken [] given) : given.length = ways.length := by
  obtain ⟨lfs, done, R, hw, hg⟩ := h
  cases lfs with
  | nil => rw [hg, hw, rem, List.append_nil, List.length_map]
  | cons f r => exact nomatch R
end
/-! ### the law's results -/
structure FOk (c : Cx) (lo hi : Nat) (x : Puts × Way) : Prop where
  ok : OKs (PT 3 c.nb x.2.length) x.1
  lo : lo ≤ x.2.length
  hi : x.2.length ≤ hi
theorem FOk.mono {c : Cx} {lo hi lo' hi' : Nat} {x : Puts × Way} (h : FOk c lo hi x) (a : lo' ≤ lo) (b : hi ≤ hi') : FOk c lo' hi' x := ⟨h.ok, Nat.le_trans a h.lo, Nat.le_trans h.hi b⟩
def Fos (c : Cx) (lo hi n : Nat) (l : Fnd) : Prop := l.length ≤ n ∧ ∀ x ∈ l, FOk c lo hi x
theorem laterG_ok {c : Cx} {all : Puts → Way → Fnd × Bool} {lo mid hi n : Nat} (hn : 1 ≤ n) (ha : ∀ q w, FOk c lo mid (q, w) → Fos c lo hi n (all q w).1) : ∀ (l : Fnd), (∀ x ∈ l, FOk c lo mid x) → Fos c lo hi (l.length * n) (laterG all l).1
  | [], _ => ⟨by simp [laterG], fun x hx => by simp [laterG] at hx⟩
  | (q, w) :: l, h => by
    have h1 := ha q w (h (q, w) List.mem_cons_self)
    have ih := laterG_ok hn ha l fun x hx => h x (List.mem_cons_of_mem _ hx)
    rw [laterG, List.length_cons, Nat.succ_mul]
    by_cases e : (all q w).2 = true
    · simp only [if_pos e]
      exact ⟨Nat.le_trans h1.1 (Nat.le_add_left _ _), h1.2⟩
    · simp only [if_neg e]
      refine ⟨?_, fun x hx => ?_⟩
      · rw [List.length_append]
        have := h1.1
        have := ih.1
        omega
      · rcases List.mem_append.mp hx with hx | hx
        · exact h1.2 x hx
        · exact ih.2 x hx
theorem waysG_ok {c : Cx} (ok : CxOk c) {all : List Tm → Puts → Way → Fnd × Bool} {g : Tm} {p : Puts} {w : Way} {hi n : Nat} (hw : w.length ≤ 9) (hp : OKs (PT 3 c.nb w.length) p) (gk : GoalOk c w.length g)
    (ha : ∀ r ∈ c.R, same r.1 g = true → ∀ q k, OKs (PT 3 c.nb (w.length + 1)) q → Fos c w.length hi n (all (r.2.map (mkT w.length)) q (w ++ [k + 1])).1) :
    ∀ Z : List (Rule × Nat), (∀ x ∈ Z, x.1 ∈ c.R) → Fos c w.length hi (Z.length * n) (waysG all g p w Z)
  | [], _ => ⟨by simp [waysG], fun x hx => by simp [waysG] at hx⟩
  | (r, k) :: Z, hZ => by
    have ih := waysG_ok ok hw hp gk ha Z fun x hx => hZ x (List.mem_cons_of_mem _ hx)
    have hr := hZ (r, k) List.mem_cons_self
    rw [List.length_cons, Nat.succ_mul]
    have up : Fos c w.length hi (Z.length * n + n) (waysG all g p w Z) := ⟨Nat.le_trans ih.1 (Nat.le_add_right _ _), ih.2⟩
    rw [waysG]
    by_cases e : same r.1 g = true
    · rw [if_pos e]
      have U := uni_ok ok (n := w.length + 1) (by omega) (hp.mono fun t q => q.mono (Nat.le_refl _) (Nat.le_succ _)) (gk.pt.mono (Nat.le_refl _) (Nat.le_succ _)) ((ok.rule r hr).headOk.pt.mark (n := w.length))
      cases eU : uni unifuel g (mkT w.length r.1) p with
      | none => exact up
      | some q =>
        rw [eU] at U
        have h1 := ha r hr e q k U.1
        simp only
        by_cases m : (all (r.2.map (mkT w.length)) q (w ++ [k + 1])).2 = true
        · rw [if_pos m]
          exact ⟨Nat.le_trans h1.1 (Nat.le_add_left _ _), h1.2⟩
        · rw [if_neg m]
          refine ⟨?_, fun x hx => ?_⟩
          · rw [List.length_append]
            have := h1.1
            have := ih.1
            omega
          · rcases List.mem_append.mp hx with hx | hx
            · exact h1.2 x hx
            · exact ih.2 x hx
    · rw [if_neg e]
      exact up
/-- all of the law's results: few, and as they should be -/
theorem A_ok {c : Cx} (ok : CxOk c) : ∀ (n : Nat) (goals : List Tm) (p : Puts) (w : Way), w.length + costL c goals ≤ 9 → OKs (PT 3 c.nb w.length) p → (∀ g ∈ goals, GoalOk c w.length g) →
    Fos c w.length (w.length + costL c goals) (6 ^ costL c goals) (A c.R n goals p w).1
  | n, [], p, w, hc, hp, _ => by
    rw [A_nil]
    exact ⟨Nat.one_le_pow _ _ (by omega), fun x hx => by rw [List.mem_singleton.mp hx]; exact ⟨hp, Nat.le_refl _, Nat.le_add_right _ _⟩⟩
  | 0, g :: rest, p, w, _, _, _ => ⟨Nat.zero_le _, fun x hx => nomatch hx⟩
  | n + 1, g :: rest, p, w, hc, hp, hg => by
    rw [costL] at hc ⊢
    have hcp := cost_pos c g
    have gk := hg g List.mem_cons_self
    have pw : (6 : Nat) ^ (cost c g + costL c rest) = 6 ^ cost c g * 6 ^ costL c rest := Nat.pow_add _ _ _
    have p1 : ∀ k : Nat, 1 ≤ 6 ^ k := fun k => Nat.one_le_pow _ _ (by omega)
    have hr : ∀ q w', FOk c w.length (w.length + cost c g) (q, w') → Fos c w.length (w.length + (cost c g + costL c rest)) (6 ^ costL c rest) (A c.R n rest q w').1 := fun q w' f => by
      have h1 := f.hi
      have h0 := f.lo
      simp only at h1 h0
      have := A_ok ok n rest q w' (by omega) f.ok fun x hx => (hg x (List.mem_cons_of_mem _ hx)).mono h0
      exact ⟨this.1, fun x hx => (this.2 x hx).mono h0 (by omega)⟩
    rw [A]
    by_cases ek : sgn g = "keep"
    · rw [if_pos ek]
      have := hr p (w ++ [0]) ⟨by rw [way_len]; exact hp.mono fun t q => q.mono (Nat.le_refl _) (Nat.le_succ _), by rw [way_len]; omega, by rw [way_len]; omega⟩
      exact ⟨Nat.le_trans this.1 (by rw [pw]; exact Nat.le_mul_of_pos_left _ (p1 _)), this.2⟩
    · rw [if_neg ek]
      have hw : ∀ i, GoalOk c w.length i → cost c i ≤ cost c g → Fos c w.length (w.length + cost c g) (6 ^ cost c g) (waysG (A c.R n) i p w c.R.zipIdx) := fun i gi ci => by
        have := waysG_ok ok (all := A c.R n) (hi := w.length + cost c g) (n := 6 ^ (cost c g - 1)) (by omega) hp gi (fun r hr e q k hq => by
          have rk := ok.rule r hr
          have low := rk.low
          have cs := same_cost (c := c) e
          have := A_ok ok n (r.2.map (mkT w.length)) q (w ++ [k + 1]) (by rw [costL_mkT, way_len]; omega) (by rw [way_len]; exact hq) fun y hy => by
            obtain ⟨b, hb, e⟩ := List.mem_map.mp hy
            rw [← e, way_len]
            exact (rk.body b hb).mark
          rw [costL_mkT, way_len] at this
          exact ⟨Nat.le_trans this.1 (Nat.pow_le_pow_right (by omega) (by omega)), fun x hx => (this.2 x hx).mono (by omega) (by omega)⟩) c.R.zipIdx (fun x hx => zip_rule hx)
        refine ⟨Nat.le_trans this.1 ?_, this.2⟩
        have h6 := ok.few
        rw [List.length_zipIdx]
        have e6 : 6 ^ cost c g = 6 * 6 ^ (cost c g - 1) := by
          rw [← Nat.pow_succ']
          congr 1
          omega
        rw [e6]
        exact Nat.mul_le_mul_right _ h6
      have L : Fos c w.length (w.length + cost c g) (6 ^ cost c g) (laterOf (A c.R n) c.R g p w) := by
        have one : ∀ q, OKs (PT 3 c.nb w.length) q → Fos c w.length (w.length + cost c g) (6 ^ cost c g) [(q, w ++ [0])] := fun q hq => ⟨p1 _, fun x hx => by
          rw [List.mem_singleton.mp hx]
          exact ⟨by simp only [way_len]; exact hq.mono fun t q => q.mono (Nat.le_refl _) (Nat.le_succ _), by simp only [way_len]; omega, by simp only [way_len]; omega⟩⟩
        have nil : Fos c w.length (w.length + cost c g) (6 ^ cost c g) [] := ⟨Nat.zero_le _, fun x hx => nomatch hx⟩
        unfold laterOf
        by_cases e1 : sgn g = "="
        · rw [if_pos e1]
          obtain ⟨i, hk, gk⟩ : ∃ i, i = w.length ∧ GoalOk c i g := ⟨_, rfl, gk⟩
          cases gk with
          | keep => exact absurd rfl ek
          | no => exact absurd e1 s_ne
          | named a _ _ => exact absurd e1 (ok.word _ a).2.1
          | @eq a b ha hb =>
            rw [hk] at ha hb
            have U := uni_ok ok (n := w.length) (by omega) hp (ha.mono (by omega) (Nat.le_refl _)) (hb.mono (by omega) (Nat.le_refl _))
            simp only [kidsT, eqOf]
            cases eU : uni unifuel a b p with
            | none => exact nil
            | some q =>
              rw [eU] at U
              exact one q U.1
        · rw [if_neg e1]
          by_cases e2 : sgn g = "not"
          · rw [if_pos e2]
            obtain ⟨i, hk, gk⟩ : ∃ i, i = w.length ∧ GoalOk c i g := ⟨_, rfl, gk⟩
            cases gk with
            | keep => exact absurd rfl ek
            | eq _ _ => exact absurd rfl e1
            | named a _ _ => exact absurd e2 (ok.word _ a).2.2.1
            | @no k =>
              simp only [kidsT, notOf]
              unfold noneYet
              split
              · exact one p hp
              · exact nil
          · rw [if_neg e2]
            exact hw g gk (Nat.le_refl _)
      have R := laterG_ok (all := A c.R n rest) (p1 _) hr _ L.2
      refine ⟨Nat.le_trans R.1 ?_, R.2⟩
      rw [pw]
      exact Nat.mul_le_mul_right _ L.1
end Gt
set_option Elab.async false
set_option linter.all false
set_option maxRecDepth 100000
/-! The walk: the text by places, terms in the heap. -/
namespace Gt
open PySem L2
def top (i : Nat) : Stmt := PySem.Challenge.pw_goaltrail_k39_whole_plain_model.main.body.getD i (.Pass ⟨0, 0, 0, 0⟩)
structure DefAt (K : PySem.W.Frag) (mg : Str → Option Value) (name : Str) (st : Stmt) (ps : List Str) where
  f : Addr
  fd : FuncData
  F : Fun K name name st f fd
  m : mg name = some (.ref f)
  b : Binds K fd ps []
theorem DefAt.k {K : PySem.W.Frag} {mg : Str → Option Value} {name : Str} {st : Stmt} {ps : List Str} (D : DefAt K mg name st ps) : PySem.W.keepIn K (.ref D.f) = true := D.F.kp
/-! ### heaps -/
theorem same_new {H : Hp} {p : Addr} {o : HO} (h : H p = none) : Same H (upd H p o) := fun b u e => by rw [upd_ne (ne_of_none e h)]; exact e
theorem same_upd {H0 H : Hp} {p : Addr} {o : HO} (s : Same H0 H) (h : H0 p = none) : Same H0 (upd H p o) := fun b u e => by rw [upd_ne (ne_of_none e h)]; exact s b u e
theorem same_sqt {K : PySem.W.Frag} {H H' : Hp} {a : Addr} {xs : List V} (e : Same H H') (h : SqT K H a xs) : SqT K H' a xs := by
  rcases h with (h | ⟨o, h⟩) | h
  · exact .inl (.inl (e _ _ h))
  · exact .inl (.inr ⟨o, e _ _ h⟩)
  · exact .inr h
/-- all tuples are as they were -/
def SameT (H H' : Hp) : Prop := ∀ p xs, Rd H p (.tup xs) → Rd H' p (.tup xs)
theorem same_t {H H' : Hp} (e : Same H H') : SameT H H' := fun p xs h => by
  rcases h with h | ⟨o, h⟩
  · exact .inl (e _ _ h)
  · exact .inr ⟨o, e _ _ h⟩
theorem SameT.trans {H H1 H2 : Hp} (a : SameT H H1) (b : SameT H1 H2) : SameT H H2 := fun p xs h => b p xs (a p xs h)
theorem SameT.sqt {K : PySem.W.Frag} {H H' : Hp} {a : Addr} {xs : List V} (e : SameT H H') (h : SqT K H a xs) : SqT K H' a xs := by
  rcases h with h | h
  · exact .inl (e _ _ h)
  · exact .inr h
/-- at D stands a list; all else is as it was -/
structure Off (D : Addr) (H H' : Hp) : Prop where
  at_ : ∃ ws, H D = some (.lst ws)
  el : ∀ p o, p ≠ D → H p = some o → H' p = some o
theorem Off.t {D : Addr} {H H' : Hp} (e : Off D H H') : SameT H H' := fun p xs h => by
  obtain ⟨ws, hD⟩ := e.at_
  have ne : p ≠ D := fun q => by
    subst q
    rcases h with h | ⟨o, h⟩
    · rw [hD] at h; cases h
    · rw [hD] at h; cases h
  rcases h with h | ⟨o, h⟩
  · exact .inl (e.el _ _ ne h)
  · exact .inr ⟨o, e.el _ _ ne h⟩
theorem off_upd {D : Addr} {H : Hp} {ws : List V} {o : HO} (h : H D = some (.lst ws)) : Off D H (upd H D o) := ⟨⟨ws, h⟩, fun p u ne e => by rw [upd_ne ne]; exact e⟩
theorem off_same {D : Addr} {H H' : Hp} {ws : List V} (h : H D = some (.lst ws)) (s : Same H H') : Off D H H' := ⟨⟨ws, h⟩, fun p u _ e => s p u e⟩
/-! ### terms in the heap -/
mutual
def Tr (K : PySem.W.Frag) (H : Hp) : V → Tm → Prop
  | v, .num n => ∃ p, v = .ref p ∧ SqT K H p [.str "num", .int n]
  | v, .any x => ∃ p, v = .ref p ∧ SqT K H p [.str "any", .str x]
  | v, .app s ks => ∃ p q vs, v = .ref p ∧ SqT K H p [.str "app", .str s, .ref q] ∧ SqT K H q vs ∧ TrL K H vs ks
def TrL (K : PySem.W.Frag) (H : Hp) : List V → List Tm → Prop
  | [], [] => True
  | v :: vs, t :: ts => Tr K H v t ∧ TrL K H vs ts
  | [], _ :: _ => False
  | _ :: _, [] => False
end
mutual
theorem Tr.samT {K : PySem.W.Frag} {H H' : Hp} (e : SameT H H') : ∀ {t : Tm} {v : V}, Tr K H v t → Tr K H' v t
  | .num n, v, ⟨p, a, b⟩ => ⟨p, a, e.sqt b⟩
  | .any x, v, ⟨p, a, b⟩ => ⟨p, a, e.sqt b⟩
  | .app s ks, v, ⟨p, q, vs, a, b, c, d⟩ => ⟨p, q, vs, a, e.sqt b, e.sqt c, TrL.samT e d⟩
theorem TrL.samT {K : PySem.W.Frag} {H H' : Hp} (e : SameT H H') : ∀ {ts : List Tm} {vs : List V}, TrL K H vs ts → TrL K H' vs ts
  | [], [], _ => trivial
  | t :: ts, v :: vs, ⟨a, b⟩ => ⟨Tr.samT e a, TrL.samT e b⟩
  | [], _ :: _, h => h.elim
  | _ :: _, [], h => h.elim
end
theorem Tr.same {K : PySem.W.Frag} {H H' : Hp} (e : Same H H') {t : Tm} {v : V} (h : Tr K H v t) : Tr K H' v t := Tr.samT (same_t e) h
/-! lists of values by lists of what they stand for -/
def F2 {α : Type} (R : V → α → Prop) : List V → List α → Prop
  | [], [] => True
  | v :: vs, a :: as => R v a ∧ F2 R vs as
  | [], _ :: _ => False
  | _ :: _, [] => False
section
variable {α β : Type} {R S : V → α → Prop}
theorem F2.len : ∀ {vs : List V} {as : List α}, F2 R vs as → vs.length = as.length
  | [], [], _ => rfl
  | _ :: _, _ :: _, ⟨_, b⟩ => by rw [List.length_cons, List.length_cons, b.len]
  | [], _ :: _, h => h.elim
  | _ :: _, [], h => h.elim
theorem F2.imp (h : ∀ v a, R v a → S v a) : ∀ {vs : List V} {as : List α}, F2 R vs as → F2 S vs as
  | [], [], _ => trivial
  | _ :: _, _ :: _, ⟨a, b⟩ => ⟨h _ _ a, b.imp h⟩
  | [], _ :: _, h => h.elim
  | _ :: _, [], h => h.elim
theorem F2.app : ∀ {vs ws : List V} {as bs : List α}, F2 R vs as → F2 R ws bs → F2 R (vs ++ ws) (as ++ bs)
  | [], _, [], _, _, h => h
  | _ :: _, _, _ :: _, _, ⟨a, b⟩, h => ⟨a, b.app h⟩
  | [], _, _ :: _, _, h, _ => h.elim
  | _ :: _, _, [], _, h, _ => h.elim
theorem F2.get : ∀ {vs : List V} {as : List α}, F2 R vs as → ∀ {i : Nat} {v : V}, vs[i]? = some v → ∃ a, as[i]? = some a ∧ R v a
  | [], [], _, i, v, e => by simp at e
  | w :: vs, a :: as, ⟨x, y⟩, 0, v, e => by
    simp only [List.getElem?_cons_zero, Option.some.injEq] at e
    subst e
    exact ⟨a, rfl, x⟩
  | w :: vs, a :: as, ⟨x, y⟩, i + 1, v, e => by
    rw [List.getElem?_cons_succ] at e ⊢
    exact y.get e
  | [], _ :: _, h, _, _, _ => h.elim
  | _ :: _, [], h, _, _, _ => h.elim
theorem F2.rev : ∀ {vs : List V} {as : List α}, F2 R vs as → F2 R vs.reverse as.reverse
  | [], [], _ => trivial
  | _ :: _, _ :: _, ⟨a, b⟩ => by
    rw [List.reverse_cons, List.reverse_cons]
    exact b.rev.app ⟨a, trivial⟩
  | [], _ :: _, h => h.elim
  | _ :: _, [], h => h.elim
theorem F2.map {R : V → β → Prop} {f : α → β} : ∀ {vs : List V} {as : List α}, F2 (fun v a => R v (f a)) vs as → F2 R vs (as.map f)
  | [], [], _ => trivial
  | _ :: _, _ :: _, ⟨a, b⟩ => ⟨a, b.map⟩
  | [], _ :: _, h => h.elim
  | _ :: _, [], h => h.elim
theorem F2.drop : ∀ {vs : List V} {as : List α} (n : Nat), F2 R vs as → F2 R (vs.drop n) (as.drop n)
  | _, _, 0, h => h
  | [], [], _ + 1, _ => trivial
  | _ :: _, _ :: _, n + 1, ⟨_, b⟩ => b.drop n
  | [], _ :: _, _ + 1, h => h.elim
  | _ :: _, [], _ + 1, h => h.elim
theorem F2.take : ∀ {vs : List V} {as : List α} (n : Nat), F2 R vs as → F2 R (vs.take n) (as.take n)
  | _, _, 0, h => by simp [F2]
  | [], [], _ + 1, _ => trivial
  | _ :: _, _ :: _, n + 1, ⟨a, b⟩ => ⟨a, b.take n⟩
  | [], _ :: _, _ + 1, h => h.elim
  | _ :: _, [], _ + 1, h => h.elim
theorem F2.of_map {R : V → α → Prop} {f : α → V} (h : ∀ a, R (f a) a) : ∀ as : List α, F2 R (as.map f) as
  | [] => trivial
  | a :: as => ⟨h a, F2.of_map h as⟩
end
theorem TrL.f2 {K : PySem.W.Frag} {H : Hp} : ∀ {vs : List V} {ts : List Tm}, TrL K H vs ts → F2 (Tr K H) vs ts
  | [], [], _ => trivial
  | _ :: _, _ :: _, ⟨a, b⟩ => ⟨a, b.f2⟩
  | [], _ :: _, h => h.elim
  | _ :: _, [], h => h.elim
theorem TrL.of {K : PySem.W.Frag} {H : Hp} : ∀ {vs : List V} {ts : List Tm}, F2 (Tr K H) vs ts → TrL K H vs ts
  | [], [], _ => trivial
  | _ :: _, _ :: _, ⟨a, b⟩ => ⟨a, .of b⟩
  | [], _ :: _, h => h.elim
  | _ :: _, [], h => h.elim
abbrev Trs (K : PySem.W.Frag) (H : Hp) (vs : List V) (ts : List Tm) : Prop := F2 (Tr K H) vs ts
theorem Trs.same {K : PySem.W.Frag} {H H' : Hp} (e : Same H H') {vs : List V} {ts : List Tm} (h : Trs K H vs ts) : Trs K H' vs ts := h.imp fun _ _ q => q.same e
theorem Trs.samT {K : PySem.W.Frag} {H H' : Hp} (e : SameT H H') {vs : List V} {ts : List Tm} (h : Trs K H vs ts) : Trs K H' vs ts := h.imp fun _ _ q => q.samT e
/-- a new term -/
theorem Tr.mk_any {K : PySem.W.Frag} {H : Hp} {p : Addr} {x : Str} (h : H p = some (.tup [.str "any", .str x])) : Tr K H (.ref p) (.any x) := ⟨p, rfl, SqT.of h⟩
theorem Tr.mk_num {K : PySem.W.Frag} {H : Hp} {p : Addr} {n : Int} (h : H p = some (.tup [.str "num", .int n])) : Tr K H (.ref p) (.num n) := ⟨p, rfl, SqT.of h⟩
theorem Tr.mk_app {K : PySem.W.Frag} {H : Hp} {p q : Addr} {s : Str} {vs : List V} {ks : List Tm} (h : H p = some (.tup [.str "app", .str s, .ref q])) (hq : SqT K H q vs) (hk : Trs K H vs ks) : Tr K H (.ref p) (.app s ks) := ⟨p, q, vs, rfl, SqT.of h, hq, .of hk⟩
/-! ### a comprehension over terms -/
theorem wipe_set (σ : St) (i : Nat) (x : Option V) : wipe (σ.set i x) [i] = wipe σ [i] := by
  show (σ.set i x).set i none = σ.set i none
  rw [List.set_set]
section
variable {α β : Type} {K : PySem.W.Frag} {te : TE} {i : Nat} {a D : Addr} {σ : St} {H1 : Hp} {vs : List V} {as : List α} {Q : Hp → Prop} {In : Hp → V → α → Prop} {Out : Hp → V → β → Prop} {φ : α → β}
theorem lc_core1 (hD : H1 D = none) (hk : F2 (In H1) vs as) (hl : as.length ≤ 1000000) (mI : ∀ {H H' : Hp} {v : V} {x : α}, Same H H' → In H v x → In H' v x) (mO : ∀ {H H' : Hp} {v : V} {x : β}, Off D H H' → Out H v x → Out H' v x)
    (he : ∀ (v : V) (x : α) (H : Hp) (R : VK), x ∈ as → Same H1 H → In H v x → (∀ H' v', Same H H' → Out H' v' (φ x) → R v' H') → te ((wipe σ [i]).set i (some v)) H R) :
    ∀ j x H, vs[j]? = some x → (Same H1 H ∧ ∃ ws, H D = some (.lst ws) ∧ F2 (Out H) ws ((as.take j).map φ)) → gName i x (wipe σ [i]) H fun σ2 H2 => wipe σ2 [i] = wipe σ [i] ∧ tYes σ2 H2 fun b H3 =>
        if b = true then te σ2 H3 fun y H4 => ∃ acc, H4 D = some (.lst acc) ∧ acc.length < sizeLine ∧ (Same H1 (upd H4 D (.lst (acc ++ [y]))) ∧ ∃ ws, (upd H4 D (.lst (acc ++ [y]))) D = some (.lst ws) ∧ F2 (Out (upd H4 D (.lst (acc ++ [y])))) ws ((as.take (j + 1)).map φ))
        else (Same H1 H3 ∧ ∃ ws, H3 D = some (.lst ws) ∧ F2 (Out H3) ws ((as.take (j + 1)).map φ)) := by
  intro j x H hx h
  obtain ⟨s, ws, hw, hf⟩ := h
  obtain ⟨y, hy, hin⟩ := hk.get hx
  refine ⟨?_, ?_⟩
  · exact (wipe_set (wipe σ [i]) i (some x)).trans (by show ((σ.set i none).set i none) = σ.set i none; rw [List.set_set])
  · unfold tYes
    show if true = true then _ else _
    rw [if_pos rfl]
    refine he x y H _ (List.mem_of_getElem? hy) s (mI s hin) fun H' v' s' ho => ?_
    have len := hf.len
    have hj : (as.take j).length ≤ as.length := by rw [List.length_take]; exact Nat.min_le_right _ _
    rw [List.length_map] at len
    have h1 := s' _ _ hw
    refine ⟨ws, h1, ?_, same_upd (s.trans s') hD, ws ++ [v'], upd_same, ?_⟩
    · have : (1000000 : Nat) < sizeLine := by decide
      omega
    · have e : (as.take (j + 1)).map φ = (as.take j).map φ ++ [φ y] := by
        rw [List.take_add_one, hy, List.map_append]
        rfl
      rw [e]
      exact F2.app (hf.imp fun v x q => mO (off_upd h1) (mO (off_same hw s') q)) ⟨mO (off_upd h1) ho, trivial⟩
/-- over a tuple -/
theorem lc_mapT (hD : H1 D = none) (hT : SqT K H1 a vs) (hk : F2 (In H1) vs as) (hl : as.length ≤ 1000000) (mI : ∀ {H H' : Hp} {v : V} {x : α}, Same H H' → In H v x → In H' v x) (mO : ∀ {H H' : Hp} {v : V} {x : β}, Off D H H' → Out H v x → Out H' v x)
    (he : ∀ (v : V) (x : α) (H : Hp) (R : VK), x ∈ as → Same H1 H → In H v x → (∀ H' v', Same H H' → Out H' v' (φ x) → R v' H') → te ((wipe σ [i]).set i (some v)) H R)
    (hq : ∀ H ws, Same H1 H → H D = some (.lst ws) → F2 (Out H) ws (as.map φ) → Q H) :
    ∃ W : Nat → Nat → Hp → Prop, (∃ m, W 0 m (upd H1 D (.lst []))) ∧ ∀ j m H, W j m H →
      ((Itt K a).stop j H ∧ Q H) ∨ ((Itt K a).go j H ∧ ∃ Nx : Hp → Prop, (∀ H', Nx H' → ∃ m', m' < m ∧ W (j + 1) m' H') ∧ ∀ x H', (Itt K a).yld j H x H' → gName i x (wipe σ [i]) H' fun σ2 H2 => wipe σ2 [i] = wipe σ [i] ∧ tYes σ2 H2 fun b H3 =>
        if b = true then te σ2 H3 fun y H4 => ∃ acc, H4 D = some (.lst acc) ∧ acc.length < sizeLine ∧ Nx (upd H4 D (.lst (acc ++ [y]))) else Nx H3) := by
  refine lc_tup (K := K) (a := a) (xs := vs) (fun j H => Same H1 H ∧ ∃ ws, H D = some (.lst ws) ∧ F2 (Out H) ws ((as.take j).map φ)) ⟨same_new hD, [], upd_same, by simp [F2]⟩ (fun j H _ h => same_sqt h.1 hT) (lc_core1 hD hk hl mI mO he) ?_
  rintro H ⟨s, ws, hw, hf⟩
  refine hq H ws s hw ?_
  rw [hk.len, List.take_length] at hf
  exact hf
/-- over a list -/
theorem lc_mapL (hD : H1 D = none) (hT : SqL K H1 a vs) (hk : F2 (In H1) vs as) (hl : as.length ≤ 1000000) (mI : ∀ {H H' : Hp} {v : V} {x : α}, Same H H' → In H v x → In H' v x) (mO : ∀ {H H' : Hp} {v : V} {x : β}, Off D H H' → Out H v x → Out H' v x)
    (he : ∀ (v : V) (x : α) (H : Hp) (R : VK), x ∈ as → Same H1 H → In H v x → (∀ H' v', Same H H' → Out H' v' (φ x) → R v' H') → te ((wipe σ [i]).set i (some v)) H R)
    (hq : ∀ H ws, Same H1 H → H D = some (.lst ws) → F2 (Out H) ws (as.map φ) → Q H) :
    ∃ W : Nat → Nat → Hp → Prop, (∃ m, W 0 m (upd H1 D (.lst []))) ∧ ∀ j m H, W j m H →
      ((Itl K a).stop j H ∧ Q H) ∨ ((Itl K a).go j H ∧ ∃ Nx : Hp → Prop, (∀ H', Nx H' → ∃ m', m' < m ∧ W (j + 1) m' H') ∧ ∀ x H', (Itl K a).yld j H x H' → gName i x (wipe σ [i]) H' fun σ2 H2 => wipe σ2 [i] = wipe σ [i] ∧ tYes σ2 H2 fun b H3 =>
        if b = true then te σ2 H3 fun y H4 => ∃ acc, H4 D = some (.lst acc) ∧ acc.length < sizeLine ∧ Nx (upd H4 D (.lst (acc ++ [y]))) else Nx H3) := by
  refine lc_list (K := K) (a := a) (xs := vs) (fun j H => Same H1 H ∧ ∃ ws, H D = some (.lst ws) ∧ F2 (Out H) ws ((as.take j).map φ)) ⟨same_new hD, [], upd_same, by simp [F2]⟩ (fun j H _ h => h.1.seq hT) (lc_core1 hD hk hl mI mO he) ?_
  rintro H ⟨s, ws, hw, hf⟩
  refine hq H ws s hw ?_
  rw [hk.len, List.take_length] at hf
  exact hf
end
end Gt
set_option Elab.async false
set_option linter.all false
set_option maxRecDepth 100000
/-! The defs by places. -/
namespace Gt
open PySem L2
abbrev s_unknown : Stmt := top 5
theorem sc_unknown : FnScope ["name"] ["name"] (defScope s_unknown) := ⟨rfl, rfl, rfl, by decide +kernel, rfl, by decide +kernel, by decide +kernel⟩
abbrev s_app : Stmt := top 6
theorem sc_app : FnScope ["sign", "kids"] ["sign", "kids"] (defScope s_app) := ⟨rfl, rfl, rfl, by decide +kernel, rfl, by decide +kernel, by decide +kernel⟩
abbrev s_unknowns_of : Stmt := top 8
theorem sc_unknowns_of : FnScope ["terms", "found", "left", "term"] ["terms"] (defScope s_unknowns_of) := ⟨rfl, rfl, rfl, by decide +kernel, rfl, by decide +kernel, by decide +kernel⟩
abbrev s_renamed : Stmt := top 9
theorem sc_renamed : FnScope ["term", "names", "kid"] ["term", "names"] (defScope s_renamed) := ⟨rfl, rfl, rfl, by decide +kernel, rfl, by decide +kernel, by decide +kernel⟩
abbrev s_told_anew : Stmt := top 10
theorem sc_told_anew : FnScope ["terms", "names", "name", "term"] ["terms"] (defScope s_told_anew) := ⟨rfl, rfl, rfl, by decide +kernel, rfl, by decide +kernel, by decide +kernel⟩
abbrev s_marked : Stmt := top 11
theorem sc_marked : FnScope ["term", "n", "names", "name"] ["term", "n"] (defScope s_marked) := ⟨rfl, rfl, rfl, by decide +kernel, rfl, by decide +kernel, by decide +kernel⟩
abbrev s_walked : Stmt := top 14
theorem sc_walked : FnScope ["term", "puts"] ["term", "puts"] (defScope s_walked) := ⟨rfl, rfl, rfl, by decide +kernel, rfl, by decide +kernel, by decide +kernel⟩
abbrev s_parts_up_to : Stmt := top 15
theorem sc_parts_up_to : FnScope ["term", "puts", "most", "many", "left"] ["term", "puts", "most"] (defScope s_parts_up_to) := ⟨rfl, rfl, rfl, by decide +kernel, rfl, by decide +kernel, by decide +kernel⟩
abbrev s_put_in : Stmt := top 16
theorem sc_put_in : FnScope ["term", "puts", "kid"] ["term", "puts"] (defScope s_put_in) := ⟨rfl, rfl, rfl, by decide +kernel, rfl, by decide +kernel, by decide +kernel⟩
abbrev s_written_out : Stmt := top 17
theorem sc_written_out : FnScope ["term", "puts"] ["term", "puts"] (defScope s_written_out) := ⟨rfl, rfl, rfl, by decide +kernel, rfl, by decide +kernel, by decide +kernel⟩
abbrev s_head_of : Stmt := top 19
theorem sc_head_of : FnScope ["term"] ["term"] (defScope s_head_of) := ⟨rfl, rfl, rfl, by decide +kernel, rfl, by decide +kernel, by decide +kernel⟩
abbrev s_stands_in : Stmt := top 20
theorem sc_stands_in : FnScope ["name", "term", "puts", "left"] ["name", "term", "puts"] (defScope s_stands_in) := ⟨rfl, rfl, rfl, by decide +kernel, rfl, by decide +kernel, by decide +kernel⟩
abbrev s_kids_of : Stmt := top 21
theorem sc_kids_of : FnScope ["path", "one", "other", "rows", "at"] ["path", "one", "other"] (defScope s_kids_of) := ⟨rfl, rfl, rfl, by decide +kernel, rfl, by decide +kernel, by decide +kernel⟩
abbrev s_made_one : Stmt := top 22
theorem sc_made_one : FnScope ["one", "other", "puts", "found", "left", "path"] ["one", "other", "puts"] (defScope s_made_one) := ⟨rfl, rfl, rfl, by decide +kernel, rfl, by decide +kernel, by decide +kernel⟩
abbrev s_deed : Stmt := top 31
theorem sc_deed : FnScope ["goal", "puts", "left", "right", "made", "less", "more"] ["goal", "puts"] (defScope s_deed) := ⟨rfl, rfl, rfl, by decide +kernel, rfl, by decide +kernel, by decide +kernel⟩
abbrev s_same_word : Stmt := top 32
theorem sc_same_word : FnScope ["head", "goal"] ["head", "goal"] (defScope s_same_word) := ⟨rfl, rfl, rfl, by decide +kernel, rfl, by decide +kernel, by decide +kernel⟩
abbrev s_law_cell_at : Stmt := top 36
theorem sc_law_cell_at : FnScope ["_law_script", "_law_k", "_law_cell", "_law_number", "_law_mixed", "_law_turn"] ["_law_script", "_law_k"] (defScope s_law_cell_at) := ⟨rfl, rfl, rfl, by decide +kernel, rfl, by decide +kernel, by decide +kernel⟩
abbrev s_law_pick : Stmt := top 37
theorem sc_law_pick : FnScope ["_law_cell", "_law_k", "_law_many"] ["_law_cell", "_law_k", "_law_many"] (defScope s_law_pick) := ⟨rfl, rfl, rfl, by decide +kernel, rfl, by decide +kernel, by decide +kernel⟩
abbrev s_law_words : Stmt := top 38
theorem sc_law_words : FnScope ["_law_cell", "_law_letters", "_law_base", "_law_k", "_law_at", "_law_words_here", "_law_word", "_law_j"] ["_law_cell"] (defScope s_law_words) := ⟨rfl, rfl, rfl, by decide +kernel, rfl, by decide +kernel, by decide +kernel⟩
abbrev s_law_names : Stmt := top 39
theorem sc_law_names : FnScope ["_law_words_here", "_law_cell", "_law_one_here", "_law_first", "_law_some", "_law_word"] ["_law_words_here", "_law_cell"] (defScope s_law_names) := ⟨rfl, rfl, rfl, by decide +kernel, rfl, by decide +kernel, by decide +kernel⟩
abbrev s_law_thing : Stmt := top 40
theorem sc_law_thing : FnScope ["_law_cell", "_law_names_here", "_law_words_here", "_law_often", "_law_deep", "_law_kind", "_law_name", "_law_some", "_law_thing_here"] ["_law_cell", "_law_names_here", "_law_words_here", "_law_often", "_law_deep"] (defScope s_law_thing) := ⟨rfl, rfl, rfl, by decide +kernel, rfl, by decide +kernel, by decide +kernel⟩
abbrev s_law_goal : Stmt := top 41
theorem sc_law_goal : FnScope ["_law_cell", "_law_names_here", "_law_words_here", "_law_level", "_law_one_here", "_law_other", "_law_kind"] ["_law_cell", "_law_names_here", "_law_words_here", "_law_level"] (defScope s_law_goal) := ⟨rfl, rfl, rfl, by decide +kernel, rfl, by decide +kernel, by decide +kernel⟩
abbrev s_law_rule : Stmt := top 42
theorem sc_law_rule : FnScope ["_law_script", "_law_k", "_law_names_here", "_law_words_here", "_law_cell", "_law_more", "_law_kind", "_law_many", "_law_often", "_law_one_here", "_law_other", "_law_kids", "_law_goals", "_law_j"] ["_law_script", "_law_k", "_law_names_here", "_law_words_here"] (defScope s_law_rule) := ⟨rfl, rfl, rfl, by decide +kernel, rfl, by decide +kernel, by decide +kernel⟩
abbrev s_law_walk : Stmt := top 43
theorem sc_law_walk : FnScope ["_law_term", "_law_puts"] ["_law_term", "_law_puts"] (defScope s_law_walk) := ⟨rfl, rfl, rfl, by decide +kernel, rfl, by decide +kernel, by decide +kernel⟩
abbrev s_law_holds : Stmt := top 44
theorem sc_law_holds : FnScope ["_law_name", "_law_term", "_law_puts", "_law_kid"] ["_law_name", "_law_term", "_law_puts"] (defScope s_law_holds) := ⟨rfl, rfl, rfl, by decide +kernel, rfl, by decide +kernel, by decide +kernel⟩
abbrev s_law_one : Stmt := top 45
theorem sc_law_one : FnScope ["_law_one_here", "_law_other", "_law_puts", "_law_new", "_law_kid", "_law_kin"] ["_law_one_here", "_law_other", "_law_puts"] (defScope s_law_one) := ⟨rfl, rfl, rfl, by decide +kernel, rfl, by decide +kernel, by decide +kernel⟩
abbrev s_law_read : Stmt := top 46
theorem sc_law_read : FnScope ["_law_term", "_law_puts", "_law_kid"] ["_law_term", "_law_puts"] (defScope s_law_read) := ⟨rfl, rfl, rfl, by decide +kernel, rfl, by decide +kernel, by decide +kernel⟩
abbrev s_law_named : Stmt := top 47
theorem sc_law_named : FnScope ["_law_term", "_law_found", "_law_kid"] ["_law_term", "_law_found"] (defScope s_law_named) := ⟨rfl, rfl, rfl, by decide +kernel, rfl, by decide +kernel, by decide +kernel⟩
abbrev s_law_called : Stmt := top 48
theorem sc_law_called : FnScope ["_law_term", "_law_names_here", "_law_kid"] ["_law_term", "_law_names_here"] (defScope s_law_called) := ⟨rfl, rfl, rfl, by decide +kernel, rfl, by decide +kernel, by decide +kernel⟩
abbrev s_law_anew : Stmt := top 49
theorem sc_law_anew : FnScope ["_law_term", "_law_names_here", "_law_name"] ["_law_term"] (defScope s_law_anew) := ⟨rfl, rfl, rfl, by decide +kernel, rfl, by decide +kernel, by decide +kernel⟩
abbrev s_law_marked : Stmt := top 50
theorem sc_law_marked : FnScope ["_law_term", "_law_n", "_law_names_here", "_law_name"] ["_law_term", "_law_n"] (defScope s_law_marked) := ⟨rfl, rfl, rfl, by decide +kernel, rfl, by decide +kernel, by decide +kernel⟩
abbrev s_law_ways_of : Stmt := top 51
theorem sc_law_ways_of : FnScope ["_law_rules", "_law_goal_here", "_law_puts", "_law_way", "_law_found", "_law_k", "_law_one_here", "_law_body", "_law_made", "_law_more", "_law_kept"] ["_law_rules", "_law_goal_here", "_law_puts", "_law_way"] (defScope s_law_ways_of) := ⟨rfl, rfl, rfl, by decide +kernel, rfl, by decide +kernel, by decide +kernel⟩
abbrev s_law_all : Stmt := top 52
theorem sc_law_all : FnScope ["_law_rules", "_law_goals", "_law_puts", "_law_way", "_law_goal_here", "_law_later", "_law_made", "_law_found", "_law_gone", "_law_more", "_law_kept"] ["_law_rules", "_law_goals", "_law_puts", "_law_way"] (defScope s_law_all) := ⟨rfl, rfl, rfl, by decide +kernel, rfl, by decide +kernel, by decide +kernel⟩
abbrev s_law_told : Stmt := top 53
theorem sc_law_told : FnScope ["_law_names_here", "_law_puts", "_law_way", "_law_due", "_law_name"] ["_law_names_here", "_law_puts", "_law_way"] (defScope s_law_told) := ⟨rfl, rfl, rfl, by decide +kernel, rfl, by decide +kernel, by decide +kernel⟩
abbrev s_law : Stmt := top 54
theorem sc_law : FnScope ["_law_script", "_law_words_here", "_law_way", "_law_names_here", "_law_rules", "_law_k", "_law_one_here", "_law_other", "_law_goals", "_law_most", "_law_asked", "_law_found", "_law_ways", "_law_due", "_law_puts", "_law_gone"] ["_law_script"] (defScope s_law) := ⟨rfl, rfl, rfl, by decide +kernel, rfl, by decide +kernel, by decide +kernel⟩
structure Txt (K : PySem.W.Frag) (mg : Str → Option Value) where
  len : mg "len" = none
  list : mg "list" = none
  reversed : mg "reversed" = none
  zip : mg "zip" = none
  enumerate : mg "enumerate" = none
  tuple : mg "tuple" = none
  dict : mg "dict" = none
  str : mg "str" = none
  int : mg "int" = none
  sum : mg "sum" = none
  range : mg "range" = none
  MOST_PARTS_puts : ∃ t, mg "MOST_PARTS_puts" = some (.int 40 t)
  MOST_PARTS_search : ∃ t, mg "MOST_PARTS_search" = some (.int 40 t)
  d_unknown : DefAt K mg "unknown" s_unknown ["name"]
  d_app : DefAt K mg "app" s_app ["sign", "kids"]
  d_unknowns_of : DefAt K mg "unknowns_of" s_unknowns_of ["terms"]
  d_renamed : DefAt K mg "renamed" s_renamed ["term", "names"]
  d_told_anew : DefAt K mg "told_anew" s_told_anew ["terms"]
  d_marked : DefAt K mg "marked" s_marked ["term", "n"]
  d_walked : DefAt K mg "walked" s_walked ["term", "puts"]
  d_parts_up_to : DefAt K mg "parts_up_to" s_parts_up_to ["term", "puts", "most"]
  d_put_in : DefAt K mg "put_in" s_put_in ["term", "puts"]
  d_written_out : DefAt K mg "written_out" s_written_out ["term", "puts"]
  d_head_of : DefAt K mg "head_of" s_head_of ["term"]
  d_stands_in : DefAt K mg "stands_in" s_stands_in ["name", "term", "puts"]
  d_kids_of : DefAt K mg "kids_of" s_kids_of ["path", "one", "other"]
  d_made_one : DefAt K mg "made_one" s_made_one ["one", "other", "puts"]
  d_deed : DefAt K mg "deed" s_deed ["goal", "puts"]
  d_same_word : DefAt K mg "same_word" s_same_word ["head", "goal"]
  d_law_cell_at : DefAt K mg "_law_cell_at" s_law_cell_at ["_law_script", "_law_k"]
  d_law_pick : DefAt K mg "_law_pick" s_law_pick ["_law_cell", "_law_k", "_law_many"]
  d_law_words : DefAt K mg "_law_words" s_law_words ["_law_cell"]
  d_law_names : DefAt K mg "_law_names" s_law_names ["_law_words_here", "_law_cell"]
  d_law_thing : DefAt K mg "_law_thing" s_law_thing ["_law_cell", "_law_names_here", "_law_words_here", "_law_often", "_law_deep"]
  d_law_goal : DefAt K mg "_law_goal" s_law_goal ["_law_cell", "_law_names_here", "_law_words_here", "_law_level"]
  d_law_rule : DefAt K mg "_law_rule" s_law_rule ["_law_script", "_law_k", "_law_names_here", "_law_words_here"]
  d_law_walk : DefAt K mg "_law_walk" s_law_walk ["_law_term", "_law_puts"]
  d_law_holds : DefAt K mg "_law_holds" s_law_holds ["_law_name", "_law_term", "_law_puts"]
  d_law_one : DefAt K mg "_law_one" s_law_one ["_law_one_here", "_law_other", "_law_puts"]
  d_law_read : DefAt K mg "_law_read" s_law_read ["_law_term", "_law_puts"]
  d_law_named : DefAt K mg "_law_named" s_law_named ["_law_term", "_law_found"]
  d_law_called : DefAt K mg "_law_called" s_law_called ["_law_term", "_law_names_here"]
  d_law_anew : DefAt K mg "_law_anew" s_law_anew ["_law_term"]
  d_law_marked : DefAt K mg "_law_marked" s_law_marked ["_law_term", "_law_n"]
  d_law_ways_of : DefAt K mg "_law_ways_of" s_law_ways_of ["_law_rules", "_law_goal_here", "_law_puts", "_law_way"]
  d_law_all : DefAt K mg "_law_all" s_law_all ["_law_rules", "_law_goals", "_law_puts", "_law_way"]
  d_law_told : DefAt K mg "_law_told" s_law_told ["_law_names_here", "_law_puts", "_law_way"]
  d_law : DefAt K mg "law" s_law ["_law_script"]
end Gt
set_option Elab.async false
set_option linter.all false
set_option maxRecDepth 100000
set_option maxHeartbeats 4000000
/-! Short readings. -/
namespace Gt
open PySem L2
/-- te gives v, the heap stays -/
def EvV (te : TE) (σ : St) (H : Hp) (v : V) : Prop := ∀ Q : VK, Q v H → te σ H Q
section
variable {K : PySem.W.Frag} {te td ty : TE} {σ : St} {H : Hp} {v : V} {t : Tm} {Q : Bool → Hp → Prop}
theorem ev_var {i : Nat} (h : σ[i]? = some (some v)) : EvV (tVar i) σ H v := fun _ q => ⟨v, h, q⟩
def isAny : Tm → Bool
  | .any _ => true
  | .num _ => false
  | .app _ _ => false
def isNum : Tm → Bool
  | .any _ => false
  | .num _ => true
  | .app _ _ => false
def isApp : Tm → Bool
  | .any _ => false
  | .num _ => false
  | .app _ _ => true
theorem d_aa : decide (V.str "any" = V.str "any") = true := by decide +kernel
theorem d_an : decide (V.str "any" = V.str "num") = false := by decide +kernel
theorem d_ap : decide (V.str "any" = V.str "app") = false := by decide +kernel
theorem d_na : decide (V.str "num" = V.str "any") = false := by decide +kernel
theorem d_nn : decide (V.str "num" = V.str "num") = true := by decide +kernel
theorem d_np : decide (V.str "num" = V.str "app") = false := by decide +kernel
theorem d_pa : decide (V.str "app" = V.str "any") = false := by decide +kernel
theorem d_pn : decide (V.str "app" = V.str "num") = false := by decide +kernel
theorem d_pp : decide (V.str "app" = V.str "app") = true := by decide +kernel
theorem x_tag (he : EvV te σ H v) (h : Tr K H v t) : EvV (tOp (rIxT K) te (tC (.int 0))) σ H (match t with | .num _ => .str "num" | .any _ => .str "any" | .app _ _ => .str "app") := fun R q => by
  refine he _ ?_
  cases t with
  | num n => obtain ⟨p, rfl, h⟩ := h; exact ⟨p, _, 0, _, rfl, rfl, h, rfl, q⟩
  | any x => obtain ⟨p, rfl, h⟩ := h; exact ⟨p, _, 0, _, rfl, rfl, h, rfl, q⟩
  | app s ks => obtain ⟨p, qq, vs, rfl, h, _⟩ := h; exact ⟨p, _, 0, _, rfl, rfl, h, rfl, q⟩
theorem t_any (he : EvV te σ H v) (h : Tr K H v t) (q : Q (isAny t) H) : tTest (tOp rEq (tOp (rIxT K) te (tC (.int 0))) (tC (.str "any"))) σ H Q := by
  refine x_tag he h _ ?_
  cases t with
  | num n => exact ⟨rfl, _, rfl, by rw [d_na]; exact q⟩
  | any n => exact ⟨rfl, _, rfl, by rw [d_aa]; exact q⟩
  | app _ _ => exact ⟨rfl, _, rfl, by rw [d_pa]; exact q⟩
theorem t_num (he : EvV te σ H v) (h : Tr K H v t) (q : Q (isNum t) H) : tTest (tOp rEq (tOp (rIxT K) te (tC (.int 0))) (tC (.str "num"))) σ H Q := by
  refine x_tag he h _ ?_
  cases t with
  | num n => exact ⟨rfl, _, rfl, by rw [d_nn]; exact q⟩
  | any n => exact ⟨rfl, _, rfl, by rw [d_an]; exact q⟩
  | app _ _ => exact ⟨rfl, _, rfl, by rw [d_pn]; exact q⟩
theorem t_app (he : EvV te σ H v) (h : Tr K H v t) (q : Q (isApp t) H) : tTest (tOp rEq (tOp (rIxT K) te (tC (.int 0))) (tC (.str "app"))) σ H Q := by
  refine x_tag he h _ ?_
  cases t with
  | num n => exact ⟨rfl, _, rfl, by rw [d_np]; exact q⟩
  | any n => exact ⟨rfl, _, rfl, by rw [d_ap]; exact q⟩
  | app _ _ => exact ⟨rfl, _, rfl, by rw [d_pp]; exact q⟩
theorem t_nany (he : EvV te σ H v) (h : Tr K H v t) (q : Q (!isAny t) H) : tTest (tOp rNe (tOp (rIxT K) te (tC (.int 0))) (tC (.str "any"))) σ H Q := by
  refine x_tag he h _ ?_
  cases t with
  | num n => exact ⟨rfl, _, rfl, by rw [d_na]; exact q⟩
  | any n => exact ⟨rfl, _, rfl, by rw [d_aa]; exact q⟩
  | app _ _ => exact ⟨rfl, _, rfl, by rw [d_pa]; exact q⟩
theorem t_napp (he : EvV te σ H v) (h : Tr K H v t) (q : Q (!isApp t) H) : tTest (tOp rNe (tOp (rIxT K) te (tC (.int 0))) (tC (.str "app"))) σ H Q := by
  refine x_tag he h _ ?_
  cases t with
  | num n => exact ⟨rfl, _, rfl, by rw [d_np]; exact q⟩
  | any n => exact ⟨rfl, _, rfl, by rw [d_ap]; exact q⟩
  | app _ _ => exact ⟨rfl, _, rfl, by rw [d_pp]; exact q⟩
theorem x_any {x : Str} (he : EvV te σ H v) (h : Tr K H v (.any x)) : EvV (tOp (rIxT K) te (tC (.int 1))) σ H (.str x) := fun R q => by
  refine he _ ?_
  obtain ⟨p, rfl, h⟩ := h
  exact ⟨p, _, 1, _, rfl, rfl, h, rfl, q⟩
theorem x_sgn {s : Str} {ks : List Tm} (he : EvV te σ H v) (h : Tr K H v (.app s ks)) : EvV (tOp (rIxT K) te (tC (.int 1))) σ H (.str s) := fun R q => by
  refine he _ ?_
  obtain ⟨p, qq, vs, rfl, h, _⟩ := h
  exact ⟨p, _, 1, _, rfl, rfl, h, rfl, q⟩
/-- an item of a tuple -/
theorem x_tup {p : Addr} {xs : List V} {i : Int} {x : V} (he : EvV te σ H (.ref p)) (h : SqT K H p xs) (hi : atI xs i = some x) : EvV (tOp (rIxT K) te (tC (.int i))) σ H x := fun R q => he _ ⟨p, xs, i, x, rfl, rfl, h, hi, q⟩
theorem x_lst {p : Addr} {xs : List V} {i : Int} {x : V} (he : EvV te σ H (.ref p)) (h : SqL K H p xs) (hi : atI xs i = some x) : EvV (tOp (rIxL K) te (tC (.int i))) σ H x := fun R q => he _ ⟨p, xs, i, x, rfl, rfl, h, hi, q⟩
theorem x_get {d : Addr} {kvs : List (Key × V)} {x : Str} {r : V} (hd : EvV td σ H (.ref d)) (hy : EvV ty σ H (.str x)) (h : H d = some (.dK kvs)) (hv : valV kvs (Sum.inr x) = some r) : EvV (tDGet td ty) σ H r := fun R q =>
  hd _ (hy _ ⟨d, r, rfl, by rw [← hv]; exact DGet.k (k := Sum.inr x) h, q⟩)
theorem t_in {d : Addr} {kvs : List (Key × V)} {x : Str} (hy : EvV ty σ H (.str x)) (hd : EvV td σ H (.ref d)) (h : H d = some (.dK kvs)) (q : Q (valV kvs (Sum.inr x)).isSome H) : tB (tDIn ty td) σ H Q :=
  hy _ (hd _ ⟨d, _, rfl, DGet.k (k := Sum.inr x) h, _, rfl, q⟩)
theorem x_lenL {p : Addr} {xs : List V} (he : EvV te σ H (.ref p)) (h : SqL K H p xs ∨ SqT K H p xs) : EvV (tCB (fun xs H Q => ∃ p ys, xs = [.ref p] ∧ (SqL K H p ys ∨ SqT K H p ys) ∧ Q (.int ys.length) H) (tCons te tNil)) σ H (.int xs.length) := fun R q =>
  he _ ⟨p, xs, rfl, h, q⟩
theorem t_pos {p : Addr} {xs : List V} (he : EvV te σ H (.ref p)) (h : H p = some (.lst xs)) (q : Q (!xs.isEmpty) H) : tTest (tOp (rI0 fun i j => V.bl (decide (j < i))) (tCB (fun xs H Q => ∃ p ys, xs = [.ref p] ∧ (SqL K H p ys ∨ SqT K H p ys) ∧ Q (.int ys.length) H) (tCons te tNil)) (tC (.int 0))) σ H Q :=
  by
    refine x_lenL he (.inl (SqL.of h)) (fun x H1 => ∃ i j, x = V.int i ∧ V.int 0 = V.int j ∧ ∃ k, V.bl (decide (j < i)) = V.bl k ∧ Q k H1) ⟨_, _, rfl, rfl, _, rfl, ?_⟩
    have e : decide ((0 : Int) < ((xs.length : Nat) : Int)) = !xs.isEmpty := by
      cases xs with
      | nil => rfl
      | cons a l =>
        show decide ((0 : Int) < (((a :: l).length : Nat) : Int)) = true
        exact decide_eq_true (by rw [List.length_cons]; omega)
    rw [e]
    exact q
theorem x_pop {l : Addr} {xs : List V} {y : V} {R : VK} (he : EvV te σ H (.ref l)) (hl : H l = some (.lst xs)) (hy : xs[xs.length - 1]? = some y) (q : R y (upd H l (.lst xs.dropLast))) : tBM0 K "list" rPop te σ H R :=
  he _ ⟨.inl ⟨rfl, _, SqL.of hl⟩, l, xs, y, rfl, rfl, hl, hy, q⟩
theorem x_app {l : Addr} {xs : List V} {y : V} {R : VK} (he : EvV te σ H (.ref l)) (hy : EvV ty σ H y) (hl : H l = some (.lst xs)) (hz : xs.length < sizeLine) (q : R .non (upd H l (.lst (xs ++ [y])))) : tBM K "list" rAppend te (tCons ty tNil) σ H R :=
  he _ ⟨.inl ⟨rfl, _, SqL.of hl⟩, hy _ ⟨l, xs, y, rfl, rfl, hl, hz, q⟩⟩
theorem x_extT {l b : Addr} {xs zs : List V} {R : VK} (he : EvV te σ H (.ref l)) (hy : EvV ty σ H (.ref b)) (hl : H l = some (.lst xs)) (hb : SqT K H b zs) (hz : xs.length + zs.length ≤ sizeLine) (q : R .non (upd H l (.lst (xs ++ zs)))) : tBM K "list" (rExtT K) te (tCons ty tNil) σ H R :=
  he _ ⟨.inl ⟨rfl, _, SqL.of hl⟩, hy _ ⟨l, b, xs, zs, rfl, rfl, hl, hb, hz, q⟩⟩
end
/-! upd at two places -/
theorem upd_at {H : Hp} {a b : Addr} {o u : HO} (h : H b = some u) (n : b ≠ a) : upd H a o b = some u := by rw [upd_ne n]; exact h
theorem none_of_upd {H : Hp} {a b : Addr} {o : HO} (h : upd H a o b = none) : H b = none ∧ b ≠ a := by
  by_cases e : b = a
  · rw [e, upd_same] at h; exact nomatch h
  · exact ⟨by rw [upd_ne e] at h; exact h, e⟩
/-- a list or a dict written: tuples stay -/
theorem samT_lst {H : Hp} {a : Addr} {xs : List V} {o : HO} (h : H a = some (.lst xs)) : SameT H (upd H a o) := (off_upd h).t
theorem samT_dk {H : Hp} {a : Addr} {kvs : List (Key × V)} {o : HO} (h : H a = some (.dK kvs)) : SameT H (upd H a o) := fun p xs r => by
  have ne : p ≠ a := fun q => by
    subst q
    rcases r with r | ⟨_, r⟩ <;> (rw [h] at r; cases r)
  rcases r with r | ⟨ob, r⟩
  · exact .inl (by rw [upd_ne ne]; exact r)
  · exact .inr ⟨ob, by rw [upd_ne ne]; exact r⟩
theorem rev_cons_drop {α : Type} (x : α) (l : List α) : (x :: l).reverse.dropLast = l.reverse := by simp
theorem rev_cons_last {α : Type} (x : α) (l : List α) : (x :: l).reverse[(x :: l).reverse.length - 1]? = some x := by simp
theorem rev_empty {α : Type} (x : α) (l : List α) : (!(x :: l).reverse.isEmpty) = true := by simp
end Gt
set_option Elab.async false
set_option linter.all false
set_option maxRecDepth 100000
set_option maxHeartbeats 4000000
/-! Names of unknowns, marked and renamed terms. -/
namespace Gt
open PySem L2
def spUnknown (K : PySem.W.Frag) : Sp := fun vs H Q _ => ∃ x, vs = [.str x] ∧ ∀ H' v, Same H H' → Tr K H' v (.any x) → Q v H'
def spApp (K : PySem.W.Frag) : Sp := fun vs H Q _ => ∃ s l ws ks, vs = [.str s, .ref l] ∧ SqL K H l ws ∧ Trs K H ws ks ∧ ∀ H' v, Same H H' → Tr K H' v (.app s ks) → Q v H'
def spUnknowns (K : PySem.W.Frag) : Sp := fun vs H Q _ => ∃ a ws ts, vs = [.ref a] ∧ SqL K H a ws ∧ Trs K H ws ts ∧ Tm.sizeL ts ≤ 1000 ∧ ∀ H' p, Same H H' → H p = none → H' p = some (.lst ((namesOf ts).map V.str)) → Q (.ref p) H'
def spRenamed (K : PySem.W.Frag) (n : Nat) : Sp := fun vs H Q _ => ∃ (v : V) (d : Addr) (t : Tm) (kvs : List (Key × V)) (f : Str → Str), vs = [v, .ref d] ∧ Tr K H v t ∧ H d = some (.dK kvs) ∧ (∀ x ∈ t.vars, valV kvs (Sum.inr x) = some (.str (f x))) ∧ t.dep ≤ n ∧ Ar t ∧ ∀ H' v', Same H H' → Tr K H' v' (ap (fun x => .any (f x)) t) → Q v' H'
section
variable {P : Program} {w : World} {K : PySem.W.Frag} {mg : Str → Option Value} {base : Heap} {CX : CXT}
theorem fnok_void {f : Addr} {fd : FuncData} {ps : List Str} {k : Nat} {sp : Sp} (h : ∀ vs H Q E, ¬ sp vs H Q E) : FnOk P w K mg base CX k f fd ps sp :=
  ⟨fun vs H Q E q => (h vs H Q E q).elim, fun A outer s H args us vs Q E _ _ _ _ q => (h vs H Q E q).elim⟩
theorem ok_unknown (T : Txt K mg) : FnOk P w K mg base CX0 1 T.d_unknown.f T.d_unknown.fd ["name"] (spUnknown K) := by
  refine T.d_unknown.F.ok sc_unknown (fun vs H Q E h => ?_) (fun cdv A outer s H vs Q E hr h => ?_)
  · obtain ⟨x, rfl, _⟩ := h
    rfl
  · obtain ⟨x, rfl, k⟩ := h
    refine ⟨_, (pss_one (ps_ret (pe_tup (pa_cons pe_str (pa_cons (pv 0) pa_nil))))), ?_⟩
    exact ⟨V.str x, rfl, (by show 2 ≤ sizeLine; decide), fun p hp => k _ _ (same_new hp) (Tr.mk_any upd_same)⟩
theorem ok_app (T : Txt K mg) : FnOk P w K mg base CX0 1 T.d_app.f T.d_app.fd ["sign", "kids"] (spApp K) := by
  refine T.d_app.F.ok sc_app (fun vs H Q E h => ?_) (fun cdv A outer s H vs Q E hr h => ?_)
  · obtain ⟨s, l, ws, ks, rfl, _⟩ := h
    rfl
  · obtain ⟨s, l, ws, ks, rfl, hl, hk, k⟩ := h
    refine ⟨_, (pss_one (ps_ret (pe_tup (pa_cons pe_str (pa_cons (pv 0) (pa_cons (pe_callTy call_tuple_of (by rfl) T.tuple (by decide +kernel) (pa_cons (pv 1) pa_nil)) pa_nil)))))), ?_⟩
    refine ⟨V.str s, rfl, V.ref l, rfl, l, ws, rfl, .inl ⟨hl, fun q hq => ⟨(by show 3 ≤ sizeLine; decide), fun p hp => ?_⟩⟩⟩
    have s1 : Same H (upd H q (.tup ws)) := same_new hq
    have s2 : Same (upd H q (.tup ws)) (upd (upd H q (.tup ws)) p (.tup [.str "app", .str s, .ref q])) := same_new hp
    exact k _ _ (s1.trans s2) (Tr.mk_app upd_same (SqT.of (s2 _ _ upd_same)) (hk.same (s1.trans s2)))
theorem sizeL_len : ∀ ts : List Tm, ts.length ≤ Tm.sizeL ts
  | [] => Nat.le_refl _
  | t :: ts => by
    have h1 := sizeL_len ts
    have h2 := size_pos t
    rw [List.length_cons, Tm.sizeL]
    omega
theorem last_rev {α : Type} (x : α) (l : List α) : (l.reverse ++ [x])[(l.reverse ++ [x]).length - 1]? = some x := by simp
theorem keys_put (acc : List Str) (x : Str) (v : V) : putK (acc.map fun y => ((Sum.inr y : Key), v)) (Sum.inr x) v = (addN acc x).map fun y => ((Sum.inr y : Key), v) := by
  unfold putK addN
  by_cases h : x ∈ acc
  · rw [if_pos h, if_pos]
    · rw [List.map_map]
      refine List.map_congr_left fun y _ => ?_
      simp only [Function.comp]
      split <;> rfl
    · rw [List.any_eq_true]
      exact ⟨(Sum.inr x, v), List.mem_map.mpr ⟨x, h, rfl⟩, decide_eq_true rfl⟩
  · rw [if_neg h, if_neg]
    · rw [List.map_append]
      rfl
    · rw [List.any_eq_true]
      rintro ⟨q, hq, e⟩
      obtain ⟨y, hy, rfl⟩ := List.mem_map.mp hq
      have := of_decide_eq_true e
      injection this with e
      exact h (e ▸ hy)
theorem ok_unknowns_of (T : Txt K mg) : FnOk P w K mg base CX0 1 T.d_unknowns_of.f T.d_unknowns_of.fd ["terms"] (spUnknowns K) := by
  refine T.d_unknowns_of.F.ok sc_unknowns_of (fun vs H Q E h => ?_) (fun cdv A outer s H vs Q E hr h => ?_)
  · obtain ⟨a, ws, ts, rfl, _⟩ := h
    rfl
  · obtain ⟨a, ws, ts, rfl, ha, ht, hz, k⟩ := h
    refine ⟨_, (pss_cons (ps_set (i := 1) sc_unknowns_of.nd rfl (Or.inl rfl) pe_dnewK)
          (pss_cons (ps_set (i := 2) sc_unknowns_of.nd rfl (Or.inl rfl) (pe_lstRev (by rfl) (by rfl) T.list (by rfl) T.reversed (pv 0)))
          (pss_cons (ps_while PassesOwn.never (pt_cmpR op_gt (pe_callB call_len_seq (by rfl) T.len PySem.boot_len (pa_cons (pv 2) pa_nil)) pe_int (nomark _))
          (pss_cons (ps_set (i := 3) sc_unknowns_of.nd rfl (Or.inl rfl) (pe_bm0 PySem.F.plainAttrs_list PySem.F.slot_list_pop PySem.F.type_list_pop mt_pop (pv 2)))
          (pss_cons (ps_if (pt_cmpR op_eq (pe_ix ix_tup (pv 3) pe_int (fun _ _ => rfl)) pe_str (nomark _)) (pss_one (ps_dput (hu_of hr) (pv 1) (pe_ix ix_tup (pv 3) pe_int (fun _ _ => rfl)) pe_bl rfl)) pss_nil)
          (pss_one (ps_if (pt_cmpR op_eq (pe_ix ix_tup (pv 3) pe_int (fun _ _ => rfl)) pe_str (nomark _)) (pss_one (ps_expr (pe_bm PySem.F.plainAttrs_list PySem.F.slot_list_extend PySem.F.type_list_extend mt_extend (pv 2) (pa_cons (pe_lstRev (by rfl) (by rfl) T.list (by rfl) T.reversed (pe_ix ix_tup (pv 3) pe_int (fun _ _ => rfl))) pa_nil)))) pss_nil)))))
          (pss_one (ps_ret (pe_callTy (call_list_dK rfl) (by rfl) T.list (by decide +kernel) (pa_cons (pv 1) pa_nil))))))), ?_⟩
    intro d hd
    refine ⟨_, rfl, a, ws, rfl, .inl ((same_new hd).seq ha), fun l hl => ?_⟩
    obtain ⟨hl0, nld⟩ := none_of_upd hl
    let W : Nat → St → Hp → Prop := fun m σ H' => ∃ acc sv st v3, σ = [some (.ref a), some (.ref d), some (.ref l), v3] ∧ m = Tm.sizeL st ∧ Same H H' ∧ H' d = some (.dK (acc.map fun y => ((Sum.inr y : Key), V.bl true))) ∧ H' l = some (.lst sv.reverse) ∧
      Trs K H' sv st ∧ uniq acc (Tm.varsL st) = namesOf ts ∧ acc.length + Tm.sizeL st ≤ 1000
    have big : (1000 : Nat) < sizeLine := by decide
    refine ⟨W, ⟨_, [], ws, ts, none, rfl, rfl, (same_new hd).trans (same_new hl), upd_at upd_same nld.symm, upd_same, ht.same ((same_new hd).trans (same_new hl)), rfl, by simpa using hz⟩, ?_⟩
    rintro m σ H' ⟨acc, sv, st, v3, rfl, rfl, s1, h1, h2, h3, h4, h5⟩
    refine t_pos (ev_var rfl) h2 ?_
    cases st with
    | nil =>
      cases sv with
      | cons _ _ => exact h3.elim
      | nil =>
        refine iteF ?_
        refine ⟨_, rfl, d, _, rfl, h1, fun p hp => ?_⟩
        refine k _ p (s1.trans (same_new hp)) (s1.free hp) ?_
        rw [upd_same, List.map_map]
        exact congrArg (fun x => some (HO.lst (List.map V.str x))) h4
    | cons t st =>
      cases sv with
      | nil => exact h3.elim
      | cons v sv =>
        obtain ⟨hv, h3⟩ := h3
        have sz := size_pos t
        rw [Tm.sizeL] at h5
        rw [rev_empty]
        refine iteT ⟨fun σ' H'' => ∃ m', m' < Tm.sizeL (t :: st) ∧ W m' σ' H'', fun _ _ h => h, ?_⟩
        refine x_pop (ev_var rfl) h2 (rev_cons_last v sv) ?_
        rw [rev_cons_drop]
        have nld' : l ≠ d := nld
        have sT : SameT H' (upd H' l (.lst sv.reverse)) := samT_lst h2
        have hv' := hv.samT sT
        have h3' := Trs.samT sT h3
        have s2 : Same H (upd H' l (.lst sv.reverse)) := same_upd s1 hl0
        have h1' : upd H' l (.lst sv.reverse) d = some (.dK (acc.map fun y => ((Sum.inr y : Key), V.bl true))) := upd_at h1 nld'.symm
        have h2' : upd H' l (.lst sv.reverse) l = some (.lst sv.reverse) := upd_same
        generalize upd H' l (.lst sv.reverse) = G at *
        refine t_any (ev_var rfl) hv' ?_
        cases t with
        | num n =>
          refine iteF ?_
          refine t_app (ev_var rfl) hv' (iteF ?_)
          exact ⟨_, by rw [Tm.sizeL]; omega, acc, sv, st, _, rfl, rfl, s2, h1', h2', h3', h4, by omega⟩
        | any x =>
          refine iteT ?_
          refine ⟨_, rfl, x_any (ev_var rfl) hv' _ ⟨d, _, rfl, DPut.k (k := Sum.inr x) h1' (by rw [List.length_map]; omega), ?_⟩⟩
          rw [keys_put]
          have sT2 : SameT G (upd G d (.dK ((addN acc x).map fun y => ((Sum.inr y : Key), V.bl true)))) := samT_dk h1'
          refine t_app (ev_var rfl) (hv'.samT sT2) (iteF ?_)
          have la : (addN acc x).length ≤ acc.length + 1 := by
            unfold addN
            split
            · exact Nat.le_succ _
            · simp
          exact ⟨_, by rw [Tm.sizeL]; omega, addN acc x, sv, st, _, rfl, rfl, same_upd s2 hd, upd_same, upd_at h2' nld', Trs.samT sT2 h3', h4, by rw [Tm.size] at h5; omega⟩
        | app s ks =>
          refine iteF ?_
          refine t_app (ev_var rfl) hv' (iteT ?_)
          obtain ⟨p, q, vs, rfl, e1, e2, e3⟩ := hv'
          have kl := sizeL_len ks
          have lv := e3.f2.len
          rw [Tm.size] at h5
          have ls := h3'.len
          have ss := sizeL_len st
          refine ⟨_, rfl, .inl ⟨rfl, _, SqL.of h2'⟩, x_tup (ev_var rfl) e1 rfl _ ⟨q, vs, rfl, .inr e2, fun b hb => ?_⟩⟩
          have nlb : l ≠ b := ne_of_none h2' hb
          have ndb : d ≠ b := ne_of_none h1' hb
          refine ⟨l, b, sv.reverse, vs.reverse, rfl, rfl, upd_at h2' nlb, upd_same, by rw [List.length_reverse, List.length_reverse]; omega, ?_⟩
          have sT3 : SameT G (upd (upd G b (.lst vs.reverse)) l (.lst (sv.reverse ++ vs.reverse))) := (same_t (same_new hb)).trans (samT_lst (upd_at h2' nlb))
          rw [← List.reverse_append] at sT3 ⊢
          refine ⟨_, ?_, acc, vs ++ sv, ks ++ st, _, rfl, rfl, same_upd (s2.trans (same_new hb)) hl0, upd_at (upd_at h1' ndb) nld'.symm, upd_same, Trs.samT sT3 (e3.f2.app h3'), ?_, ?_⟩
          · rw [Tm.sizeL, Tm.size, sizeL_append]
            omega
          · rw [varsL_append]
            exact h4
          · rw [sizeL_append]
            omega
end
end Gt
set_option Elab.async false
set_option linter.all false
set_option maxRecDepth 100000
set_option maxHeartbeats 4000000
/-! Renamed, marked, told terms. -/
namespace Gt
open PySem L2
def spTold (K : PySem.W.Frag) : Sp := fun vs H Q _ => ∃ a ws ts, vs = [.ref a] ∧ SqL K H a ws ∧ Trs K H ws ts ∧ Tm.sizeL ts ≤ 1000 ∧ (∀ t ∈ ts, Ar t ∧ t.dep ≤ 80) ∧
  ∀ H' p us, Same H H' → H p = none → H' p = some (.lst us) → Trs K H' us (toldL ts) → Q (.ref p) H'
def spMarked (K : PySem.W.Frag) : Sp := fun vs H Q _ => ∃ v t n, vs = [v, .int (n : Nat)] ∧ Tr K H v t ∧ t.size ≤ 900 ∧ n < 100000 ∧ (∀ x ∈ t.vars, x.length ≤ 1000) ∧ Ar t ∧ t.dep ≤ 80 ∧ ∀ H' v', Same H H' → Tr K H' v' (mkT n t) → Q v' H'
theorem ap_num (v : Str → Tm) (n : Int) : ap v (.num n) = .num n := rfl
section
variable {P : Program} {w : World} {K : PySem.W.Frag} {mg : Str → Option Value} {base : Heap} {CX : CXT}
theorem ok_renamed (T : Txt K mg) : ∀ n : Nat, FnOk P w K mg base CX0 (n + 1) T.d_renamed.f T.d_renamed.fd ["term", "names"] (spRenamed K n)
  | 0 => fnok_void (fun vs H Q E ⟨v, d, t, kvs, f, _, _, _, _, hd, _⟩ => by have := dep_pos t; omega)
  | n + 1 => by
    have G_renamed := ok_renamed T n
    have G_unknown : FnOk P w K mg base CX0 1 T.d_unknown.f T.d_unknown.fd ["name"] (spUnknown K) := ok_unknown T
    have G_app : FnOk P w K mg base CX0 1 T.d_app.f T.d_app.fd ["sign", "kids"] (spApp K) := ok_app T
    refine T.d_renamed.F.ok sc_renamed (fun vs H Q E h => ?_) (fun cdv A outer s H vs Q E hr h => ?_)
    · obtain ⟨v, d, t, kvs, f, rfl, _⟩ := h
      rfl
    · obtain ⟨v, d, t, kvs, f, rfl, hv, hd, hf, hn, har, k⟩ := h
      have hr1 : Room 1 _ := hr.mono (by omega)
      refine ⟨_, (pss_cons (ps_if (pt_cmpR op_eq (pe_ix ix_tup (pv 0) pe_int (fun _ _ => rfl)) pe_str (nomark _)) (pss_one (ps_ret (pe_call G_unknown (hr.mono (by omega)) rfl T.d_unknown.m T.d_unknown.k T.d_unknown.b .nil pass0 (pa_cons (pe_dget (hu_of hr) (pv 1) (pe_ix ix_tup (pv 0) pe_int (fun _ _ => rfl)) (fun _ _ => rfl)) pa_nil)))) pss_nil)
          (pss_cons (ps_if (pt_cmpR op_eq (pe_ix ix_tup (pv 0) pe_int (fun _ _ => rfl)) pe_str (nomark _)) (pss_one (ps_ret (pv 0))) pss_nil)
          (pss_one (ps_ret (pe_call G_app (hr.mono (by omega)) rfl T.d_app.m T.d_app.k T.d_app.b .nil pass0 (pa_cons (pe_ix ix_tup (pv 0) pe_int (fun _ _ => rfl)) (pa_cons (pe_lc (own := [("kid", 2)]) (g := gName 2) rfl sc_renamed.nd (pi_tup (pe_ix ix_tup (pv 0) pe_int (fun _ _ => rfl))) (blkOk_by (own := [("kid", 2)]) (N := ["term", "names", "kid"]) (sc := defScope s_renamed) (by decide +kernel)) (fun _ _ _ _ _ => (pg_name (i := 2) sc_renamed.nd rfl (Or.inl rfl))) (fun _ _ _ _ _ => pts_nil) (fun _ _ _ _ _ => (pe_call G_renamed (hr.mono (by omega)) rfl T.d_renamed.m T.d_renamed.k T.d_renamed.b .nil pass0 (pa_cons (pv 2) (pa_cons (pv 1) pa_nil))))) pa_nil))))))), ?_⟩
      refine t_any (ev_var rfl) hv ?_
      cases t with
      | num i =>
        refine iteF (t_num (ev_var rfl) hv (iteT ?_))
        exact ⟨_, rfl, k _ _ (Same.refl _) hv⟩
      | any x =>
        refine iteT ?_
        refine x_get (ev_var rfl) (x_any (ev_var rfl) hv) hd (hf x (by simp [Tm.vars])) _ ?_
        exact ⟨_, rfl, fun H' v' s' ht => k _ _ s' ht⟩
      | app s' ks =>
        refine iteF (t_num (ev_var rfl) hv (iteF ?_))
        refine x_sgn (ev_var rfl) hv _ ?_
        obtain ⟨p, q, vs, rfl, e1, e2, e3⟩ := id hv
        rw [Tm.dep] at hn
        have hk := depL_le.mp (show Tm.depL ks ≤ n by omega)
        refine x_tup (ev_var rfl) e1 rfl _ ?_
        refine ⟨q, rfl, ⟨vs, e2⟩, fun D hD => ?_⟩
        refine lc_mapT (as := ks) (In := Tr K) (Out := Tr K) (φ := ap fun x => .any (f x)) hD e2 e3.f2 (by have := har.1; omega) (fun s h => h.same s) (fun o h => h.samT o.t) (fun v x H1 R hx s1 hin kk => ?_) (fun H1 ws s1 h1 h2 => ?_)
        · refine ⟨_, rfl, _, rfl, ?_⟩
          refine ⟨v, d, x, kvs, f, rfl, hin, s1 _ _ hd, fun y hy => hf y ?_, hk x hx, ArL_iff.mp har.2 x hx, kk⟩
          rw [Tm.vars]
          exact varsL_mem.mpr ⟨x, hx, hy⟩
        · refine ⟨s', D, ws, _, rfl, SqL.of h1, h2, fun H2 v2 s2 ht => ?_⟩
          refine k _ _ (s1.trans s2) ?_
          rw [ap, apL_map]
          exact ht
theorem log_small {n : Nat} (h : n < 100000) : ((n : Nat) : Int).natAbs.log2 < 1920 := by
  rw [Int.natAbs_natCast]
  by_cases e : n = 0
  · rw [e]; decide
  · have h1 : n.log2 < 17 := (Nat.log2_lt e).mpr (Nat.lt_trans h (by decide))
    omega
theorem len_num' {n : Nat} (h : n < 100000) : (Str.ofString (toString ((n : Nat) : Int))).length ≤ 5 := by
  rw [TL.len_tl, TL.tl_num]
  exact TL.numL_len (by decide) (Nat.lt_of_lt_of_le h (by decide))
theorem len_app' (x y : Str) : (x ++ y).length = x.length + y.length := by
  rw [TL.len_tl, TL.len_tl, TL.len_tl, TL.tl_append, List.length_append]
mutual
theorem vars_size : ∀ t : Tm, t.vars.length ≤ t.size
  | .num _ => by simp [Tm.vars, Tm.size]
  | .any _ => by simp [Tm.vars, Tm.size]
  | .app _ ks => by
    have := varsL_size ks
    rw [Tm.vars, Tm.size]
    omega
theorem varsL_size : ∀ ts : List Tm, (Tm.varsL ts).length ≤ Tm.sizeL ts
  | [] => Nat.le_refl _
  | t :: ts => by
    have h1 := vars_size t
    have h2 := varsL_size ts
    rw [Tm.varsL, Tm.sizeL, List.length_append]
    omega
end
theorem take_snoc {α β : Type} (f : α → β) {l : List α} {i : Nat} {x : α} (h : l[i]? = some x) : (l.take (i + 1)).map f = (l.take i).map f ++ [f x] := by
  rw [List.take_add_one, h, List.map_append]
  rfl
theorem take_fresh {l : List Str} (nd : l.Nodup) {i : Nat} {x : Str} (h : l[i]? = some x) : x ∉ l.take i := by
  intro m
  obtain ⟨j, hj, e⟩ := List.getElem_of_mem m
  rw [List.length_take] at hj
  rw [List.getElem_take] at e
  obtain ⟨hi, e2⟩ := List.getElem?_eq_some_iff.mp h
  have := (List.getElem_inj nd).mp (e.trans e2.symm)
  omega
theorem uniq_get (U : List Str) (g : Str → Str) (x : Str) (h : x ∈ U) : valV (U.map fun y => ((Sum.inr y : Key), V.str (g y))) (Sum.inr x) = some (.str (g x)) := by
  induction U with
  | nil => exact nomatch h
  | cons y U ih =>
    by_cases e : y = x
    · rw [List.map_cons, valV_pos (by rw [e]), e]
    · rw [List.map_cons, valV_neg (by intro q; injection q with q; exact e q)]
      exact ih ((List.mem_cons.mp h).resolve_left fun q => e q.symm)
theorem uniq_none (U : List Str) (g : Str → Str) (x : Str) (h : x ∉ U) : valV (U.map fun y => ((Sum.inr y : Key), V.str (g y))) (Sum.inr x) = none := by
  induction U with
  | nil => rfl
  | cons y U ih =>
    have e : y ≠ x := fun q => h (q ▸ List.mem_cons_self)
    rw [List.map_cons, valV_neg (by intro q; injection q with q; exact e q)]
    exact ih fun q => h (List.mem_cons_of_mem _ q)
theorem ok_marked (T : Txt K mg) : FnOk P w K mg base CX0 90 T.d_marked.f T.d_marked.fd ["term", "n"] (spMarked K) := by
  have G_renamed : FnOk P w K mg base CX0 81 T.d_renamed.f T.d_renamed.fd ["term", "names"] (spRenamed K 80) := ok_renamed T 80
  have G_unknowns_of : FnOk P w K mg base CX0 1 T.d_unknowns_of.f T.d_unknowns_of.fd ["terms"] (spUnknowns K) := ok_unknowns_of T
  refine T.d_marked.F.ok (k := 89) sc_marked (fun vs H Q E h => ?_) (fun cdv A outer s H vs Q E hr h => ?_)
  · obtain ⟨v, t, n, rfl, _⟩ := h
    rfl
  · obtain ⟨v, t, n, rfl, hv, hz, hn, hx, har, hd, k⟩ := h
    have big : (2000 : Nat) < sizeLine := by decide
    refine ⟨_, (pss_cons (ps_set (i := 2) sc_marked.nd rfl (Or.inl rfl) pe_dnewK)
          (pss_cons (ps_for PassesOwn.never rfl (pi_list (pe_call G_unknowns_of (hr.mono (by omega)) rfl T.d_unknowns_of.m T.d_unknowns_of.k T.d_unknowns_of.b .nil pass0 (pa_cons (pe_lst (pa_cons (pv 0) pa_nil)) pa_nil))) (pg_name (i := 3) sc_marked.nd rfl (Or.inl rfl))
          (pss_one (ps_dput (hu_of hr) (pv 2) (pv 3) (pe_op op_add_str (pe_op op_add_str (pv 3) pe_str) (pe_callTy call_str_int (by rfl) T.str (by decide +kernel) (pa_cons (pv 1) pa_nil))) rfl)))
          (pss_one (ps_ret (pe_call G_renamed (hr.mono (by omega)) rfl T.d_renamed.m T.d_renamed.k T.d_renamed.b .nil pass0 (pa_cons (pv 0) (pa_cons (pv 2) pa_nil))))))), ?_⟩
    intro d hdn
    refine ⟨_, rfl, (by show 1 ≤ sizeLine; decide), fun l hl => ?_⟩
    have s1 : Same H (upd H d (.dK [])) := same_new hdn
    have s2 := s1.trans (same_new (o := .lst [v]) hl)
    refine ⟨l, [v], [t], rfl, SqL.of upd_same, ⟨hv.same s2, trivial⟩, by simp only [Tm.sizeL]; omega, fun H1 p s3 hp1 hp2 => ?_⟩
    have hd1 : H1 d = some (.dK []) := s3 _ _ (upd_at upd_same (ne_of_none upd_same hl))
    have s4 : Same H H1 := s2.trans s3
    have eN : namesOf [t] = uniq [] t.vars := by simp [namesOf, Tm.varsL]
    rw [eN] at hp2
    have ndU : (uniq [] t.vars).Nodup := uniq_nodup List.nodup_nil
    have inU : ∀ x ∈ uniq [] t.vars, x ∈ t.vars := fun x hx => (uniq_mem.mp hx).resolve_left (List.not_mem_nil)
    have toU : ∀ x ∈ t.vars, x ∈ uniq [] t.vars := fun x hx => uniq_mem.mpr (.inr hx)
    have lenU : (uniq [] t.vars).length ≤ 1000 := by
      have h1 := nodup_len ndU inU
      have := vars_size t
      omega
    have pd : p ≠ d := by
      intro q
      rw [q, hd1] at hp2
      cases hp2
    generalize hU : uniq [] t.vars = U at *
    refine ⟨p, rfl, ⟨_, SqL.of hp2⟩, ?_⟩
    refine for_list (K := K) (a := p) (xs := U.map V.str) (fun i σ H' => ∃ v4, σ = [some v, some (.int (n : Nat)), some (.ref d), v4] ∧ Same H H' ∧ H' p = some (.lst (U.map V.str)) ∧ H' d = some (.dK ((U.take i).map fun y => ((Sum.inr y : Key), V.str (mk n y)))))
      ⟨none, rfl, s4, hp2, hd1⟩ (fun i σ H' _ ⟨_, _, _, h, _⟩ => SqL.of h) ?_ ?_
    · rintro i x σ H' hi ⟨v4, rfl, s5, h1, h2⟩
      rw [List.getElem?_map] at hi
      obtain ⟨y, hy, rfl⟩ := Option.map_eq_some_iff.mp hi
      have ly := hx y (inU y (List.mem_of_getElem? hy))
      have ln := len_num' hn
      have l1 : (Str.ofString ".").length = 1 := by decide +kernel
      refine ⟨_, rfl, _, _, rfl, rfl, ?_, _, rfl, _, rfl, log_small hn, _, _, rfl, rfl, ?_, ?_⟩
      · rw [l1]
        omega
      · rw [len_app', l1]
        omega
      · refine ⟨_, rfl, _, rfl, d, _, rfl, DPut.k (k := Sum.inr y) h2 ?_, ?_⟩
        · rw [List.length_map, List.length_take]
          omega
        · rw [putK_new _ (uniq_none _ _ _ (take_fresh ndU hy))]
          refine ⟨_, rfl, same_upd s5 hdn, upd_at h1 pd, ?_⟩
          rw [upd_same, take_snoc _ hy]
          rfl
    · rintro σ H' ⟨v4, rfl, s5, h1, h2⟩
      rw [List.length_map, List.take_length] at h2
      exact ⟨_, rfl, _, rfl, v, d, t, _, mk n, rfl, hv.same s5, h2, fun x hx => uniq_get U (mk n) x (toU x hx), hd, har, fun H2 v2 s6 ht => k _ _ (s5.trans s6) ht⟩
theorem ok_told_anew (T : Txt K mg) : FnOk P w K mg base CX0 90 T.d_told_anew.f T.d_told_anew.fd ["terms"] (spTold K) := by
  have G_renamed : FnOk P w K mg base CX0 81 T.d_renamed.f T.d_renamed.fd ["term", "names"] (spRenamed K 80) := ok_renamed T 80
  have G_unknowns_of : FnOk P w K mg base CX0 1 T.d_unknowns_of.f T.d_unknowns_of.fd ["terms"] (spUnknowns K) := ok_unknowns_of T
  refine T.d_told_anew.F.ok (k := 89) sc_told_anew (fun vs H Q E h => ?_) (fun cdv A outer s H vs Q E hr h => ?_)
  · obtain ⟨a, ws, ts, rfl, _⟩ := h
    rfl
  · obtain ⟨a, ws, ts, rfl, ha, ht, hz, hd, k⟩ := h
    have big : (2000 : Nat) < sizeLine := by decide
    refine ⟨_, (pss_cons (ps_set (i := 1) sc_told_anew.nd rfl (Or.inr rfl) pe_dnewK)
          (pss_cons (ps_for PassesOwn.never rfl (pi_list (pe_call G_unknowns_of (hr.mono (by omega)) rfl T.d_unknowns_of.m T.d_unknowns_of.k T.d_unknowns_of.b .nil pass0 (pa_cons (pv 0) pa_nil))) (pg_name (i := 2) sc_told_anew.nd rfl (Or.inl rfl))
          (pss_one (ps_dput (hu_of hr) (pv 1) (pv 2) (pe_op op_add_str pe_str (pe_callTy call_str_int (by rfl) T.str (by decide +kernel) (pa_cons (pe_op op_add (pe_callB call_lenD (by rfl) T.len PySem.boot_len (pa_cons (pv 1) pa_nil)) pe_int) pa_nil))) rfl)))
          (pss_one (ps_ret (pe_lc (own := [("term", 3)]) (g := gName 3) rfl sc_told_anew.nd (pi_list (pv 0)) (blkOk_by (own := [("term", 3)]) (N := ["terms", "names", "name", "term"]) (sc := defScope s_told_anew) (by decide +kernel)) (fun _ _ _ _ _ => (pg_name (i := 3) sc_told_anew.nd rfl (Or.inl rfl))) (fun _ _ _ _ _ => pts_nil) (fun _ _ _ _ _ => (pe_call G_renamed (hr.mono (by omega)) rfl T.d_renamed.m T.d_renamed.k T.d_renamed.b .nil pass0 (pa_cons (pv 3) (pa_cons (pv 1) pa_nil))))))))), ?_⟩
    intro d hdn
    have s1 : Same H (upd H d (.dK [])) := same_new hdn
    refine ⟨_, rfl, a, ws, ts, rfl, s1.seq ha, ht.same s1, hz, fun H1 p s3 hp1 hp2 => ?_⟩
    have hd1 : H1 d = some (.dK []) := s3 _ _ upd_same
    have s4 : Same H H1 := s1.trans s3
    have ndU : (namesOf ts).Nodup := uniq_nodup List.nodup_nil
    have toU : ∀ x ∈ Tm.varsL ts, x ∈ namesOf ts := fun x hx => uniq_mem.mpr (.inr hx)
    have lenU : (namesOf ts).length ≤ 1000 := by
      have h1 := nodup_len (U := Tm.varsL ts) ndU fun x hx => (uniq_mem.mp hx).resolve_left (List.not_mem_nil)
      have := varsL_size ts
      omega
    have pd : p ≠ d := by
      intro q
      rw [q, hd1] at hp2
      cases hp2
    have eT : toldL ts = ts.map (ap fun x => .any (calls (namesOf ts) x)) := by
      unfold toldL
      rw [apL_map]
    rw [eT] at k
    generalize namesOf ts = U at *
    refine ⟨p, rfl, ⟨_, SqL.of hp2⟩, ?_⟩
    have cl : ∀ i x, U[i]? = some x → calls U x = numU i := fun i x h => by
      unfold calls
      obtain ⟨hi, e⟩ := List.getElem?_eq_some_iff.mp h
      rw [← e, List.Nodup.idxOf_getElem ndU]
    refine for_list (K := K) (a := p) (xs := U.map V.str) (fun i σ H' => ∃ v3, σ = [some (.ref a), some (.ref d), v3, none] ∧ Same H H' ∧ H' p = some (.lst (U.map V.str)) ∧ H' d = some (.dK ((U.take i).map fun y => ((Sum.inr y : Key), V.str (calls U y)))))
      ⟨none, rfl, s4, hp2, hd1⟩ (fun i σ H' _ ⟨_, _, _, h, _⟩ => SqL.of h) ?_ ?_
    · rintro i x σ H' hi ⟨v3, rfl, s5, h1, h2⟩
      rw [List.getElem?_map] at hi
      obtain ⟨y, hy, rfl⟩ := Option.map_eq_some_iff.mp hi
      have hi' := (List.getElem?_eq_some_iff.mp hy).1
      have el : (((U.take i).map fun y => ((Sum.inr y : Key), V.str (calls U y))).length : Int) + 1 = ((i + 1 : Nat) : Int) := by
        rw [List.length_map, List.length_take, Nat.min_eq_left (Nat.le_of_lt hi')]
        rfl
      have ln := len_num' (n := i + 1) (by omega)
      have l1 : (Str.ofString "U").length = 1 := by decide +kernel
      refine ⟨_, rfl, d, _, rfl, h2, _, _, rfl, rfl, ((i + 1 : Nat) : Int), congrArg (fun z => [V.int z]) el, log_small (by omega), _, _, rfl, rfl, by rw [l1]; omega, ?_⟩
      refine ⟨_, rfl, _, rfl, d, _, rfl, DPut.k (k := Sum.inr y) h2 ?_, ?_⟩
      · rw [List.length_map, List.length_take]
        omega
      · rw [putK_new _ (uniq_none _ _ _ (take_fresh ndU hy))]
        refine ⟨_, rfl, same_upd s5 hdn, upd_at h1 pd, ?_⟩
        rw [upd_same, take_snoc _ hy, cl i y hy]
        rfl
    · rintro σ H' ⟨v3, rfl, s5, h1, h2⟩
      rw [List.length_map, List.take_length] at h2
      refine ⟨_, rfl, a, rfl, ⟨_, s5.seq ha⟩, fun D hD => ?_⟩
      refine lc_mapL (as := ts) (In := Tr K) (Out := Tr K) (φ := ap fun x => .any (calls U x)) hD (s5.seq ha) (ht.same s5) ?_ (fun s h => h.same s) (fun o h => h.samT o.t) (fun v x H1 R hx s1 hin kk => ?_) (fun H1 ws s1 h1 h2 => ?_)
      · have := sizeL_len ts
        omega
      · refine ⟨_, rfl, _, rfl, v, d, x, _, calls U, rfl, hin, s1 _ _ h2, fun y hy => uniq_get U (calls U) y (toU y (varsL_mem.mpr ⟨x, hx, hy⟩)), (hd x hx).2, (hd x hx).1, kk⟩
      · exact k _ _ ws (s5.trans s1) (s5.free hD) h1 h2
end
end Gt
set_option Elab.async false
set_option linter.all false
set_option maxRecDepth 100000
set_option maxHeartbeats 4000000
/-! == and != of data that may lie deep. -/
namespace Gt
open PySem L2
def rEqT (K : PySem.W.Frag) : R2 := fun x y H Q => ∃ d e, Dp K H x d ∧ Dp K H y e ∧ d.plain = true ∧ e.plain = true ∧ min d.depth e.depth ≤ 190 ∧ Q (.bl (PyData.eqv d e)) H
def rNeT (K : PySem.W.Frag) : R2 := fun x y H Q => ∃ d e, Dp K H x d ∧ Dp K H y e ∧ d.plain = true ∧ e.plain = true ∧ min d.depth e.depth ≤ 190 ∧ Q (.bl (!PyData.eqv d e)) H
def rInT (K : PySem.W.Frag) : R2 := fun x y H Q => ∃ d es, Dp K H x d ∧ Dp K H y (.tuple es) ∧ d.plain = true ∧ PyData.plainAll es = true ∧ d.depth ≤ 190 ∧ Q (.bl (es.any fun e => PyData.eqv e d)) H
theorem hu_of2 {A : Around} {k : Nat} (hr : Room k A) : A.units + 200 < cLine := by have := hr.un; omega
section
variable {X : L2.Cx}
theorem op_eqT (hu : X.A.units + 200 < cLine) : OpR X (compareOp .Eq) (rEqT X.K) := by
  intro pins s σ H x y v u Q I rx ry h
  obtain ⟨d, e, hd, he, sd, se, hz, q⟩ := h
  obtain ⟨as, r1⟩ := Dp.reads I d x v hd rx
  obtain ⟨bs, r2⟩ := Dp.reads I e y u he ry
  exact SeqAt.eq_plain r1 r2 sd se (by omega) ⟨.bl _, H, I, rfl, q⟩
theorem op_neT (hu : X.A.units + 200 < cLine) : OpR X (compareOp .NotEq) (rNeT X.K) := by
  intro pins s σ H x y v u Q I rx ry h
  obtain ⟨d, e, hd, he, sd, se, hz, q⟩ := h
  obtain ⟨as, r1⟩ := Dp.reads I d x v hd rx
  obtain ⟨bs, r2⟩ := Dp.reads I e y u he ry
  exact SeqAt.ne_plain r1 r2 sd se (by omega) ⟨.bl _, H, I, rfl, q⟩
theorem op_inT (hu : X.A.units + 200 < cLine) : OpR X (compareOp .In) (rInT X.K) := by
  intro pins s σ H x y v u Q I rx ry h
  obtain ⟨d, es, hd, he, sd, se, hz, q⟩ := h
  obtain ⟨as, r1⟩ := Dp.reads I d x v hd rx
  obtain ⟨bs, r2⟩ := Dp.reads I (.tuple es) y u he ry
  exact SeqAt.in_tuple_data r2 r1 se sd (by omega) ⟨.bl _, H, I, rfl, q⟩
end
/-! terms as data -/
mutual
def pd : Tm → PyData
  | .num n => .tuple [.str "num", .int n]
  | .any x => .tuple [.str "any", .str x]
  | .app s ks => .tuple [.str "app", .str s, .tuple (pdL ks)]
def pdL : List Tm → List PyData
  | [] => []
  | t :: ts => pd t :: pdL ts
end
mutual
theorem pd_plain : ∀ t : Tm, (pd t).plain = true
  | .num n => rfl
  | .any x => rfl
  | .app s ks => by
    simp only [pd, PyData.plain, PyData.plainAll, pdL_plain ks, Bool.and_self]
theorem pdL_plain : ∀ ts : List Tm, PyData.plainAll (pdL ts) = true
  | [] => rfl
  | t :: ts => by
    simp only [pdL, PyData.plainAll, pd_plain t, pdL_plain ts, Bool.and_self]
end
mutual
theorem pd_depth : ∀ t : Tm, (pd t).depth ≤ 2 * t.dep
  | .num n => by simp [pd, PyData.depth, PyData.depthAll, Tm.dep]
  | .any x => by simp [pd, PyData.depth, PyData.depthAll, Tm.dep]
  | .app s ks => by
    have := pdL_depth ks
    simp only [pd, PyData.depth, PyData.depthAll, Tm.dep]
    omega
theorem pdL_depth : ∀ ts : List Tm, PyData.depthAll (pdL ts) ≤ 2 * Tm.depL ts
  | [] => by simp [pdL, PyData.depthAll]
  | t :: ts => by
    have h1 := pd_depth t
    have h2 := pdL_depth ts
    simp only [pdL, PyData.depthAll, Tm.depL]
    omega
end
theorem n_an : ("any" == ("num" : Str)) = false := by decide +kernel
theorem str_beq (a b : Str) : (a == b) = decide (a = b) := by
  by_cases h : a = b
  · rw [h, decide_eq_true rfl, beq_self_eq_true]
  · rw [decide_eq_false h, beq_false_of_ne h]
theorem s_an : ("any" : Str) ≠ "num" := by decide +kernel
theorem s_ap : ("any" : Str) ≠ "app" := by decide +kernel
theorem s_np : ("num" : Str) ≠ "app" := by decide +kernel
mutual
theorem pd_eqv : ∀ t u : Tm, PyData.eqv (pd t) (pd u) = decide (t = u)
  | .num a, .num b => by
    rw [Bool.eq_iff_iff]
    simp [pd, PyData.eqv, PyData.eqvAll]
  | .any a, .any b => by
    rw [Bool.eq_iff_iff]
    simp [pd, PyData.eqv, PyData.eqvAll]
  | .app a ks, .app b ls => by
    have h := pdL_eqv ks ls
    rw [Bool.eq_iff_iff]
    simp [pd, PyData.eqv, PyData.eqvAll, h]
  | .num a, .any b => by
    rw [Bool.eq_iff_iff]
    simp [pd, PyData.eqv, PyData.eqvAll]
  | .num a, .app b ls => by
    rw [Bool.eq_iff_iff]
    simp [pd, PyData.eqv, PyData.eqvAll]
  | .any a, .num b => by
    rw [Bool.eq_iff_iff]
    simp [pd, PyData.eqv, PyData.eqvAll]
  | .any a, .app b ls => by
    rw [Bool.eq_iff_iff]
    simp [pd, PyData.eqv, PyData.eqvAll]
  | .app a ks, .num b => by
    rw [Bool.eq_iff_iff]
    simp [pd, PyData.eqv, PyData.eqvAll]
  | .app a ks, .any b => by
    rw [Bool.eq_iff_iff]
    simp [pd, PyData.eqv, PyData.eqvAll]
theorem pdL_eqv : ∀ ts us : List Tm, PyData.eqvAll (pdL ts) (pdL us) = decide (ts = us)
  | [], [] => rfl
  | t :: ts, u :: us => by
    have h1 := pd_eqv t u
    have h2 := pdL_eqv ts us
    rw [Bool.eq_iff_iff]
    simp [pdL, PyData.eqvAll, h1, h2]
  | [], _ :: _ => by simp [pdL, PyData.eqvAll]
  | _ :: _, [] => by simp [pdL, PyData.eqvAll]
end
section
variable {K : PySem.W.Frag} {H : Hp}
mutual
theorem Tr.dp : ∀ {t : Tm} {v : V}, Tr K H v t → Dp K H v (pd t)
  | .num n, v, ⟨p, e, h⟩ => by rw [e]; exact .tup h (.cons (.str _) (.cons (.int _) .nil))
  | .any x, v, ⟨p, e, h⟩ => by rw [e]; exact .tup h (.cons (.str _) (.cons (.str _) .nil))
  | .app s ks, v, ⟨p, q, vs, e, h1, h2, h3⟩ => by rw [e]; exact .tup h1 (.cons (.str _) (.cons (.str _) (.cons (.tup h2 (TrL.dp h3)) .nil)))
theorem TrL.dp : ∀ {ts : List Tm} {vs : List V}, TrL K H vs ts → DpAll K H vs (pdL ts)
  | [], [], _ => .nil
  | t :: ts, v :: vs, ⟨a, b⟩ => .cons (Tr.dp a) (TrL.dp b)
  | [], _ :: _, h => h.elim
  | _ :: _, [], h => h.elim
end
variable {ta tb : TE} {σ : St} {v u : V} {t s : Tm} {Q : Bool → Hp → Prop}
theorem t_eqT (ha : EvV ta σ H v) (hb : EvV tb σ H u) (h1 : Tr K H v t) (h2 : Tr K H u s) (hz : min t.dep s.dep ≤ 95) (q : Q (decide (t = s)) H) : tTest (tOp (rEqT K) ta tb) σ H Q :=
  ha _ (hb _ ⟨_, _, h1.dp, h2.dp, pd_plain t, pd_plain s, by have := pd_depth t; have := pd_depth s; omega, _, rfl, by rw [pd_eqv]; exact q⟩)
theorem t_neT (ha : EvV ta σ H v) (hb : EvV tb σ H u) (h1 : Tr K H v t) (h2 : Tr K H u s) (hz : min t.dep s.dep ≤ 95) (q : Q (!decide (t = s)) H) : tTest (tOp (rNeT K) ta tb) σ H Q :=
  ha _ (hb _ ⟨_, _, h1.dp, h2.dp, pd_plain t, pd_plain s, by have := pd_depth t; have := pd_depth s; omega, _, rfl, by rw [pd_eqv]; exact q⟩)
end
end Gt
set_option Elab.async false
set_option linter.all false
set_option maxRecDepth 100000
set_option maxHeartbeats 4000000
/-! Puttings-in: walked, counted, put in. -/
namespace Gt
open PySem L2
def PR (K : PySem.W.Frag) (H : Hp) : List (Key × V) → Puts → Prop
  | [], [] => True
  | kv :: kvs, e :: p => kv.1 = Sum.inr e.1 ∧ Tr K H kv.2 e.2 ∧ PR K H kvs p
  | [], _ :: _ => False
  | _ :: _, [] => False
section
variable {K : PySem.W.Frag} {H H' : Hp}
theorem PR.samT (e : SameT H H') : ∀ {kvs : List (Key × V)} {p : Puts}, PR K H kvs p → PR K H' kvs p
  | [], [], _ => trivial
  | _ :: _, _ :: _, ⟨a, b, c⟩ => ⟨a, b.samT e, c.samT e⟩
  | [], _ :: _, h => h.elim
  | _ :: _, [], h => h.elim
theorem PR.len : ∀ {kvs : List (Key × V)} {p : Puts}, PR K H kvs p → kvs.length = p.length
  | [], [], _ => rfl
  | _ :: _, _ :: _, ⟨_, _, c⟩ => by rw [List.length_cons, List.length_cons, c.len]
  | [], _ :: _, h => h.elim
  | _ :: _, [], h => h.elim
theorem PR.none {x : Str} : ∀ {kvs : List (Key × V)} {p : Puts}, PR K H kvs p → look p x = none → valV kvs (Sum.inr x) = none
  | [], [], _, _ => rfl
  | kv :: kvs, e :: p, ⟨a, b, c⟩, h => by
    have h' := look_none.mp h
    rw [List.map_cons, List.mem_cons, not_or] at h'
    rw [valV_neg (by rw [a]; intro q; injection q with q; exact h'.1 q.symm)]
    exact c.none (look_none.mpr h'.2)
  | [], _ :: _, h, _ => h.elim
  | _ :: _, [], h, _ => h.elim
theorem look_pos {e : Str × Tm} {p : Puts} {x : Str} (h : e.1 = x) : look (e :: p) x = some e.2 := by
  unfold look
  rw [List.find?_cons, decide_eq_true h]
  rfl
theorem look_neg {e : Str × Tm} {p : Puts} {x : Str} (h : ¬ e.1 = x) : look (e :: p) x = look p x := by
  unfold look
  rw [List.find?_cons, decide_eq_false h]
theorem PR.some {x : Str} {t : Tm} : ∀ {kvs : List (Key × V)} {p : Puts}, PR K H kvs p → look p x = some t → ∃ v, valV kvs (Sum.inr x) = some v ∧ Tr K H v t
  | [], [], _, h => nomatch h
  | kv :: kvs, e :: p, ⟨a, b, c⟩, h => by
    by_cases q : e.1 = x
    · rw [look_pos q] at h
      injection h with h
      exact ⟨kv.2, valV_pos (by rw [a, q]), h ▸ b⟩
    · rw [look_neg q] at h
      rw [valV_neg (by rw [a]; intro z; injection z with z; exact q z)]
      exact c.some h
  | [], _ :: _, h, _ => h.elim
  | _ :: _, [], h, _ => h.elim
theorem PR.snoc {x : Str} {v : V} {t : Tm} (hv : Tr K H v t) : ∀ {kvs : List (Key × V)} {p : Puts}, PR K H kvs p → PR K H (kvs ++ [(Sum.inr x, v)]) (p ++ [(x, t)])
  | [], [], _ => ⟨rfl, hv, trivial⟩
  | _ :: _, _ :: _, ⟨a, b, c⟩ => ⟨a, b, c.snoc hv⟩
  | [], _ :: _, h => h.elim
  | _ :: _, [], h => h.elim
end
/-- at d stand the puttings-in p -/
def PAt (K : PySem.W.Frag) (H : Hp) (d : Addr) (p : Puts) : Prop := ∃ kvs, H d = some (.dK kvs) ∧ PR K H kvs p
theorem PAt.same {K : PySem.W.Frag} {H H' : Hp} {d : Addr} {p : Puts} (h : PAt K H d p) (s : Same H H') : PAt K H' d p := let ⟨kvs, a, b⟩ := h; ⟨kvs, s _ _ a, b.samT (same_t s)⟩
theorem PAt.off {K : PySem.W.Frag} {H H' : Hp} {d D : Addr} {p : Puts} (h : PAt K H d p) (s : Off D H H') : PAt K H' d p := by
  obtain ⟨kvs, a, b⟩ := h
  refine ⟨kvs, s.el _ _ (fun q => ?_) a, b.samT s.t⟩
  obtain ⟨ws, e⟩ := s.at_
  rw [← q, a] at e
  cases e
def spWalked (K : PySem.W.Frag) : Sp := fun vs H Q _ => ∃ v d t p, vs = [v, .ref d] ∧ Tr K H v t ∧ PAt K H d p ∧ (∀ x, walk p t = .any x → look p x = none) ∧ ∀ v', Tr K H v' (walk p t) → Q v' H
def spParts (K : PySem.W.Frag) : Sp := fun vs H Q _ => ∃ v d t p n nb, ∃ most : Nat, vs = [v, .ref d, .int most] ∧ Tr K H v t ∧ PAt K H d p ∧ OKs (PT 41 nb n) p ∧ PT 41 nb n t ∧ most ≤ 1000 ∧
  ∀ H' (k : Nat), Same H H' → ((rd p t).size ≤ most → k = (rd p t).size) → (most < (rd p t).size → most < k) → Q (.int k) H'
def spPutIn (K : PySem.W.Frag) (b : Nat) : Sp := fun vs H Q _ => ∃ v d t p n nb, vs = [v, .ref d] ∧ Tr K H v t ∧ PAt K H d p ∧ OKs (PT 41 nb n) p ∧ PT 41 nb n t ∧ (rd p t).dep ≤ b ∧ ∀ H' v', Same H H' → Tr K H' v' (rd p t) → Q v' H'
def spWritten (K : PySem.W.Frag) : Sp := fun vs H Q _ => ∃ v d t p n nb, vs = [v, .ref d] ∧ Tr K H v t ∧ PAt K H d p ∧ OKs (PT 41 nb n) p ∧ PT 41 nb n t ∧ (rd p t).size ≤ 40 ∧ ∀ H' v', Same H H' → Tr K H' v' (rd p t) → Q v' H'
theorem rd_walk {P : Tm → Prop} {p : Puts} (h : OKs P p) {t : Tm} : rd p t = match walk p t with
    | .num n => .num n
    | .any x => .any x
    | .app s ks => .app s (ks.map (rd p)) := by
  rw [← h.walk_rd t]
  have f := fun x (e : walk p t = .any x) => h.walk_free e
  generalize walk p t = u at *
  cases u with
  | num n => rfl
  | any x => exact h.rd_free (f x rfl)
  | app s ks =>
    show ap (rdv p) (.app s ks) = _
    rw [ap, apL_map]
    rfl
theorem sizeL_rev (l : List Tm) : Tm.sizeL l.reverse = Tm.sizeL l := by
  induction l with
  | nil => rfl
  | cons t l ih =>
    rw [List.reverse_cons, sizeL_append, ih, Tm.sizeL, Tm.sizeL, Tm.sizeL]
    omega
section
variable {P : Program} {w : World} {K : PySem.W.Frag} {mg : Str → Option Value} {base : Heap} {CX : CXT}
theorem ok_walked (T : Txt K mg) : FnOk P w K mg base CX0 1 T.d_walked.f T.d_walked.fd ["term", "puts"] (spWalked K) := by
  refine T.d_walked.F.ok sc_walked (fun vs H Q E h => ?_) (fun cdv A outer s H vs Q E hr h => ?_)
  · obtain ⟨v, d, t, p, rfl, _⟩ := h
    rfl
  · obtain ⟨v0, d, t0, p, rfl, hv, ⟨kvs, hd, hp⟩, hfr, k⟩ := h
    refine ⟨_, (pss_cons (ps_while PassesOwn.never (PW.pt (pw_and (pt_cmpR op_eq (pe_ix ix_tup (pv 0) pe_int (fun _ _ => rfl)) pe_str (nomark _)) (pw_and1 (pt_cmp (pc_din (hu_of hr) (pe_ix ix_tup (pv 0) pe_int (fun _ _ => rfl)) (pv 1))))))
          (pss_one (ps_set (i := 0) sc_walked.nd rfl (Or.inl rfl) (pe_dget (hu_of hr) (pv 1) (pe_ix ix_tup (pv 0) pe_int (fun _ _ => rfl)) (fun _ _ => rfl)))))
          (pss_one (ps_ret (pv 0)))), ?_⟩
    let W : Nat → St → Hp → Prop := fun m σ H' => ∃ v t, σ = [some v, some (.ref d)] ∧ H' = H ∧ Tr K H v t ∧ walkN (look p) m t = walk p t0
    refine ⟨W, ⟨p.length, v0, t0, rfl, rfl, hv, rfl⟩, ?_⟩
    rintro m σ H' ⟨v, t, rfl, rfl, hv, hw⟩
    refine t_any (ev_var rfl) hv ?_
    cases t with
    | num n =>
      refine iteF (iteF ?_)
      have e : walkN (look p) m (.num n) = .num n := by cases m <;> rfl
      exact ⟨v, rfl, k v (by rw [← hw, e]; exact hv)⟩
    | app s' ks =>
      refine iteF (iteF ?_)
      have e : walkN (look p) m (.app s' ks) = .app s' ks := by cases m <;> rfl
      exact ⟨v, rfl, k v (by rw [← hw, e]; exact hv)⟩
    | any x =>
      refine iteT ?_
      refine t_in (x_any (ev_var rfl) hv) (ev_var rfl) hd ?_
      cases hx : look p x with
      | none =>
        rw [hp.none hx]
        refine iteF ?_
        have e : walkN (look p) m (.any x) = .any x := by
          cases m with
          | zero => rfl
          | succ m => rw [walkN, hx]
        exact ⟨v, rfl, k v (by rw [← hw, e]; exact hv)⟩
      | some u =>
        obtain ⟨v1, e1, hu⟩ := hp.some hx
        rw [e1]
        refine iteT ⟨fun σ' H'' => ∃ m', m' < m ∧ W m' σ' H'', fun _ _ h => h, ?_⟩
        cases m with
        | zero =>
          have := hfr x hw.symm
          rw [hx] at this
          exact nomatch this
        | succ m =>
          rw [walkN, hx] at hw
          exact x_get (ev_var rfl) (x_any (ev_var rfl) hv) hd e1 _ ⟨m, Nat.lt_succ_self m, v1, u, rfl, rfl, hu, hw⟩
theorem ok_law_walk (T : Txt K mg) : FnOk P w K mg base CX0 1 T.d_law_walk.f T.d_law_walk.fd ["_law_term", "_law_puts"] (spWalked K) := by
  refine T.d_law_walk.F.ok sc_law_walk (fun vs H Q E h => ?_) (fun cdv A outer s H vs Q E hr h => ?_)
  · obtain ⟨v, d, t, p, rfl, _⟩ := h
    rfl
  · obtain ⟨v0, d, t0, p, rfl, hv, ⟨kvs, hd, hp⟩, hfr, k⟩ := h
    refine ⟨_, (pss_cons (ps_while PassesOwn.never (PW.pt (pw_and (pt_cmpR op_eq (pe_ix ix_tup (pv 0) pe_int (fun _ _ => rfl)) pe_str (nomark _)) (pw_and1 (pt_cmp (pc_din (hu_of hr) (pe_ix ix_tup (pv 0) pe_int (fun _ _ => rfl)) (pv 1))))))
          (pss_one (ps_set (i := 0) sc_law_walk.nd rfl (Or.inl rfl) (pe_dget (hu_of hr) (pv 1) (pe_ix ix_tup (pv 0) pe_int (fun _ _ => rfl)) (fun _ _ => rfl)))))
          (pss_one (ps_ret (pv 0)))), ?_⟩
    let W : Nat → St → Hp → Prop := fun m σ H' => ∃ v t, σ = [some v, some (.ref d)] ∧ H' = H ∧ Tr K H v t ∧ walkN (look p) m t = walk p t0
    refine ⟨W, ⟨p.length, v0, t0, rfl, rfl, hv, rfl⟩, ?_⟩
    rintro m σ H' ⟨v, t, rfl, rfl, hv, hw⟩
    refine t_any (ev_var rfl) hv ?_
    cases t with
    | num n =>
      refine iteF (iteF ?_)
      have e : walkN (look p) m (.num n) = .num n := by cases m <;> rfl
      exact ⟨v, rfl, k v (by rw [← hw, e]; exact hv)⟩
    | app s' ks =>
      refine iteF (iteF ?_)
      have e : walkN (look p) m (.app s' ks) = .app s' ks := by cases m <;> rfl
      exact ⟨v, rfl, k v (by rw [← hw, e]; exact hv)⟩
    | any x =>
      refine iteT ?_
      refine t_in (x_any (ev_var rfl) hv) (ev_var rfl) hd ?_
      cases hx : look p x with
      | none =>
        rw [hp.none hx]
        refine iteF ?_
        have e : walkN (look p) m (.any x) = .any x := by
          cases m with
          | zero => rfl
          | succ m => rw [walkN, hx]
        exact ⟨v, rfl, k v (by rw [← hw, e]; exact hv)⟩
      | some u =>
        obtain ⟨v1, e1, hu⟩ := hp.some hx
        rw [e1]
        refine iteT ⟨fun σ' H'' => ∃ m', m' < m ∧ W m' σ' H'', fun _ _ h => h, ?_⟩
        cases m with
        | zero =>
          have := hfr x hw.symm
          rw [hx] at this
          exact nomatch this
        | succ m =>
          rw [walkN, hx] at hw
          exact x_get (ev_var rfl) (x_any (ev_var rfl) hv) hd e1 _ ⟨m, Nat.lt_succ_self m, v1, u, rfl, rfl, hu, hw⟩
theorem ok_parts_up_to (T : Txt K mg) : FnOk P w K mg base CX0 2 T.d_parts_up_to.f T.d_parts_up_to.fd ["term", "puts", "most"] (spParts K) := by
  have G_walked : FnOk P w K mg base CX0 1 T.d_walked.f T.d_walked.fd ["term", "puts"] (spWalked K) := ok_walked T
  refine T.d_parts_up_to.F.ok sc_parts_up_to (fun vs H Q E h => ?_) (fun cdv A outer s H vs Q E hr h => ?_)
  · obtain ⟨v, d, t, p, n, nb, most, rfl, _⟩ := h
    rfl
  · obtain ⟨v0, d, t0, p, n, nb, most, rfl, hv, hd, hp, ht, hm, k⟩ := h
    have big : (2000 : Nat) < sizeLine := by decide
    refine ⟨_, (pss_cons (ps_set (i := 3) sc_parts_up_to.nd rfl (Or.inl rfl) pe_int)
          (pss_cons (ps_set (i := 4) sc_parts_up_to.nd rfl (Or.inl rfl) (pe_lst (pa_cons (pv 0) pa_nil)))
          (pss_cons (ps_while PassesOwn.never (pt_cmpR op_gt (pe_callB call_len_seq (by rfl) T.len PySem.boot_len (pa_cons (pv 4) pa_nil)) pe_int (nomark _))
          (pss_cons (ps_set (i := 3) sc_parts_up_to.nd rfl (Or.inl rfl) (pe_op op_add (pv 3) pe_int))
          (pss_cons (ps_if (pt_cmpR op_gt (pv 3) (pv 2) (nomark _)) (pss_one (ps_ret (pv 3))) pss_nil)
          (pss_cons (ps_set (i := 0) sc_parts_up_to.nd rfl (Or.inl rfl) (pe_call G_walked (hr.mono (by omega)) rfl T.d_walked.m T.d_walked.k T.d_walked.b .nil pass0 (pa_cons (pe_bm0 PySem.F.plainAttrs_list PySem.F.slot_list_pop PySem.F.type_list_pop mt_pop (pv 4)) (pa_cons (pv 1) pa_nil))))
          (pss_one (ps_if (pt_cmpR op_eq (pe_ix ix_tup (pv 0) pe_int (fun _ _ => rfl)) pe_str (nomark _)) (pss_one (ps_expr (pe_bm PySem.F.plainAttrs_list PySem.F.slot_list_extend PySem.F.type_list_extend mt_extT (pv 4) (pa_cons (pe_ix ix_tup (pv 0) pe_int (fun _ _ => rfl)) pa_nil)))) pss_nil))))))
          (pss_one (ps_ret (pv 3)))))), ?_⟩
    refine ⟨_, rfl, (by show 1 ≤ sizeLine; decide), fun l hl => ?_⟩
    let W : Nat → St → Hp → Prop := fun m σ H' => ∃ (v : V) (many : Nat) (sv : List V) (st : List Tm), σ = [some v, some (.ref d), some (.int (most : Nat)), some (.int (many : Nat)), some (.ref l)] ∧ m = most + 1 - many ∧ many ≤ most ∧ Same H H' ∧ H' l = some (.lst sv.reverse) ∧
      Trs K H' sv st ∧ (∀ t ∈ st, PT 41 nb n t) ∧ many + Tm.sizeL (st.map (rd p)) = (rd p t0).size ∧ st.length ≤ many + 1
    refine ⟨W, ⟨_, v0, 0, [v0], [t0], rfl, rfl, Nat.zero_le _, same_new hl, upd_same, ⟨hv.same (same_new hl), trivial⟩, fun t h => by rw [List.mem_singleton.mp h]; exact ht, by simp [Tm.sizeL], Nat.le_refl _⟩, ?_⟩
    rintro m σ H' ⟨v, many, sv, st, rfl, rfl, hmm, s1, h2, h3, h4, h5, h6⟩
    refine t_pos (ev_var rfl) h2 ?_
    cases st with
    | nil =>
      cases sv with
      | cons _ _ => exact h3.elim
      | nil =>
        refine iteF ?_
        simp only [List.map_nil, Tm.sizeL] at h5
        exact ⟨_, rfl, k _ many s1 (fun _ => by omega) (fun _ => by omega)⟩
    | cons t st =>
      cases sv with
      | nil => exact h3.elim
      | cons v1 sv =>
        obtain ⟨hv1, h3⟩ := h3
        rw [List.map_cons, Tm.sizeL] at h5
        rw [List.length_cons] at h6
        have sz := size_pos (rd p t)
        rw [rev_empty]
        refine iteT ⟨fun σ' H'' => ∃ m', m' < most + 1 - many ∧ W m' σ' H'', fun _ _ h => h, ?_⟩
        refine ⟨_, rfl, _, _, rfl, rfl, ?_⟩
        refine ⟨_, rfl, _, rfl, _, _, rfl, rfl, _, rfl, ?_⟩
        refine ite2 (fun hc => ?_) (fun hc => ?_)
        · have hc := of_decide_eq_true hc
          have := k H' (many + 1) s1 (fun _ => by omega) (fun _ => by omega)
          exact ⟨_, rfl, this⟩
        · have hc : many + 1 ≤ most := by
            have := of_decide_eq_false (Bool.eq_false_iff.mpr hc)
            omega
          refine x_pop (ev_var rfl) h2 (rev_cons_last v1 sv) ?_
          rw [rev_cons_drop]
          have sT : SameT H' (upd H' l (.lst sv.reverse)) := samT_lst h2
          have s2 : Same H (upd H' l (.lst sv.reverse)) := same_upd s1 hl
          have h2' : upd H' l (.lst sv.reverse) l = some (.lst sv.reverse) := upd_same
          have hv1' := hv1.samT sT
          have h3' := Trs.samT sT h3
          generalize upd H' l (.lst sv.reverse) = G at *
          refine ⟨_, rfl, v1, d, t, p, rfl, hv1', hd.same s2, fun x e => hp.walk_free e, fun v2 hv2 => ?_⟩
          have hr := rd_walk hp (t := t)
          have hPw := hp.walk_P (h4 t List.mem_cons_self)
          refine t_app (ev_var rfl) hv2 ?_
          cases hw : walk p t with
          | num i =>
            rw [hw] at hr
            rw [hr] at h5
            refine iteF ⟨_, ?_, v2, many + 1, sv, st, rfl, rfl, hc, s2, h2', h3', fun t ht => h4 t (List.mem_cons_of_mem _ ht), ?_, ?_⟩
            · omega
            · rw [Tm.size] at h5; omega
            · omega
          | any i =>
            rw [hw] at hr
            rw [hr] at h5
            refine iteF ⟨_, ?_, v2, many + 1, sv, st, rfl, rfl, hc, s2, h2', h3', fun t ht => h4 t (List.mem_cons_of_mem _ ht), ?_, ?_⟩
            · omega
            · rw [Tm.size] at h5; omega
            · omega
          | app s' ks =>
            rw [hw] at hr hv2 hPw
            rw [hr] at h5
            refine iteT ?_
            obtain ⟨q1, q2, vs, rfl, e1, e2, e3⟩ := hv2
            have lk := hPw.ar.1
            have lv := e3.f2.len
            have ls := h3'.len
            refine x_extT (ev_var rfl) (x_tup (ev_var rfl) e1 rfl) h2' e2 ?_ ?_
            · rw [List.length_reverse]
              omega
            have sT3 : SameT G (upd G l (.lst (sv.reverse ++ vs))) := samT_lst h2'
            have er : sv.reverse ++ vs = (vs.reverse ++ sv).reverse := by rw [List.reverse_append, List.reverse_reverse]
            rw [er] at sT3 ⊢
            refine ⟨_, ?_, _, many + 1, vs.reverse ++ sv, ks.reverse ++ st, rfl, rfl, hc, same_upd s2 hl, upd_same, Trs.samT sT3 (e3.f2.rev.app h3'), fun t ht => ?_, ?_, ?_⟩
            · omega
            · rcases List.mem_append.mp ht with ht | ht
              · exact PT.kids _ _ hPw _ (List.mem_reverse.mp ht)
              · exact h4 t (List.mem_cons_of_mem _ ht)
            · rw [List.map_append, List.map_reverse, sizeL_append, sizeL_rev]
              rw [Tm.size] at h5
              omega
            · rw [List.length_append, List.length_reverse]
              omega
theorem ok_put_in (T : Txt K mg) : ∀ b : Nat, FnOk P w K mg base CX0 (b + 1) T.d_put_in.f T.d_put_in.fd ["term", "puts"] (spPutIn K b)
  | 0 => fnok_void (fun vs H Q E ⟨v, d, t, p, n, nb, _, _, _, _, _, hd, _⟩ => by have := dep_pos (rd p t); omega)
  | b + 1 => by
    have G_put_in := ok_put_in T b
    have G_walked : FnOk P w K mg base CX0 1 T.d_walked.f T.d_walked.fd ["term", "puts"] (spWalked K) := ok_walked T
    have G_app : FnOk P w K mg base CX0 1 T.d_app.f T.d_app.fd ["sign", "kids"] (spApp K) := ok_app T
    refine T.d_put_in.F.ok sc_put_in (fun vs H Q E h => ?_) (fun cdv A outer s H vs Q E hr h => ?_)
    · obtain ⟨v, d, t, p, n, nb, rfl, _⟩ := h
      rfl
    · obtain ⟨v, d, t, p, n, nb, rfl, hv, hd, hp, ht, hb, k⟩ := h
      refine ⟨_, (pss_cons (ps_set (i := 0) sc_put_in.nd rfl (Or.inl rfl) (pe_call G_walked (hr.mono (by omega)) rfl T.d_walked.m T.d_walked.k T.d_walked.b .nil pass0 (pa_cons (pv 0) (pa_cons (pv 1) pa_nil))))
          (pss_cons (ps_if (pt_cmpR op_ne (pe_ix ix_tup (pv 0) pe_int (fun _ _ => rfl)) pe_str (nomark _)) (pss_one (ps_ret (pv 0))) pss_nil)
          (pss_one (ps_ret (pe_call G_app (hr.mono (by omega)) rfl T.d_app.m T.d_app.k T.d_app.b .nil pass0 (pa_cons (pe_ix ix_tup (pv 0) pe_int (fun _ _ => rfl)) (pa_cons (pe_lc (own := [("kid", 2)]) (g := gName 2) rfl sc_put_in.nd (pi_tup (pe_ix ix_tup (pv 0) pe_int (fun _ _ => rfl))) (blkOk_by (own := [("kid", 2)]) (N := ["term", "puts", "kid"]) (sc := defScope s_put_in) (by decide +kernel)) (fun _ _ _ _ _ => (pg_name (i := 2) sc_put_in.nd rfl (Or.inl rfl))) (fun _ _ _ _ _ => pts_nil) (fun _ _ _ _ _ => (pe_call G_put_in (hr.mono (by omega)) rfl T.d_put_in.m T.d_put_in.k T.d_put_in.b .nil pass0 (pa_cons (pv 2) (pa_cons (pv 1) pa_nil))))) pa_nil))))))), ?_⟩
      refine ⟨_, rfl, _, rfl, v, d, t, p, rfl, hv, hd, fun x e => hp.walk_free e, fun v2 hv2 => ?_⟩
      have hr' := rd_walk hp (t := t)
      have hPw := hp.walk_P ht
      refine t_napp (ev_var rfl) hv2 ?_
      cases hw : walk p t with
      | num i =>
        rw [hw] at hr' hv2
        exact iteT ⟨_, rfl, k _ _ (Same.refl _) (by rw [hr']; exact hv2)⟩
      | any i =>
        rw [hw] at hr' hv2
        exact iteT ⟨_, rfl, k _ _ (Same.refl _) (by rw [hr']; exact hv2)⟩
      | app s' ks =>
        rw [hw] at hr' hv2 hPw
        refine iteF ?_
        refine x_sgn (ev_var rfl) hv2 _ ?_
        obtain ⟨q1, q2, vs, rfl, e1, e2, e3⟩ := id hv2
        have hdep : ∀ x ∈ ks, (rd p x).dep ≤ b := fun x hx => by
          have h1 := dep_mem (s := s') (ks := ks) (v := rdv p) hx
          have h2 : ap (rdv p) (.app s' ks) = rd p t := by rw [hr', ap, apL_map]; rfl
          rw [h2] at h1
          have h3 : (rd p x).dep + 1 ≤ (rd p t).dep := h1
          omega
        refine x_tup (ev_var rfl) e1 rfl _ ?_
        refine ⟨q2, rfl, ⟨vs, e2⟩, fun D hD => ?_⟩
        refine lc_mapT (as := ks) (In := Tr K) (Out := Tr K) (φ := rd p) hD e2 e3.f2 (by have := hPw.ar.1; omega) (fun s h => h.same s) (fun o h => h.samT o.t) (fun v x H1 R hx s1 hin kk => ?_) (fun H1 ws s1 h1 h2 => ?_)
        · exact ⟨_, rfl, _, rfl, v, d, x, p, n, nb, rfl, hin, hd.same s1, hp, PT.kids _ _ hPw x hx, hdep x hx, kk⟩
        · refine ⟨s', D, ws, _, rfl, SqL.of h1, h2, fun H2 v2 s2 ht => ?_⟩
          exact k _ _ (s1.trans s2) (by rw [hr']; exact ht)
theorem ok_written_out (T : Txt K mg) : FnOk P w K mg base CX0 50 T.d_written_out.f T.d_written_out.fd ["term", "puts"] (spWritten K) := by
  have G_put_in : FnOk P w K mg base CX0 41 T.d_put_in.f T.d_put_in.fd ["term", "puts"] (spPutIn K 40) := ok_put_in T 40
  have G_parts_up_to : FnOk P w K mg base CX0 2 T.d_parts_up_to.f T.d_parts_up_to.fd ["term", "puts", "most"] (spParts K) := ok_parts_up_to T
  refine T.d_written_out.F.ok (k := 49) sc_written_out (fun vs H Q E h => ?_) (fun cdv A outer s H vs Q E hr h => ?_)
  · obtain ⟨v, d, t, p, n, nb, rfl, _⟩ := h
    rfl
  · obtain ⟨v, d, t, p, n, nb, rfl, hv, hd, hp, ht, hb, k⟩ := h
    refine ⟨_, (pss_cons (ps_if (pt_cmpR op_gt (pe_call G_parts_up_to (hr.mono (by omega)) rfl T.d_parts_up_to.m T.d_parts_up_to.k T.d_parts_up_to.b .nil pass0 (pa_cons (pv 0) (pa_cons (pv 1) (pa_cons (pe_glob (v := V.int 40) rfl T.MOST_PARTS_puts.choose_spec ⟨_, rfl⟩) pa_nil)))) (pe_glob (v := V.int 40) rfl T.MOST_PARTS_puts.choose_spec ⟨_, rfl⟩) (nomark _)) (pss_one ps_never) pss_nil)
          (pss_one (ps_ret (pe_call G_put_in (hr.mono (by omega)) rfl T.d_put_in.m T.d_put_in.k T.d_put_in.b .nil pass0 (pa_cons (pv 0) (pa_cons (pv 1) pa_nil)))))), ?_⟩
    refine ⟨_, rfl, _, rfl, v, d, t, p, n, nb, 40, rfl, hv, hd, hp, ht, by omega, fun H' m s1 h1 h2 => ?_⟩
    have e := h1 hb
    refine ⟨_, _, rfl, rfl, _, rfl, ?_⟩
    refine ite2 (fun hc => ?_) (fun hc => ?_)
    · have hc := of_decide_eq_true hc
      omega
    · have dd := dep_le_size (rd p t)
      exact ⟨_, rfl, _, rfl, v, d, t, p, n, nb, rfl, hv.same s1, hd.same s1, hp, ht, by omega, fun H2 v2 s2 h => k _ _ (s1.trans s2) h⟩
end
end Gt
set_option Elab.async false
set_option linter.all false
set_option maxRecDepth 100000
set_option maxHeartbeats 4000000
/-! Parts of the making one. -/
namespace Gt
open PySem L2
/-- what head_of gives -/
def Hd (K : PySem.W.Frag) (H : Hp) (v : V) : Tm → Prop
  | .num n => Tr K H v (.num n)
  | .any _ => False
  | .app s ks => ∃ p, v = .ref p ∧ SqT K H p [.str "app", .str s, .int (ks.length : Nat)]
def pdH : Tm → PyData
  | .num n => .tuple [.str "num", .int n]
  | .any x => .tuple [.str "any", .str x]
  | .app s ks => .tuple [.str "app", .str s, .int (ks.length : Nat)]
theorem Hd.dp {K : PySem.W.Frag} {H : Hp} {v : V} {t : Tm} (h : Hd K H v t) : Dp K H v (pdH t) := by
  cases t with
  | num n => exact Tr.dp h
  | any x => exact h.elim
  | app s ks =>
    obtain ⟨p, e, h⟩ := h
    rw [e]
    exact .tup h (.cons (.str _) (.cons (.str _) (.cons (.int _) .nil)))
theorem Hd.same {K : PySem.W.Frag} {H H' : Hp} (e : Same H H') {v : V} {t : Tm} (h : Hd K H v t) : Hd K H' v t := by
  cases t with
  | num n => exact Tr.same e h
  | any x => exact h.elim
  | app s ks =>
    obtain ⟨p, a, h⟩ := h
    exact ⟨p, a, same_sqt e h⟩
def sameH : Tm → Tm → Bool
  | .num a, .num b => decide (a = b)
  | .app s ks, .app r ls => decide (s = r) && decide (ks.length = ls.length)
  | .any x, .any y => decide (x = y)
  | .num _, .any _ => false
  | .num _, .app _ _ => false
  | .any _, .num _ => false
  | .any _, .app _ _ => false
  | .app _ _, .num _ => false
  | .app _ _, .any _ => false
theorem pdH_eqv : ∀ t u : Tm, PyData.eqv (pdH t) (pdH u) = sameH t u
  | .num a, .num b => by simp [pdH, PyData.eqv, PyData.eqvAll, sameH]; rw [Bool.eq_iff_iff]; simp
  | .any a, .any b => by simp [pdH, PyData.eqv, PyData.eqvAll, sameH]; rw [Bool.eq_iff_iff]; simp
  | .app a ks, .app b ls => by rw [Bool.eq_iff_iff]; simp [pdH, PyData.eqv, PyData.eqvAll, sameH]; intro _; omega
  | .num a, .any b => by simp [pdH, PyData.eqv, PyData.eqvAll, sameH]
  | .num a, .app b ls => by simp [pdH, PyData.eqv, PyData.eqvAll, sameH]
  | .any a, .num b => by simp [pdH, PyData.eqv, PyData.eqvAll, sameH]
  | .any a, .app b ls => by simp [pdH, PyData.eqv, PyData.eqvAll, sameH]
  | .app a ks, .num b => by simp [pdH, PyData.eqv, PyData.eqvAll, sameH]
  | .app a ks, .any b => by simp [pdH, PyData.eqv, PyData.eqvAll, sameH]
theorem pdH_plain (t : Tm) : (pdH t).plain = true := by cases t <;> rfl
theorem pdH_depth (t : Tm) : (pdH t).depth ≤ 1 := by cases t <;> simp [pdH, PyData.depth, PyData.depthAll]
def spHead (K : PySem.W.Frag) : Sp := fun vs H Q _ => ∃ v t, vs = [v] ∧ Tr K H v t ∧ isAny t = false ∧ ∀ H' v', Same H H' → Hd K H' v' t → Q v' H'
def spStands (K : PySem.W.Frag) : Sp := fun vs H Q _ => ∃ x v d t p n nb, vs = [.str x, v, .ref d] ∧ Tr K H v t ∧ PAt K H d p ∧ OKs (PT 41 nb n) p ∧ PT 41 nb n t ∧ (rd p t).dep ≤ 100000 ∧ ∀ H', Same H H' → Q (.bl (decide (x ∈ (rd p t).vars))) H'
def spSameWord (K : PySem.W.Frag) : Sp := fun vs H Q _ => ∃ v u s ks r ls, vs = [v, u] ∧ Tr K H v (.app s ks) ∧ Tr K H u (.app r ls) ∧ Q (.bl (same (.app s ks) (.app r ls))) H
/-- an item of the stack: a path of so many steps, two terms -/
def It (K : PySem.W.Frag) (H : Hp) (v : V) (c : Nat × Tm × Tm) : Prop := ∃ p pp pv v1 v2, v = .ref p ∧ SqT K H p [.ref pp, v1, v2] ∧ SqT K H pp pv ∧ pv.length = c.1 ∧ Tr K H v1 c.2.1 ∧ Tr K H v2 c.2.2
theorem It.samT {K : PySem.W.Frag} {H H' : Hp} (e : SameT H H') {v : V} {c : Nat × Tm × Tm} : It K H v c → It K H' v c
  | ⟨p, pp, pv, v1, v2, a, b, c, d, f, g⟩ => ⟨p, pp, pv, v1, v2, a, e.sqt b, e.sqt c, d, f.samT e, g.samT e⟩
def spKidsOf (K : PySem.W.Frag) : Sp := fun vs H Q _ => ∃ pp pv v u s ks r ls, vs = [.ref pp, v, u] ∧ SqT K H pp pv ∧ pv.length ≤ 1000000 ∧ Tr K H v (.app s ks) ∧ Tr K H u (.app r ls) ∧ ks.length = ls.length ∧ ks.length ≤ 1000 ∧
  ∀ H' p rows, Same H H' → H p = none → H' p = some (.lst rows) → F2 (It K H') rows.reverse ((ks.zip ls).map fun c => (pv.length + 1, c.1, c.2)) → Q (.ref p) H'
theorem x_tupI {K : PySem.W.Frag} {te ti : TE} {σ : St} {H : Hp} {p : Addr} {xs : List V} {i : Int} {x : V} (he : EvV te σ H (.ref p)) (hi' : EvV ti σ H (.int i)) (h : SqT K H p xs) (hi : atI xs i = some x) : EvV (tOp (rIxT K) te ti) σ H x := fun R q => he _ (hi' _ ⟨p, xs, i, x, rfl, rfl, h, hi, q⟩)
def StB (p : Puts) (B : Nat) : List Tm → Prop
  | [] => True
  | t :: st => (rd p t).dep + st.length ≤ B ∧ StB p B st
theorem StB.push {p : Puts} {B : Nat} {st : List Tm} (h : StB p B st) : ∀ {ks : List Tm}, ks.length ≤ 2 → (∀ k ∈ ks, (rd p k).dep + st.length + 1 ≤ B) → StB p B (ks ++ st)
  | [], _, _ => h
  | [a], _, hk => ⟨by
      have := hk a List.mem_cons_self
      show (rd p a).dep + st.length ≤ B
      omega, h⟩
  | [a, b], _, hk => ⟨by
      have := hk a List.mem_cons_self
      show (rd p a).dep + (st.length + 1) ≤ B
      omega, by
      have := hk b (List.mem_cons_of_mem _ List.mem_cons_self)
      show (rd p b).dep + st.length ≤ B
      omega, h⟩
  | _ :: _ :: _ :: _, hl, _ => by simp at hl
section
variable {P : Program} {w : World} {K : PySem.W.Frag} {mg : Str → Option Value} {base : Heap} {CX : CXT}
theorem ok_head_of (T : Txt K mg) : FnOk P w K mg base CX0 1 T.d_head_of.f T.d_head_of.fd ["term"] (spHead K) := by
  refine T.d_head_of.F.ok sc_head_of (fun vs H Q E h => ?_) (fun cdv A outer s H vs Q E hr h => ?_)
  · obtain ⟨v, t, rfl, _⟩ := h
    rfl
  · obtain ⟨v, t, rfl, hv, ht, k⟩ := h
    refine ⟨_, (pss_cons (ps_if (pt_cmpR op_eq (pe_ix ix_tup (pv 0) pe_int (fun _ _ => rfl)) pe_str (nomark _)) (pss_one (ps_ret (pv 0))) pss_nil)
          (pss_one (ps_ret (pe_tup (pa_cons pe_str (pa_cons (pe_ix ix_tup (pv 0) pe_int (fun _ _ => rfl)) (pa_cons (pe_callB call_len_seq (by rfl) T.len PySem.boot_len (pa_cons (pe_ix ix_tup (pv 0) pe_int (fun _ _ => rfl)) pa_nil)) pa_nil))))))), ?_⟩
    refine t_num (ev_var rfl) hv ?_
    cases t with
    | num n => exact iteT ⟨_, rfl, k _ _ (Same.refl _) hv⟩
    | any x => exact nomatch ht
    | app s' ks =>
      refine iteF ?_
      refine x_sgn (ev_var rfl) hv _ ?_
      obtain ⟨p, q, vs, rfl, e1, e2, e3⟩ := id hv
      refine x_lenL (x_tup (ev_var rfl) e1 rfl) (.inr e2) _ ?_
      refine ⟨(by show 3 ≤ sizeLine; decide), fun p hp => k _ _ (same_new hp) ⟨p, rfl, SqT.of ?_⟩⟩
      rw [upd_same, e3.f2.len]
theorem ok_same_word (T : Txt K mg) : FnOk P w K mg base CX0 1 T.d_same_word.f T.d_same_word.fd ["head", "goal"] (spSameWord K) := by
  refine T.d_same_word.F.ok sc_same_word (fun vs H Q E h => ?_) (fun cdv A outer s H vs Q E hr h => ?_)
  · obtain ⟨v, u, s, ks, r, ls, rfl, _⟩ := h
    rfl
  · obtain ⟨v, u, s, ks, r, ls, rfl, hv, hu, k⟩ := h
    refine ⟨_, (pss_one (ps_ret (pe_and (pe_cmpR op_eq (pe_ix ix_tup (pv 0) pe_int (fun _ _ => rfl)) (pe_ix ix_tup (pv 1) pe_int (fun _ _ => rfl)) (nomark _)) (pe_one (pe_cmpR op_eq (pe_callB call_len_seq (by rfl) T.len PySem.boot_len (pa_cons (pe_ix ix_tup (pv 0) pe_int (fun _ _ => rfl)) pa_nil)) (pe_callB call_len_seq (by rfl) T.len PySem.boot_len (pa_cons (pe_ix ix_tup (pv 1) pe_int (fun _ _ => rfl)) pa_nil)) (nomark _)))))), ?_⟩
    refine x_sgn (ev_var rfl) hv _ (x_sgn (ev_var rfl) hu _ ⟨rfl, _, rfl, ?_⟩)
    have e : decide (V.str s = V.str r) = decide (s = r) := by rw [Bool.eq_iff_iff]; simp
    rw [e]
    have k : Q (.bl (decide (s = r) && decide (ks.length = ls.length))) H := k
    obtain ⟨p1, q1, vs1, rfl, a1, a2, a3⟩ := hv
    obtain ⟨p2, q2, vs2, rfl, b1, b2, b3⟩ := hu
    cases h : decide (s = r) with
    | false =>
      rw [h] at k
      exact iteF k
    | true =>
      rw [h] at k
      refine iteT ?_
      refine x_lenL (x_tup (ev_var rfl) a1 rfl) (.inr a2) _ (x_lenL (x_tup (ev_var rfl) b1 rfl) (.inr b2) _ ⟨rfl, ?_⟩)
      have e2 : decide (V.int (vs1.length : Nat) = V.int (vs2.length : Nat)) = decide (ks.length = ls.length) := by
        rw [Bool.eq_iff_iff, a3.f2.len, b3.f2.len]
        simp
        omega
      rw [e2]
      exact k
theorem ok_stands_in (T : Txt K mg) : FnOk P w K mg base CX0 2 T.d_stands_in.f T.d_stands_in.fd ["name", "term", "puts"] (spStands K) := by
  have G_walked : FnOk P w K mg base CX0 1 T.d_walked.f T.d_walked.fd ["term", "puts"] (spWalked K) := ok_walked T
  refine T.d_stands_in.F.ok sc_stands_in (fun vs H Q E h => ?_) (fun cdv A outer s H vs Q E hr h => ?_)
  · obtain ⟨x, v, d, t, p, n, nb, rfl, _⟩ := h
    rfl
  · obtain ⟨x, v0, d, t0, p, n, nb, rfl, hv, hd, hp, ht, hm, k⟩ := h
    have big : (200000 : Nat) < sizeLine := by decide
    refine ⟨_, (pss_cons (ps_set (i := 3) sc_stands_in.nd rfl (Or.inl rfl) (pe_lst (pa_cons (pv 1) pa_nil)))
          (pss_cons (ps_while PassesOwn.never (pt_cmpR op_gt (pe_callB call_len_seq (by rfl) T.len PySem.boot_len (pa_cons (pv 3) pa_nil)) pe_int (nomark _))
          (pss_cons (ps_set (i := 1) sc_stands_in.nd rfl (Or.inl rfl) (pe_call G_walked (hr.mono (by omega)) rfl T.d_walked.m T.d_walked.k T.d_walked.b .nil pass0 (pa_cons (pe_bm0 PySem.F.plainAttrs_list PySem.F.slot_list_pop PySem.F.type_list_pop mt_pop (pv 3)) (pa_cons (pv 2) pa_nil))))
          (pss_cons (ps_if (PW.pt (pw_and (pt_cmpR op_eq (pe_ix ix_tup (pv 1) pe_int (fun _ _ => rfl)) pe_str (nomark _)) (pw_and1 (pt_cmpR op_eq (pe_ix ix_tup (pv 1) pe_int (fun _ _ => rfl)) (pv 0) (nomark _))))) (pss_one (ps_ret pe_bl)) pss_nil)
          (pss_one (ps_if (pt_cmpR op_eq (pe_ix ix_tup (pv 1) pe_int (fun _ _ => rfl)) pe_str (nomark _)) (pss_one (ps_expr (pe_bm PySem.F.plainAttrs_list PySem.F.slot_list_extend PySem.F.type_list_extend mt_extT (pv 3) (pa_cons (pe_ix ix_tup (pv 1) pe_int (fun _ _ => rfl)) pa_nil)))) pss_nil)))))
          (pss_one (ps_ret pe_bl)))), ?_⟩
    refine ⟨_, rfl, (by show 1 ≤ sizeLine; decide), fun l hl => ?_⟩
    let W : Nat → St → Hp → Prop := fun m σ H' => ∃ (v : V) (sv : List V) (st : List Tm), σ = [some (.str x), some v, some (.ref d), some (.ref l)] ∧ m = Tm.sizeL (st.map (rd p)) ∧ Same H H' ∧ H' l = some (.lst sv.reverse) ∧
      Trs K H' sv st ∧ (∀ t ∈ st, PT 41 nb n t) ∧ (x ∈ (rd p t0).vars ↔ x ∈ Tm.varsL (st.map (rd p))) ∧ StB p 100000 st
    refine ⟨W, ⟨_, v0, [v0], [t0], rfl, rfl, same_new hl, upd_same, ⟨hv.same (same_new hl), trivial⟩, fun t h => by rw [List.mem_singleton.mp h]; exact ht, by simp [Tm.varsL], hm, trivial⟩, ?_⟩
    rintro m σ H' ⟨v, sv, st, rfl, rfl, s1, h2, h3, h4, h5, h6⟩
    refine t_pos (ev_var rfl) h2 ?_
    cases st with
    | nil =>
      cases sv with
      | cons _ _ => exact h3.elim
      | nil =>
        refine iteF ?_
        have : decide (x ∈ (rd p t0).vars) = false := decide_eq_false (by rw [h5]; simp [Tm.varsL])
        have q := k _ s1
        rw [this] at q
        exact q
    | cons t st =>
      cases sv with
      | nil => exact h3.elim
      | cons v1 sv =>
        obtain ⟨hv1, h3⟩ := h3
        obtain ⟨h6, h7⟩ := h6
        rw [List.map_cons, Tm.varsL, List.mem_append] at h5
        have sz := size_pos (rd p t)
        have dz := dep_pos (rd p t)
        rw [rev_empty]
        refine iteT ⟨fun σ' H'' => ∃ m', m' < Tm.sizeL ((t :: st).map (rd p)) ∧ W m' σ' H'', fun _ _ h => h, ?_⟩
        refine x_pop (ev_var rfl) h2 (rev_cons_last v1 sv) ?_
        rw [rev_cons_drop]
        have sT : SameT H' (upd H' l (.lst sv.reverse)) := samT_lst h2
        have s2 : Same H (upd H' l (.lst sv.reverse)) := same_upd s1 hl
        have h2' : upd H' l (.lst sv.reverse) l = some (.lst sv.reverse) := upd_same
        have hv1' := hv1.samT sT
        have h3' := Trs.samT sT h3
        generalize upd H' l (.lst sv.reverse) = G at *
        refine ⟨_, rfl, v1, d, t, p, rfl, hv1', hd.same s2, fun x e => hp.walk_free e, fun v2 hv2 => ?_⟩
        have hr := rd_walk hp (t := t)
        have hPw := hp.walk_P (h4 t List.mem_cons_self)
        have rest : ∀ y ∈ st, PT 41 nb n y := fun y hy => h4 y (List.mem_cons_of_mem _ hy)
        refine t_any (ev_var rfl) hv2 ?_
        cases hw : walk p t with
        | num i =>
          rw [hw] at hr hv2
          refine iteF (iteF ?_)
          refine t_app (ev_var rfl) hv2 (iteF ?_)
          refine ⟨_, ?_, v2, sv, st, rfl, rfl, s2, h2', h3', rest, ?_, h7⟩
          · rw [List.map_cons, Tm.sizeL]; omega
          · rw [h5, hr]; simp [Tm.vars]
        | any y =>
          rw [hw] at hr hv2
          refine iteT ?_
          refine x_any (ev_var rfl) hv2 _ ⟨_, rfl, rfl, _, rfl, ?_⟩
          have e : decide (V.str y = V.str x) = decide (y = x) := by rw [Bool.eq_iff_iff]; simp
          rw [e]
          refine ite2 (fun hc => ?_) (fun hc => ?_)
          · have hc := of_decide_eq_true hc
            have : decide (x ∈ (rd p t0).vars) = true := decide_eq_true (by rw [h5, hr, hc]; simp [Tm.vars])
            have q := k _ s2
            rw [this] at q
            exact q
          · have hc := of_decide_eq_false (Bool.eq_false_iff.mpr hc)
            refine t_app (ev_var rfl) hv2 (iteF ?_)
            refine ⟨_, ?_, v2, sv, st, rfl, rfl, s2, h2', h3', rest, ?_, h7⟩
            · rw [List.map_cons, Tm.sizeL]; omega
            · rw [h5, hr]; simp [Tm.vars, Ne.symm hc]
        | app s' ks =>
          rw [hw] at hr hv2 hPw
          refine iteF (iteF ?_)
          refine t_app (ev_var rfl) hv2 (iteT ?_)
          obtain ⟨q1, q2, vs, rfl, e1, e2, e3⟩ := hv2
          have lk := hPw.ar.1
          have lv := e3.f2.len
          have ls := h3'.len
          refine x_extT (ev_var rfl) (x_tup (ev_var rfl) e1 rfl) h2' e2 ?_ ?_
          · rw [List.length_reverse]
            omega
          have sT3 : SameT G (upd G l (.lst (sv.reverse ++ vs))) := samT_lst h2'
          have er : sv.reverse ++ vs = (vs.reverse ++ sv).reverse := by rw [List.reverse_append, List.reverse_reverse]
          rw [er] at sT3 ⊢
          refine ⟨_, ?_, _, vs.reverse ++ sv, ks.reverse ++ st, rfl, rfl, same_upd s2 hl, upd_same, Trs.samT sT3 (e3.f2.rev.app h3'), fun t ht => ?_, ?_, ?_⟩
          · rw [List.map_append, List.map_reverse, sizeL_append, sizeL_rev, List.map_cons, Tm.sizeL, hr, Tm.size]
            omega
          · rcases List.mem_append.mp ht with ht | ht
            · exact PT.kids _ _ hPw _ (List.mem_reverse.mp ht)
            · exact rest t ht
          · rw [h5, hr, List.map_append, varsL_append, List.mem_append, Tm.vars]
            have : x ∈ Tm.varsL (ks.map (rd p)) ↔ x ∈ Tm.varsL (ks.reverse.map (rd p)) := by
              rw [varsL_mem, varsL_mem]
              simp only [List.mem_map, List.mem_reverse]
            rw [this]
          · refine h7.push (by rw [List.length_reverse]; exact lk) fun y hy => ?_
            have h1 := dep_mem (s := s') (ks := ks) (v := rdv p) (List.mem_reverse.mp hy)
            have h2 : ap (rdv p) (.app s' ks) = rd p t := by rw [hr, ap, apL_map]; rfl
            rw [h2] at h1
            have h3 : (rd p y).dep + 1 ≤ (rd p t).dep := h1
            omega
theorem atI_nat' {xs : List V} {i : Nat} {v : V} (h : xs[i]? = some v) : atI xs ((i : Nat) : Int) = some v := atI_nat h
theorem ok_kids_of (T : Txt K mg) : FnOk P w K mg base CX0 1 T.d_kids_of.f T.d_kids_of.fd ["path", "one", "other"] (spKidsOf K) := by
  refine T.d_kids_of.F.ok sc_kids_of (fun vs H Q E h => ?_) (fun cdv A outer s H vs Q E hr h => ?_)
  · obtain ⟨pp, pv', v, u, s, ks, r, ls, rfl, _⟩ := h
    rfl
  · obtain ⟨pp, pv', v, u, s, ks, r, ls, rfl, hp, hpl, hv, hu, hlen, hkl, k⟩ := h
    have big : (2000000 : Nat) < sizeLine := by decide
    refine ⟨_, (pss_cons (ps_set (i := 3) sc_kids_of.nd rfl (Or.inl rfl) (pe_lst pa_nil))
          (pss_cons (ps_set (i := 4) sc_kids_of.nd rfl (Or.inl rfl) (pe_callB call_len_seq (by rfl) T.len PySem.boot_len (pa_cons (pe_ix ix_tup (pv 1) pe_int (fun _ _ => rfl)) pa_nil)))
          (pss_cons (ps_while PassesOwn.never (pt_cmpR op_gt (pv 4) pe_int (nomark _))
          (pss_cons (ps_set (i := 4) sc_kids_of.nd rfl (Or.inl rfl) (pe_op op_sub (pv 4) pe_int))
          (pss_one (ps_expr (pe_bm PySem.F.plainAttrs_list PySem.F.slot_list_append PySem.F.type_list_append mt_append (pv 3) (pa_cons (pe_tup (pa_cons (pe_op op_catA (pv 0) (pe_tup (pa_cons (pv 4) pa_nil))) (pa_cons (pe_ix ix_tup (pe_ix ix_tup (pv 1) pe_int (fun _ _ => rfl)) (pv 4) (fun _ _ => rfl)) (pa_cons (pe_ix ix_tup (pe_ix ix_tup (pv 2) pe_int (fun _ _ => rfl)) (pv 4) (fun _ _ => rfl)) pa_nil)))) pa_nil))))))
          (pss_one (ps_ret (pv 3)))))), ?_⟩
    refine ⟨Nat.zero_le _, fun l hl => ?_⟩
    obtain ⟨p1, q1, vs1, rfl, a1, a2, a3⟩ := hv
    obtain ⟨p2, q2, vs2, rfl, b1, b2, b3⟩ := hu
    have s0 : Same H (upd H l (.lst [])) := same_new hl
    have l1 := a3.f2.len
    have l2 := b3.f2.len
    refine ⟨_, rfl, p1, _, 2, _, rfl, rfl, same_sqt s0 a1, rfl, q1, vs1, rfl, .inr (same_sqt s0 a2), ?_⟩
    let W : Nat → St → Hp → Prop := fun m σ H' => ∃ (rows : List V) (z : Int), σ = [some (.ref pp), some (.ref p1), some (.ref p2), some (.ref l), some (.int z)] ∧ z = ((m : Nat) : Int) ∧ m ≤ ks.length ∧ Same H H' ∧ H' l = some (.lst rows) ∧
      F2 (It K H') rows.reverse (((ks.drop m).zip (ls.drop m)).map fun c => (pv'.length + 1, c.1, c.2)) ∧ rows.length + m = ks.length
    refine ⟨W, ⟨vs1.length, [], _, rfl, rfl, Nat.le_of_eq l1, s0, upd_same, ?_, by simp [l1]⟩, ?_⟩
    · rw [l1, List.drop_length]
      simp [F2]
    rintro m σ H' ⟨rows, z, rfl, hz, hm, s1, h1, h2, h3⟩
    refine ⟨_, rfl, _, _, rfl, rfl, _, rfl, ?_⟩
    refine ite2 (fun hc => ?_) (fun hc => ?_)
    · have hc := of_decide_eq_true hc
      obtain ⟨j, rfl⟩ : ∃ j, m = j + 1 := ⟨m - 1, by omega⟩
      refine ⟨fun σ' H'' => ∃ m', m' < j + 1 ∧ W m' σ' H'', fun _ _ h => h, ?_⟩
      refine ⟨_, rfl, _, _, rfl, rfl, ?_⟩
      have ej : z - 1 = ((j : Nat) : Int) := by omega
      have hj1 : j < vs1.length := by omega
      have hj2 : j < vs2.length := by omega
      have hk1 : j < ks.length := by omega
      have hk2 : j < ls.length := by omega
      refine ⟨_, rfl, .inl ⟨rfl, _, SqL.of h1⟩, _, rfl, _, rfl, (by show 1 ≤ sizeLine; decide), fun t1 ht1 => ?_⟩
      have s2 := s1.trans (same_new (o := .tup [.int (z - 1)]) ht1)
      have cat : ∀ t2 H2, Same H H2 → Same H' H2 → H2 t2 = some (.tup (pv' ++ [.int (z - 1)])) → ∀ t3, H2 t3 = none → W j [some (.ref pp), some (.ref p1), some (.ref p2), some (.ref l), some (.int (z - 1))] (upd (upd H2 t3 (.tup [.ref t2, vs1[j], vs2[j]])) l (.lst (rows ++ [.ref t3]))) := by
        intro t2 H2 s3 s3' e2 t3 ht3
        have nl3 : l ≠ t3 := ne_of_none (s3' _ _ h1) ht3
        have s4 := same_new (o := .tup [.ref t2, vs1[j], vs2[j]]) ht3
        have e5 : upd H2 t3 (.tup [.ref t2, vs1[j], vs2[j]]) l = some (.lst rows) := s4 _ _ (s3' _ _ h1)
        have sT : SameT H' (upd (upd H2 t3 (.tup [.ref t2, vs1[j], vs2[j]])) l (.lst (rows ++ [.ref t3]))) := ((same_t s3').trans (same_t s4)).trans (samT_lst e5)
        have sT2 : SameT H (upd (upd H2 t3 (.tup [.ref t2, vs1[j], vs2[j]])) l (.lst (rows ++ [.ref t3]))) := ((same_t s3).trans (same_t s4)).trans (samT_lst e5)
        refine ⟨rows ++ [.ref t3], _, rfl, ej, by omega, same_upd (s3.trans s4) hl, upd_same, ?_, by rw [List.length_append, List.length_singleton]; omega⟩
        rw [List.reverse_append, List.reverse_singleton, List.singleton_append, List.drop_eq_getElem_cons hk1, List.drop_eq_getElem_cons hk2, List.zip_cons_cons, List.map_cons]
        refine ⟨⟨t3, t2, pv' ++ [.int (z - 1)], vs1[j], vs2[j], rfl, SqT.of ?_, SqT.of ?_, by rw [List.length_append]; rfl, ?_, ?_⟩, h2.imp fun v c q => q.samT sT⟩
        · rw [upd_ne nl3.symm, upd_same]
        · have n1 : t2 ≠ t3 := ne_of_none e2 ht3
          have n2 : t2 ≠ l := ne_of e2 (s3' _ _ h1) (by intro z; cases z)
          rw [upd_ne n2, upd_ne n1]
          exact e2
        · obtain ⟨y, hy, ty⟩ := a3.f2.get (List.getElem?_eq_getElem hj1)
          rw [List.getElem?_eq_getElem hk1] at hy
          injection hy with hy
          rw [← hy] at ty
          exact ty.samT sT2
        · obtain ⟨y, hy, ty⟩ := b3.f2.get (List.getElem?_eq_getElem hj2)
          rw [List.getElem?_eq_getElem hk2] at hy
          injection hy with hy
          rw [← hy] at ty
          exact ty.samT sT2
      have fin : ∀ t2 H2, Same H H2 → Same H' H2 → H2 t2 = some (.tup (pv' ++ [.int (z - 1)])) → ∀ t3, H2 t3 = none → ∃ l_1 xs y, V.ref l = V.ref l_1 ∧ [V.ref t3] = [y] ∧ upd H2 t3 (.tup [.ref t2, vs1[j], vs2[j]]) l_1 = some (.lst xs) ∧ xs.length < sizeLine ∧ ∃ m', m' < j + 1 ∧ W m' [some (.ref pp), some (.ref p1), some (.ref p2), some (.ref l), some (.int (z - 1))] (upd (upd H2 t3 (.tup [.ref t2, vs1[j], vs2[j]])) l_1 (.lst (xs ++ [y]))) := fun t2 H2 s3 s3' e2 t3 ht3 =>
        ⟨l, rows, .ref t3, rfl, rfl, upd_at (s3' _ _ h1) (ne_of_none (s3' _ _ h1) ht3), by omega, j, Nat.lt_succ_self j, cat t2 H2 s3 s3' e2 t3 ht3⟩
      have i1 : ∀ {H2 : Hp}, Same H H2 → atI vs1 (z - 1) = some vs1[j] := fun _ => by rw [ej]; exact atI_nat (List.getElem?_eq_getElem hj1)
      have i2 : ∀ {H2 : Hp}, Same H H2 → atI vs2 (z - 1) = some vs2[j] := fun _ => by rw [ej]; exact atI_nat (List.getElem?_eq_getElem hj2)
      refine ⟨pp, t1, pv', [.int (z - 1)], rfl, rfl, same_sqt s2 hp, SqT.of upd_same, by rw [List.length_singleton]; omega, fun e => ?_, (fun _ e => nomatch e), fun _ _ t2 ht2 => ?_⟩
      · subst e
        exact x_tupI (x_tup (ev_var rfl) (same_sqt s2 a1) rfl) (ev_var rfl) (same_sqt s2 a2) (i1 s2) _ (x_tupI (x_tup (ev_var rfl) (same_sqt s2 b1) rfl) (ev_var rfl) (same_sqt s2 b2) (i2 s2) _ ⟨(by show 3 ≤ sizeLine; decide), fun t3 ht3 => fin t1 _ s2 (same_new ht1) upd_same t3 ht3⟩)
      · have s3 := s2.trans (same_new (o := .tup (pv' ++ [.int (z - 1)])) ht2)
        exact x_tupI (x_tup (ev_var rfl) (same_sqt s3 a1) rfl) (ev_var rfl) (same_sqt s3 a2) (i1 s3) _ (x_tupI (x_tup (ev_var rfl) (same_sqt s3 b1) rfl) (ev_var rfl) (same_sqt s3 b2) (i2 s3) _ ⟨(by show 3 ≤ sizeLine; decide), fun t3 ht3 => fin t2 _ s3 ((same_new ht1).trans (same_new ht2)) upd_same t3 ht3⟩)
    · have hc := of_decide_eq_false (Bool.eq_false_iff.mpr hc)
      have m0 : m = 0 := by omega
      subst m0
      exact ⟨_, rfl, k _ l rows s1 hl h1 h2⟩
end
end Gt
set_option Elab.async false
set_option linter.all false
set_option maxRecDepth 100000
set_option maxHeartbeats 4000000
/-! made_one. -/
namespace Gt
open PySem L2
theorem rd_ar {d n : Nat} {nb : List Str} {q : Puts} (h : OKs (PT d nb n) q) {t : Tm} (ht : Ar t) : Ar (rd q t) := by
  obtain ⟨L, A⟩ := h.acy
  have hv : ∀ x, Ar (rdv q x) := A.ind (p := fun x => Ar (rdv q x)) (fun x e => by rw [h.fix.none e]; exact trivial) (fun x t e k => by
    rw [h.fix.some e]
    exact Ar_ap t (h.st _ (look_some e)).1.ar k)
  exact Ar_ap t ht fun x _ => hv x
theorem two_pow (d : Nat) : 1 ≤ 2 ^ d := Nat.one_le_two_pow
mutual
theorem size_pow : ∀ t : Tm, Ar t → t.size + 1 ≤ 2 ^ t.dep
  | .num _, _ => by simp [Tm.size, Tm.dep]
  | .any _, _ => by simp [Tm.size, Tm.dep]
  | .app s ks, ⟨h1, h2⟩ => by
    have h := sizeL_pow ks h2 (Tm.depL ks) (Nat.le_refl _)
    rw [Tm.size, Tm.dep, Nat.pow_add, Nat.pow_one]
    have one := two_pow (Tm.depL ks)
    generalize 2 ^ Tm.depL ks = z at *
    have : ks.length = 0 ∨ ks.length = 1 ∨ ks.length = 2 := by omega
    rcases this with e | e | e <;> (rw [e] at h; omega)
theorem sizeL_pow : ∀ ks : List Tm, ArL ks → ∀ d, Tm.depL ks ≤ d → Tm.sizeL ks + ks.length ≤ ks.length * 2 ^ d
  | [], _, _, _ => by simp [Tm.sizeL]
  | t :: ks, ⟨h1, h2⟩, d, hd => by
    rw [Tm.depL] at hd
    have a := size_pow t h1
    have b := sizeL_pow ks h2 d (by omega)
    have c : 2 ^ t.dep ≤ 2 ^ d := Nat.pow_le_pow_right (by omega) (by omega)
    rw [Tm.sizeL, List.length_cons, Nat.succ_mul]
    omega
end
section
variable {n : Nat} {nb : List Str} {q : Puts} {t : Tm}
theorem deepB (hU : nb.length * (n + 1) ≤ 2000) (h : OKs (PT 41 nb n) q) (ht : PT 41 nb n t) : (rd q t).dep ≤ 80041 := by
  have h1 := h.dep (U := Un nb n) (fun x hx => hx.nm x (by simp [Tm.vars])) (D := 40) (fun t h => h.dep) t ht
  have h2 := Un_len nb n
  omega
theorem lenB (hU : nb.length * (n + 1) ≤ 2000) (h : OKs (PT 41 nb n) q) : q.length ≤ 2000 := by
  have h1 := h.univ (U := Un nb n) (fun x hx => hx.nm x (by simp [Tm.vars]))
  have h2 := Un_len nb n
  omega
end
/-- how deep the stack's terms read, now and later; how long the paths are -/
def StC (P : Tm → Prop) (q : Puts) (B : Nat) : List (Nat × Tm × Tm) → Prop
  | [] => True
  | c :: st => (∀ q', OKs P q' → Ext q q' → (rd q' c.2.1).dep + st.length ≤ B ∧ (rd q' c.2.1).dep + c.1 ≤ B) ∧ StC P q B st
theorem StC.ext {P : Tm → Prop} {q q2 : Puts} {B : Nat} (e : Ext q q2) : ∀ {st : List (Nat × Tm × Tm)}, StC P q B st → StC P q2 B st
  | [], _ => trivial
  | _ :: _, ⟨a, b⟩ => ⟨fun q' o x => a q' o (e.trans x), b.ext e⟩
theorem StC.push {P : Tm → Prop} {q : Puts} {B : Nat} {st : List (Nat × Tm × Tm)} (h : StC P q B st) : ∀ {cs : List (Nat × Tm × Tm)}, cs.length ≤ 2 → (∀ c ∈ cs, ∀ q', OKs P q' → Ext q q' → (rd q' c.2.1).dep + st.length + 1 ≤ B ∧ (rd q' c.2.1).dep + c.1 ≤ B) → StC P q B (cs ++ st)
  | [], _, _ => h
  | [a], _, hk => ⟨fun q' o x => by
      have := hk a List.mem_cons_self q' o x
      exact ⟨by show (rd q' a.2.1).dep + st.length ≤ B; omega, this.2⟩, h⟩
  | [a, b], _, hk => ⟨fun q' o x => by
      have := hk a List.mem_cons_self q' o x
      exact ⟨by show (rd q' a.2.1).dep + (st.length + 1) ≤ B; omega, this.2⟩, fun q' o x => by
      have := hk b (List.mem_cons_of_mem _ List.mem_cons_self) q' o x
      exact ⟨by show (rd q' b.2.1).dep + st.length ≤ B; omega, this.2⟩, h⟩
  | _ :: _ :: _ :: _, hl, _ => by simp at hl
def sumS (q : Puts) : List (Nat × Tm × Tm) → Nat
  | [] => 0
  | c :: st => (rd q c.2.1).size + sumS q st
theorem sumS_append (q : Puts) (a b : List (Nat × Tm × Tm)) : sumS q (a ++ b) = sumS q a + sumS q b := by
  induction a with
  | nil => rw [List.nil_append, sumS, Nat.zero_add]
  | cons c a ih => rw [List.cons_append, sumS, sumS, ih, Nat.add_assoc]
theorem sumS_zip (q : Puts) (i : Nat) : ∀ {ks ls : List Tm}, ks.length = ls.length → sumS q ((ks.zip ls).map fun c => (i, c.1, c.2)) = Tm.sizeL (ks.map (rd q))
  | [], [], _ => rfl
  | k :: ks, l :: ls, h => by
    have ih := sumS_zip q i (ks := ks) (ls := ls) (by simpa using h)
    rw [List.zip_cons_cons, List.map_cons, sumS, ih, List.map_cons, Tm.sizeL]
  | [], _ :: _, h => by simp at h
  | _ :: _, [], h => by simp at h
theorem exZ (b : Nat) : ∃ Z : Nat, ∀ d, d ≤ b → 2 ^ d ≤ Z := ⟨2 ^ b, fun d h => Nat.pow_le_pow_right (by omega) h⟩
noncomputable def bigZ : Nat := (exZ 80041).choose
theorem bigZ_le {d : Nat} (h : d ≤ 80041) : 2 ^ d ≤ bigZ := (exZ 80041).choose_spec d h
theorem sumS_le {d n : Nat} {nb : List Str} {q : Puts} (h : OKs (PT 41 nb n) q) (hU : nb.length * (n + 1) ≤ 2000) : ∀ {st : List (Nat × Tm × Tm)}, (∀ c ∈ st, PT 41 nb n c.2.1) → sumS q st ≤ st.length * bigZ
  | [], _ => by simp [sumS]
  | c :: st, hs => by
    have ih := sumS_le (d := d) h hU (st := st) fun c hc => hs c (List.mem_cons_of_mem _ hc)
    have hc := hs c List.mem_cons_self
    have h1 := size_pow (rd q c.2.1) (rd_ar h hc.ar)
    have h2 := deepB hU h hc
    have h3 : 2 ^ (rd q c.2.1).dep ≤ bigZ := bigZ_le h2
    rw [sumS, List.length_cons, Nat.succ_mul]
    omega
def MadeR (K : PySem.W.Frag) (H : Hp) (r : V) (o : Option Puts) : Prop := ∃ a, r = .ref a ∧ match o with
  | some q => ∃ d', SqT K H a [.str "one", .ref d'] ∧ PAt K H d' q
  | none => ∃ x y xs, SqT K H a (.str x :: y :: xs) ∧ x ≠ ("one" : Str)
def spMade (K : PySem.W.Frag) : Sp := fun vs H Q _ => ∃ v u d t s p n nb, vs = [v, u, .ref d] ∧ Tr K H v t ∧ Tr K H u s ∧ PAt K H d p ∧ OKs (PT 41 nb n) p ∧ PT 41 nb n t ∧ PT 41 nb n s ∧ nb.length * (n + 1) ≤ 2000 ∧
  ∀ H' r o, Same H H' → Mgu (PT 41 nb n) p [(t, s)] o → MadeR K H' r o → Q r H'
section
variable {P : Program} {w : World} {K : PySem.W.Frag} {mg : Str → Option Value} {base : Heap} {CX : CXT}
theorem swap_if {H : Hp} {v1 v2 : V} {c d : Tm} {σ : St} {D : Ends} (hc : Tr K H v1 c) (hd : Tr K H v2 d) (h0 : σ[0]? = some (some v1)) (h1 : σ[1]? = some (some v2))
    (k : ∀ u1 u2 a b, Tr K H u1 a → Tr K H u2 b → (isAny a = true ∨ isAny b = false) → ((u1 = v1 ∧ u2 = v2 ∧ a = c ∧ b = d) ∨ (isAny a = true ∧ isAny b = false ∧ u1 = v2 ∧ u2 = v1 ∧ a = d ∧ b = c)) → D.nx ((σ.set 0 (some u1)).set 1 (some u2)) H) :
    tIfS (tAnd (tTest (tOp rNe (tOp (rIxT K) (tVar 0) (tC (.int 0))) (tC (.str "any")))) (tTest (tOp rEq (tOp (rIxT K) (tVar 1) (tC (.int 0))) (tC (.str "any"))))) (tPar 0 1 (tCons (tVar 1) (tCons (tVar 0) tNil))) tNext D σ H := by
  have e0 : (σ.set 0 (some v1)).set 1 (some v2) = σ := by
    apply List.ext_getElem?
    intro i
    rw [List.getElem?_set]
    split
    · rename_i e; subst e
      rw [h1]
      simp only [List.length_set]
      rw [if_pos (List.getElem?_eq_some_iff.mp h1).1]
    · rw [List.getElem?_set]
      split
      · rename_i e; subst e
        rw [h0, if_pos (List.getElem?_eq_some_iff.mp h0).1]
      · rfl
  refine t_nany (ev_var h0) hc ?_
  cases ea : isAny c with
  | true =>
    refine iteF (iteF ?_)
    have := k v1 v2 c d hc hd (.inl ea) (.inl ⟨rfl, rfl, rfl, rfl⟩)
    rw [e0] at this
    exact this
  | false =>
    refine iteT (t_any (ev_var h1) hd ?_)
    cases eb : isAny d with
    | false =>
      refine iteF ?_
      have := k v1 v2 c d hc hd (.inr eb) (.inl ⟨rfl, rfl, rfl, rfl⟩)
      rw [e0] at this
      exact this
    | true =>
      exact iteT ⟨_, h1, _, h0, _, _, rfl, k v2 v1 d c hd hc (.inl eb) (.inr ⟨eb, ea, rfl, rfl, rfl, rfl⟩)⟩
theorem ok_made_one (T : Txt K mg) : FnOk P w K mg base CX0 3 T.d_made_one.f T.d_made_one.fd ["one", "other", "puts"] (spMade K) := by
  have G_walked : FnOk P w K mg base CX0 1 T.d_walked.f T.d_walked.fd ["term", "puts"] (spWalked K) := ok_walked T
  have G_head_of : FnOk P w K mg base CX0 1 T.d_head_of.f T.d_head_of.fd ["term"] (spHead K) := ok_head_of T
  have G_stands_in : FnOk P w K mg base CX0 2 T.d_stands_in.f T.d_stands_in.fd ["name", "term", "puts"] (spStands K) := ok_stands_in T
  have G_kids_of : FnOk P w K mg base CX0 1 T.d_kids_of.f T.d_kids_of.fd ["path", "one", "other"] (spKidsOf K) := ok_kids_of T
  refine T.d_made_one.F.ok sc_made_one (fun vs H Q E h => ?_) (fun cdv A outer s H vs Q E hr h => ?_)
  · obtain ⟨v, u, d, t, s, p, n, nb, rfl, _⟩ := h
    rfl
  · obtain ⟨v0, u0, d, t0, s0, p, n, nb, rfl, hv, hu, ⟨kvs, hd, hpr⟩, hp, ht, hs, hU, k⟩ := h
    have big : (200000 : Nat) < sizeLine := by decide
    refine ⟨_, (pss_cons (ps_set (i := 3) sc_made_one.nd rfl (Or.inl rfl) (pe_callTy call_dictD (by rfl) T.dict (by decide +kernel) (pa_cons (pv 2) pa_nil)))
          (pss_cons (ps_set (i := 4) sc_made_one.nd rfl (Or.inl rfl) (pe_lst (pa_cons (pe_tup (pa_cons (pe_tup pa_nil) (pa_cons (pv 0) (pa_cons (pv 1) pa_nil)))) pa_nil)))
          (pss_cons (ps_while PassesOwn.never (pt_cmpR op_gt (pe_callB call_len_seq (by rfl) T.len PySem.boot_len (pa_cons (pv 4) pa_nil)) pe_int (nomark _))
          (pss_cons (ps_asg (pe_bm0 PySem.F.plainAttrs_list PySem.F.slot_list_pop PySem.F.type_list_pop mt_pop (pv 4)) (pg_tup (by rfl) (pgs_cons (pg_name (i := 5) sc_made_one.nd rfl (Or.inl rfl)) (pgs_cons (pg_name (i := 0) sc_made_one.nd rfl (Or.inl rfl)) (pgs_cons (pg_name (i := 1) sc_made_one.nd rfl (Or.inl rfl)) pgs_nil)))))
          (pss_cons (ps_set (i := 0) sc_made_one.nd rfl (Or.inl rfl) (pe_call G_walked (hr.mono (by omega)) rfl T.d_walked.m T.d_walked.k T.d_walked.b .nil pass0 (pa_cons (pv 0) (pa_cons (pv 3) pa_nil))))
          (pss_cons (ps_set (i := 1) sc_made_one.nd rfl (Or.inl rfl) (pe_call G_walked (hr.mono (by omega)) rfl T.d_walked.m T.d_walked.k T.d_walked.b .nil pass0 (pa_cons (pv 1) (pa_cons (pv 3) pa_nil))))
          (pss_cons (ps_if (PW.pt (pw_and (pt_cmpR op_ne (pe_ix ix_tup (pv 0) pe_int (fun _ _ => rfl)) pe_str (nomark _)) (pw_and1 (pt_cmpR op_eq (pe_ix ix_tup (pv 1) pe_int (fun _ _ => rfl)) pe_str (nomark _))))) (pss_one (ps_par (i := 0) (j := 1) (by rfl) sc_made_one.nd rfl rfl (by decide) rfl rfl (pa_cons (pv 1) (pa_cons (pv 0) pa_nil)) (by rfl))) pss_nil)
          (pss_one (ps_if (pt_cmpR op_eq (pe_ix ix_tup (pv 0) pe_int (fun _ _ => rfl)) pe_str (nomark _)) (pss_cons (ps_if (PW.pt (pw_and (pt_cmpR (op_neT (hu_of2 hr)) (pv 0) (pv 1) (nomark _)) (pw_and1 (pt_val (pe_call G_stands_in (hr.mono (by omega)) rfl T.d_stands_in.m T.d_stands_in.k T.d_stands_in.b .nil pass0 (pa_cons (pe_ix ix_tup (pv 0) pe_int (fun _ _ => rfl)) (pa_cons (pv 1) (pa_cons (pv 3) pa_nil)))))))) (pss_one (ps_ret (pe_tup (pa_cons pe_str (pa_cons (pv 5) (pa_cons (pe_ix ix_tup (pv 0) pe_int (fun _ _ => rfl)) pa_nil)))))) pss_nil)
          (pss_one (ps_if (pt_cmpR (op_neT (hu_of2 hr)) (pv 0) (pv 1) (nomark _)) (pss_one (ps_dput (hu_of hr) (pv 3) (pe_ix ix_tup (pv 0) pe_int (fun _ _ => rfl)) (pv 1) rfl)) pss_nil))) (pss_one (ps_if (pt_cmpR (op_neT (hu_of2 hr)) (pe_call G_head_of (hr.mono (by omega)) rfl T.d_head_of.m T.d_head_of.k T.d_head_of.b .nil pass0 (pa_cons (pv 0) pa_nil)) (pe_call G_head_of (hr.mono (by omega)) rfl T.d_head_of.m T.d_head_of.k T.d_head_of.b .nil pass0 (pa_cons (pv 1) pa_nil)) (nomark _)) (pss_one (ps_ret (pe_tup (pa_cons pe_str (pa_cons (pv 5) (pa_cons (pe_call G_head_of (hr.mono (by omega)) rfl T.d_head_of.m T.d_head_of.k T.d_head_of.b .nil pass0 (pa_cons (pv 0) pa_nil)) (pa_cons (pe_call G_head_of (hr.mono (by omega)) rfl T.d_head_of.m T.d_head_of.k T.d_head_of.b .nil pass0 (pa_cons (pv 1) pa_nil)) pa_nil))))))) (pss_one (ps_if (pt_cmpR op_eq (pe_ix ix_tup (pv 0) pe_int (fun _ _ => rfl)) pe_str (nomark _)) (pss_one (ps_expr (pe_bm PySem.F.plainAttrs_list PySem.F.slot_list_extend PySem.F.type_list_extend mt_extend (pv 4) (pa_cons (pe_call G_kids_of (hr.mono (by omega)) rfl T.d_kids_of.m T.d_kids_of.k T.d_kids_of.b .nil pass0 (pa_cons (pv 5) (pa_cons (pv 0) (pa_cons (pv 1) pa_nil)))) pa_nil)))) pss_nil)))))))))))
          (pss_one (ps_ret (pe_tup (pa_cons pe_str (pa_cons (pv 3) pa_nil)))))))), ?_⟩
    refine ⟨_, rfl, d, kvs, rfl, .inl hd, fun df hdf => ?_⟩
    have z1 : Same H (upd H df (.dK kvs)) := same_new hdf
    refine ⟨Nat.zero_le _, fun e0 he0 => ⟨_, rfl, _, rfl, (by show 3 ≤ sizeLine; decide), fun e1 he1 => ⟨(by show 1 ≤ sizeLine; decide), fun l hl => ?_⟩⟩⟩
    have z2 := z1.trans (same_new (o := .tup []) he0)
    have z3 := z2.trans (same_new (o := .tup [.ref e0, v0, u0]) he1)
    have z4 := z3.trans (same_new (o := .lst [.ref e1]) hl)
    have hl0 : H l = none := z3.free hl
    have f1 := same_new (o := .tup []) he0
    have f2 := f1.trans (same_new (o := .tup [.ref e0, v0, u0]) he1)
    have f3 := f2.trans (same_new (o := .lst [.ref e1]) hl)
    have hdf1 : upd (upd (upd (upd H df (.dK kvs)) e0 (.tup [])) e1 (.tup [.ref e0, v0, u0])) l (.lst [.ref e1]) df = some (.dK kvs) := f3 _ _ upd_same
    have g2 := same_new (o := .lst [.ref e1]) hl
    have g1 := (same_new (o := .tup [.ref e0, v0, u0]) he1).trans g2
    have it1 : It K (upd (upd (upd (upd H df (.dK kvs)) e0 (.tup [])) e1 (.tup [.ref e0, v0, u0])) l (.lst [.ref e1])) (.ref e1) (0, t0, s0) :=
      ⟨e1, e0, [], v0, u0, rfl, SqT.of (g2 _ _ upd_same), SqT.of (g1 _ _ upd_same), rfl, hv.same z4, hu.same z4⟩
    have hl1 : upd (upd (upd (upd H df (.dK kvs)) e0 (.tup [])) e1 (.tup [.ref e0, v0, u0])) l (.lst [.ref e1]) l = some (.lst [.ref e1]) := upd_same
    have pr1 := hpr.samT (same_t z4)
    have nld : df ≠ l := ne_of_none (f2 _ _ upd_same) hl
    generalize upd (upd (upd (upd H df (.dK kvs)) e0 (.tup [])) e1 (.tup [.ref e0, v0, u0])) l (.lst [.ref e1]) = H1 at *
    let Pp := PT 41 nb n
    let W : Nat → St → Hp → Prop := fun m σ H' => ∃ (v1 v2 : V) (vp : Option V) (q : Puts) (sv : List V) (st : List (Nat × Tm × Tm)), σ = [some v1, some v2, some (.ref d), some (.ref df), some (.ref l), vp] ∧
      m = (2000 - q.length) * (100000 * bigZ + 1) + sumS q st ∧ Same H H' ∧ PAt K H' df q ∧ H' l = some (.lst sv.reverse) ∧ F2 (It K H') sv st ∧ OKs Pp q ∧ Ext p q ∧ (∀ c ∈ st, Pp c.2.1 ∧ Pp c.2.2) ∧ StC Pp q 80041 st ∧
      ∀ v, (Sol (look q) v ∧ ∀ c ∈ st, ap v c.2.1 = ap v c.2.2) ↔ (Sol (look p) v ∧ ap v t0 = ap v s0)
    refine ⟨W, ⟨_, v0, u0, none, p, [.ref e1], [(0, t0, s0)], rfl, rfl, z4, ⟨kvs, hdf1, pr1⟩, hl1, ⟨it1, trivial⟩, hp, Ext.refl p, fun c hc => by rw [List.mem_singleton.mp hc]; exact ⟨ht, hs⟩, ⟨fun q' o x => ⟨deepB hU o ht, deepB hU o ht⟩, trivial⟩, fun v => by simp⟩, ?_⟩
    rintro m σ H' ⟨v1, v2, vp, q, sv, st, rfl, rfl, s1, hq, h2, h3, hOK, hext, h4, h5, h6⟩
    refine t_pos (ev_var rfl) h2 ?_
    cases st with
    | nil =>
      cases sv with
      | cons _ _ => exact h3.elim
      | nil =>
        refine iteF ⟨_, rfl, (by show 2 ≤ sizeLine; decide), fun a ha => ?_⟩
        refine k _ _ (some q) (s1.trans (same_new ha)) ⟨hOK, hext, fun v => ?_⟩ ⟨a, rfl, df, SqT.of upd_same, hq.same (same_new ha)⟩
        rw [← (show (Sol (look q) v ∧ ∀ c ∈ ([] : List (Nat × Tm × Tm)), ap v c.2.1 = ap v c.2.2) ↔ Sol (look q) v by simp), h6 v]
        simp
    | cons c st =>
      cases sv with
      | nil => exact h3.elim
      | cons vc sv =>
        obtain ⟨hc, h3⟩ := h3
        obtain ⟨h5, h7⟩ := h5
        obtain ⟨pl, t1, t2⟩ := c
        obtain ⟨P1, P2⟩ := h4 _ List.mem_cons_self
        have rest : ∀ y ∈ st, Pp y.2.1 ∧ Pp y.2.2 := fun y hy => h4 y (List.mem_cons_of_mem _ hy)
        have len5 := h5 q hOK (Ext.refl q)
        simp only at len5 P1 P2
        rw [rev_empty]
        refine iteT ⟨fun σ' H'' => ∃ m', m' < (2000 - q.length) * (100000 * bigZ + 1) + sumS q ((pl, t1, t2) :: st) ∧ W m' σ' H'', fun _ _ h => h, ?_⟩
        refine x_pop (ev_var rfl) h2 (rev_cons_last vc sv) ?_
        rw [rev_cons_drop]
        have sT : SameT H' (upd H' l (.lst sv.reverse)) := samT_lst h2
        have s2 : Same H (upd H' l (.lst sv.reverse)) := same_upd s1 hl0
        have h2' : upd H' l (.lst sv.reverse) l = some (.lst sv.reverse) := upd_same
        have hc' := hc.samT sT
        have h3' := h3.imp fun v c q => q.samT sT
        have hq' := hq.off (off_upd (o := .lst sv.reverse) h2)
        generalize upd H' l (.lst sv.reverse) = G at *
        obtain ⟨ep, pp, pv', w1, w2, rfl, i1, i2, i3, i4, i5⟩ := hc'
        simp only at i3 i4 i5
        refine ⟨ep, _, rfl, i1, rfl, _, _, rfl, _, _, rfl, _, _, rfl, rfl, ?_⟩
        refine ⟨_, rfl, _, rfl, w1, df, t1, q, rfl, i4, hq', fun x e => hOK.walk_free e, fun w1' j1 => ?_⟩
        refine ⟨_, rfl, _, rfl, w2, df, t2, q, rfl, i5, hq', fun x e => hOK.walk_free e, fun w2' j2 => ?_⟩
        have solE : ∀ v, Sol (look q) v → (ap v (walk q t1) = ap v t1 ∧ ap v (walk q t2) = ap v t2) := fun v hv => ⟨walk_sol hv t1, walk_sol hv t2⟩
        have sz1 := size_pos (rd q t1)
        have w_same : ∀ (G2 : Hp) (x1 x2 : V) (vp : Option V), Same G G2 → (∀ v, Sol (look q) v → ap v t1 = ap v t2) → ∃ m', m' < (2000 - q.length) * (100000 * bigZ + 1) + sumS q ((pl, t1, t2) :: st) ∧ W m' [some x1, some x2, some (.ref d), some (.ref df), some (.ref l), vp] G2 := by
          intro G2 x1 x2 vp s3 he
          refine ⟨_, ?_, x1, x2, vp, q, sv, st, rfl, rfl, s2.trans s3, hq'.same s3, s3 _ _ h2', h3'.imp fun v c q => q.samT (same_t s3), hOK, hext, rest, h7, fun v => ?_⟩
          · rw [sumS]
            simp only
            omega
          · rw [← h6 v]
            constructor
            · rintro ⟨a, b⟩
              exact ⟨a, fun c hc => by
                rcases List.mem_cons.mp hc with rfl | hc
                · exact he v a
                · exact b c hc⟩
            · rintro ⟨a, b⟩
              exact ⟨a, fun c hc => b c (List.mem_cons_of_mem _ hc)⟩
        have r_none : ∀ (G2 : Hp) (r : V), Same G G2 → (∀ v, Sol (look q) v → ap v t1 ≠ ap v t2) → MadeR K G2 r none → Q r G2 := by
          intro G2 r s3 he hm
          refine k G2 r none (s2.trans s3) ?_ hm
          intro v hv e
          obtain ⟨a, b⟩ := (h6 v).mpr ⟨hv, e (t0, s0) (List.mem_singleton.mpr rfl)⟩
          exact he v a (b _ List.mem_cons_self)
        refine swap_if j1 j2 rfl rfl (fun u1 u2 a b k1 k2 kk sw => ?_)
        have frW1 : ∀ y, walk q t1 = .any y → look q y = none := fun y e => hOK.walk_free e
        have frW2 : ∀ y, walk q t2 = .any y → look q y = none := fun y e => hOK.walk_free e
        have PW1 := hOK.walk_P P1
        have PW2 := hOK.walk_P P2
        have facts : (∀ y, a = .any y → look q y = none) ∧ (∀ y, b = .any y → look q y = none) ∧ Pp a ∧ Pp b ∧ (∀ v, Sol (look q) v → (ap v t1 = ap v t2 ↔ ap v a = ap v b)) ∧ (isAny a = false → a = walk q t1 ∧ b = walk q t2) := by
          rcases sw with ⟨_, _, rfl, rfl⟩ | ⟨e, _, _, _, rfl, rfl⟩
          · exact ⟨frW1, frW2, PW1, PW2, fun v hv => by rw [(solE v hv).1, (solE v hv).2], fun _ => ⟨rfl, rfl⟩⟩
          · exact ⟨frW2, frW1, PW2, PW1, fun v hv => by rw [(solE v hv).1, (solE v hv).2]; exact eq_comm, fun z => by rw [e] at z; exact nomatch z⟩
        obtain ⟨fa, fb, Pa, Pb, heq, un⟩ := facts
        have hpl : pv'.length ≤ 80041 := by omega
        refine t_any (ev_var rfl) k1 ?_
        have parts : ∀ {s' : Str} {ks : List Tm}, a = .app s' ks → isAny b = false → sameH a b = true → ∃ ls, b = .app s' ls ∧ ks.length = ls.length := by
          intro s' ks e eb es
          subst e
          cases b with
          | num _ => exact nomatch es
          | any _ => exact nomatch eb
          | app r ls =>
            simp only [sameH, Bool.and_eq_true, decide_eq_true_eq] at es
            exact ⟨ls, by rw [es.1], es.2⟩
        have diff : isAny a = false → isAny b = false → sameH a b = false → ∀ v, Sol (look q) v → ap v t1 ≠ ap v t2 := by
          intro ea eb es v hv e
          have e := (heq v hv).mp e
          cases a with
          | any _ => exact nomatch ea
          | num i =>
            cases b with
            | any _ => exact nomatch eb
            | num j =>
              rw [ap, ap] at e
              injection e with e
              simp only [sameH, e, decide_true] at es
              exact nomatch es
            | app _ _ => rw [ap, ap] at e; exact nomatch e
          | app r ks =>
            cases b with
            | any _ => exact nomatch eb
            | num j => rw [ap, ap] at e; exact nomatch e
            | app r' ls =>
              rw [ap, ap] at e
              injection e with e1 e2
              have e3 := congrArg List.length e2
              rw [apL_length, apL_length] at e3
              simp only [sameH, e1, e3, decide_true, Bool.and_self] at es
              exact nomatch es
        cases a with
        | any x =>
          have fx := fa x rfl
          refine iteT ?_
          by_cases e : Tm.any x = b
          · have eN : (!decide (Tm.any x = b)) = false := by rw [decide_eq_true e]; rfl
            refine t_neT (ev_var rfl) (ev_var rfl) k1 k2 (by show min 1 _ ≤ 95; omega) ?_
            rw [eN]
            refine iteF (iteF ?_)
            refine t_neT (ev_var rfl) (ev_var rfl) k1 k2 (by show min 1 _ ≤ 95; omega) ?_
            rw [eN]
            refine iteF ?_
            exact w_same G u1 u2 _ (Same.refl _) fun v hv => (heq v hv).mpr (by rw [e])
          · have eN : (!decide (Tm.any x = b)) = true := by rw [decide_eq_false e]; rfl
            refine t_neT (ev_var rfl) (ev_var rfl) k1 k2 (by show min 1 _ ≤ 95; omega) ?_
            rw [eN]
            refine iteT ?_
            refine x_any (ev_var rfl) k1 _ ⟨_, rfl, _, rfl, x, u2, df, b, q, n, nb, rfl, k2, hq', hOK, Pb, Nat.le_trans (deepB hU hOK Pb) (by decide), fun H2 s3 => ⟨_, rfl, ?_⟩⟩
            refine ite2 (fun hr => ?_) (fun hr => ?_)
            · have hr := of_decide_eq_true hr
              refine ⟨_, rfl, x_any (ev_var rfl) (k1.same s3) _ ⟨(by show 3 ≤ sizeLine; decide), fun a ha => ?_⟩⟩
              exact r_none _ _ (s3.trans (same_new ha)) (fun v hv q1 => no_ring hOK fb e hr hv ((heq v hv).mp q1)) ⟨a, rfl, _, _, _, SqT.of upd_same, by decide +kernel⟩
            · have hr := of_decide_eq_false (Bool.eq_false_iff.mpr hr)
              refine t_neT (ev_var rfl) (ev_var rfl) (k1.same s3) (k2.same s3) (by show min 1 _ ≤ 95; omega) ?_
              rw [eN]
              refine iteT ?_
              obtain ⟨kv2, e2, pr2⟩ := hq'.same s3
              have lq := lenB hU hOK
              refine ⟨_, rfl, _, rfl, x_any (ev_var rfl) (k1.same s3) _ ⟨df, _, rfl, DPut.k (k := Sum.inr x) e2 (by rw [pr2.len]; omega), ?_⟩⟩
              rw [putK_new _ (pr2.none fx)]
              have sT2 : SameT H2 (upd H2 df (.dK (kv2 ++ [(Sum.inr x, u2)]))) := samT_dk e2
              have ok2 := hOK.snoc fx hr Pb Pa
              have l2 := lenB hU ok2
              rw [List.length_append, List.length_singleton] at l2
              refine ⟨_, ?_, u1, u2, _, q ++ [(x, b)], sv, st, rfl, rfl, same_upd (s2.trans s3) hdf, ⟨_, upd_same, (pr2.snoc (k2.same s3)).samT sT2⟩, upd_at (s3 _ _ h2') nld.symm, h3'.imp fun v c q => q.samT ((same_t s3).trans sT2), ok2, hext.trans (Ext.snoc fx), rest, h7.ext (Ext.snoc fx), fun v => ?_⟩
              · have b1 := sumS_le (d := 41) ok2 hU (st := st) fun c hc => (rest c hc).1
                have b2 : st.length * bigZ ≤ 100000 * bigZ := Nat.mul_le_mul_right _ (by omega)
                obtain ⟨j, hj⟩ : ∃ j, 2000 - q.length = j + 1 := ⟨2000 - q.length - 1, by omega⟩
                have hj2 : 2000 - (q ++ [(x, b)]).length = j := by rw [List.length_append, List.length_singleton]; omega
                have hs : (j + 1) * (100000 * bigZ + 1) = j * (100000 * bigZ + 1) + (100000 * bigZ + 1) := Nat.succ_mul j _
                rw [hj, hj2, hs]
                generalize j * (100000 * bigZ + 1) = y1 at *
                generalize 100000 * bigZ = y2 at *
                generalize st.length * bigZ = y3 at *
                omega
              · rw [← h6 v, bind_sol fx v]
                constructor
                · rintro ⟨⟨a1, a2⟩, a3⟩
                  exact ⟨a1, fun c hc => by
                    rcases List.mem_cons.mp hc with rfl | hc
                    · exact (heq v a1).mpr a2
                    · exact a3 c hc⟩
                · rintro ⟨a1, a2⟩
                  exact ⟨⟨a1, (heq v a1).mp (a2 _ List.mem_cons_self)⟩, fun c hc => a2 c (List.mem_cons_of_mem _ hc)⟩
        | num i =>
          have eb : isAny b = false := kk.resolve_left (fun z => nomatch z)
          refine iteF ?_
          refine ⟨_, rfl, u1, _, rfl, k1, rfl, fun H2 hd1 s3 hh1 => ⟨_, rfl, u2, b, rfl, k2.same s3, eb, fun H3 hd2 s4 hh2 => ?_⟩⟩
          refine ⟨_, _, (hh1.same s4).dp, hh2.dp, pdH_plain _, pdH_plain _, Nat.le_trans (Nat.min_le_left _ _) (Nat.le_trans (pdH_depth _) (by decide)), _, rfl, ?_⟩
          rw [pdH_eqv]
          have s5 := s3.trans s4
          cases es : sameH (.num i) b with
          | false =>
            refine iteT ⟨_, rfl, _, rfl, u1, _, rfl, k1.same s5, rfl, fun H4 hd3 s6 hh3 => ⟨_, rfl, u2, b, rfl, k2.same (s5.trans s6), eb, fun H5 hd4 s7 hh4 => ⟨(by show 4 ≤ sizeLine; decide), fun a ha => ?_⟩⟩⟩
            exact r_none _ _ ((s5.trans (s6.trans s7)).trans (same_new ha)) (diff rfl eb es) ⟨a, rfl, _, _, _, SqT.of upd_same, by decide +kernel⟩
          | true =>
            refine iteF ?_
            refine t_app (ev_var rfl) (k1.same s5) (iteF ?_)
            refine w_same H3 u1 u2 _ s5 fun v hv => (heq v hv).mpr ?_
            cases b with
            | any _ => exact nomatch eb
            | app _ _ => exact nomatch es
            | num j =>
              have := of_decide_eq_true (show decide (i = j) = true from es)
              rw [this]
        | app s' ks =>
          have eb : isAny b = false := kk.resolve_left (fun z => nomatch z)
          refine iteF ?_
          refine ⟨_, rfl, u1, _, rfl, k1, rfl, fun H2 hd1 s3 hh1 => ⟨_, rfl, u2, b, rfl, k2.same s3, eb, fun H3 hd2 s4 hh2 => ?_⟩⟩
          refine ⟨_, _, (hh1.same s4).dp, hh2.dp, pdH_plain _, pdH_plain _, Nat.le_trans (Nat.min_le_left _ _) (Nat.le_trans (pdH_depth _) (by decide)), _, rfl, ?_⟩
          rw [pdH_eqv]
          have s5 := s3.trans s4
          cases es : sameH (.app s' ks) b with
          | false =>
            refine iteT ⟨_, rfl, _, rfl, u1, _, rfl, k1.same s5, rfl, fun H4 hd3 s6 hh3 => ⟨_, rfl, u2, b, rfl, k2.same (s5.trans s6), eb, fun H5 hd4 s7 hh4 => ⟨(by show 4 ≤ sizeLine; decide), fun a ha => ?_⟩⟩⟩
            exact r_none _ _ ((s5.trans (s6.trans s7)).trans (same_new ha)) (diff rfl eb es) ⟨a, rfl, _, _, _, SqT.of upd_same, by decide +kernel⟩
          | true =>
            refine iteF ?_
            refine t_app (ev_var rfl) (k1.same s5) (iteT ?_)
            obtain ⟨ls, rfl, hl2⟩ := parts rfl eb es
            obtain ⟨un1, un2⟩ := un rfl
            have arK := Pa.ar.1
            have h2'' := s5 _ _ h2'
            refine ⟨_, rfl, .inl ⟨rfl, _, SqL.of h2''⟩, _, rfl, _, rfl, _, rfl, pp, pv', u1, u2, s', ks, s', ls, rfl, same_sqt s5 i2, by omega, k1.same s5, k2.same s5, hl2, by omega, fun H4 p4 rows s6 hp4 hp4' hrows => ?_⟩
            have h2b := s6 _ _ h2''
            have nlp : l ≠ p4 := ne_of_none h2'' hp4
            have fl := hrows.len
            have rl : rows.length = ks.length := by
              rw [List.length_reverse, List.length_map, List.length_zip, ← hl2, Nat.min_self] at fl
              exact fl
            have ls' := h3'.len
            refine ⟨l, p4, sv.reverse, rows, rfl, rfl, h2b, hp4', by rw [List.length_reverse]; omega, ?_⟩
            have sT3 : SameT H4 (upd H4 l (.lst (sv.reverse ++ rows))) := samT_lst h2b
            have sT4 : SameT G (upd H4 l (.lst (sv.reverse ++ rows))) := (same_t (s5.trans s6)).trans sT3
            have pq : PAt K (upd H4 l (.lst (sv.reverse ++ rows))) df q := (hq'.same (s5.trans s6)).off (off_upd h2b)
            have er : sv.reverse ++ rows = (rows.reverse ++ sv).reverse := by rw [List.reverse_append, List.reverse_reverse]
            rw [er] at sT3 sT4 pq ⊢
            have rk : rd q t1 = .app s' (ks.map (rd q)) := by
              have := rd_walk hOK (t := t1)
              rw [← un1] at this
              exact this
            refine ⟨_, ?_, u1, u2, _, q, rows.reverse ++ sv, ((ks.zip ls).map fun c => (pv'.length + 1, c.1, c.2)) ++ st, rfl, rfl, same_upd (s2.trans (s5.trans s6)) hl0, pq, upd_same, (hrows.imp fun v c q => q.samT sT3).app (h3'.imp fun v c q => q.samT sT4), hOK, hext, fun c hc => ?_, h7.push ?_ (fun c hc q' o x => ?_), fun v => ?_⟩
            · rw [sumS_append, sumS_zip q _ hl2, sumS]
              simp only
              rw [rk, Tm.size]
              omega
            · rcases List.mem_append.mp hc with hc | hc
              · obtain ⟨y, hy, e⟩ := List.mem_map.mp hc
                rw [← e]
                exact ⟨PT.kids _ _ Pa _ (List.of_mem_zip hy).1, PT.kids _ _ Pb _ (List.of_mem_zip hy).2⟩
              · exact rest c hc
            · rw [List.length_map, List.length_zip, ← hl2, Nat.min_self]
              exact arK
            · obtain ⟨y, hy, e⟩ := List.mem_map.mp hc
              rw [← e]
              have dd := h5 q' o x
              simp only at dd
              have w1 : rd q' (walk q t1) = rd q' t1 := walk_sol (x.sol o.fix.sol) t1
              have w2 := dep_mem (s := s') (v := rdv q') (List.of_mem_zip hy).1
              have w3 : ap (rdv q') (.app s' ks) = rd q' t1 := by rw [← w1, ← un1]; rfl
              rw [w3] at w2
              have w4 : (rd q' y.1).dep + 1 ≤ (rd q' t1).dep := w2
              simp only
              omega
            · rw [← h6 v]
              have zz : ∀ v, Sol (look q) v → ((∀ c ∈ ks.zip ls, ap v c.1 = ap v c.2) ↔ ap v t1 = ap v t2) := fun v hv => by
                rw [heq v hv, ap, ap, zip_eq hl2]
                simp
              constructor
              · rintro ⟨a1, a2⟩
                refine ⟨a1, fun c hc => ?_⟩
                rcases List.mem_cons.mp hc with rfl | hc
                · exact (zz v a1).mp fun c hc => a2 (pv'.length + 1, c.1, c.2) (List.mem_append_left _ (List.mem_map.mpr ⟨c, hc, rfl⟩))
                · exact a2 c (List.mem_append_right _ hc)
              · rintro ⟨a1, a2⟩
                refine ⟨a1, fun c hc => ?_⟩
                rcases List.mem_append.mp hc with hc | hc
                · obtain ⟨y, hy, e⟩ := List.mem_map.mp hc
                  rw [← e]
                  exact (zz v a1).mpr (a2 _ List.mem_cons_self) y hy
                · exact a2 c (List.mem_cons_of_mem _ hc)
end
end Gt
set_option Elab.async false
set_option linter.all false
set_option maxRecDepth 100000
set_option maxHeartbeats 4000000
/-! The law's own making one, reading. -/
namespace Gt
open PySem L2
def spHolds (K : PySem.W.Frag) (b : Nat) : Sp := fun vs H Q _ => ∃ x v d t p n nb, vs = [.str x, v, .ref d] ∧ Tr K H v t ∧ PAt K H d p ∧ OKs (PT 41 nb n) p ∧ PT 41 nb n t ∧ (rd p t).dep ≤ b ∧ ∀ H', Same H H' → Q (.bl (decide (x ∈ (rd p t).vars))) H'
/-- puttings-in or None -/
def PO (K : PySem.W.Frag) (H : Hp) (v : V) : Option Puts → Prop
  | none => v = .non
  | some p => ∃ d, v = .ref d ∧ PAt K H d p
theorem PO.same {K : PySem.W.Frag} {H H' : Hp} (s : Same H H') {v : V} : ∀ {o : Option Puts}, PO K H v o → PO K H' v o
  | none, h => h
  | some _, ⟨d, e, h⟩ => ⟨d, e, h.same s⟩
def uniO (b : Nat) (t s : Tm) : Option Puts → Option Puts
  | none => none
  | some p => uni b t s p
def spOne (K : PySem.W.Frag) (b : Nat) : Sp := fun vs H Q _ => ∃ v u po t s o n nb, ∃ dd : Nat, vs = [v, u, po] ∧ Tr K H v t ∧ Tr K H u s ∧ PO K H po o ∧ (∀ p, o = some p → OKs (PT dd nb n) p ∧ PT dd nb n t ∧ PT dd nb n s ∧ Deep (PT dd nb n) p b t ∧ Deep (PT dd nb n) p b s ∧ nb.length * (n + 1) ≤ 2000 ∧ dd ≤ 41) ∧
  ∀ H' r, Same H H' → PO K H' r (uniO b t s o) → Q r H'
theorem foldO_snoc (f : Tm → Tm → Puts → Option Puts) (c : Tm × Tm) : ∀ (l : List (Tm × Tm)) (o : Option Puts), foldO f (l ++ [c]) o = match foldO f l o with | none => none | some q => f c.1 c.2 q
  | [], none => rfl
  | [], some q => by
    show foldO f [] (f c.1 c.2 q) = f c.1 c.2 q
    rfl
  | d :: l, none => by rw [List.cons_append, foldO, foldO, foldO_snoc f c l none]
  | d :: l, some q => by rw [List.cons_append, foldO, foldO, foldO_snoc f c l _]
/-- what is met, by the two terms as they stand behind the swap -/
def meetW (p : Puts) : Tm → Tm → Met
  | .any x, d => if Tm.any x = d then .same else if x ∈ (rd p d).vars then .ring else .put x d
  | .num k, .num l => if k = l then .same else .part
  | .app s ks, .app s' ls => if s = s' ∧ ks.length = ls.length then .kids (ks.zip ls) else .part
  | .num _, .app _ _ => .part
  | .app _ _, .num _ => .part
  | .num _, .any _ => .part
  | .app _ _, .any _ => .part
theorem meet_W {p : Puts} {t s a b : Tm} (kk : isAny a = true ∨ isAny b = false) (sw : (a = walk p t ∧ b = walk p s) ∨ (isAny a = true ∧ isAny (walk p t) = false ∧ a = walk p s ∧ b = walk p t)) : meet p t s = meetW p a b := by
  unfold meet
  rcases sw with ⟨e1, e2⟩ | ⟨ea, ec, e1, e2⟩
  · rw [← e1, ← e2]
    cases a with
    | any x => rfl
    | num k =>
      cases b with
      | any x => exact nomatch kk.resolve_left (fun z => nomatch z)
      | num l => rfl
      | app _ _ => rfl
    | app r ks =>
      cases b with
      | any x => exact nomatch kk.resolve_left (fun z => nomatch z)
      | num l => rfl
      | app _ _ => rfl
  · rw [← e1, ← e2]
    rw [← e2] at ec
    cases a with
    | num _ => exact nomatch ea
    | app _ _ => exact nomatch ea
    | any x =>
      cases b with
      | any y => exact nomatch ec
      | num k =>
        show _ = if Tm.any x = Tm.num k then Met.same else if x ∈ (rd p (.num k)).vars then Met.ring else Met.put x (.num k)
        rw [if_neg (show ¬ Tm.any x = Tm.num k from fun z => nomatch z)]
      | app r ks =>
        show _ = if Tm.any x = Tm.app r ks then Met.same else if x ∈ (rd p (.app r ks)).vars then Met.ring else Met.put x (.app r ks)
        rw [if_neg (show ¬ Tm.any x = Tm.app r ks from fun z => nomatch z)]
section
variable {P : Program} {w : World} {K : PySem.W.Frag} {mg : Str → Option Value} {base : Heap} {CX : CXT}
theorem inV_true (bs : List Bool) : inV (V.bl true) (bs.map V.bl) = bs.any id := by
  unfold inV
  rw [List.any_map]
  congr 1
  funext b
  cases b <;> decide
theorem ok_law_holds (T : Txt K mg) : ∀ b : Nat, FnOk P w K mg base CX0 (b + 1) T.d_law_holds.f T.d_law_holds.fd ["_law_name", "_law_term", "_law_puts"] (spHolds K b)
  | 0 => fnok_void (fun vs H Q E ⟨x, v, d, t, p, n, nb, _, _, _, _, _, hd, _⟩ => by have := dep_pos (rd p t); omega)
  | b + 1 => by
    have G_law_holds := ok_law_holds T b
    have G_law_walk : FnOk P w K mg base CX0 1 T.d_law_walk.f T.d_law_walk.fd ["_law_term", "_law_puts"] (spWalked K) := ok_law_walk T
    refine T.d_law_holds.F.ok sc_law_holds (fun vs H Q E h => ?_) (fun cdv A outer s H vs Q E hr h => ?_)
    · obtain ⟨x, v, d, t, p, n, nb, rfl, _⟩ := h
      rfl
    · obtain ⟨x, v, d, t, p, n, nb, rfl, hv, hd, hp, ht, hb, k⟩ := h
      refine ⟨_, (pss_cons (ps_set (i := 1) sc_law_holds.nd rfl (Or.inl rfl) (pe_call G_law_walk (hr.mono (by omega)) rfl T.d_law_walk.m T.d_law_walk.k T.d_law_walk.b .nil pass0 (pa_cons (pv 1) (pa_cons (pv 2) pa_nil))))
          (pss_cons (ps_if (pt_cmpR op_ne (pe_ix ix_tup (pv 1) pe_int (fun _ _ => rfl)) pe_str (nomark _)) (pss_one (ps_ret (pe_cmpR (op_eqT (hu_of2 hr)) (pv 1) (pe_tup (pa_cons pe_str (pa_cons (pv 0) pa_nil))) (nomark _)))) pss_nil)
          (pss_one (ps_ret (pe_cmpR (op_in_seq) pe_bl (pe_lc (own := [("_law_kid", 3)]) (g := gName 3) rfl sc_law_holds.nd (pi_tup (pe_ix ix_tup (pv 1) pe_int (fun _ _ => rfl))) (blkOk_by (own := [("_law_kid", 3)]) (N := ["_law_name", "_law_term", "_law_puts", "_law_kid"]) (sc := defScope s_law_holds) (by decide +kernel)) (fun _ _ _ _ _ => (pg_name (i := 3) sc_law_holds.nd rfl (Or.inl rfl))) (fun _ _ _ _ _ => pts_nil) (fun _ _ _ _ _ => (pe_call G_law_holds (hr.mono (by omega)) rfl T.d_law_holds.m T.d_law_holds.k T.d_law_holds.b .nil pass0 (pa_cons (pv 0) (pa_cons (pv 3) (pa_cons (pv 2) pa_nil)))))) (by rfl)))))), ?_⟩
      refine ⟨_, rfl, _, rfl, v, d, t, p, rfl, hv, hd, fun x e => hp.walk_free e, fun v2 hv2 => ?_⟩
      have hr' := rd_walk hp (t := t)
      have hPw := hp.walk_P ht
      refine t_napp (ev_var rfl) hv2 ?_
      cases hw : walk p t with
      | num i =>
        rw [hw] at hr' hv2
        refine iteT ⟨_, rfl, _, rfl, (by show 2 ≤ sizeLine; decide), fun a ha => ?_⟩
        have s1 := same_new (o := .tup [.str "any", .str x]) ha
        refine ⟨_, _, (hv2.same s1).dp, (Tr.mk_any (K := K) (x := x) upd_same).dp, pd_plain _, pd_plain _, ?_, ?_⟩
        · have := pd_depth (.any x)
          simp only [Tm.dep] at this
          omega
        · rw [pd_eqv]
          have q := k _ s1
          rw [hr'] at q
          have e : decide (x ∈ (Tm.num i).vars) = decide (Tm.num i = Tm.any x) := by simp [Tm.vars]
          rw [e] at q
          exact q
      | any y =>
        rw [hw] at hr' hv2
        refine iteT ⟨_, rfl, _, rfl, (by show 2 ≤ sizeLine; decide), fun a ha => ?_⟩
        have s1 := same_new (o := .tup [.str "any", .str x]) ha
        refine ⟨_, _, (hv2.same s1).dp, (Tr.mk_any (K := K) (x := x) upd_same).dp, pd_plain _, pd_plain _, ?_, ?_⟩
        · have := pd_depth (.any x)
          simp only [Tm.dep] at this
          omega
        · rw [pd_eqv]
          have q := k _ s1
          rw [hr'] at q
          have e : decide (x ∈ (Tm.any y).vars) = decide (Tm.any y = Tm.any x) := by
            rw [Bool.eq_iff_iff]
            simp [Tm.vars, eq_comm]
          rw [e] at q
          exact q
      | app s' ks =>
        rw [hw] at hr' hv2 hPw
        refine iteF ?_
        obtain ⟨q1, q2, vs, rfl, e1, e2, e3⟩ := id hv2
        have hdep : ∀ x ∈ ks, (rd p x).dep ≤ b := fun x hx => by
          have h1 := dep_mem (s := s') (ks := ks) (v := rdv p) hx
          have h2 : ap (rdv p) (.app s' ks) = rd p t := by rw [hr', ap, apL_map]; rfl
          rw [h2] at h1
          have h3 : (rd p x).dep + 1 ≤ (rd p t).dep := h1
          omega
        refine x_tup (ev_var rfl) e1 rfl _ ?_
        refine ⟨q2, rfl, ⟨vs, e2⟩, fun D hD => ?_⟩
        refine lc_mapT (as := ks) (In := Tr K) (Out := fun _ v c => v = V.bl c) (φ := fun y => decide (x ∈ (rd p y).vars)) hD e2 e3.f2 (by have := hPw.ar.1; omega) (fun s h => h.same s) (fun o h => h) (fun v y H1 R hx s1 hin kk => ?_) (fun H1 ws s1 h1 h2 => ?_)
        · exact ⟨_, rfl, _, rfl, _, rfl, x, v, d, y, p, n, nb, rfl, hin, hd.same s1, hp, PT.kids _ _ hPw y hx, hdep y hx, fun H2 s2 => kk _ _ s2 rfl⟩
        · have ew : ws = (ks.map fun y => decide (x ∈ (rd p y).vars)).map V.bl := by
            have : ∀ (ws : List V) (bs : List Bool), F2 (fun v c => v = V.bl c) ws bs → ws = bs.map V.bl := by
              intro ws
              induction ws with
              | nil => intro bs h; cases bs with
                | nil => rfl
                | cons _ _ => exact h.elim
              | cons v ws ih => intro bs h; cases bs with
                | nil => exact h.elim
                | cons b bs => rw [h.1, ih bs h.2]; rfl
            exact this _ _ h2
          refine ⟨D, ws, rfl, .inl (SqL.of h1), rfl, ?_, ?_⟩
          · rw [ew, List.all_map]
            exact List.all_eq_true.mpr fun _ _ => rfl
          · have q := k _ s1
            have e : decide (x ∈ (rd p t).vars) = inV (V.bl true) ws := by
              rw [ew, inV_true, hr', Bool.eq_iff_iff]
              simp only [decide_eq_true_eq, List.any_eq_true, List.mem_map, id]
              rw [Tm.vars, varsL_mem]
              constructor
              · rintro ⟨z, hz, hx⟩
                obtain ⟨y, hy, rfl⟩ := List.mem_map.mp hz
                exact ⟨_, ⟨y, hy, rfl⟩, decide_eq_true hx⟩
              · rintro ⟨z, ⟨y, hy, rfl⟩, hx⟩
                exact ⟨_, List.mem_map.mpr ⟨y, hy, rfl⟩, of_decide_eq_true hx⟩
            rw [e] at q
            exact q
theorem ok_law_read (T : Txt K mg) : ∀ b : Nat, FnOk P w K mg base CX0 (b + 1) T.d_law_read.f T.d_law_read.fd ["_law_term", "_law_puts"] (spPutIn K b)
  | 0 => fnok_void (fun vs H Q E ⟨v, d, t, p, n, nb, _, _, _, _, _, hd, _⟩ => by have := dep_pos (rd p t); omega)
  | b + 1 => by
    have G_law_read := ok_law_read T b
    have G_law_walk : FnOk P w K mg base CX0 1 T.d_law_walk.f T.d_law_walk.fd ["_law_term", "_law_puts"] (spWalked K) := ok_law_walk T
    refine T.d_law_read.F.ok sc_law_read (fun vs H Q E h => ?_) (fun cdv A outer s H vs Q E hr h => ?_)
    · obtain ⟨v, d, t, p, n, nb, rfl, _⟩ := h
      rfl
    · obtain ⟨v, d, t, p, n, nb, rfl, hv, hd, hp, ht, hb, k⟩ := h
      refine ⟨_, (pss_cons (ps_set (i := 0) sc_law_read.nd rfl (Or.inl rfl) (pe_call G_law_walk (hr.mono (by omega)) rfl T.d_law_walk.m T.d_law_walk.k T.d_law_walk.b .nil pass0 (pa_cons (pv 0) (pa_cons (pv 1) pa_nil))))
          (pss_cons (ps_if (pt_cmpR op_eq (pe_ix ix_tup (pv 0) pe_int (fun _ _ => rfl)) pe_str (nomark _)) (pss_one (ps_ret (pe_tup (pa_cons pe_str (pa_cons (pe_ix ix_tup (pv 0) pe_int (fun _ _ => rfl)) (pa_cons (pe_callTy call_tuple_of (by rfl) T.tuple (by decide +kernel) (pa_cons (pe_lc (own := [("_law_kid", 2)]) (g := gName 2) rfl sc_law_read.nd (pi_tup (pe_ix ix_tup (pv 0) pe_int (fun _ _ => rfl))) (blkOk_by (own := [("_law_kid", 2)]) (N := ["_law_term", "_law_puts", "_law_kid"]) (sc := defScope s_law_read) (by decide +kernel)) (fun _ _ _ _ _ => (pg_name (i := 2) sc_law_read.nd rfl (Or.inl rfl))) (fun _ _ _ _ _ => pts_nil) (fun _ _ _ _ _ => (pe_call G_law_read (hr.mono (by omega)) rfl T.d_law_read.m T.d_law_read.k T.d_law_read.b .nil pass0 (pa_cons (pv 2) (pa_cons (pv 1) pa_nil))))) pa_nil)) pa_nil)))))) pss_nil)
          (pss_one (ps_ret (pv 0))))), ?_⟩
      refine ⟨_, rfl, _, rfl, v, d, t, p, rfl, hv, hd, fun x e => hp.walk_free e, fun v2 hv2 => ?_⟩
      have hr' := rd_walk hp (t := t)
      have hPw := hp.walk_P ht
      refine t_app (ev_var rfl) hv2 ?_
      cases hw : walk p t with
      | num i =>
        rw [hw] at hr' hv2
        exact iteF ⟨_, rfl, k _ _ (Same.refl _) (by rw [hr']; exact hv2)⟩
      | any i =>
        rw [hw] at hr' hv2
        exact iteF ⟨_, rfl, k _ _ (Same.refl _) (by rw [hr']; exact hv2)⟩
      | app s' ks =>
        rw [hw] at hr' hv2 hPw
        refine iteT ?_
        refine x_sgn (ev_var rfl) hv2 _ ?_
        obtain ⟨q1, q2, vs, rfl, e1, e2, e3⟩ := id hv2
        have hdep : ∀ x ∈ ks, (rd p x).dep ≤ b := fun x hx => by
          have h1 := dep_mem (s := s') (ks := ks) (v := rdv p) hx
          have h2 : ap (rdv p) (.app s' ks) = rd p t := by rw [hr', ap, apL_map]; rfl
          rw [h2] at h1
          have h3 : (rd p x).dep + 1 ≤ (rd p t).dep := h1
          omega
        refine x_tup (ev_var rfl) e1 rfl _ ?_
        refine ⟨q2, rfl, ⟨vs, e2⟩, fun D hD => ?_⟩
        refine lc_mapT (as := ks) (In := Tr K) (Out := Tr K) (φ := rd p) hD e2 e3.f2 (by have := hPw.ar.1; omega) (fun s h => h.same s) (fun o h => h.samT o.t) (fun v x H1 R hx s1 hin kk => ?_) (fun H1 ws s1 h1 h2 => ?_)
        · exact ⟨_, rfl, _, rfl, v, d, x, p, n, nb, rfl, hin, hd.same s1, hp, PT.kids _ _ hPw x hx, hdep x hx, kk⟩
        · refine ⟨D, ws, rfl, .inl ⟨SqL.of h1, fun q hq => ⟨(by show 3 ≤ sizeLine; decide), fun a ha => ?_⟩⟩⟩
          have s2 := same_new (o := .tup ws) hq
          have s3 := same_new (o := .tup [.str "app", .str s', .ref q]) ha
          refine k _ _ (s1.trans (s2.trans s3)) ?_
          rw [hr']
          exact Tr.mk_app upd_same (SqT.of (s3 _ _ upd_same)) (h2.imp fun v t h => h.same (s2.trans s3))
end
end Gt
set_option Elab.async false
set_option linter.all false
set_option maxRecDepth 100000
set_option maxHeartbeats 4000000
/-! The law's own making one. -/
namespace Gt
open PySem L2 RZ
def spX (K : PySem.W.Frag) : Nat → Sp
  | 0 => fun _ _ _ _ => False
  | b + 1 => spOne K b
theorem v_ref_non (d : Addr) : decide (V.ref d = V.non) = false := decide_eq_false (fun z => nomatch z)
theorem v_non_non : decide (V.non = V.non) = true := decide_eq_true rfl
theorem v_str (a b : Str) : decide (V.str a = V.str b) = decide (a = b) := by rw [Bool.eq_iff_iff]; simp
theorem v_nat (a b : Nat) : decide (V.int (a : Nat) = V.int (b : Nat)) = decide (a = b) := by rw [Bool.eq_iff_iff]; simp; omega
section
variable {P : Program} {w : World} {K : PySem.W.Frag} {mg : Str → Option Value} {base : Heap} {CX : CXT}
theorem one_step (T : Txt K mg) (b : Nat) (G_law_one : FnOk P w K mg base CX0 (b + 1) T.d_law_one.f T.d_law_one.fd ["_law_one_here", "_law_other", "_law_puts"] (spX K b)) :
    FnOk P w K mg base CX0 (b + 2) T.d_law_one.f T.d_law_one.fd ["_law_one_here", "_law_other", "_law_puts"] (spOne K b) := by
  have G_law_holds : FnOk P w K mg base CX0 (b + 1) T.d_law_holds.f T.d_law_holds.fd ["_law_name", "_law_term", "_law_puts"] (spHolds K b) := ok_law_holds T b
  have G_law_walk : FnOk P w K mg base CX0 1 T.d_law_walk.f T.d_law_walk.fd ["_law_term", "_law_puts"] (spWalked K) := ok_law_walk T
  refine T.d_law_one.F.ok sc_law_one (fun vs H Q E h => ?_) (fun cdv A outer s H vs Q E hr h => ?_)
  · obtain ⟨v, u, po, t, s, o, n, nb, dd, rfl, _⟩ := h
    rfl
  · obtain ⟨v, u, po, t, s, o, n, nb, dd, rfl, hv, hu, hpo, hok, k⟩ := h
    refine ⟨_, (pss_cons (ps_if (pt_cmp (pc_isN (pv 2))) (pss_one (ps_ret pe_non)) pss_nil)
          (pss_cons (ps_set (i := 0) sc_law_one.nd rfl (Or.inl rfl) (pe_call G_law_walk (hr.mono (by omega)) rfl T.d_law_walk.m T.d_law_walk.k T.d_law_walk.b .nil pass0 (pa_cons (pv 0) (pa_cons (pv 2) pa_nil))))
          (pss_cons (ps_set (i := 1) sc_law_one.nd rfl (Or.inl rfl) (pe_call G_law_walk (hr.mono (by omega)) rfl T.d_law_walk.m T.d_law_walk.k T.d_law_walk.b .nil pass0 (pa_cons (pv 1) (pa_cons (pv 2) pa_nil))))
          (pss_cons (ps_if (PW.pt (pw_and (pt_cmpR op_ne (pe_ix ix_tup (pv 0) pe_int (fun _ _ => rfl)) pe_str (nomark _)) (pw_and1 (pt_cmpR op_eq (pe_ix ix_tup (pv 1) pe_int (fun _ _ => rfl)) pe_str (nomark _))))) (pss_one (ps_par (i := 0) (j := 1) (by rfl) sc_law_one.nd rfl rfl (by decide) rfl rfl (pa_cons (pv 1) (pa_cons (pv 0) pa_nil)) (by rfl))) pss_nil)
          (pss_cons (ps_if (pt_cmpR op_eq (pe_ix ix_tup (pv 0) pe_int (fun _ _ => rfl)) pe_str (nomark _)) (pss_cons (ps_if (pt_cmpR (op_eqT (hu_of2 hr)) (pv 0) (pv 1) (nomark _)) (pss_one (ps_ret (pv 2))) pss_nil)
          (pss_cons (ps_if (pt_val (pe_call G_law_holds (hr.mono (by omega)) rfl T.d_law_holds.m T.d_law_holds.k T.d_law_holds.b .nil pass0 (pa_cons (pe_ix ix_tup (pv 0) pe_int (fun _ _ => rfl)) (pa_cons (pv 1) (pa_cons (pv 2) pa_nil))))) (pss_one (ps_ret pe_non)) pss_nil)
          (pss_cons (ps_set (i := 3) sc_law_one.nd rfl (Or.inl rfl) (pe_callTy call_dictD (by rfl) T.dict (by decide +kernel) (pa_cons (pv 2) pa_nil)))
          (pss_cons (ps_dput (hu_of hr) (pv 3) (pe_ix ix_tup (pv 0) pe_int (fun _ _ => rfl)) (pv 1) rfl)
          (pss_one (ps_ret (pv 3))))))) pss_nil)
          (pss_cons (ps_if (PW.pt (pw_or (pt_cmpR op_eq (pe_ix ix_tup (pv 0) pe_int (fun _ _ => rfl)) pe_str (nomark _)) (pw_or1 (pt_cmpR op_eq (pe_ix ix_tup (pv 1) pe_int (fun _ _ => rfl)) pe_str (nomark _))))) (pss_cons (ps_if (pt_cmpR (op_eqT (hu_of2 hr)) (pv 0) (pv 1) (nomark _)) (pss_one (ps_ret (pv 2))) pss_nil)
          (pss_one (ps_ret pe_non))) pss_nil)
          (pss_cons (ps_if (PW.pt (pw_or (pt_cmpR op_ne (pe_ix ix_tup (pv 0) pe_int (fun _ _ => rfl)) (pe_ix ix_tup (pv 1) pe_int (fun _ _ => rfl)) (nomark _)) (pw_or1 (pt_cmpR op_ne (pe_callB call_len_seq (by rfl) T.len PySem.boot_len (pa_cons (pe_ix ix_tup (pv 0) pe_int (fun _ _ => rfl)) pa_nil)) (pe_callB call_len_seq (by rfl) T.len PySem.boot_len (pa_cons (pe_ix ix_tup (pv 1) pe_int (fun _ _ => rfl)) pa_nil)) (nomark _))))) (pss_one (ps_ret pe_non)) pss_nil)
          (pss_cons (ps_for PassesOwn.never rfl (pi_zipA (by rfl) T.zip (pa_cons (pe_ix ix_tup (pv 0) pe_int (fun _ _ => rfl)) (pa_cons (pe_ix ix_tup (pv 1) pe_int (fun _ _ => rfl)) pa_nil))) (pg_tup (by rfl) (pgs_cons (pg_name (i := 4) sc_law_one.nd rfl (Or.inl rfl)) (pgs_cons (pg_name (i := 5) sc_law_one.nd rfl (Or.inl rfl)) pgs_nil)))
          (pss_one (ps_set (i := 2) sc_law_one.nd rfl (Or.inl rfl) (pe_call G_law_one (hr.mono (by omega)) rfl T.d_law_one.m T.d_law_one.k T.d_law_one.b .nil pass0 (pa_cons (pv 4) (pa_cons (pv 5) (pa_cons (pv 2) pa_nil)))))))
          (pss_one (ps_ret (pv 2))))))))))), ?_⟩
    cases o with
    | none =>
      have e : po = .non := hpo
      subst e
      refine ⟨_, rfl, _, rfl, ?_⟩
      rw [v_non_non]
      exact iteT (k _ _ (Same.refl _) rfl)
    | some p =>
      obtain ⟨d, rfl, hd⟩ := hpo
      obtain ⟨hp, ht, hs, dt, ds, hU, hdd⟩ := hok p rfl
      have up : ∀ {t : Tm}, PT dd nb n t → PT 41 nb n t := fun q => q.mono hdd (Nat.le_refl _)
      have hp41 : OKs (PT 41 nb n) p := hp.mono fun t q => up q
      refine ⟨_, rfl, _, rfl, ?_⟩
      rw [v_ref_non]
      refine iteF ?_
      have dt0 := dt p hp (Ext.refl p)
      have ds0 := ds p hp (Ext.refl p)
      obtain ⟨b', rfl⟩ : ∃ b', b = b' + 1 := ⟨b - 1, by have := dep_pos (rd p t); omega⟩
      refine ⟨_, rfl, _, rfl, v, d, t, p, rfl, hv, hd, fun x e => hp.walk_free e, fun w1 j1 => ?_⟩
      refine ⟨_, rfl, _, rfl, u, d, s, p, rfl, hu, hd, fun x e => hp.walk_free e, fun w2 j2 => ?_⟩
      refine swap_if j1 j2 rfl rfl (fun u1 u2 a c k1 k2 kk sw => ?_)
      have PW1 := hp.walk_P ht
      have PW2 := hp.walk_P hs
      have facts : meet p t s = meetW p a c ∧ (∀ y, a = .any y → look p y = none) ∧ PT dd nb n a ∧ PT dd nb n c ∧ (rd p c).dep ≤ b' + 1 ∧ (isAny a = false → a = walk p t ∧ c = walk p s) := by
        rcases sw with ⟨_, _, rfl, rfl⟩ | ⟨e, e', _, _, rfl, rfl⟩
        · exact ⟨meet_W kk (.inl ⟨rfl, rfl⟩), fun y e => hp.walk_free e, PW1, PW2, by rw [hp.walk_rd]; exact ds0, fun _ => ⟨rfl, rfl⟩⟩
        · exact ⟨meet_W kk (.inr ⟨e, e', rfl, rfl⟩), fun y e => hp.walk_free e, PW2, PW1, by rw [hp.walk_rd]; exact dt0, fun z => by rw [e] at z; exact nomatch z⟩
      obtain ⟨mW, fa, Pa, Pc, dc, un⟩ := facts
      have res : ∀ H' r, Same H H' → PO K H' r (match meetW p a c with
        | .same => some p
        | .ring => none
        | .part => none
        | .put x t => some (p ++ [(x, t)])
        | .kids l => foldO (uni b') l (some p)) → Q r H' := fun H' r s1 h => k H' r s1 (by rw [← mW] at h; exact h)
      have hpo : PO K H (.ref d) (some p) := ⟨d, rfl, hd⟩
      refine t_any (ev_var rfl) k1 ?_
      cases a with
      | any x =>
        have fx := fa x rfl
        refine iteT ?_
        refine t_eqT (ev_var rfl) (ev_var rfl) k1 k2 (by show min 1 _ ≤ 95; omega) ?_
        by_cases e : Tm.any x = c
        · rw [decide_eq_true e]
          refine iteT ⟨_, rfl, res _ _ (Same.refl _) ?_⟩
          simp only [meetW, if_pos e]
          exact hpo
        · rw [decide_eq_false e]
          refine iteF ?_
          refine x_any (ev_var rfl) k1 _ ⟨_, rfl, _, rfl, x, u2, d, c, p, n, nb, rfl, k2, hd, hp41, up Pc, dc, fun H2 s3 => ⟨_, rfl, ?_⟩⟩
          refine ite2 (fun hr => ?_) (fun hr => ?_)
          · have hr := of_decide_eq_true hr
            refine res _ _ s3 ?_
            simp only [meetW, if_neg e, if_pos hr]
            rfl
          · have hr := of_decide_eq_false (Bool.eq_false_iff.mpr hr)
            obtain ⟨kv2, e2, pr2⟩ := hd.same s3
            refine ⟨_, rfl, d, kv2, rfl, .inl e2, fun f hf => ?_⟩
            have s4 := s3.trans (same_new (o := .dK kv2) hf)
            have pr3 := pr2.samT (same_t (same_new (o := .dK kv2) hf))
            have lq := lenB hU hp41
            have lz : kv2.length < sizeLine := by
              have : (3000 : Nat) < sizeLine := by decide
              rw [pr2.len]
              omega
            refine ⟨_, rfl, _, rfl, x_any (ev_var rfl) (k1.same s4) _ ⟨f, _, rfl, DPut.k (k := Sum.inr x) upd_same lz, ?_⟩⟩
            rw [putK_new _ (pr3.none fx)]
            have sT2 : SameT (upd H2 f (.dK kv2)) (upd (upd H2 f (.dK kv2)) f (.dK (kv2 ++ [(Sum.inr x, u2)]))) := samT_dk upd_same
            refine ⟨_, rfl, res _ _ (same_upd s4 (s3.free hf)) ?_⟩
            simp only [meetW, if_neg e, if_neg hr]
            exact ⟨f, rfl, _, upd_same, (pr3.snoc (k2.same s4)).samT sT2⟩
      | num i =>
        have eb : isAny c = false := kk.resolve_left (fun z => nomatch z)
        refine iteF ?_
        refine t_num (ev_var rfl) k1 (iteT (iteT ?_))
        refine t_eqT (ev_var rfl) (ev_var rfl) k1 k2 (by show min 1 _ ≤ 95; omega) ?_
        by_cases e : Tm.num i = c
        · rw [decide_eq_true e]
          refine iteT ⟨_, rfl, res _ _ (Same.refl _) ?_⟩
          rw [← e]
          simp only [meetW, if_true]
          exact hpo
        · rw [decide_eq_false e]
          refine iteF (res _ _ (Same.refl _) ?_)
          cases c with
          | any _ => exact nomatch eb
          | app _ _ => rfl
          | num j =>
            have : ¬ i = j := fun q => e (by rw [q])
            simp only [meetW, if_neg this]
            rfl
      | app s' ks =>
        have eb : isAny c = false := kk.resolve_left (fun z => nomatch z)
        refine iteF ?_
        refine t_num (ev_var rfl) k1 (iteF ?_)
        refine t_num (ev_var rfl) k2 ?_
        cases c with
        | any _ => exact nomatch eb
        | num j =>
          refine iteT ?_
          refine t_eqT (ev_var rfl) (ev_var rfl) k1 k2 (by show min _ 1 ≤ 95; omega) ?_
          rw [decide_eq_false (fun z => nomatch z)]
          exact iteF (res _ _ (Same.refl _) rfl)
        | app r' ls =>
          refine iteF ?_
          obtain ⟨un1, un2⟩ := un rfl
          refine x_sgn (ev_var rfl) k1 _ (x_sgn (ev_var rfl) k2 _ ⟨rfl, _, rfl, ?_⟩)
          rw [v_str]
          obtain ⟨p1, q1, vs1, rfl, a1, a2, a3⟩ := k1
          obtain ⟨p2, q2, vs2, rfl, b1, b2, b3⟩ := k2
          have l1 := a3.f2.len
          have l2 := b3.f2.len
          by_cases e1 : s' = r'
          · rw [decide_eq_true e1]
            refine iteF ?_
            refine ⟨_, rfl, p1, _, 2, _, rfl, rfl, a1, rfl, q1, vs1, rfl, .inr a2, _, rfl, p2, _, 2, _, rfl, rfl, b1, rfl, q2, vs2, rfl, .inr b2, rfl, _, rfl, ?_⟩
            rw [v_nat, l1, l2]
            by_cases e2 : ks.length = ls.length
            · rw [decide_eq_true e2]
              refine iteF ?_
              have res' := fun H' r s1 h => res H' r s1 (by simp only [meetW, if_pos (And.intro e1 e2)]; exact h)
              have kd : ∀ c ∈ ks.zip ls, PT dd nb n c.1 ∧ PT dd nb n c.2 ∧ Deep (PT dd nb n) p b' c.1 ∧ Deep (PT dd nb n) p b' c.2 := fun c hc =>
                ⟨PT.kids _ _ Pa _ (List.of_mem_zip hc).1, PT.kids _ _ Pc _ (List.of_mem_zip hc).2, dt.kid hp un1.symm (List.of_mem_zip hc).1, ds.kid hp un2.symm (List.of_mem_zip hc).2⟩
              refine x_tup (ev_var rfl) a1 rfl _ (x_tup (ev_var rfl) b1 rfl _ ?_)
              refine ⟨q1, q2, vs1, vs2, rfl, .inr ⟨a2, b2, ?_⟩⟩
              refine for_zipT (by omega) (fun i σ H' => ∃ r x3 x4 x5, σ = [some (.ref p1), some (.ref p2), some r, x3, x4, x5] ∧ Same H H' ∧ PO K H' r (foldO (uni b') ((ks.zip ls).take i) (some p))) ⟨_, _, _, _, rfl, Same.refl _, hpo⟩ (fun i σ H' ⟨_, _, _, _, _, s1, _⟩ => ⟨same_sqt s1 a2, same_sqt s1 b2⟩) ?_ ?_
              · rintro i x y T' σ H' hx hy ⟨r, x3, x4, x5, rfl, s1, hr'⟩ hT
                have s2 := same_new (o := .tup [x, y]) hT
                obtain ⟨ki, gi, ti⟩ := a3.f2.get hx
                obtain ⟨li, hi, ui⟩ := b3.f2.get hy
                have hz : (ks.zip ls)[i]? = some (ki, li) := by rw [List.getElem?_zip_eq_some]; exact ⟨gi, hi⟩
                have hm := List.mem_of_getElem? hz
                obtain ⟨c1, c2, c3, c4⟩ := kd _ hm
                refine ⟨T', _, rfl, SqT.of upd_same, rfl, _, _, rfl, _, _, rfl, rfl, ?_⟩
                refine ⟨_, rfl, _, rfl, _, rfl, x, y, r, ki, li, _, n, nb, dd, rfl, ti.same (s1.trans s2), ui.same (s1.trans s2), hr'.same s2, fun q hq => ?_, fun H2 r2 s3 h2 => ?_⟩
                · have F := foldO_spec (fun a b p h x y z w => uni_spec PT.kids b' a b p h x y z w) ((ks.zip ls).take i) p hp fun c hc => kd c (List.mem_of_mem_take hc)
                  rw [hq] at F
                  exact ⟨F.1, c1, c2, c3.ext F.2.1, c4.ext F.2.1, hU, hdd⟩
                · refine ⟨r2, _, _, _, rfl, s1.trans (s2.trans s3), ?_⟩
                  rw [List.take_add_one, hz]
                  show PO K H2 r2 (foldO (uni b') ((ks.zip ls).take i ++ [(ki, li)]) (some p))
                  rw [foldO_snoc]
                  exact h2
              · rintro σ H' ⟨r, x3, x4, x5, rfl, s1, hr'⟩
                refine ⟨_, rfl, res' _ _ s1 ?_⟩
                have : vs1.length = (ks.zip ls).length := by rw [List.length_zip, ← e2, Nat.min_self, l1]
                rw [this, List.take_length] at hr'
                exact hr'
            · rw [decide_eq_false e2]
              refine iteT (res _ _ (Same.refl _) ?_)
              simp only [meetW, if_neg (fun z : s' = r' ∧ ks.length = ls.length => e2 z.2)]
              rfl
          · rw [decide_eq_false e1]
            refine iteT (iteT (res _ _ (Same.refl _) ?_))
            simp only [meetW, if_neg (fun z : s' = r' ∧ ks.length = ls.length => e1 z.1)]
            rfl
theorem ok_law_one (T : Txt K mg) : ∀ b : Nat, FnOk P w K mg base CX0 (b + 2) T.d_law_one.f T.d_law_one.fd ["_law_one_here", "_law_other", "_law_puts"] (spOne K b)
  | 0 => one_step T 0 (fnok_void fun _ _ _ _ h => h)
  | b + 1 => one_step T (b + 1) (ok_law_one T b)
end
end Gt
set_option Elab.async false
set_option linter.all false
set_option maxRecDepth 100000
set_option maxHeartbeats 4000000
/-! The law's names, its marked and told terms. -/
namespace Gt
open PySem L2 RZ
theorem Off.trans {D : Addr} {H H1 H2 : Hp} (a : Off D H H1) (b : Off D H1 H2) : Off D H H2 := ⟨a.at_, fun p o ne e => b.el p o ne (a.el p o ne e)⟩
theorem off_refl {D : Addr} {H : Hp} {ws : List V} (h : H D = some (.lst ws)) : Off D H H := ⟨⟨ws, h⟩, fun _ _ _ e => e⟩
theorem Off.sqt {K : PySem.W.Frag} {D : Addr} {H H' : Hp} (e : Off D H H') {a : Addr} {xs : List V} (h : SqT K H a xs) : SqT K H' a xs := e.t.sqt h
theorem same_off {D : Addr} {H0 H H' : Hp} (s : Same H0 H) (h : H0 D = none) (e : Off D H H') : Same H0 H' := fun b o q => e.el b o (ne_of_none q h) (s b o q)
theorem uniq_append (acc a b : List Str) : uniq acc (a ++ b) = uniq (uniq acc a) b := by unfold uniq; rw [List.foldl_append]
theorem addN_len (acc : List Str) (x : Str) : (addN acc x).length ≤ acc.length + 1 := by
  unfold addN
  split
  · exact Nat.le_succ _
  · simp
theorem uniq_len : ∀ (l acc : List Str), (uniq acc l).length ≤ acc.length + l.length
  | [], acc => Nat.le_refl _
  | x :: l, acc => by
    have h1 := uniq_len l (addN acc x)
    have h2 := addN_len acc x
    show (uniq (addN acc x) l).length ≤ acc.length + (l.length + 1)
    omega
theorem inV_str (x : Str) (l : List Str) : inV (V.str x) (l.map V.str) = decide (x ∈ l) := by
  unfold inV
  rw [List.any_map, Bool.eq_iff_iff, decide_eq_true_eq, List.any_eq_true]
  constructor
  · rintro ⟨y, hy, e⟩
    have : (y == x) = true := e
    rw [beq_iff_eq] at this
    exact this ▸ hy
  · intro h
    exact ⟨x, h, beq_self_eq_true x⟩
theorem flat_strs (l : List Str) : (l.map V.str).all flatV = true := by rw [List.all_map]; exact List.all_eq_true.mpr fun _ _ => rfl
def spNamed (K : PySem.W.Frag) (b : Nat) : Sp := fun vs H Q _ => ∃ v l t acc, vs = [v, .ref l] ∧ Tr K H v t ∧ H l = some (.lst (acc.map V.str)) ∧ t.dep ≤ b ∧ acc.length + t.size ≤ 1000000 ∧ ∀ H', Off l H H' → H' l = some (.lst ((uniq acc t.vars).map V.str)) → Q (.ref l) H'
def spCalled (K : PySem.W.Frag) (n : Nat) : Sp := fun vs H Q _ => ∃ (v : V) (d : Addr) (t : Tm) (kvs : List (Key × V)) (f : Str → Str), vs = [v, .ref d] ∧ Tr K H v t ∧ H d = some (.dK kvs) ∧ (∀ x ∈ t.vars, valV kvs (Sum.inr x) = some (.str (f x))) ∧ t.dep ≤ n ∧ t.size ≤ 1000000 ∧ ∀ H' v', Same H H' → Tr K H' v' (ap (fun x => .any (f x)) t) → Q v' H'
def spAnew (K : PySem.W.Frag) : Sp := fun vs H Q _ => ∃ v t, vs = [v] ∧ Tr K H v t ∧ t.size ≤ 1000 ∧ t.dep ≤ 80 ∧ ∀ H' v', Same H H' → Tr K H' v' (ap (fun x => .any (calls (uniq [] t.vars) x)) t) → Q v' H'
def spMarkL (K : PySem.W.Frag) : Sp := fun vs H Q _ => ∃ v t n, vs = [v, .int (n : Nat)] ∧ Tr K H v t ∧ t.size ≤ 900 ∧ n < 100000 ∧ (∀ x ∈ t.vars, x.length ≤ 1000) ∧ t.dep ≤ 80 ∧ ∀ H' v', Same H H' → Tr K H' v' (mkT n t) → Q v' H'
def Pair (K : PySem.W.Frag) (H : Hp) (v : V) (c : Str × Tm) : Prop := ∃ q u, v = .ref q ∧ SqT K H q [.str c.1, u] ∧ Tr K H u c.2
theorem Pair.samT {K : PySem.W.Frag} {H H' : Hp} (e : SameT H H') {v : V} {c : Str × Tm} : Pair K H v c → Pair K H' v c
  | ⟨q, u, a, b, d⟩ => ⟨q, u, a, e.sqt b, d.samT e⟩
/-- an answer as it is told -/
def ToldR (K : PySem.W.Frag) (H : Hp) (r : V) (wv : Addr) (cs : List (Str × Tm)) : Prop := ∃ a l ps, r = .ref a ∧ SqT K H a [.ref l, .ref wv] ∧ H l = some (.lst ps) ∧ F2 (Pair K H) ps cs
def spLTold (K : PySem.W.Frag) : Sp := fun vs H Q _ => ∃ ln d wv asked p n nb, vs = [.ref ln, .ref d, .ref wv] ∧ SqL K H ln (asked.map V.str) ∧ PAt K H d p ∧ OKs (PT 41 nb n) p ∧ (∀ x ∈ asked, PT 41 nb n (.any x) ∧ (rd p (.any x)).dep ≤ 70) ∧ Tm.sizeL ((asT asked).map (rd p)) ≤ 900 ∧
  ∀ H' r, Same H H' → ToldR K H' r wv (asked.zip (toldL ((asT asked).map (rd p)))) → Q r H'
theorem dep_size_kid {s : Str} {ks : List Tm} {k : Tm} (hk : k ∈ ks) : k.dep + 1 ≤ (Tm.app s ks).dep ∧ k.size + 1 ≤ (Tm.app s ks).size := by
  constructor
  · rw [Tm.dep]
    have := depL_le.mp (Nat.le_refl (Tm.depL ks)) k hk
    omega
  · rw [Tm.size]
    have : k.size ≤ Tm.sizeL ks := by
      induction ks with
      | nil => exact nomatch hk
      | cons t ks ih =>
        rw [Tm.sizeL]
        rcases List.mem_cons.mp hk with rfl | hk
        · omega
        · have := ih hk
          omega
    omega
section
variable {P : Program} {w : World} {K : PySem.W.Frag} {mg : Str → Option Value} {base : Heap} {CX : CXT}
theorem ok_law_named (T : Txt K mg) : ∀ b : Nat, FnOk P w K mg base CX0 (b + 1) T.d_law_named.f T.d_law_named.fd ["_law_term", "_law_found"] (spNamed K b)
  | 0 => fnok_void (fun vs H Q E ⟨v, l, t, acc, _, _, _, hd, _⟩ => by have := dep_pos t; omega)
  | b + 1 => by
    have G_law_named := ok_law_named T b
    refine T.d_law_named.F.ok sc_law_named (fun vs H Q E h => ?_) (fun cdv A outer s H vs Q E hr h => ?_)
    · obtain ⟨v, l, t, acc, rfl, _⟩ := h
      rfl
    · obtain ⟨v, l, t, acc, rfl, hv, hl, hd, hz, k⟩ := h
      have big : (1000000 : Nat) < sizeLine := by decide
      refine ⟨_, (pss_cons (ps_if (PW.pt (pw_and (pt_cmpR op_eq (pe_ix ix_tup (pv 0) pe_int (fun _ _ => rfl)) pe_str (nomark _)) (pw_and1 (pt_cmpR (op_notIn_seq) (pe_ix ix_tup (pv 0) pe_int (fun _ _ => rfl)) (pv 1) (by rfl))))) (pss_one (ps_expr (pe_bm PySem.F.plainAttrs_list PySem.F.slot_list_append PySem.F.type_list_append mt_append (pv 1) (pa_cons (pe_ix ix_tup (pv 0) pe_int (fun _ _ => rfl)) pa_nil)))) pss_nil)
          (pss_cons (ps_if (pt_cmpR op_eq (pe_ix ix_tup (pv 0) pe_int (fun _ _ => rfl)) pe_str (nomark _)) (pss_one (ps_for PassesOwn.never rfl (pi_tup (pe_ix ix_tup (pv 0) pe_int (fun _ _ => rfl))) (pg_name (i := 2) sc_law_named.nd rfl (Or.inl rfl))
          (pss_one (ps_expr (pe_call G_law_named (hr.mono (by omega)) rfl T.d_law_named.m T.d_law_named.k T.d_law_named.b .nil pass0 (pa_cons (pv 2) (pa_cons (pv 1) pa_nil))))))) pss_nil)
          (pss_one (ps_ret (pv 1))))), ?_⟩
      refine t_any (ev_var rfl) hv ?_
      cases t with
      | num i =>
        refine iteF (iteF ?_)
        refine t_app (ev_var rfl) hv (iteF ?_)
        exact ⟨_, rfl, k _ (off_refl hl) hl⟩
      | any x =>
        refine iteT ?_
        refine x_any (ev_var rfl) hv _ ⟨_, rfl, l, _, rfl, .inl (SqL.of hl), rfl, flat_strs acc, _, rfl, ?_⟩
        simp only [if_true]
        rw [inV_str]
        have eu : uniq acc (Tm.any x).vars = addN acc x := rfl
        rw [eu] at k
        by_cases e : x ∈ acc
        · rw [decide_eq_true e]
          refine iteF ?_
          refine t_app (ev_var rfl) hv (iteF ?_)
          refine ⟨_, rfl, k _ (off_refl hl) ?_⟩
          unfold addN
          rw [if_pos e]
          exact hl
        · rw [decide_eq_false e]
          refine iteT ?_
          rw [Tm.size] at hz
          refine x_app (ev_var rfl) (x_any (ev_var rfl) hv) hl (by rw [List.length_map]; omega) ?_
          have o1 := off_upd (o := .lst (acc.map V.str ++ [.str x])) hl
          refine t_app (ev_var rfl) (hv.samT o1.t) (iteF ?_)
          refine ⟨_, rfl, k _ o1 ?_⟩
          unfold addN
          rw [if_neg e, upd_same, List.map_append]
          rfl
      | app s' ks =>
        refine iteF (iteF ?_)
        refine t_app (ev_var rfl) hv (iteT ?_)
        obtain ⟨p, q, vs, rfl, e1, e2, e3⟩ := id hv
        refine x_tup (ev_var rfl) e1 rfl _ ?_
        refine ⟨q, rfl, ⟨_, e2⟩, ?_⟩
        refine for_tup (K := K) (a := q) (xs := vs) (fun i σ H' => ∃ x2, σ = [some (.ref p), some (.ref l), x2] ∧ Off l H H' ∧ H' l = some (.lst ((uniq acc (Tm.varsL (ks.take i))).map V.str)))
          ⟨none, rfl, off_refl hl, by simpa [Tm.varsL, uniq] using hl⟩ (fun i σ H' _ ⟨_, _, o, _⟩ => o.sqt e2) ?_ ?_
        · rintro i x σ H' hx ⟨x2, rfl, o1, h1⟩
          obtain ⟨y, hy, ty⟩ := e3.f2.get hx
          have hm := List.mem_of_getElem? hy
          obtain ⟨d1, d2⟩ := dep_size_kid (s := s') hm
          refine ⟨_, rfl, _, rfl, x, l, y, uniq acc (Tm.varsL (ks.take i)), rfl, ty.samT o1.t, h1, by omega, ?_, fun H2 o2 h2 => ⟨_, rfl, o1.trans o2, ?_⟩⟩
          · have u1 := uniq_len (Tm.varsL (ks.take i)) acc
            have u2 := varsL_size (ks.take i)
            have u3 : Tm.sizeL (ks.take i) + y.size ≤ Tm.sizeL ks := by
              have e : ks.take (i + 1) = ks.take i ++ [y] := by rw [List.take_add_one, hy]; rfl
              have f : Tm.sizeL ks = Tm.sizeL (ks.take (i + 1)) + Tm.sizeL (ks.drop (i + 1)) := by rw [← sizeL_append, List.take_append_drop]
              rw [f, e, sizeL_append, Tm.sizeL, Tm.sizeL]
              omega
            rw [Tm.size] at hz
            omega
          · rw [List.take_add_one, hy]
            show H2 l = some (.lst ((uniq acc (Tm.varsL (ks.take i ++ [y]))).map V.str))
            rw [varsL_append, uniq_append, h2]
            simp [Tm.varsL]
        · rintro σ H' ⟨x2, rfl, o1, h1⟩
          refine ⟨_, rfl, k _ o1 ?_⟩
          rw [e3.f2.len, List.take_length] at h1
          exact h1
theorem ok_law_called (T : Txt K mg) : ∀ n : Nat, FnOk P w K mg base CX0 (n + 1) T.d_law_called.f T.d_law_called.fd ["_law_term", "_law_names_here"] (spCalled K n)
  | 0 => fnok_void (fun vs H Q E ⟨v, d, t, kvs, f, _, _, _, _, hd, _⟩ => by have := dep_pos t; omega)
  | n + 1 => by
    have G_law_called := ok_law_called T n
    refine T.d_law_called.F.ok sc_law_called (fun vs H Q E h => ?_) (fun cdv A outer s H vs Q E hr h => ?_)
    · obtain ⟨v, d, t, kvs, f, rfl, _⟩ := h
      rfl
    · obtain ⟨v, d, t, kvs, f, rfl, hv, hd, hf, hn, hz, k⟩ := h
      refine ⟨_, (pss_cons (ps_if (pt_cmpR op_eq (pe_ix ix_tup (pv 0) pe_int (fun _ _ => rfl)) pe_str (nomark _)) (pss_one (ps_ret (pe_tup (pa_cons pe_str (pa_cons (pe_dget (hu_of hr) (pv 1) (pe_ix ix_tup (pv 0) pe_int (fun _ _ => rfl)) (fun _ _ => rfl)) pa_nil))))) pss_nil)
          (pss_cons (ps_if (pt_cmpR op_eq (pe_ix ix_tup (pv 0) pe_int (fun _ _ => rfl)) pe_str (nomark _)) (pss_one (ps_ret (pe_tup (pa_cons pe_str (pa_cons (pe_ix ix_tup (pv 0) pe_int (fun _ _ => rfl)) (pa_cons (pe_callTy call_tuple_of (by rfl) T.tuple (by decide +kernel) (pa_cons (pe_lc (own := [("_law_kid", 2)]) (g := gName 2) rfl sc_law_called.nd (pi_tup (pe_ix ix_tup (pv 0) pe_int (fun _ _ => rfl))) (blkOk_by (own := [("_law_kid", 2)]) (N := ["_law_term", "_law_names_here", "_law_kid"]) (sc := defScope s_law_called) (by decide +kernel)) (fun _ _ _ _ _ => (pg_name (i := 2) sc_law_called.nd rfl (Or.inl rfl))) (fun _ _ _ _ _ => pts_nil) (fun _ _ _ _ _ => (pe_call G_law_called (hr.mono (by omega)) rfl T.d_law_called.m T.d_law_called.k T.d_law_called.b .nil pass0 (pa_cons (pv 2) (pa_cons (pv 1) pa_nil))))) pa_nil)) pa_nil)))))) pss_nil)
          (pss_one (ps_ret (pv 0))))), ?_⟩
      refine t_any (ev_var rfl) hv ?_
      cases t with
      | num i =>
        refine iteF (t_app (ev_var rfl) hv (iteF ?_))
        exact ⟨_, rfl, k _ _ (Same.refl _) hv⟩
      | any x =>
        refine iteT ?_
        refine x_get (ev_var rfl) (x_any (ev_var rfl) hv) hd (hf x (by simp [Tm.vars])) _ ?_
        exact ⟨(by show 2 ≤ sizeLine; decide), fun p hp => k _ _ (same_new hp) (Tr.mk_any upd_same)⟩
      | app s' ks =>
        refine iteF (t_app (ev_var rfl) hv (iteT ?_))
        refine x_sgn (ev_var rfl) hv _ ?_
        obtain ⟨p, q, vs, rfl, e1, e2, e3⟩ := id hv
        refine x_tup (ev_var rfl) e1 rfl _ ?_
        refine ⟨q, rfl, ⟨vs, e2⟩, fun D hD => ?_⟩
        have lk := sizeL_len ks
        have hz' := hz
        rw [Tm.size] at hz'
        refine lc_mapT (as := ks) (In := Tr K) (Out := Tr K) (φ := ap fun x => .any (f x)) hD e2 e3.f2 (by omega) (fun s h => h.same s) (fun o h => h.samT o.t) (fun v x H1 R hx s1 hin kk => ?_) (fun H1 ws s1 h1 h2 => ?_)
        · obtain ⟨d1, d2⟩ := dep_size_kid (s := s') hx
          refine ⟨_, rfl, _, rfl, v, d, x, kvs, f, rfl, hin, s1 _ _ hd, fun y hy => hf y ?_, by omega, by omega, kk⟩
          rw [Tm.vars]
          exact varsL_mem.mpr ⟨x, hx, hy⟩
        · refine ⟨D, ws, rfl, .inl ⟨SqL.of h1, fun q hq => ⟨(by show 3 ≤ sizeLine; decide), fun a ha => ?_⟩⟩⟩
          have s2 := same_new (o := .tup ws) hq
          have s3 := same_new (o := .tup [.str "app", .str s', .ref q]) ha
          refine k _ _ (s1.trans (s2.trans s3)) ?_
          rw [ap, apL_map]
          exact Tr.mk_app upd_same (SqT.of (s3 _ _ upd_same)) (h2.imp fun v t h => h.same (s2.trans s3))
theorem ok_law_marked (T : Txt K mg) : FnOk P w K mg base CX0 90 T.d_law_marked.f T.d_law_marked.fd ["_law_term", "_law_n"] (spMarkL K) := by
  have G_law_called : FnOk P w K mg base CX0 81 T.d_law_called.f T.d_law_called.fd ["_law_term", "_law_names_here"] (spCalled K 80) := ok_law_called T 80
  have G_law_named : FnOk P w K mg base CX0 81 T.d_law_named.f T.d_law_named.fd ["_law_term", "_law_found"] (spNamed K 80) := ok_law_named T 80
  refine T.d_law_marked.F.ok (k := 89) sc_law_marked (fun vs H Q E h => ?_) (fun cdv A outer s H vs Q E hr h => ?_)
  · obtain ⟨v, t, n, rfl, _⟩ := h
    rfl
  · obtain ⟨v, t, n, rfl, hv, hz, hn, hx, hd, k⟩ := h
    have big : (2000 : Nat) < sizeLine := by decide
    refine ⟨_, (pss_cons (ps_set (i := 2) sc_law_marked.nd rfl (Or.inl rfl) pe_dnewK)
          (pss_cons (ps_for PassesOwn.never rfl (pi_list (pe_call G_law_named (hr.mono (by omega)) rfl T.d_law_named.m T.d_law_named.k T.d_law_named.b .nil pass0 (pa_cons (pv 0) (pa_cons (pe_lst pa_nil) pa_nil)))) (pg_name (i := 3) sc_law_marked.nd rfl (Or.inl rfl))
          (pss_one (ps_dput (hu_of hr) (pv 2) (pv 3) (pe_op op_add_str (pe_op op_add_str (pv 3) pe_str) (pe_callTy call_str_int (by rfl) T.str (by decide +kernel) (pa_cons (pv 1) pa_nil))) rfl)))
          (pss_one (ps_ret (pe_call G_law_called (hr.mono (by omega)) rfl T.d_law_called.m T.d_law_called.k T.d_law_called.b .nil pass0 (pa_cons (pv 0) (pa_cons (pv 2) pa_nil))))))), ?_⟩
    intro d hdn
    have s1 : Same H (upd H d (.dK [])) := same_new hdn
    refine ⟨_, rfl, Nat.zero_le _, fun p hp => ?_⟩
    have s2 := s1.trans (same_new (o := .lst []) hp)
    refine ⟨v, p, t, [], rfl, hv.same s2, upd_same, hd, by simp only [List.length_nil]; omega, fun H1 o1 hp2 => ?_⟩
    have hd1 : H1 d = some (.dK []) := o1.el _ _ (ne_of_none upd_same hp) (upd_at upd_same (ne_of_none upd_same hp))
    have s4 : Same H H1 := same_off s2 (s1.free hp) o1
    have ndU : (uniq [] t.vars).Nodup := uniq_nodup List.nodup_nil
    have inU : ∀ x ∈ uniq [] t.vars, x ∈ t.vars := fun x hx => (uniq_mem.mp hx).resolve_left (List.not_mem_nil)
    have toU : ∀ x ∈ t.vars, x ∈ uniq [] t.vars := fun x hx => uniq_mem.mpr (.inr hx)
    have lenU : (uniq [] t.vars).length ≤ 1000 := by
      have h1 := nodup_len ndU inU
      have := vars_size t
      omega
    have pd : p ≠ d := by
      intro q
      rw [q, hd1] at hp2
      cases hp2
    generalize hU : uniq [] t.vars = U at *
    refine ⟨p, rfl, ⟨_, SqL.of hp2⟩, ?_⟩
    refine for_list (K := K) (a := p) (xs := U.map V.str) (fun i σ H' => ∃ v4, σ = [some v, some (.int (n : Nat)), some (.ref d), v4] ∧ Same H H' ∧ H' p = some (.lst (U.map V.str)) ∧ H' d = some (.dK ((U.take i).map fun y => ((Sum.inr y : Key), V.str (mk n y)))))
      ⟨none, rfl, s4, hp2, hd1⟩ (fun i σ H' _ ⟨_, _, _, h, _⟩ => SqL.of h) ?_ ?_
    · rintro i x σ H' hi ⟨v4, rfl, s5, h1, h2⟩
      rw [List.getElem?_map] at hi
      obtain ⟨y, hy, rfl⟩ := Option.map_eq_some_iff.mp hi
      have ly := hx y (inU y (List.mem_of_getElem? hy))
      have ln := len_num' hn
      have l1 : (Str.ofString ".").length = 1 := by decide +kernel
      refine ⟨_, rfl, _, _, rfl, rfl, ?_, _, rfl, _, rfl, log_small hn, _, _, rfl, rfl, ?_, ?_⟩
      · rw [l1]
        omega
      · rw [len_app', l1]
        omega
      · refine ⟨_, rfl, _, rfl, d, _, rfl, DPut.k (k := Sum.inr y) h2 ?_, ?_⟩
        · rw [List.length_map, List.length_take]
          omega
        · rw [putK_new _ (uniq_none _ _ _ (take_fresh ndU hy))]
          refine ⟨_, rfl, same_upd s5 hdn, upd_at h1 pd, ?_⟩
          rw [upd_same, take_snoc _ hy]
          rfl
    · rintro σ H' ⟨v4, rfl, s5, h1, h2⟩
      rw [List.length_map, List.take_length] at h2
      exact ⟨_, rfl, _, rfl, v, d, t, _, mk n, rfl, hv.same s5, h2, fun x hx => uniq_get U (mk n) x (toU x hx), hd, by omega, fun H2 v2 s6 ht => k _ _ (s5.trans s6) ht⟩
theorem ok_law_anew (T : Txt K mg) : FnOk P w K mg base CX0 90 T.d_law_anew.f T.d_law_anew.fd ["_law_term"] (spAnew K) := by
  have G_law_called : FnOk P w K mg base CX0 81 T.d_law_called.f T.d_law_called.fd ["_law_term", "_law_names_here"] (spCalled K 80) := ok_law_called T 80
  have G_law_named : FnOk P w K mg base CX0 81 T.d_law_named.f T.d_law_named.fd ["_law_term", "_law_found"] (spNamed K 80) := ok_law_named T 80
  refine T.d_law_anew.F.ok (k := 89) sc_law_anew (fun vs H Q E h => ?_) (fun cdv A outer s H vs Q E hr h => ?_)
  · obtain ⟨v, t, rfl, _⟩ := h
    rfl
  · obtain ⟨v, t, rfl, hv, hz, hd, k⟩ := h
    have big : (2000 : Nat) < sizeLine := by decide
    refine ⟨_, (pss_cons (ps_set (i := 1) sc_law_anew.nd rfl (Or.inl rfl) pe_dnewK)
          (pss_cons (ps_for PassesOwn.never rfl (pi_list (pe_call G_law_named (hr.mono (by omega)) rfl T.d_law_named.m T.d_law_named.k T.d_law_named.b .nil pass0 (pa_cons (pv 0) (pa_cons (pe_lst pa_nil) pa_nil)))) (pg_name (i := 2) sc_law_anew.nd rfl (Or.inl rfl))
          (pss_one (ps_dput (hu_of hr) (pv 1) (pv 2) (pe_op op_add_str pe_str (pe_callTy call_str_int (by rfl) T.str (by decide +kernel) (pa_cons (pe_op op_add (pe_callB call_lenD (by rfl) T.len PySem.boot_len (pa_cons (pv 1) pa_nil)) pe_int) pa_nil))) rfl)))
          (pss_one (ps_ret (pe_call G_law_called (hr.mono (by omega)) rfl T.d_law_called.m T.d_law_called.k T.d_law_called.b .nil pass0 (pa_cons (pv 0) (pa_cons (pv 1) pa_nil))))))), ?_⟩
    intro d hdn
    have s1 : Same H (upd H d (.dK [])) := same_new hdn
    refine ⟨_, rfl, Nat.zero_le _, fun p hp => ?_⟩
    have s2 := s1.trans (same_new (o := .lst []) hp)
    refine ⟨v, p, t, [], rfl, hv.same s2, upd_same, hd, by simp only [List.length_nil]; omega, fun H1 o1 hp2 => ?_⟩
    have hd1 : H1 d = some (.dK []) := o1.el _ _ (ne_of_none upd_same hp) (upd_at upd_same (ne_of_none upd_same hp))
    have s4 : Same H H1 := same_off s2 (s1.free hp) o1
    have ndU : (uniq [] t.vars).Nodup := uniq_nodup List.nodup_nil
    have toU : ∀ x ∈ t.vars, x ∈ uniq [] t.vars := fun x hx => uniq_mem.mpr (.inr hx)
    have lenU : (uniq [] t.vars).length ≤ 1000 := by
      have h1 := nodup_len (U := t.vars) ndU fun x hx => (uniq_mem.mp hx).resolve_left (List.not_mem_nil)
      have := vars_size t
      omega
    have pd : p ≠ d := by
      intro q
      rw [q, hd1] at hp2
      cases hp2
    generalize uniq [] t.vars = U at *
    refine ⟨p, rfl, ⟨_, SqL.of hp2⟩, ?_⟩
    have cl : ∀ i x, U[i]? = some x → calls U x = numU i := fun i x h => by
      unfold calls
      obtain ⟨hi, e⟩ := List.getElem?_eq_some_iff.mp h
      rw [← e, List.Nodup.idxOf_getElem ndU]
    refine for_list (K := K) (a := p) (xs := U.map V.str) (fun i σ H' => ∃ v3, σ = [some v, some (.ref d), v3] ∧ Same H H' ∧ H' p = some (.lst (U.map V.str)) ∧ H' d = some (.dK ((U.take i).map fun y => ((Sum.inr y : Key), V.str (calls U y)))))
      ⟨none, rfl, s4, hp2, hd1⟩ (fun i σ H' _ ⟨_, _, _, h, _⟩ => SqL.of h) ?_ ?_
    · rintro i x σ H' hi ⟨v3, rfl, s5, h1, h2⟩
      rw [List.getElem?_map] at hi
      obtain ⟨y, hy, rfl⟩ := Option.map_eq_some_iff.mp hi
      have hi' := (List.getElem?_eq_some_iff.mp hy).1
      have el : (((U.take i).map fun y => ((Sum.inr y : Key), V.str (calls U y))).length : Int) + 1 = ((i + 1 : Nat) : Int) := by
        rw [List.length_map, List.length_take, Nat.min_eq_left (Nat.le_of_lt hi')]
        rfl
      have ln := len_num' (n := i + 1) (by omega)
      have l1 : (Str.ofString "U").length = 1 := by decide +kernel
      refine ⟨_, rfl, d, _, rfl, h2, _, _, rfl, rfl, ((i + 1 : Nat) : Int), congrArg (fun z => [V.int z]) el, log_small (by omega), _, _, rfl, rfl, by rw [l1]; omega, ?_⟩
      refine ⟨_, rfl, _, rfl, d, _, rfl, DPut.k (k := Sum.inr y) h2 ?_, ?_⟩
      · rw [List.length_map, List.length_take]
        omega
      · rw [putK_new _ (uniq_none _ _ _ (take_fresh ndU hy))]
        refine ⟨_, rfl, same_upd s5 hdn, upd_at h1 pd, ?_⟩
        rw [upd_same, take_snoc _ hy, cl i y hy]
        rfl
    · rintro σ H' ⟨v3, rfl, s5, h1, h2⟩
      rw [List.length_map, List.take_length] at h2
      exact ⟨_, rfl, _, rfl, v, d, t, _, calls U, rfl, hv.same s5, h2, fun x hx => uniq_get U (calls U) x (toU x hx), hd, by omega, fun H2 v2 s6 ht => k _ _ (s5.trans s6) ht⟩
end
end Gt
set_option Elab.async false
set_option linter.all false
/-! The law's results, part by part. -/
namespace Gt
open PySem L2
theorem waysA_ok {c : Cx} (ok : CxOk c) (n : Nat) {g : Tm} {p : Puts} {w : Way} (hc : w.length + cost c g ≤ 9) (hp : OKs (PT 3 c.nb w.length) p) (gi : GoalOk c w.length g) :
    Fos c w.length (w.length + cost c g) (6 ^ cost c g) (waysG (A c.R n) g p w c.R.zipIdx) := by
  have cp := cost_pos c g
  have := waysG_ok ok (all := A c.R n) (hi := w.length + cost c g) (n := 6 ^ (cost c g - 1)) (by omega) hp gi (fun r hr e q k hq => by
    have rk := ok.rule r hr
    have low := rk.low
    have cs := same_cost (c := c) e
    have := A_ok ok n (r.2.map (mkT w.length)) q (w ++ [k + 1]) (by rw [costL_mkT, way_len]; omega) (by rw [way_len]; exact hq) fun y hy => by
      obtain ⟨b, hb, e⟩ := List.mem_map.mp hy
      rw [← e, way_len]
      exact (rk.body b hb).mark
    rw [costL_mkT, way_len] at this
    exact ⟨Nat.le_trans this.1 (Nat.pow_le_pow_right (by omega) (by omega)), fun x hx => (this.2 x hx).mono (by omega) (by omega)⟩) c.R.zipIdx (fun x hx => zip_rule hx)
  refine ⟨Nat.le_trans this.1 ?_, this.2⟩
  have h6 := ok.few
  rw [List.length_zipIdx]
  have e6 : 6 ^ cost c g = 6 * 6 ^ (cost c g - 1) := by
    rw [← Nat.pow_succ']
    congr 1
    omega
  rw [e6]
  exact Nat.mul_le_mul_right _ h6
theorem one_ok {c : Cx} {w : Way} {k : Nat} (hk : 1 ≤ k) {q : Puts} (hq : OKs (PT 3 c.nb w.length) q) {n : Nat} (hn : 1 ≤ n) : Fos c w.length (w.length + k) n [(q, w ++ [0])] := ⟨hn, fun x hx => by
  rw [List.mem_singleton.mp hx]
  exact ⟨by simp only [way_len]; exact hq.mono fun t q => q.mono (Nat.le_refl _) (Nat.le_succ _), by simp only [way_len]; omega, by simp only [way_len]; omega⟩⟩
theorem laterG_all (all : Puts → Way → Fnd × Bool) (q : Puts) (w : Way) (l : Fnd) (acc : Fnd) (t : Fnd × Bool) (h : t = (acc ++ (laterG all ((q, w) :: l)).1, (laterG all ((q, w) :: l)).2)) :
    ((all q w).2 = true → t = (acc ++ (all q w).1, true)) ∧ ((all q w).2 = false → t = ((acc ++ (all q w).1) ++ (laterG all l).1, (laterG all l).2)) := by
  rw [laterG] at h
  constructor
  · intro e
    rw [h, if_pos e]
  · intro e
    rw [h, if_neg (by rw [e]; exact Bool.false_ne_true), List.append_assoc]
theorem pow9 {c : Cx} {g : Tm} {n : Nat} (h : n ≤ 6 ^ cost c g) : n ≤ 279936 := Nat.le_trans h (Nat.le_trans (Nat.pow_le_pow_right (by omega) (cost_le c g)) (by decide))
theorem pow9L {n k : Nat} (h : n ≤ 6 ^ k) (hk : k ≤ 9) : n ≤ 10077696 := Nat.le_trans h (Nat.le_trans (Nat.pow_le_pow_right (by omega) hk) (by decide))
end Gt
set_option Elab.async false
set_option linter.all false
set_option maxRecDepth 100000
set_option maxHeartbeats 4000000
/-! What is found, in the heap; short readings for the law's search. -/
namespace Gt
open PySem L2 RZ
def wayV (w : Way) : List V := w.map fun k => V.int ((k : Nat) : Int)
theorem wayV_len (w : Way) : (wayV w).length = w.length := List.length_map _
theorem wayV_snoc (w : Way) (k : Nat) : wayV (w ++ [k]) = wayV w ++ [V.int ((k : Nat) : Int)] := by unfold wayV; rw [List.map_append]; rfl
def RuleAt (K : PySem.W.Frag) (H : Hp) (v : V) (r : Rule) : Prop := ∃ p q hv vs, v = .ref p ∧ SqT K H p [hv, .ref q] ∧ Tr K H hv r.1 ∧ SqT K H q vs ∧ Trs K H vs r.2
theorem RuleAt.samT {K : PySem.W.Frag} {H H' : Hp} (e : SameT H H') {v : V} {r : Rule} : RuleAt K H v r → RuleAt K H' v r
  | ⟨p, q, hv, vs, a, b, c, d, f⟩ => ⟨p, q, hv, vs, a, e.sqt b, c.samT e, e.sqt d, Trs.samT e f⟩
/-- the rules, in a list -/
def RulesAt (K : PySem.W.Frag) (H : Hp) (lr : Addr) (R : List Rule) : Prop := ∃ vs, SqL K H lr vs ∧ F2 (RuleAt K H) vs R
theorem RulesAt.same {K : PySem.W.Frag} {H H' : Hp} (e : Same H H') {lr : Addr} {R : List Rule} : RulesAt K H lr R → RulesAt K H' lr R
  | ⟨vs, a, b⟩ => ⟨vs, e.seq a, b.imp fun v r q => q.samT (same_t e)⟩
def Fd (K : PySem.W.Frag) (H : Hp) (v : V) (x : Puts × Way) : Prop := ∃ a d wv, v = .ref a ∧ SqT K H a [.ref d, .ref wv] ∧ PAt K H d x.1 ∧ H wv = some (.lst (wayV x.2))
theorem Fd.same {K : PySem.W.Frag} {H H' : Hp} (e : Same H H') {v : V} {x : Puts × Way} : Fd K H v x → Fd K H' v x
  | ⟨a, d, wv, h1, h2, h3, h4⟩ => ⟨a, d, wv, h1, same_sqt e h2, h3.same e, e _ _ h4⟩
abbrev Fds (K : PySem.W.Frag) (H : Hp) (vs : List V) (l : Fnd) : Prop := F2 (Fd K H) vs l
theorem Fds.same {K : PySem.W.Frag} {H H' : Hp} (e : Same H H') {vs : List V} {l : Fnd} (h : Fds K H vs l) : Fds K H' vs l := h.imp fun _ _ q => q.same e
section
variable {K : PySem.W.Frag} {ta tb te tk : TE} {σ : St} {H : Hp} {Q : Bool → Hp → Prop} {R : VK}
theorem t_eqS {a b : Str} (ha : EvV ta σ H (.str a)) (hb : EvV tb σ H (.str b)) (q : Q (decide (a = b)) H) : tTest (tOp rEq ta tb) σ H Q := ha _ (hb _ ⟨rfl, _, rfl, by rw [v_str]; exact q⟩)
theorem t_neS {a b : Str} (ha : EvV ta σ H (.str a)) (hb : EvV tb σ H (.str b)) (q : Q (!decide (a = b)) H) : tTest (tOp rNe ta tb) σ H Q := ha _ (hb _ ⟨rfl, _, rfl, by rw [v_str]; exact q⟩)
theorem t_eqN {a b : Nat} (ha : EvV ta σ H (.int (a : Nat))) (hb : EvV tb σ H (.int (b : Nat))) (q : Q (decide (a = b)) H) : tTest (tOp rEq ta tb) σ H Q := ha _ (hb _ ⟨rfl, _, rfl, by rw [v_nat]; exact q⟩)
theorem ev_str {s : Str} : EvV (tC (.str s)) σ H (.str s) := fun _ q => q
theorem ev_int {i : Int} : EvV (tC (.int i)) σ H (.int i) := fun _ q => q
/-- (x,) + t -/
theorem x_cat {b : Addr} {xs ys : List V} (hx : xs ≠ []) (ha : ∀ R : VK, (∀ t1 H1, Same H H1 → SqT K H1 t1 xs → R (.ref t1) H1) → ta σ H R) (hb : ∀ H1, Same H H1 → EvV tb σ H1 (.ref b)) (hq : SqT K H b ys) (hz : xs.length + ys.length ≤ sizeLine)
    (k : ∀ tc H2, Same H H2 → SqT K H2 tc (xs ++ ys) → R (.ref tc) H2) : tOp (rCatA K) ta tb σ H R := by
  refine ha _ fun t1 H1 s1 h1 => hb H1 s1 _ ⟨t1, b, xs, ys, rfl, rfl, h1, same_sqt s1 hq, hz, fun e => absurd e hx, fun _ e => ?_, fun _ _ p hp => ?_⟩
  · exact k t1 H1 s1 (by rw [e, List.append_nil]; exact h1)
  · exact k p _ (s1.trans (same_new hp)) (SqT.of upd_same)
/-- way + [k] -/
theorem x_way {wv : Addr} {w : Way} {k : Nat} {z : Int} (ha : EvV ta σ H (.ref wv)) (hw : H wv = some (.lst (wayV w))) (hk : EvV tk σ H (.int z)) (ez : z = ((k : Nat) : Int)) (hz : w.length ≤ 100)
    (q : ∀ p H2, Same H H2 → H p = none → H2 p = some (.lst (wayV (w ++ [k]))) → R (.ref p) H2) : tOp rCat ta (tLst (tCons tk tNil)) σ H R := by
  have big : (1000 : Nat) < sizeLine := by decide
  refine ha _ (hk _ ⟨(by show 1 ≤ sizeLine; decide), fun l hl => ?_⟩)
  have s1 := same_new (o := .lst [.int z]) hl
  refine ⟨wv, l, _, _, rfl, rfl, s1 _ _ hw, upd_same, by rw [wayV_len, List.length_singleton]; omega, fun p hp => ?_⟩
  refine q p _ (s1.trans (same_new hp)) (s1.free hp) ?_
  rw [upd_same, wayV_snoc, ez]
/-- xs + ys, two lists -/
theorem x_catL {l b : Addr} {xs ys : List V} (ha : EvV ta σ H (.ref l)) (hb : EvV tb σ H (.ref b)) (h1 : H l = some (.lst xs)) (h2 : H b = some (.lst ys)) (hz : xs.length + ys.length ≤ sizeLine)
    (q : ∀ p, H p = none → R (.ref p) (upd H p (.lst (xs ++ ys)))) : tOp rCat ta tb σ H R := ha _ (hb _ ⟨l, b, xs, ys, rfl, rfl, h1, h2, hz, q⟩)
theorem for_enum {a : Addr} {xs : List V} {g : TG} {tb : TS} {D : Ends} {σ : St} {H : Hp} (Pv : Nat → St → Hp → Prop) (h0 : Pv 0 σ H) (hq : ∀ i σ H, Pv i σ H → SqL K H a xs)
    (hs : ∀ (i : Nat) (x : V) (T : Addr) (σ : St) (H : Hp), xs[i]? = some x → Pv i σ H → H T = none → g (.ref T) σ (upd H T (.tup [.int (i : Nat), x])) fun σ2 H2 => tb { D with nx := Pv (i + 1), ct := Pv (i + 1), bk := D.nx } σ2 H2) (hd : ∀ σ H, Pv xs.length σ H → D.nx σ H) :
    ∃ W : Nat → Nat → St → Hp → Prop, (∃ m, W 0 m σ H) ∧ ∀ i m σ H, W i m σ H →
      ((Ite K a).stop i H ∧ D.nx σ H) ∨ ((Ite K a).go i H ∧ ∃ N : St → Hp → Prop, (∀ σ' H', N σ' H' → ∃ m', m' < m ∧ W (i + 1) m' σ' H') ∧ ∀ v H', (Ite K a).yld i H v H' → g v σ H' fun σ2 H2 => tb { D with nx := N, ct := N, bk := D.nx } σ2 H2) := by
  refine ⟨fun i m σ H => m = xs.length - i ∧ i ≤ xs.length ∧ Pv i σ H, ⟨xs.length, rfl, Nat.zero_le _, h0⟩, ?_⟩
  rintro i m σ H ⟨rfl, hi, p⟩
  have q := hq i σ H p
  by_cases hlt : i < xs.length
  · have hx : xs[i]? = some xs[i] := List.getElem?_eq_getElem hlt
    refine .inr ⟨⟨xs, xs[i], q, hx⟩, Pv (i + 1), fun σ' H' p' => ⟨xs.length - (i + 1), by omega, rfl, hlt, p'⟩, fun v H' y => ?_⟩
    obtain ⟨T, x, rfl, hT, rfl, hy⟩ := y
    exact hs i x T σ H (hy xs q) p hT
  · have e : i = xs.length := by omega
    subst e
    exact .inl ⟨⟨xs, q, Nat.le_refl _⟩, hd σ H p⟩
end
theorem cut_tail {x : V} {xs : List V} : cutV (x :: xs) (some 1) none = xs := by
  have h1 : HT.sIx (x :: xs).length 0 (some 1) = 1 := by
    rw [show (some (1 : Int)) = some ((1 : Nat) : Int) from rfl, HT.sIx_nat, List.length_cons]
    omega
  unfold cutV
  rw [h1, HT.sIx_none, List.drop_one, List.tail_cons, List.length_cons, Nat.add_sub_cancel, List.take_length]
theorem cut_not {x : V} {xs : List V} : ¬ (HT.sIx (x :: xs).length 0 (some 1) = 0 ∧ HT.sIx (x :: xs).length (x :: xs).length none = (x :: xs).length) := by
  have h1 : HT.sIx (x :: xs).length 0 (some 1) = 1 := by
    rw [show (some (1 : Int)) = some ((1 : Nat) : Int) from rfl, HT.sIx_nat, List.length_cons]
    omega
  rw [h1]
  exact fun z => nomatch z.1
def WaysR (K : PySem.W.Frag) (H : Hp) (r : V) (l : Fnd) : Prop := ∃ a vs, r = .ref a ∧ H a = some (.lst vs) ∧ Fds K H vs l
def AllR (K : PySem.W.Frag) (H : Hp) (r : V) (x : Fnd × Bool) : Prop := ∃ a l vs, r = .ref a ∧ SqT K H a [.ref l, .bl x.2] ∧ H l = some (.lst vs) ∧ Fds K H vs x.1
def spAll (K : PySem.W.Frag) (c : Cx) (n : Nat) : Sp := fun vs H Q _ => ∃ lr lg d wv gvs goals p w, vs = [.ref lr, .ref lg, .ref d, .ref wv] ∧ RulesAt K H lr c.R ∧ SqL K H lg gvs ∧ Trs K H gvs goals ∧ PAt K H d p ∧ H wv = some (.lst (wayV w)) ∧
  OKs (PT 3 c.nb w.length) p ∧ (∀ g ∈ goals, GoalOk c w.length g) ∧ costL c goals ≤ n ∧ w.length + costL c goals ≤ 9 ∧ ∀ H' r, Same H H' → AllR K H' r (A c.R n goals p w) → Q r H'
def spWays (K : PySem.W.Frag) (c : Cx) (n : Nat) : Sp := fun vs H Q _ => ∃ lr v d wv g p w, vs = [.ref lr, v, .ref d, .ref wv] ∧ RulesAt K H lr c.R ∧ Tr K H v g ∧ PAt K H d p ∧ H wv = some (.lst (wayV w)) ∧
  OKs (PT 3 c.nb w.length) p ∧ GoalOk c w.length g ∧ cost c g ≤ n + 1 ∧ w.length + cost c g ≤ 9 ∧ ∀ H' r, Same H H' → WaysR K H' r (waysG (A c.R n) g p w c.R.zipIdx) → Q r H'
theorem pt_size {nb : List Str} {n : Nat} {t : Tm} (h : PT 3 nb n t) : t.size ≤ 7 := by
  have h1 := size_pow t h.ar
  have h2 : 2 ^ t.dep ≤ 2 ^ 3 := Nat.pow_le_pow_right (by omega) h.dep
  omega
theorem body_size {nb : List Str} {n : Nat} : ∀ {l : List Tm}, (∀ t ∈ l, PT 3 nb n t) → Tm.sizeL l ≤ 7 * l.length ∧ Tm.depL l ≤ 3
  | [], _ => by simp [Tm.sizeL, Tm.depL]
  | t :: l, h => by
    obtain ⟨a, b⟩ := body_size (l := l) fun x hx => h x (List.mem_cons_of_mem _ hx)
    have h0 := h t List.mem_cons_self
    have := pt_size h0
    have := h0.dep
    rw [Tm.sizeL, Tm.depL, List.length_cons]
    omega
section
variable {P : Program} {w : World} {K : PySem.W.Frag} {mg : Str → Option Value} {base : Heap} {CX : CXT}
theorem ways_step (T : Txt K mg) {c : Cx} (ok : CxOk c) (hlen : ∀ x ∈ c.nb, x.length ≤ 1000) (n : Nat) (G_law_all : FnOk P w K mg base CX0 (110 + 2 * n) T.d_law_all.f T.d_law_all.fd ["_law_rules", "_law_goals", "_law_puts", "_law_way"] (spAll K c n)) :
    FnOk P w K mg base CX0 (111 + 2 * n) T.d_law_ways_of.f T.d_law_ways_of.fd ["_law_rules", "_law_goal_here", "_law_puts", "_law_way"] (spWays K c n) := by
  have G_law_marked : FnOk P w K mg base CX0 90 T.d_law_marked.f T.d_law_marked.fd ["_law_term", "_law_n"] (spMarkL K) := ok_law_marked T
  have G_law_one : FnOk P w K mg base CX0 102 T.d_law_one.f T.d_law_one.fd ["_law_one_here", "_law_other", "_law_puts"] (spOne K 100) := ok_law_one T 100
  have e111 : 111 + 2 * n = (110 + 2 * n) + 1 := by omega
  rw [e111]
  refine T.d_law_ways_of.F.ok sc_law_ways_of (fun vs H Q E h => ?_) (fun cdv A outer s H vs Q E hr h => ?_)
  · obtain ⟨lr, v, d, wv, g, p, w, rfl, _⟩ := h
    rfl
  · obtain ⟨lr, v, d, wv, g, p, wy, rfl, ⟨rvs, hr1, hr2⟩, hv, hd, hwv, hp, hg, hc1, hc2, k⟩ := h
    have big : (10077800 : Nat) < sizeLine := by decide
    refine ⟨_, (pss_cons (ps_set (i := 4) sc_law_ways_of.nd rfl (Or.inl rfl) (pe_lst pa_nil))
          (pss_cons (ps_for PassesOwn.never rfl (pi_enum (by rfl) T.enumerate (pa_cons (pv 0) pa_nil)) (pg_tup (by rfl) (pgs_cons (pg_name (i := 5) sc_law_ways_of.nd rfl (Or.inl rfl)) (pgs_cons (pg_name (i := 6) sc_law_ways_of.nd rfl (Or.inl rfl)) pgs_nil)))
          (pss_one (ps_if (PW.pt (pw_and (pt_cmpR op_eq (pe_ix ix_tup (pe_ix ix_tup (pv 6) pe_int (fun _ _ => rfl)) pe_int (fun _ _ => rfl)) (pe_ix ix_tup (pv 1) pe_int (fun _ _ => rfl)) (nomark _)) (pw_and1 (pt_cmpR op_eq (pe_callB call_len_seq (by rfl) T.len PySem.boot_len (pa_cons (pe_ix ix_tup (pe_ix ix_tup (pv 6) pe_int (fun _ _ => rfl)) pe_int (fun _ _ => rfl)) pa_nil)) (pe_callB call_len_seq (by rfl) T.len PySem.boot_len (pa_cons (pe_ix ix_tup (pv 1) pe_int (fun _ _ => rfl)) pa_nil)) (nomark _))))) (pss_cons (ps_set (i := 7) sc_law_ways_of.nd rfl (Or.inl rfl) (pe_ix ix_tup (pe_call G_law_marked (hr.mono (by omega)) rfl T.d_law_marked.m T.d_law_marked.k T.d_law_marked.b .nil pass0 (pa_cons (pe_tup (pa_cons pe_str (pa_cons pe_str (pa_cons (pe_op op_catA (pe_tup (pa_cons (pe_ix ix_tup (pv 6) pe_int (fun _ _ => rfl)) pa_nil)) (pe_ix ix_tup (pv 6) pe_int (fun _ _ => rfl))) pa_nil)))) (pa_cons (pe_callB call_len_seq (by rfl) T.len PySem.boot_len (pa_cons (pv 3) pa_nil)) pa_nil))) pe_int (fun _ _ => rfl)))
          (pss_cons (ps_set (i := 8) sc_law_ways_of.nd rfl (Or.inl rfl) (pe_call G_law_one (hr.mono (by omega)) rfl T.d_law_one.m T.d_law_one.k T.d_law_one.b .nil pass0 (pa_cons (pv 1) (pa_cons (pe_ix ix_tup (pv 7) pe_int (fun _ _ => rfl)) (pa_cons (pv 2) pa_nil)))))
          (pss_one (ps_if (pt_cmp (pc_notN (pv 8))) (pss_cons (ps_asg (pe_call G_law_all (hr.mono (by omega)) rfl T.d_law_all.m T.d_law_all.k T.d_law_all.b .nil pass0 (pa_cons (pv 0) (pa_cons (pe_callTy call_list_of (by rfl) T.list (by decide +kernel) (pa_cons (pe_slice sl_tup (pv 7) (po_some pe_int) po_none) pa_nil)) (pa_cons (pv 8) (pa_cons (pe_op op_cat (pv 3) (pe_lst (pa_cons (pe_op op_add (pv 5) pe_int) pa_nil))) pa_nil))))) (pg_tup (by rfl) (pgs_cons (pg_name (i := 9) sc_law_ways_of.nd rfl (Or.inl rfl)) (pgs_cons (pg_name (i := 10) sc_law_ways_of.nd rfl (Or.inl rfl)) pgs_nil))))
          (pss_cons (ps_set (i := 4) sc_law_ways_of.nd rfl (Or.inl rfl) (pe_op op_cat (pv 4) (pv 9)))
          (pss_one (ps_if (pt_val (pv 10)) (pss_one (ps_ret (pv 4))) pss_nil)))) pss_nil)))) pss_nil)))
          (pss_one (ps_ret (pv 4))))), ?_⟩
    refine ⟨Nat.zero_le _, fun l0 hl0 => ?_⟩
    have z0 : Same H (upd H l0 (.lst [])) := same_new hl0
    refine ⟨_, rfl, lr, rvs, rfl, z0.seq hr1, ?_⟩
    have cp := cost_pos c g
    have total := waysA_ok ok n hc2 hp hg
    have gapp := hg.sgn_app
    have hw9 : wy.length ≤ 9 := by omega
    let Pv : Nat → St → Hp → Prop := fun i σ H' => ∃ l vs acc x5 x6 x7 x8 x9 x10, σ = [some (.ref lr), some v, some (.ref d), some (.ref wv), some (.ref l), x5, x6, x7, x8, x9, x10] ∧ Same H H' ∧ H' l = some (.lst vs) ∧ Fds K H' vs acc ∧
      waysG (Gt.A c.R n) g p wy c.R.zipIdx = acc ++ waysG (Gt.A c.R n) g p wy (c.R.zipIdx.drop i)
    refine for_enum (K := K) (a := lr) (xs := rvs) Pv ⟨l0, [], [], _, _, _, _, _, _, rfl, z0, upd_same, trivial, rfl⟩ (fun i σ H' ⟨_, _, _, _, _, _, _, _, _, _, s1, _⟩ => s1.seq hr1) ?_ ?_
    · rintro i x T' σ H' hx ⟨l, vs, acc, x5, x6, x7, x8, x9, x10, rfl, s1, hl, hacc, htot⟩ hT
      obtain ⟨r, hri, hrx⟩ := hr2.get hx
      have hrm := List.mem_of_getElem? hri
      have rk := ok.rule r hrm
      have hi := (List.getElem?_eq_some_iff.mp hri).1
      have hz : i < c.R.zipIdx.length := by rw [List.length_zipIdx]; exact hi
      have ez : c.R.zipIdx.drop i = (r, i) :: c.R.zipIdx.drop (i + 1) := by
        rw [List.drop_eq_getElem_cons hz]
        congr 1
        rw [List.getElem_zipIdx, Nat.zero_add]
        rw [(List.getElem?_eq_some_iff.mp hri).2]
      rw [ez, waysG] at htot
      have s2 := same_new (o := .tup [.int (i : Nat), x]) hT
      have sT := s1.trans s2
      refine ⟨T', _, rfl, SqT.of upd_same, rfl, _, _, rfl, _, _, rfl, rfl, ?_⟩
      have hl' := s2 _ _ hl
      have hacc' := Fds.same s2 hacc
      generalize upd H' T' (.tup [.int (i : Nat), x]) = G at *
      obtain ⟨rp, rq, rv, bvs, rfl, b1, b2, b3, b4⟩ := hrx.samT (same_t sT)
      obtain ⟨hs, hks, eh, _, hkl, hkk⟩ := rk.head
      have hg' := hv.same sT
      rw [gapp] at hg'
      rw [eh] at b2
      obtain ⟨p1, q1, vs1, ev1, a1, a2, a3⟩ := id b2
      obtain ⟨p2, q2, vs2, ev2, c1, c2, c3⟩ := id hg'
      have hc1' : vs1.length = hks.length := a3.f2.len
      have hc2' : vs2.length = (kidsT g).length := c3.f2.len
      have sm : same r.1 g = (decide (hs = sgn g) && decide (hks.length = (kidsT g).length)) := by rw [eh]; rfl
      have skip : same r.1 g = false → Pv (i + 1) [some (V.ref lr), some v, some (V.ref d), some (V.ref wv), some (V.ref l), some (V.int (i : Nat)), some (V.ref rp), x7, x8, x9, x10] G := fun e => by
        rw [if_neg (by rw [e]; exact Bool.false_ne_true)] at htot
        exact ⟨l, vs, acc, _, _, _, _, _, _, rfl, sT, hl', hacc', htot⟩
      refine t_eqS (x_sgn (x_tup (ev_var rfl) b1 rfl) b2) (x_sgn (ev_var rfl) hg') ?_
      cases e1 : decide (hs = sgn g) with
      | false =>
        rw [e1] at sm
        exact iteF (iteF (skip sm))
      | true =>
        refine iteT ?_
        subst ev1
        have e2v : v = .ref p2 := ev2
        subst e2v
        refine t_eqN (x_lenL (x_tup (x_tup (ev_var rfl) b1 rfl) a1 rfl) (.inr a2)) (x_lenL (x_tup (ev_var rfl) c1 rfl) (.inr c2)) ?_
        rw [hc1', hc2']
        cases e2 : decide (hks.length = (kidsT g).length) with
        | false =>
          rw [e1, e2] at sm
          exact iteF (skip sm)
        | true =>
          rw [e1, e2] at sm
          refine iteT ?_
          rw [if_pos (show same r.1 g = true from sm)] at htot
          have bpt : ∀ b ∈ r.2, PT 3 c.nb 0 b := fun b hb => (rk.body b hb).pt
          have hpt := rk.headOk.pt
          obtain ⟨bz, bd⟩ := body_size (l := r.1 :: r.2) fun t ht => by
            rcases List.mem_cons.mp ht with rfl | ht
            · exact hpt
            · exact bpt t ht
          have few := rk.few
          have big2 : (1000 : Nat) < sizeLine := by decide
          rw [List.length_cons] at bz
          have ewl := wayV_len wy
          -- (one[0],) + one[1]
          refine x_cat (xs := [.ref p1]) (ys := bvs) (b := rq) (fun e => nomatch e) (fun R kk => ⟨_, rfl, rp, _, 0, _, rfl, rfl, b1, rfl, (by show 1 ≤ sizeLine; decide), fun t1 ht1 => kk t1 _ (same_new ht1) (SqT.of upd_same)⟩) (fun H1 s3 => x_tup (ev_var rfl) (same_sqt s3 b1) rfl) b3 (by rw [b4.len, List.length_singleton]; omega) (fun tc G2 s3 htc => ?_)
          refine ⟨(by show 3 ≤ sizeLine; decide), fun t3 ht3 => ?_⟩
          have s4 := same_new (o := .tup [.str "app", .str "0", .ref tc]) ht3
          have s34 := s3.trans s4
          have tr0 : Tr K (upd G2 t3 (.tup [.str "app", .str "0", .ref tc])) (.ref t3) (.app "0" (r.1 :: r.2)) :=
            Tr.mk_app upd_same (same_sqt s4 htc) (by rw [eh]; exact ⟨b2.same s34, Trs.same s34 b4⟩)
          refine ⟨_, rfl, wv, _, rfl, .inl (SqL.of ((sT.trans s34) _ _ hwv)), .ref t3, .app "0" (r.1 :: r.2), (wayV wy).length, rfl, tr0, by rw [Tm.size]; omega, by rw [ewl]; omega, fun x hx => ?_, by rw [Tm.dep]; omega, fun G3 v7 s5 hv7 => ?_⟩
          · rw [Tm.vars] at hx
            obtain ⟨k', hk', hx⟩ := varsL_mem.mp hx
            have hp0 : PT 3 c.nb 0 k' := by
              rcases List.mem_cons.mp hk' with rfl | hk'
              · exact hpt
              · exact bpt k' hk'
            rcases Un_mem.mp (hp0.nm x hx) with h | ⟨m, hm, _⟩
            · exact hlen x h
            · exact absurd hm (Nat.not_lt_zero m)
          · rw [ewl] at hv7
            have emk : mkT wy.length (.app "0" (r.1 :: r.2)) = .app "0" (mkT wy.length r.1 :: r.2.map (mkT wy.length)) := by
              show ap _ _ = _
              rw [ap, apL_map]
              rfl
            rw [emk] at hv7
            obtain ⟨p7, q7, vs7, rfl, m1, m2, m3⟩ := hv7
            cases vs7 with
            | nil => exact m3.elim
            | cons h7 b7 =>
            obtain ⟨m4, m5⟩ := m3
            refine ⟨p7, _, 2, _, rfl, rfl, m1, rfl, ?_⟩
            -- made
            have s6 := sT.trans (s34.trans s5)
            have U := uni_ok ok (n := wy.length + 1) (by omega) (hp.mono fun t q => q.mono (Nat.le_refl _) (Nat.le_succ _)) (hg.pt.mono (Nat.le_refl _) (Nat.le_succ _)) (hpt.mark (n := wy.length))
            have hp' : OKs (PT 3 c.nb (wy.length + 1)) p := hp.mono fun t q => q.mono (Nat.le_refl _) (Nat.le_succ _)
            have nb3 := ok.three
            have hU : c.nb.length * (wy.length + 1 + 1) ≤ 2000 := Nat.le_trans (Nat.mul_le_mul nb3 (show wy.length + 1 + 1 ≤ 11 by omega)) (by decide)
            refine ⟨_, rfl, ?_⟩
            refine ⟨_, rfl, q7, _, 0, _, rfl, rfl, m2, atI_nat (j := 0) (show (h7 :: b7)[0]? = some h7 from rfl), ?_⟩
            refine ⟨_, rfl, .ref p2, h7, .ref d, g, mkT wy.length r.1, some p, wy.length + 1, c.nb, 3, rfl, hv.same s6, m4, ⟨d, rfl, hd.same s6⟩, fun p' hp'' => ?_, fun G4 r8 s7 h8 => ?_⟩
            · injection hp'' with hp''
              rw [← hp'']
              exact ⟨hp', hg.pt.mono (Nat.le_refl _) (Nat.le_succ _), hpt.mark, deep_ok ok (by omega) (hg.pt.mono (Nat.le_refl _) (Nat.le_succ _)), deep_ok ok (by omega) hpt.mark, hU, by decide⟩
            · have s8 := s6.trans s7
              have h8' : PO K G4 r8 (uni unifuel g (mkT wy.length r.1) p) := h8
              have hlG := (s34.trans (s5.trans s7)) _ _ hl'
              have haccG := Fds.same (s34.trans (s5.trans s7)) hacc'
              refine ⟨_, rfl, _, rfl, ?_⟩
              cases eU : uni unifuel g (mkT wy.length r.1) p with
              | none =>
                rw [eU] at h8' htot
                have e8 : r8 = .non := h8'
                rw [e8, v_non_non]
                exact iteF ⟨l, vs, acc, _, _, _, _, _, _, rfl, s8, hlG, haccG, htot⟩
              | some q =>
                rw [eU] at h8' htot U
                obtain ⟨d8, rfl, hd8⟩ := h8'
                rw [v_ref_non]
                refine iteT ?_
                have m2' := same_sqt s7 m2
                refine ⟨_, rfl, ?_⟩
                refine ⟨_, rfl, 1, rfl, q7, _, rfl, m2', cut_not, fun t9 ht9 => ?_⟩
                rw [cut_tail]
                have s9 := same_new (o := .tup b7) ht9
                refine ⟨t9, _, rfl, .inr (SqT.of upd_same), fun l9 hl9 => ?_⟩
                have s10 := same_new (o := .lst b7) hl9
                have s910 := s9.trans s10
                refine ⟨_, rfl, ?_⟩
                refine x_way (w := wy) (k := i + 1) (ev_var rfl) ((s8.trans s910) _ _ hwv) (fun R q => ⟨_, rfl, _, _, rfl, rfl, q⟩) rfl (by omega) (fun p9 G9 s11 hp9 hp9' => ?_)
                have s12 := s910.trans s11
                have low := rk.low
                have cs := same_cost (c := c) sm
                have cmk : costL c (r.2.map (mkT wy.length)) = costL c r.2 := costL_mkT c _ _
                refine ⟨lr, l9, d8, p9, b7, r.2.map (mkT wy.length), q, wy ++ [i + 1], rfl, (show RulesAt K H lr c.R from ⟨rvs, hr1, hr2⟩).same (s8.trans s12), SqL.of (s11 _ _ upd_same), Trs.same (s7.trans s12) m5.f2, hd8.same s12, hp9', ?_, ?_, ?_, ?_, fun G10 r10 s13 h10 => ?_⟩
                · rw [way_len]
                  exact U.1
                · intro y hy
                  obtain ⟨b, hb, e⟩ := List.mem_map.mp hy
                  rw [← e, way_len]
                  exact (rk.body b hb).mark
                · rw [cmk]
                  omega
                · rw [cmk, way_len]
                  omega
                · obtain ⟨a10, l10, vs10, rfl, sq10, hl10, fds10⟩ := h10
                  refine ⟨a10, _, rfl, sq10, rfl, _, _, rfl, _, _, rfl, rfl, ?_⟩
                  simp only at htot
                  generalize Gt.A c.R n (r.2.map (mkT wy.length)) q (wy ++ [i + 1]) = mm at *
                  have s14 := s8.trans (s12.trans s13)
                  have hl14 := (s12.trans s13) _ _ hlG
                  have hacc14 := Fds.same (s12.trans s13) haccG
                  have lenV := hacc14.len
                  have lenW := fds10.len
                  have tl := pow9 total.1
                  rw [htot] at tl
                  have tl2 : acc.length + mm.1.length ≤ 279936 := by
                    rw [List.length_append] at tl
                    by_cases e : mm.2 = true
                    · rw [if_pos e] at tl
                      exact tl
                    · rw [if_neg e, List.length_append] at tl
                      omega
                  refine ⟨_, rfl, _, rfl, l, l10, vs, vs10, rfl, rfl, hl14, hl10, by omega, fun p11 hp11 => ?_⟩
                  have s15 := same_new (o := .lst (vs ++ vs10)) hp11
                  have fd15 : Fds K (upd G10 p11 (.lst (vs ++ vs10))) (vs ++ vs10) (acc ++ mm.1) := (Fds.same s15 hacc14).app (Fds.same s15 fds10)
                  refine ⟨_, rfl, _, rfl, ?_⟩
                  cases ek : mm.2 with
                  | true =>
                    rw [if_pos ek] at htot
                    refine iteT ⟨_, rfl, k _ _ (s14.trans s15) ⟨p11, _, rfl, upd_same, ?_⟩⟩
                    rw [htot]
                    exact fd15
                  | false =>
                    rw [if_neg (by rw [ek]; exact Bool.false_ne_true)] at htot
                    refine iteF ⟨p11, vs ++ vs10, acc ++ mm.1, _, _, _, _, _, _, rfl, s14.trans s15, upd_same, fd15, ?_⟩
                    rw [htot, List.append_assoc]
    · rintro σ H' ⟨l, vs, acc, x5, x6, x7, x8, x9, x10, rfl, s1, hl, hacc, htot⟩
      refine ⟨_, rfl, k _ _ s1 ⟨l, vs, rfl, hl, ?_⟩⟩
      have e : rvs.length = c.R.zipIdx.length := by rw [List.length_zipIdx]; exact hr2.len
      rw [e, List.drop_length, waysG, List.append_nil] at htot
      rw [htot]
      exact hacc
end
end Gt
set_option Elab.async false
set_option linter.all false
set_option maxRecDepth 100000
set_option maxHeartbeats 4000000
/-! The law's search; its answers told. -/
namespace Gt
open PySem L2 RZ
def spAllP (K : PySem.W.Frag) (c : Cx) : Nat → Sp
  | 0 => fun _ _ _ _ => False
  | n + 1 => spAll K c n
def spWaysP (K : PySem.W.Frag) (c : Cx) : Nat → Sp
  | 0 => fun _ _ _ _ => False
  | n + 1 => spWays K c n
theorem laterA_ok {c : Cx} (ok : CxOk c) (n : Nat) {g : Tm} {p : Puts} {w : Way} (hc : w.length + cost c g ≤ 9) (hp : OKs (PT 3 c.nb w.length) p) (gk : GoalOk c w.length g) :
    Fos c w.length (w.length + cost c g) (6 ^ cost c g) (laterOf (A c.R n) c.R g p w) := by
  have hcp := cost_pos c g
  have p1 : ∀ k : Nat, 1 ≤ 6 ^ k := fun k => Nat.one_le_pow _ _ (by omega)
  have one : ∀ q, OKs (PT 3 c.nb w.length) q → Fos c w.length (w.length + cost c g) (6 ^ cost c g) [(q, w ++ [0])] := fun q hq => one_ok hcp hq (p1 _)
  have nil : Fos c w.length (w.length + cost c g) (6 ^ cost c g) [] := ⟨Nat.zero_le _, fun x hx => nomatch hx⟩
  unfold laterOf
  by_cases e1 : sgn g = "="
  · rw [if_pos e1]
    obtain ⟨i, hk, gk⟩ : ∃ i, i = w.length ∧ GoalOk c i g := ⟨_, rfl, gk⟩
    cases gk with
    | keep => exact absurd e1 s_ek.symm
    | no => exact absurd e1 s_ne
    | named a _ _ => exact absurd e1 (ok.word _ a).2.1
    | @eq a b ha hb =>
      rw [hk] at ha hb
      have U := uni_ok ok (n := w.length) (by omega) hp (ha.mono (by omega) (Nat.le_refl _)) (hb.mono (by omega) (Nat.le_refl _))
      simp only [kidsT, eqOf]
      cases eU : uni unifuel a b p with
      | none => exact nil
      | some q =>
        rw [eU] at U
        exact one q U.1
  · rw [if_neg e1]
    by_cases e2 : sgn g = "not"
    · rw [if_pos e2]
      obtain ⟨i, hk, gk⟩ : ∃ i, i = w.length ∧ GoalOk c i g := ⟨_, rfl, gk⟩
      cases gk with
      | keep => exact absurd e2 s_nk.symm
      | eq _ _ => exact absurd rfl e1
      | named a _ _ => exact absurd e2 (ok.word _ a).2.2.1
      | @no k =>
        simp only [kidsT, notOf]
        unfold noneYet
        split
        · exact one p hp
        · exact nil
    · rw [if_neg e2]
      exact waysA_ok ok n hc hp gk
section
variable {P : Program} {w : World} {K : PySem.W.Frag} {mg : Str → Option Value} {base : Heap} {CX : CXT}
theorem ok_law_told (T : Txt K mg) : FnOk P w K mg base CX0 95 T.d_law_told.f T.d_law_told.fd ["_law_names_here", "_law_puts", "_law_way"] (spLTold K) := by
  have G_law_anew : FnOk P w K mg base CX0 90 T.d_law_anew.f T.d_law_anew.fd ["_law_term"] (spAnew K) := ok_law_anew T
  have G_law_read : FnOk P w K mg base CX0 71 T.d_law_read.f T.d_law_read.fd ["_law_term", "_law_puts"] (spPutIn K 70) := ok_law_read T 70
  refine T.d_law_told.F.ok (k := 94) sc_law_told (fun vs H Q E h => ?_) (fun cdv A outer s H vs Q E hr h => ?_)
  · obtain ⟨ln, d, wv, asked, p, n, nb, rfl, _⟩ := h
    rfl
  · obtain ⟨ln, d, wv, asked, p, n, nb, rfl, hl, hd, hp, ha, hz, k⟩ := h
    have big : (2000 : Nat) < sizeLine := by decide
    refine ⟨_, (pss_cons (ps_set (i := 3) sc_law_told.nd rfl (Or.inl rfl) (pe_call G_law_anew (hr.mono (by omega)) rfl T.d_law_anew.m T.d_law_anew.k T.d_law_anew.b .nil pass0 (pa_cons (pe_tup (pa_cons pe_str (pa_cons pe_str (pa_cons (pe_callTy call_tuple_of (by rfl) T.tuple (by decide +kernel) (pa_cons (pe_lc (own := [("_law_name", 4)]) (g := gName 4) rfl sc_law_told.nd (pi_list (pv 0)) (blkOk_by (own := [("_law_name", 4)]) (N := ["_law_names_here", "_law_puts", "_law_way", "_law_due", "_law_name"]) (sc := defScope s_law_told) (by decide +kernel)) (fun _ _ _ _ _ => (pg_name (i := 4) sc_law_told.nd rfl (Or.inl rfl))) (fun _ _ _ _ _ => pts_nil) (fun _ _ _ _ _ => (pe_call G_law_read (hr.mono (by omega)) rfl T.d_law_read.m T.d_law_read.k T.d_law_read.b .nil pass0 (pa_cons (pe_tup (pa_cons pe_str (pa_cons (pv 4) pa_nil))) (pa_cons (pv 1) pa_nil))))) pa_nil)) pa_nil)))) pa_nil)))
          (pss_one (ps_ret (pe_tup (pa_cons (pe_lstZip (by rfl) (by rfl) T.list (by rfl) T.zip (pa_cons (pv 0) (pa_cons (pe_ix ix_tup (pv 3) pe_int (fun _ _ => rfl)) pa_nil))) (pa_cons (pv 2) pa_nil)))))), ?_⟩
    have lz : asked.length ≤ 900 := by
      have h1 := sizeL_len ((asT asked).map (rd p))
      have h2 : (asT asked).length = asked.length := List.length_map _
      rw [List.length_map] at h1
      omega
    have dz : Tm.depL ((asT asked).map (rd p)) ≤ 70 := depL_le.mpr fun t ht => by
      obtain ⟨y, hy, rfl⟩ := List.mem_map.mp ht
      obtain ⟨x, hx, rfl⟩ := List.mem_map.mp hy
      exact (ha x hx).2
    have f2n : F2 (fun v x => v = V.str x) (asked.map V.str) asked := F2.of_map (f := V.str) (fun _ => rfl) asked
    refine ⟨_, rfl, ln, rfl, ⟨_, hl⟩, fun D hD => ?_⟩
    refine lc_mapL (as := asked) (In := fun _ v x => v = V.str x) (Out := Tr K) (φ := fun x => rd p (.any x)) hD hl f2n (by omega) (fun s h => h) (fun o h => h.samT o.t) (fun v x H1 R hx s1 hin kk => ?_) (fun H1 ws s1 h1 h2 => ?_)
    · subst hin
      refine ⟨_, rfl, (by show 2 ≤ sizeLine; decide), fun t ht => ?_⟩
      have s2 := same_new (o := .tup [.str "any", .str x]) ht
      exact ⟨_, rfl, .ref t, d, .any x, p, n, nb, rfl, Tr.mk_any upd_same, hd.same (s1.trans s2), hp, (ha x hx).1, (ha x hx).2, fun H' v' s3 ho => kk H' v' (s2.trans s3) ho⟩
    · have em : (asked.map fun x => rd p (.any x)) = (asT asked).map (rd p) := by unfold asT; rw [List.map_map]; rfl
      rw [em] at h2
      generalize hT : (asT asked).map (rd p) = Ts at *
      refine ⟨D, ws, rfl, .inl ⟨SqL.of h1, fun q hq => ⟨(by show 3 ≤ sizeLine; decide), fun a haa => ?_⟩⟩⟩
      have s2 := same_new (o := .tup ws) hq
      have s3 := same_new (o := .tup [.str "app", .str "0", .ref q]) haa
      have tr0 : Tr K (upd (upd H1 q (.tup ws)) a (.tup [.str "app", .str "0", .ref q])) (.ref a) (.app "0" Ts) := Tr.mk_app upd_same (SqT.of (s3 _ _ upd_same)) (h2.imp fun v t h => h.same (s2.trans s3))
      refine ⟨.ref a, .app "0" Ts, rfl, tr0, by rw [Tm.size]; omega, by rw [Tm.dep]; omega, fun H2 v2 s4 hv2 => ?_⟩
      have hv2 : Tr K H2 v2 (.app "0" (toldL Ts)) := hv2
      have s5 := s1.trans ((s2.trans s3).trans s4)
      obtain ⟨p2, q2, vs2, rfl, e1, e2, e3⟩ := hv2
      have l2 := e3.f2.len
      rw [toldL_len] at l2
      have lT : Ts.length = asked.length := by rw [← hT]; unfold asT; rw [List.length_map, List.length_map]
      refine ⟨_, rfl, _, rfl, p2, _, 2, _, rfl, rfl, e1, rfl, ln, q2, _, vs2, rfl, s5.seq hl, .inr e2, by rw [List.length_map]; omega, fun q9 ps H3 hq9 s6 hq9' lps hpair => ?_⟩
      refine ⟨_, rfl, (by show 2 ≤ sizeLine; decide), fun a9 ha9 => ?_⟩
      have s7 := same_new (o := .tup [.ref q9, .ref wv]) ha9
      refine k _ _ (s5.trans (s6.trans s7)) ⟨a9, q9, ps.map V.ref, rfl, SqT.of upd_same, s7 _ _ hq9', ?_⟩
      have pr : ∀ (ps : List Addr) (xs : List Str) (vs : List V) (ts : List Tm), ps.length = xs.length → F2 (Tr K H2) vs ts → xs.length = ts.length → (∀ (j : Nat) (p : Addr) (x y : V), ps[j]? = some p → (xs.map V.str)[j]? = some x → vs[j]? = some y → H3 p = some (.tup [x, y])) →
          F2 (Pair K (upd H3 a9 (.tup [.ref q9, .ref wv]))) (ps.map V.ref) (xs.zip ts) := by
        intro ps
        induction ps with
        | nil => intro xs vs ts h1 _ _ _; cases xs with
          | nil => trivial
          | cons _ _ => simp at h1
        | cons p0 ps ih => intro xs vs ts h1 h2 h3 h4; cases xs with
          | nil => simp at h1
          | cons x xs => cases ts with
            | nil => simp at h3
            | cons t ts => cases vs with
              | nil => exact h2.elim
              | cons v vs =>
                refine ⟨⟨p0, v, rfl, SqT.of (s7 _ _ (h4 0 p0 (.str x) v rfl rfl rfl)), h2.1.same (s6.trans s7)⟩, ih xs vs ts (by simpa using h1) h2.2 (by simpa using h3) fun j p y z e1 e2 e3 => h4 (j + 1) p y z e1 e2 e3⟩
      refine pr ps asked vs2 (toldL Ts) ?_ e3.f2 (by rw [toldL_len]; omega) hpair
      rw [List.length_map] at lps
      exact lps
end
end Gt
set_option Elab.async false
set_option linter.all false
set_option maxRecDepth 100000
set_option maxHeartbeats 4000000
/-! The law's search. -/
namespace Gt
open PySem L2 RZ
section
variable {P : Program} {w : World} {K : PySem.W.Frag} {mg : Str → Option Value} {base : Heap} {CX : CXT}
def tTail (K : PySem.W.Frag) (sp : Sp) : TS :=
  tSeq (tAsg (tLst tNil) (gName 7))
    (tSeq (tFor (iList K (tVar 5)) (gTup K 2 (gCons (gName 6) (gCons (gName 8) gNil)))
      (tSeq (tAsg (tCall sp [] E0 (tCons (tVar 0) (tCons (tSl (rSlL K) (tVar 1) (tPart (tC (.int 1))) tNoPart) (tCons (tVar 6) (tCons (tVar 8) tNil))))) (gTup K 2 (gCons (gName 9) (gCons (gName 10) gNil))))
        (tSeq (tAsg (tOp rCat (tVar 7) (tVar 9)) (gName 7)) (tIfS (tB (tVar 10)) (tRet (tTup (tCons (tVar 7) (tCons (tC (.bl true)) tNil)))) tNext))))
      (tRet (tTup (tCons (tVar 7) (tCons (tC (.bl false)) tNil)))))
theorem tail_run {c : Cx} {n : Nat} {lr lg d wv l5 : Addr} {gv gv0 : V} {gvs : List V} {x6 x7 x8 x9 x10 : Option V} {Hx : Hp} {g : Tm} {rest : List Tm} {w : Way} {L : Fnd} {vs5 : List V} {Q : VK}
    (hrs : RulesAt K Hx lr c.R) (hlg : SqL K Hx lg (gv0 :: gvs)) (hgs : Trs K Hx gvs rest) (h5 : Hx l5 = some (.lst vs5)) (f5 : Fds K Hx vs5 L) (hL : Fos c w.length (w.length + cost c g) (6 ^ cost c g) L) (hg : ∀ x ∈ rest, GoalOk c w.length x)
    (hc1 : costL c rest ≤ n) (hc2 : w.length + (cost c g + costL c rest) ≤ 9) (hT : (laterG (Gt.A c.R n rest) L).1.length ≤ 10077696) (k : ∀ H' r, Same Hx H' → AllR K H' r (laterG (Gt.A c.R n rest) L) → Q r H') :
    tTail K (spAll K c n) { nx := fun _ H' => Q .non H', rt := Q } [some (.ref lr), some (.ref lg), some (.ref d), some (.ref wv), some gv, some (.ref l5), x6, x7, x8, x9, x10] Hx := by
  have big : (10077800 : Nat) < sizeLine := by decide
  refine ⟨Nat.zero_le _, fun l7 hl7 => ?_⟩
  have z0 := same_new (o := .lst []) hl7
  refine ⟨_, rfl, l5, rfl, ⟨_, SqL.of (z0 _ _ h5)⟩, ?_⟩
  let Pv : Nat → St → Hp → Prop := fun i σ H' => ∃ l7 vs7 acc x6 x8 x9 x10, σ = [some (.ref lr), some (.ref lg), some (.ref d), some (.ref wv), some gv, some (.ref l5), x6, some (.ref l7), x8, x9, x10] ∧ Same Hx H' ∧ H' l7 = some (.lst vs7) ∧ Fds K H' vs7 acc ∧
    laterG (Gt.A c.R n rest) L = (acc ++ (laterG (Gt.A c.R n rest) (L.drop i)).1, (laterG (Gt.A c.R n rest) (L.drop i)).2)
  refine for_list (K := K) (a := l5) (xs := vs5) Pv ⟨l7, [], [], _, _, _, _, rfl, z0, upd_same, trivial, rfl⟩ (fun i σ H' _ ⟨_, _, _, _, _, _, _, _, s1, _⟩ => SqL.of (s1 _ _ h5)) ?_ ?_
  · rintro i x σ H' hx ⟨l7, vs7, acc, x6, x8, x9, x10, rfl, s1, hl, hacc, htot⟩
    obtain ⟨y, hy, fy⟩ := f5.get hx
    obtain ⟨q, w'⟩ := y
    obtain ⟨a6, d6, wv6, rfl, e1, e2, e3⟩ := fy.same s1
    have hi := (List.getElem?_eq_some_iff.mp hy).1
    have fo := hL.2 _ (List.mem_of_getElem? hy)
    have ed : L.drop i = (q, w') :: L.drop (i + 1) := by
      rw [List.drop_eq_getElem_cons hi, (List.getElem?_eq_some_iff.mp hy).2]
    rw [ed] at htot
    obtain ⟨t1, t2⟩ := laterG_all _ _ _ _ _ _ htot
    refine ⟨a6, _, rfl, e1, rfl, _, _, rfl, _, _, rfl, rfl, ?_⟩
    refine ⟨_, rfl, _, rfl, 1, rfl, lg, _, rfl, s1.seq hlg, fun t ht => ?_⟩
    rw [cut_tail]
    have s2 := same_new (o := .lst gvs) ht
    have fohi := fo.hi
    have folo := fo.lo
    simp only at fohi folo
    refine ⟨_, rfl, _, rfl, lr, t, d6, wv6, gvs, rest, q, w', rfl, hrs.same (s1.trans s2), SqL.of upd_same, Trs.same (s1.trans s2) hgs, e2.same s2, s2 _ _ e3, fo.ok, fun y hy => (hg y hy).mono folo, hc1, by omega, fun H3 r3 s3 h3 => ?_⟩
    obtain ⟨a10, l10, vs10, rfl, sq10, hl10, fds10⟩ := h3
    refine ⟨a10, _, rfl, sq10, rfl, _, _, rfl, _, _, rfl, rfl, ?_⟩
    generalize Gt.A c.R n rest q w' = mm at *
    have s23 := s2.trans s3
    have hl3 := s23 _ _ hl
    have hacc3 := Fds.same s23 hacc
    have lenV := hacc3.len
    have lenW := fds10.len
    have tl2 : acc.length + mm.1.length ≤ 10077696 := by
      rw [← List.length_append]
      cases ek : mm.2 with
      | true =>
        rw [t1 ek] at hT
        exact hT
      | false =>
        rw [t2 ek] at hT
        simp only at hT
        rw [List.length_append] at hT
        omega
    refine ⟨_, rfl, _, rfl, l7, l10, vs7, vs10, rfl, rfl, hl3, hl10, by omega, fun p11 hp11 => ?_⟩
    have s15 := same_new (o := .lst (vs7 ++ vs10)) hp11
    have fd15 : Fds K (upd H3 p11 (.lst (vs7 ++ vs10))) (vs7 ++ vs10) (acc ++ mm.1) := (Fds.same s15 hacc3).app (Fds.same s15 fds10)
    have s16 := s1.trans (s23.trans s15)
    refine ⟨_, rfl, _, rfl, ?_⟩
    cases ek : mm.2 with
    | true =>
      refine iteT ⟨_, rfl, (by show 2 ≤ sizeLine; decide), fun a12 ha12 => ?_⟩
      have s17 := same_new (o := .tup [.ref p11, .bl true]) ha12
      refine k _ _ (s16.trans s17) ?_
      rw [t1 ek]
      exact ⟨a12, p11, _, rfl, SqT.of upd_same, s17 _ _ upd_same, Fds.same s17 fd15⟩
    | false =>
      exact iteF ⟨p11, _, _, _, _, _, _, rfl, s16, upd_same, fd15, t2 ek⟩
  · rintro σ H' ⟨l7, vs7, acc, x6, x8, x9, x10, rfl, s1, hl, hacc, htot⟩
    refine ⟨_, rfl, (by show 2 ≤ sizeLine; decide), fun a12 ha12 => ?_⟩
    have s17 := same_new (o := .tup [.ref l7, .bl false]) ha12
    refine k _ _ (s1.trans s17) ?_
    have e : vs5.length = L.length := f5.len
    rw [e, List.drop_length, laterG, List.append_nil] at htot
    rw [htot]
    exact ⟨a12, l7, _, rfl, SqT.of upd_same, s17 _ _ hl, Fds.same s17 hacc⟩
theorem all_step (T : Txt K mg) {c : Cx} (ok : CxOk c) (hlen : ∀ x ∈ c.nb, x.length ≤ 1000) (n : Nat) (G_law_all : FnOk P w K mg base CX0 (108 + 2 * n) T.d_law_all.f T.d_law_all.fd ["_law_rules", "_law_goals", "_law_puts", "_law_way"] (spAllP K c n))
    (G_law_ways_of : FnOk P w K mg base CX0 (109 + 2 * n) T.d_law_ways_of.f T.d_law_ways_of.fd ["_law_rules", "_law_goal_here", "_law_puts", "_law_way"] (spWaysP K c n)) :
    FnOk P w K mg base CX0 (110 + 2 * n) T.d_law_all.f T.d_law_all.fd ["_law_rules", "_law_goals", "_law_puts", "_law_way"] (spAll K c n) := by
  have G_law_one : FnOk P w K mg base CX0 102 T.d_law_one.f T.d_law_one.fd ["_law_one_here", "_law_other", "_law_puts"] (spOne K 100) := ok_law_one T 100
  have e110 : 110 + 2 * n = (109 + 2 * n) + 1 := by omega
  rw [e110]
  refine T.d_law_all.F.ok sc_law_all (fun vs H Q E h => ?_) (fun cdv A outer s H vs Q E hr h => ?_)
  · obtain ⟨lr, lg, d, wv, gvs, goals, p, w, rfl, _⟩ := h
    rfl
  · obtain ⟨lr, lg, d, wv, gvs, goals, p, wy, rfl, hrs, hlg, hgs, hd, hwv, hp, hg, hc1, hc2, k⟩ := h
    have big : (10077800 : Nat) < sizeLine := by decide
    refine ⟨_, (pss_cons (ps_if (pt_cmpR (op_eqNil hr.units) (pv 1) (pe_lst pa_nil) (nomark _)) (pss_one (ps_ret (pe_tup (pa_cons (pe_lst (pa_cons (pe_tup (pa_cons (pv 2) (pa_cons (pv 3) pa_nil))) pa_nil)) (pa_cons pe_bl pa_nil))))) pss_nil)
          (pss_cons (ps_set (i := 4) sc_law_all.nd rfl (Or.inl rfl) (pe_ix ix_list (pv 1) pe_int (fun _ _ => rfl)))
          (pss_cons (ps_set (i := 5) sc_law_all.nd rfl (Or.inl rfl) (pe_lst pa_nil))
          (pss_cons (ps_if (pt_cmpR op_eq (pe_ix ix_tup (pv 4) pe_int (fun _ _ => rfl)) pe_str (nomark _)) (pss_one (ps_ret (pe_tup (pa_cons (pe_ix ix_tup (pe_call G_law_all (hr.mono (by omega)) rfl T.d_law_all.m T.d_law_all.k T.d_law_all.b .nil pass0 (pa_cons (pv 0) (pa_cons (pe_slice sl_list (pv 1) (po_some pe_int) po_none) (pa_cons (pv 2) (pa_cons (pe_op op_cat (pv 3) (pe_lst (pa_cons pe_int pa_nil))) pa_nil))))) pe_int (fun _ _ => rfl)) (pa_cons pe_bl pa_nil))))) pss_nil)
          (pss_cons (ps_if (pt_cmpR op_eq (pe_ix ix_tup (pv 4) pe_int (fun _ _ => rfl)) pe_str (nomark _)) (pss_cons (ps_set (i := 6) sc_law_all.nd rfl (Or.inl rfl) (pe_call G_law_one (hr.mono (by omega)) rfl T.d_law_one.m T.d_law_one.k T.d_law_one.b .nil pass0 (pa_cons (pe_ix ix_tup (pe_ix ix_tup (pv 4) pe_int (fun _ _ => rfl)) pe_int (fun _ _ => rfl)) (pa_cons (pe_ix ix_tup (pe_ix ix_tup (pv 4) pe_int (fun _ _ => rfl)) pe_int (fun _ _ => rfl)) (pa_cons (pv 2) pa_nil)))))
          (pss_one (ps_if (pt_cmp (pc_notN (pv 6))) (pss_one (ps_set (i := 5) sc_law_all.nd rfl (Or.inl rfl) (pe_lst (pa_cons (pe_tup (pa_cons (pv 6) (pa_cons (pe_op op_cat (pv 3) (pe_lst (pa_cons pe_int pa_nil))) pa_nil))) pa_nil)))) pss_nil))) (pss_one (ps_if (pt_cmpR op_eq (pe_ix ix_tup (pv 4) pe_int (fun _ _ => rfl)) pe_str (nomark _)) (pss_one (ps_if (pt_cmpR (op_eqNil hr.units) (pe_call G_law_ways_of (hr.mono (by omega)) rfl T.d_law_ways_of.m T.d_law_ways_of.k T.d_law_ways_of.b .nil pass0 (pa_cons (pv 0) (pa_cons (pe_ix ix_tup (pe_ix ix_tup (pv 4) pe_int (fun _ _ => rfl)) pe_int (fun _ _ => rfl)) (pa_cons (pv 2) (pa_cons (pv 3) pa_nil))))) (pe_lst pa_nil) (nomark _)) (pss_one (ps_set (i := 5) sc_law_all.nd rfl (Or.inl rfl) (pe_lst (pa_cons (pe_tup (pa_cons (pv 2) (pa_cons (pe_op op_cat (pv 3) (pe_lst (pa_cons pe_int pa_nil))) pa_nil))) pa_nil)))) pss_nil)) (pss_one (ps_set (i := 5) sc_law_all.nd rfl (Or.inl rfl) (pe_call G_law_ways_of (hr.mono (by omega)) rfl T.d_law_ways_of.m T.d_law_ways_of.k T.d_law_ways_of.b .nil pass0 (pa_cons (pv 0) (pa_cons (pv 4) (pa_cons (pv 2) (pa_cons (pv 3) pa_nil))))))))))
          (pss_cons (ps_set (i := 7) sc_law_all.nd rfl (Or.inl rfl) (pe_lst pa_nil))
          (pss_cons (ps_for PassesOwn.never rfl (pi_list (pv 5)) (pg_tup (by rfl) (pgs_cons (pg_name (i := 6) sc_law_all.nd rfl (Or.inl rfl)) (pgs_cons (pg_name (i := 8) sc_law_all.nd rfl (Or.inl rfl)) pgs_nil)))
          (pss_cons (ps_asg (pe_call G_law_all (hr.mono (by omega)) rfl T.d_law_all.m T.d_law_all.k T.d_law_all.b .nil pass0 (pa_cons (pv 0) (pa_cons (pe_slice sl_list (pv 1) (po_some pe_int) po_none) (pa_cons (pv 6) (pa_cons (pv 8) pa_nil))))) (pg_tup (by rfl) (pgs_cons (pg_name (i := 9) sc_law_all.nd rfl (Or.inl rfl)) (pgs_cons (pg_name (i := 10) sc_law_all.nd rfl (Or.inl rfl)) pgs_nil))))
          (pss_cons (ps_set (i := 7) sc_law_all.nd rfl (Or.inl rfl) (pe_op op_cat (pv 7) (pv 9)))
          (pss_one (ps_if (pt_val (pv 10)) (pss_one (ps_ret (pe_tup (pa_cons (pv 7) (pa_cons pe_bl pa_nil))))) pss_nil)))))
          (pss_one (ps_ret (pe_tup (pa_cons (pv 7) (pa_cons pe_bl pa_nil)))))))))))), ?_⟩
    refine ⟨_, rfl, Nat.zero_le _, fun e0 he0 => ?_⟩
    have z0 := same_new (o := .lst []) he0
    refine ⟨lg, e0, gvs, rfl, rfl, z0.seq hlg, SqL.of upd_same, _, rfl, ?_⟩
    cases goals with
    | nil =>
      cases gvs with
      | cons _ _ => exact hgs.elim
      | nil =>
        refine iteT ⟨_, rfl, _, rfl, (by show 2 ≤ sizeLine; decide), fun t1 ht1 => ⟨(by show 1 ≤ sizeLine; decide), fun l1 hl1 => ⟨(by show 2 ≤ sizeLine; decide), fun a1 ha1 => ?_⟩⟩⟩
        have s1 := same_new (o := .tup [.ref d, .ref wv]) ht1
        have s2 := same_new (o := .lst [.ref t1]) hl1
        have s3 := same_new (o := .tup [.ref l1, .bl false]) ha1
        have s123 := z0.trans (s1.trans (s2.trans s3))
        refine k _ _ s123 ?_
        rw [A_nil]
        exact ⟨a1, l1, [.ref t1], rfl, SqT.of upd_same, s3 _ _ upd_same, ⟨t1, d, wv, rfl, SqT.of ((s2.trans s3) _ _ upd_same), hd.same s123, s123 _ _ hwv⟩, trivial⟩
    | cons g rest =>
      cases gvs with
      | nil => exact hgs.elim
      | cons gv gvs =>
        obtain ⟨hgv, hgs⟩ := hgs
        have cg := cost_pos c g
        have hc1' := hc1
        have hc2' := hc2
        rw [costL] at hc1' hc2'
        obtain ⟨n', rfl⟩ : ∃ n', n = n' + 1 := ⟨n - 1, by omega⟩
        have gk := hg g List.mem_cons_self
        have gapp := gk.sgn_app
        have rk : ∀ x ∈ rest, GoalOk c wy.length x := fun x hx => hg x (List.mem_cons_of_mem _ hx)
        have Aeq : Gt.A c.R (n' + 1) (g :: rest) p wy = if sgn g = "keep" then ((Gt.A c.R n' rest p (wy ++ [0])).1, true) else laterG (Gt.A c.R n' rest) (laterOf (Gt.A c.R n') c.R g p wy) := by rw [Gt.A]
        refine iteF ?_
        have hlg0 := z0.seq hlg
        refine ⟨_, rfl, lg, _, 0, gv, rfl, rfl, hlg0, atI_nat (j := 0) (show (gv :: gvs)[0]? = some gv from rfl), ?_⟩
        refine ⟨Nat.zero_le _, fun l5 hl5 => ?_⟩
        have z1 := same_new (o := .lst []) hl5
        have z01 := z0.trans z1
        have h5 : upd (upd H e0 (.lst [])) l5 (.lst []) l5 = some (.lst []) := upd_same
        generalize upd (upd H e0 (.lst [])) l5 (.lst []) = G at *
        have hlg1 := z01.seq hlg
        have hgs1 := Trs.same z01 hgs
        have hrs1 := hrs.same z01
        have hd1 := hd.same z01
        have hwv1 := z01 _ _ hwv
        have tr1 := hgv.same z01
        rw [gapp] at tr1
        have tr2 : Tr K G gv g := hgv.same z01
        refine t_eqS (x_sgn (ev_var rfl) tr1) ev_str ?_
        by_cases ek : sgn g = "keep"
        · rw [decide_eq_true ek]
          refine iteT ?_
          refine ⟨_, rfl, _, rfl, 1, rfl, lg, _, rfl, hlg1, fun t ht => ?_⟩
          rw [cut_tail]
          have s2 := same_new (o := .lst gvs) ht
          refine ⟨_, rfl, ?_⟩
          refine x_way (w := wy) (k := 0) (ev_var rfl) (s2 _ _ hwv1) ev_int rfl (by omega) (fun p9 G9 s3 hp9 hp9' => ?_)
          have s23 := s2.trans s3
          refine ⟨lr, t, d, p9, gvs, rest, p, wy ++ [0], rfl, hrs1.same s23, SqL.of (s3 _ _ upd_same), Trs.same s23 hgs1, hd1.same s23, hp9', by rw [way_len]; exact hp.mono fun t q => q.mono (Nat.le_refl _) (Nat.le_succ _), fun x hx => (rk x hx).mono (by rw [way_len]; omega), by omega, by rw [way_len]; omega, fun H3 r3 s4 h3 => ?_⟩
          obtain ⟨a10, l10, vs10, rfl, sq10, hl10, fds10⟩ := h3
          refine ⟨a10, _, 0, _, rfl, rfl, sq10, rfl, (by show 2 ≤ sizeLine; decide), fun a11 ha11 => ?_⟩
          have s5 := same_new (o := .tup [.ref l10, .bl true]) ha11
          refine k _ _ (z01.trans (s23.trans (s4.trans s5))) ?_
          rw [Aeq, if_pos ek]
          exact ⟨a11, l10, vs10, rfl, SqT.of upd_same, s5 _ _ hl10, Fds.same s5 fds10⟩
        · rw [decide_eq_false ek]
          refine iteF ?_
          rw [if_neg ek] at Aeq
          have LO := laterA_ok ok n' (g := g) (by omega) hp gk
          have tot := A_ok ok (n' + 1) (g :: rest) p wy hc2 hp hg
          have tot1 := pow9L tot.1 (by omega)
          rw [Aeq] at tot1
          have fin : ∀ (x6 : Option V) (l5 : Addr) (G2 : Hp) (vs5 : List V), Same G G2 → G2 l5 = some (.lst vs5) → Fds K G2 vs5 (laterOf (Gt.A c.R n') c.R g p wy) →
              tTail K (spAll K c n') { nx := fun _ H' => Q .non H', rt := Q } [some (.ref lr), some (.ref lg), some (.ref d), some (.ref wv), some gv, some (.ref l5), x6, none, none, none, none] G2 := fun x6 l5 G2 vs5 s2 h5 f5 =>
            tail_run (g := g) (hrs1.same s2) (s2.seq hlg1) (Trs.same s2 hgs1) h5 f5 LO rk (by omega) hc2' tot1 fun H' r s3 hr => k H' r (z01.trans (s2.trans s3)) (by rw [Aeq]; exact hr)
          refine t_eqS (x_sgn (ev_var rfl) tr1) ev_str ?_
          by_cases eq : sgn g = "="
          · rw [decide_eq_true eq]
            refine iteT ?_
            have geq : ∃ a b, g = .app "=" [a, b] ∧ PT 2 c.nb wy.length a ∧ PT 2 c.nb wy.length b := by
              generalize wy.length = i at gk
              cases gk with
              | keep => exact absurd eq s_ek.symm
              | no => exact absurd eq s_ne
              | named a _ _ => exact absurd eq (ok.word _ a).2.1
              | eq ha hb => exact ⟨_, _, rfl, ha, hb⟩
            obtain ⟨a, b, rfl, pa, pb⟩ := geq
            obtain ⟨p1, q1, vs1, rfl, a1, a2, a3⟩ := id tr2
            cases vs1 with
            | nil => exact a3.elim
            | cons va vs1 =>
            cases vs1 with
            | nil => exact a3.2.elim
            | cons vb vs1 =>
            obtain ⟨ta, tb, tn⟩ := a3
            cases vs1 with
            | cons _ _ => exact tn.elim
            | nil =>
            have hn10 : wy.length ≤ 10 := by omega
            have pa3 := pa.mono (show 2 ≤ 3 by omega) (Nat.le_refl _)
            have pb3 := pb.mono (show 2 ≤ 3 by omega) (Nat.le_refl _)
            have nb3 := ok.three
            have hU : c.nb.length * (wy.length + 1) ≤ 2000 := Nat.le_trans (Nat.mul_le_mul nb3 (show wy.length + 1 ≤ 11 by omega)) (by decide)
            refine ⟨_, rfl, p1, _, 2, _, rfl, rfl, a1, rfl, q1, _, 0, va, rfl, rfl, a2, rfl, _, rfl, p1, _, 2, _, rfl, rfl, a1, rfl, q1, _, 1, vb, rfl, rfl, a2, rfl, _, rfl, ?_⟩
            refine ⟨va, vb, .ref d, a, b, some p, wy.length, c.nb, 3, rfl, ta, tb, ⟨d, rfl, hd1⟩, fun p' hp'' => ?_, fun G4 r8 s7 h8 => ?_⟩
            · injection hp'' with hp''
              rw [← hp'']
              exact ⟨hp, pa3, pb3, deep_ok ok hn10 pa3, deep_ok ok hn10 pb3, hU, by decide⟩
            · have h8' : PO K G4 r8 (uni unifuel a b p) := h8
              have elt : laterOf (Gt.A c.R n') c.R (.app "=" [a, b]) p wy = match uni unifuel a b p with
                  | none => []
                  | some q => [(q, wy ++ [0])] := by
                unfold laterOf
                rw [if_pos (show sgn (Tm.app "=" [a, b]) = "=" from rfl)]
                rfl
              rw [elt] at fin
              refine ⟨_, rfl, _, rfl, ?_⟩
              cases eU : uni unifuel a b p with
              | none =>
                rw [eU] at h8' fin
                have e8 : r8 = .non := h8'
                rw [e8, v_non_non]
                exact iteF (fin _ l5 G4 [] s7 (s7 _ _ h5) trivial)
              | some q =>
                rw [eU] at h8' fin
                obtain ⟨d8, rfl, hd8⟩ := h8'
                rw [v_ref_non]
                refine iteT ⟨_, rfl, ?_⟩
                refine x_way (w := wy) (k := 0) (ev_var rfl) (s7 _ _ hwv1) ev_int rfl (by omega) (fun p9 G9 s3 hp9 hp9' => ?_)
                refine ⟨(by show 2 ≤ sizeLine; decide), fun t1 ht1 => ⟨(by show 1 ≤ sizeLine; decide), fun l1 hl1 => ?_⟩⟩
                have s4 := same_new (o := .tup [.ref d8, .ref p9]) ht1
                have s5 := same_new (o := .lst [.ref t1]) hl1
                exact fin _ l1 _ [.ref t1] (s7.trans (s3.trans (s4.trans s5))) upd_same ⟨⟨t1, d8, p9, rfl, SqT.of (s5 _ _ upd_same), hd8.same (s3.trans (s4.trans s5)), (s4.trans s5) _ _ hp9'⟩, trivial⟩
          · rw [decide_eq_false eq]
            refine iteF ?_
            refine t_eqS (x_sgn (ev_var rfl) tr1) ev_str ?_
            by_cases en : sgn g = "not"
            · rw [decide_eq_true en]
              refine iteT ?_
              have gno : ∃ kk, g = .app "not" [.app c.w2 [.app kk []]] := by
                generalize wy.length = i at gk
                cases gk with
                | keep => exact absurd en s_nk.symm
                | eq _ _ => exact absurd en s_en
                | named a _ _ => exact absurd en (ok.word _ a).2.2.1
                | @no kk => exact ⟨kk, rfl⟩
              obtain ⟨kk, rfl⟩ := gno
              obtain ⟨p1, q1, vs1, rfl, a1, a2, a3⟩ := id tr2
              cases vs1 with
              | nil => exact a3.elim
              | cons va vs1 =>
              obtain ⟨ta, tn⟩ := a3
              cases vs1 with
              | cons _ _ => exact tn.elim
              | nil =>
              have gi : GoalOk c wy.length (.app c.w2 [.app kk []]) := .named (by simp [Cx.ws]) (by simp) fun t ht => by
                rw [List.mem_singleton.mp ht]
                exact ⟨by simp [Tm.dep, Tm.depL], ⟨by simp, trivial⟩, fun x hx => by simp [Tm.vars, Tm.varsL] at hx⟩
              refine ⟨_, rfl, _, rfl, p1, _, 2, _, rfl, rfl, a1, rfl, q1, _, 0, va, rfl, rfl, a2, rfl, _, rfl, _, rfl, ?_⟩
              refine ⟨lr, va, d, wv, .app c.w2 [.app kk []], p, wy, rfl, hrs1, ta, hd1, hwv1, hp, gi, by rw [ok.no_cost]; omega, by rw [ok.no_cost]; omega, fun G4 r8 s7 h8 => ?_⟩
              obtain ⟨l8, vs8, rfl, hl8, fd8⟩ := h8
              refine ⟨Nat.zero_le _, fun e9 he9 => ?_⟩
              have s8 := same_new (o := .lst []) he9
              refine ⟨l8, e9, vs8, rfl, rfl, SqL.of (s8 _ _ hl8), SqL.of upd_same, _, rfl, ?_⟩
              have elt : laterOf (Gt.A c.R n') c.R (.app "not" [.app c.w2 [.app kk []]]) p wy = noneYet p wy (waysG (Gt.A c.R n') (.app c.w2 [.app kk []]) p wy c.R.zipIdx) := by
                unfold laterOf
                rw [if_neg (show ¬ sgn (Tm.app "not" [.app c.w2 [.app kk []]]) = "=" from s_ne), if_pos (show sgn (Tm.app "not" [.app c.w2 [.app kk []]]) = "not" from rfl)]
                rfl
              rw [elt] at fin
              generalize waysG (Gt.A c.R n') (.app c.w2 [.app kk []]) p wy c.R.zipIdx = wl at *
              have s78 := s7.trans s8
              cases wl with
              | nil =>
                cases vs8 with
                | cons _ _ => exact fd8.elim
                | nil =>
                  refine iteT ⟨_, rfl, ?_⟩
                  refine x_way (w := wy) (k := 0) (ev_var rfl) (s78 _ _ hwv1) ev_int rfl (by omega) (fun p9 G9 s3 hp9 hp9' => ?_)
                  refine ⟨(by show 2 ≤ sizeLine; decide), fun t1 ht1 => ⟨(by show 1 ≤ sizeLine; decide), fun l1 hl1 => ?_⟩⟩
                  have s4 := same_new (o := .tup [.ref d, .ref p9]) ht1
                  have s5 := same_new (o := .lst [.ref t1]) hl1
                  have sA := s78.trans (s3.trans (s4.trans s5))
                  exact fin _ l1 _ [.ref t1] sA upd_same ⟨⟨t1, d, p9, rfl, SqT.of (s5 _ _ upd_same), hd1.same sA, (s4.trans s5) _ _ hp9'⟩, trivial⟩
              | cons _ _ =>
                cases vs8 with
                | nil => exact fd8.elim
                | cons _ _ => exact iteF (fin _ l5 _ [] s78 (s78 _ _ h5) trivial)
            · rw [decide_eq_false en]
              refine iteF ?_
              refine ⟨_, rfl, _, rfl, _, rfl, _, rfl, ?_⟩
              refine ⟨lr, gv, d, wv, g, p, wy, rfl, hrs1, tr2, hd1, hwv1, hp, gk, by omega, by omega, fun G4 r8 s7 h8 => ?_⟩
              obtain ⟨l8, vs8, rfl, hl8, fd8⟩ := h8
              have elt : laterOf (Gt.A c.R n') c.R g p wy = waysG (Gt.A c.R n') g p wy c.R.zipIdx := by
                unfold laterOf
                rw [if_neg eq, if_neg en]
              rw [elt] at fin
              exact fin _ l8 G4 vs8 s7 hl8 fd8
theorem ok_law_all (T : Txt K mg) {c : Cx} (ok : CxOk c) (hlen : ∀ x ∈ c.nb, x.length ≤ 1000) : ∀ n : Nat, FnOk P w K mg base CX0 (110 + 2 * n) T.d_law_all.f T.d_law_all.fd ["_law_rules", "_law_goals", "_law_puts", "_law_way"] (spAll K c n)
  | 0 => all_step T ok hlen 0 (fnok_void fun _ _ _ _ h => h) (fnok_void fun _ _ _ _ h => h)
  | n + 1 => by
    have ih := ok_law_all T ok hlen n
    have e1 : 110 + 2 * n = 108 + 2 * (n + 1) := by omega
    have e2 : 111 + 2 * n = 109 + 2 * (n + 1) := by omega
    have wy := ways_step T ok hlen n ih
    rw [e1] at ih
    rw [e2] at wy
    exact all_step T ok hlen (n + 1) ih wy
end
end Gt
set_option Elab.async false
set_option linter.all false
set_option maxRecDepth 100000
/-! The class Run by places. -/
namespace Gt
open PySem L2 PyProof.Rows
abbrev s_init__ : Stmt := inClass (top 33) 0
theorem sc_init__ : FnScope ["self", "rules", "goals", "bound", "most", "goal"] ["self", "rules", "goals", "bound", "most"] (defScope s_init__) := ⟨rfl, rfl, rfl, by decide +kernel, rfl, by decide +kernel, by decide +kernel⟩
abbrev s_step : Stmt := inClass (top 33) 1
theorem sc_step : FnScope ["self", "goals", "puts", "way"] ["self"] (defScope s_step) := ⟨rfl, rfl, rfl, by decide +kernel, rfl, by decide +kernel, by decide +kernel⟩
abbrev s_tell : Stmt := inClass (top 33) 2
theorem sc_tell : FnScope ["self", "puts", "way", "size", "name", "found"] ["self", "puts", "way"] (defScope s_tell) := ⟨rfl, rfl, rfl, by decide +kernel, rfl, by decide +kernel, by decide +kernel⟩
abbrev s_take : Stmt := inClass (top 33) 3
theorem sc_take : FnScope ["self", "goal", "height", "rest", "goals", "puts", "way"] ["self", "goal", "height", "rest"] (defScope s_take) := ⟨rfl, rfl, rfl, by decide +kernel, rfl, by decide +kernel, by decide +kernel⟩
abbrev s_take_not : Stmt := inClass (top 33) 5
theorem sc_take_not : FnScope ["self", "goal", "behind", "height"] ["self", "goal", "behind"] (defScope s_take_not) := ⟨rfl, rfl, rfl, by decide +kernel, rfl, by decide +kernel, by decide +kernel⟩
abbrev s_take_deed : Stmt := inClass (top 33) 6
theorem sc_take_deed : FnScope ["self", "goal", "behind", "puts", "e"] ["self", "goal", "behind"] (defScope s_take_deed) := ⟨rfl, rfl, rfl, by decide +kernel, rfl, by decide +kernel, by decide +kernel⟩
abbrev s_take_named : Stmt := inClass (top 33) 7
theorem sc_take_named : FnScope ["self", "goal", "rest", "height", "ways", "k", "one", "made", "body", "part", "way"] ["self", "goal", "rest"] (defScope s_take_named) := ⟨rfl, rfl, rfl, by decide +kernel, rfl, by decide +kernel, by decide +kernel⟩
structure TxtR (K : PySem.W.Frag) (mg : Str → Option Value) (C : Addr) extends Txt K mg where
  cl : Cls K C
  mgC : mg "Run" = some (.ref C)
  n_rules : NoAttr K C "rules"
  n_asked : NoAttr K C "asked"
  n_bound : NoAttr K C "bound"
  n_most : NoAttr K C "most"
  n_given : NoAttr K C "given"
  n_taken : NoAttr K C "taken"
  n_end : NoAttr K C "end"
  n_left : NoAttr K C "left"
  deeds : ∃ a, mg "DEEDS" = some (.ref a) ∧ ∀ H : Hp, SqT K H a [.str "=", .str ":=", .str "<", .str "<="]
  f_init__ : Addr
  fd_init__ : FuncData
  F_init__ : Fun K "__init__" "Run.__init__" s_init__ f_init__ fd_init__
  mkr : Mk K C f_init__
  b_init__ : Binds K fd_init__ ["self", "rules", "goals", "bound", "most"] []
  f_step : Addr
  fd_step : FuncData
  F_step : Fun K "step" "Run.step" s_step f_step fd_step
  M_step : Meth K C "step" f_step
  b_step : Binds K fd_step ["self"] []
  f_tell : Addr
  fd_tell : FuncData
  F_tell : Fun K "tell" "Run.tell" s_tell f_tell fd_tell
  M_tell : Meth K C "tell" f_tell
  b_tell : Binds K fd_tell ["self", "puts", "way"] []
  f_take : Addr
  fd_take : FuncData
  F_take : Fun K "take" "Run.take" s_take f_take fd_take
  M_take : Meth K C "take" f_take
  b_take : Binds K fd_take ["self", "goal", "height", "rest"] []
  f_take_not : Addr
  fd_take_not : FuncData
  F_take_not : Fun K "take_not" "Run.take_not" s_take_not f_take_not fd_take_not
  M_take_not : Meth K C "take_not" f_take_not
  b_take_not : Binds K fd_take_not ["self", "goal", "behind"] []
  f_take_deed : Addr
  fd_take_deed : FuncData
  F_take_deed : Fun K "take_deed" "Run.take_deed" s_take_deed f_take_deed fd_take_deed
  M_take_deed : Meth K C "take_deed" f_take_deed
  b_take_deed : Binds K fd_take_deed ["self", "goal", "behind"] []
  f_take_named : Addr
  fd_take_named : FuncData
  F_take_named : Fun K "take_named" "Run.take_named" s_take_named f_take_named fd_take_named
  M_take_named : Meth K C "take_named" f_take_named
  b_take_named : Binds K fd_take_named ["self", "goal", "rest"] []
/-! the fields of a run -/
def flds (lr la : Addr) (bd most : Int) (lg : Addr) (tk : Int) (e : V) (ll : Addr) : List (Str × V) := [("rules", .ref lr), ("asked", .ref la), ("bound", .int bd), ("most", .int most), ("given", .ref lg), ("taken", .int tk), ("end", e), ("left", .ref ll)]
section
variable {lr la lg ll l2 : Addr} {bd most tk t2 : Int} {e e2 : V}
theorem f_rules : (flds lr la bd most lg tk e ll).lookup ("rules" : Str) = some (V.ref lr) := by kernel_rfl
theorem f_asked : (flds lr la bd most lg tk e ll).lookup ("asked" : Str) = some (V.ref la) := by kernel_rfl
theorem f_bound : (flds lr la bd most lg tk e ll).lookup ("bound" : Str) = some (V.int bd) := by kernel_rfl
theorem f_most : (flds lr la bd most lg tk e ll).lookup ("most" : Str) = some (V.int most) := by kernel_rfl
theorem f_given : (flds lr la bd most lg tk e ll).lookup ("given" : Str) = some (V.ref lg) := by kernel_rfl
theorem f_taken : (flds lr la bd most lg tk e ll).lookup ("taken" : Str) = some (V.int tk) := by kernel_rfl
theorem f_end : (flds lr la bd most lg tk e ll).lookup ("end" : Str) = some (e) := by kernel_rfl
theorem f_left : (flds lr la bd most lg tk e ll).lookup ("left" : Str) = some (V.ref ll) := by kernel_rfl
theorem p_end : putF "end" e2 (flds lr la bd most lg tk e ll) = flds lr la bd most lg tk e2 ll := by kernel_rfl
theorem p_taken : putF "taken" (.int t2) (flds lr la bd most lg tk e ll) = flds lr la bd most lg t2 e ll := by kernel_rfl
theorem p_left : putF "left" (.ref l2) (flds lr la bd most lg tk e ll) = flds lr la bd most lg tk e l2 := by kernel_rfl
theorem no_step : (flds lr la bd most lg tk e ll).lookup ("step" : Str) = none := by kernel_rfl
theorem no_tell : (flds lr la bd most lg tk e ll).lookup ("tell" : Str) = none := by kernel_rfl
theorem no_take : (flds lr la bd most lg tk e ll).lookup ("take" : Str) = none := by kernel_rfl
theorem no_take_not : (flds lr la bd most lg tk e ll).lookup ("take_not" : Str) = none := by kernel_rfl
theorem no_take_deed : (flds lr la bd most lg tk e ll).lookup ("take_deed" : Str) = none := by kernel_rfl
theorem no_take_named : (flds lr la bd most lg tk e ll).lookup ("take_named" : Str) = none := by kernel_rfl
theorem flds_init : putF "left" (.ref ll) (putF "end" e (putF "taken" (.int tk) (putF "given" (.ref lg) (putF "most" (.int most) (putF "bound" (.int bd) (putF "asked" (.ref la) (putF "rules" (.ref lr) []))))))) = flds lr la bd most lg tk e ll := by kernel_rfl
end
end Gt
set_option Elab.async false
set_option linter.all false
set_option maxRecDepth 100000
set_option maxHeartbeats 4000000
/-! A run in the heap. -/
namespace Gt
open PySem L2 RZ
def GoalAt (K : PySem.W.Frag) (H : Hp) (v : V) (g : MG) : Prop := ∃ q x, v = .ref q ∧ SqT K H q [x, .int (g.2 : Nat)] ∧ match g.1 with
  | none => x = .non
  | some t => Tr K H x t
theorem GoalAt.samT {K : PySem.W.Frag} {H H' : Hp} (e : SameT H H') {v : V} {g : MG} : GoalAt K H v g → GoalAt K H' v g := by
  rintro ⟨q, x, a, b, c⟩
  refine ⟨q, x, a, e.sqt b, ?_⟩
  obtain ⟨o, h⟩ := g
  cases o with
  | none => exact c
  | some t => exact Tr.samT e c
def FrameAt (K : PySem.W.Frag) (H : Hp) (v : V) (m : MF) : Prop := ∃ a lg d wv gvs, v = .ref a ∧ SqT K H a [.ref lg, .ref d, .ref wv] ∧ H lg = some (.lst gvs) ∧ F2 (GoalAt K H) gvs m.gs ∧ PAt K H d m.p ∧ H wv = some (.lst (wayV m.w))
theorem FrameAt.same {K : PySem.W.Frag} {H H' : Hp} (e : Same H H') {v : V} {m : MF} : FrameAt K H v m → FrameAt K H' v m
  | ⟨a, lg, d, wv, gvs, h1, h2, h3, h4, h5, h6⟩ => ⟨a, lg, d, wv, gvs, h1, same_sqt e h2, e _ _ h3, h4.imp fun _ _ q => q.samT (same_t e), h5.same e, e _ _ h6⟩
def GivAt (K : PySem.W.Frag) (H : Hp) (asked : List Str) (v : V) (x : List Tm × Way) : Prop := ∃ wv, ToldR K H v wv (asked.zip x.1) ∧ H wv = some (.lst (wayV x.2))
theorem GivAt.same {K : PySem.W.Frag} {H H' : Hp} (e : Same H H') {asked : List Str} {v : V} {x : List Tm × Way} : GivAt K H asked v x → GivAt K H' asked v x
  | ⟨wv, ⟨a, l, ps, h1, h2, h3, h4⟩, h5⟩ => ⟨wv, ⟨a, l, ps, h1, same_sqt e h2, e _ _ h3, h4.imp fun _ _ q => q.samT (same_t e)⟩, e _ _ h5⟩
def EndAt (K : PySem.W.Frag) (H : Hp) (v : V) : Option Str → Prop
  | none => v = .non
  | some s => ∃ a, v = .ref a ∧ SqT K H a [.str s]
theorem EndAt.same {K : PySem.W.Frag} {H H' : Hp} (e : Same H H') {v : V} : ∀ {o : Option Str}, EndAt K H v o → EndAt K H' v o
  | none, h => h
  | some _, ⟨a, h1, h2⟩ => ⟨a, h1, same_sqt e h2⟩
/-- what does not change while a run goes on: where its rules stand, what is asked, its bounds -/
structure RC where
  C : Addr
  r : Addr
  asked : List Str
  R : List Rule
  most : Nat
/-- the heap without three places -/
def sub3 (H : Hp) (a b d : Addr) : Hp := fun p => if p = a ∨ p = b ∨ p = d then none else H p
theorem sub3_same (H : Hp) (a b d : Addr) : Same (sub3 H a b d) H := fun p o e => by
  unfold sub3 at e
  split at e
  · exact nomatch e
  · exact e
theorem sub3_at {H : Hp} {a b d p : Addr} {o : HO} (h : H p = some o) (n1 : p ≠ a) (n2 : p ≠ b) (n3 : p ≠ d) : sub3 H a b d p = some o := by
  unfold sub3
  rw [if_neg (fun q => q.elim n1 fun q => q.elim n2 n3)]
  exact h
theorem sub3_none {H : Hp} {a b d p : Addr} (h : p = a ∨ p = b ∨ p = d) : sub3 H a b d p = none := by
  unfold sub3
  rw [if_pos h]
theorem same_sub3 {S H : Hp} {a b d : Addr} (s : Same S H) (h1 : S a = none) (h2 : S b = none) (h3 : S d = none) : Same S (sub3 H a b d) := fun p o e => sub3_at (s p o e) (ne_of_none e h1) (ne_of_none e h2) (ne_of_none e h3)
/-- an instance, two lists: no tuple stands there -/
theorem samT_sub3 {H : Hp} {r lg ll : Addr} {C dx : Addr} {fs : List (Str × V)} {xs ys : List V} (h1 : H r = some (.ins C dx fs)) (h2 : H lg = some (.lst xs)) (h3 : H ll = some (.lst ys)) : SameT H (sub3 H r lg ll) := fun p zs h => by
  have n1 : p ≠ r := fun e => by subst e; rcases h with h | ⟨_, h⟩ <;> (rw [h1] at h; cases h)
  have n2 : p ≠ lg := fun e => by subst e; rcases h with h | ⟨_, h⟩ <;> (rw [h2] at h; cases h)
  have n3 : p ≠ ll := fun e => by subst e; rcases h with h | ⟨_, h⟩ <;> (rw [h3] at h; cases h)
  rcases h with h | ⟨o, h⟩
  · exact .inl (sub3_at h n1 n2 n3)
  · exact .inr ⟨o, sub3_at h n1 n2 n3⟩
theorem pat_sub3 {K : PySem.W.Frag} {H : Hp} {r lg ll d : Addr} {C dx : Addr} {fs : List (Str × V)} {xs ys : List V} {p : Puts} (h1 : H r = some (.ins C dx fs)) (h2 : H lg = some (.lst xs)) (h3 : H ll = some (.lst ys)) (h : PAt K H d p) : PAt K (sub3 H r lg ll) d p := by
  obtain ⟨kvs, a, b⟩ := h
  exact ⟨kvs, sub3_at a (fun e => by rw [e, h1] at a; cases a) (fun e => by rw [e, h2] at a; cases a) (fun e => by rw [e, h3] at a; cases a), b.samT (samT_sub3 h1 h2 h3)⟩
/-- B: what the caller holds; S: what stands still; H: the heap. The run at c.r: its stack, what was given, the steps taken, its end -/
structure RunC (K : PySem.W.Frag) (c : RC) (B S H : Hp) (dx lr la lg ll : Addr) (ev : V) (gvs fvs : List V) (left : List MF) (given : List (List Tm × Way)) (taken : Nat) (e : Option Str) : Prop where
  bs : Same B S
  sh : Same S H
  nr : S c.r = none
  ng : S lg = none
  nl : S ll = none
  ne : lg ≠ ll
  at_ : H c.r = some (.ins c.C dx (flds lr la 400 (c.most : Nat) lg (taken : Nat) ev ll))
  rules : RulesAt K S lr c.R
  asked : SqL K S la (c.asked.map V.str)
  hg : H lg = some (.lst gvs)
  giv : F2 (GivAt K S c.asked) gvs given
  hl : H ll = some (.lst fvs.reverse)
  fr : F2 (FrameAt K S) fvs left
  en : EndAt K S ev e
def RunSt (K : PySem.W.Frag) (c : RC) (B S H : Hp) (left : List MF) (given : List (List Tm × Way)) (taken : Nat) (e : Option Str) : Prop :=
  ∃ dx lr la lg ll ev gvs fvs, RunC K c B S H dx lr la lg ll ev gvs fvs left given taken e
section
variable {K : PySem.W.Frag} {c : RC} {B S H H1 : Hp} {dx lr la lg ll : Addr} {ev : V} {gvs fvs : List V} {left : List MF} {given : List (List Tm × Way)} {taken : Nat} {e : Option Str}
theorem RunC.rg (h : RunC K c B S H dx lr la lg ll ev gvs fvs left given taken e) : c.r ≠ lg := ne_of h.at_ h.hg (by intro z; cases z)
theorem RunC.rl (h : RunC K c B S H dx lr la lg ll ev gvs fvs left given taken e) : c.r ≠ ll := ne_of h.at_ h.hl (by intro z; cases z)
theorem RunC.up (h : RunC K c B S H dx lr la lg ll ev gvs fvs left given taken e) (s : Same H H1) : RunC K c B S H1 dx lr la lg ll ev gvs fvs left given taken e :=
  { h with sh := h.sh.trans s, at_ := s _ _ h.at_, hg := s _ _ h.hg, hl := s _ _ h.hl }
theorem RunC.sT (h : RunC K c B S H dx lr la lg ll ev gvs fvs left given taken e) : SameT H (sub3 H c.r lg ll) := samT_sub3 h.at_ h.hg h.hl
/-- all that is new stands still from here on -/
theorem RunC.grow (h : RunC K c B S H dx lr la lg ll ev gvs fvs left given taken e) : RunC K c B (sub3 H c.r lg ll) H dx lr la lg ll ev gvs fvs left given taken e ∧ Same S (sub3 H c.r lg ll) := by
  have s := same_sub3 h.sh h.nr h.ng h.nl
  exact ⟨⟨h.bs.trans s, sub3_same _ _ _ _, sub3_none (.inl rfl), sub3_none (.inr (.inl rfl)), sub3_none (.inr (.inr rfl)), h.ne, h.at_, h.rules.same s, s.seq h.asked, h.hg, h.giv.imp fun _ _ q => q.same s, h.hl, h.fr.imp fun _ _ q => q.same s, h.en.same s⟩, s⟩
theorem RunC.push (h : RunC K c B S H dx lr la lg ll ev gvs fvs left given taken e) {v : V} {m : MF} (hf : FrameAt K S v m) : RunC K c B S (upd H ll (.lst (fvs.reverse ++ [v]))) dx lr la lg ll ev gvs (v :: fvs) (m :: left) given taken e :=
  { h with sh := same_upd h.sh h.nl, at_ := upd_at h.at_ h.rl, hg := upd_at h.hg h.ne, hl := by rw [upd_same, List.reverse_cons], fr := ⟨hf, h.fr⟩ }
theorem RunC.pop {v : V} {m : MF} (h : RunC K c B S H dx lr la lg ll ev gvs (v :: fvs) (m :: left) given taken e) : RunC K c B S (upd H ll (.lst fvs.reverse)) dx lr la lg ll ev gvs fvs left given taken e :=
  { h with sh := same_upd h.sh h.nl, at_ := upd_at h.at_ h.rl, hg := upd_at h.hg h.ne, hl := upd_same, fr := h.fr.2 }
theorem RunC.give (h : RunC K c B S H dx lr la lg ll ev gvs fvs left given taken e) {v : V} {x : List Tm × Way} (hv : GivAt K S c.asked v x) : RunC K c B S (upd H lg (.lst (gvs ++ [v]))) dx lr la lg ll ev (gvs ++ [v]) fvs left (given ++ [x]) taken e :=
  { h with sh := same_upd h.sh h.ng, at_ := upd_at h.at_ h.rg, hg := upd_same, hl := upd_at h.hl h.ne.symm, giv := h.giv.app ⟨hv, trivial⟩ }
theorem RunC.setEnd (h : RunC K c B S H dx lr la lg ll ev gvs fvs left given taken e) {ev2 : V} {e2 : Option Str} (he : EndAt K S ev2 e2) : RunC K c B S (upd H c.r (.ins c.C dx (flds lr la 400 (c.most : Nat) lg (taken : Nat) ev2 ll))) dx lr la lg ll ev2 gvs fvs left given taken e2 :=
  { h with sh := same_upd h.sh h.nr, at_ := upd_same, hg := upd_at h.hg h.rg.symm, hl := upd_at h.hl h.rl.symm, en := he }
theorem RunC.setTaken (h : RunC K c B S H dx lr la lg ll ev gvs fvs left given taken e) (t : Nat) : RunC K c B S (upd H c.r (.ins c.C dx (flds lr la 400 (c.most : Nat) lg (t : Nat) ev ll))) dx lr la lg ll ev gvs fvs left given t e :=
  { h with sh := same_upd h.sh h.nr, at_ := upd_same, hg := upd_at h.hg h.rg.symm, hl := upd_at h.hl h.rl.symm }
theorem RunC.setLeft (h : RunC K c B S H dx lr la lg ll ev gvs fvs left given taken e) {l2 : Addr} {fvs2 : List V} {left2 : List MF} (h2 : H l2 = some (.lst fvs2.reverse)) (n2 : S l2 = none) (ng : lg ≠ l2) (hf : F2 (FrameAt K S) fvs2 left2) :
    RunC K c B S (upd H c.r (.ins c.C dx (flds lr la 400 (c.most : Nat) lg (taken : Nat) ev l2))) dx lr la lg l2 ev gvs fvs2 left2 given taken e :=
  { h with sh := same_upd h.sh h.nr, nl := n2, ne := ng, at_ := upd_same, hg := upd_at h.hg h.rg.symm, hl := upd_at h2 (ne_of h2 h.at_ (by intro z; cases z)), fr := hf }
theorem RunC.frame (h : RunC K c B S H dx lr la lg ll ev gvs fvs left given taken e) {a lgx d wv : Addr} {xs : List V} {gs : List MG} {p : Puts} {w : Way} (h1 : SqT K H a [.ref lgx, .ref d, .ref wv]) (h2 : H lgx = some (.lst xs)) (n1 : lgx ≠ lg) (n2 : lgx ≠ ll) (h3 : F2 (GoalAt K H) xs gs)
    (h4 : PAt K H d p) (h5 : H wv = some (.lst (wayV w))) (n3 : wv ≠ lg) (n4 : wv ≠ ll) : FrameAt K (sub3 H c.r lg ll) (.ref a) ⟨gs, p, w⟩ := by
  have sT := samT_sub3 h.at_ h.hg h.hl
  exact ⟨a, lgx, d, wv, xs, rfl, sT.sqt h1, sub3_at h2 (ne_of h2 h.at_ (by intro z; cases z)) n1 n2, h3.imp fun _ _ q => q.samT sT, pat_sub3 h.at_ h.hg h.hl h4, sub3_at h5 (ne_of h5 h.at_ (by intro z; cases z)) n3 n4⟩
end
section
variable {K : PySem.W.Frag} {te ta tk : TE} {σ : St} {H : Hp} {R : VK}
theorem x_fld {C dx r : Addr} {fs : List (Str × V)} {f : Str} {v : V} (he : EvV te σ H (.ref r)) (h : H r = some (.ins C dx fs)) (cl : Cls K C) (na : NoAttr K C f) (hl : fs.lookup f = some v) : EvV (tFld K te f) σ H v := fun _ q => he _ ⟨r, C, dx, fs, v, rfl, h, cl, na, hl, q⟩
end
def spDeed (K : PySem.W.Frag) : Sp := fun vs H Q _ => ∃ v d a b p n nb, vs = [v, .ref d] ∧ Tr K H v (.app "=" [a, b]) ∧ PAt K H d p ∧ OKs (PT 41 nb n) p ∧ PT 41 nb n a ∧ PT 41 nb n b ∧ nb.length * (n + 1) ≤ 2000 ∧
  ∀ H' r o, Same H H' → Mgu (PT 41 nb n) p [(a, b)] o → PO K H' r o → Q r H'
section
variable {P : Program} {w : World} {K : PySem.W.Frag} {mg : Str → Option Value} {base : Heap} {CX : CXT}
theorem s_one : decide (V.str "one" = V.str "one") = true := decide_eq_true rfl
theorem ok_deed (T : Txt K mg) : FnOk P w K mg base CX0 4 T.d_deed.f T.d_deed.fd ["goal", "puts"] (spDeed K) := by
  have G_made_one : FnOk P w K mg base CX0 3 T.d_made_one.f T.d_made_one.fd ["one", "other", "puts"] (spMade K) := ok_made_one T
  refine T.d_deed.F.ok sc_deed (fun vs H Q E h => ?_) (fun cdv A outer s H vs Q E hr h => ?_)
  · obtain ⟨v, d, a, b, p, n, nb, rfl, _⟩ := h
    rfl
  · obtain ⟨v, d, a, b, p, n, nb, rfl, hv, hd, hp, pa, pb, hU, k⟩ := h
    refine ⟨_, (pss_cons (ps_set (i := 2) sc_deed.nd rfl (Or.inl rfl) (pe_ix ix_tup (pe_ix ix_tup (pv 0) pe_int (fun _ _ => rfl)) pe_int (fun _ _ => rfl)))
          (pss_cons (ps_set (i := 3) sc_deed.nd rfl (Or.inl rfl) (pe_ix ix_tup (pe_ix ix_tup (pv 0) pe_int (fun _ _ => rfl)) pe_int (fun _ _ => rfl)))
          (pss_cons (ps_if (pt_cmpR op_eq (pe_ix ix_tup (pv 0) pe_int (fun _ _ => rfl)) pe_str (nomark _)) (pss_one (ps_set (i := 4) sc_deed.nd rfl (Or.inl rfl) (pe_call G_made_one (hr.mono (by omega)) rfl T.d_made_one.m T.d_made_one.k T.d_made_one.b .nil pass0 (pa_cons (pv 2) (pa_cons (pv 3) (pa_cons (pv 1) pa_nil)))))) (pss_one ps_never))
          (pss_cons (ps_if (pt_cmpR op_eq (pe_ix ix_tup (pv 4) pe_int (fun _ _ => rfl)) pe_str (nomark _)) (pss_one (ps_ret (pe_ix ix_tup (pv 4) pe_int (fun _ _ => rfl)))) pss_nil)
          (pss_one (ps_ret pe_non)))))), ?_⟩
    obtain ⟨p1, q1, vs1, rfl, a1, a2, a3⟩ := id hv
    cases vs1 with
    | nil => exact a3.elim
    | cons va vs1 =>
    cases vs1 with
    | nil => exact a3.2.elim
    | cons vb vs1 =>
    obtain ⟨ta, tb, tn⟩ := a3
    cases vs1 with
    | cons _ _ => exact tn.elim
    | nil =>
    refine ⟨_, rfl, p1, _, 2, _, rfl, rfl, a1, rfl, q1, _, 0, va, rfl, rfl, a2, rfl, ?_⟩
    refine ⟨_, rfl, p1, _, 2, _, rfl, rfl, a1, rfl, q1, _, 1, vb, rfl, rfl, a2, rfl, ?_⟩
    refine t_eqS (x_sgn (ev_var rfl) hv) ev_str ?_
    rw [decide_eq_true rfl]
    refine iteT ⟨_, rfl, _, rfl, _, rfl, va, vb, d, a, b, p, n, nb, rfl, ta, tb, hd, hp, pa, pb, hU, fun H' r o s1 hm hr' => ?_⟩
    obtain ⟨a9, rfl, h9⟩ := hr'
    cases o with
    | none =>
      obtain ⟨x, y, xs, sq, hx⟩ := h9
      refine t_eqS (x_tup (ev_var rfl) sq (atI_nat (j := 0) (show (V.str x :: y :: xs)[0]? = some (V.str x) from rfl))) ev_str ?_
      rw [decide_eq_false hx]
      exact iteF (k _ _ none s1 hm rfl)
    | some q =>
      obtain ⟨d', sq, hd'⟩ := h9
      refine t_eqS (x_tup (ev_var rfl) sq rfl) ev_str ?_
      rw [decide_eq_true rfl]
      refine iteT ?_
      exact ⟨_, rfl, a9, _, 1, _, rfl, rfl, sq, rfl, k _ _ (some q) s1 hm ⟨d', rfl, hd'⟩⟩
end
end Gt
set_option Elab.async false
set_option linter.all false
set_option maxRecDepth 100000
set_option maxHeartbeats 4000000
/-! tell. -/
namespace Gt
open PySem L2 RZ
def TellR (c : RC) (p : Puts) (w : Way) (given given' : List (List Tm × Way)) (e' : Option Str) : Prop :=
  (given' = given ∧ e' = some "big") ∨ (given' = given ++ [(toldL ((asT c.asked).map (rd p)), w)] ∧ Tm.sizeL ((asT c.asked).map (rd p)) ≤ 40 ∧ ((e' = none ∧ given'.length ≠ c.most) ∨ (e' = some "enough" ∧ given'.length = c.most)))
def spTell (K : PySem.W.Frag) (c : RC) : Sp := fun vs H Q _ => ∃ B S dx lr la lg ll ev gvs fvs left given taken d wv p w n nb, vs = [.ref c.r, .ref d, .ref wv] ∧ RunC K c B S H dx lr la lg ll ev gvs fvs left given taken none ∧ PAt K S d p ∧ S wv = some (.lst (wayV w)) ∧
  OKs (PT 41 nb n) p ∧ (∀ x ∈ c.asked, PT 41 nb n (.any x)) ∧ c.asked.length ≤ 100 ∧ given.length ≤ 11000000 ∧ ∀ S' H' given' e', Same S S' → RunSt K c B S' H' left given' taken e' → TellR c p w given given' e' → Q .non H'
theorem sizeL_snoc (l : List Tm) (t : Tm) : Tm.sizeL (l ++ [t]) = Tm.sizeL l + t.size := by rw [sizeL_append]; simp [Tm.sizeL]
theorem zip_pairs {K : PySem.W.Frag} {H2 H3 : Hp} : ∀ (ps : List Addr) (xs : List Str) (vs : List V) (ts : List Tm), ps.length = xs.length → F2 (Tr K H2) vs ts → xs.length = ts.length → Same H2 H3 → (∀ (j : Nat) (p : Addr) (x y : V), ps[j]? = some p → (xs.map V.str)[j]? = some x → vs[j]? = some y → H3 p = some (.tup [x, y])) →
    F2 (Pair K H3) (ps.map V.ref) (xs.zip ts) := by
  intro ps
  induction ps with
  | nil => intro xs vs ts h1 _ _ _ _; cases xs with
    | nil => trivial
    | cons _ _ => simp at h1
  | cons p0 ps ih => intro xs vs ts h1 h2 h3 s h4; cases xs with
    | nil => simp at h1
    | cons x xs => cases ts with
      | nil => simp at h3
      | cons t ts => cases vs with
        | nil => exact h2.elim
        | cons v vs =>
          exact ⟨⟨p0, v, rfl, SqT.of (h4 0 p0 (.str x) v rfl rfl rfl), h2.1.same s⟩, ih xs vs ts (by simpa using h1) h2.2 (by simpa using h3) s fun j p y z e1 e2 e3 => h4 (j + 1) p y z e1 e2 e3⟩
section
variable {P : Program} {w : World} {K : PySem.W.Frag} {mg : Str → Option Value} {base : Heap} {CX : CXT}
theorem ok_tell {c : RC} (T : TxtR K mg c.C) : FnOk P w K mg base CX0 100 T.f_tell T.fd_tell ["self", "puts", "way"] (spTell K c) := by
  have G_parts_up_to : FnOk P w K mg base CX0 2 T.d_parts_up_to.f T.d_parts_up_to.fd ["term", "puts", "most"] (spParts K) := ok_parts_up_to T.toTxt
  have G_written_out : FnOk P w K mg base CX0 50 T.d_written_out.f T.d_written_out.fd ["term", "puts"] (spWritten K) := ok_written_out T.toTxt
  have G_told_anew : FnOk P w K mg base CX0 90 T.d_told_anew.f T.d_told_anew.fd ["terms"] (spTold K) := ok_told_anew T.toTxt
  refine T.F_tell.ok (k := 99) sc_tell (fun vs H Q E h => ?_) (fun cdv A outer s H vs Q E hr h => ?_)
  · obtain ⟨B, S, dx, lr, la, lg, ll, ev, gvs, fvs, left, given, taken, d, wv, p, w, n, nb, rfl, _⟩ := h
    rfl
  · obtain ⟨B, S, dx, lr, la, lg, ll, ev, gvs, fvs, left, given, taken, d, wv, p, wy, n, nb, rfl, hR, hd, hwv, hp, ha, hal, hgl, k⟩ := h
    have big : (11000010 : Nat) < sizeLine := by decide
    refine ⟨_, (pss_cons (ps_set (i := 3) sc_tell.nd rfl (Or.inl rfl) pe_int)
          (pss_cons (ps_for PassesOwn.never rfl (pi_list (pe_fld (pv 0) rfl)) (pg_name (i := 4) sc_tell.nd rfl (Or.inl rfl))
          (pss_one (ps_set (i := 3) sc_tell.nd rfl (Or.inl rfl) (pe_op op_add (pv 3) (pe_call G_parts_up_to (hr.mono (by omega)) rfl T.d_parts_up_to.m T.d_parts_up_to.k T.d_parts_up_to.b .nil pass0 (pa_cons (pe_tup (pa_cons pe_str (pa_cons (pv 4) pa_nil))) (pa_cons (pv 1) (pa_cons (pe_glob (v := V.int 40) rfl T.MOST_PARTS_search.choose_spec ⟨_, rfl⟩) pa_nil))))))))
          (pss_cons (ps_if (pt_cmpR op_gt (pv 3) (pe_glob (v := V.int 40) rfl T.MOST_PARTS_search.choose_spec ⟨_, rfl⟩) (nomark _)) (pss_cons (ps_fld (pv 0) (pe_tup (pa_cons pe_str pa_nil)) rfl)
          (pss_one ps_retN)) pss_nil)
          (pss_cons (ps_set (i := 5) sc_tell.nd rfl (Or.inl rfl) (pe_call G_told_anew (hr.mono (by omega)) rfl T.d_told_anew.m T.d_told_anew.k T.d_told_anew.b .nil pass0 (pa_cons (pe_lc (own := [("name", 4)]) (g := gName 4) rfl sc_tell.nd (pi_list (pe_fld (pv 0) rfl)) (blkOk_by (own := [("name", 4)]) (N := ["self", "puts", "way", "size", "name", "found"]) (sc := defScope s_tell) (by decide +kernel)) (fun _ _ _ _ _ => (pg_name (i := 4) sc_tell.nd rfl (Or.inl rfl))) (fun _ _ _ _ _ => pts_nil) (fun _ _ _ _ _ => (pe_call G_written_out (hr.mono (by omega)) rfl T.d_written_out.m T.d_written_out.k T.d_written_out.b .nil pass0 (pa_cons (pe_tup (pa_cons pe_str (pa_cons (pv 4) pa_nil))) (pa_cons (pv 1) pa_nil))))) pa_nil)))
          (pss_cons (ps_expr (pe_bm PySem.F.plainAttrs_list PySem.F.slot_list_append PySem.F.type_list_append mt_append (pe_fld (pv 0) rfl) (pa_cons (pe_tup (pa_cons (pe_lstZip (by rfl) (by rfl) T.list (by rfl) T.zip (pa_cons (pe_fld (pv 0) rfl) (pa_cons (pv 5) pa_nil))) (pa_cons (pv 2) pa_nil))) pa_nil)))
          (pss_one (ps_if (pt_cmpR op_eq (pe_callB call_len_seq (by rfl) T.len PySem.boot_len (pa_cons (pe_fld (pv 0) rfl) pa_nil)) (pe_fld (pv 0) rfl) (nomark _)) (pss_one (ps_fld (pv 0) (pe_tup (pa_cons pe_str pa_nil)) rfl)) pss_nil))))))), ?_⟩
    have hask := hR.sh.seq hR.asked
    have hd1 := hd.same hR.sh
    have f2n : F2 (fun v x => v = V.str x) (c.asked.map V.str) c.asked := F2.of_map (f := V.str) (fun _ => rfl) c.asked
    refine ⟨_, rfl, c.r, c.C, dx, _, _, rfl, hR.at_, T.cl, T.n_asked, f_asked, la, rfl, ⟨_, hask⟩, ?_⟩
    refine for_list (K := K) (a := la) (xs := c.asked.map V.str) (fun i σ H' => ∃ (z : Nat) (iz : Int) (x4 : Option V), σ = [some (.ref c.r), some (.ref d), some (.ref wv), some (.int iz), x4, none] ∧ iz = (z : Nat) ∧ Same H H' ∧ (z ≤ 40 → Tm.sizeL (((asT c.asked).take i).map (rd p)) = z))
      ⟨0, 0, none, rfl, rfl, Same.refl _, fun _ => rfl⟩ (fun i σ H' _ ⟨_, _, _, _, _, s1, _⟩ => s1.seq hask) ?_ ?_
    · rintro i x σ H' hx ⟨z, iz, x4, rfl, rfl, s1, hz⟩
      obtain ⟨y, hy, rfl⟩ := f2n.get hx
      have hym := List.mem_of_getElem? hy
      refine ⟨_, rfl, _, rfl, (by show 2 ≤ sizeLine; decide), fun t ht => ?_⟩
      have s2 := same_new (o := .tup [.str "any", .str y]) ht
      refine ⟨_, rfl, .ref t, d, .any y, p, n, nb, 40, rfl, Tr.mk_any upd_same, hd1.same (s1.trans s2), hp, ha y hym, by omega, fun H2 kk s3 h1 h2 => ?_⟩
      refine ⟨_, _, rfl, rfl, z + kk, _, _, rfl, rfl, s1.trans (s2.trans s3), fun hle => ?_⟩
      have e : (asT c.asked).take (i + 1) = (asT c.asked).take i ++ [.any y] := by
        unfold asT
        rw [List.take_add_one, List.getElem?_map, hy]
        rfl
      rw [e, List.map_append]
      show Tm.sizeL (_ ++ [rd p (.any y)]) = _
      rw [sizeL_snoc, hz (by omega)]
      by_cases q : (rd p (.any y)).size ≤ 40
      · rw [h1 q]
      · have := h2 (by omega)
        omega
    · rintro σ H' ⟨z, iz, x4, rfl, rfl, s1, hz⟩
      have hR1 := hR.up s1
      rw [List.length_map] at hz
      have lz : (asT c.asked).take c.asked.length = asT c.asked := by rw [show c.asked.length = (asT c.asked).length from (List.length_map _).symm, List.take_length]
      rw [lz] at hz
      refine ⟨_, rfl, _, _, rfl, rfl, _, rfl, ?_⟩
      refine ite2 (fun hc => ?_) (fun hc => ?_)
      · -- too big
        refine ⟨(by show 1 ≤ sizeLine; decide), fun t ht => ?_⟩
        have s2 := same_new (o := .tup [.str "big"]) ht
        have hRu := hR1.up s2
        obtain ⟨hR2, sS⟩ := hRu.grow
        refine ⟨_, rfl, c.r, c.C, dx, _, rfl, hR2.at_, T.cl, T.n_end, (by show 8 < 1000; decide), ?_⟩
        rw [p_end]
        have hR3 := hR2.setEnd (ev2 := .ref t) (e2 := some "big") ⟨t, rfl, hRu.sT.sqt (SqT.of upd_same)⟩
        exact k _ _ given (some "big") sS ⟨_, _, _, _, _, _, _, _, hR3⟩ (.inl ⟨rfl, rfl⟩)
      · have hz40 : z ≤ 40 := by
          have := of_decide_eq_false (Bool.eq_false_iff.mpr hc)
          omega
        have hsum := hz hz40
        have hd2 := hd1.same s1
        have hask1 := s1.seq hask
        refine ⟨_, rfl, c.r, c.C, dx, _, _, rfl, hR1.at_, T.cl, T.n_asked, f_asked, la, rfl, ⟨_, hask1⟩, fun D hD => ?_⟩
        have each : ∀ x ∈ c.asked, (rd p (.any x)).size ≤ 40 := fun x hx => by
          have : rd p (.any x) ∈ (asT c.asked).map (rd p) := List.mem_map.mpr ⟨.any x, List.mem_map.mpr ⟨x, hx, rfl⟩, rfl⟩
          have h1 := (dep_size_kid (s := "0") this).2
          rw [Tm.size] at h1
          omega
        refine lc_mapL (as := c.asked) (In := fun _ v x => v = V.str x) (Out := Tr K) (φ := fun x => rd p (.any x)) hD hask1 f2n (by omega) (fun s h => h) (fun o h => h.samT o.t) (fun v x H1 R hx s2 hin kk => ?_) (fun H1 ws s2 h1 h2 => ?_)
        · subst hin
          refine ⟨_, rfl, (by show 2 ≤ sizeLine; decide), fun t ht => ?_⟩
          have s3 := same_new (o := .tup [.str "any", .str x]) ht
          exact ⟨_, rfl, .ref t, d, .any x, p, n, nb, rfl, Tr.mk_any upd_same, hd2.same (s2.trans s3), hp, ha x hx, each x hx, fun H' v' s4 ho => kk H' v' (s3.trans s4) ho⟩
        · have em : (c.asked.map fun x => rd p (.any x)) = (asT c.asked).map (rd p) := by unfold asT; rw [List.map_map]; rfl
          rw [em] at h2
          have arT : ∀ t ∈ (asT c.asked).map (rd p), Ar t ∧ t.dep ≤ 80 := fun t ht => by
            obtain ⟨y, hy, rfl⟩ := List.mem_map.mp ht
            obtain ⟨x, hx, rfl⟩ := List.mem_map.mp hy
            exact ⟨rd_ar hp (ha x hx).ar, Nat.le_trans (dep_le_size _) (Nat.le_trans (each x hx) (by decide))⟩
          have lT : ((asT c.asked).map (rd p)).length = c.asked.length := by unfold asT; rw [List.length_map, List.length_map]
          generalize hTs : (asT c.asked).map (rd p) = Ts at *
          refine ⟨D, ws, Ts, rfl, SqL.of h1, h2, by omega, arT, fun H2 p2 us s3 hp2 hp2' hus => ?_⟩
          have s23 := s2.trans s3
          have hR2 := hR1.up s23
          refine ⟨_, rfl, c.r, c.C, dx, _, _, rfl, hR2.at_, T.cl, T.n_given, f_given, .inl ⟨rfl, _, SqL.of hR2.hg⟩, ?_⟩
          refine ⟨_, rfl, c.r, c.C, dx, _, _, rfl, hR2.at_, T.cl, T.n_asked, f_asked, _, rfl, la, p2, _, us, rfl, s23.seq hask1, .inl (SqL.of hp2'), by rw [List.length_map, hus.len, toldL_len, lT], fun q9 ps H3 hq9 s4 hq9' lps hpair => ?_⟩
          have ltold : c.asked.length = (toldL Ts).length := by rw [toldL_len, lT]
          have pz := zip_pairs ps c.asked us (toldL Ts) (by rw [List.length_map] at lps; exact lps) hus ltold s4 hpair
          refine ⟨_, rfl, (by show 2 ≤ sizeLine; decide), fun a9 ha9 => ?_⟩
          have s5 := same_new (o := .tup [.ref q9, .ref wv]) ha9
          have hR3 := hR2.up (s4.trans s5)
          obtain ⟨hR4, sS⟩ := hR3.grow
          have nq1 : q9 ≠ lg := fun e => by rw [e] at hq9; rw [hR2.hg] at hq9; exact nomatch hq9
          have nq2 : q9 ≠ ll := fun e => by rw [e] at hq9; rw [hR2.hl] at hq9; exact nomatch hq9
          have hq9c := s5 _ _ hq9'
          have gv : GivAt K (sub3 (upd H3 a9 (.tup [.ref q9, .ref wv])) c.r lg ll) c.asked (.ref a9) (toldL Ts, wy) :=
            ⟨wv, ⟨a9, q9, ps.map V.ref, rfl, hR3.sT.sqt (SqT.of upd_same), sub3_at hq9c (ne_of hq9c hR3.at_ (by intro z; cases z)) nq1 nq2, pz.imp fun v cc q => (q.samT (same_t s5)).samT hR3.sT⟩, sS _ _ hwv⟩
          have hR5 := hR4.give gv
          have lgv := hR4.giv.len
          refine ⟨lg, _, _, rfl, rfl, hR3.hg, by omega, ?_⟩
          refine ⟨_, rfl, c.r, c.C, dx, _, _, rfl, hR5.at_, T.cl, T.n_given, f_given, lg, _, rfl, .inl (SqL.of hR5.hg), _, rfl, c.r, c.C, dx, _, _, rfl, hR5.at_, T.cl, T.n_most, f_most, rfl, _, rfl, ?_⟩
          rw [v_nat]
          have elen : (gvs ++ [V.ref a9]).length = (given ++ [(toldL Ts, wy)]).length := by rw [List.length_append, List.length_append, lgv]; rfl
          rw [elen]
          by_cases em : (given ++ [(toldL Ts, wy)]).length = c.most
          · rw [decide_eq_true em]
            refine iteT ⟨(by show 1 ≤ sizeLine; decide), fun t ht => ?_⟩
            have s6 := same_new (o := .tup [.str "enough"]) ht
            have hR6 := hR5.up s6
            obtain ⟨hR7, sS2⟩ := hR6.grow
            refine ⟨_, rfl, c.r, c.C, dx, _, rfl, hR7.at_, T.cl, T.n_end, (by show 8 < 1000; decide), ?_⟩
            rw [p_end]
            have hR8 := hR7.setEnd (ev2 := .ref t) (e2 := some "enough") ⟨t, rfl, hR6.sT.sqt (SqT.of upd_same)⟩
            exact k _ _ _ (some "enough") (sS.trans sS2) ⟨_, _, _, _, _, _, _, _, hR8⟩ (.inr ⟨by rw [hTs], by rw [hTs]; omega, .inr ⟨rfl, em⟩⟩)
          · rw [decide_eq_false em]
            exact iteF (k _ _ _ none sS ⟨_, _, _, _, _, _, _, _, hR5⟩ (.inr ⟨by rw [hTs], by rw [hTs]; omega, .inl ⟨rfl, em⟩⟩))
end
end Gt
set_option Elab.async false
set_option linter.all false
set_option maxRecDepth 100000
set_option maxHeartbeats 4000000
/-! take_not, take_deed. -/
namespace Gt
open PySem L2 RZ
def spTakeNot (K : PySem.W.Frag) (c : RC) : Sp := fun vs H Q _ => ∃ B S dx lr la lg ll ev gvs fvs left given taken v vb s i mb, vs = [.ref c.r, v, vb] ∧ RunC K c B S H dx lr la lg ll ev gvs fvs left given taken none ∧ Tr K S v (.app s [i]) ∧ (Tm.app s [i]).vars = [] ∧ (Tm.app s [i]).size ≤ 900 ∧ FrameAt K S vb mb ∧ left.length ≤ 1000000 ∧
  ∀ S' H', Same S S' → RunSt K c B S' H' (⟨[(some i, left.length), (none, left.length)], mb.p, mb.w⟩ :: mb :: left) given taken none → Q .non H'
def spTakeDeed (K : PySem.W.Frag) (c : RC) : Sp := fun vs H Q _ => ∃ B S dx lr la lg ll ev gvs fvs left given taken v vb a b mb n nb, vs = [.ref c.r, v, vb] ∧ RunC K c B S H dx lr la lg ll ev gvs fvs left given taken none ∧ Tr K S v (.app "=" [a, b]) ∧ FrameAt K S vb mb ∧ left.length ≤ 1000000 ∧
  OKs (PT 41 nb n) mb.p ∧ PT 41 nb n a ∧ PT 41 nb n b ∧ nb.length * (n + 1) ≤ 2000 ∧
  ∀ S' H' o, Same S S' → Mgu (PT 41 nb n) mb.p [(a, b)] o → RunSt K c B S' H' (match o with | some q => ⟨mb.gs, q, mb.w⟩ :: left | none => left) given taken none → Q .non H'
section
variable {P : Program} {w : World} {K : PySem.W.Frag} {mg : Str → Option Value} {base : Heap} {CX : CXT}
theorem ok_take_not {c : RC} (T : TxtR K mg c.C) : FnOk P w K mg base CX0 100 T.f_take_not T.fd_take_not ["self", "goal", "behind"] (spTakeNot K c) := by
  have G_unknowns_of : FnOk P w K mg base CX0 1 T.d_unknowns_of.f T.d_unknowns_of.fd ["terms"] (spUnknowns K) := ok_unknowns_of T.toTxt
  refine T.F_take_not.ok (k := 99) sc_take_not (fun vs H Q E h => ?_) (fun cdv A outer s H vs Q E hr h => ?_)
  · obtain ⟨B, S, dx, lr, la, lg, ll, ev, gvs, fvs, left, given, taken, v, vb, s, i, mb, rfl, _⟩ := h
    rfl
  · obtain ⟨B, S, dx, lr, la, lg, ll, ev, gvs, fvs, left, given, taken, v, vb, sg, i, mb, rfl, hR, hv, hvars, hsz, hb, hll, k⟩ := h
    have big : (1000100 : Nat) < sizeLine := by decide
    refine ⟨_, (pss_cons (ps_if (pt_cmpR (op_neT (hu_of2 hr)) (pe_call G_unknowns_of (hr.mono (by omega)) rfl T.d_unknowns_of.m T.d_unknowns_of.k T.d_unknowns_of.b .nil pass0 (pa_cons (pe_lst (pa_cons (pv 1) pa_nil)) pa_nil)) (pe_lst pa_nil) (nomark _)) (pss_cons ps_never
          (pss_one ps_retN)) pss_nil)
          (pss_cons (ps_set (i := 3) sc_take_not.nd rfl (Or.inl rfl) (pe_callB call_len_seq (by rfl) T.len PySem.boot_len (pa_cons (pe_fld (pv 0) rfl) pa_nil)))
          (pss_cons (ps_expr (pe_bm PySem.F.plainAttrs_list PySem.F.slot_list_append PySem.F.type_list_append mt_append (pe_fld (pv 0) rfl) (pa_cons (pv 2) pa_nil)))
          (pss_one (ps_expr (pe_bm PySem.F.plainAttrs_list PySem.F.slot_list_append PySem.F.type_list_append mt_append (pe_fld (pv 0) rfl) (pa_cons (pe_tup (pa_cons (pe_lst (pa_cons (pe_tup (pa_cons (pe_ix ix_tup (pe_ix ix_tup (pv 1) pe_int (fun _ _ => rfl)) pe_int (fun _ _ => rfl)) (pa_cons (pv 3) pa_nil))) (pa_cons (pe_tup (pa_cons pe_non (pa_cons (pv 3) pa_nil))) pa_nil))) (pa_cons (pe_ix ix_tup (pv 2) pe_int (fun _ _ => rfl)) (pa_cons (pe_ix ix_tup (pv 2) pe_int (fun _ _ => rfl)) pa_nil)))) pa_nil))))))), ?_⟩
    refine ⟨_, rfl, (by show 1 ≤ sizeLine; decide), fun l1 hl1 => ?_⟩
    have s1 := same_new (o := .lst [v]) hl1
    have hvH := hv.same hR.sh
    refine ⟨l1, [v], [.app sg [i]], rfl, SqL.of upd_same, ⟨hvH.same s1, trivial⟩, by simp only [Tm.sizeL]; omega, fun H1 p1 s2 hp1 hp1' => ?_⟩
    have en : namesOf [Tm.app sg [i]] = [] := by
      unfold namesOf
      rw [Tm.varsL, Tm.varsL, hvars]
      rfl
    rw [en] at hp1'
    refine ⟨Nat.zero_le _, fun l2 hl2 => ?_⟩
    have s3 := same_new (o := .lst []) hl2
    have s123 := s1.trans (s2.trans s3)
    refine ⟨.list [], .list [], .lst (SqL.of (s3 _ _ hp1')) .nil, .lst (SqL.of upd_same) .nil, rfl, rfl, by decide, _, rfl, ?_⟩
    refine iteF ?_
    have hR1 := hR.up s123
    have lf := hR.fr.len
    have lfr : fvs.reverse.length = left.length := by rw [List.length_reverse, lf]
    refine ⟨_, rfl, c.r, c.C, dx, _, _, rfl, hR1.at_, T.cl, T.n_left, f_left, ll, _, rfl, .inl (SqL.of hR1.hl), ?_⟩
    rw [lfr]
    refine ⟨_, rfl, c.r, c.C, dx, _, _, rfl, hR1.at_, T.cl, T.n_left, f_left, .inl ⟨rfl, _, SqL.of hR1.hl⟩, _, rfl, ll, _, _, rfl, rfl, hR1.hl, by rw [lfr]; omega, ?_⟩
    have hR2 := hR1.push hb
    generalize upd (upd H1 l2 (.lst [])) ll (.lst (fvs.reverse ++ [vb])) = G at *
    obtain ⟨a, lg2, d, wv, xs, rfl, b1, b2, b3, b4, b5⟩ := id hb
    have hvG : Tr K G v (.app sg [i]) := hv.same hR2.sh
    obtain ⟨p2, q2, vs2, rfl, e1, e2, e3⟩ := hvG
    cases vs2 with
    | nil => exact e3.elim
    | cons vi vs2 =>
    obtain ⟨ti, tn⟩ := e3
    cases vs2 with
    | cons _ _ => exact tn.elim
    | nil =>
    refine ⟨_, rfl, c.r, c.C, dx, _, _, rfl, hR2.at_, T.cl, T.n_left, f_left, .inl ⟨rfl, _, SqL.of hR2.hl⟩, ?_⟩
    refine ⟨_, rfl, p2, _, 2, _, rfl, rfl, e1, rfl, q2, _, 0, vi, rfl, rfl, e2, rfl, _, rfl, (by show 2 ≤ sizeLine; decide), fun t1 ht1 => ⟨_, rfl, (by show 2 ≤ sizeLine; decide), fun t2 ht2 => ⟨(by show 2 ≤ sizeLine; decide), fun l3 hl3 => ?_⟩⟩⟩
    have z1 := same_new (o := .tup [vi, .int (left.length : Nat)]) ht1
    have z2 := same_new (o := .tup [.non, .int (left.length : Nat)]) ht2
    have z3 := same_new (o := .lst [.ref t1, .ref t2]) hl3
    have z123 := z1.trans (z2.trans z3)
    have b1' := same_sqt (hR2.sh.trans z123) b1
    refine ⟨_, rfl, a, _, 1, _, rfl, rfl, b1', rfl, _, rfl, a, _, 2, _, rfl, rfl, b1', rfl, (by show 3 ≤ sizeLine; decide), fun t4 ht4 => ?_⟩
    have z4 := same_new (o := .tup [.ref l3, .ref d, .ref wv]) ht4
    have hR3 := hR2.up (z123.trans z4)
    obtain ⟨hR4, sS⟩ := hR3.grow
    have nl3 : l3 ≠ lg := fun e => by
      have := (hR2.up (z1.trans z2)).hg
      rw [← e, hl3] at this
      exact nomatch this
    have nl3' : l3 ≠ ll := fun e => by
      have := (hR2.up (z1.trans z2)).hl
      rw [← e, hl3] at this
      exact nomatch this
    have wvS : S wv = some (.lst (wayV mb.w)) := b5
    have fr : FrameAt K (sub3 (upd (upd (upd (upd G t1 (.tup [vi, .int (left.length : Nat)])) t2 (.tup [.non, .int (left.length : Nat)])) l3 (.lst [.ref t1, .ref t2])) t4 (.tup [.ref l3, .ref d, .ref wv])) c.r lg ll) (.ref t4) ⟨[(some i, left.length), (none, left.length)], mb.p, mb.w⟩ := by
      refine hR3.frame (SqT.of upd_same) (z4 _ _ upd_same) nl3 nl3' ⟨⟨t1, vi, rfl, SqT.of ((z2.trans (z3.trans z4)) _ _ upd_same), ti.same (z123.trans z4)⟩, ⟨t2, .non, rfl, SqT.of ((z3.trans z4) _ _ upd_same), rfl⟩, trivial⟩ (b4.same hR3.sh) (hR3.sh _ _ wvS) ?_ ?_
      · exact fun e => by rw [e, hR.ng] at wvS; exact nomatch wvS
      · exact fun e => by rw [e, hR.nl] at wvS; exact nomatch wvS
    have hR5 := hR4.push fr
    refine ⟨ll, _, _, rfl, rfl, hR3.hl, by rw [List.length_reverse, List.length_cons]; omega, ?_⟩
    exact k _ _ sS ⟨_, _, _, _, _, _, _, _, hR5⟩
theorem ok_take_deed {c : RC} (T : TxtR K mg c.C) : FnOk P w K mg base CX0 100 T.f_take_deed T.fd_take_deed ["self", "goal", "behind"] (spTakeDeed K c) := by
  have G_deed : FnOk P w K mg base CX0 4 T.d_deed.f T.d_deed.fd ["goal", "puts"] (spDeed K) := ok_deed T.toTxt
  refine T.F_take_deed.ok (k := 99) sc_take_deed (fun vs H Q E h => ?_) (fun cdv A outer s H vs Q E hr h => ?_)
  · obtain ⟨B, S, dx, lr, la, lg, ll, ev, gvs, fvs, left, given, taken, v, vb, a, b, mb, n, nb, rfl, _⟩ := h
    rfl
  · obtain ⟨B, S, dx, lr, la, lg, ll, ev, gvs, fvs, left, given, taken, v, vb, ta, tb, mb, n, nb, rfl, hR, hv, hb, hll, hp, pa, pb, hU, k⟩ := h
    have big : (1000100 : Nat) < sizeLine := by decide
    refine ⟨_, (pss_one (ps_try_thru (pss_one (ps_set (i := 3) sc_take_deed.nd rfl (Or.inl rfl) (pe_call G_deed (hr.mono (by omega)) rfl T.d_deed.m T.d_deed.k T.d_deed.b .nil pass0 (pa_cons (pv 1) (pa_cons (pe_ix ix_tup (pv 2) pe_int (fun _ _ => rfl)) pa_nil))))) (pss_one (ps_if (pt_cmp (pc_notN (pv 3))) (pss_one (ps_expr (pe_bm PySem.F.plainAttrs_list PySem.F.slot_list_append PySem.F.type_list_append mt_append (pe_fld (pv 0) rfl) (pa_cons (pe_tup (pa_cons (pe_ix ix_tup (pv 2) pe_int (fun _ _ => rfl)) (pa_cons (pv 3) (pa_cons (pe_ix ix_tup (pv 2) pe_int (fun _ _ => rfl)) pa_nil)))) pa_nil)))) pss_nil)))), ?_⟩
    obtain ⟨a, lg2, d, wv, xs, rfl, b1, b2, b3, b4, b5⟩ := id hb
    have b1H := same_sqt hR.sh b1
    refine ⟨_, rfl, _, rfl, a, _, 1, _, rfl, rfl, b1H, rfl, ?_⟩
    refine ⟨v, d, ta, tb, mb.p, n, nb, rfl, hv.same hR.sh, b4.same hR.sh, hp, pa, pb, hU, fun H1 r1 o s1 hm hr1 => ?_⟩
    have hR1 := hR.up s1
    refine ⟨_, rfl, _, rfl, ?_⟩
    cases o with
    | none =>
      have e : r1 = .non := hr1
      rw [e, v_non_non]
      exact iteF (k _ _ none (Same.refl _) hm ⟨_, _, _, _, _, _, _, _, hR1⟩)
    | some q =>
      obtain ⟨d1, rfl, hd1⟩ := hr1
      rw [v_ref_non]
      refine iteT ?_
      have lf := hR.fr.len
      have lfr : fvs.reverse.length = left.length := by rw [List.length_reverse, lf]
      have b1' := same_sqt (hR.sh.trans s1) b1
      refine ⟨_, rfl, c.r, c.C, dx, _, _, rfl, hR1.at_, T.cl, T.n_left, f_left, .inl ⟨rfl, _, SqL.of hR1.hl⟩, ?_⟩
      refine ⟨_, rfl, a, _, 0, _, rfl, rfl, b1', rfl, _, rfl, _, rfl, a, _, 2, _, rfl, rfl, b1', rfl, (by show 3 ≤ sizeLine; decide), fun t4 ht4 => ?_⟩
      have z4 := same_new (o := .tup [.ref lg2, .ref d1, .ref wv]) ht4
      have hR3 := hR1.up z4
      obtain ⟨hR4, sS⟩ := hR3.grow
      have fr : FrameAt K (sub3 (upd H1 t4 (.tup [.ref lg2, .ref d1, .ref wv])) c.r lg ll) (.ref t4) ⟨mb.gs, q, mb.w⟩ := by
        refine hR3.frame (SqT.of upd_same) (hR3.sh _ _ b2) ?_ ?_ (b3.imp fun _ _ z => z.samT (same_t hR3.sh)) (hd1.same z4) (hR3.sh _ _ b5) ?_ ?_
        · exact fun e => by rw [e, hR.ng] at b2; exact nomatch b2
        · exact fun e => by rw [e, hR.nl] at b2; exact nomatch b2
        · exact fun e => by rw [e, hR.ng] at b5; exact nomatch b5
        · exact fun e => by rw [e, hR.nl] at b5; exact nomatch b5
      have hR5 := hR4.push fr
      refine ⟨ll, _, _, rfl, rfl, hR3.hl, by rw [lfr]; omega, ?_⟩
      exact k _ _ (some q) sS hm ⟨_, _, _, _, _, _, _, _, hR5⟩
end
end Gt
set_option Elab.async false
set_option linter.all false
set_option maxRecDepth 100000
set_option maxHeartbeats 4000000
/-! take_named. -/
namespace Gt
open PySem L2 RZ
/-- [x for x in reversed(xs)] -/
theorem lc_rev {K : PySem.W.Frag} {a D : Addr} {xs : List V} {i : Nat} {σ : St} {H1 : Hp} {Q : Hp → Prop} (hi : i < σ.length) (hD : H1 D = none) (hT : SqL K H1 a xs) (hz : xs.length ≤ 1000000) (hq : ∀ H, Same H1 H → H D = some (.lst xs.reverse) → Q H) :
    ∃ W : Nat → Nat → Hp → Prop, (∃ m, W 0 m (upd H1 D (.lst []))) ∧ ∀ j m H, W j m H →
      ((Itv K a xs.length).stop j H ∧ Q H) ∨ ((Itv K a xs.length).go j H ∧ ∃ Nx : Hp → Prop, (∀ H', Nx H' → ∃ m', m' < m ∧ W (j + 1) m' H') ∧ ∀ x H', (Itv K a xs.length).yld j H x H' → gName i x (wipe σ [i]) H' fun σ2 H2 => wipe σ2 [i] = wipe σ [i] ∧ tYes σ2 H2 fun b H3 =>
        if b = true then tVar i σ2 H3 fun y H4 => ∃ acc, H4 D = some (.lst acc) ∧ acc.length < sizeLine ∧ Nx (upd H4 D (.lst (acc ++ [y]))) else Nx H3) := by
  have big : (1000000 : Nat) < sizeLine := by decide
  refine ⟨fun j m H => m = xs.length - j ∧ j ≤ xs.length ∧ Same H1 H ∧ H D = some (.lst (xs.reverse.take j)), ⟨_, rfl, Nat.zero_le _, same_new hD, upd_same⟩, ?_⟩
  rintro j m H ⟨rfl, hj, s, hd⟩
  by_cases hlt : j < xs.length
  · have hk : xs.length - 1 - j < xs.length := by omega
    have hx : xs[xs.length - 1 - j]? = some xs[xs.length - 1 - j] := List.getElem?_eq_getElem hk
    refine .inr ⟨⟨hlt, xs, _, s.seq hT, hx⟩, fun H' => j + 1 ≤ xs.length ∧ Same H1 H' ∧ H' D = some (.lst (xs.reverse.take (j + 1))), fun H' p => ⟨xs.length - (j + 1), by omega, rfl, p⟩, fun x H' y => ?_⟩
    obtain ⟨e, hy⟩ := y
    subst e
    have ex := hy xs (s.seq hT)
    refine ⟨?_, ?_⟩
    · exact (wipe_set (wipe σ [i]) i (some x)).trans (by show ((σ.set i none).set i none) = σ.set i none; rw [List.set_set])
    · unfold tYes
      show if true = true then _ else _
      rw [if_pos rfl]
      refine ⟨x, ?_, _, hd, by rw [List.length_take, List.length_reverse]; omega, hlt, same_upd s hD, ?_⟩
      · show ((σ.set i none).set i (some x))[i]? = _
        rw [List.getElem?_set_self (by rw [List.length_set]; exact hi)]
      · rw [upd_same, List.take_add_one, List.getElem?_reverse hlt, ex]
        rfl
  · have e : j = xs.length := by omega
    subst e
    refine .inl ⟨Nat.le_refl _, hq H s ?_⟩
    rw [hd, ← List.length_reverse, List.take_length]
def sub4 (H : Hp) (a b d x : Addr) : Hp := fun p => if p = x then none else sub3 H a b d p
theorem sub4_same (H : Hp) (a b d x : Addr) : Same (sub4 H a b d x) (sub3 H a b d) := fun p o e => by
  unfold sub4 at e
  split at e
  · exact nomatch e
  · exact e
theorem sub4_at {H : Hp} {a b d x p : Addr} {o : HO} (h : sub3 H a b d p = some o) (n : p ≠ x) : sub4 H a b d x p = some o := by
  unfold sub4
  rw [if_neg n]
  exact h
theorem sub4_none {H : Hp} {a b d x : Addr} : sub4 H a b d x x = none := by
  unfold sub4
  rw [if_pos rfl]
section
variable {K : PySem.W.Frag} {c : RC} {B S H H1 : Hp} {dx lr la lg ll : Addr} {ev : V} {gvs fvs : List V} {left : List MF} {given : List (List Tm × Way)} {taken : Nat} {e : Option Str}
theorem RunC.grow4 (h : RunC K c B S H dx lr la lg ll ev gvs fvs left given taken e) {x : Addr} (hx : S x = none) : RunC K c B (sub4 H c.r lg ll x) H dx lr la lg ll ev gvs fvs left given taken e ∧ Same S (sub4 H c.r lg ll x) := by
  have s3 := same_sub3 h.sh h.nr h.ng h.nl
  have s : Same S (sub4 H c.r lg ll x) := fun p o q => sub4_at (s3 p o q) (ne_of_none q hx)
  have n : ∀ p, sub3 H c.r lg ll p = none → sub4 H c.r lg ll x p = none := fun p q => by
    unfold sub4
    split
    · rfl
    · exact q
  exact ⟨⟨h.bs.trans s, (sub4_same _ _ _ _ _).trans (sub3_same _ _ _ _), n _ (sub3_none (.inl rfl)), n _ (sub3_none (.inr (.inl rfl))), n _ (sub3_none (.inr (.inr rfl))), h.ne, h.at_, h.rules.same s, s.seq h.asked, h.hg, h.giv.imp fun _ _ q => q.same s, h.hl, h.fr.imp fun _ _ q => q.same s, h.en.same s⟩, s⟩
theorem samT_sub4 {r l3 l4 x : Addr} {xs : List V} (hx : H x = some (.lst xs)) : SameT (sub3 H r l3 l4) (sub4 H r l3 l4 x) := fun p zs h => by
  have n : p ≠ x := fun e => by
    subst e
    rcases h with h | ⟨_, h⟩
    · have := sub3_same _ _ _ _ _ _ h; rw [hx] at this; cases this
    · have := sub3_same _ _ _ _ _ _ h; rw [hx] at this; cases this
  rcases h with h | ⟨o, h⟩
  · exact .inl (sub4_at h n)
  · exact .inr ⟨o, sub4_at h n⟩
theorem RunC.frame4 (h : RunC K c B S H dx lr la lg ll ev gvs fvs left given taken e) {x : Addr} {ys : List V} (hx : H x = some (.lst ys)) {a lgx d wv : Addr} {xs : List V} {gs : List MG} {p : Puts} {w : Way} (h1 : SqT K H a [.ref lgx, .ref d, .ref wv]) (h2 : H lgx = some (.lst xs)) (n1 : lgx ≠ lg) (n2 : lgx ≠ ll) (n5 : lgx ≠ x) (h3 : F2 (GoalAt K H) xs gs)
    (h4 : PAt K H d p) (h5 : H wv = some (.lst (wayV w))) (n3 : wv ≠ lg) (n4 : wv ≠ ll) (n6 : wv ≠ x) : FrameAt K (sub4 H c.r lg ll x) (.ref a) ⟨gs, p, w⟩ := by
  have sT := h.sT.trans (samT_sub4 (r := c.r) (l3 := lg) (l4 := ll) hx)
  obtain ⟨kvs, k1, k2⟩ := h4
  refine ⟨a, lgx, d, wv, xs, rfl, sT.sqt h1, sub4_at (sub3_at h2 (ne_of h2 h.at_ (by intro z; cases z)) n1 n2) n5, h3.imp fun _ _ q => q.samT sT, ⟨kvs, sub4_at (sub3_at k1 (fun e => ?_) (fun e => ?_) (fun e => ?_)) (fun e => ?_), k2.samT sT⟩, sub4_at (sub3_at h5 (ne_of h5 h.at_ (by intro z; cases z)) n3 n4) n6⟩
  · rw [e, h.at_] at k1; cases k1
  · rw [e, h.hg] at k1; cases k1
  · rw [e, h.hl] at k1; cases k1
  · rw [e, hx] at k1; cases k1
end
def spTakeNamed (K : PySem.W.Frag) (c : RC) (cx : Cx) : Sp := fun vs H Q _ => ∃ B S dx lr la lg ll ev gvs fvs left given taken v vr g mr, vs = [.ref c.r, v, vr] ∧ RunC K c B S H dx lr la lg ll ev gvs fvs left given taken none ∧ Tr K S v g ∧ isApp g = true ∧ FrameAt K S vr mr ∧ left.length ≤ 900000 ∧
  OKs (PT 41 cx.nb (taken + 1)) mr.p ∧ PT 41 cx.nb (taken + 1) g ∧ taken ≤ 400 ∧ mr.w.length ≤ 20 ∧ mr.gs.length ≤ 20 ∧ c.R = cx.R ∧
  ∀ S' H' l, Same S S' → MAlts cx taken left.length g mr.p mr.w mr.gs cx.R.zipIdx l → RunSt K c B S' H' (l ++ left) given taken none → Q .non H'
theorem isApp_eq {g : Tm} (h : isApp g = true) : g = .app (sgn g) (kidsT g) := by
  cases g with
  | app s ks => rfl
  | num _ => exact nomatch h
  | any _ => exact nomatch h
section
variable {P : Program} {w : World} {K : PySem.W.Frag} {mg : Str → Option Value} {base : Heap} {CX : CXT}
theorem ok_take_named {c : RC} (T : TxtR K mg c.C) {cx : Cx} (ok : CxOk cx) (hlen : ∀ x ∈ cx.nb, x.length ≤ 1000) : FnOk P w K mg base CX0 100 T.f_take_named T.fd_take_named ["self", "goal", "rest"] (spTakeNamed K c cx) := by
  have G_same_word : FnOk P w K mg base CX0 1 T.d_same_word.f T.d_same_word.fd ["head", "goal"] (spSameWord K) := ok_same_word T.toTxt
  have G_made_one : FnOk P w K mg base CX0 3 T.d_made_one.f T.d_made_one.fd ["one", "other", "puts"] (spMade K) := ok_made_one T.toTxt
  have G_marked : FnOk P w K mg base CX0 90 T.d_marked.f T.d_marked.fd ["term", "n"] (spMarked K) := ok_marked T.toTxt
  refine T.F_take_named.ok (k := 99) sc_take_named (fun vs H Q E h => ?_) (fun cdv A outer s H vs Q E hr h => ?_)
  · obtain ⟨B, S, dx, lr, la, lg, ll, ev, gvs, fvs, left, given, taken, v, vr, g, mr, rfl, _⟩ := h
    rfl
  · obtain ⟨B, S, dx, lr, la, lg, ll, ev, gvs, fvs, left, given, taken, v, vr, g, mr, rfl, hR, hv, hgA, hrf, hll, hp, pg, htk, hwl, hgl, eR, k⟩ := h
    have big : (1000100 : Nat) < sizeLine := by decide
    refine ⟨_, (pss_cons (ps_set (i := 3) sc_take_named.nd rfl (Or.inr rfl) (pe_callB call_len_seq (by rfl) T.len PySem.boot_len (pa_cons (pe_fld (pv 0) rfl) pa_nil)))
          (pss_cons (ps_set (i := 4) sc_take_named.nd rfl (Or.inl rfl) (pe_lst pa_nil))
          (pss_cons (ps_for PassesOwn.never rfl (pi_enum (by rfl) T.enumerate (pa_cons (pe_fld (pv 0) rfl) pa_nil)) (pg_tup (by rfl) (pgs_cons (pg_name (i := 5) sc_take_named.nd rfl (Or.inl rfl)) (pgs_cons (pg_name (i := 6) sc_take_named.nd rfl (Or.inl rfl)) pgs_nil)))
          (pss_one (ps_if (pt_val (pe_call G_same_word (hr.mono (by omega)) rfl T.d_same_word.m T.d_same_word.k T.d_same_word.b .nil pass0 (pa_cons (pe_ix ix_tup (pv 6) pe_int (fun _ _ => rfl)) (pa_cons (pv 1) pa_nil)))) (pss_cons (ps_set (i := 7) sc_take_named.nd rfl (Or.inl rfl) (pe_call G_made_one (hr.mono (by omega)) rfl T.d_made_one.m T.d_made_one.k T.d_made_one.b .nil pass0 (pa_cons (pe_call G_marked (hr.mono (by omega)) rfl T.d_marked.m T.d_marked.k T.d_marked.b .nil pass0 (pa_cons (pe_ix ix_tup (pv 6) pe_int (fun _ _ => rfl)) (pa_cons ((show PE _ _ (tFld K (tVar 0) "taken") from pe_fld (pv 0) rfl)) pa_nil))) (pa_cons (pv 1) (pa_cons (pe_ix ix_tup (pv 2) pe_int (fun _ _ => rfl)) pa_nil)))))
          (pss_one (ps_if (pt_cmpR op_eq (pe_ix ix_tup (pv 7) pe_int (fun _ _ => rfl)) pe_str (nomark _)) (pss_cons (ps_setLc (i := 8) (own := [("part", 9)]) (g := gName 9) rfl sc_take_named.nd rfl rfl (sw_true rfl rfl rfl (by decide +kernel)) (pi_tup (pe_ix ix_tup (pv 6) pe_int (fun _ _ => rfl))) (blkOk_by (own := [("part", 9)]) (N := ["self", "goal", "rest", "height", "ways", "k", "one", "made", "body", "part", "way"]) (sc := defScope s_take_named) (by decide +kernel)) (fun _ _ _ _ _ => (pg_name (i := 9) sc_take_named.nd rfl (Or.inl rfl))) (fun _ _ _ _ _ => pts_nil) (fun _ _ _ _ _ => (pe_tup (pa_cons (pe_call G_marked (hr.mono (by omega)) rfl T.d_marked.m T.d_marked.k T.d_marked.b .nil pass0 (pa_cons (pv 9) (pa_cons ((show PE _ _ (tFld K (tVar 0) "taken") from pe_fld (pv 0) rfl)) pa_nil))) (pa_cons (pv 3) pa_nil)))))
          (pss_one (ps_expr (pe_bm PySem.F.plainAttrs_list PySem.F.slot_list_append PySem.F.type_list_append mt_append (pv 4) (pa_cons (pe_tup (pa_cons (pe_op op_cat (pv 8) (pe_ix ix_tup (pv 2) pe_int (fun _ _ => rfl))) (pa_cons (pe_ix ix_tup (pv 7) pe_int (fun _ _ => rfl)) (pa_cons (pe_op op_cat (pe_ix ix_tup (pv 2) pe_int (fun _ _ => rfl)) (pe_lst (pa_cons (pe_op op_add (pv 5) pe_int) pa_nil))) pa_nil)))) pa_nil))))) pss_nil))) pss_nil)))
          (pss_one (ps_fld (pv 0) (pe_op op_cat (pe_fld (pv 0) rfl) (pe_lc (own := [("way", 10)]) (g := gName 10) rfl sc_take_named.nd (pi_reversed (by rfl) T.reversed (pa_cons (pv 4) pa_nil)) (blkOk_by (own := [("way", 10)]) (N := ["self", "goal", "rest", "height", "ways", "k", "one", "made", "body", "part", "way"]) (sc := defScope s_take_named) (by decide +kernel)) (fun _ _ _ _ _ => (pg_name (i := 10) sc_take_named.nd rfl (Or.inl rfl))) (fun _ _ _ _ _ => pts_nil) (fun _ _ _ _ _ => (pv 10)))) rfl))))), ?_⟩
    have lf := hR.fr.len
    have lfr : fvs.reverse.length = left.length := by rw [List.length_reverse, lf]
    refine ⟨_, rfl, c.r, c.C, dx, _, _, rfl, hR.at_, T.cl, T.n_left, f_left, ll, _, rfl, .inl (SqL.of hR.hl), ?_⟩
    rw [lfr]
    refine ⟨Nat.zero_le _, fun lw hlw => ?_⟩
    have z0 := same_new (o := .lst []) hlw
    have hR0 := hR.up z0
    have Slw : S lw = none := hR.sh.free hlw
    have nwl : lw ≠ ll := fun e => by rw [e, hR.hl] at hlw; exact nomatch hlw
    have nwg : lw ≠ lg := fun e => by rw [e, hR.hg] at hlw; exact nomatch hlw
    have nwr : lw ≠ c.r := fun e => by rw [e, hR.at_] at hlw; exact nomatch hlw
    obtain ⟨rvs, hr1, hr2⟩ := hR.rules
    obtain ⟨ar, lg2, d, wv, xs, rfl, b1, b2, b3, b4, b5⟩ := id hrf
    have gapp := isApp_eq hgA
    have nb3 := ok.three
    have hU : cx.nb.length * (taken + 1 + 1) ≤ 2000 := Nat.le_trans (Nat.mul_le_mul nb3 (show taken + 1 + 1 ≤ 402 by omega)) (by decide)
    refine ⟨_, rfl, c.r, c.C, dx, _, _, rfl, hR0.at_, T.cl, T.n_rules, f_rules, lr, rvs, rfl, hR0.sh.seq hr1, ?_⟩
    let Pv : Nat → St → Hp → Prop := fun i σ H' => ∃ S1 wvs l x5 x6 x7 x8, σ = [some (.ref c.r), some v, some (.ref ar), some (.int (left.length : Nat)), some (.ref lw), x5, x6, x7, x8, none, none] ∧ Same S S1 ∧ S1 lw = none ∧ RunC K c B S1 H' dx lr la lg ll ev gvs fvs left given taken none ∧
      H' lw = some (.lst wvs) ∧ F2 (FrameAt K S1) wvs l ∧ MAlts cx taken left.length g mr.p mr.w mr.gs (cx.R.zipIdx.take i) l
    refine for_enum (K := K) (a := lr) (xs := rvs) Pv ⟨S, [], [], _, _, _, _, rfl, Same.refl _, Slw, hR0, upd_same, trivial, rfl⟩ (fun i σ H' ⟨S1, _, _, _, _, _, _, _, s1, _, h1, _⟩ => h1.sh.seq (s1.seq hr1)) ?_ ?_
    · rintro i x T' σ H' hx ⟨S1, wvs, l, x5, x6, x7, x8, rfl, sS1, hS1w, hR1, hw1, hf1, hm1⟩ hT
      obtain ⟨r, hri, hrx⟩ := hr2.get hx
      rw [eR] at hri
      have hrm := List.mem_of_getElem? hri
      have rk := ok.rule r hrm
      have hi := (List.getElem?_eq_some_iff.mp hri).1
      have ez : cx.R.zipIdx.take (i + 1) = cx.R.zipIdx.take i ++ [(r, i)] := by
        rw [List.take_add_one, List.getElem?_zipIdx, hri]
        simp
      have s2 := same_new (o := .tup [.int (i : Nat), x]) hT
      have hR2 := hR1.up s2
      have hw2 := s2 _ _ hw1
      refine ⟨T', _, rfl, SqT.of upd_same, rfl, _, _, rfl, _, _, rfl, rfl, ?_⟩
      generalize upd H' T' (.tup [.int (i : Nat), x]) = G at *
      have sSG : Same S G := sS1.trans hR2.sh
      obtain ⟨rp, rq, rv, bvs, rfl, c1, c2, c3, c4⟩ := hrx.samT (same_t sSG)
      obtain ⟨hs, hks, eh, _, hkl, hkk⟩ := rk.head
      have hvG := hv.same sSG
      have hvG' := hvG
      rw [gapp] at hvG'
      have c2' := c2
      rw [eh] at c2'
      refine ⟨_, rfl, rp, _, 0, _, rfl, rfl, c1, rfl, _, rfl, rv, v, hs, hks, sgn g, kidsT g, rfl, c2', hvG', _, rfl, ?_⟩
      have sm : same (.app hs hks) (.app (sgn g) (kidsT g)) = same r.1 g := by rw [eh]; rfl
      rw [sm]
      have hpt := rk.headOk.pt
      have hxl : ∀ t : Tm, PT 3 cx.nb 0 t → ∀ x ∈ t.vars, x.length ≤ 1000 := fun t ht x hx => by
        rcases Un_mem.mp (ht.nm x hx) with h | ⟨m, hm, _⟩
        · exact hlen x h
        · exact absurd hm (Nat.not_lt_zero m)
      cases es : same r.1 g with
      | false =>
        refine iteF ⟨S1, wvs, l, _, _, _, _, rfl, sS1, hS1w, hR2, hw2, hf1, ?_⟩
        rw [ez]
        exact hm1.skip fun e => by rw [es] at e; exact nomatch e
      | true =>
        refine iteT ?_
        -- made
        refine ⟨_, rfl, rp, _, 0, _, rfl, rfl, c1, rfl, _, rfl, c.r, c.C, dx, _, _, rfl, hR2.at_, T.cl, T.n_taken, f_taken, ?_⟩
        refine ⟨rv, r.1, taken, rfl, c2, by have := pt_size hpt; omega, by omega, hxl _ hpt, hpt.ar, by have := hpt.dep; omega, fun H3 v3 s3 hv3 => ?_⟩
        have hb1 := same_sqt (sSG.trans s3) b1
        refine ⟨_, rfl, _, rfl, ar, _, 1, _, rfl, rfl, hb1, rfl, ?_⟩
        refine ⟨v3, v, d, mkT taken r.1, g, mr.p, taken + 1, cx.nb, rfl, hv3, hvG.same s3, b4.same (sSG.trans s3), hp, (hpt.mark (n := taken)).mono (by decide) (Nat.le_refl _), pg, hU, fun H4 r4 o s4 hmgu hmade => ?_⟩
        have s34 := s3.trans s4
        have hR4 := hR2.up s34
        have hw4 := s34 _ _ hw2
        obtain ⟨a9, rfl, h9⟩ := hmade
        cases o with
        | none =>
          obtain ⟨x9, y9, xs9, sq9, hx9⟩ := h9
          refine t_eqS (x_tup (ev_var rfl) sq9 (atI_nat (j := 0) (show (V.str x9 :: y9 :: xs9)[0]? = some (V.str x9) from rfl))) ev_str ?_
          rw [decide_eq_false hx9]
          refine iteF ⟨S1, wvs, l, _, _, _, _, rfl, sS1, hS1w, hR4, hw4, hf1, ?_⟩
          rw [ez]
          exact hm1.skip fun _ => hmgu
        | some q =>
          obtain ⟨d9, sq9, hd9⟩ := h9
          refine t_eqS (x_tup (ev_var rfl) sq9 rfl) ev_str ?_
          rw [decide_eq_true rfl]
          refine iteT ?_
          have c1' := same_sqt s34 c1
          have c3' := same_sqt s34 c3
          have c4' := Trs.same s34 c4
          refine ⟨_, rfl, rp, _, 1, _, rfl, rfl, c1', rfl, rq, rfl, ⟨bvs, c3'⟩, fun D hD => ?_⟩
          refine lc_mapT (as := r.2) (In := Tr K) (Out := GoalAt K) (φ := fun b => (some (mkT taken b), left.length)) hD c3' c4' (by have := rk.few; omega) (fun s h => h.same s) (fun o h => h.samT o.t) (fun v5 t5 H5 R5 ht5 s5 hin kk => ?_) (fun H5 ws s5 hD5 hws => ?_)
          · have hR5 := hR4.up s5
            have hb5 := (rk.body t5 ht5).pt
            refine ⟨_, rfl, _, rfl, c.r, c.C, dx, _, _, rfl, hR5.at_, T.cl, T.n_taken, f_taken, ?_⟩
            refine ⟨v5, t5, taken, rfl, hin, by have := pt_size hb5; omega, by omega, hxl _ hb5, hb5.ar, by have := hb5.dep; omega, fun H6 v6 s6 hv6 => ?_⟩
            refine ⟨_, rfl, (by show 2 ≤ sizeLine; decide), fun t7 ht7 => ?_⟩
            have s7 := same_new (o := .tup [v6, .int (left.length : Nat)]) ht7
            exact kk _ _ (s6.trans s7) ⟨t7, v6, rfl, SqT.of upd_same, hv6.same s7⟩
          · have s345 := s34.trans s5
            have sSG5 := sSG.trans s345
            have hR5 := hR4.up s5
            have lws := hws.len
            rw [List.length_map] at lws
            have lgs := b3.len
            refine ⟨_, rfl, .inl ⟨rfl, _, SqL.of (s345 _ _ hw2)⟩, ?_⟩
            refine ⟨_, rfl, _, rfl, ar, _, 0, _, rfl, rfl, same_sqt sSG5 b1, rfl, D, lg2, ws, xs, rfl, rfl, hD5, sSG5 _ _ b2, by have := rk.few; omega, fun lb hlb => ?_⟩
            have s8 := same_new (o := .lst (ws ++ xs)) hlb
            refine ⟨_, rfl, a9, _, 1, _, rfl, rfl, same_sqt (s5.trans s8) sq9, rfl, ?_⟩
            have x2 : EvV (tOp (rIxT K) (tVar 2) (tC (.int 2))) [some (.ref c.r), some v, some (.ref ar), some (.int (left.length : Nat)), some (.ref lw), some (.int (i : Nat)), some (.ref rp), some (.ref a9), some (.ref D), none, none] (upd H5 lb (.lst (ws ++ xs))) (.ref wv) := x_tup (ev_var rfl) (same_sqt (sSG5.trans s8) b1) rfl
            refine x_way (w := mr.w) (k := i + 1) x2 ((sSG5.trans s8) _ _ b5) (fun R q => ⟨_, rfl, _, _, rfl, rfl, q⟩) rfl (by omega) (fun p9 G9 s9 hp9 hp9' => ?_)
            refine ⟨(by show 3 ≤ sizeLine; decide), fun t10 ht10 => ?_⟩
            have s10 := same_new (o := .tup [.ref lb, .ref d9, .ref p9]) ht10
            have s8910 := s8.trans (s9.trans s10)
            have hR10 := hR5.up s8910
            have hw10 := (s345.trans s8910) _ _ hw2
            obtain ⟨hR11, sS11⟩ := hR10.grow4 hS1w
            have hw5 := s345 _ _ hw2
            have fr4 : FrameAt K (sub4 (upd G9 t10 (.tup [.ref lb, .ref d9, .ref p9])) c.r lg ll lw) (.ref t10) ⟨(r.2.map fun b => (some (mkT taken b), left.length)) ++ mr.gs, q, mr.w ++ [i + 1]⟩ := by
              refine hR10.frame4 hw10 (SqT.of upd_same) ((s9.trans s10) _ _ upd_same) (fun e => ?_) (fun e => ?_) (fun e => ?_) ((hws.imp fun _ _ z => z.samT (same_t s8910)).app (b3.imp fun _ _ z => z.samT (same_t (sSG5.trans s8910)))) (hd9.same (s5.trans s8910)) (s10 _ _ hp9') (fun e => ?_) (fun e => ?_) (fun e => ?_)
              · rw [e, hR5.hg] at hlb; exact nomatch hlb
              · rw [e, hR5.hl] at hlb; exact nomatch hlb
              · rw [e, hw5] at hlb; exact nomatch hlb
              · rw [e, (hR5.up s8).hg] at hp9; exact nomatch hp9
              · rw [e, (hR5.up s8).hl] at hp9; exact nomatch hp9
              · rw [e, s8 _ _ hw5] at hp9; exact nomatch hp9
            have sw : Same (sub4 (upd G9 t10 (.tup [.ref lb, .ref d9, .ref p9])) c.r lg ll lw) (upd (upd G9 t10 (.tup [.ref lb, .ref d9, .ref p9])) lw (.lst (wvs ++ [.ref t10]))) := same_upd hR11.sh sub4_none
            have hR12 : RunC K c B (sub4 (upd G9 t10 (.tup [.ref lb, .ref d9, .ref p9])) c.r lg ll lw) (upd (upd G9 t10 (.tup [.ref lb, .ref d9, .ref p9])) lw (.lst (wvs ++ [.ref t10]))) dx lr la lg ll ev gvs fvs left given taken none :=
              { hR11 with sh := sw, at_ := upd_at hR11.at_ nwr.symm, hg := upd_at hR11.hg nwg.symm, hl := upd_at hR11.hl nwl.symm }
            have lwv := hf1.len
            have lfew := hm1.few
            have r6 := ok.few
            refine ⟨lw, wvs, _, rfl, rfl, hw10, ?_, ?_⟩
            · rw [List.length_take, List.length_zipIdx] at lfew
              omega
            · refine ⟨_, wvs ++ [.ref t10], l ++ [⟨(r.2.map fun b => (some (mkT taken b), left.length)) ++ mr.gs, q, mr.w ++ [i + 1]⟩], _, _, _, _, rfl, sS1.trans sS11, sub4_none, hR12, upd_same, (hf1.imp fun _ _ z => z.same sS11).app ⟨fr4, trivial⟩, ?_⟩
              rw [ez]
              exact hm1.snoc es hmgu
    · rintro σ H' ⟨S1, wvs, l, x5, x6, x7, x8, rfl, sS1, hS1w, hR1, hw1, hf1, hm1⟩
      have e : rvs.length = cx.R.zipIdx.length := by rw [List.length_zipIdx, ← eR]; exact hr2.len
      rw [e, List.take_length] at hm1
      have lwv := hf1.len
      have lfew := hm1.few
      have r6 := ok.few
      rw [List.length_zipIdx] at lfew
      refine ⟨_, rfl, c.r, c.C, dx, _, _, rfl, hR1.at_, T.cl, T.n_left, f_left, ?_⟩
      refine ⟨_, rfl, lw, wvs, rfl, SqL.of hw1, fun D hD => ?_⟩
      refine lc_rev (by show 10 < 11; decide) hD (SqL.of hw1) (by omega) fun H2 s2 hD2 => ?_
      have hR2 := hR1.up s2
      refine ⟨ll, D, _, _, rfl, rfl, hR2.hl, hD2, by rw [lfr, List.length_reverse]; omega, fun l9 hl9 => ?_⟩
      have s3 := same_new (o := .lst (fvs.reverse ++ wvs.reverse)) hl9
      have hR3 := hR2.up s3
      have S1l9 : S1 l9 = none := hR2.sh.free hl9
      have ngl : lg ≠ l9 := fun e => by rw [← e, hR2.hg] at hl9; exact nomatch hl9
      have h9 : (upd H2 l9 (.lst (fvs.reverse ++ wvs.reverse))) l9 = some (.lst (wvs ++ fvs).reverse) := by rw [upd_same, List.reverse_append]
      have hR4 := hR3.setLeft h9 S1l9 ngl (hf1.app hR1.fr)
      refine ⟨_, rfl, c.r, c.C, dx, _, rfl, hR3.at_, T.cl, T.n_left, (by show 8 < 1000; decide), ?_⟩
      rw [p_left]
      exact k _ _ l sS1 hm1 ⟨_, _, _, _, _, _, _, _, hR4⟩
end
end Gt
set_option Elab.async false
set_option linter.all false
set_option maxRecDepth 100000
set_option maxHeartbeats 4000000
/-! take, step. -/
namespace Gt
open PySem L2 RZ
mutual
theorem size_ren {v : Str → Tm} (h : ∀ x, (v x).size = 1) : ∀ t : Tm, (ap v t).size = t.size
  | .num _ => rfl
  | .any x => by rw [ap, h, Tm.size]
  | .app _ ks => by rw [ap, Tm.size, Tm.size, sizeL_ren h ks]
theorem sizeL_ren {v : Str → Tm} (h : ∀ x, (v x).size = 1) : ∀ ts : List Tm, Tm.sizeL (apL v ts) = Tm.sizeL ts
  | [] => rfl
  | t :: ts => by rw [apL, Tm.sizeL, Tm.sizeL, size_ren h t, sizeL_ren h ts]
end
theorem told_size (T : List Tm) : Tm.sizeL (toldL T) = Tm.sizeL T := sizeL_ren (fun _ => rfl) T
def Gs (given : List (List Tm × Way)) : Prop := ∀ x ∈ given, Tm.sizeL x.1 ≤ 40
def isEnd (k : Str) : Prop := k = "all" ∨ k = "enough" ∨ k = "spent" ∨ k = "big"
def GoodM (c : RC) (cx : Cx) (ways : Fnd) (mu : Nat) (left : List MF) (given : List (List Tm × Way)) (taken : Nat) : Option Str → Prop
  | none => MInv cx c.asked ways taken left given ∧ taken ≤ 400 ∧ left.length ≤ 1 + 6 * taken ∧ Gs given ∧ (401 - taken) * 7 + left.length < mu
  | some k => (∃ tk lf, MInv cx c.asked ways tk lf given) ∧ taken ≤ 401 ∧ Gs given ∧ (k = "all" → given.length = ways.length) ∧ (k = "enough" → given.length = c.most) ∧ isEnd k
def Done (K : PySem.W.Frag) (c : RC) (cx : Cx) (ways : Fnd) (mu : Nat) (B S' H' : Hp) : Prop := ∃ left given taken e, RunSt K c B S' H' left given taken e ∧ GoodM c cx ways mu left given taken e
theorem rd_names {d n : Nat} {nb : List Str} {p : Puts} (h : OKs (PT d nb n) p) {t : Tm} (ht : Names (· ∈ Un nb n) t) : Names (· ∈ Un nb n) (rd p t) := by
  obtain ⟨L, A⟩ := h.acy
  have hv : ∀ x, x ∈ Un nb n → ∀ z ∈ (rdv p x).vars, z ∈ Un nb n := A.ind (p := fun x => x ∈ Un nb n → ∀ z ∈ (rdv p x).vars, z ∈ Un nb n) (fun x e hx z hz => by
    rw [h.fix.none e, Tm.vars, List.mem_singleton] at hz
    rw [hz]
    exact hx) (fun x t e k hx z hz => by
    rw [h.fix.some e] at hz
    obtain ⟨y, hy, hz⟩ := (ap_vars _ _ _).mp hz
    exact k y hy ((h.st _ (look_some e)).1.nm y hy) z hz)
  intro z hz
  obtain ⟨y, hy, hz⟩ := (ap_vars _ _ _).mp hz
  exact hv y (ht y hy) z hz
theorem cut_headV {xs : List V} {h : Nat} (hh : h ≤ xs.length) : cutV xs none (some ((h : Nat) : Int)) = xs.take h := by
  unfold cutV
  rw [HT.sIx_none, HT.sIx_nat, Nat.min_eq_left hh, List.drop_zero, Nat.sub_zero]
theorem take_rev {fvs : List V} {h : Nat} : fvs.reverse.take h = (fvs.drop (fvs.length - h)).reverse := by
  rw [List.take_reverse]
theorem s_words : ("keep" : Str) ≠ "=" ∧ ("keep" : Str) ≠ ":=" := ⟨s_ek.symm, by decide +kernel⟩
def spTake (K : PySem.W.Frag) (c : RC) (cx : Cx) (ways : Fnd) : Sp := fun vs H Q _ => ∃ B S dx lr la lg ll ev gvs fvs left given taken v vr g mr, ∃ h : Nat, vs = [.ref c.r, v, .int (h : Nat), vr] ∧ RunC K c B S H dx lr la lg ll ev gvs fvs left given taken none ∧ Tr K S v g ∧ FrameAt K S vr mr ∧
  MInv cx c.asked ways taken (⟨(some g, h) :: mr.gs, mr.p, mr.w⟩ :: left) given ∧ taken ≤ 400 ∧ left.length ≤ 6 * taken ∧ Gs given ∧ ∀ S' H', Same S S' → Done K c cx ways ((401 - taken) * 7 + left.length + 1) B S' H' → Q .non H'
section
variable {P : Program} {w : World} {K : PySem.W.Frag} {mg : Str → Option Value} {base : Heap} {CX : CXT}
theorem ok_take {c : RC} (T : TxtR K mg c.C) {cx : Cx} (ok : CxOk cx) (hlen : ∀ x ∈ cx.nb, x.length ≤ 1000) (eR : c.R = cx.R) (ha : ∀ x ∈ c.asked, x ∈ cx.nb) (ways : Fnd) : FnOk P w K mg base CX0 102 T.f_take T.fd_take ["self", "goal", "height", "rest"] (spTake K c cx ways) := by
  have G_parts_up_to : FnOk P w K mg base CX0 2 T.d_parts_up_to.f T.d_parts_up_to.fd ["term", "puts", "most"] (spParts K) := ok_parts_up_to T.toTxt
  have G_written_out : FnOk P w K mg base CX0 50 T.d_written_out.f T.d_written_out.fd ["term", "puts"] (spWritten K) := ok_written_out T.toTxt
  have G_take_not : FnOk P w K mg base CX0 100 T.f_take_not T.fd_take_not ["self", "goal", "behind"] (spTakeNot K c) := ok_take_not T
  have G_take_deed : FnOk P w K mg base CX0 100 T.f_take_deed T.fd_take_deed ["self", "goal", "behind"] (spTakeDeed K c) := ok_take_deed T
  have G_take_named : FnOk P w K mg base CX0 100 T.f_take_named T.fd_take_named ["self", "goal", "rest"] (spTakeNamed K c cx) := ok_take_named T ok hlen
  refine T.F_take.ok (k := 101) sc_take (fun vs H Q E h => ?_) (fun cdv A outer s H vs Q E hr h => ?_)
  · obtain ⟨B, S, dx, lr, la, lg, ll, ev, gvs, fvs, left, given, taken, v, vr, g, mr, h, rfl, _⟩ := h
    rfl
  · obtain ⟨B, S, dx, lr, la, lg, ll, ev, gvs, fvs, left, given, taken, v, vr, g, mr, ht, rfl, hR, hv, hrf, hM, htk, hlf, hGs, k⟩ := h
    have big : (1000100 : Nat) < sizeLine := by decide
    refine ⟨_, (pss_cons (ps_asg (pv 3) (pg_tup (by rfl) (pgs_cons (pg_name (i := 4) sc_take.nd rfl (Or.inl rfl)) (pgs_cons (pg_name (i := 5) sc_take.nd rfl (Or.inl rfl)) (pgs_cons (pg_name (i := 6) sc_take.nd rfl (Or.inl rfl)) pgs_nil)))))
          (pss_cons (ps_if (pt_cmpR op_eq (pe_fld (pv 0) rfl) (pe_fld (pv 0) rfl) (nomark _)) (pss_cons (ps_fld (pv 0) (pe_tup (pa_cons pe_str pa_nil)) rfl)
          (pss_one ps_retN)) pss_nil)
          (pss_cons (ps_fld (pv 0) (pe_op op_add (pe_fld (pv 0) rfl) pe_int) rfl)
          (pss_cons (ps_if (pt_cmpR op_gt (pe_call G_parts_up_to (hr.mono (by omega)) rfl T.d_parts_up_to.m T.d_parts_up_to.k T.d_parts_up_to.b .nil pass0 (pa_cons (pv 1) (pa_cons (pv 5) (pa_cons (pe_glob (v := V.int 40) rfl T.MOST_PARTS_search.choose_spec ⟨_, rfl⟩) pa_nil)))) (pe_glob (v := V.int 40) rfl T.MOST_PARTS_search.choose_spec ⟨_, rfl⟩) (nomark _)) (pss_cons (ps_fld (pv 0) (pe_tup (pa_cons pe_str pa_nil)) rfl)
          (pss_one ps_retN)) pss_nil)
          (pss_cons (ps_set (i := 1) sc_take.nd rfl (Or.inl rfl) (pe_call G_written_out (hr.mono (by omega)) rfl T.d_written_out.m T.d_written_out.k T.d_written_out.b .nil pass0 (pa_cons (pv 1) (pa_cons (pv 5) pa_nil))))
          (pss_one (ps_if (pt_cmpR op_eq (pe_ix ix_tup (pv 1) pe_int (fun _ _ => rfl)) pe_str (nomark _)) (pss_cons (ps_fld (pv 0) (pe_slice sl_list (pe_fld (pv 0) rfl) po_none (po_some (pv 2))) rfl)
          (pss_one (ps_expr (pe_bm PySem.F.plainAttrs_list PySem.F.slot_list_append PySem.F.type_list_append mt_append (pe_fld (pv 0) rfl) (pa_cons (pe_tup (pa_cons (pv 4) (pa_cons (pv 5) (pa_cons (pe_op op_cat (pv 6) (pe_lst (pa_cons pe_int pa_nil))) pa_nil)))) pa_nil))))) (pss_one (ps_if (pt_cmpR op_eq (pe_ix ix_tup (pv 1) pe_int (fun _ _ => rfl)) pe_str (nomark _)) (pss_one (ps_expr (pe_meth (pv 0) T.cl T.M_take_not G_take_not (hr.mono (by omega)) T.b_take_not .nil pass0 (pa_cons (pv 1) (pa_cons (pe_tup (pa_cons (pv 4) (pa_cons (pv 5) (pa_cons (pe_op op_cat (pv 6) (pe_lst (pa_cons pe_int pa_nil))) pa_nil)))) pa_nil))))) (pss_one (ps_if (pt_cmpR (op_in_seq) (pe_ix ix_tup (pv 1) pe_int (fun _ _ => rfl)) ((pe_glob (v := V.ref T.deeds.choose) rfl T.deeds.choose_spec.1 rfl)) (by rfl)) (pss_one (ps_expr (pe_meth (pv 0) T.cl T.M_take_deed G_take_deed (hr.mono (by omega)) T.b_take_deed .nil pass0 (pa_cons (pv 1) (pa_cons (pe_tup (pa_cons (pv 4) (pa_cons (pv 5) (pa_cons (pe_op op_cat (pv 6) (pe_lst (pa_cons pe_int pa_nil))) pa_nil)))) pa_nil))))) (pss_one (ps_expr (pe_meth (pv 0) T.cl T.M_take_named G_take_named (hr.mono (by omega)) T.b_take_named .nil pass0 (pa_cons (pv 1) (pa_cons (pv 3) pa_nil)))))))))))))))), ?_⟩
    obtain ⟨ar, lg2, d, wv, xs, rfl, b1, b2, b3, b4, b5⟩ := id hrf
    obtain ⟨hOK, gk, hgl, hwl, hht⟩ := hM.top rfl
    simp only at hOK hwl hgl
    rw [List.length_cons] at hgl
    refine ⟨_, rfl, ar, _, rfl, same_sqt hR.sh b1, rfl, _, _, rfl, _, _, rfl, _, _, rfl, rfl, ?_⟩
    refine ⟨_, rfl, c.r, c.C, dx, _, _, rfl, hR.at_, T.cl, T.n_taken, f_taken, _, rfl, c.r, c.C, dx, _, _, rfl, hR.at_, T.cl, T.n_bound, f_bound, rfl, _, rfl, ?_⟩
    have pre : ∃ tk lf, MInv cx c.asked ways tk lf given := ⟨_, _, hM⟩
    have e400 : decide (V.int (taken : Nat) = V.int 400) = decide (taken = 400) := by rw [Bool.eq_iff_iff]; simp; omega
    rw [e400]
    by_cases e4 : taken = 400
    · rw [decide_eq_true e4]
      refine iteT ⟨(by show 1 ≤ sizeLine; decide), fun t ht => ?_⟩
      have s6 := same_new (o := .tup [.str "spent"]) ht
      have hR6 := hR.up s6
      obtain ⟨hR7, sS2⟩ := hR6.grow
      refine ⟨_, rfl, c.r, c.C, dx, _, rfl, hR7.at_, T.cl, T.n_end, (by show 8 < 1000; decide), ?_⟩
      rw [p_end]
      have hR8 := hR7.setEnd (ev2 := .ref t) (e2 := some "spent") ⟨t, rfl, hR6.sT.sqt (SqT.of upd_same)⟩
      exact k _ _ sS2 ⟨_, _, _, some "spent", ⟨_, _, _, _, _, _, _, _, hR8⟩, pre, by omega, hGs, fun e => absurd e (by decide +kernel), fun e => absurd e (by decide +kernel), .inr (.inr (.inl rfl))⟩
    · rw [decide_eq_false e4]
      refine iteF ?_
      refine ⟨_, rfl, c.r, c.C, dx, _, _, rfl, hR.at_, T.cl, T.n_taken, f_taken, _, _, rfl, rfl, _, rfl, c.r, c.C, dx, _, rfl, hR.at_, T.cl, T.n_taken, (by show 8 < 1000; decide), ?_⟩
      have ep : putF "taken" (.int ((taken : Nat) + 1)) (flds lr la 400 (c.most : Nat) lg (taken : Nat) ev ll) = flds lr la 400 (c.most : Nat) lg ((taken + 1 : Nat) : Int) ev ll := p_taken
      have hR1 := hR.setTaken (taken + 1)
      rw [← ep] at hR1
      generalize upd H c.r (.ins c.C dx (putF "taken" (.int ((taken : Nat) + 1)) (flds lr la 400 (c.most : Nat) lg (taken : Nat) ev ll))) = G at *
      have gpt : PT 41 cx.nb (taken + 1) g := gk.pt.mono (by decide) (Nat.le_refl _)
      have hvG := hv.same hR1.sh
      refine ⟨_, rfl, _, rfl, v, d, g, mr.p, taken + 1, cx.nb, 40, rfl, hvG, b4.same hR1.sh, hOK, gpt, by omega, fun H2 kk s2 h1 h2 => ?_⟩
      refine ⟨_, _, rfl, rfl, _, rfl, ?_⟩
      have hR2 := hR1.up s2
      refine ite2 (fun hc => ?_) (fun hc => ?_)
      · refine ⟨(by show 1 ≤ sizeLine; decide), fun t ht => ?_⟩
        have s6 := same_new (o := .tup [.str "big"]) ht
        have hR6 := hR2.up s6
        obtain ⟨hR7, sS2⟩ := hR6.grow
        refine ⟨_, rfl, c.r, c.C, dx, _, rfl, hR7.at_, T.cl, T.n_end, (by show 8 < 1000; decide), ?_⟩
        rw [p_end]
        have hR8 := hR7.setEnd (ev2 := .ref t) (e2 := some "big") ⟨t, rfl, hR6.sT.sqt (SqT.of upd_same)⟩
        exact k _ _ sS2 ⟨_, _, _, some "big", ⟨_, _, _, _, _, _, _, _, hR8⟩, pre, by omega, hGs, fun e => absurd e (by decide +kernel), fun e => absurd e (by decide +kernel), .inr (.inr (.inr rfl))⟩
      · have hk40 : kk ≤ 40 := by
          have := of_decide_eq_false (Bool.eq_false_iff.mpr hc)
          omega
        have hsz : (rd mr.p g).size ≤ 40 := by
          by_cases q : (rd mr.p g).size ≤ 40
          · exact q
          · have := h2 (by omega)
            omega
        refine ⟨_, rfl, _, rfl, v, d, g, mr.p, taken + 1, cx.nb, rfl, hvG.same s2, b4.same (hR1.sh.trans s2), hOK, gpt, hsz, fun H3 v3 s3 hv3 => ?_⟩
        have hR3 := hR2.up s3
        have gapp := gk.sgn_app
        have hrd : rd mr.p g = .app (sgn g) (apL (rdv mr.p) (kidsT g)) := by
          rw [gapp]
          rfl
        have sg' : sgn (rd mr.p g) = sgn g := by rw [hrd]; rfl
        have kd' : (kidsT (rd mr.p g)).length = (kidsT g).length := by rw [hrd]; exact apL_length _ _
        have pg' : PT 41 cx.nb (taken + 1) (rd mr.p g) := ⟨by have := dep_le_size (rd mr.p g); omega, rd_ar hOK gk.pt.ar, rd_names hOK gk.pt.nm⟩
        have hg' : ∀ v, Sol (look mr.p) v → ap v (rd mr.p g) = ap v g := fun v hv => hOK.sol_rd hv g
        have tr3 : Tr K H3 v3 (.app (sgn g) (apL (rdv mr.p) (kidsT g))) := by rw [← hrd]; exact hv3
        obtain ⟨hR4, sS4⟩ := hR3.grow
        have hv4 : Tr K (sub3 H3 c.r lg ll) v3 (rd mr.p g) := hv3.samT hR3.sT
        have fr4 := hrf.same sS4
        have lf := hR.fr.len
        refine t_eqS (x_sgn (ev_var rfl) tr3) ev_str ?_
        by_cases ek : sgn g = "keep"
        · rw [decide_eq_true ek]
          refine iteT ?_
          have hh : ht ≤ fvs.reverse.length := by rw [List.length_reverse, lf]; exact hht
          refine ⟨_, rfl, c.r, c.C, dx, _, _, rfl, hR4.at_, T.cl, T.n_left, f_left, _, rfl, _, rfl, ll, _, rfl, SqL.of hR4.hl, fun l2 hl2 => ?_⟩
          rw [cut_headV hh, take_rev]
          have s5 := same_new (o := .lst (fvs.drop (fvs.length - ht)).reverse) hl2
          have hR5 := hR4.up s5
          have Sl2 : (sub3 H3 c.r lg ll) l2 = none := hR4.sh.free hl2
          have ngl : lg ≠ l2 := fun e => by rw [← e, hR4.hg] at hl2; exact nomatch hl2
          have hR6 := hR5.setLeft (fvs2 := fvs.drop (fvs.length - ht)) (left2 := cutTo (some ht) left) upd_same Sl2 ngl (by
            show F2 _ _ (left.drop (left.length - ht))
            rw [← lf]
            exact F2.drop _ hR4.fr)
          refine ⟨_, rfl, c.r, c.C, dx, _, rfl, hR5.at_, T.cl, T.n_left, (by show 8 < 1000; decide), ?_⟩
          rw [p_left]
          generalize upd (upd H3 l2 (.lst (fvs.drop (fvs.length - ht)).reverse)) c.r (.ins c.C dx (flds lr la 400 (c.most : Nat) lg ((taken + 1 : Nat) : Int) ev l2)) = G6 at *
          refine ⟨_, rfl, c.r, c.C, dx, _, _, rfl, hR6.at_, T.cl, T.n_left, f_left, .inl ⟨rfl, _, SqL.of hR6.hl⟩, ?_⟩
          refine ⟨_, rfl, _, rfl, ?_⟩
          have b5' := hR6.sh _ _ (sS4 _ _ b5)
          refine x_way (w := mr.w) (k := 0) (ev_var rfl) b5' ev_int rfl (by omega) (fun p9 G9 s9 hp9 hp9' => ?_)
          refine ⟨(by show 3 ≤ sizeLine; decide), fun t10 ht10 => ?_⟩
          have s10 := same_new (o := .tup [.ref lg2, .ref d, .ref p9]) ht10
          have hR7 := hR6.up (s9.trans s10)
          obtain ⟨hR8, sS8⟩ := hR7.grow
          have SS := sS4
          have b2' : (sub3 H3 c.r lg ll) lg2 = some (.lst xs) := SS _ _ b2
          have fr : FrameAt K (sub3 (upd G9 t10 (.tup [.ref lg2, .ref d, .ref p9])) c.r lg l2) (.ref t10) ⟨mr.gs, mr.p, mr.w ++ [0]⟩ := by
            refine hR7.frame (SqT.of upd_same) (hR7.sh _ _ b2') (fun e => ?_) (fun e => ?_) (b3.imp fun _ _ z => z.samT (same_t (SS.trans hR7.sh))) (b4.same (SS.trans hR7.sh)) (s10 _ _ hp9') (fun e => ?_) (fun e => ?_)
            · rw [e, hR4.ng] at b2'; exact nomatch b2'
            · rw [e, Sl2] at b2'; exact nomatch b2'
            · rw [e, hR6.hg] at hp9; exact nomatch hp9
            · rw [e, hR6.hl] at hp9; exact nomatch hp9
          have hR9 := hR8.push fr
          have lct := cutTo_len (some ht) left
          refine ⟨l2, _, _, rfl, rfl, hR7.hl, by rw [List.length_reverse, List.length_drop]; omega, ?_⟩
          exact k _ _ (SS.trans sS8) ⟨_, _, _, none, ⟨_, _, _, _, _, _, _, _, hR9⟩, hM.keep ok rfl ek, by omega, by rw [List.length_cons]; omega, hGs, by rw [List.length_cons]; omega⟩
        · rw [decide_eq_false ek]
          refine iteF ?_
          refine t_eqS (x_sgn (ev_var rfl) tr3) ev_str ?_
          -- the frame behind, for not and the deeds
          have b5H := hR3.sh _ _ b5
          by_cases en : sgn g = "not"
          · rw [decide_eq_true en]
            refine iteT ?_
            obtain ⟨kk2, eg, hM2⟩ := hM.no ok rfl en
            refine ⟨_, rfl, c.r, dx, _, rfl, hR3.at_, no_take_not, _, rfl, _, rfl, _, rfl, ?_⟩
            refine x_way (w := mr.w) (k := 0) (ev_var rfl) b5H ev_int rfl (by omega) (fun p9 G9 s9 hp9 hp9' => ?_)
            refine ⟨(by show 3 ≤ sizeLine; decide), fun t10 ht10 => ?_⟩
            have s10 := same_new (o := .tup [.ref lg2, .ref d, .ref p9]) ht10
            have hR7 := hR3.up (s9.trans s10)
            obtain ⟨hR8, sS8⟩ := hR7.grow
            have fr : FrameAt K (sub3 (upd G9 t10 (.tup [.ref lg2, .ref d, .ref p9])) c.r lg ll) (.ref t10) ⟨mr.gs, mr.p, mr.w ++ [0]⟩ := by
              refine hR7.frame (SqT.of upd_same) (hR7.sh _ _ b2) (fun e => ?_) (fun e => ?_) (b3.imp fun _ _ z => z.samT (same_t hR7.sh)) (b4.same hR7.sh) (s10 _ _ hp9') (fun e => ?_) (fun e => ?_)
              · rw [e, hR.ng] at b2; exact nomatch b2
              · rw [e, hR.nl] at b2; exact nomatch b2
              · rw [e, hR3.hg] at hp9; exact nomatch hp9
              · rw [e, hR3.hl] at hp9; exact nomatch hp9
            have egr : rd mr.p g = .app "not" [.app cx.w2 [.app kk2 []]] := by rw [eg]; rfl
            have hv8 : Tr K (sub3 (upd G9 t10 (.tup [.ref lg2, .ref d, .ref p9])) c.r lg ll) v3 (.app "not" [.app cx.w2 [.app kk2 []]]) := by
              rw [← egr]
              exact (hv3.same (s9.trans s10)).samT hR7.sT
            refine ⟨B, _, dx, lr, la, lg, ll, ev, gvs, fvs, left, given, taken + 1, v3, .ref t10, "not", .app cx.w2 [.app kk2 []], ⟨mr.gs, mr.p, mr.w ++ [0]⟩, rfl, hR8, hv8, rfl, by simp [Tm.size, Tm.sizeL], fr, by omega, fun S9 H9 sS9 hR9 => ?_⟩
            refine k _ _ (sS8.trans sS9) ⟨_, _, _, none, hR9, hM2, by omega, by rw [List.length_cons, List.length_cons]; omega, hGs, by rw [List.length_cons, List.length_cons]; omega⟩
          · rw [decide_eq_false en]
            refine iteF ?_
            refine x_sgn (ev_var rfl) tr3 _ ⟨T.deeds.choose, _, rfl, .inr (T.deeds.choose_spec.2 H3), rfl, rfl, _, rfl, ?_⟩
            have eIn : inV (V.str (sgn g)) [.str "=", .str ":=", .str "<", .str "<="] = decide (sgn g ∈ ([("=" : Str), (":=" : Str), ("<" : Str), ("<=" : Str)])) := inV_str (sgn g) ["=", ":=", "<", "<="]
            simp only [Bool.false_eq_true, if_false]
            rw [eIn]
            by_cases eq : sgn g = "="
            · rw [decide_eq_true (by rw [eq]; exact List.mem_cons_self)]
              refine iteT ?_
              have geq : ∃ a b, g = .app "=" [a, b] ∧ PT 2 cx.nb (taken + 1) a ∧ PT 2 cx.nb (taken + 1) b := by
                cases gk with
                | keep => exact absurd eq s_ek.symm
                | no => exact absurd eq s_ne
                | named a _ _ => exact absurd eq (ok.word _ a).2.1
                | eq ha hb => exact ⟨_, _, rfl, ha, hb⟩
              obtain ⟨a, b, eg, pa, pb⟩ := geq
              refine ⟨_, rfl, c.r, dx, _, rfl, hR3.at_, no_take_deed, _, rfl, _, rfl, _, rfl, ?_⟩
              refine x_way (w := mr.w) (k := 0) (ev_var rfl) b5H ev_int rfl (by omega) (fun p9 G9 s9 hp9 hp9' => ?_)
              refine ⟨(by show 3 ≤ sizeLine; decide), fun t10 ht10 => ?_⟩
              have s10 := same_new (o := .tup [.ref lg2, .ref d, .ref p9]) ht10
              have hR7 := hR3.up (s9.trans s10)
              obtain ⟨hR8, sS8⟩ := hR7.grow
              have fr : FrameAt K (sub3 (upd G9 t10 (.tup [.ref lg2, .ref d, .ref p9])) c.r lg ll) (.ref t10) ⟨mr.gs, mr.p, mr.w ++ [0]⟩ := by
                refine hR7.frame (SqT.of upd_same) (hR7.sh _ _ b2) (fun e => ?_) (fun e => ?_) (b3.imp fun _ _ z => z.samT (same_t hR7.sh)) (b4.same hR7.sh) (s10 _ _ hp9') (fun e => ?_) (fun e => ?_)
                · rw [e, hR.ng] at b2; exact nomatch b2
                · rw [e, hR.nl] at b2; exact nomatch b2
                · rw [e, hR3.hg] at hp9; exact nomatch hp9
                · rw [e, hR3.hl] at hp9; exact nomatch hp9
              have egr : rd mr.p g = .app "=" [rd mr.p a, rd mr.p b] := by rw [eg]; rfl
              have hv8 : Tr K (sub3 (upd G9 t10 (.tup [.ref lg2, .ref d, .ref p9])) c.r lg ll) v3 (.app "=" [rd mr.p a, rd mr.p b]) := by
                rw [← egr]
                exact (hv3.same (s9.trans s10)).samT hR7.sT
              rw [egr] at pg'
              have pA := PT.kids _ _ pg' (rd mr.p a) List.mem_cons_self
              have pB := PT.kids _ _ pg' (rd mr.p b) (List.mem_cons_of_mem _ List.mem_cons_self)
              have nb3 := ok.three
              have hU : cx.nb.length * (taken + 1 + 1) ≤ 2000 := Nat.le_trans (Nat.mul_le_mul nb3 (show taken + 1 + 1 ≤ 402 by omega)) (by decide)
              subst eg
              refine ⟨B, _, dx, lr, la, lg, ll, ev, gvs, fvs, left, given, taken + 1, v3, .ref t10, rd mr.p a, rd mr.p b, ⟨mr.gs, mr.p, mr.w ++ [0]⟩, taken + 1, cx.nb, rfl, hR8, hv8, fr, by omega, hOK, pA, pB, hU, fun S9 H9 o sS9 hm hR9 => ?_⟩
              have hM2 := hM.eq ok rfl (fun v hv => hOK.sol_rd hv a) (fun v hv => hOK.sol_rd hv b) hm
              cases o with
              | none => exact k _ _ (sS8.trans sS9) ⟨_, _, _, none, hR9, hM2, by omega, by show left.length ≤ _; omega, hGs, by show _ + left.length < _; omega⟩
              | some q => exact k _ _ (sS8.trans sS9) ⟨_, _, _, none, hR9, hM2, by omega, by show left.length + 1 ≤ _; omega, hGs, by show _ + (left.length + 1) < _; omega⟩
            · have nm : sgn g ∈ cx.ws := by
                cases gk with
                | keep => exact absurd rfl ek
                | no => exact absurd rfl en
                | eq _ _ => exact absurd rfl eq
                | named a _ _ => exact a
              have wd := ok.word _ nm
              rw [decide_eq_false (by
                intro z
                simp only [List.mem_cons, List.not_mem_nil, or_false] at z
                rcases z with z | z | z | z
                · exact wd.2.1 z
                · exact wd.2.2.2.1 z
                · exact wd.2.2.2.2.1 z
                · exact wd.2.2.2.2.2 z)]
              refine iteF ?_
              refine ⟨_, rfl, c.r, dx, _, rfl, hR4.at_, no_take_named, _, rfl, _, rfl, ?_⟩
              have isA : isApp (rd mr.p g) = true := by rw [hrd]; rfl
              refine ⟨B, _, dx, lr, la, lg, ll, ev, gvs, fvs, left, given, taken + 1, v3, .ref ar, rd mr.p g, mr, rfl, hR4, hv4, isA, fr4, by omega, hOK.mono fun t q => q.mono (Nat.le_refl _) (Nat.le_succ _), pg'.mono (Nat.le_refl _) (Nat.le_succ _), by omega, by omega, by omega, eR, fun S9 H9 l sS9 hm hR9 => ?_⟩
              have hM2 := hM.named ok ha rfl nm hg' sg' kd' hm
              have lfew := hm.few
              have r6 := ok.few
              rw [List.length_zipIdx] at lfew
              exact k _ _ (sS4.trans sS9) ⟨_, _, _, none, hR9, hM2, by omega, by rw [List.length_append]; omega, hGs, by rw [List.length_append]; omega⟩
end
end Gt
set_option Elab.async false
set_option linter.all false
set_option maxRecDepth 100000
set_option maxHeartbeats 4000000
/-! step. -/
namespace Gt
open PySem L2 RZ
def spStep (K : PySem.W.Frag) (c : RC) (cx : Cx) (ways : Fnd) : Sp := fun vs H Q _ => ∃ B S left given taken, vs = [.ref c.r] ∧ RunSt K c B S H left given taken none ∧ MInv cx c.asked ways taken left given ∧ taken ≤ 400 ∧ left.length ≤ 1 + 6 * taken ∧ Gs given ∧
  ∀ S' H', Same S S' → Done K c cx ways ((401 - taken) * 7 + left.length) B S' H' → Q .non H'
section
variable {P : Program} {w : World} {K : PySem.W.Frag} {mg : Str → Option Value} {base : Heap} {CX : CXT}
theorem ok_step {c : RC} (T : TxtR K mg c.C) {cx : Cx} (ok : CxOk cx) (hlen : ∀ x ∈ cx.nb, x.length ≤ 1000) (eR : c.R = cx.R) (ha : ∀ x ∈ c.asked, x ∈ cx.nb) (hal : c.asked.length ≤ 100) (ways : Fnd) (hways : ways.length ≤ 10077696) :
    FnOk P w K mg base CX0 104 T.f_step T.fd_step ["self"] (spStep K c cx ways) := by
  have G_tell : FnOk P w K mg base CX0 100 T.f_tell T.fd_tell ["self", "puts", "way"] (spTell K c) := ok_tell T
  have G_take : FnOk P w K mg base CX0 102 T.f_take T.fd_take ["self", "goal", "height", "rest"] (spTake K c cx ways) := ok_take T ok hlen eR ha ways
  refine T.F_step.ok (k := 103) sc_step (fun vs H Q E h => ?_) (fun cdv A outer s H vs Q E hr h => ?_)
  · obtain ⟨B, S, left, given, taken, rfl, _⟩ := h
    rfl
  · obtain ⟨B, S, left, given, taken, rfl, ⟨dx, lr, la, lg, ll, ev, gvs, fvs, hR⟩, hM, htk, hlf, hGs, k⟩ := h
    have big : (1000100 : Nat) < sizeLine := by decide
    refine ⟨_, (pss_cons (ps_if (pt_cmpR (op_eqNil hr.units) (pe_fld (pv 0) rfl) (pe_lst pa_nil) (nomark _)) (pss_cons (ps_fld (pv 0) (pe_tup (pa_cons pe_str pa_nil)) rfl)
          (pss_one ps_retN)) pss_nil)
          (pss_cons (ps_asg (pe_bm0 PySem.F.plainAttrs_list PySem.F.slot_list_pop PySem.F.type_list_pop mt_pop (pe_fld (pv 0) rfl)) (pg_tup (by rfl) (pgs_cons (pg_name (i := 1) sc_step.nd rfl (Or.inl rfl)) (pgs_cons (pg_name (i := 2) sc_step.nd rfl (Or.inl rfl)) (pgs_cons (pg_name (i := 3) sc_step.nd rfl (Or.inl rfl)) pgs_nil)))))
          (pss_one (ps_if (pt_cmpR (op_eqNil hr.units) (pv 1) (pe_lst pa_nil) (nomark _)) (pss_one (ps_expr (pe_meth (pv 0) T.cl T.M_tell G_tell (hr.mono (by omega)) T.b_tell .nil pass0 (pa_cons (pv 2) (pa_cons (pv 3) pa_nil))))) (pss_one (ps_if (pt_cmp (pc_isN (pe_ix ix_tup (pe_ix ix_list (pv 1) pe_int (fun _ _ => rfl)) pe_int (fun _ _ => rfl)))) (pss_one (ps_fld (pv 0) (pe_slice sl_list (pe_fld (pv 0) rfl) po_none (po_some (pe_ix ix_tup (pe_ix ix_list (pv 1) pe_int (fun _ _ => rfl)) pe_int (fun _ _ => rfl)))) rfl)) (pss_one (ps_expr (pe_meth (pv 0) T.cl T.M_take G_take (hr.mono (by omega)) T.b_take .nil pass0 (pa_cons (pe_ix ix_tup (pe_ix ix_list (pv 1) pe_int (fun _ _ => rfl)) pe_int (fun _ _ => rfl)) (pa_cons (pe_ix ix_tup (pe_ix ix_list (pv 1) pe_int (fun _ _ => rfl)) pe_int (fun _ _ => rfl)) (pa_cons (pe_tup (pa_cons (pe_slice sl_list (pv 1) (po_some pe_int) po_none) (pa_cons (pv 2) (pa_cons (pv 3) pa_nil)))) pa_nil)))))))))))), ?_⟩
    obtain ⟨epre, hpre⟩ := hM.pre
    refine ⟨_, rfl, c.r, c.C, dx, _, _, rfl, hR.at_, T.cl, T.n_left, f_left, Nat.zero_le _, fun e0 he0 => ?_⟩
    have s0 := same_new (o := .lst []) he0
    have hR0 := hR.up s0
    refine ⟨ll, e0, _, rfl, rfl, SqL.of hR0.hl, SqL.of upd_same, _, rfl, ?_⟩
    cases left with
    | nil =>
      cases fvs with
      | cons _ _ => exact hR.fr.elim
      | nil =>
        refine iteT ⟨(by show 1 ≤ sizeLine; decide), fun t ht => ?_⟩
        have s6 := same_new (o := .tup [.str "all"]) ht
        have hR6 := hR0.up s6
        obtain ⟨hR7, sS2⟩ := hR6.grow
        refine ⟨_, rfl, c.r, c.C, dx, _, rfl, hR7.at_, T.cl, T.n_end, (by show 8 < 1000; decide), ?_⟩
        rw [p_end]
        have hR8 := hR7.setEnd (ev2 := .ref t) (e2 := some "all") ⟨t, rfl, hR6.sT.sqt (SqT.of upd_same)⟩
        exact k _ _ sS2 ⟨_, _, _, some "all", ⟨_, _, _, _, _, _, _, _, hR8⟩, ⟨_, _, hM⟩, by omega, hGs, fun _ => hM.all, fun e => absurd e (by decide +kernel), .inl rfl⟩
    | cons m left =>
      cases fvs with
      | nil => exact hR.fr.elim
      | cons v fvs =>
        have hne : (v :: fvs).reverse.isEmpty = false := by simp
        rw [hne]
        refine iteF ?_
        obtain ⟨a, lg2, d, wv, xs, rfl, b1, b2, b3, b4, b5⟩ := id hR.fr.1
        refine ⟨_, rfl, c.r, c.C, dx, _, _, rfl, hR0.at_, T.cl, T.n_left, f_left, .inl ⟨rfl, _, SqL.of hR0.hl⟩, ll, _, _, rfl, rfl, hR0.hl, rev_cons_last _ fvs, ?_⟩
        rw [rev_cons_drop]
        have hR1 := hR0.pop
        generalize upd (upd H e0 (.lst [])) ll (.lst fvs.reverse) = G at *
        have hOK := hM.ok
        have lf := hR1.fr.len
        rw [List.length_cons] at hlf
        refine ⟨a, _, rfl, same_sqt hR1.sh b1, rfl, _, _, rfl, _, _, rfl, _, _, rfl, rfl, ?_⟩
        refine ⟨_, rfl, Nat.zero_le _, fun e1 he1 => ?_⟩
        have s1 := same_new (o := .lst []) he1
        have hR2 := hR1.up s1
        have b2G := hR2.sh _ _ b2
        refine ⟨lg2, e1, xs, rfl, rfl, SqL.of b2G, SqL.of upd_same, _, rfl, ?_⟩
        have b3G := b3.imp fun _ _ z => z.samT (same_t hR2.sh)
        generalize upd G e1 (.lst []) = G2 at *
        have egs : ∃ gs, gs = m.gs := ⟨_, rfl⟩
        obtain ⟨gs, egs⟩ := egs
        rw [← egs] at b3G b3
        cases gs with
        | nil =>
          cases xs with
          | cons _ _ => exact b3.elim
          | nil =>
          refine iteT ?_
          refine ⟨_, rfl, c.r, dx, _, rfl, hR2.at_, no_tell, _, rfl, _, rfl, ?_⟩
          refine ⟨B, S, dx, lr, la, lg, ll, ev, gvs, fvs, left, given, taken, d, wv, m.p, m.w, taken + 1, cx.nb, rfl, hR2, b4, b5, hOK.1, fun x hx => ⟨by simp [Tm.dep], trivial, fun y hy => by
            simp only [Tm.vars, List.mem_singleton] at hy
            rw [hy]
            exact Un_mem.mpr (.inl (ha x hx))⟩, hal, by omega, fun S' H' given' e' sS hR3 ht => ?_⟩
          have hM2 := hM.tell egs.symm
          refine k S' H' sS ?_
          rcases ht with ⟨rfl, rfl⟩ | ⟨rfl, hz, ht⟩
          · exact ⟨_, _, _, some "big", hR3, ⟨_, _, hM⟩, by omega, hGs, fun e => absurd e (by decide +kernel), fun e => absurd e (by decide +kernel), .inr (.inr (.inr rfl))⟩
          · have hGs2 : Gs (given ++ [(toldL ((asT c.asked).map (rd m.p)), m.w)]) := fun x hx => by
              rcases List.mem_append.mp hx with hx | hx
              · exact hGs x hx
              · rw [List.mem_singleton.mp hx]
                simp only
                rw [told_size]
                exact hz
            rcases ht with ⟨rfl, hn⟩ | ⟨rfl, hn⟩
            · exact ⟨_, _, _, none, hR3, hM2, htk, by omega, hGs2, by rw [List.length_cons]; omega⟩
            · exact ⟨_, _, _, some "enough", hR3, ⟨_, _, hM2⟩, by omega, hGs2, fun e => absurd e (by decide +kernel), fun _ => hn, .inr (.inl rfl)⟩
        | cons g0 gs =>
          cases xs with
          | nil => exact b3.elim
          | cons x0 xs =>
          obtain ⟨⟨q0, y0, rfl, c1, c2⟩, b3t⟩ := b3G
          obtain ⟨o0, h0⟩ := g0
          refine iteF ?_
          refine ⟨_, rfl, lg2, _, 0, _, rfl, rfl, SqL.of b2G, atI_nat (j := 0) (show (V.ref q0 :: xs)[0]? = some (V.ref q0) from rfl), q0, _, 0, y0, rfl, rfl, c1, rfl, _, rfl, ?_⟩
          cases o0 with
          | none =>
            have ey : y0 = .non := c2
            subst ey
            rw [v_non_non]
            refine iteT ?_
            obtain ⟨hM2, hh⟩ := hM.mark egs.symm
            have hh' : h0 ≤ fvs.reverse.length := by rw [List.length_reverse, lf]; exact hh
            refine ⟨_, rfl, c.r, c.C, dx, _, _, rfl, hR2.at_, T.cl, T.n_left, f_left, _, rfl, lg2, _, 0, _, rfl, rfl, SqL.of b2G, atI_nat (j := 0) (show (V.ref q0 :: xs)[0]? = some (V.ref q0) from rfl), q0, _, 1, .int (h0 : Nat), rfl, rfl, c1, rfl, _, rfl, ll, _, rfl, SqL.of hR2.hl, fun l2 hl2 => ?_⟩
            rw [cut_headV hh', take_rev]
            have s5 := same_new (o := .lst (fvs.drop (fvs.length - h0)).reverse) hl2
            have hR5 := hR2.up s5
            have Sl2 : S l2 = none := hR2.sh.free hl2
            have ngl : lg ≠ l2 := fun e => by rw [← e, hR2.hg] at hl2; exact nomatch hl2
            have hR6 := hR5.setLeft (fvs2 := fvs.drop (fvs.length - h0)) (left2 := cutTo (some h0) left) upd_same Sl2 ngl (by
              show F2 _ _ (left.drop (left.length - h0))
              rw [← lf]
              exact F2.drop _ hR2.fr)
            refine ⟨_, rfl, c.r, c.C, dx, _, rfl, hR5.at_, T.cl, T.n_left, (by show 8 < 1000; decide), ?_⟩
            rw [p_left]
            have lct := cutTo_len (some h0) left
            exact k _ _ (Same.refl _) ⟨_, _, _, none, ⟨_, _, _, _, _, _, _, _, hR6⟩, hM2, htk, by omega, hGs, by rw [List.length_cons]; omega⟩
          | some g =>
            have ty : Tr K G2 y0 g := c2
            have ny : decide (y0 = V.non) = false := by
              refine decide_eq_false fun e => ?_
              rw [e] at ty
              cases g with
              | num _ => obtain ⟨p, e, _⟩ := ty; cases e
              | any _ => obtain ⟨p, e, _⟩ := ty; cases e
              | app _ _ => obtain ⟨p, q, vs, e, _⟩ := ty; cases e
            rw [ny]
            refine iteF ?_
            refine ⟨_, rfl, c.r, dx, _, rfl, hR2.at_, no_take, ?_⟩
            refine ⟨_, rfl, lg2, _, 0, _, rfl, rfl, SqL.of b2G, atI_nat (j := 0) (show (V.ref q0 :: xs)[0]? = some (V.ref q0) from rfl), q0, _, 0, y0, rfl, rfl, c1, rfl, ?_⟩
            refine ⟨_, rfl, lg2, _, 0, _, rfl, rfl, SqL.of b2G, atI_nat (j := 0) (show (V.ref q0 :: xs)[0]? = some (V.ref q0) from rfl), q0, _, 1, .int (h0 : Nat), rfl, rfl, c1, rfl, ?_⟩
            refine ⟨_, rfl, 1, rfl, lg2, _, rfl, SqL.of b2G, fun l2 hl2 => ?_⟩
            rw [cut_tail]
            have s5 := same_new (o := .lst xs) hl2
            refine ⟨_, rfl, _, rfl, (by show 3 ≤ sizeLine; decide), fun t10 ht10 => ?_⟩
            have s10 := same_new (o := .tup [.ref l2, .ref d, .ref wv]) ht10
            have hR7 := hR2.up (s5.trans s10)
            obtain ⟨hR8, sS8⟩ := hR7.grow
            have fr : FrameAt K (sub3 (upd (upd G2 l2 (.lst xs)) t10 (.tup [.ref l2, .ref d, .ref wv])) c.r lg ll) (.ref t10) ⟨gs, m.p, m.w⟩ := by
              refine hR7.frame (SqT.of upd_same) (s10 _ _ upd_same) (fun e => ?_) (fun e => ?_) (b3t.imp fun _ _ z => z.samT (same_t (s5.trans s10))) (b4.same hR7.sh) (hR7.sh _ _ b5) (fun e => ?_) (fun e => ?_)
              · rw [e, hR2.hg] at hl2; exact nomatch hl2
              · rw [e, hR2.hl] at hl2; exact nomatch hl2
              · rw [e, hR.ng] at b5; exact nomatch b5
              · rw [e, hR.nl] at b5; exact nomatch b5
            have em : m = ⟨(some g, h0) :: gs, m.p, m.w⟩ := by
              obtain ⟨mgs, mp, mw⟩ := m
              simp only at egs
              rw [egs]
            have hM' : MInv cx c.asked ways taken (⟨(some g, h0) :: gs, m.p, m.w⟩ :: left) given := by rw [← em]; exact hM
            refine ⟨B, _, dx, lr, la, lg, ll, ev, gvs, fvs, left, given, taken, y0, .ref t10, g, ⟨gs, m.p, m.w⟩, h0, rfl, hR8, (ty.same (s5.trans s10)).samT hR7.sT, fr, hM', htk, by omega, hGs, fun S9 H9 sS9 hD => ?_⟩
            refine k _ _ (sS8.trans sS9) ?_
            rw [List.length_cons]
            exact hD
end
end Gt
set_option Elab.async false
set_option linter.all false
set_option maxRecDepth 100000
set_option maxHeartbeats 4000000
/-! A run made; the search. -/
namespace Gt
open PySem L2 RZ
def spInit (K : PySem.W.Frag) (C : Addr) (most : Nat) : Sp := fun vs H Q _ => ∃ Bh r dx lr lgs gvs goals R, vs = [.ref r, .ref lr, .ref lgs, .int 400, .int (most : Nat)] ∧ H r = some (.ins C dx []) ∧ Same Bh H ∧ Bh r = none ∧ RulesAt K Bh lr R ∧ SqL K Bh lgs gvs ∧ Trs K Bh gvs goals ∧ Tm.sizeL goals ≤ 1000 ∧
  ∀ S' H', Same Bh S' → RunSt K ⟨C, r, namesOf goals, R, most⟩ Bh S' H' [⟨goals.map fun g => (some g, 0), [], []⟩] [] 0 none → Q .non H'
section
variable {P : Program} {w : World} {K : PySem.W.Frag} {mg : Str → Option Value} {base : Heap} {CX : CXT}
theorem put_step {fs : List (Str × V)} {n : Nat} (h : fs.length ≤ n) (f : Str) (v : V) : ∃ gs, gs = putF f v fs ∧ gs.length ≤ n + 1 := by
  refine ⟨_, rfl, ?_⟩
  have : (putF f v fs).length ≤ fs.length + 1 := by
    clear h
    induction fs with
    | nil => simp [putF]
    | cons x l ih =>
      obtain ⟨g, y⟩ := x
      rw [putF]
      split
      · simp
      · rw [List.length_cons, List.length_cons]
        omega
  omega
theorem ok_init {C : Addr} (T : TxtR K mg C) (most : Nat) : FnOk P w K mg base CX0 2 T.f_init__ T.fd_init__ ["self", "rules", "goals", "bound", "most"] (spInit K C most) := by
  have G_unknowns_of : FnOk P w K mg base CX0 1 T.d_unknowns_of.f T.d_unknowns_of.fd ["terms"] (spUnknowns K) := ok_unknowns_of T.toTxt
  refine T.F_init__.ok (k := 1) sc_init__ (fun vs H Q E h => ?_) (fun cdv A outer s H vs Q E hr h => ?_)
  · obtain ⟨Bh, r, dx, lr, lgs, gvs, goals, R, rfl, _⟩ := h
    rfl
  · obtain ⟨Bh, r, dx, lr, lgs, gvs, goals, R, rfl, hat, hB, hBr, hrs, hgl, hgs, hz, k⟩ := h
    have big : (2000 : Nat) < sizeLine := by decide
    refine ⟨_, (pss_cons (ps_fld (pv 0) (pv 1) rfl)
          (pss_cons (ps_fld (pv 0) (pe_call G_unknowns_of (hr.mono (by omega)) rfl T.d_unknowns_of.m T.d_unknowns_of.k T.d_unknowns_of.b .nil pass0 (pa_cons (pv 2) pa_nil)) rfl)
          (pss_cons (ps_fld (pv 0) (pv 3) rfl)
          (pss_cons (ps_fld (pv 0) (pv 4) rfl)
          (pss_cons (ps_fld (pv 0) (pe_lst pa_nil) rfl)
          (pss_cons (ps_fld (pv 0) pe_int rfl)
          (pss_cons (ps_fld (pv 0) pe_non rfl)
          (pss_one (ps_fld (pv 0) (pe_lst (pa_cons (pe_tup (pa_cons (pe_lc (own := [("goal", 5)]) (g := gName 5) rfl sc_init__.nd (pi_list (pv 2)) (blkOk_by (own := [("goal", 5)]) (N := ["self", "rules", "goals", "bound", "most", "goal"]) (sc := defScope s_init__) (by decide +kernel)) (fun _ _ _ _ _ => (pg_name (i := 5) sc_init__.nd rfl (Or.inl rfl))) (fun _ _ _ _ _ => pts_nil) (fun _ _ _ _ _ => (pe_tup (pa_cons (pv 5) (pa_cons pe_int pa_nil))))) (pa_cons pe_dnewK (pa_cons (pe_lst pa_nil) pa_nil)))) pa_nil)) rfl))))))))), ?_⟩
    obtain ⟨fs1, e1, l1⟩ := put_step (fs := []) (n := 0) (Nat.le_refl _) "rules" (.ref lr)
    refine ⟨_, rfl, _, rfl, r, C, dx, _, rfl, hat, T.cl, T.n_rules, (by show 0 < 1000; decide), ?_⟩
    rw [← e1]
    have B1 := same_upd (o := .ins C dx fs1) hB hBr
    have A1 : upd H r (.ins C dx fs1) r = some (.ins C dx fs1) := upd_same
    generalize upd H r (.ins C dx fs1) = G1 at *
    refine ⟨_, rfl, lgs, gvs, goals, rfl, B1.seq hgl, Trs.same B1 hgs, hz, fun H2 la s2 hla hla' => ?_⟩
    have nla : la ≠ r := fun e => by rw [e, A1] at hla; exact nomatch hla
    have B2 := B1.trans s2
    have laB : Bh la = none := B1.free hla
    obtain ⟨fs2, e2, l2⟩ := put_step l1 "asked" (.ref la)
    refine ⟨_, rfl, r, C, dx, _, rfl, s2 _ _ A1, T.cl, T.n_asked, by omega, ?_⟩
    rw [← e2]
    have B3 := same_upd (o := .ins C dx fs2) B2 hBr
    have A3 : upd H2 r (.ins C dx fs2) r = some (.ins C dx fs2) := upd_same
    have L3 := upd_at (o := .ins C dx fs2) hla' nla
    generalize upd H2 r (.ins C dx fs2) = G3 at *
    obtain ⟨fs3, e3, l3⟩ := put_step l2 "bound" (.int 400)
    refine ⟨_, rfl, _, rfl, r, C, dx, _, rfl, A3, T.cl, T.n_bound, by omega, ?_⟩
    rw [← e3]
    have B4 := same_upd (o := .ins C dx fs3) B3 hBr
    have A4 : upd G3 r (.ins C dx fs3) r = some (.ins C dx fs3) := upd_same
    have L4 := upd_at (o := .ins C dx fs3) L3 nla
    generalize upd G3 r (.ins C dx fs3) = G4 at *
    obtain ⟨fs4, e4, l4⟩ := put_step l3 "most" (.int (most : Nat))
    refine ⟨_, rfl, _, rfl, r, C, dx, _, rfl, A4, T.cl, T.n_most, by omega, ?_⟩
    rw [← e4]
    have B5 := same_upd (o := .ins C dx fs4) B4 hBr
    have A5 : upd G4 r (.ins C dx fs4) r = some (.ins C dx fs4) := upd_same
    have L5 := upd_at (o := .ins C dx fs4) L4 nla
    generalize upd G4 r (.ins C dx fs4) = G5 at *
    refine ⟨Nat.zero_le _, fun lg hlg => ?_⟩
    have ngr : lg ≠ r := fun e => by rw [e, A5] at hlg; exact nomatch hlg
    have s6 := same_new (o := .lst []) hlg
    have lgB : Bh lg = none := B5.free hlg
    have nlaG : la ≠ lg := fun e => by rw [← e, L5] at hlg; exact nomatch hlg
    obtain ⟨fs5, e5, l5⟩ := put_step l4 "given" (.ref lg)
    refine ⟨_, rfl, r, C, dx, _, rfl, s6 _ _ A5, T.cl, T.n_given, by omega, ?_⟩
    rw [← e5]
    have B6 := same_upd (o := .ins C dx fs5) (B5.trans s6) hBr
    have A6 : upd (upd G5 lg (.lst [])) r (.ins C dx fs5) r = some (.ins C dx fs5) := upd_same
    have L6 := upd_at (o := .ins C dx fs5) (s6 _ _ L5) nla
    have M6 : upd (upd G5 lg (.lst [])) r (.ins C dx fs5) lg = some (.lst []) := upd_at upd_same ngr
    generalize upd (upd G5 lg (.lst [])) r (.ins C dx fs5) = G6 at *
    obtain ⟨fs6, e6, l6⟩ := put_step l5 "taken" (.int 0)
    refine ⟨_, rfl, r, C, dx, _, rfl, A6, T.cl, T.n_taken, by omega, ?_⟩
    rw [← e6]
    have B7 := same_upd (o := .ins C dx fs6) B6 hBr
    have A7 : upd G6 r (.ins C dx fs6) r = some (.ins C dx fs6) := upd_same
    have L7 := upd_at (o := .ins C dx fs6) L6 nla
    have M7 := upd_at (o := .ins C dx fs6) M6 ngr
    generalize upd G6 r (.ins C dx fs6) = G7 at *
    obtain ⟨fs7, e7, l7⟩ := put_step l6 "end" .non
    refine ⟨_, rfl, r, C, dx, _, rfl, A7, T.cl, T.n_end, by omega, ?_⟩
    rw [← e7]
    have B8 := same_upd (o := .ins C dx fs7) B7 hBr
    have A8 : upd G7 r (.ins C dx fs7) r = some (.ins C dx fs7) := upd_same
    have L8 := upd_at (o := .ins C dx fs7) L7 nla
    have M8 := upd_at (o := .ins C dx fs7) M7 ngr
    generalize upd G7 r (.ins C dx fs7) = G8 at *
    have lz := sizeL_len goals
    refine ⟨_, rfl, lgs, rfl, ⟨_, B8.seq hgl⟩, fun D hD => ?_⟩
    refine lc_mapL (as := goals) (In := Tr K) (Out := GoalAt K) (φ := fun g => (some g, 0)) hD (B8.seq hgl) (Trs.same B8 hgs) (by omega) (fun s h => h.same s) (fun o h => h.samT o.t) (fun v x H1 R hx s1 hin kk => ?_) (fun H9 ws s9 hD9 hws => ?_)
    · refine ⟨_, rfl, (by show 2 ≤ sizeLine; decide), fun t ht => ?_⟩
      have s2 := same_new (o := .tup [v, .int 0]) ht
      exact kk _ _ s2 ⟨t, v, rfl, SqT.of upd_same, hin.same s2⟩
    · intro d hd
      have z1 := same_new (o := .dK []) hd
      refine ⟨Nat.zero_le _, fun wv hwv => ?_⟩
      have z2 := same_new (o := .lst []) hwv
      refine ⟨(by show 3 ≤ sizeLine; decide), fun a ha => ?_⟩
      have z3 := same_new (o := .tup [.ref D, .ref d, .ref wv]) ha
      refine ⟨(by show 1 ≤ sizeLine; decide), fun ll hll => ?_⟩
      have z4 := same_new (o := .lst [.ref a]) hll
      have s10 := s9.trans (z1.trans (z2.trans (z3.trans z4)))
      have B11 := B8.trans s10
      have A11 := s10 _ _ A8
      have M11 := s10 _ _ M8
      have L11 := s10 _ _ L8
      have nlr : ll ≠ r := (ne_of_none ((s9.trans (z1.trans (z2.trans z3))) _ _ A8) hll).symm
      have nlg : lg ≠ ll := ne_of_none ((s9.trans (z1.trans (z2.trans z3))) _ _ M8) hll
      have llB : Bh ll = none := (B8.trans (s9.trans (z1.trans (z2.trans z3)))).free hll
      have D11 := (z1.trans (z2.trans (z3.trans z4))) _ _ hD9
      have d11 := (z2.trans (z3.trans z4)) _ _ (upd_same (H := H9) (a := d) (o := .dK []))
      have w11 := (z3.trans z4) _ _ (upd_same (H := upd H9 d (.dK [])) (a := wv) (o := .lst []))
      have a11 := z4 _ _ (upd_same (H := upd (upd H9 d (.dK [])) wv (.lst [])) (a := a) (o := .tup [.ref D, .ref d, .ref wv]))
      have ll11 : upd (upd (upd (upd H9 d (.dK [])) wv (.lst [])) a (.tup [.ref D, .ref d, .ref wv])) ll (.lst [.ref a]) ll = some (.lst [.ref a]) := upd_same
      have nD1 : D ≠ lg := fun e => by rw [e, M8] at hD; exact nomatch hD
      have nD2 : D ≠ ll := ne_of_none ((z1.trans (z2.trans z3)) _ _ hD9) hll
      have nw1 : wv ≠ lg := (ne_of_none ((s9.trans z1) _ _ M8) hwv).symm
      have nw2 : wv ≠ ll := ne_of_none (z3 _ _ (upd_same (H := upd H9 d (.dK [])) (a := wv) (o := .lst []))) hll
      have nla2 : la ≠ ll := ne_of_none ((s9.trans (z1.trans (z2.trans z3))) _ _ L8) hll
      have gv11 : F2 (GoalAt K (upd (upd (upd (upd H9 d (.dK [])) wv (.lst [])) a (.tup [.ref D, .ref d, .ref wv])) ll (.lst [.ref a]))) ws (goals.map fun g => (some g, 0)) := hws.imp fun _ _ q => q.samT (same_t (z1.trans (z2.trans (z3.trans z4))))
      generalize upd (upd (upd (upd H9 d (.dK [])) wv (.lst [])) a (.tup [.ref D, .ref d, .ref wv])) ll (.lst [.ref a]) = G11 at *
      obtain ⟨fs8, e8, l8⟩ := put_step l7 "left" (.ref ll)
      refine ⟨_, rfl, r, C, dx, _, rfl, A11, T.cl, T.n_left, by omega, ?_⟩
      rw [← e8]
      have ef : fs8 = flds lr la 400 (most : Nat) lg ((0 : Nat) : Int) .non ll := by
        rw [e8, e7, e6, e5, e4, e3, e2, e1]
        exact flds_init
      have B12 := same_upd (o := .ins C dx fs8) B11 hBr
      have A12 : upd G11 r (.ins C dx fs8) r = some (.ins C dx fs8) := upd_same
      have sub : Same Bh (sub3 (upd G11 r (.ins C dx fs8)) r lg ll) := same_sub3 B12 hBr lgB llB
      have M12 := upd_at (o := .ins C dx fs8) M11 ngr
      have l12 := upd_at (o := .ins C dx fs8) ll11 nlr
      have sT : SameT G11 (sub3 (upd G11 r (.ins C dx fs8)) r lg ll) := by
        have t1 : SameT G11 (upd G11 r (.ins C dx fs8)) := fun p xs h => by
          have np : p ≠ r := fun e => by
            subst e
            rcases h with h | ⟨_, h⟩ <;> (rw [A11] at h; cases h)
          rcases h with h | ⟨o, h⟩
          · exact .inl (upd_at h np)
          · exact .inr ⟨o, upd_at h np⟩
        exact t1.trans (samT_sub3 A12 M12 l12)
      have atS : ∀ {p : Addr} {o : HO}, G11 p = some o → p ≠ r → p ≠ lg → p ≠ ll → sub3 (upd G11 r (.ins C dx fs8)) r lg ll p = some o := fun h n1 n2 n3 => sub3_at (upd_at h n1) n1 n2 n3
      have nr : ∀ {p : Addr} {o : HO}, G11 p = some o → (∀ fs, o ≠ .ins C dx fs) → p ≠ r := fun h n e => by
        rw [e, A11] at h
        injection h with h
        exact n _ h.symm
      refine k _ _ sub ⟨dx, lr, la, lg, ll, .non, [], [.ref a], ⟨sub, sub3_same _ _ _ _, sub3_none (.inl rfl), sub3_none (.inr (.inl rfl)), sub3_none (.inr (.inr rfl)), nlg, by rw [A12, ef], hrs.same sub, ?_, M12, trivial, l12, ⟨?_, trivial⟩, rfl⟩⟩
      · exact SqL.of (atS L11 (nr L11 (by intro fs z; cases z)) nlaG nla2)
      · refine ⟨a, D, d, wv, ws, rfl, sT.sqt (SqT.of a11), atS D11 (nr D11 (by intro fs z; cases z)) nD1 nD2, gv11.imp fun _ _ q => q.samT sT, ⟨[], atS d11 (nr d11 (by intro fs z; cases z)) (fun e => ?_) (fun e => ?_), trivial⟩, atS w11 (nr w11 (by intro fs z; cases z)) nw1 nw2⟩
        · rw [e, M11] at d11; cases d11
        · rw [e, ll11] at d11; cases d11
end
end Gt
set_option Elab.async false
set_option linter.all false
set_option maxRecDepth 100000
set_option maxHeartbeats 4000000
/-! search. -/
namespace Gt
open PySem L2 RZ
abbrev s_search : Stmt := top 34
theorem sc_search : FnScope ["rules", "goals", "bound", "most", "run"] ["rules", "goals", "bound", "most"] (defScope s_search) := ⟨rfl, rfl, rfl, by decide +kernel, rfl, by decide +kernel, by decide +kernel⟩
structure SearchAt (K : PySem.W.Frag) (mg : Str → Option Value) where
  f : Addr
  fd : FuncData
  F : FunD K "search" "search" (defArgs s_search) (defBody s_search) (defScope s_search) [.int 200, .int 10] [] f fd
  m : mg "search" = some (.ref f)
  k : PySem.W.keepIn K (.ref f) = true
  b : Binds K fd ["rules", "goals", "bound", "most"] []
def spStepE (K : PySem.W.Frag) (C : Addr) (asked : List Str) (R : List Rule) (most : Nat) (cx : Cx) (ways : Fnd) : Sp := fun vs H Q E => ∃ r, spStep K ⟨C, r, asked, R, most⟩ cx ways vs H Q E
def spSearch (K : PySem.W.Frag) (cx : Cx) : Sp := fun vs H Q _ => ∃ lr lgs gvs goals, ∃ most : Nat, vs = [.ref lr, .ref lgs, .int 400, .int (most : Nat)] ∧ RulesAt K H lr cx.R ∧ SqL K H lgs gvs ∧ Trs K H gvs goals ∧ (∀ g ∈ goals, GoalOk cx 0 g) ∧ costL cx goals ≤ 9 ∧ Tm.sizeL goals ≤ 1000 ∧
  (∀ x ∈ namesOf goals, x ∈ cx.nb) ∧ (namesOf goals).length ≤ 100 ∧ ∀ H' a lg ev tk gvs' given kk, Same H H' → SqT K H' a [.ref lg, ev, .int tk] → H' lg = some (.lst gvs') → F2 (GivAt K H' (namesOf goals)) gvs' given → EndAt K H' ev (some kk) →
    (∃ t l, MInv cx (namesOf goals) (Az cx goals [] []).1 t l given) → Gs given → (kk = "all" → given.length = (Az cx goals [] []).1.length) → (kk = "enough" → given.length = most) → isEnd kk → Q (.ref a) H'
section
variable {P : Program} {w : World} {K : PySem.W.Frag} {mg : Str → Option Value} {base : Heap} {CX : CXT}
theorem ok_search {C : Addr} (T : TxtR K mg C) (TS : SearchAt K mg) {cx : Cx} (ok : CxOk cx) (hlen : ∀ x ∈ cx.nb, x.length ≤ 1000) : FnOk P w K mg base CX0 110 TS.f TS.fd ["rules", "goals", "bound", "most"] (spSearch K cx) := by
  refine TS.F.ok (k := 109) sc_search (fun vs H Q E h => ?_) (fun cdv A outer s H vs Q E hr h => ?_)
  · obtain ⟨lr, lgs, gvs, goals, most, rfl, _⟩ := h
    rfl
  · obtain ⟨lr, lgs, gvs, goals, most, rfl, hrs, hgl, hgs, hgk, hc, hz, hnm, hnl, k⟩ := h
    have big : (1000100 : Nat) < sizeLine := by decide
    have G_init : FnOk P w K mg base CX0 2 T.f_init__ T.fd_init__ ["self", "rules", "goals", "bound", "most"] (spInit K C most) := ok_init T most
    have wl : (Az cx goals [] []).1.length ≤ 10077696 := pow9L (A_ok ok (costL cx goals) goals [] [] (by simpa using hc) OKs.nil hgk).1 hc
    generalize hW : (Az cx goals [] []).1 = ways at *
    have G_step : FnOk P w K mg base CX0 104 T.f_step T.fd_step ["self"] (spStepE K C (namesOf goals) cx.R most cx ways) :=
      ⟨fun vs H Q E ⟨r, h⟩ => (ok_step (P := P) (w := w) (base := base) (c := ⟨C, r, namesOf goals, cx.R, most⟩) T ok hlen rfl hnm hnl ways wl).len vs H Q E h,
       fun A outer s H args us vs Q E hr he hb hv ⟨r, h⟩ => (ok_step (P := P) (w := w) (base := base) (c := ⟨C, r, namesOf goals, cx.R, most⟩) T ok hlen rfl hnm hnl ways wl).run A outer s H args us vs Q E hr he hb hv h⟩
    refine ⟨_, PSs.nox (pss_cons (ps_set (i := 4) sc_search.nd rfl (Or.inl rfl) ((pe_make T.mkr G_init (hr.mono (by omega)) rfl T.mgC T.b_init__ .nil pass0 (pa_cons (pv 0) (pa_cons (pv 1) (pa_cons (pv 2) (pa_cons (pv 3) pa_nil)))))))
          (pss_cons (ps_while PassesOwn.never (pt_cmp (pc_isN (pe_fld (pv 4) rfl)))
          (pss_one (ps_expr ((pe_meth0 (pv 4) T.cl T.M_step G_step (hr.mono (by omega)) T.b_step .nil pass0)))))
          (pss_one (ps_ret (pe_tup (pa_cons (pe_fld (pv 4) rfl) (pa_cons (pe_fld (pv 4) rfl) (pa_cons (pe_fld (pv 4) rfl) pa_nil)))))))), ?_⟩
    refine ⟨_, rfl, _, rfl, _, rfl, _, rfl, ?_⟩
    intro x dx nx ndx nex
    have s0 : Same H (upd (upd H dx (.own x)) x (.ins C dx [])) := fun b o e => by
      rw [upd_ne (ne_of_none e nx), upd_ne (ne_of_none e ndx)]
      exact e
    refine ⟨H, x, dx, lr, lgs, gvs, goals, cx.R, rfl, upd_same, s0, nx, hrs, hgl, hgs, hz, fun S1 H1 sS hR => ⟨rfl, ?_⟩⟩
    let c : RC := ⟨C, x, namesOf goals, cx.R, most⟩
    let W : Nat → St → Hp → Prop := fun m σ H' => σ = [some (.ref lr), some (.ref lgs), some (.int 400), some (.int (most : Nat)), some (.ref x)] ∧ ∃ S left given taken e, Same H S ∧ RunSt K c H S H' left given taken e ∧ GoodM c cx ways (m + 1) left given taken e ∧ (e = none → m = (401 - taken) * 7 + left.length)
    have M0 : MInv cx (namesOf goals) ways 0 [⟨goals.map fun g => (some g, 0), [], []⟩] [] := by rw [← hW]; exact MInv.init hgk hc
    refine ⟨W, ⟨401 * 7 + 1, rfl, S1, _, _, _, none, sS, hR, ⟨M0, by omega, by simp, (fun x hx => nomatch hx), by simp⟩, fun _ => by simp⟩, ?_⟩
    rintro m σ H2 ⟨rfl, S, left, given, taken, e, sHS, hR2, hG, hm⟩
    obtain ⟨dx2, lr2, la2, lg2, ll2, ev2, gvs2, fvs2, hC⟩ := id hR2
    refine ⟨_, rfl, x, C, dx2, _, _, rfl, hC.at_, T.cl, T.n_end, f_end, _, rfl, ?_⟩
    cases e with
    | none =>
      have ee : ev2 = .non := hC.en
      rw [ee, v_non_non]
      refine iteT ⟨fun σ' H'' => ∃ m', m' < m ∧ W m' σ' H'', fun _ _ h => h, ?_⟩
      obtain ⟨g1, g2, g3, g4, g5⟩ := hG
      have hm' := hm rfl
      refine ⟨_, rfl, x, dx2, _, rfl, hC.at_, no_step, x, H, S, left, given, taken, rfl, hR2, g1, g2, g3, g4, fun S' H' sS' hD => ?_⟩
      obtain ⟨left', given', taken', e', hR', hG'⟩ := hD
      cases e' with
      | none =>
        obtain ⟨q1, q2, q3, q4, q5⟩ := hG'
        exact ⟨_, by omega, rfl, S', left', given', taken', none, sHS.trans sS', hR', ⟨q1, q2, q3, q4, by omega⟩, fun _ => rfl⟩
      | some kk =>
        exact ⟨0, by omega, rfl, S', left', given', taken', some kk, sHS.trans sS', hR', hG', (fun z => nomatch z)⟩
    | some kk =>
      obtain ⟨ae, rfl, sqe⟩ := hC.en
      rw [v_ref_non]
      refine iteF ?_
      obtain ⟨q1, q2, q3, q4, q5, q6⟩ := hG
      refine ⟨_, rfl, x, C, dx2, _, _, rfl, hC.at_, T.cl, T.n_given, f_given, _, rfl, x, C, dx2, _, _, rfl, hC.at_, T.cl, T.n_end, f_end, _, rfl, x, C, dx2, _, _, rfl, hC.at_, T.cl, T.n_taken, f_taken, (by show 3 ≤ sizeLine; decide), fun a ha => ?_⟩
      have s9 := same_new (o := .tup [.ref lg2, .ref ae, .int (taken : Nat)]) ha
      have sT := hC.sh.trans s9
      exact k _ a lg2 (.ref ae) _ gvs2 given kk (sHS.trans sT) (SqT.of upd_same) (s9 _ _ hC.hg) (hC.giv.imp fun _ _ z => z.same sT) ⟨ae, rfl, same_sqt sT sqe⟩ q1 q3 q4 q5 q6
end
end Gt
set_option Elab.async false
set_option linter.all false
set_option maxRecDepth 100000
set_option maxHeartbeats 4000000
/-! The law's draws. -/
namespace Gt
open PySem L2 RZ
def spCellAt (K : PySem.W.Frag) : Sp := fun vs H Q _ => ∃ (a : Addr) (ns : List Int), ∃ k : Nat, vs = [.ref a, .int (k : Nat)] ∧ SqL K H a (ns.map V.int) ∧ ns.length ≤ 63 ∧ k ≤ 1000 ∧ ∀ z H', Same H H' → Q (.int z) H'
def spPick : Sp := fun vs H Q _ => ∃ z many, ∃ k : Nat, vs = [.int z, .int (k : Nat), .int many] ∧ 0 < many ∧ k ≤ 1000000 ∧ ∀ r, 0 ≤ r → r < many → Q (.int r) H
section
variable {P : Program} {w : World} {K : PySem.W.Frag} {mg : Str → Option Value} {base : Heap} {CX : CXT}
theorem ok_law_pick (T : Txt K mg) : FnOk P w K mg base CX0 1 T.d_law_pick.f T.d_law_pick.fd ["_law_cell", "_law_k", "_law_many"] spPick := by
  refine T.d_law_pick.F.ok sc_law_pick (fun vs H Q E h => ?_) (fun cdv A outer s H vs Q E hr h => ?_)
  · obtain ⟨z, many, k, rfl, _⟩ := h
    rfl
  · obtain ⟨z, many, k, rfl, hm, hk, q⟩ := h
    refine ⟨_, (pss_one (ps_ret (pe_op op_modN (pe_op op_shr (pv 0) (pe_op op_mul pe_int (pv 1))) (pv 2)))), ?_⟩
    refine ⟨_, rfl, _, rfl, _, _, rfl, rfl, .inl (by decide), _, _, rfl, rfl, by show 0 ≤ (6 : Int) * (k : Nat); omega, _, rfl, _, _, rfl, rfl, by show many ≠ 0; omega, ?_⟩
    exact q _ (Int.fmod_nonneg_of_pos _ hm) (Int.fmod_lt_of_pos _ hm)
def tCellTail : TS :=
  tSeq (tAsg (tOp (rI (fun x j => j ≠ 0) fun i j => V.int (i.fmod j)) (tOp (rI0 fun i j => V.int (i + j)) (tOp (rI0 fun i j => V.int (i + j)) (tOp (rI CMul fun i j => V.int (i * j)) (tOp (rI (fun x j => j ≠ 0) fun i j => V.int (i.fmod j)) (tVar 2) (tC (V.int 2147483647))) (tC (V.int 48271)))
      (tOp (rI CMul fun i j => V.int (i * j)) (tC (V.int 7919)) (tVar 1))) (tC (V.int 13))) (tC (V.int 2147483629))) (gName 3))
    (tSeq (tAsg (tC (V.int 0)) (gName 4))
      (tSeq (tFor (iRng1 (tCons (tC (V.int 20)) tNil)) (gName 5)
          (tSeq (tAsg (tOp (rI (fun x j => j ≠ 0) fun i j => V.int (i.fmod j)) (tOp (rI0 fun i j => V.int (i + j)) (tOp (rI0 fun i j => V.int (i + j)) (tOp (rI CMul fun i j => V.int (i * j)) (tVar 3) (tC (V.int 69621))) (tC (V.int 104729))) (tVar 5)) (tC (V.int 2147483587))) (gName 3))
            (tAsg (tOp (rI0 fun i j => V.int (i + j)) (tOp (rI CMul fun i j => V.int (i * j)) (tVar 4) (tC (V.int 1000003))) (tOp (rI (fun x j => j ≠ 0) fun i j => V.int (i.fmod j)) (tOp (rI (fun x j => j ≠ 0) fun i j => V.int (i.fmod j)) (tOp (rI CMul fun i j => V.int (i * j)) (tVar 3) (tVar 3)) (tC (V.int 2147483579))) (tC (V.int 1000003)))) (gName 4))))
        (tRet (tVar 4))))
theorem cell_tail {H G : Hp} {Q : VK} {v0 : Option V} {c : Int} {k : Nat} (q : ∀ (z : Int) (H' : Hp), Same H H' → Q (V.int z) H') (s1 : Same H G) :
    tCellTail { nx := fun _ H' => Q .non H', rt := Q } [v0, some (.int (k : Nat)), some (.int c), none, none, none] G := by
  have f1 : ∀ z : Int, 0 ≤ z.fmod 2147483647 ∧ z.fmod 2147483647 < 2147483647 := fun z => ⟨Int.fmod_nonneg_of_pos _ (by decide), Int.fmod_lt_of_pos _ (by decide)⟩
  have f2 : ∀ z : Int, 0 ≤ z.fmod 2147483629 ∧ z.fmod 2147483629 < 2147483629 := fun z => ⟨Int.fmod_nonneg_of_pos _ (by decide), Int.fmod_lt_of_pos _ (by decide)⟩
  have f3 : ∀ z : Int, 0 ≤ z.fmod 2147483587 ∧ z.fmod 2147483587 < 2147483587 := fun z => ⟨Int.fmod_nonneg_of_pos _ (by decide), Int.fmod_lt_of_pos _ (by decide)⟩
  have g1 := f1 c
  refine ⟨_, rfl, _, _, rfl, rfl, (by show (2147483647 : Int) ≠ 0; decide), _, _, rfl, rfl, .inl ⟨by show -(2 ^ 64 : Int) < c.fmod 2147483647; omega, by show c.fmod 2147483647 < (2 ^ 64 : Int); omega⟩, _, rfl, _, _, rfl, rfl, .inl (by decide), _, _, rfl, rfl, _, _, rfl, rfl, _, _, rfl, rfl, (by show (2147483629 : Int) ≠ 0; decide), ?_⟩
  generalize hn : Int.fmod (c.fmod 2147483647 * 48271 + 7919 * ((k : Nat) : Int) + 13) 2147483629 = nu
  have g2 : 0 ≤ nu ∧ nu < 2147483629 := by rw [← hn]; exact f2 _
  refine ⟨20, rfl, by decide, by decide, ?_⟩
  refine for_range (lo := 0) (n := 20) (fun i σ H' => ∃ (nu mi : Int) (x5 : Option V), σ = [v0, some (.int (k : Nat)), some (.int c), some (.int nu), some (.int mi), x5] ∧ H' = G ∧ 0 ≤ nu ∧ nu < 2147483629) ⟨nu, 0, none, by rw [← hn]; rfl, rfl, g2.1, g2.2⟩ ?_ ?_
  · rintro i σ H' hi ⟨nu, mi, x5, rfl, rfl, h0, h1⟩
    refine ⟨_, rfl, _, _, rfl, rfl, .inl ⟨by omega, by omega⟩, _, _, rfl, rfl, _, rfl, _, _, rfl, rfl, _, _, rfl, rfl, (by show (2147483587 : Int) ≠ 0; decide), ?_⟩
    generalize hm : Int.fmod (nu * 69621 + 104729 + (0 + ((i : Nat) : Int))) 2147483587 = n2
    have g3 : 0 ≤ n2 ∧ n2 < 2147483587 := by rw [← hm]; exact f3 _
    refine ⟨_, rfl, _, _, rfl, rfl, .inr (by decide), V.int n2, (by rw [← hm]; rfl), V.int n2, (by rw [← hm]; rfl), n2, n2, rfl, rfl, .inl ⟨by omega, by omega⟩, _, _, rfl, rfl, (by show (2147483579 : Int) ≠ 0; decide), _, _, rfl, rfl, (by show (1000003 : Int) ≠ 0; decide), _, _, rfl, rfl, ?_⟩
    exact ⟨n2, _, _, by rw [← hm]; rfl, rfl, g3.1, by omega⟩
  · rintro σ H' ⟨nu, mi, x5, rfl, rfl, h0, h1⟩
    exact ⟨_, rfl, q _ _ s1⟩
theorem ok_law_cell_at (T : Txt K mg) : FnOk P w K mg base CX0 1 T.d_law_cell_at.f T.d_law_cell_at.fd ["_law_script", "_law_k"] (spCellAt K) := by
  refine T.d_law_cell_at.F.ok sc_law_cell_at (fun vs H Q E h => ?_) (fun cdv A outer s H vs Q E hr h => ?_)
  · obtain ⟨a, ns, k, rfl, _⟩ := h
    rfl
  · obtain ⟨a, ns, kk, rfl, ha, hl, hk, q⟩ := h
    refine ⟨_, (pss_cons (ps_set (i := 2) sc_law_cell_at.nd rfl (Or.inl rfl) (pe_op op_add (pe_op op_mul pe_int (pv 1)) (pe_callB (cr_sum rfl) (by rfl) T.sum (by decide +kernel) (pa_cons (pe_slice sl_list (pv 0) po_none (po_some pe_int)) pa_nil))))
          (pss_cons (ps_if (pt_cmpR op_lt (pv 1) (pe_callB call_len_seq (by rfl) T.len PySem.boot_len (pa_cons (pv 0) pa_nil)) (nomark _)) (pss_one (ps_set (i := 2) sc_law_cell_at.nd rfl (Or.inl rfl) (pe_ix ix_list (pv 0) (pv 1) (fun _ _ => rfl)))) pss_nil)
          (pss_cons (ps_if (PW.pt (pw_and (pt_cmpR op_gt (pe_callB call_len_seq (by rfl) T.len PySem.boot_len (pa_cons (pv 0) pa_nil)) pe_int (nomark _)) (pw_and1 (pt_cmpR op_eq (pe_op op_modN (pe_ix ix_list (pv 0) pe_int (fun _ _ => rfl)) pe_int) pe_int (nomark _))))) (pss_one (ps_ret (pv 2))) pss_nil)
          (pss_cons (ps_set (i := 3) sc_law_cell_at.nd rfl (Or.inl rfl) (pe_op op_modN (pe_op op_add (pe_op op_add (pe_op op_mul (pe_op op_modN (pv 2) pe_int) pe_int) (pe_op op_mul pe_int (pv 1))) pe_int) pe_int))
          (pss_cons (ps_set (i := 4) sc_law_cell_at.nd rfl (Or.inl rfl) pe_int)
          (pss_cons (ps_for PassesOwn.never rfl (pi_range1 (by rfl) T.range (pa_cons pe_int pa_nil)) (pg_name (i := 5) sc_law_cell_at.nd rfl (Or.inl rfl))
          (pss_cons (ps_set (i := 3) sc_law_cell_at.nd rfl (Or.inl rfl) (pe_op op_modN (pe_op op_add (pe_op op_add (pe_op op_mul (pv 3) pe_int) pe_int) (pv 5)) pe_int))
          (pss_one (ps_set (i := 4) sc_law_cell_at.nd rfl (Or.inl rfl) (pe_op op_add (pe_op op_mul (pv 4) pe_int) (pe_op op_modN (pe_op op_modN (pe_op op_mul (pv 3) (pv 3)) pe_int) pe_int))))))
          (pss_one (ps_ret (pv 4))))))))), ?_⟩
    refine ⟨_, rfl, _, _, rfl, rfl, .inl (by decide), ?_⟩
    refine ⟨_, rfl, 5, rfl, a, _, rfl, ha, fun t ht => ?_⟩
    have s1 := same_new (o := .lst (cutV (ns.map V.int) none (some 5))) ht
    have ec : cutV (ns.map V.int) none (some 5) = (ns.take 5).map V.int := by
      unfold cutV
      rw [HT.sIx_none, List.drop_zero, Nat.sub_zero, show (some (5 : Int)) = some ((5 : Nat) : Int) from rfl, HT.sIx_nat, List.length_map]
      rw [List.map_take]
      by_cases e : 5 ≤ ns.length
      · rw [Nat.min_eq_left e]
      · rw [Nat.min_eq_right (by omega), List.take_of_length_le (by rw [List.length_map]; omega), List.take_of_length_le (by rw [List.length_map]; omega)]
    have ha1 := s1.seq ha
    refine ⟨t, ns.take 5, rfl, SqL.of (by rw [upd_same, ec]), _, _, rfl, rfl, ?_⟩
    generalize upd H t (.lst (cutV (ns.map V.int) none (some 5))) = G at *
    generalize (ns.take 5).sum = sm at *
    have nd : ∀ z : Int, 0 ≤ z.fmod 2147483647 ∧ z.fmod 2147483647 < 2147483647 := fun z => ⟨Int.fmod_nonneg_of_pos _ (by decide), Int.fmod_lt_of_pos _ (by decide)⟩
    refine ⟨_, rfl, _, rfl, a, _, rfl, .inl ha1, _, _, rfl, rfl, _, rfl, ?_⟩
    rw [List.length_map]
    refine ite2 (fun hc => ⟨_, rfl, _, rfl, a, _, (kk : Nat), V.int (ns[kk]'(by have := of_decide_eq_true hc; omega)), rfl, rfl, ha1, atI_nat (by rw [List.getElem?_map, List.getElem?_eq_getElem]; rfl), ?_⟩) (fun hc => ?_)
    all_goals
      refine ⟨_, rfl, a, _, rfl, .inl ha1, _, _, rfl, rfl, _, rfl, ?_⟩
      rw [List.length_map]
      refine ite2 (fun hc2 => ⟨_, rfl, a, _, 0, V.int (ns[0]'(by have := of_decide_eq_true hc2; omega)), rfl, rfl, ha1, atI_nat (j := 0) (by rw [List.getElem?_map, List.getElem?_eq_getElem]; rfl), _, _, rfl, rfl, (by show (2 : Int) ≠ 0; decide), rfl, _, rfl, ?_⟩) (fun hc2 => ?_)
      refine ite2 (fun _ => ⟨_, rfl, q _ _ s1⟩) (fun _ => ?_)
    rotate_left
    · refine iteF ?_
      exact cell_tail q s1
    · exact cell_tail q s1
    · refine iteF ?_
      exact cell_tail q s1
    · exact cell_tail q s1
end
end Gt
set_option Elab.async false
set_option linter.all false
set_option maxRecDepth 100000
set_option maxHeartbeats 4000000
/-! The law's words. -/
namespace Gt
open PySem L2 RZ
open SX (S S_inj S_len S_cat)
def sh (at_ k j : Nat) (b : Int) : Nat := 97 + ((b + (if j = at_ then ((k : Nat) : Int) else 0)) % 26).toNat
def raw (bs : List Int) (at_ k : Nat) : List Nat := bs.mapIdx fun j b => sh at_ k j b
def bad3 : List Str := ["keep", "not", "infix"]
def word (bs : List Int) (at_ k : Nat) : Str := if S (raw bs at_ k) ∈ bad3 then S (raw bs at_ k) ++ "3" else S (raw bs at_ k)
theorem sh_range (at_ k j : Nat) (b : Int) : 97 ≤ sh at_ k j b ∧ sh at_ k j b ≤ 122 := by unfold sh; omega
theorem raw_len (bs : List Int) (at_ k : Nat) : (raw bs at_ k).length = bs.length := List.length_mapIdx
theorem raw_mem {bs : List Int} {at_ k c : Nat} (h : c ∈ raw bs at_ k) : 97 ≤ c ∧ c ≤ 122 := by
  obtain ⟨j, hj, e⟩ := List.mem_mapIdx.mp h
  rw [← e]
  exact sh_range _ _ _ _
theorem raw_ne {bs : List Int} {at_ k1 k2 : Nat} (ha : at_ < bs.length) (h1 : k1 < 5) (h2 : k2 < 5) (h : k1 ≠ k2) : raw bs at_ k1 ≠ raw bs at_ k2 := fun e => by
  have e1 : (raw bs at_ k1)[at_]? = some (sh at_ k1 at_ bs[at_]) := by unfold raw; rw [List.getElem?_mapIdx, List.getElem?_eq_getElem ha]; rfl
  have e2 : (raw bs at_ k2)[at_]? = some (sh at_ k2 at_ bs[at_]) := by unfold raw; rw [List.getElem?_mapIdx, List.getElem?_eq_getElem ha]; rfl
  rw [e, e2] at e1
  injection e1 with e1
  unfold sh at e1
  rw [if_pos rfl, if_pos rfl] at e1
  omega
theorem three : ("3" : Str) = S [51] := by decide +kernel
theorem word_tl (bs : List Int) (at_ k : Nat) : TL.tl (word bs at_ k) = if S (raw bs at_ k) ∈ bad3 then raw bs at_ k ++ [51] else raw bs at_ k := by
  unfold word
  split
  · rw [three, S_cat]
  · rfl
structure WordOk (w : Str) : Prop where
  sign : ∀ c ∈ TL.tl w, (97 ≤ c ∧ c ≤ 122) ∨ c = 51
  len : w.length ≤ 9
  not3 : w ∉ bad3
  ne : w ≠ "=" ∧ w ≠ ":=" ∧ w ≠ "<" ∧ w ≠ "<="
theorem of_sign {w : Str} (h : ∀ c ∈ TL.tl w, (97 ≤ c ∧ c ≤ 122) ∨ c = 51) {v : Str} {c : Nat} (hc : c ∈ TL.tl v) (hn : ¬ ((97 ≤ c ∧ c ≤ 122) ∨ c = 51)) : w ≠ v := fun e => hn (h c (e ▸ hc))
theorem bad3_signs : ∀ v ∈ bad3, ∀ c ∈ TL.tl v, 97 ≤ c ∧ c ≤ 122 := by decide +kernel
theorem word_ok {bs : List Int} (hb : bs.length ≤ 8) (at_ k : Nat) : WordOk (word bs at_ k) := by
  have sg : ∀ c ∈ TL.tl (word bs at_ k), (97 ≤ c ∧ c ≤ 122) ∨ c = 51 := fun c hc => by
    rw [word_tl] at hc
    split at hc
    · rcases List.mem_append.mp hc with hc | hc
      · exact .inl (raw_mem hc)
      · exact .inr (List.mem_singleton.mp hc)
    · exact .inl (raw_mem hc)
  refine ⟨sg, ?_, ?_, of_sign sg (c := 61) (by decide +kernel) (by decide), of_sign sg (c := 61) (by decide +kernel) (by decide), of_sign sg (c := 60) (by decide +kernel) (by decide), of_sign sg (c := 60) (by decide +kernel) (by decide)⟩
  · rw [TL.len_tl, word_tl]
    split
    · rw [List.length_append, raw_len, List.length_singleton]
      omega
    · rw [raw_len]
      omega
  · intro h
    unfold word at h
    by_cases e : S (raw bs at_ k) ∈ bad3
    · rw [if_pos e] at h
      have := bad3_signs _ h 51 (by rw [three, S_cat]; exact List.mem_append_right _ List.mem_cons_self)
      omega
    · rw [if_neg e] at h
      exact e h
theorem word_ne {bs : List Int} {at_ k1 k2 : Nat} (ha : at_ < bs.length) (h1 : k1 < 5) (h2 : k2 < 5) (h : k1 ≠ k2) : word bs at_ k1 ≠ word bs at_ k2 := fun e => by
  have e' := congrArg TL.tl e
  rw [word_tl, word_tl] at e'
  have r := raw_ne ha h1 h2 h
  have n51 : ∀ k, 51 ∉ raw bs at_ k := fun k hk => by have := raw_mem hk; omega
  split at e' <;> split at e'
  · exact r (List.append_cancel_right e')
  · exact n51 k2 (e' ▸ List.mem_append_right _ List.mem_cons_self)
  · exact n51 k1 (e' ▸ List.mem_append_right _ List.mem_cons_self)
  · exact r e'
def spWords (K : PySem.W.Frag) : Sp := fun vs H Q _ => ∃ z, vs = [.int z] ∧ ∀ H' p bs, ∀ at_ : Nat, Same H H' → at_ < bs.length → bs.length ≤ 8 → H' p = some (.lst ((List.range 5).map fun k => V.str (word bs at_ k))) → Q (.ref p) H'
theorem letters_at {i : Nat} (h : i < 26) : atI (Str.ofString "abcdefghijklmnopqrstuvwxyz").cps.toList ((i : Nat) : Int) = some (97 + i) := by
  have : ∀ i : Fin 26, (Str.ofString "abcdefghijklmnopqrstuvwxyz").cps.toList[i.1]? = some (97 + i.1) := by decide +kernel
  exact atI_nat (this ⟨i, h⟩)
section
variable {P : Program} {w : World} {K : PySem.W.Frag} {mg : Str → Option Value} {base : Heap} {CX : CXT}
theorem ok_law_words (T : Txt K mg) : FnOk P w K mg base CX0 2 T.d_law_words.f T.d_law_words.fd ["_law_cell"] (spWords K) := by
  have G_law_pick : FnOk P w K mg base CX0 1 T.d_law_pick.f T.d_law_pick.fd ["_law_cell", "_law_k", "_law_many"] spPick := ok_law_pick T
  refine T.d_law_words.F.ok sc_law_words (fun vs H Q E h => ?_) (fun cdv A outer s H vs Q E hr h => ?_)
  · obtain ⟨z, rfl, _⟩ := h
    rfl
  · obtain ⟨z, rfl, q⟩ := h
    have big : (1000 : Nat) < sizeLine := by decide
    refine ⟨_, (pss_cons (ps_set (i := 1) sc_law_words.nd rfl (Or.inl rfl) pe_str)
          (pss_cons (ps_setLc (i := 2) (own := [("_law_k", 3)]) (g := gName 3) rfl sc_law_words.nd rfl rfl (sw_true rfl rfl rfl (by decide +kernel)) (pi_range1 (by rfl) T.range (pa_cons (pe_op op_add pe_int (pe_call G_law_pick (hr.mono (by omega)) rfl T.d_law_pick.m T.d_law_pick.k T.d_law_pick.b .nil pass0 (pa_cons (pv 0) (pa_cons pe_int (pa_cons pe_int pa_nil))))) pa_nil)) (blkOk_by (own := [("_law_k", 3)]) (N := ["_law_cell", "_law_letters", "_law_base", "_law_k", "_law_at", "_law_words_here", "_law_word", "_law_j"]) (sc := defScope s_law_words) (by decide +kernel)) (fun _ _ _ _ _ => (pg_name (i := 3) sc_law_words.nd rfl (Or.inl rfl))) (fun _ _ _ _ _ => pts_nil) (fun _ _ _ _ _ => (pe_call G_law_pick (hr.mono (by omega)) rfl T.d_law_pick.m T.d_law_pick.k T.d_law_pick.b .nil pass0 (pa_cons (pv 0) (pa_cons (pv 3) (pa_cons pe_int pa_nil))))))
          (pss_cons (ps_set (i := 4) sc_law_words.nd rfl (Or.inl rfl) (pe_call G_law_pick (hr.mono (by omega)) rfl T.d_law_pick.m T.d_law_pick.k T.d_law_pick.b .nil pass0 (pa_cons (pv 0) (pa_cons pe_int (pa_cons (pe_callB call_len_seq (by rfl) T.len PySem.boot_len (pa_cons (pv 2) pa_nil)) pa_nil)))))
          (pss_cons (ps_set (i := 5) sc_law_words.nd rfl (Or.inl rfl) (pe_lst pa_nil))
          (pss_cons (ps_for PassesOwn.never rfl (pi_range1 (by rfl) T.range (pa_cons pe_int pa_nil)) (pg_name (i := 3) sc_law_words.nd rfl (Or.inl rfl))
          (pss_cons (ps_set (i := 6) sc_law_words.nd rfl (Or.inl rfl) pe_str)
          (pss_cons (ps_for PassesOwn.never rfl (pi_range1 (by rfl) T.range (pa_cons (pe_callB call_len_seq (by rfl) T.len PySem.boot_len (pa_cons (pv 2) pa_nil)) pa_nil)) (pg_name (i := 7) sc_law_words.nd rfl (Or.inl rfl))
          (pss_one (ps_set (i := 6) sc_law_words.nd rfl (Or.inl rfl) (pe_op op_add_str (pv 6) (pe_ix ix_str (pv 1) (pe_op op_modN (pe_op op_add (pe_ix ix_list (pv 2) (pv 7) (fun _ _ => rfl)) (pe_op op_mul (pv 3) (pe_callTy call_int1 (by rfl) T.int (by decide +kernel) (pa_cons (pe_cmpR op_eq (pv 7) (pv 4) (nomark _)) pa_nil)))) pe_int) (fun _ _ => rfl))))))
          (pss_cons (ps_if (pt_cmpR (op_in_seq) (pv 6) (pe_tup (pa_cons pe_str (pa_cons pe_str (pa_cons pe_str pa_nil)))) (by rfl)) (pss_one (ps_set (i := 6) sc_law_words.nd rfl (Or.inl rfl) (pe_op op_add_str (pv 6) pe_str))) pss_nil)
          (pss_one (ps_expr (pe_bm PySem.F.plainAttrs_list PySem.F.slot_list_append PySem.F.type_list_append mt_append (pv 5) (pa_cons (pv 6) pa_nil))))))))
          (pss_one (ps_ret (pv 5)))))))), ?_⟩
    refine ⟨_, rfl, z, 8, 9, rfl, by decide, by decide, fun r9 h9 h9' => ?_⟩
    refine ⟨_, _, rfl, rfl, 1 + r9, rfl, by omega, by omega, fun D hD => ?_⟩
    refine lc_range (lo := 0) (n := (1 + r9).toNat) (fun i H' => Same H H' ∧ ∃ bs : List Int, H' D = some (.lst (bs.map V.int)) ∧ bs.length = i) ⟨same_new hD, [], upd_same, rfl⟩ ?_ ?_
    · rintro i H' hi ⟨s1, bs, hbs, lbs⟩
      refine ⟨rfl, ?_⟩
      unfold tYes
      show if true = true then _ else _
      rw [if_pos rfl]
      refine ⟨_, rfl, _, rfl, z, 26, i, ?_, by decide, by omega, fun r h0 h1 => ⟨_, hbs, by rw [List.length_map]; omega, same_upd s1 hD, bs ++ [r], ?_, ?_⟩⟩
      · show [V.int z, V.int (0 + (i : Nat)), V.int 26] = [V.int z, V.int (i : Nat), V.int 26]
        rw [Int.zero_add]
      · rw [upd_same, List.map_append]; rfl
      · rw [List.length_append, lbs]; rfl
    · rintro H1 ⟨s1, bs, hbs, lbs⟩
      have lb8 : bs.length ≤ 8 := by omega
      have lb1 : 1 ≤ bs.length := by omega
      refine ⟨_, rfl, _, rfl, D, _, rfl, .inl (SqL.of hbs), z, _, 10, rfl, by rw [List.length_map]; omega, by decide, fun ra ha0 ha1 => ?_⟩
      rw [List.length_map] at ha1
      obtain ⟨at_, rfl⟩ := Int.eq_ofNat_of_zero_le ha0
      refine ⟨Nat.zero_le _, fun L hL => ?_⟩
      have s2 := same_new (o := .lst []) hL
      have DL : D ≠ L := ne_of_none hbs hL
      refine ⟨5, rfl, by decide, by decide, ?_⟩
      let Lt := V.str (Str.ofString "abcdefghijklmnopqrstuvwxyz")
      refine for_range (lo := 0) (n := 5) (fun k σ H' => ∃ x3 x6 x7, σ = [some (.int z), some Lt, some (.ref D), x3, some (.int ((at_ : Nat) : Int)), some (.ref L), x6, x7] ∧ Same H H' ∧ H' D = some (.lst (bs.map V.int)) ∧ H' L = some (.lst ((List.range k).map fun k => V.str (word bs at_ k))))
        ⟨none, none, none, rfl, s1.trans s2, upd_at hbs DL, upd_same⟩ ?_ ?_
      · rintro k σ H2 hk ⟨x3, x6, x7, rfl, s3, hD2, hL2⟩
        refine ⟨_, rfl, D, _, rfl, .inl (SqL.of hD2), bs.length, ?_, by omega, by omega, ?_⟩
        · show [V.int (((bs.map V.int).length : Nat) : Int)] = _
          rw [List.length_map]
        refine for_range (lo := 0) (n := ((bs.length : Nat) : Int).toNat) (fun j σ H' => ∃ x7, σ = [some (.int z), some Lt, some (.ref D), some (.int (0 + ((k : Nat) : Int))), some (.int ((at_ : Nat) : Int)), some (.ref L), some (.str (S ((raw bs at_ k).take j))), x7] ∧ H' = H2)
          ⟨x7, by rw [List.take_zero, show S ([] : List Nat) = Str.ofString "" by decide +kernel]; rfl, rfl⟩ ?_ ?_
        · rintro j σ H3 hj ⟨x7, rfl, rfl⟩
          rw [Int.toNat_natCast] at hj
          have hj8 : j < 8 := by omega
          have gb : (bs.map V.int)[j]? = some (V.int bs[j]) := by rw [List.getElem?_map, List.getElem?_eq_getElem hj]; rfl
          have gj : atI (bs.map V.int) (0 + ((j : Nat) : Int)) = some (V.int bs[j]) := by rw [Int.zero_add]; exact atI_nat gb
          have gr : (raw bs at_ k)[j]? = some (sh at_ k j bs[j]) := by unfold raw; rw [List.getElem?_mapIdx, List.getElem?_eq_getElem hj]; rfl
          have shr := sh_range at_ k j bs[j]
          have val : ∀ d : Bool, d = decide (V.int (0 + ((j : Nat) : Int)) = V.int ((at_ : Nat) : Int)) → Int.fmod (bs[j] + (0 + ((k : Nat) : Int)) * (if d = true then 1 else 0)) 26 = ((sh at_ k j bs[j] - 97 : Nat) : Int) := by
            intro d hd
            rw [Int.fmod_eq_emod_of_nonneg _ (by decide)]
            by_cases e : j = at_
            · have : d = true := by rw [hd]; exact decide_eq_true (by rw [e, Int.zero_add])
              rw [this, if_pos rfl]
              unfold sh
              rw [if_pos e]
              omega
            · have : d = false := by
                rw [hd]
                refine decide_eq_false fun h => ?_
                injection h with h
                omega
              rw [this, if_neg Bool.false_ne_true]
              unfold sh
              rw [if_neg e]
              omega
          refine ⟨_, rfl, _, rfl, _, rfl, _, rfl, D, _, _, _, rfl, rfl, SqL.of hD2, gj, _, rfl, _, rfl, _, rfl, rfl, .inr ⟨_, rfl, _, _, rfl, rfl, .inl ⟨by omega, by omega⟩, _, _, rfl, rfl, _, _, rfl, rfl, (by show (26 : Int) ≠ 0; decide), ?_⟩⟩
          refine ⟨_, _, sh at_ k j bs[j], rfl, rfl, (by decide +kernel), ?_, _, _, rfl, rfl, ?_, some (.int (0 + ((j : Nat) : Int))), ?_, rfl⟩
          · have := letters_at (i := sh at_ k j bs[j] - 97) (by omega)
            rw [show 97 + (sh at_ k j bs[j] - 97) = sh at_ k j bs[j] by omega] at this
            exact (congrArg (atI _) (val _ rfl)).trans this
          · have l1 : (S ((raw bs at_ k).take j)).length ≤ 8 := by rw [S_len, List.length_take, raw_len]; omega
            show _ + 1 ≤ sizeLine
            omega
          · show _ = [some (.int z), some Lt, some (.ref D), some (.int (0 + ((k : Nat) : Int))), some (.int ((at_ : Nat) : Int)), some (.ref L), some (.str (S ((raw bs at_ k).take (j + 1)))), some (.int (0 + ((j : Nat) : Int)))]
            rw [List.take_add_one, gr, show (some (sh at_ k j bs[j])).toList = [sh at_ k j bs[j]] from rfl, ← S_cat]
            rfl
        · rintro σ H3 ⟨x7, rfl, rfl⟩
          rw [Int.toNat_natCast, ← raw_len bs at_ k, List.take_length]
          refine ⟨_, rfl, (by show 3 ≤ sizeLine; decide), fun t ht => ?_⟩
          have s4 := same_new (o := .tup [.str "keep", .str "not", .str "infix"]) ht
          refine ⟨t, _, rfl, .inr (SqT.of upd_same), rfl, rfl, _, rfl, ?_⟩
          have eIn : inV (V.str (S (raw bs at_ k))) [.str "keep", .str "not", .str "infix"] = decide (S (raw bs at_ k) ∈ bad3) := inV_str _ bad3
          simp only [Bool.false_eq_true, if_false]
          rw [eIn]
          have LD : L ≠ D := DL.symm
          have put : ∀ (x7 : Option V) (wd : Str), wd = word bs at_ k → ∃ x3 x6 x7', [some (V.int z), some Lt, some (V.ref D), some (V.int (0 + ((k : Nat) : Int))), some (V.int ((at_ : Nat) : Int)), some (V.ref L), some (V.str wd), x7] = [some (V.int z), some Lt, some (V.ref D), x3, some (V.int ((at_ : Nat) : Int)), some (V.ref L), x6, x7'] ∧
              Same H (upd (upd H3 t (.tup [.str "keep", .str "not", .str "infix"])) L (.lst (((List.range k).map fun k => V.str (word bs at_ k)) ++ [.str wd]))) ∧ (upd (upd H3 t (.tup [.str "keep", .str "not", .str "infix"])) L (.lst (((List.range k).map fun k => V.str (word bs at_ k)) ++ [.str wd]))) D = some (.lst (bs.map V.int)) ∧
              (upd (upd H3 t (.tup [.str "keep", .str "not", .str "infix"])) L (.lst (((List.range k).map fun k => V.str (word bs at_ k)) ++ [.str wd]))) L = some (.lst ((List.range (k + 1)).map fun k => V.str (word bs at_ k))) := fun x7 wd e =>
            ⟨_, _, _, rfl, same_upd (s3.trans s4) (s1.free hL), upd_at (s4 _ _ hD2) DL, by rw [upd_same, List.range_succ, List.map_append, e]; rfl⟩
          have hL3 := s4 _ _ hL2
          by_cases e : S (raw bs at_ k) ∈ bad3
          · rw [decide_eq_true e]
            refine iteT ⟨_, rfl, _, _, rfl, rfl, ?_, ?_⟩
            · have l1 : (S (raw bs at_ k)).length ≤ 8 := by rw [S_len, raw_len]; omega
              have l2 : (Str.ofString "3").length = 1 := by decide +kernel
              omega
            · have ew : S (raw bs at_ k) ++ "3" = word bs at_ k := by unfold word; rw [if_pos e]
              exact ⟨_, rfl, .inl ⟨rfl, _, SqL.of hL3⟩, _, rfl, L, _, _, rfl, rfl, hL3, by rw [List.length_map, List.length_range]; omega, put _ _ ew⟩
          · rw [decide_eq_false e]
            refine iteF ?_
            have ew : S (raw bs at_ k) = word bs at_ k := by unfold word; rw [if_neg e]
            exact ⟨_, rfl, .inl ⟨rfl, _, SqL.of hL3⟩, _, rfl, L, _, _, rfl, rfl, hL3, by rw [List.length_map, List.length_range]; omega, put _ _ ew⟩
      · rintro σ H2 ⟨x3, x6, x7, rfl, s3, hD2, hL2⟩
        exact ⟨_, rfl, q _ _ bs at_ s3 (by omega) lb8 hL2⟩
end
end Gt
set_option Elab.async false
set_option linter.all false
set_option maxRecDepth 100000
set_option maxHeartbeats 4000000
/-! The law's names and things. -/
namespace Gt
open PySem L2 RZ PySem.Builtin.Str
open SX (S S_inj S_len S_cat upper_S)
def five (w0 w1 w2 w3 w4 : Str) : List V := [.str w0, .str w1, .str w2, .str w3, .str w4]
structure NmOk (x : Str) : Prop where
  plain : Plain x
  len : x.length ≤ 1000
theorem upper_ok {w : Str} (h : WordOk w) : NmOk (Txt.upper w) ∧ (Txt.upper w).length ≤ 9 := by
  have e : S (TL.tl w) = w := TL.mk_tl w
  have a : (TL.tl w).all (· < 128) = true := List.all_eq_true.mpr fun c hc => decide_eq_true (by have := h.sign c hc; omega)
  have u := upper_S a
  rw [e] at u
  have l : (Txt.upper w).length ≤ 9 := by
    rw [u, S_len, List.length_map, ← TL.len_tl]
    exact h.len
  refine ⟨⟨fun hm => ?_, by omega⟩, l⟩
  rw [u] at hm
  have hm : 46 ∈ (TL.tl w).map PyProof.Rows.up1 := hm
  obtain ⟨c, hc, e⟩ := List.mem_map.mp hm
  have := h.sign c hc
  unfold PyProof.Rows.up1 at e
  split at e <;> omega
theorem num_ok {u : Str} (h : NmOk u) (hl : u.length ≤ 9) {n : Nat} (hn : n < 100000) : NmOk (u ++ Str.ofString (toString ((n : Nat) : Int))) := by
  have ln := len_num' hn
  refine ⟨fun hm => ?_, by rw [len_app']; omega⟩
  rw [TL.tl_append, TL.tl_num] at hm
  rcases List.mem_append.mp hm with hm | hm
  · exact h.plain hm
  · exact TL.numL_free (.inl (by decide)) hm
theorem u_ok : NmOk "U1" ∧ NmOk "U2" ∧ NmOk "U" := ⟨⟨by unfold Plain; decide +kernel, by decide +kernel⟩, ⟨by unfold Plain; decide +kernel, by decide +kernel⟩, ⟨by unfold Plain; decide +kernel, by decide +kernel⟩⟩
def spNames (K : PySem.W.Frag) : Sp := fun vs H Q _ => ∃ lw z w0 w1 w2 w3 w4, vs = [.ref lw, .int z] ∧ SqL K H lw (five w0 w1 w2 w3 w4) ∧ WordOk w0 ∧ WordOk w1 ∧ WordOk w2 ∧ ∀ H' p n0 n1 n2, Same H H' → H' p = some (.lst [.str n0, .str n1, .str n2]) → NmOk n0 → NmOk n1 → NmOk n2 → Q (.ref p) H'
section
variable {P : Program} {w : World} {K : PySem.W.Frag} {mg : Str → Option Value} {base : Heap} {CX : CXT}
theorem ok_law_names (T : Txt K mg) : FnOk P w K mg base CX0 2 T.d_law_names.f T.d_law_names.fd ["_law_words_here", "_law_cell"] (spNames K) := by
  have G_law_pick : FnOk P w K mg base CX0 1 T.d_law_pick.f T.d_law_pick.fd ["_law_cell", "_law_k", "_law_many"] spPick := ok_law_pick T
  refine T.d_law_names.F.ok sc_law_names (fun vs H Q E h => ?_) (fun cdv A outer s H vs Q E hr h => ?_)
  · obtain ⟨lw, z, w0, w1, w2, w3, w4, rfl, _⟩ := h
    rfl
  · obtain ⟨lw, z, w0, w1, w2, w3, w4, rfl, hw, h0, h1, h2, q⟩ := h
    have big : (1000 : Nat) < sizeLine := by decide
    have big2 : (1000 : Nat) ≤ 5592405 := by decide
    obtain ⟨u0, l0⟩ := upper_ok h0
    obtain ⟨u1, l1⟩ := upper_ok h1
    obtain ⟨u2, l2⟩ := upper_ok h2
    refine ⟨_, (pss_cons (ps_set (i := 2) sc_law_names.nd rfl (Or.inl rfl) (pe_upper (pe_ix ix_list (pv 0) pe_int (fun _ _ => rfl))))
          (pss_cons (ps_set (i := 3) sc_law_names.nd rfl (Or.inl rfl) (pe_call G_law_pick (hr.mono (by omega)) rfl T.d_law_pick.m T.d_law_pick.k T.d_law_pick.b .nil pass0 (pa_cons (pv 1) (pa_cons pe_int (pa_cons pe_int pa_nil)))))
          (pss_cons (ps_set (i := 4) sc_law_names.nd rfl (Or.inl rfl) (pe_lst (pa_cons (pe_lc (own := [("_law_word", 5)]) (g := gName 5) rfl sc_law_names.nd (pi_list (pe_slice sl_list (pv 0) po_none (po_some pe_int))) (blkOk_by (own := [("_law_word", 5)]) (N := ["_law_words_here", "_law_cell", "_law_one_here", "_law_first", "_law_some", "_law_word"]) (sc := defScope s_law_names) (by decide +kernel)) (fun _ _ _ _ _ => (pg_name (i := 5) sc_law_names.nd rfl (Or.inl rfl))) (fun _ _ _ _ _ => pts_nil) (fun _ _ _ _ _ => (pe_upper (pv 5)))) (pa_cons (pe_lst (pa_cons (pv 2) (pa_cons (pe_op op_add_str (pv 2) (pe_callTy call_str_int (by rfl) T.str (by decide +kernel) (pa_cons (pv 3) pa_nil))) (pa_cons (pe_op op_add_str (pv 2) (pe_callTy call_str_int (by rfl) T.str (by decide +kernel) (pa_cons (pe_op op_add (pv 3) pe_int) pa_nil))) pa_nil)))) pa_nil))))
          (pss_cons (ps_expr (pe_bm PySem.F.plainAttrs_list PySem.F.slot_list_append PySem.F.type_list_append mt_append (pv 4) (pa_cons (pe_lst (pa_cons pe_str (pa_cons pe_str (pa_cons pe_str pa_nil)))) pa_nil)))
          (pss_one (ps_ret (pe_ix ix_list (pv 4) (pe_ix ix_list (pe_lst (pa_cons pe_int (pa_cons pe_int (pa_cons pe_int (pa_cons pe_int (pa_cons pe_int (pa_cons pe_int pa_nil))))))) (pe_call G_law_pick (hr.mono (by omega)) rfl T.d_law_pick.m T.d_law_pick.k T.d_law_pick.b .nil pass0 (pa_cons (pv 1) (pa_cons pe_int (pa_cons pe_int pa_nil)))) (fun _ _ => rfl)) (fun _ _ => rfl)))))))), ?_⟩
    refine ⟨_, rfl, lw, _, 0, .str w0, rfl, rfl, hw, rfl, ⟨_, rfl⟩, w0, rfl, rfl, by have := h0.len; omega, ?_⟩
    refine ⟨_, rfl, z, 40, 3, rfl, by decide, by decide, fun rf hf0 hf1 => ?_⟩
    obtain ⟨nf, rfl⟩ := Int.eq_ofNat_of_zero_le hf0
    have nf40 : nf < 40 := by omega
    refine ⟨_, rfl, 3, rfl, lw, _, rfl, hw, fun t ht => ?_⟩
    have s1 := same_new (o := .lst (cutV (five w0 w1 w2 w3 w4) none (some 3))) ht
    have ec : cutV (five w0 w1 w2 w3 w4) none (some 3) = [.str w0, .str w1, .str w2] := cut_headV (h := 3) (xs := five w0 w1 w2 w3 w4) (by show 3 ≤ 5; decide)
    rw [ec] at s1 ⊢
    refine ⟨t, rfl, ⟨_, SqL.of upd_same⟩, fun D hD => ?_⟩
    refine lc_mapL (as := [w0, w1, w2]) (In := fun _ v x => v = V.str x ∧ x.length ≤ 9) (Out := fun _ v x => v = V.str x) (φ := Txt.upper) hD (SqL.of upd_same) ⟨⟨rfl, h0.len⟩, ⟨rfl, h1.len⟩, ⟨rfl, h2.len⟩, trivial⟩ (by show 3 ≤ _; decide) (fun s h => h) (fun o h => h) (fun v x H1 R hx s2 hin kk => ?_) (fun H1 ws s2 hD1 hws => ?_)
    · obtain ⟨rfl, hxl⟩ := hin
      exact ⟨_, rfl, ⟨_, rfl⟩, x, rfl, rfl, by omega, kk _ _ (Same.refl _) rfl⟩
    · have ews : ws = [.str (Txt.upper w0), .str (Txt.upper w1), .str (Txt.upper w2)] := by
        obtain _ | ⟨a, _ | ⟨b, _ | ⟨c, _ | ⟨d, r⟩⟩⟩⟩ := ws
        · exact hws.elim
        · exact hws.2.elim
        · exact hws.2.2.elim
        · rw [hws.1, hws.2.1, hws.2.2.1]
        · exact hws.2.2.2.elim
      subst ews
      have s12 := s1.trans s2
      have ln1 := len_num' (n := nf) (by omega)
      have ln2 := len_num' (n := nf + 1) (by omega)
      refine ⟨_, rfl, _, rfl, _, rfl, _, rfl, log_small (by omega), _, _, rfl, rfl, by omega, ?_⟩
      refine ⟨_, rfl, _, rfl, _, _, rfl, rfl, ((nf + 1 : Nat) : Int), rfl, log_small (by omega), _, _, rfl, rfl, by omega, (by show 3 ≤ sizeLine; decide), fun l5 hl5 => ⟨(by show 2 ≤ sizeLine; decide), fun l6 hl6 => ?_⟩⟩
      have s5 := same_new (o := .lst [.str (Txt.upper w0), .str (Txt.upper w0 ++ Str.ofString (toString ((nf : Nat) : Int))), .str (Txt.upper w0 ++ Str.ofString (toString ((nf + 1 : Nat) : Int)))]) hl5
      have s6 := same_new (o := .lst [.ref D, .ref l5]) hl6
      have D6 := (s5.trans s6) _ _ hD1
      have l56 := s6 _ _ (upd_same (H := H1) (a := l5) (o := .lst [.str (Txt.upper w0), .str (Txt.upper w0 ++ Str.ofString (toString ((nf : Nat) : Int))), .str (Txt.upper w0 ++ Str.ofString (toString ((nf + 1 : Nat) : Int)))]))
      have S6 := s12.trans s5
      refine ⟨_, rfl, .inl ⟨rfl, _, SqL.of upd_same⟩, (by show 3 ≤ sizeLine; decide), fun l7 hl7 => ?_⟩
      have s7 := same_new (o := .lst [.str "U1", .str "U2", .str "U"]) hl7
      have n67 : l6 ≠ l7 := ne_of_none upd_same hl7
      refine ⟨l6, _, _, rfl, rfl, upd_at upd_same n67, (by show 2 < sizeLine; decide), ?_⟩
      have n6D : D ≠ l6 := ne_of_none ((s5) _ _ hD1) hl6
      have n65 : l5 ≠ l6 := ne_of_none upd_same hl6
      have h6 : Same H (upd (upd (upd (upd H1 l5 (.lst [.str (Txt.upper w0), .str (Txt.upper w0 ++ Str.ofString (toString ((nf : Nat) : Int))), .str (Txt.upper w0 ++ Str.ofString (toString ((nf + 1 : Nat) : Int)))])) l6 (.lst [.ref D, .ref l5])) l7 (.lst [.str "U1", .str "U2", .str "U"])) l6 (.lst ([.ref D, .ref l5] ++ [.ref l7]))) :=
        same_upd ((S6.trans s6).trans s7) (S6.free hl6)
      have D7 := upd_at (o := .lst ([.ref D, .ref l5] ++ [.ref l7])) (s7 _ _ D6) n6D
      have l57 := upd_at (o := .lst ([.ref D, .ref l5] ++ [.ref l7])) (s7 _ _ l56) n65
      have l77 : (upd (upd (upd (upd H1 l5 (.lst [.str (Txt.upper w0), .str (Txt.upper w0 ++ Str.ofString (toString ((nf : Nat) : Int))), .str (Txt.upper w0 ++ Str.ofString (toString ((nf + 1 : Nat) : Int)))])) l6 (.lst [.ref D, .ref l5])) l7 (.lst [.str "U1", .str "U2", .str "U"])) l6 (.lst ([.ref D, .ref l5] ++ [.ref l7]))) l7 = some (.lst [.str "U1", .str "U2", .str "U"]) := upd_at upd_same n67.symm
      have l67 : (upd (upd (upd (upd H1 l5 (.lst [.str (Txt.upper w0), .str (Txt.upper w0 ++ Str.ofString (toString ((nf : Nat) : Int))), .str (Txt.upper w0 ++ Str.ofString (toString ((nf + 1 : Nat) : Int)))])) l6 (.lst [.ref D, .ref l5])) l7 (.lst [.str "U1", .str "U2", .str "U"])) l6 (.lst ([.ref D, .ref l5] ++ [.ref l7]))) l6 = some (.lst ([.ref D, .ref l5] ++ [.ref l7])) := upd_same
      generalize upd (upd (upd (upd H1 l5 (.lst [.str (Txt.upper w0), .str (Txt.upper w0 ++ Str.ofString (toString ((nf : Nat) : Int))), .str (Txt.upper w0 ++ Str.ofString (toString ((nf + 1 : Nat) : Int)))])) l6 (.lst [.ref D, .ref l5])) l7 (.lst [.str "U1", .str "U2", .str "U"])) l6 (.lst ([.ref D, .ref l5] ++ [.ref l7])) = G at *
      refine ⟨_, rfl, (by show 6 ≤ sizeLine; decide), fun l8 hl8 => ⟨_, rfl, z, 6, 4, rfl, by decide, by decide, fun r hr0 hr1 => ?_⟩⟩
      have s8 := same_new (o := .lst [.int 0, .int 0, .int 1, .int 1, .int 1, .int 2]) hl8
      have key : ∀ m : Int, (m = 0 ∨ m = 1 ∨ m = 2) → rIxL K (.ref l6) (.int m) (upd G l8 (.lst [.int 0, .int 0, .int 1, .int 1, .int 1, .int 2])) Q := fun m hm => by
        have nu := num_ok u0 l0 (n := nf) (by omega)
        have nv := num_ok u0 l0 (n := nf + 1) (by omega)
        rcases hm with rfl | rfl | rfl
        · exact ⟨l6, _, 0, .ref D, rfl, rfl, SqL.of (s8 _ _ l67), rfl, q _ _ _ _ _ (h6.trans s8) (s8 _ _ D7) u0 u1 u2⟩
        · exact ⟨l6, _, 1, .ref l5, rfl, rfl, SqL.of (s8 _ _ l67), rfl, q _ _ _ _ _ (h6.trans s8) (s8 _ _ l57) u0 nu nv⟩
        · exact ⟨l6, _, 2, .ref l7, rfl, rfl, SqL.of (s8 _ _ l67), rfl, q _ _ _ _ _ (h6.trans s8) (s8 _ _ l77) u_ok.1 u_ok.2.1 u_ok.2.2⟩
      have hr6 : r = 0 ∨ r = 1 ∨ r = 2 ∨ r = 3 ∨ r = 4 ∨ r = 5 := by omega
      rcases hr6 with rfl | rfl | rfl | rfl | rfl | rfl
      · exact ⟨l8, _, 0, .int 0, rfl, rfl, SqL.of upd_same, rfl, key 0 (by omega)⟩
      · exact ⟨l8, _, 1, .int 0, rfl, rfl, SqL.of upd_same, rfl, key 0 (by omega)⟩
      · exact ⟨l8, _, 2, .int 1, rfl, rfl, SqL.of upd_same, rfl, key 1 (by omega)⟩
      · exact ⟨l8, _, 3, .int 1, rfl, rfl, SqL.of upd_same, rfl, key 1 (by omega)⟩
      · exact ⟨l8, _, 4, .int 1, rfl, rfl, SqL.of upd_same, rfl, key 1 (by omega)⟩
      · exact ⟨l8, _, 5, .int 2, rfl, rfl, SqL.of upd_same, rfl, key 2 (by omega)⟩
end
end Gt
set_option Elab.async false
set_option linter.all false
set_option maxRecDepth 100000
set_option maxHeartbeats 4000000
/-! The law's things and goals. -/
namespace Gt
open PySem L2 RZ
def three3 (n0 n1 n2 : Str) : List V := [.str n0, .str n1, .str n2]
def spThing (K : PySem.W.Frag) : Sp := fun vs H Q _ => ∃ z ln lw often deep w0 w1 w2 w3 w4 n0 n1 n2, vs = [.int z, .ref ln, .ref lw, .int often, .bl deep] ∧ SqL K H ln (three3 n0 n1 n2) ∧ SqL K H lw (five w0 w1 w2 w3 w4) ∧
  ∀ H' v t, Same H H' → Tr K H' v t → PT 2 [n0, n1, n2] 0 t → Q v H'
theorem pt_any {nb : List Str} {x : Str} (h : x ∈ nb) : PT 1 nb 0 (.any x) := ⟨by simp [Tm.dep], trivial, fun y hy => by
  simp only [Tm.vars, List.mem_singleton] at hy
  rw [hy]
  exact Un_mem.mpr (.inl h)⟩
theorem pt_con {nb : List Str} {s : Str} : PT 1 nb 0 (.app s []) := ⟨by simp [Tm.dep, Tm.depL], ⟨by simp, trivial⟩, fun y hy => by simp [Tm.vars, Tm.varsL] at hy⟩
theorem pt_num {nb : List Str} {n : Int} : PT 1 nb 0 (.num n) := ⟨by simp [Tm.dep], trivial, fun y hy => by simp [Tm.vars] at hy⟩
theorem pt_app {nb : List Str} {s : Str} {ks : List Tm} (hl : ks.length ≤ 2) (h : ∀ k ∈ ks, PT 1 nb 0 k) : PT 2 nb 0 (.app s ks) := by
  refine ⟨?_, ⟨hl, ArL_iff.mpr fun k hk => (h k hk).ar⟩, fun x hx => ?_⟩
  · rw [Tm.dep]
    have := depL_le.mpr fun k hk => (h k hk).dep
    omega
  · rw [Tm.vars] at hx
    obtain ⟨k, hk, hx⟩ := varsL_mem.mp hx
    exact (h k hk).nm x hx
section
variable {P : Program} {w : World} {K : PySem.W.Frag} {mg : Str → Option Value} {base : Heap} {CX : CXT}
theorem three_at {n0 n1 n2 : Str} {r : Int} (h0 : 0 ≤ r) (h1 : r < 3) : ∃ x, x ∈ [n0, n1, n2] ∧ atI (three3 n0 n1 n2) r = some (.str x) := by
  have : r = 0 ∨ r = 1 ∨ r = 2 := by omega
  rcases this with rfl | rfl | rfl
  · exact ⟨n0, by simp, rfl⟩
  · exact ⟨n1, by simp, rfl⟩
  · exact ⟨n2, by simp, rfl⟩
theorem two_at {a b : V} {r : Int} (h0 : 0 ≤ r) (h1 : r < 2) : (r = 0 ∧ atI [a, b] r = some a) ∨ (r = 1 ∧ atI [a, b] r = some b) := by
  have : r = 0 ∨ r = 1 := by omega
  rcases this with rfl | rfl
  · exact .inl ⟨rfl, rfl⟩
  · exact .inr ⟨rfl, rfl⟩
theorem pick2_at {x y : V} {r : Int} (h0 : 0 ≤ r) (h1 : r < 2) : ∃ v, (v = x ∨ v = y) ∧ atI [x, y] r = some v := by
  rcases two_at (a := x) (b := y) h0 h1 with ⟨_, h⟩ | ⟨_, h⟩
  · exact ⟨x, .inl rfl, h⟩
  · exact ⟨y, .inr rfl, h⟩
theorem pick3_at {x y z : V} {r : Int} (h0 : 0 ≤ r) (h1 : r < 3) : ∃ v, (v = x ∨ v = y ∨ v = z) ∧ atI [x, y, z] r = some v := by
  have : r = 0 ∨ r = 1 ∨ r = 2 := by omega
  rcases this with rfl | rfl | rfl
  · exact ⟨x, .inl rfl, rfl⟩
  · exact ⟨y, .inr (.inl rfl), rfl⟩
  · exact ⟨z, .inr (.inr rfl), rfl⟩
theorem ok_law_thing (T : Txt K mg) : FnOk P w K mg base CX0 2 T.d_law_thing.f T.d_law_thing.fd ["_law_cell", "_law_names_here", "_law_words_here", "_law_often", "_law_deep"] (spThing K) := by
  have G_law_pick : FnOk P w K mg base CX0 1 T.d_law_pick.f T.d_law_pick.fd ["_law_cell", "_law_k", "_law_many"] spPick := ok_law_pick T
  refine T.d_law_thing.F.ok sc_law_thing (fun vs H Q E h => ?_) (fun cdv A outer s H vs Q E hr h => ?_)
  · obtain ⟨z, ln, lw, often, deep, w0, w1, w2, w3, w4, n0, n1, n2, rfl, _⟩ := h
    rfl
  · obtain ⟨z, ln, lw, often, deep, w0, w1, w2, w3, w4, n0, n1, n2, rfl, hn, hw, q⟩ := h
    refine ⟨_, (pss_cons (ps_set (i := 5) sc_law_thing.nd rfl (Or.inl rfl) (pe_call G_law_pick (hr.mono (by omega)) rfl T.d_law_pick.m T.d_law_pick.k T.d_law_pick.b .nil pass0 (pa_cons (pv 0) (pa_cons pe_int (pa_cons pe_int pa_nil)))))
          (pss_cons (ps_set (i := 6) sc_law_thing.nd rfl (Or.inl rfl) (pe_tup (pa_cons pe_str (pa_cons (pe_ix ix_list (pv 1) (pe_call G_law_pick (hr.mono (by omega)) rfl T.d_law_pick.m T.d_law_pick.k T.d_law_pick.b .nil pass0 (pa_cons (pv 0) (pa_cons pe_int (pa_cons pe_int pa_nil)))) (fun _ _ => rfl)) pa_nil))))
          (pss_cons (ps_if (pt_cmpR op_lt (pv 5) (pv 3) (nomark _)) (pss_one (ps_ret (pv 6))) pss_nil)
          (pss_cons (ps_set (i := 7) sc_law_thing.nd rfl (Or.inl rfl) (pe_lst (pa_cons (pe_tup (pa_cons pe_str (pa_cons (pe_ix ix_list (pv 2) pe_int (fun _ _ => rfl)) (pa_cons (pe_tup pa_nil) pa_nil)))) (pa_cons (pe_tup (pa_cons pe_str (pa_cons (pe_ix ix_list (pv 2) pe_int (fun _ _ => rfl)) (pa_cons (pe_tup pa_nil) pa_nil)))) pa_nil))))
          (pss_cons (ps_expr (pe_bm PySem.F.plainAttrs_list PySem.F.slot_list_append PySem.F.type_list_append mt_append (pv 7) (pa_cons (pe_tup (pa_cons pe_str (pa_cons (pe_ix ix_list (pe_lst (pa_cons (pe_call G_law_pick (hr.mono (by omega)) rfl T.d_law_pick.m T.d_law_pick.k T.d_law_pick.b .nil pass0 (pa_cons (pv 0) (pa_cons pe_int (pa_cons pe_int pa_nil)))) (pa_cons (pe_call G_law_pick (hr.mono (by omega)) rfl T.d_law_pick.m T.d_law_pick.k T.d_law_pick.b .nil pass0 (pa_cons (pv 0) (pa_cons pe_int (pa_cons (pe_op op_pow pe_int pe_int) pa_nil)))) pa_nil))) (pe_call G_law_pick (hr.mono (by omega)) rfl T.d_law_pick.m T.d_law_pick.k T.d_law_pick.b .nil pass0 (pa_cons (pv 0) (pa_cons pe_int (pa_cons pe_int pa_nil)))) (fun _ _ => rfl)) pa_nil))) pa_nil)))
          (pss_cons (ps_set (i := 8) sc_law_thing.nd rfl (Or.inl rfl) (pe_ix ix_list (pv 7) (pe_call G_law_pick (hr.mono (by omega)) rfl T.d_law_pick.m T.d_law_pick.k T.d_law_pick.b .nil pass0 (pa_cons (pv 0) (pa_cons pe_int (pa_cons pe_int pa_nil)))) (fun _ _ => rfl)))
          (pss_cons (ps_if (PW.pt (pw_and (pt_cmpR op_eq (pv 5) pe_int (nomark _)) (pw_and1 (pt_val (pv 4))))) (pss_cons (ps_if (pt_cmpR op_eq (pe_call G_law_pick (hr.mono (by omega)) rfl T.d_law_pick.m T.d_law_pick.k T.d_law_pick.b .nil pass0 (pa_cons (pv 0) (pa_cons pe_int (pa_cons pe_int pa_nil)))) pe_int (nomark _)) (pss_one (ps_ret (pe_tup (pa_cons pe_str (pa_cons pe_str (pa_cons (pe_tup (pa_cons (pv 8) (pa_cons (pv 6) pa_nil))) pa_nil)))))) pss_nil)
          (pss_one (ps_ret (pe_tup (pa_cons pe_str (pa_cons (pe_ix ix_list (pv 2) pe_int (fun _ _ => rfl)) (pa_cons (pe_tup (pa_cons (pe_ix ix_list (pe_lst (pa_cons (pv 8) (pa_cons (pv 6) pa_nil))) (pe_call G_law_pick (hr.mono (by omega)) rfl T.d_law_pick.m T.d_law_pick.k T.d_law_pick.b .nil pass0 (pa_cons (pv 0) (pa_cons pe_int (pa_cons pe_int pa_nil)))) (fun _ _ => rfl)) pa_nil)) pa_nil))))))) pss_nil)
          (pss_one (ps_ret (pv 8)))))))))), ?_⟩
    refine ⟨_, rfl, z, 8, 0, rfl, by decide, by decide, fun kd k0 k1 => ?_⟩
    refine ⟨_, rfl, _, rfl, z, 3, 1, rfl, by decide, by decide, fun r0 r00 r01 => ?_⟩
    obtain ⟨x, hx, ex⟩ := three_at (n0 := n0) (n1 := n1) (n2 := n2) r00 r01
    refine ⟨ln, _, r0, .str x, rfl, rfl, hn, ex, (by show 2 ≤ sizeLine; decide), fun t1 ht1 => ?_⟩
    have s1 := same_new (o := .tup [.str "any", .str x]) ht1
    have tx : Tr K (upd H t1 (.tup [.str "any", .str x])) (.ref t1) (.any x) := Tr.mk_any upd_same
    have px := pt_any hx
    generalize upd H t1 (.tup [.str "any", .str x]) = G1 at *
    have up2 : ∀ {t : Tm}, PT 1 [n0, n1, n2] 0 t → PT 2 [n0, n1, n2] 0 t := fun h => h.mono (by decide) (Nat.le_refl _)
    refine ⟨_, rfl, _, rfl, _, _, rfl, rfl, _, rfl, ?_⟩
    refine ite2 (fun _ => ⟨_, rfl, q _ _ _ s1 tx (up2 px)⟩) (fun _ => ?_)
    -- two constants
    have hw1 := s1.seq hw
    refine ⟨_, rfl, lw, _, 3, .str w3, rfl, rfl, hw1, rfl, Nat.zero_le _, fun c1 hc1 => ⟨(by show 3 ≤ sizeLine; decide), fun c2 hc2 => ?_⟩⟩
    have e1 := same_new (o := .tup []) hc1
    have e2 := same_new (o := .tup [.str "app", .str w3, .ref c1]) hc2
    have s2 := e1.trans e2
    refine ⟨_, rfl, lw, _, 4, .str w4, rfl, rfl, s2.seq hw1, rfl, Nat.zero_le _, fun c3 hc3 => ⟨(by show 3 ≤ sizeLine; decide), fun c4 hc4 => ⟨(by show 2 ≤ sizeLine; decide), fun l5 hl5 => ?_⟩⟩⟩
    have e3 := same_new (o := .tup []) hc3
    have e4 := same_new (o := .tup [.str "app", .str w4, .ref c3]) hc4
    have e5 := same_new (o := .lst [.ref c2, .ref c4]) hl5
    have s5 := s2.trans (e3.trans (e4.trans e5))
    have t2 : Tr K (upd (upd (upd (upd (upd G1 c1 (.tup [])) c2 (.tup [.str "app", .str w3, .ref c1])) c3 (.tup [])) c4 (.tup [.str "app", .str w4, .ref c3])) l5 (.lst [.ref c2, .ref c4])) (.ref c2) (.app w3 []) :=
      ⟨c2, c1, [], rfl, SqT.of ((e3.trans (e4.trans e5)) _ _ upd_same), SqT.of ((e2.trans (e3.trans (e4.trans e5))) _ _ upd_same), trivial⟩
    have t4 : Tr K (upd (upd (upd (upd (upd G1 c1 (.tup [])) c2 (.tup [.str "app", .str w3, .ref c1])) c3 (.tup [])) c4 (.tup [.str "app", .str w4, .ref c3])) l5 (.lst [.ref c2, .ref c4])) (.ref c4) (.app w4 []) :=
      ⟨c4, c3, [], rfl, SqT.of (e5 _ _ upd_same), SqT.of ((e4.trans e5) _ _ upd_same), trivial⟩
    have h5 : upd (upd (upd (upd (upd G1 c1 (.tup [])) c2 (.tup [.str "app", .str w3, .ref c1])) c3 (.tup [])) c4 (.tup [.str "app", .str w4, .ref c3])) l5 (.lst [.ref c2, .ref c4]) l5 = some (.lst [.ref c2, .ref c4]) := upd_same
    have nl5 : Same G1 (upd (upd (upd (upd G1 c1 (.tup [])) c2 (.tup [.str "app", .str w3, .ref c1])) c3 (.tup [])) c4 (.tup [.str "app", .str w4, .ref c3])) := s2.trans (e3.trans e4)
    have l5G : G1 l5 = none := nl5.free hl5
    have tx5 := tx.same s5
    have hw5 := s5.seq hw1
    have sH5 := s1.trans s5
    have l5H : H l5 = none := s1.free l5G
    generalize upd (upd (upd (upd (upd G1 c1 (.tup [])) c2 (.tup [.str "app", .str w3, .ref c1])) c3 (.tup [])) c4 (.tup [.str "app", .str w4, .ref c3])) l5 (.lst [.ref c2, .ref c4]) = G5 at *
    -- the number
    refine ⟨_, rfl, .inl ⟨rfl, _, SqL.of h5⟩, ?_⟩
    refine ⟨_, rfl, z, 3, 2, rfl, by decide, by decide, fun ra ra0 ra1 => ?_⟩
    refine ⟨_, rfl, _, _, rfl, rfl, (by unfold CPow; exact ⟨by decide, by decide, by decide⟩), z, (10 : Int) ^ (30 : Int).toNat, 8, rfl, by decide, by decide, fun rb rb0 rb1 => ?_⟩
    refine ⟨(by show 2 ≤ sizeLine; decide), fun l6 hl6 => ?_⟩
    have s6 := same_new (o := .lst [.int ra, .int rb]) hl6
    refine ⟨_, rfl, z, 2, 3, rfl, by decide, by decide, fun rc rc0 rc1 => ?_⟩
    obtain ⟨vn, hvn, evn⟩ := pick2_at (x := .int ra) (y := .int rb) rc0 rc1
    obtain ⟨nn, rfl⟩ : ∃ n : Int, vn = .int n := by rcases hvn with rfl | rfl <;> exact ⟨_, rfl⟩
    refine ⟨l6, _, rc, _, rfl, rfl, SqL.of upd_same, evn, (by show 2 ≤ sizeLine; decide), fun t7 ht7 => ?_⟩
    have s7 := same_new (o := .tup [.str "num", .int nn]) ht7
    have n57 : l5 ≠ t7 := ne_of_none (s6 _ _ h5) ht7
    have h57 := s7 _ _ (s6 _ _ h5)
    refine ⟨l5, _, _, rfl, rfl, h57, (by show 2 < sizeLine; decide), ?_⟩
    have t7t : Tr K (upd (upd G5 l6 (.lst [.int ra, .int rb])) t7 (.tup [.str "num", .int nn])) (.ref t7) (.num nn) := Tr.mk_num upd_same
    have sT8 : SameT (upd (upd G5 l6 (.lst [.int ra, .int rb])) t7 (.tup [.str "num", .int nn])) (upd (upd (upd G5 l6 (.lst [.int ra, .int rb])) t7 (.tup [.str "num", .int nn])) l5 (.lst ([.ref c2, .ref c4] ++ [.ref t7]))) := samT_lst h57
    have sT58 := (same_t (s6.trans s7)).trans sT8
    have T2 := t2.samT sT58
    have T4 := t4.samT sT58
    have T7 := t7t.samT sT8
    have TX := tx5.samT sT58
    have S8 : Same H (upd (upd (upd G5 l6 (.lst [.int ra, .int rb])) t7 (.tup [.str "num", .int nn])) l5 (.lst ([.ref c2, .ref c4] ++ [.ref t7]))) := same_upd (sH5.trans (s6.trans s7)) l5H
    have h8 : upd (upd (upd G5 l6 (.lst [.int ra, .int rb])) t7 (.tup [.str "num", .int nn])) l5 (.lst ([.ref c2, .ref c4] ++ [.ref t7])) l5 = some (.lst ([.ref c2, .ref c4] ++ [.ref t7])) := upd_same
    have hw8 := S8.seq hw
    generalize upd (upd (upd G5 l6 (.lst [.int ra, .int rb])) t7 (.tup [.str "num", .int nn])) l5 (.lst ([.ref c2, .ref c4] ++ [.ref t7])) = G8 at *
    refine ⟨_, rfl, _, rfl, z, 3, 4, rfl, by decide, by decide, fun rd' rd0 rd1 => ?_⟩
    obtain ⟨vt, hvt, evt⟩ := pick3_at (x := .ref c2) (y := .ref c4) (z := .ref t7) rd0 rd1
    have ht : ∃ t, Tr K G8 vt t ∧ PT 1 [n0, n1, n2] 0 t := by
      rcases hvt with rfl | rfl | rfl
      · exact ⟨_, T2, pt_con⟩
      · exact ⟨_, T4, pt_con⟩
      · exact ⟨_, T7, pt_num⟩
    obtain ⟨tt, Tt, pt⟩ := ht
    refine ⟨l5, _, rd', vt, rfl, rfl, SqL.of h8, evt, ?_⟩
    refine ⟨_, rfl, rfl, _, rfl, ?_⟩
    refine ite2 (fun _ => ⟨_, rfl, _, rfl, ?_⟩) (fun _ => iteF ⟨_, rfl, q _ _ _ S8 Tt (up2 pt)⟩)
    cases deep with
    | false => exact iteF ⟨_, rfl, q _ _ _ S8 Tt (up2 pt)⟩
    | true =>
      refine iteT ⟨_, rfl, z, 2, 5, rfl, by decide, by decide, fun re re0 re1 => ⟨rfl, _, rfl, ?_⟩⟩
      refine ite2 (fun _ => ?_) (fun _ => ?_)
      · refine ⟨_, rfl, _, rfl, (by show 2 ≤ sizeLine; decide), fun a1 ha1 => ⟨(by show 3 ≤ sizeLine; decide), fun a2 ha2 => ?_⟩⟩
        have y1 := same_new (o := .tup [vt, .ref t1]) ha1
        have y2 := same_new (o := .tup [.str "app", .str "[|]", .ref a1]) ha2
        refine q _ _ (.app "[|]" [tt, .any x]) (S8.trans (y1.trans y2)) (Tr.mk_app upd_same (SqT.of (y2 _ _ upd_same)) ⟨Tt.same (y1.trans y2), TX.same (y1.trans y2), trivial⟩) (pt_app (by simp) fun k hk => ?_)
        rcases List.mem_cons.mp hk with rfl | hk
        · exact pt
        · rw [List.mem_singleton.mp hk]; exact px
      · refine ⟨_, rfl, lw, _, 4, .str w4, rfl, rfl, hw8, rfl, _, rfl, _, rfl, (by show 2 ≤ sizeLine; decide), fun a0 ha0 => ?_⟩
        have y0 := same_new (o := .lst [vt, .ref t1]) ha0
        refine ⟨_, rfl, z, 2, 6, rfl, by decide, by decide, fun rf rf0 rf1 => ?_⟩
        obtain ⟨vu, hvu, evu⟩ := pick2_at (x := vt) (y := .ref t1) rf0 rf1
        have hu : ∃ t, Tr K G8 vu t ∧ PT 1 [n0, n1, n2] 0 t := by
          rcases hvu with rfl | rfl
          · exact ⟨_, Tt, pt⟩
          · exact ⟨_, TX, px⟩
        obtain ⟨uu, Tu, pu⟩ := hu
        refine ⟨a0, _, rf, vu, rfl, rfl, SqL.of upd_same, evu, (by show 1 ≤ sizeLine; decide), fun a1 ha1 => ⟨(by show 3 ≤ sizeLine; decide), fun a2 ha2 => ?_⟩⟩
        have y1 := same_new (o := .tup [vu]) ha1
        have y2 := same_new (o := .tup [.str "app", .str w4, .ref a1]) ha2
        refine q _ _ (.app w4 [uu]) (S8.trans (y0.trans (y1.trans y2))) (Tr.mk_app upd_same (SqT.of (y2 _ _ upd_same)) ⟨Tu.same (y0.trans (y1.trans y2)), trivial⟩) (pt_app (by simp) fun k hk => ?_)
        rw [List.mem_singleton.mp hk]
        exact pu
end
end Gt
set_option Elab.async false
set_option linter.all false
set_option maxRecDepth 100000
set_option maxHeartbeats 4000000
/-! The law's goals. -/
namespace Gt
open PySem L2 RZ
structure Ws (w0 w1 w2 : Str) : Prop where
  word : ∀ s ∈ [w0, w1, w2], s ≠ "keep" ∧ s ≠ "=" ∧ s ≠ "not" ∧ s ≠ ":=" ∧ s ≠ "<" ∧ s ≠ "<="
  w10 : w1 ≠ w0
  w02 : w2 ≠ w0
  w12 : w2 ≠ w1
/-- a goal of any rules -/
def GOk (w0 w1 w2 : Str) (nb : List Str) (level : Int) (t : Tm) : Prop := ∀ R : List Rule, GoalOk ⟨w0, w1, w2, nb, R⟩ 0 t ∧ cost ⟨w0, w1, w2, nb, R⟩ t ≤ if level = 0 then 3 else 1
def spGoal (K : PySem.W.Frag) : Sp := fun vs H Q _ => ∃ z ln lw level w0 w1 w2 w3 w4 n0 n1 n2, vs = [.int z, .ref ln, .ref lw, .int level] ∧ SqL K H ln (three3 n0 n1 n2) ∧ SqL K H lw (five w0 w1 w2 w3 w4) ∧ Ws w0 w1 w2 ∧
  ∀ H' v t, Same H H' → Tr K H' v t → GOk w0 w1 w2 [n0, n1, n2] level t → Q v H'
theorem goal_other {w0 w1 w2 : Str} {nb : List Str} {level : Int} {t : Tm} (h : ∀ R : List Rule, GoalOk ⟨w0, w1, w2, nb, R⟩ 0 t) (a : sgn t ≠ w0) (b : sgn t ≠ w1) : GOk w0 w1 w2 nb level t := fun R => ⟨h R, by
  have e : cost ⟨w0, w1, w2, nb, R⟩ t = 1 := by unfold cost; rw [if_neg a, if_neg b]
  rw [e]; split <;> omega⟩
section
variable {P : Program} {w : World} {K : PySem.W.Frag} {mg : Str → Option Value} {base : Heap} {CX : CXT}
theorem two_mem {α : Type} {P : α → Prop} {a b : α} (ha : P a) (hb : P b) : ∀ k ∈ [a, b], P k := fun k hk => by
  rcases List.mem_cons.mp hk with rfl | hk
  · exact ha
  · rw [List.mem_singleton.mp hk]; exact hb
theorem one_mem {α : Type} {P : α → Prop} {a : α} (ha : P a) : ∀ k ∈ [a], P k := fun k hk => by rw [List.mem_singleton.mp hk]; exact ha
theorem ok_law_goal (T : Txt K mg) : FnOk P w K mg base CX0 3 T.d_law_goal.f T.d_law_goal.fd ["_law_cell", "_law_names_here", "_law_words_here", "_law_level"] (spGoal K) := by
  have G_law_pick : FnOk P w K mg base CX0 1 T.d_law_pick.f T.d_law_pick.fd ["_law_cell", "_law_k", "_law_many"] spPick := ok_law_pick T
  have G_law_thing := ok_law_thing (P := P) (w := w) (base := base) T
  refine T.d_law_goal.F.ok sc_law_goal (fun vs H Q E h => ?_) (fun cdv A outer s H vs Q E hr h => ?_)
  · obtain ⟨z, ln, lw, level, w0, w1, w2, w3, w4, n0, n1, n2, rfl, _⟩ := h
    rfl
  · obtain ⟨z, ln, lw, level, w0, w1, w2, w3, w4, n0, n1, n2, rfl, hn, hw, ws, q⟩ := h
    have kd := ws.word
    have no0 : ∀ {s : Str}, (s = "keep" ∨ s = "=" ∨ s = "not") → s ≠ w0 ∧ s ≠ w1 := fun {s} hs => by
      have a := ws.word w0 (by simp)
      have b := ws.word w1 (by simp)
      rcases hs with rfl | rfl | rfl
      · exact ⟨a.1.symm, b.1.symm⟩
      · exact ⟨a.2.1.symm, b.2.1.symm⟩
      · exact ⟨a.2.2.1.symm, b.2.2.1.symm⟩
    refine ⟨_, (pss_cons (ps_set (i := 4) sc_law_goal.nd rfl (Or.inl rfl) (pe_call G_law_thing (hr.mono (by omega)) rfl T.d_law_thing.m T.d_law_thing.k T.d_law_thing.b .nil pass0 (pa_cons (pe_op op_fdivW (pv 0) (pe_op op_pow pe_int pe_int)) (pa_cons (pv 1) (pa_cons (pv 2) (pa_cons pe_int (pa_cons pe_bl pa_nil)))))))
          (pss_cons (ps_set (i := 5) sc_law_goal.nd rfl (Or.inl rfl) (pe_call G_law_thing (hr.mono (by omega)) rfl T.d_law_thing.m T.d_law_thing.k T.d_law_thing.b .nil pass0 (pa_cons (pe_op op_fdivW (pv 0) (pe_op op_pow pe_int pe_int)) (pa_cons (pv 1) (pa_cons (pv 2) (pa_cons pe_int (pa_cons pe_bl pa_nil)))))))
          (pss_cons (ps_set (i := 6) sc_law_goal.nd rfl (Or.inl rfl) (pe_call G_law_pick (hr.mono (by omega)) rfl T.d_law_pick.m T.d_law_pick.k T.d_law_pick.b .nil pass0 (pa_cons (pv 0) (pa_cons pe_int (pa_cons pe_int pa_nil)))))
          (pss_cons (ps_if (pt_cmpR op_lt (pv 6) pe_int (nomark _)) (pss_one (ps_ret (pe_tup (pa_cons pe_str (pa_cons pe_str (pa_cons (pe_tup pa_nil) pa_nil)))))) pss_nil)
          (pss_cons (ps_if (pt_cmpR op_eq (pv 6) pe_int (nomark _)) (pss_one (ps_ret (pe_tup (pa_cons pe_str (pa_cons pe_str (pa_cons (pe_tup (pa_cons (pv 4) (pa_cons (pv 5) pa_nil))) pa_nil)))))) pss_nil)
          (pss_cons (ps_if (pt_cmpR op_lt (pv 6) pe_int (nomark _)) (pss_one (ps_ret (pe_tup (pa_cons pe_str (pa_cons pe_str (pa_cons (pe_tup (pa_cons (pe_tup (pa_cons pe_str (pa_cons (pe_ix ix_list (pv 2) pe_int (fun _ _ => rfl)) (pa_cons (pe_tup (pa_cons (pe_tup (pa_cons pe_str (pa_cons (pe_ix ix_list (pv 2) (pe_op op_add pe_int (pe_call G_law_pick (hr.mono (by omega)) rfl T.d_law_pick.m T.d_law_pick.k T.d_law_pick.b .nil pass0 (pa_cons (pv 0) (pa_cons pe_int (pa_cons pe_int pa_nil))))) (fun _ _ => rfl)) (pa_cons (pe_tup pa_nil) pa_nil)))) pa_nil)) pa_nil)))) pa_nil)) pa_nil)))))) pss_nil)
          (pss_cons (ps_if (PW.pt (pw_and (pt_cmpR op_eq (pv 3) pe_int (nomark _)) (pw_and1 (pt_cmpR op_lt (pv 6) pe_int (nomark _))))) (pss_one (ps_ret (pe_tup (pa_cons pe_str (pa_cons (pe_ix ix_list (pv 2) pe_int (fun _ _ => rfl)) (pa_cons (pe_tup (pa_cons (pv 4) (pa_cons (pv 5) pa_nil))) pa_nil)))))) pss_nil)
          (pss_one (ps_ret (pe_tup (pa_cons pe_str (pa_cons (pe_ix ix_list (pv 2) pe_int (fun _ _ => rfl)) (pa_cons (pe_tup (pa_cons (pv 4) pa_nil)) pa_nil))))))))))))), ?_⟩
    refine ⟨_, rfl, _, _, rfl, rfl, (by unfold CPow; exact ⟨by decide, by decide, by decide⟩), _, _, rfl, rfl, wide_div (b := 100) (by decide +kernel) (by decide +kernel) (by decide) (by decide), _, rfl, _, rfl, _, ln, lw, 6, false, w0, w1, w2, w3, w4, n0, n1, n2, rfl, hn, hw, fun G1 v1 t1 s1 T1 p1 => ?_⟩
    refine ⟨_, rfl, _, _, rfl, rfl, (by unfold CPow; exact ⟨by decide, by decide, by decide⟩), _, _, rfl, rfl, wide_div (b := 200) (by decide +kernel) (by decide +kernel) (by decide) (by decide), _, rfl, _, rfl, _, ln, lw, 6, true, w0, w1, w2, w3, w4, n0, n1, n2, rfl, s1.seq hn, s1.seq hw, fun G2 v2 t2 s2 T2 p2 => ?_⟩
    have s12 := s1.trans s2
    have T1 := T1.same s2
    have hw := s12.seq hw
    refine ⟨_, rfl, z, 12, 0, rfl, by decide, by decide, fun kd k0 k1 => ?_⟩
    refine ⟨_, rfl, _, _, rfl, rfl, _, rfl, ite2 (fun _ => ?_) (fun _ => ?_)⟩
    · refine ⟨Nat.zero_le _, fun a1 ha1 => ⟨(by show 3 ≤ sizeLine; decide), fun a2 ha2 => ?_⟩⟩
      have y1 := same_new (o := .tup []) ha1
      have y2 := same_new (o := .tup [.str "app", .str "keep", .ref a1]) ha2
      exact q _ _ (.app "keep" []) (s12.trans (y1.trans y2)) (Tr.mk_app upd_same (SqT.of (y2 _ _ upd_same)) trivial) (goal_other (fun R => .keep) (no0 (.inl rfl)).1 (no0 (.inl rfl)).2)
    refine ⟨_, rfl, rfl, _, rfl, ite2 (fun _ => ?_) (fun _ => ?_)⟩
    · refine ⟨_, rfl, _, rfl, (by show 2 ≤ sizeLine; decide), fun a1 ha1 => ⟨(by show 3 ≤ sizeLine; decide), fun a2 ha2 => ?_⟩⟩
      have y1 := same_new (o := .tup [v1, v2]) ha1
      have y2 := same_new (o := .tup [.str "app", .str "=", .ref a1]) ha2
      exact q _ _ (.app "=" [t1, t2]) (s12.trans (y1.trans y2)) (Tr.mk_app upd_same (SqT.of (y2 _ _ upd_same)) ⟨T1.same (y1.trans y2), T2.same (y1.trans y2), trivial⟩) (goal_other (fun R => .eq p1 p2) (no0 (.inr (.inl rfl))).1 (no0 (.inr (.inl rfl))).2)
    refine ⟨_, rfl, _, _, rfl, rfl, _, rfl, ite2 (fun _ => ?_) (fun _ => ?_)⟩
    · refine ⟨_, rfl, lw, _, 2, .str w2, rfl, rfl, hw, rfl, _, rfl, _, rfl, z, 2, 1, rfl, by decide, by decide, fun r r0 r1 => ?_⟩
      have ev : ∃ k : Str, atI (five w0 w1 w2 w3 w4) (3 + r) = some (.str k) := by
        have : r = 0 ∨ r = 1 := by omega
        rcases this with rfl | rfl
        · exact ⟨w3, rfl⟩
        · exact ⟨w4, rfl⟩
      obtain ⟨k, ev⟩ := ev
      refine ⟨_, _, rfl, rfl, lw, _, 3 + r, _, rfl, rfl, hw, ev, Nat.zero_le _, fun b1 hb1 => ⟨(by show 3 ≤ sizeLine; decide), fun b2 hb2 => ⟨(by show 1 ≤ sizeLine; decide), fun b3 hb3 => ⟨(by show 3 ≤ sizeLine; decide), fun b4 hb4 => ⟨(by show 1 ≤ sizeLine; decide), fun b5 hb5 => ⟨(by show 3 ≤ sizeLine; decide), fun b6 hb6 => ?_⟩⟩⟩⟩⟩⟩
      have y1 := same_new (o := .tup []) hb1
      have y2 := same_new (o := .tup [.str "app", .str k, .ref b1]) hb2
      have y3 := same_new (o := .tup [.ref b2]) hb3
      have y4 := same_new (o := .tup [.str "app", .str w2, .ref b3]) hb4
      have y5 := same_new (o := .tup [.ref b4]) hb5
      have y6 := same_new (o := .tup [.str "app", .str "not", .ref b5]) hb6
      refine q _ _ (.app "not" [.app w2 [.app k []]]) (s12.trans (y1.trans (y2.trans (y3.trans (y4.trans (y5.trans y6)))))) ?_ (goal_other (fun R => .no) (no0 (.inr (.inr rfl))).1 (no0 (.inr (.inr rfl))).2)
      refine Tr.mk_app upd_same (SqT.of (y6 _ _ upd_same)) ⟨⟨b4, b3, [.ref b2], rfl, SqT.of ((y5.trans y6) _ _ upd_same), SqT.of ((y4.trans (y5.trans y6)) _ _ upd_same), ⟨b2, b1, [], rfl, SqT.of ((y3.trans (y4.trans (y5.trans y6))) _ _ upd_same), SqT.of ((y2.trans (y3.trans (y4.trans (y5.trans y6)))) _ _ upd_same), trivial⟩, trivial⟩, trivial⟩
    have low : ∀ {H' : Hp}, Same G2 H' → tRet (tTup (tCons (tC (V.str "app")) (tCons (tOp (rIxL K) (tVar 2) (tC (V.int 2))) (tCons (tTup (tCons (tVar 4) tNil)) tNil)))) { nx := fun _ H' => Q .non H', rt := Q } [some (.int z), some (.ref ln), some (.ref lw), some (.int level), some v1, some v2, some (.int kd)] H' := fun {H'} sH => by
      refine ⟨_, rfl, lw, _, 2, .str w2, rfl, rfl, sH.seq hw, rfl, _, rfl, (by show 1 ≤ sizeLine; decide), fun a1 ha1 => ⟨(by show 3 ≤ sizeLine; decide), fun a2 ha2 => ?_⟩⟩
      have y1 := same_new (o := .tup [v1]) ha1
      have y2 := same_new (o := .tup [.str "app", .str w2, .ref a1]) ha2
      exact q _ _ (.app w2 [t1]) (s12.trans (sH.trans (y1.trans y2))) (Tr.mk_app upd_same (SqT.of (y2 _ _ upd_same)) ⟨T1.same (sH.trans (y1.trans y2)), trivial⟩) (goal_other (fun R => .named (by simp [Cx.ws]) (by simp) (one_mem p1)) ws.w02 ws.w12)
    refine ⟨_, rfl, rfl, _, rfl, ite2 (fun hl => ?_) (fun _ => ?_)⟩
    · refine ⟨_, rfl, _, _, rfl, rfl, _, rfl, ite2 (fun _ => ?_) (fun _ => ?_)⟩
      · refine ⟨_, rfl, lw, _, 1, .str w1, rfl, rfl, hw, rfl, _, rfl, _, rfl, (by show 2 ≤ sizeLine; decide), fun a1 ha1 => ⟨(by show 3 ≤ sizeLine; decide), fun a2 ha2 => ?_⟩⟩
        have y1 := same_new (o := .tup [v1, v2]) ha1
        have y2 := same_new (o := .tup [.str "app", .str w1, .ref a1]) ha2
        refine q _ _ (.app w1 [t1, t2]) (s12.trans (y1.trans y2)) (Tr.mk_app upd_same (SqT.of (y2 _ _ upd_same)) ⟨T1.same (y1.trans y2), T2.same (y1.trans y2), trivial⟩) (fun R => ⟨.named (by simp [Cx.ws]) (by simp) (two_mem p1 p2), ?_⟩)
        have e0 : level = 0 := V.int.inj (of_decide_eq_true hl)
        rw [if_pos e0]
        unfold cost
        rw [if_neg (show sgn (.app w1 [t1, t2]) ≠ w0 from ws.w10)]
        split <;> omega
      · exact low (Same.refl _)
    · exact iteF (low (Same.refl _))
end
end Gt
set_option Elab.async false
set_option linter.all false
set_option maxRecDepth 100000
set_option maxHeartbeats 4000000
/-! The law's rules. -/
namespace Gt
open PySem L2 RZ
def ROk (w0 w1 w2 : Str) (nb : List Str) (r : Rule) : Prop := ∀ R : List Rule, RuleOk ⟨w0, w1, w2, nb, R⟩ r
def spRule (K : PySem.W.Frag) : Sp := fun vs H Q _ => ∃ a, ∃ ns : List Int, ∃ k : Nat, ∃ ln lw w0 w1 w2 w3 w4 n0 n1 n2, vs = [.ref a, .int (k : Nat), .ref ln, .ref lw] ∧ SqL K H a (ns.map V.int) ∧ ns.length ≤ 63 ∧ k ≤ 100 ∧ SqL K H ln (three3 n0 n1 n2) ∧ SqL K H lw (five w0 w1 w2 w3 w4) ∧ Ws w0 w1 w2 ∧
  ∀ H' v r, Same H H' → RuleAt K H' v r → ROk w0 w1 w2 [n0, n1, n2] r → Q v H'
def wAt (w0 w1 w2 : Str) (r : Int) : Str := if r = 0 then w0 else if r = 1 then w1 else w2
theorem wAt_mem {w0 w1 w2 : Str} {r : Int} : wAt w0 w1 w2 r ∈ [w0, w1, w2] := by unfold wAt; split <;> (try split) <;> simp
theorem wAt_at {w0 w1 w2 w3 w4 : Str} {r : Int} (h0 : 0 ≤ r) (h1 : r < 3) : atI (five w0 w1 w2 w3 w4) r = some (.str (wAt w0 w1 w2 r)) := by
  have : r = 0 ∨ r = 1 ∨ r = 2 := by omega
  rcases this with rfl | rfl | rfl <;> rfl
/-- goals of a body: few, and dear less than the head -/
theorem costL_le {c : Cx} {m : Nat} : ∀ {gs : List Tm}, (∀ g ∈ gs, cost c g ≤ m) → costL c gs ≤ m * gs.length
  | [], _ => Nat.zero_le _
  | g :: gs, h => by
    have a := h g List.mem_cons_self
    have b := costL_le (gs := gs) fun x hx => h x (List.mem_cons_of_mem _ hx)
    rw [costL, List.length_cons, Nat.mul_succ]
    omega
theorem rule_ok {w0 w1 w2 : Str} {nb : List Str} (ws : Ws w0 w1 w2) {kd : Int} (h0 : 0 ≤ kd) (h1 : kd < 3) {ks gs : List Tm} (hk : ks.length ≤ 2) (hks : ∀ k ∈ ks, PT 2 nb 0 k) (hg : ∀ g ∈ gs, GOk w0 w1 w2 nb kd g) (hl : gs.length ≤ 2) (hl0 : kd = 2 → gs.length = 0) : ROk w0 w1 w2 nb (.app (wAt w0 w1 w2 kd) ks, gs) := fun R => by
  refine ⟨⟨_, ks, rfl, wAt_mem, hk, hks⟩, fun b hb => (hg b hb R).1, ?_, hl⟩
  have hc := costL_le (c := ⟨w0, w1, w2, nb, R⟩) (gs := gs) fun g h => (hg g h R).2
  have : kd = 0 ∨ kd = 1 ∨ kd = 2 := by omega
  show costL ⟨w0, w1, w2, nb, R⟩ gs + 1 ≤ cost ⟨w0, w1, w2, nb, R⟩ (.app (wAt w0 w1 w2 kd) ks)
  rcases this with rfl | rfl | rfl
  · rw [if_pos rfl] at hc
    have e : cost ⟨w0, w1, w2, nb, R⟩ (.app (wAt w0 w1 w2 0) ks) = 7 := if_pos rfl
    rw [e]; omega
  · rw [if_neg (by decide)] at hc
    have e : cost ⟨w0, w1, w2, nb, R⟩ (.app (wAt w0 w1 w2 1) ks) = 3 := (if_neg (show w1 ≠ w0 from ws.w10)).trans (if_pos rfl)
    rw [e]; omega
  · rw [if_neg (by decide), hl0 rfl] at hc
    have := cost_pos ⟨w0, w1, w2, nb, R⟩ (.app (wAt w0 w1 w2 2) ks)
    omega
theorem many_at {r : Int} (h0 : 0 ≤ r) (h1 : r < 5) : ∃ m : Int, 0 ≤ m ∧ m ≤ 2 ∧ atI [V.int 0, .int 1, .int 1, .int 2, .int 2] r = some (.int m) := by
  have : r = 0 ∨ r = 1 ∨ r = 2 ∨ r = 3 ∨ r = 4 := by omega
  rcases this with rfl | rfl | rfl | rfl | rfl
  · exact ⟨0, by decide, by decide, rfl⟩
  · exact ⟨1, by decide, by decide, rfl⟩
  · exact ⟨1, by decide, by decide, rfl⟩
  · exact ⟨2, by decide, by decide, rfl⟩
  · exact ⟨2, by decide, by decide, rfl⟩
section
variable {P : Program} {w : World} {K : PySem.W.Frag} {mg : Str → Option Value} {base : Heap} {CX : CXT}
theorem ok_law_rule (T : Txt K mg) : FnOk P w K mg base CX0 4 T.d_law_rule.f T.d_law_rule.fd ["_law_script", "_law_k", "_law_names_here", "_law_words_here"] (spRule K) := by
  have G_law_pick : FnOk P w K mg base CX0 1 T.d_law_pick.f T.d_law_pick.fd ["_law_cell", "_law_k", "_law_many"] spPick := ok_law_pick T
  have G_law_cell_at := ok_law_cell_at (P := P) (w := w) (base := base) T
  have G_law_thing := ok_law_thing (P := P) (w := w) (base := base) T
  have G_law_goal := ok_law_goal (P := P) (w := w) (base := base) T
  refine T.d_law_rule.F.ok sc_law_rule (fun vs H Q E h => ?_) (fun cdv A outer s H vs Q E hr h => ?_)
  · obtain ⟨a, ns, k, ln, lw, w0, w1, w2, w3, w4, n0, n1, n2, rfl, _⟩ := h
    rfl
  · obtain ⟨a, ns, k, ln, lw, w0, w1, w2, w3, w4, n0, n1, n2, rfl, ha, hl, hk, hn, hw, ws, q⟩ := h
    have nat1 : ∀ b : Nat, (b : Int) + 4 * ((k : Nat) : Int) = ((b + 4 * k : Nat) : Int) := fun b => by omega
    refine ⟨_, (pss_cons (ps_set (i := 4) sc_law_rule.nd rfl (Or.inl rfl) (pe_call G_law_cell_at (hr.mono (by omega)) rfl T.d_law_cell_at.m T.d_law_cell_at.k T.d_law_cell_at.b .nil pass0 (pa_cons (pv 0) (pa_cons (pe_op op_add pe_int (pe_op op_mul pe_int (pv 1))) pa_nil))))
          (pss_cons (ps_set (i := 5) sc_law_rule.nd rfl (Or.inl rfl) (pe_call G_law_cell_at (hr.mono (by omega)) rfl T.d_law_cell_at.m T.d_law_cell_at.k T.d_law_cell_at.b .nil pass0 (pa_cons (pv 0) (pa_cons (pe_op op_add pe_int (pe_op op_mul pe_int (pv 1))) pa_nil))))
          (pss_cons (ps_set (i := 6) sc_law_rule.nd rfl (Or.inr rfl) (pe_call G_law_pick (hr.mono (by omega)) rfl T.d_law_pick.m T.d_law_pick.k T.d_law_pick.b .nil pass0 (pa_cons (pv 4) (pa_cons pe_int (pa_cons pe_int pa_nil)))))
          (pss_cons (ps_set (i := 7) sc_law_rule.nd rfl (Or.inl rfl) (pe_op op_mul (pe_ix ix_list (pe_lst (pa_cons pe_int (pa_cons pe_int (pa_cons pe_int (pa_cons pe_int (pa_cons pe_int pa_nil)))))) (pe_call G_law_pick (hr.mono (by omega)) rfl T.d_law_pick.m T.d_law_pick.k T.d_law_pick.b .nil pass0 (pa_cons (pv 4) (pa_cons pe_int (pa_cons pe_int pa_nil)))) (fun _ _ => rfl)) (pe_callTy call_int1 (by rfl) T.int (by decide +kernel) (pa_cons (pe_cmpR op_lt (pv 6) pe_int (nomark _)) pa_nil))))
          (pss_cons (ps_set (i := 8) sc_law_rule.nd rfl (Or.inl rfl) (pe_ix ix_list (pe_lst (pa_cons pe_int (pa_cons pe_int pa_nil))) (pe_callTy call_int1 (by rfl) T.int (by decide +kernel) (pa_cons (pe_cmpR op_gt (pv 7) pe_int (nomark _)) pa_nil)) (fun _ _ => rfl)))
          (pss_cons (ps_set (i := 9) sc_law_rule.nd rfl (Or.inl rfl) (pe_call G_law_thing (hr.mono (by omega)) rfl T.d_law_thing.m T.d_law_thing.k T.d_law_thing.b .nil pass0 (pa_cons (pv 5) (pa_cons (pv 2) (pa_cons (pv 3) (pa_cons (pv 8) (pa_cons pe_bl pa_nil)))))))
          (pss_cons (ps_set (i := 10) sc_law_rule.nd rfl (Or.inl rfl) (pe_call G_law_thing (hr.mono (by omega)) rfl T.d_law_thing.m T.d_law_thing.k T.d_law_thing.b .nil pass0 (pa_cons (pe_op op_fdivW (pv 5) (pe_op op_pow pe_int pe_int)) (pa_cons (pv 2) (pa_cons (pv 3) (pa_cons (pv 8) (pa_cons (pe_cmpR op_eq (pv 7) pe_int (nomark _)) pa_nil)))))))
          (pss_cons (ps_set (i := 11) sc_law_rule.nd rfl (Or.inl rfl) (pe_ix ix_list (pe_lst (pa_cons (pe_tup (pa_cons (pv 9) pa_nil)) (pa_cons (pe_tup (pa_cons (pv 9) (pa_cons (pv 10) pa_nil))) (pa_cons (pe_tup (pa_cons (pv 10) pa_nil)) pa_nil)))) (pv 6) (fun _ _ => rfl)))
          (pss_cons (ps_setLc (i := 12) (own := [("_law_j", 13)]) (g := gName 13) rfl sc_law_rule.nd rfl rfl (sw_true rfl rfl rfl (by decide +kernel)) (pi_range1 (by rfl) T.range (pa_cons (pv 7) pa_nil)) (blkOk_by (own := [("_law_j", 13)]) (N := ["_law_script", "_law_k", "_law_names_here", "_law_words_here", "_law_cell", "_law_more", "_law_kind", "_law_many", "_law_often", "_law_one_here", "_law_other", "_law_kids", "_law_goals", "_law_j"]) (sc := defScope s_law_rule) (by decide +kernel)) (fun _ _ _ _ _ => (pg_name (i := 13) sc_law_rule.nd rfl (Or.inl rfl))) (fun _ _ _ _ _ => pts_nil) (fun _ _ _ _ _ => (pe_call G_law_goal (hr.mono (by omega)) rfl T.d_law_goal.m T.d_law_goal.k T.d_law_goal.b .nil pass0 (pa_cons (pe_call G_law_cell_at (hr.mono (by omega)) rfl T.d_law_cell_at.m T.d_law_cell_at.k T.d_law_cell_at.b .nil pass0 (pa_cons (pv 0) (pa_cons (pe_op op_add (pe_op op_add pe_int (pe_op op_mul pe_int (pv 1))) (pv 13)) pa_nil))) (pa_cons (pv 2) (pa_cons (pv 3) (pa_cons (pv 6) pa_nil)))))))
          (pss_one (ps_ret (pe_tup (pa_cons (pe_tup (pa_cons pe_str (pa_cons (pe_ix ix_list (pv 3) (pv 6) (fun _ _ => rfl)) (pa_cons (pv 11) pa_nil)))) (pa_cons (pe_callTy call_tuple_of (by rfl) T.tuple (by decide +kernel) (pa_cons (pv 12) pa_nil)) pa_nil)))))))))))))), ?_⟩
    refine ⟨_, rfl, _, rfl, _, _, rfl, rfl, .inl (by decide), _, _, rfl, rfl, a, ns, 6 + 4 * k, by rw [← nat1]; rfl, ha, hl, by omega, fun cell G1 s1 => ?_⟩
    have ha1 := s1.seq ha
    refine ⟨_, rfl, _, rfl, _, _, rfl, rfl, .inl (by decide), _, _, rfl, rfl, a, ns, 7 + 4 * k, by rw [← nat1]; rfl, ha1, hl, by omega, fun more G2 s2 => ?_⟩
    have s12 := s1.trans s2
    refine ⟨_, rfl, cell, 3, 0, rfl, by decide, by decide, fun kd k0 k1 => ?_⟩
    refine ⟨(by show 5 ≤ sizeLine; decide), fun l3 hl3 => ⟨_, rfl, cell, 5, 1, rfl, by decide, by decide, fun r5 r50 r51 => ?_⟩⟩
    obtain ⟨m, m0, m2, em⟩ := many_at r50 r51
    have s3 := same_new (o := .lst [.int 0, .int 1, .int 1, .int 2, .int 2]) hl3
    refine ⟨l3, _, r5, .int m, rfl, rfl, SqL.of upd_same, em, ?_⟩
    refine ⟨_, rfl, _, _, rfl, rfl, .inr ⟨_, rfl, _, _, rfl, rfl, .inl ⟨by omega, by omega⟩, ?_⟩⟩
    have hm : ∃ many : Int, m * (if decide (kd < 2) = true then 1 else 0) = many ∧ 0 ≤ many ∧ many ≤ 2 ∧ (kd = 2 → many = 0) := by
      refine ⟨_, rfl, ?_⟩
      by_cases e : kd < 2
      · rw [if_pos (decide_eq_true e)]
        exact ⟨by omega, by omega, by omega⟩
      · rw [if_neg (by rw [decide_eq_false e]; decide)]
        exact ⟨by omega, by omega, by omega⟩
    obtain ⟨many, em, mn0, mn2, mnz⟩ := hm
    show gName 7 (V.int (m * if decide (kd < 2) = true then 1 else 0)) _ _ _
    rw [em]
    have S3 := s12.trans s3
    generalize upd G2 l3 (.lst [.int 0, .int 1, .int 1, .int 2, .int 2]) = G3 at *
    refine ⟨(by show 2 ≤ sizeLine; decide), fun l4 hl4 => ?_⟩
    have s4 := same_new (o := .lst [.int 2, .int 6]) hl4
    have hof : ∀ b : Bool, ∃ o, atI [V.int 2, .int 6] (if b = true then 1 else 0) = some (.int o) := fun b => by cases b <;> exact ⟨_, rfl⟩
    obtain ⟨o, eo⟩ := hof (decide (0 < many))
    refine ⟨_, rfl, _, _, rfl, rfl, .inr ⟨_, rfl, l4, _, _, .int o, rfl, rfl, SqL.of upd_same, eo, ?_⟩⟩
    have S4 := S3.trans s4
    generalize upd G3 l4 (.lst [.int 2, .int 6]) = G4 at *
    refine ⟨_, rfl, _, rfl, _, rfl, _, rfl, more, ln, lw, o, true, w0, w1, w2, w3, w4, n0, n1, n2, rfl, S4.seq hn, S4.seq hw, fun G5 v1 t1 s5 T1 p1 => ?_⟩
    have S5 := S4.trans s5
    refine ⟨_, rfl, _, _, rfl, rfl, (by unfold CPow; exact ⟨by decide, by decide, by decide⟩), _, _, rfl, rfl, wide_div (b := 200) (by decide +kernel) (by decide +kernel) (by decide) (by decide), _, rfl, _, rfl, _, rfl, _, rfl, rfl, _, ln, lw, o, _, w0, w1, w2, w3, w4, n0, n1, n2, rfl, S5.seq hn, S5.seq hw, fun G6 v2 t2 s6 T2 p2 => ?_⟩
    have S6 := S5.trans s6
    have T1 := T1.same s6
    refine ⟨_, rfl, (by show 1 ≤ sizeLine; decide), fun c1 hc1 => ⟨_, rfl, _, rfl, (by show 2 ≤ sizeLine; decide), fun c2 hc2 => ⟨_, rfl, (by show 1 ≤ sizeLine; decide), fun c3 hc3 => ⟨(by show 3 ≤ sizeLine; decide), fun l7 hl7 => ?_⟩⟩⟩⟩
    have y1 := same_new (o := .tup [v1]) hc1
    have y2 := same_new (o := .tup [v1, v2]) hc2
    have y3 := same_new (o := .tup [v2]) hc3
    have y4 := same_new (o := .lst [.ref c1, .ref c2, .ref c3]) hl7
    have s7 := y1.trans (y2.trans (y3.trans y4))
    have S7 := S6.trans s7
    have hks : ∃ ck kvs ks, atI [V.ref c1, .ref c2, .ref c3] kd = some (.ref ck) ∧ SqT K (upd (upd (upd (upd G6 c1 (.tup [v1])) c2 (.tup [v1, v2])) c3 (.tup [v2])) l7 (.lst [.ref c1, .ref c2, .ref c3])) ck kvs ∧ Trs K (upd (upd (upd (upd G6 c1 (.tup [v1])) c2 (.tup [v1, v2])) c3 (.tup [v2])) l7 (.lst [.ref c1, .ref c2, .ref c3])) kvs ks ∧ ks.length ≤ 2 ∧ ∀ k ∈ ks, PT 2 [n0, n1, n2] 0 k := by
      have a1 := T1.same s7
      have a2 := T2.same s7
      have : kd = 0 ∨ kd = 1 ∨ kd = 2 := by omega
      rcases this with rfl | rfl | rfl
      · exact ⟨c1, _, [t1], rfl, SqT.of ((y2.trans (y3.trans y4)) _ _ upd_same), ⟨a1, trivial⟩, by simp, one_mem p1⟩
      · exact ⟨c2, _, [t1, t2], rfl, SqT.of ((y3.trans y4) _ _ upd_same), ⟨a1, a2, trivial⟩, by simp, two_mem p1 p2⟩
      · exact ⟨c3, _, [t2], rfl, SqT.of (y4 _ _ upd_same), ⟨a2, trivial⟩, by simp, one_mem p2⟩
    obtain ⟨ck, kvs, ks, ek, hck, hkv, hkl, hkp⟩ := hks
    refine ⟨_, rfl, l7, _, kd, .ref ck, rfl, rfl, SqL.of upd_same, ek, ?_⟩
    generalize upd (upd (upd (upd G6 c1 (.tup [v1])) c2 (.tup [v1, v2])) c3 (.tup [v2])) l7 (.lst [.ref c1, .ref c2, .ref c3]) = G7 at *
    refine ⟨_, rfl, many, rfl, by omega, by omega, fun D hD => ?_⟩
    refine lc_range (lo := 0) (n := many.toNat) (fun i H' => Same G7 H' ∧ ∃ vs gs, H' D = some (.lst vs) ∧ Trs K H' vs gs ∧ gs.length = i ∧ ∀ g ∈ gs, GOk w0 w1 w2 [n0, n1, n2] kd g) ⟨same_new hD, [], [], upd_same, trivial, rfl, fun _ hg => (nomatch hg)⟩ ?_ ?_
    · rintro i H' hi ⟨s8, gvs, gs, hDv, hg, lg, gok⟩
      refine ⟨rfl, ?_⟩
      unfold tYes
      show if true = true then _ else _
      rw [if_pos rfl]
      have S8 := S7.trans s8
      refine ⟨_, rfl, _, rfl, _, _, rfl, rfl, .inl (by decide), _, _, rfl, rfl, _, rfl, _, _, rfl, rfl, a, ns, 8 + 4 * k + i, by rw [Int.zero_add]; show [V.ref a, V.int (8 + 4 * ((k : Nat) : Int) + ((i : Nat) : Int))] = _; rw [show (8 : Int) + 4 * ((k : Nat) : Int) + ((i : Nat) : Int) = ((8 + 4 * k + i : Nat) : Int) by omega], S8.seq ha, hl, by omega, fun z G9 s9 => ?_⟩
      have S9 := S8.trans s9
      refine ⟨_, rfl, _, rfl, _, rfl, z, ln, lw, kd, w0, w1, w2, w3, w4, n0, n1, n2, rfl, S9.seq hn, S9.seq hw, ws, fun G10 v t s10 Tv gv => ?_⟩
      have s910 := s9.trans s10
      have hDv2 := s910 _ _ hDv
      have sT : SameT G10 (upd G10 D (.lst (gvs ++ [v]))) := samT_lst hDv2
      exact ⟨_, hDv2, by have := hg.len; show gvs.length < sizeLine; have big : (1000 : Nat) < sizeLine := by decide
                         omega, same_upd (s8.trans s910) hD, gvs ++ [v], gs ++ [t], upd_same, Trs.samT sT ((Trs.same s910 hg).app ⟨Tv, trivial⟩), by rw [List.length_append, lg]; rfl, fun g hgm => by
        rcases List.mem_append.mp hgm with hgm | hgm
        · exact gok g hgm
        · rw [List.mem_singleton.mp hgm]; exact gv⟩
    · rintro H1 ⟨s8, gvs, gs, hDv, hg, lg, gok⟩
      have S8 := S7.trans s8
      refine ⟨_, rfl, _, rfl, lw, _, kd, _, rfl, rfl, S8.seq hw, wAt_at k0 k1, _, rfl, (by show 3 ≤ sizeLine; decide), fun h1 hh1 => ?_⟩
      have s9 := same_new (o := .tup [.str "app", .str (wAt w0 w1 w2 kd), .ref ck]) hh1
      refine ⟨_, rfl, D, gvs, rfl, .inl ⟨SqL.of (s9 _ _ hDv), fun l2 hl2 => ⟨(by show 2 ≤ sizeLine; decide), fun t3 ht3 => ?_⟩⟩⟩
      have s10 := same_new (o := .tup gvs) hl2
      have s11 := same_new (o := .tup [.ref h1, .ref l2]) ht3
      have s91 := s9.trans (s10.trans s11)
      have lgs : gs.length ≤ 2 := by omega
      refine q _ _ (.app (wAt w0 w1 w2 kd) ks, gs) (S8.trans s91) ⟨t3, l2, .ref h1, gvs, rfl, SqT.of upd_same, ?_, SqT.of (s11 _ _ upd_same), Trs.same s91 hg⟩ (rule_ok ws k0 k1 hkl hkp gok lgs fun e => by have := mnz e; omega)
      exact Tr.mk_app ((s10.trans s11) _ _ upd_same) (same_sqt (s8.trans s91) hck) (Trs.same (s8.trans s91) hkv)
end
end Gt
set_option Elab.async false
set_option linter.all false
set_option maxRecDepth 100000
set_option maxHeartbeats 4000000
/-! The law. -/
namespace Gt
open PySem L2 RZ
/-- what was given, as data -/
def prd (c : Str × Tm) : PyData := .tuple [.str c.1, pd c.2]
def gvd (asked : List Str) (x : List Tm × Way) : PyData := .tuple [.list ((asked.zip x.1).map prd), .list (x.2.map fun k => .int ((k : Nat) : Int))]
theorem pairs_dp {K : PySem.W.Frag} {H : Hp} : ∀ {vs : List V} {cs : List (Str × Tm)}, F2 (Pair K H) vs cs → DpAll K H vs (cs.map prd)
  | [], [], _ => .nil
  | v :: vs, c :: cs, ⟨⟨q, u, e, a, t⟩, h⟩ => .cons (by rw [e]; exact .tup a (.cons (.str _) (.cons t.dp .nil))) (pairs_dp h)
  | [], _ :: _, h => h.elim
  | _ :: _, [], h => h.elim
theorem way_dp {K : PySem.W.Frag} {H : Hp} : ∀ (w : Way), DpAll K H (wayV w) (w.map fun k => .int ((k : Nat) : Int))
  | [] => .nil
  | k :: w => .cons (.int _) (way_dp w)
theorem giv_dp {K : PySem.W.Frag} {H : Hp} {asked : List Str} {v : V} {x : List Tm × Way} : GivAt K H asked v x → Dp K H v (gvd asked x)
  | ⟨wv, ⟨a, l, ps, e, h1, h2, h3⟩, h4⟩ => by
    rw [e]
    exact .tup h1 (.cons (.lst (SqL.of h2) (pairs_dp h3)) (.cons (.lst (SqL.of h4) (way_dp x.2)) .nil))
theorem givs_dp {K : PySem.W.Frag} {H : Hp} {asked : List Str} : ∀ {vs : List V} {xs : List (List Tm × Way)}, F2 (GivAt K H asked) vs xs → DpAll K H vs (xs.map (gvd asked))
  | [], [], _ => .nil
  | v :: vs, x :: xs, ⟨a, h⟩ => .cons (giv_dp a) (givs_dp h)
  | [], _ :: _, h => h.elim
  | _ :: _, [], h => h.elim
theorem plainAll_map {α : Type} {f : α → PyData} (h : ∀ x, (f x).plain = true) : ∀ l : List α, PyData.plainAll (l.map f) = true
  | [] => rfl
  | x :: l => by rw [List.map_cons, PyData.plainAll, h x, plainAll_map h l]; rfl
theorem depthAll_map {α : Type} {f : α → PyData} {m : Nat} : ∀ l : List α, (∀ x ∈ l, (f x).depth ≤ m) → PyData.depthAll (l.map f) ≤ m
  | [], _ => Nat.zero_le _
  | x :: l, h => by
    rw [List.map_cons, PyData.depthAll]
    have := h x List.mem_cons_self
    have := depthAll_map l fun y hy => h y (List.mem_cons_of_mem _ hy)
    omega
theorem gvd_plain (asked : List Str) (x : List Tm × Way) : (gvd asked x).plain = true := by
  have h1 : PyData.plainAll ((asked.zip x.1).map prd) = true := plainAll_map (fun c => by simp only [prd, PyData.plain, PyData.plainAll, pd_plain, Bool.and_self]) _
  have h2 : PyData.plainAll (x.2.map fun k => PyData.int ((k : Nat) : Int)) = true := plainAll_map (fun c => rfl) _
  simp only [gvd, PyData.plain, PyData.plainAll, h1, h2, Bool.and_self]
theorem dep_sizeL : ∀ {ts : List Tm} {t : Tm}, t ∈ ts → t.dep ≤ Tm.sizeL ts
  | u :: ts, t, h => by
    rw [Tm.sizeL]
    rcases List.mem_cons.mp h with rfl | h
    · have := dep_le_size t
      omega
    · have := dep_sizeL h
      omega
theorem gvd_depth (asked : List Str) {x : List Tm × Way} (h : Tm.sizeL x.1 ≤ 40) : (gvd asked x).depth ≤ 90 := by
  have h1 : PyData.depthAll ((asked.zip x.1).map prd) ≤ 83 := depthAll_map _ fun c hc => by
    have hm : c.2 ∈ x.1 := (List.of_mem_zip hc).2
    have := dep_sizeL hm
    have := pd_depth c.2
    simp only [prd, PyData.depth, PyData.depthAll]
    omega
  have h2 : PyData.depthAll (x.2.map fun k => PyData.int ((k : Nat) : Int)) ≤ 1 := depthAll_map _ fun c _ => by simp [PyData.depth]
  simp only [gvd, PyData.depth, PyData.depthAll]
  omega
theorem ws_of {bs : List Int} {at_ : Nat} (ha : at_ < bs.length) (hb : bs.length ≤ 8) : Ws (word bs at_ 0) (word bs at_ 1) (word bs at_ 2) := by
  refine ⟨fun s hs => ?_, word_ne ha (by decide) (by decide) (by decide), word_ne ha (by decide) (by decide) (by decide), word_ne ha (by decide) (by decide) (by decide)⟩
  have ok : WordOk s := by
    simp only [List.mem_cons, List.not_mem_nil, or_false] at hs
    rcases hs with rfl | rfl | rfl <;> exact word_ok hb _ _
  exact ⟨fun e => ok.not3 (by rw [e]; decide +kernel), ok.ne.1, fun e => ok.not3 (by rw [e]; decide +kernel), ok.ne.2.1, ok.ne.2.2.1, ok.ne.2.2.2⟩
end Gt
set_option Elab.async false
set_option linter.all false
set_option maxRecDepth 100000
set_option maxHeartbeats 4000000
/-! An answer told anew: its list is new. -/
namespace Gt
open PySem L2 RZ
def ToldL (K : PySem.W.Frag) (H : Hp) (r : V) (l wv : Addr) (cs : List (Str × Tm)) : Prop := ∃ a ps, r = .ref a ∧ SqT K H a [.ref l, .ref wv] ∧ H l = some (.lst ps) ∧ F2 (Pair K H) ps cs
def spLToldF (K : PySem.W.Frag) : Sp := fun vs H Q _ => ∃ ln d wv asked p n nb, vs = [.ref ln, .ref d, .ref wv] ∧ SqL K H ln (asked.map V.str) ∧ PAt K H d p ∧ OKs (PT 41 nb n) p ∧ (∀ x ∈ asked, PT 41 nb n (.any x) ∧ (rd p (.any x)).dep ≤ 70) ∧ Tm.sizeL ((asT asked).map (rd p)) ≤ 900 ∧
  ∀ H' r l, Same H H' → H l = none → ToldL K H' r l wv (asked.zip (toldL ((asT asked).map (rd p)))) → Q r H'
/-- given, and not at D -/
def GivD (K : PySem.W.Frag) (H : Hp) (D : Addr) (asked : List Str) (v : V) (x : List Tm × Way) : Prop := ∃ l wv, ToldL K H v l wv (asked.zip x.1) ∧ H wv = some (.lst (wayV x.2)) ∧ l ≠ D ∧ wv ≠ D
theorem GivD.off {K : PySem.W.Frag} {H H' : Hp} {D : Addr} (e : Off D H H') {asked : List Str} {v : V} {x : List Tm × Way} : GivD K H D asked v x → GivD K H' D asked v x
  | ⟨l, wv, ⟨a, ps, h1, h2, h3, h4⟩, h5, n1, n2⟩ => ⟨l, wv, ⟨a, ps, h1, e.t.sqt h2, e.el _ _ n1 h3, h4.imp fun _ _ q => q.samT e.t⟩, e.el _ _ n2 h5, n1, n2⟩
theorem GivD.giv {K : PySem.W.Frag} {H : Hp} {D : Addr} {asked : List Str} {v : V} {x : List Tm × Way} : GivD K H D asked v x → GivAt K H asked v x
  | ⟨l, wv, ⟨a, ps, h1, h2, h3, h4⟩, h5, _, _⟩ => ⟨wv, ⟨a, l, ps, h1, h2, h3, h4⟩, h5⟩
section
variable {P : Program} {w : World} {K : PySem.W.Frag} {mg : Str → Option Value} {base : Heap} {CX : CXT}
theorem ok_law_toldF (T : Txt K mg) : FnOk P w K mg base CX0 95 T.d_law_told.f T.d_law_told.fd ["_law_names_here", "_law_puts", "_law_way"] (spLToldF K) := by
  have G_law_anew : FnOk P w K mg base CX0 90 T.d_law_anew.f T.d_law_anew.fd ["_law_term"] (spAnew K) := ok_law_anew T
  have G_law_read : FnOk P w K mg base CX0 71 T.d_law_read.f T.d_law_read.fd ["_law_term", "_law_puts"] (spPutIn K 70) := ok_law_read T 70
  refine T.d_law_told.F.ok (k := 94) sc_law_told (fun vs H Q E h => ?_) (fun cdv A outer s H vs Q E hr h => ?_)
  · obtain ⟨ln, d, wv, asked, p, n, nb, rfl, _⟩ := h
    rfl
  · obtain ⟨ln, d, wv, asked, p, n, nb, rfl, hl, hd, hp, ha, hz, k⟩ := h
    have big : (2000 : Nat) < sizeLine := by decide
    refine ⟨_, (pss_cons (ps_set (i := 3) sc_law_told.nd rfl (Or.inl rfl) (pe_call G_law_anew (hr.mono (by omega)) rfl T.d_law_anew.m T.d_law_anew.k T.d_law_anew.b .nil pass0 (pa_cons (pe_tup (pa_cons pe_str (pa_cons pe_str (pa_cons (pe_callTy call_tuple_of (by rfl) T.tuple (by decide +kernel) (pa_cons (pe_lc (own := [("_law_name", 4)]) (g := gName 4) rfl sc_law_told.nd (pi_list (pv 0)) (blkOk_by (own := [("_law_name", 4)]) (N := ["_law_names_here", "_law_puts", "_law_way", "_law_due", "_law_name"]) (sc := defScope s_law_told) (by decide +kernel)) (fun _ _ _ _ _ => (pg_name (i := 4) sc_law_told.nd rfl (Or.inl rfl))) (fun _ _ _ _ _ => pts_nil) (fun _ _ _ _ _ => (pe_call G_law_read (hr.mono (by omega)) rfl T.d_law_read.m T.d_law_read.k T.d_law_read.b .nil pass0 (pa_cons (pe_tup (pa_cons pe_str (pa_cons (pv 4) pa_nil))) (pa_cons (pv 1) pa_nil))))) pa_nil)) pa_nil)))) pa_nil)))
          (pss_one (ps_ret (pe_tup (pa_cons (pe_lstZip (by rfl) (by rfl) T.list (by rfl) T.zip (pa_cons (pv 0) (pa_cons (pe_ix ix_tup (pv 3) pe_int (fun _ _ => rfl)) pa_nil))) (pa_cons (pv 2) pa_nil)))))), ?_⟩
    have lz : asked.length ≤ 900 := by
      have h1 := sizeL_len ((asT asked).map (rd p))
      have h2 : (asT asked).length = asked.length := List.length_map _
      rw [List.length_map] at h1
      omega
    have dz : Tm.depL ((asT asked).map (rd p)) ≤ 70 := depL_le.mpr fun t ht => by
      obtain ⟨y, hy, rfl⟩ := List.mem_map.mp ht
      obtain ⟨x, hx, rfl⟩ := List.mem_map.mp hy
      exact (ha x hx).2
    have f2n : F2 (fun v x => v = V.str x) (asked.map V.str) asked := F2.of_map (f := V.str) (fun _ => rfl) asked
    refine ⟨_, rfl, ln, rfl, ⟨_, hl⟩, fun D hD => ?_⟩
    refine lc_mapL (as := asked) (In := fun _ v x => v = V.str x) (Out := Tr K) (φ := fun x => rd p (.any x)) hD hl f2n (by omega) (fun s h => h) (fun o h => h.samT o.t) (fun v x H1 R hx s1 hin kk => ?_) (fun H1 ws s1 h1 h2 => ?_)
    · subst hin
      refine ⟨_, rfl, (by show 2 ≤ sizeLine; decide), fun t ht => ?_⟩
      have s2 := same_new (o := .tup [.str "any", .str x]) ht
      exact ⟨_, rfl, .ref t, d, .any x, p, n, nb, rfl, Tr.mk_any upd_same, hd.same (s1.trans s2), hp, (ha x hx).1, (ha x hx).2, fun H' v' s3 ho => kk H' v' (s2.trans s3) ho⟩
    · have em : (asked.map fun x => rd p (.any x)) = (asT asked).map (rd p) := by unfold asT; rw [List.map_map]; rfl
      rw [em] at h2
      generalize hT : (asT asked).map (rd p) = Ts at *
      refine ⟨D, ws, rfl, .inl ⟨SqL.of h1, fun q hq => ⟨(by show 3 ≤ sizeLine; decide), fun a haa => ?_⟩⟩⟩
      have s2 := same_new (o := .tup ws) hq
      have s3 := same_new (o := .tup [.str "app", .str "0", .ref q]) haa
      have tr0 : Tr K (upd (upd H1 q (.tup ws)) a (.tup [.str "app", .str "0", .ref q])) (.ref a) (.app "0" Ts) := Tr.mk_app upd_same (SqT.of (s3 _ _ upd_same)) (h2.imp fun v t h => h.same (s2.trans s3))
      refine ⟨.ref a, .app "0" Ts, rfl, tr0, by rw [Tm.size]; omega, by rw [Tm.dep]; omega, fun H2 v2 s4 hv2 => ?_⟩
      have hv2 : Tr K H2 v2 (.app "0" (toldL Ts)) := hv2
      have s5 := s1.trans ((s2.trans s3).trans s4)
      obtain ⟨p2, q2, vs2, rfl, e1, e2, e3⟩ := hv2
      have l2 := e3.f2.len
      rw [toldL_len] at l2
      have lT : Ts.length = asked.length := by rw [← hT]; unfold asT; rw [List.length_map, List.length_map]
      refine ⟨_, rfl, _, rfl, p2, _, 2, _, rfl, rfl, e1, rfl, ln, q2, _, vs2, rfl, s5.seq hl, .inr e2, by rw [List.length_map]; omega, fun q9 ps H3 hq9 s6 hq9' lps hpair => ?_⟩
      refine ⟨_, rfl, (by show 2 ≤ sizeLine; decide), fun a9 ha9 => ?_⟩
      have s7 := same_new (o := .tup [.ref q9, .ref wv]) ha9
      refine k _ _ q9 (s5.trans (s6.trans s7)) (s5.free hq9) ⟨a9, ps.map V.ref, rfl, SqT.of upd_same, s7 _ _ hq9', ?_⟩
      have pr : ∀ (ps : List Addr) (xs : List Str) (vs : List V) (ts : List Tm), ps.length = xs.length → F2 (Tr K H2) vs ts → xs.length = ts.length → (∀ (j : Nat) (p : Addr) (x y : V), ps[j]? = some p → (xs.map V.str)[j]? = some x → vs[j]? = some y → H3 p = some (.tup [x, y])) →
          F2 (Pair K (upd H3 a9 (.tup [.ref q9, .ref wv]))) (ps.map V.ref) (xs.zip ts) := by
        intro ps
        induction ps with
        | nil => intro xs vs ts h1 _ _ _; cases xs with
          | nil => trivial
          | cons _ _ => simp at h1
        | cons p0 ps ih => intro xs vs ts h1 h2 h3 h4; cases xs with
          | nil => simp at h1
          | cons x xs => cases ts with
            | nil => simp at h3
            | cons t ts => cases vs with
              | nil => exact h2.elim
              | cons v vs =>
                refine ⟨⟨p0, v, rfl, SqT.of (s7 _ _ (h4 0 p0 (.str x) v rfl rfl rfl)), h2.1.same (s6.trans s7)⟩, ih xs vs ts (by simpa using h1) h2.2 (by simpa using h3) fun j p y z e1 e2 e3 => h4 (j + 1) p y z e1 e2 e3⟩
      refine pr ps asked vs2 (toldL Ts) ?_ e3.f2 (by rw [toldL_len]; omega) hpair
      rw [List.length_map] at lps
      exact lps
end
end Gt
set_option Elab.async false
set_option linter.all false
set_option maxRecDepth 100000
/-! A comprehension whose target is a pair of names. -/
namespace Gt
open PySem L2 RZ
theorem lc_two {K : PySem.W.Frag} {a D : Addr} {xs : List V} {i j : Nat} {σ : St} {te : TE} {H1 : Hp} {Q : Hp → Prop} (hij : i ≠ j) (hi : i < σ.length) (hj : j < σ.length) (Pv : Nat → Hp → Prop) (h0 : Pv 0 (upd H1 D (.lst []))) (hl : ∀ k H, k ≤ xs.length → Pv k H → SqL K H a xs)
    (hs : ∀ k x H, xs[k]? = some x → Pv k H → ∃ p u v, x = .ref p ∧ SqT K H p [u, v] ∧ ∀ σ2 : St, σ2[i]? = some (some u) → σ2[j]? = some (some v) → (∀ m, m ≠ i → m ≠ j → σ2[m]? = σ[m]?) → te σ2 H fun y H4 => ∃ acc, H4 D = some (.lst acc) ∧ acc.length < sizeLine ∧ Pv (k + 1) (upd H4 D (.lst (acc ++ [y]))))
    (hd : ∀ H, Pv xs.length H → Q H) :
    ∃ W : Nat → Nat → Hp → Prop, (∃ m, W 0 m (upd H1 D (.lst []))) ∧ ∀ k m H, W k m H →
      ((Itl K a).stop k H ∧ Q H) ∨ ((Itl K a).go k H ∧ ∃ Nx : Hp → Prop, (∀ H', Nx H' → ∃ m', m' < m ∧ W (k + 1) m' H') ∧ ∀ x H', (Itl K a).yld k H x H' → gTup K 2 (gCons (gName i) (gCons (gName j) gNil)) x (wipe σ [i, j]) H' fun σ2 H2 => wipe σ2 [i, j] = wipe σ [i, j] ∧ tYes σ2 H2 fun b H3 =>
        if b = true then te σ2 H3 fun y H4 => ∃ acc, H4 D = some (.lst acc) ∧ acc.length < sizeLine ∧ Nx (upd H4 D (.lst (acc ++ [y]))) else Nx H3) := by
  refine lc_list (K := K) (a := a) (xs := xs) Pv h0 hl (fun k x H hx hp => ?_) hd
  obtain ⟨p, u, v, rfl, hq, h⟩ := hs k x H hx hp
  refine ⟨p, [u, v], rfl, hq, rfl, u, [v], rfl, v, [], rfl, rfl, ?_, ?_⟩
  · show (((((σ.set j none).set i none).set i (some u)).set j (some v)).set j none).set i none = (σ.set j none).set i none
    apply List.ext_getElem?
    intro m
    simp only [List.getElem?_set, List.length_set]
    by_cases e1 : i = m
    · subst e1; simp [hij]
    · by_cases e2 : j = m
      · subst e2; simp [hij]
      · simp [e1, e2]
  · unfold tYes
    show if true = true then _ else _
    rw [if_pos rfl]
    show te ((((σ.set j none).set i none).set i (some u)).set j (some v)) H _
    refine h _ ?_ ?_ fun m h1 h2 => ?_
    · simp [List.getElem?_set, hij.symm, hi]
    · simp [List.getElem?_set, hj]
    · simp [List.getElem?_set, h1.symm, h2.symm]
end Gt
set_option Elab.async false
set_option linter.all false
set_option maxRecDepth 100000
set_option maxHeartbeats 4000000
/-! The law walked. -/
namespace Gt
open PySem L2 RZ
def spAllE (K : PySem.W.Frag) : Sp := fun vs H Q E => ∃ c n, CxOk c ∧ (∀ x ∈ c.nb, x.length ≤ 1000) ∧ n ≤ 9 ∧ spAll K c n vs H Q E
def spSearchE (K : PySem.W.Frag) : Sp := fun vs H Q E => ∃ c, CxOk c ∧ (∀ x ∈ c.nb, x.length ≤ 1000) ∧ spSearch K c vs H Q E
def spLaw (K : PySem.W.Frag) : Sp := fun vs H Q _ => ∃ (a : Addr) (ns : List Int), vs = [.ref a] ∧ SqL K H a (ns.map V.int) ∧ ns.length ≤ 63 ∧ ∀ H', Q (.bl true) H'
theorem same_offB {B H H' : Hp} {l : Addr} (s : Same B H) (hB : B l = none) (o : Off l H H') : Same B H' := fun p u e => o.el p u (fun q => by subst q; rw [hB] at e; cases e) (s p u e)
theorem join2 {C : Hp → Prop} {b : Bool} {T : Prop} {G0 : Hp} (J : Hp → Prop) (h : ∀ G, J G → C G) (h1 : (∀ G, J G → C G) → T) (h0 : J G0) : if b = true then T else C G0 := by
  split
  · exact h1 h
  · exact h _ h0
theorem join3 {C T : Prop} {b : Bool} (h : C) (h1 : b = true → C → T) : if b = true then T else C := by
  split
  · next e => exact h1 e h
  · exact h
theorem end_eqv (a b : Str) : PyData.eqv (.tuple [.str a]) (.tuple [.str b]) = decide (a = b) := by
  rw [Bool.eq_iff_iff]
  simp [PyData.eqv, PyData.eqvAll]
section
variable {P : Program} {w : World} {K : PySem.W.Frag} {mg : Str → Option Value} {base : Heap} {CX : CXT}
theorem ok_law {C : Addr} (T : TxtR K mg C) (TS : SearchAt K mg) : FnOk P w K mg base CX0 131 T.d_law.f T.d_law.fd ["_law_script"] (spLaw K) := by
  have G_law_pick : FnOk P w K mg base CX0 1 T.d_law_pick.f T.d_law_pick.fd ["_law_cell", "_law_k", "_law_many"] spPick := ok_law_pick T.toTxt
  have G_law_cell_at := ok_law_cell_at (P := P) (w := w) (base := base) T.toTxt
  have G_law_thing := ok_law_thing (P := P) (w := w) (base := base) T.toTxt
  have G_law_goal := ok_law_goal (P := P) (w := w) (base := base) T.toTxt
  have G_law_rule := ok_law_rule (P := P) (w := w) (base := base) T.toTxt
  have G_law_words := ok_law_words (P := P) (w := w) (base := base) T.toTxt
  have G_law_names := ok_law_names (P := P) (w := w) (base := base) T.toTxt
  have G_law_told := ok_law_toldF (P := P) (w := w) (base := base) T.toTxt
  have G_law_named := ok_law_named (P := P) (w := w) (base := base) T.toTxt 10
  have G_law_all : FnOk P w K mg base CX0 128 T.d_law_all.f T.d_law_all.fd ["_law_rules", "_law_goals", "_law_puts", "_law_way"] (spAllE K) :=
    ⟨fun vs H Q E ⟨c, n, ok, hl, hn, h⟩ => (ok_law_all (P := P) (w := w) (base := base) T.toTxt ok hl n).len vs H Q E h,
     fun A outer s H args us vs Q E hr he hb hv ⟨c, n, ok, hl, hn, h⟩ => (ok_law_all (P := P) (w := w) (base := base) T.toTxt ok hl n).run A outer s H args us vs Q E (hr.mono (by omega)) he hb hv h⟩
  have G_search : FnOk P w K mg base CX0 110 TS.f TS.fd ["rules", "goals", "bound", "most"] (spSearchE K) :=
    ⟨fun vs H Q E ⟨c, ok, hl, h⟩ => (ok_search (P := P) (w := w) (base := base) T TS ok hl).len vs H Q E h,
     fun A outer s H args us vs Q E hr he hb hv ⟨c, ok, hl, h⟩ => (ok_search (P := P) (w := w) (base := base) T TS ok hl).run A outer s H args us vs Q E hr he hb hv h⟩
  refine T.d_law.F.ok sc_law (fun vs H Q E h => ?_) (fun cdv A outer s H vs Q E hr h => ?_)
  · obtain ⟨a, ns, rfl, _⟩ := h
    rfl
  · obtain ⟨a, ns, rfl, ha, hl, q⟩ := h
    have big : (10077800 : Nat) < sizeLine := by decide
    refine ⟨_, (pss_cons (ps_set (i := 1) sc_law.nd rfl (Or.inr rfl) (pe_call G_law_words (hr.mono (by omega)) rfl T.d_law_words.m T.d_law_words.k T.d_law_words.b .nil pass0 (pa_cons (pe_op op_fdivW (pe_call G_law_cell_at (hr.mono (by omega)) rfl T.d_law_cell_at.m T.d_law_cell_at.k T.d_law_cell_at.b .nil pass0 (pa_cons (pv 0) (pa_cons pe_int pa_nil))) pe_int) pa_nil)))
          (pss_cons (ps_set (i := 2) sc_law.nd rfl (Or.inl rfl) (pe_call G_law_cell_at (hr.mono (by omega)) rfl T.d_law_cell_at.m T.d_law_cell_at.k T.d_law_cell_at.b .nil pass0 (pa_cons (pv 0) (pa_cons pe_int pa_nil))))
          (pss_cons (ps_set (i := 3) sc_law.nd rfl (Or.inr rfl) (pe_call G_law_names (hr.mono (by omega)) rfl T.d_law_names.m T.d_law_names.k T.d_law_names.b .nil pass0 (pa_cons (pv 1) (pa_cons (pv 2) pa_nil))))
          (pss_cons (ps_setLc (i := 4) (own := [("_law_k", 5)]) (g := gName 5) rfl sc_law.nd rfl rfl (sw_true rfl rfl rfl (by decide +kernel)) (pi_range1 (by rfl) T.range (pa_cons (pe_op op_add pe_int (pe_call G_law_pick (hr.mono (by omega)) rfl T.d_law_pick.m T.d_law_pick.k T.d_law_pick.b .nil pass0 (pa_cons (pv 2) (pa_cons pe_int (pa_cons pe_int pa_nil))))) pa_nil)) (blkOk_by (own := [("_law_k", 5)]) (N := ["_law_script", "_law_words_here", "_law_way", "_law_names_here", "_law_rules", "_law_k", "_law_one_here", "_law_other", "_law_goals", "_law_most", "_law_asked", "_law_found", "_law_ways", "_law_due", "_law_puts", "_law_gone"]) (sc := defScope s_law) (by decide +kernel)) (fun _ _ _ _ _ => (pg_name (i := 5) sc_law.nd rfl (Or.inl rfl))) (fun _ _ _ _ _ => pts_nil) (fun _ _ _ _ _ => (pe_call G_law_rule (hr.mono (by omega)) rfl T.d_law_rule.m T.d_law_rule.k T.d_law_rule.b .nil pass0 (pa_cons (pv 0) (pa_cons (pv 5) (pa_cons (pv 3) (pa_cons (pv 1) pa_nil)))))))
          (pss_cons (ps_set (i := 6) sc_law.nd rfl (Or.inl rfl) (pe_call G_law_thing (hr.mono (by omega)) rfl T.d_law_thing.m T.d_law_thing.k T.d_law_thing.b .nil pass0 (pa_cons (pe_call G_law_cell_at (hr.mono (by omega)) rfl T.d_law_cell_at.m T.d_law_cell_at.k T.d_law_cell_at.b .nil pass0 (pa_cons (pv 0) (pa_cons pe_int pa_nil))) (pa_cons (pv 3) (pa_cons (pv 1) (pa_cons pe_int (pa_cons pe_bl pa_nil)))))))
          (pss_cons (ps_set (i := 7) sc_law.nd rfl (Or.inl rfl) (pe_call G_law_thing (hr.mono (by omega)) rfl T.d_law_thing.m T.d_law_thing.k T.d_law_thing.b .nil pass0 (pa_cons (pe_call G_law_cell_at (hr.mono (by omega)) rfl T.d_law_cell_at.m T.d_law_cell_at.k T.d_law_cell_at.b .nil pass0 (pa_cons (pv 0) (pa_cons pe_int pa_nil))) (pa_cons (pv 3) (pa_cons (pv 1) (pa_cons pe_int (pa_cons pe_bl pa_nil)))))))
          (pss_cons (ps_set (i := 8) sc_law.nd rfl (Or.inl rfl) (pe_lst (pa_cons (pe_ix ix_list (pe_lst (pa_cons (pe_tup (pa_cons pe_str (pa_cons (pe_ix ix_list (pv 1) pe_int (fun _ _ => rfl)) (pa_cons (pe_tup (pa_cons (pv 6) pa_nil)) pa_nil)))) (pa_cons (pe_tup (pa_cons pe_str (pa_cons (pe_ix ix_list (pv 1) pe_int (fun _ _ => rfl)) (pa_cons (pe_tup (pa_cons (pv 6) (pa_cons (pv 7) pa_nil))) pa_nil)))) pa_nil))) (pe_call G_law_pick (hr.mono (by omega)) rfl T.d_law_pick.m T.d_law_pick.k T.d_law_pick.b .nil pass0 (pa_cons (pv 2) (pa_cons pe_int (pa_cons pe_int pa_nil)))) (fun _ _ => rfl)) pa_nil)))
          (pss_cons (ps_if (pt_cmpR op_eq (pe_call G_law_pick (hr.mono (by omega)) rfl T.d_law_pick.m T.d_law_pick.k T.d_law_pick.b .nil pass0 (pa_cons (pv 2) (pa_cons pe_int (pa_cons pe_int pa_nil)))) pe_int (nomark _)) (pss_one (ps_expr (pe_bm PySem.F.plainAttrs_list PySem.F.slot_list_append PySem.F.type_list_append mt_append (pv 8) (pa_cons (pe_call G_law_goal (hr.mono (by omega)) rfl T.d_law_goal.m T.d_law_goal.k T.d_law_goal.b .nil pass0 (pa_cons (pe_call G_law_cell_at (hr.mono (by omega)) rfl T.d_law_cell_at.m T.d_law_cell_at.k T.d_law_cell_at.b .nil pass0 (pa_cons (pv 0) (pa_cons pe_int pa_nil))) (pa_cons (pv 3) (pa_cons (pv 1) (pa_cons pe_int pa_nil))))) pa_nil)))) pss_nil)
          (pss_cons (ps_set (i := 9) sc_law.nd rfl (Or.inl rfl) (pe_op op_add pe_int (pe_call G_law_pick (hr.mono (by omega)) rfl T.d_law_pick.m T.d_law_pick.k T.d_law_pick.b .nil pass0 (pa_cons (pe_call G_law_cell_at (hr.mono (by omega)) rfl T.d_law_cell_at.m T.d_law_cell_at.k T.d_law_cell_at.b .nil pass0 (pa_cons (pv 0) (pa_cons pe_int pa_nil))) (pa_cons pe_int (pa_cons pe_int pa_nil))))))
          (pss_cons (ps_set (i := 10) sc_law.nd rfl (Or.inr rfl) (pe_call G_law_named (hr.mono (by omega)) rfl T.d_law_named.m T.d_law_named.k T.d_law_named.b .nil pass0 (pa_cons (pe_tup (pa_cons pe_str (pa_cons pe_str (pa_cons (pe_callTy call_tuple_of (by rfl) T.tuple (by decide +kernel) (pa_cons (pv 8) pa_nil)) pa_nil)))) (pa_cons (pe_lst pa_nil) pa_nil))))
          (pss_cons (ps_set (i := 11) sc_law.nd rfl (Or.inl rfl) ((pe_call G_search (hr.mono (by omega)) rfl TS.m TS.k TS.b .nil pass0 (pa_cons (pe_callTy call_list_of (by rfl) T.list (by decide +kernel) (pa_cons (pv 4) pa_nil)) (pa_cons (pe_callTy call_list_of (by rfl) T.list (by decide +kernel) (pa_cons (pv 8) pa_nil)) (pa_cons pe_int (pa_cons (pv 9) pa_nil)))))))
          (pss_cons (ps_set (i := 12) sc_law.nd rfl (Or.inl rfl) (pe_ix ix_tup (pe_call G_law_all (hr.mono (by omega)) rfl T.d_law_all.m T.d_law_all.k T.d_law_all.b .nil pass0 (pa_cons (pv 4) (pa_cons (pv 8) (pa_cons pe_dnewK (pa_cons (pe_lst pa_nil) pa_nil))))) pe_int (fun _ _ => rfl)))
          (pss_cons (ps_if (PW.pt (pw_or (PW.pt (pw_and (pt_cmpR (op_eqT (hu_of2 hr)) (pe_ix ix_tup (pv 11) pe_int (fun _ _ => rfl)) (pe_tup (pa_cons pe_str pa_nil)) (nomark _)) (pw_and1 (pt_cmpR op_ne (pe_callB call_len_seq (by rfl) T.len PySem.boot_len (pa_cons (pv 12) pa_nil)) (pe_callB call_len_seq (by rfl) T.len PySem.boot_len (pa_cons (pe_ix ix_tup (pv 11) pe_int (fun _ _ => rfl)) pa_nil)) (nomark _))))) (pw_or1 (pt_cmpR op_lt (pe_callB call_len_seq (by rfl) T.len PySem.boot_len (pa_cons (pv 12) pa_nil)) (pe_callB call_len_seq (by rfl) T.len PySem.boot_len (pa_cons (pe_ix ix_tup (pv 11) pe_int (fun _ _ => rfl)) pa_nil)) (nomark _))))) (pss_one (ps_ret pe_bl)) pss_nil)
          (pss_cons (ps_if (PW.pt (pw_and (pt_cmpR (op_eqT (hu_of2 hr)) (pe_ix ix_tup (pv 11) pe_int (fun _ _ => rfl)) (pe_tup (pa_cons pe_str pa_nil)) (nomark _)) (pw_and1 (pt_cmpR op_ne (pe_callB call_len_seq (by rfl) T.len PySem.boot_len (pa_cons (pe_ix ix_tup (pv 11) pe_int (fun _ _ => rfl)) pa_nil)) (pv 9) (nomark _))))) (pss_one (ps_ret pe_bl)) pss_nil)
          (pss_cons (ps_setLc (i := 13) (own := [("_law_puts", 14), ("_law_gone", 15)]) (g := (gTup K 2 (gCons (gName 14) (gCons (gName 15) gNil)))) rfl sc_law.nd rfl rfl (sw_true rfl rfl rfl (by decide +kernel)) (pi_list (pe_slice sl_list (pv 12) po_none (po_some (pe_callB call_len_seq (by rfl) T.len PySem.boot_len (pa_cons (pe_ix ix_tup (pv 11) pe_int (fun _ _ => rfl)) pa_nil))))) (blkOk_by (own := [("_law_puts", 14), ("_law_gone", 15)]) (N := ["_law_script", "_law_words_here", "_law_way", "_law_names_here", "_law_rules", "_law_k", "_law_one_here", "_law_other", "_law_goals", "_law_most", "_law_asked", "_law_found", "_law_ways", "_law_due", "_law_puts", "_law_gone"]) (sc := defScope s_law) (by decide +kernel)) (fun _ _ _ _ _ => (pg_tup (by rfl) (pgs_cons (pg_name (i := 14) sc_law.nd rfl (Or.inl rfl)) (pgs_cons (pg_name (i := 15) sc_law.nd rfl (Or.inl rfl)) pgs_nil)))) (fun _ _ _ _ _ => pts_nil) (fun _ _ _ _ _ => (pe_call G_law_told (hr.mono (by omega)) rfl T.d_law_told.m T.d_law_told.k T.d_law_told.b .nil pass0 (pa_cons (pv 10) (pa_cons (pv 14) (pa_cons (pv 15) pa_nil))))))
          (pss_one (ps_ret (pe_and (pe_cmpR (op_eqT (hu_of2 hr)) (pe_ix ix_tup (pv 11) pe_int (fun _ _ => rfl)) (pv 13) (nomark _)) (pe_one (pe_cmpR (op_inT (hu_of2 hr)) (pe_ix ix_tup (pv 11) pe_int (fun _ _ => rfl)) (pe_tup (pa_cons (pe_tup (pa_cons pe_str pa_nil)) (pa_cons (pe_tup (pa_cons pe_str pa_nil)) (pa_cons (pe_tup (pa_cons pe_str pa_nil)) (pa_cons (pe_tup (pa_cons pe_str pa_nil)) pa_nil))))) (by rfl))))))))))))))))))))), ?_⟩
    refine ⟨_, rfl, a, ns, 0, rfl, ha, hl, by decide, fun z0 G0 s0 => ?_⟩
    refine ⟨_, _, rfl, rfl, wide_div (b := 100) (by decide +kernel) (by decide +kernel) (by decide) (by decide), _, rfl, fun G1 lw bs at_ s1 hat hbs hlw => ?_⟩
    have ws := ws_of hat hbs
    have wo0 := word_ok hbs at_ 0
    have wo1 := word_ok hbs at_ 1
    have wo2 := word_ok hbs at_ 2
    have hlw : SqL K G1 lw (five (word bs at_ 0) (word bs at_ 1) (word bs at_ 2) (word bs at_ 3) (word bs at_ 4)) := SqL.of hlw
    generalize word bs at_ 0 = w0 at *
    generalize word bs at_ 1 = w1 at *
    generalize word bs at_ 2 = w2 at *
    generalize word bs at_ 3 = w3 at *
    generalize word bs at_ 4 = w4 at *
    have ha1 := (s0.trans s1).seq ha
    refine ⟨_, rfl, a, ns, 1, rfl, ha1, hl, by decide, fun zw G2 s2 => ?_⟩
    have hlw2 := s2.seq hlw
    have ha2 := s2.seq ha1
    refine ⟨_, rfl, _, rfl, lw, zw, w0, w1, w2, w3, w4, rfl, hlw2, wo0, wo1, wo2, fun G3 ln n0 n1 n2 s3 hln nk0 nk1 nk2 => ?_⟩
    have hln3 : SqL K G3 ln (three3 n0 n1 n2) := SqL.of hln
    have hlw3 := s3.seq hlw2
    have ha3 := s3.seq ha2
    refine ⟨_, rfl, zw, 5, 0, rfl, by decide, by decide, fun rr rr0 rr1 => ?_⟩
    refine ⟨_, _, rfl, rfl, 2 + rr, rfl, by omega, by omega, fun D hD => ?_⟩
    refine lc_range (lo := 0) (n := (2 + rr).toNat) (fun i H' => Same G3 H' ∧ ∃ vs rs, H' D = some (.lst vs) ∧ F2 (RuleAt K H') vs rs ∧ rs.length = i ∧ ∀ r ∈ rs, ROk w0 w1 w2 [n0, n1, n2] r) ⟨same_new hD, [], [], upd_same, trivial, rfl, fun _ hg => (nomatch hg)⟩ ?_ ?_
    · rintro i H' hi ⟨s4, rvs, rs, hDv, hr4, lrs, rok⟩
      refine ⟨rfl, ?_⟩
      unfold tYes
      show if true = true then _ else _
      rw [if_pos rfl]
      refine ⟨_, rfl, _, rfl, _, rfl, _, rfl, a, ns, i, ln, lw, w0, w1, w2, w3, w4, n0, n1, n2, by rw [Int.zero_add]; rfl, s4.seq ha3, hl, by omega, s4.seq hln3, s4.seq hlw3, ws, fun G5 v r s5 hv hr5 => ?_⟩
      have hDv5 := s5 _ _ hDv
      have sT : SameT G5 (upd G5 D (.lst (rvs ++ [v]))) := samT_lst hDv5
      have ll := hr4.len
      exact ⟨rvs, hDv5, by omega, same_upd (s4.trans s5) hD, rvs ++ [v], rs ++ [r], upd_same, (hr4.imp fun _ _ q => q.samT ((same_t s5).trans sT)).app ⟨hv.samT sT, trivial⟩, by rw [List.length_append, lrs]; rfl, fun x hx => by
        rcases List.mem_append.mp hx with hx | hx
        · exact rok x hx
        · rw [List.mem_singleton.mp hx]; exact hr5⟩
    · rintro G4 ⟨s4, rvs, rs, hDv, hrs, lrs, rok⟩
      have ha4 := s4.seq ha3
      have hln4 := s4.seq hln3
      have hlw4 := s4.seq hlw3
      have lrs6 : rs.length ≤ 6 := by omega
      refine ⟨_, rfl, a, ns, 2, rfl, ha4, hl, by decide, fun z5 G5 s5 => ?_⟩
      refine ⟨_, rfl, _, rfl, z5, ln, lw, 6, false, w0, w1, w2, w3, w4, n0, n1, n2, rfl, s5.seq hln4, s5.seq hlw4, fun G6 v1 t1 s6 T1 p1 => ?_⟩
      have s56 := s5.trans s6
      refine ⟨_, rfl, a, ns, 3, rfl, s56.seq ha4, hl, by decide, fun z7 G7 s7 => ?_⟩
      have s57 := s56.trans s7
      refine ⟨_, rfl, _, rfl, z7, ln, lw, 6, true, w0, w1, w2, w3, w4, n0, n1, n2, rfl, s57.seq hln4, s57.seq hlw4, fun G8 v2 t2 s8 T2 p2 => ?_⟩
      have s58 := s57.trans s8
      have T1 := T1.same (s7.trans s8)
      have hlw8 := s58.seq hlw4
      refine ⟨_, rfl, lw, _, 0, .str w0, rfl, rfl, hlw8, rfl, _, rfl, (by show 1 ≤ sizeLine; decide), fun c1 hc1 => ⟨(by show 3 ≤ sizeLine; decide), fun c2 hc2 => ?_⟩⟩
      have y1 := same_new (o := .tup [v1]) hc1
      have y2 := same_new (o := .tup [.str "app", .str w0, .ref c1]) hc2
      refine ⟨_, rfl, lw, _, 1, .str w1, rfl, rfl, (y1.trans y2).seq hlw8, rfl, _, rfl, _, rfl, (by show 2 ≤ sizeLine; decide), fun c3 hc3 => ⟨(by show 3 ≤ sizeLine; decide), fun c4 hc4 => ⟨(by show 2 ≤ sizeLine; decide), fun l5 hl5 => ?_⟩⟩⟩
      have y3 := same_new (o := .tup [v1, v2]) hc3
      have y4 := same_new (o := .tup [.str "app", .str w1, .ref c3]) hc4
      have y5 := same_new (o := .lst [.ref c2, .ref c4]) hl5
      have y35 := y3.trans (y4.trans y5)
      have y15 := (y1.trans y2).trans y35
      refine ⟨_, rfl, zw, 2, 1, rfl, by decide, by decide, fun rg rg0 rg1 => ?_⟩
      obtain ⟨vg, hvg, evg⟩ := pick2_at (x := .ref c2) (y := .ref c4) rg0 rg1
      have hgo : ∃ g, Tr K (upd (upd (upd (upd (upd G8 c1 (.tup [v1])) c2 (.tup [.str "app", .str w0, .ref c1])) c3 (.tup [v1, v2])) c4 (.tup [.str "app", .str w1, .ref c3])) l5 (.lst [.ref c2, .ref c4])) vg g ∧ ∀ R : List Rule, GoalOk ⟨w0, w1, w2, [n0, n1, n2], R⟩ 0 g := by
        rcases hvg with rfl | rfl
        · exact ⟨.app w0 [t1], Tr.mk_app (y35 _ _ upd_same) (SqT.of ((y2.trans y35) _ _ upd_same)) ⟨T1.same y15, trivial⟩, fun R => .named (by simp [Cx.ws]) (by simp) (one_mem p1)⟩
        · exact ⟨.app w1 [t1, t2], Tr.mk_app (y5 _ _ upd_same) (SqT.of ((y4.trans y5) _ _ upd_same)) ⟨T1.same y15, T2.same y15, trivial⟩, fun R => .named (by simp [Cx.ws]) (by simp) (two_mem p1 p2)⟩
      obtain ⟨g1, Tg1, gok1⟩ := hgo
      refine ⟨l5, _, rg, vg, rfl, rfl, SqL.of upd_same, evg, (by show 1 ≤ sizeLine; decide), fun l6 hl6 => ?_⟩
      have S9 := s58.trans y15
      generalize upd (upd (upd (upd (upd G8 c1 (.tup [v1])) c2 (.tup [.str "app", .str w0, .ref c1])) c3 (.tup [v1, v2])) c4 (.tup [.str "app", .str w1, .ref c3])) l5 (.lst [.ref c2, .ref c4]) = G9 at *
      have s10 := same_new (o := .lst [vg]) hl6
      have J0 : ∃ gvs gs, Same G9 (upd G9 l6 (.lst [vg])) ∧ upd G9 l6 (.lst [vg]) l6 = some (.lst gvs) ∧ Trs K (upd G9 l6 (.lst [vg])) gvs gs ∧ gs.length ≤ 2 ∧ (∀ g ∈ gs, ∀ R : List Rule, GoalOk ⟨w0, w1, w2, [n0, n1, n2], R⟩ 0 g) ∧ ∀ R : List Rule, costL ⟨w0, w1, w2, [n0, n1, n2], R⟩ gs ≤ 8 :=
        ⟨[vg], [g1], s10, upd_same, ⟨Tg1.same s10, trivial⟩, by simp, one_mem gok1, fun R => by
          have := cost_le ⟨w0, w1, w2, [n0, n1, n2], R⟩ g1
          simp only [costL]
          omega⟩
      have hl6v : upd G9 l6 (.lst [vg]) l6 = some (.lst [vg]) := upd_same
      have Tg10 := Tg1.same s10
      generalize upd G9 l6 (.lst [vg]) = G10 at *
      refine ⟨_, rfl, zw, 3, 2, rfl, by decide, by decide, fun re re0 re1 => ⟨rfl, _, rfl, ?_⟩⟩
      refine join2 (fun G => ∃ gvs gs, Same G9 G ∧ G l6 = some (.lst gvs) ∧ Trs K G gvs gs ∧ gs.length ≤ 2 ∧ (∀ g ∈ gs, ∀ R : List Rule, GoalOk ⟨w0, w1, w2, [n0, n1, n2], R⟩ 0 g) ∧ ∀ R : List Rule, costL ⟨w0, w1, w2, [n0, n1, n2], R⟩ gs ≤ 8) (fun G hG => ?_) (fun k => ?_) J0
      rotate_left
      · have S10 := S9.trans s10
        refine ⟨_, rfl, .inl ⟨rfl, _, SqL.of hl6v⟩, _, rfl, a, ns, 4, rfl, S10.seq ha4, hl, by decide, fun z11 G11 s11 => ?_⟩
        have S11 := S10.trans s11
        refine ⟨_, rfl, _, rfl, z11, ln, lw, 1, w0, w1, w2, w3, w4, n0, n1, n2, rfl, S11.seq hln4, S11.seq hlw4, ws, fun G12 v t s12 Tv gv => ?_⟩
        have h12 := (s11.trans s12) _ _ hl6v
        have sT : SameT G12 (upd G12 l6 (.lst ([vg] ++ [v]))) := samT_lst h12
        refine ⟨l6, _, _, rfl, rfl, h12, (by show 1 < sizeLine; decide), k _ ⟨[vg] ++ [v], [g1] ++ [t], same_upd (s10.trans (s11.trans s12)) hl6, upd_same, ⟨(Tg10.same (s11.trans s12)).samT sT, Tv.samT sT, trivial⟩, by simp, two_mem gok1 fun R => (gv R).1, fun R => ?_⟩⟩
        have h1 := cost_le ⟨w0, w1, w2, [n0, n1, n2], R⟩ g1
        have h2 := (gv R).2
        rw [if_neg (by decide)] at h2
        simp only [List.cons_append, List.nil_append, costL]
        omega
      · clear J0 hl6v Tg10
        obtain ⟨gvs, gs, sG, hl6g, hgs, lgs, gok, gcost⟩ := hG
        have SG := S9.trans sG
        have ha10 := SG.seq ha4
        have hDvG := SG _ _ hDv
        have hrsG : F2 (RuleAt K G) rvs rs := hrs.imp fun _ _ q => q.samT (same_t SG)
        refine ⟨_, rfl, a, ns, 5, rfl, ha10, hl, by decide, fun z12 G12 s12 => ⟨z12, 40, 0, rfl, by decide, by decide, fun rm rm0 rm1 => ⟨_, _, rfl, rfl, ?_⟩⟩⟩
        obtain ⟨nm, rfl⟩ := Int.eq_ofNat_of_zero_le rm0
        have hl12 := s12 _ _ hl6g
        refine ⟨_, rfl, l6, gvs, rfl, .inl ⟨SqL.of hl12, fun t13 ht13 => ⟨(by show 3 ≤ sizeLine; decide), fun t14 ht14 => ⟨Nat.zero_le _, fun l15 hl15 => ?_⟩⟩⟩⟩
        have x13 := same_new (o := .tup gvs) ht13
        have x14 := same_new (o := .tup [.str "app", .str "0", .ref t13]) ht14
        have x15 := same_new (o := .lst []) hl15
        have pts : ∀ g ∈ gs, PT 3 [n0, n1, n2] 0 g := fun g hg => (gok g hg []).pt
        obtain ⟨sz, dp⟩ := body_size pts
        have S14 := s12.trans (x13.trans x14)
        have Tn := Tr.mk_app (K := K) (x15 _ _ (upd_same (H := upd G12 t13 (.tup gvs)) (a := t14) (o := .tup [.str "app", .str "0", .ref t13]))) (SqT.of ((x14.trans x15) _ _ upd_same)) (Trs.same (S14.trans x15) hgs)
        refine ⟨.ref t14, l15, .app "0" gs, [], rfl, Tn, upd_same, by rw [Tm.dep]; omega, by rw [Tm.size, List.length_nil]; omega, fun G16 off hl16 => ?_⟩
        have S16 : Same G G16 := same_offB (S14.trans x15) (S14.free hl15) off
        have hask : G16 l15 = some (.lst ((namesOf gs).map V.str)) := hl16
        have nmem : ∀ x ∈ namesOf gs, x ∈ [n0, n1, n2] := fun x hx => by
          rcases uniq_mem.mp hx with hx | hx
          · exact nomatch hx
          · obtain ⟨g, hg, hx⟩ := varsL_mem.mp hx
            rcases Un_mem.mp ((pts g hg).nm x hx) with h | ⟨m, hm, _⟩
            · exact h
            · exact absurd hm (Nat.not_lt_zero m)
        have nlen : (namesOf gs).length ≤ 100 := by
          have := (uniq_nodup (l := Tm.varsL gs) (acc := []) List.nodup_nil).length_le_of_subset nmem
          simp only [List.length_cons, List.length_nil] at this
          show (namesOf gs).length ≤ 100
          unfold namesOf
          omega
        have cok : CxOk ⟨w0, w1, w2, [n0, n1, n2], rs⟩ := ⟨fun x hx => by
          simp only [List.mem_cons, List.not_mem_nil, or_false] at hx
          rcases hx with rfl | rfl | rfl
          · exact nk0.plain
          · exact nk1.plain
          · exact nk2.plain, by simp, ws.word, ws.w02, ws.w12, fun r hr => rok r hr rs, lrs6⟩
        have hlen : ∀ x ∈ [n0, n1, n2], x.length ≤ 1000 := fun x hx => by
          simp only [List.mem_cons, List.not_mem_nil, or_false] at hx
          rcases hx with rfl | rfl | rfl
          · exact nk0.len
          · exact nk1.len
          · exact nk2.len
        have gok' : ∀ g ∈ gs, GoalOk ⟨w0, w1, w2, [n0, n1, n2], rs⟩ 0 g := fun g hg => gok g hg rs
        have gc := gcost rs
        generalize hcx : (⟨w0, w1, w2, [n0, n1, n2], rs⟩ : Cx) = cx at *
        have eR : cx.R = rs := by rw [← hcx]
        have enb : cx.nb = [n0, n1, n2] := by rw [← hcx]
        rw [← enb] at nmem hlen
        have wl : (Az cx gs [] []).1.length ≤ 10077696 := pow9L (A_ok cok (costL cx gs) gs [] [] (by simpa using (by omega : costL cx gs ≤ 9)) OKs.nil gok').1 (by omega)
        have fok : ∀ x ∈ (Az cx gs [] []).1, OKs (PT 3 cx.nb x.2.length) x.1 := fun x hx => ((A_ok cok (costL cx gs) gs [] [] (by simpa using (by omega : costL cx gs ≤ 9)) OKs.nil gok').2 x hx).ok
        refine ⟨_, rfl, D, rvs, rfl, .inl (SqL.of (S16 _ _ hDvG)), fun l17 hl17 => ⟨_, rfl, l6, gvs, rfl, .inl (SqL.of ((same_new hl17) _ _ (S16 _ _ hl6g))), fun l18 hl18 => ?_⟩⟩
        have x17 := same_new (o := .lst rvs) hl17
        have x18 := same_new (o := .lst gvs) hl18
        have S18 := S16.trans (x17.trans x18)
        refine ⟨_, rfl, cx, cok, hlen, l17, l18, gvs, gs, 1 + nm, ?_, ⟨rvs, SqL.of (x18 _ _ upd_same), by rw [eR]; exact hrsG.imp fun _ _ q => q.samT (same_t S18)⟩, SqL.of upd_same, Trs.same S18 hgs, gok', by omega, by omega, nmem, nlen, fun G19 fa lg ev tk fvs given kk s19 hfa hlg hgiv hend hM hGs hall hen hie => ?_⟩
        · show [V.ref l17, V.ref l18, V.int 400, V.int (1 + ((nm : Nat) : Int))] = _
          rw [show (1 : Int) + ((nm : Nat) : Int) = ((1 + nm : Nat) : Int) by omega]
        have S19 := S18.trans s19
        have hask19 := ((x17.trans x18).trans s19) _ _ hask
        have hD19 := S19 _ _ hDvG
        have hl19 := S19 _ _ hl6g
        refine ⟨_, rfl, _, rfl, fun d20 hd20 => ⟨Nat.zero_le _, fun l21 hl21 => ?_⟩⟩
        have x20 := same_new (o := .dK []) hd20
        have x21 := same_new (o := .lst []) hl21
        have S21 := S19.trans (x20.trans x21)
        refine ⟨cx, costL cx gs, cok, hlen, by omega, D, l6, d20, l21, gvs, gs, [], [], rfl, ⟨rvs, SqL.of (S21 _ _ hDvG), by rw [eR]; exact hrsG.imp fun _ _ q => q.samT (same_t S21)⟩, SqL.of (S21 _ _ hl6g), Trs.same S21 hgs, ⟨[], x21 _ _ upd_same, ?_⟩, upd_same, OKs.nil, gok', Nat.le_refl _, ?_, fun G22 r22 s22 hA => ?_⟩
        · trivial
        · show 0 + costL cx gs ≤ 9
          omega
        obtain ⟨pa, lwy, wvs, rfl, hpa, hlwy, hwy⟩ := hA
        refine ⟨pa, _, 0, .ref lwy, rfl, rfl, hpa, rfl, ?_⟩
        have hways : (Gt.A cx.R (costL cx gs) gs [] []).1 = (Az cx gs [] []).1 := rfl
        rw [hways] at hwy
        generalize hW : (Az cx gs [] []).1 = ways at *
        have s1922 := (x20.trans x21).trans s22
        have S22 := S19.trans s1922
        have hfa22 := same_sqt s1922 hfa
        have hlg22 := s1922 _ _ hlg
        have hgiv22 : F2 (GivAt K G22 (namesOf gs)) fvs given := hgiv.imp fun _ _ q => q.same s1922
        have hend22 := hend.same s1922
        have hask22 := s1922 _ _ hask19
        obtain ⟨tM, lM, hM⟩ := hM
        obtain ⟨hpre, hprel⟩ := hM.pre
        have lf := hgiv22.len
        have lenW := hwy.len
        obtain ⟨ea, rfl, hea⟩ := hend22
        have dE : ∀ {G : Hp}, Same G22 G → Dp K G (.ref ea) (.tuple [.str kk]) := fun s => .tup (same_sqt s hea) (.cons (.str _) .nil)
        have dW : ∀ {G : Hp} {p : Addr} {x : Str}, G p = some (.tup [.str x]) → Dp K G (.ref p) (.tuple [.str x]) := fun h => .tup (SqT.of h) (.cons (.str _) .nil)
        have de : ∀ x : Str, (PyData.tuple [.str x]).depth ≤ 5 := fun x => by simp [PyData.depth, PyData.depthAll]
        refine ⟨_, rfl, fa, _, 1, _, rfl, rfl, hfa22, rfl, (by show 1 ≤ sizeLine; decide), fun t23 ht23 => ?_⟩
        have x23 := same_new (o := .tup [.str "all"]) ht23
        refine ⟨_, _, dE x23, dW upd_same, rfl, rfl, by have := de kk; have := de "all"; omega, _, rfl, ?_⟩
        have hlwy23 := x23 _ _ hlwy
        have hfa23 := same_sqt x23 hfa22
        have hlg23 := x23 _ _ hlg22
        generalize upd G22 t23 (.tup [.str "all"]) = G23 at *
        refine join3 ?_ (fun hb k => ?_)
        rotate_left
        · rw [end_eqv] at hb
          have := hall (of_decide_eq_true hb)
          have el : wvs.length = fvs.length := by omega
          refine ⟨_, rfl, lwy, _, rfl, .inl (SqL.of hlwy23), _, rfl, fa, _, 0, _, rfl, rfl, hfa23, rfl, lg, _, rfl, .inl (SqL.of hlg23), rfl, false, by rw [el]; simp, k⟩
        refine iteF ⟨_, rfl, lwy, _, rfl, .inl (SqL.of hlwy23), _, rfl, fa, _, 0, _, rfl, rfl, hfa23, rfl, lg, _, rfl, .inl (SqL.of hlg23), _, _, rfl, rfl, false, ?_, iteF ?_⟩
        · exact congrArg V.bl (decide_eq_false (by omega))
        have sG23 : Same G22 G23 := x23
        refine ⟨_, rfl, fa, _, 1, _, rfl, rfl, hfa23, rfl, (by show 1 ≤ sizeLine; decide), fun t24 ht24 => ?_⟩
        have x24 := same_new (o := .tup [.str "enough"]) ht24
        refine ⟨_, _, dE (sG23.trans x24), dW upd_same, rfl, rfl, by have := de kk; have := de "enough"; omega, _, rfl, ?_⟩
        have sG24 := sG23.trans x24
        have hlwy24 := sG24 _ _ hlwy
        have hfa24 := same_sqt sG24 hfa22
        have hlg24 := sG24 _ _ hlg22
        generalize upd G23 t24 (.tup [.str "enough"]) = G24 at *
        refine join3 ?_ (fun hb k => ?_)
        rotate_left
        · rw [end_eqv] at hb
          have := hen (of_decide_eq_true hb)
          refine ⟨_, rfl, fa, _, 0, _, rfl, rfl, hfa24, rfl, lg, _, rfl, .inl (SqL.of hlg24), _, rfl, rfl, false, ?_, k⟩
          have e : ((fvs.length : Nat) : Int) = 1 + ((nm : Nat) : Int) := by omega
          simp [e]
        refine iteF ⟨_, rfl, _, rfl, fa, _, 0, _, rfl, rfl, hfa24, rfl, lg, _, rfl, .inl (SqL.of hlg24), ((fvs.length : Nat) : Int), rfl, lwy, _, rfl, SqL.of hlwy24, fun t25 ht25 => ?_⟩
        have x25 := same_new (o := .lst (cutV wvs none (some ((fvs.length : Nat) : Int)))) ht25
        have ec : cutV wvs none (some ((fvs.length : Nat) : Int)) = wvs.take fvs.length := cut_headV (by omega)
        rw [ec] at x25 ⊢
        have sG25 := sG24.trans x25
        have h25 : upd G24 t25 (.lst (wvs.take fvs.length)) t25 = some (.lst (wvs.take fvs.length)) := upd_same
        generalize upd G24 t25 (.lst (wvs.take fvs.length)) = G25 at *
        refine ⟨t25, rfl, ⟨_, SqL.of h25⟩, fun D2 hD2 => ?_⟩
        have hwy25 : Fds K G25 wvs ways := Fds.same sG25 hwy
        have lt : (wvs.take fvs.length).length = given.length := by rw [List.length_take]; omega
        refine lc_two (K := K) (a := t25) (xs := wvs.take fvs.length) (i := 14) (j := 15) (by decide) (Nat.lt_of_lt_of_eq (by decide : 14 < 16) rfl) (Nat.lt_of_lt_of_eq (by decide : 15 < 16) rfl) (fun i H' => Same G25 H' ∧ ∃ us, H' D2 = some (.lst us) ∧ F2 (GivD K H' D2 (namesOf gs)) us ((ways.take i).map (toldOf (namesOf gs)))) ⟨same_new hD2, [], upd_same, trivial⟩ (fun j H' _ h => h.1.seq (SqL.of h25)) (fun i x H' hx ⟨s26, us, hDu, hus⟩ => ?_) (fun H1 ⟨s26, us, hDu, hus⟩ => ?_)
        · have hi : i < given.length := by
            have := (List.getElem?_eq_some_iff.mp hx).1
            omega
          have hx' : wvs[i]? = some x := by
            rw [List.getElem?_take] at hx
            rw [if_pos (by omega)] at hx
            exact hx
          obtain ⟨⟨p, wy⟩, hy, a26, d26, wv26, rfl, e1, e2, e3⟩ := hwy25.get hx'
          have hyi := (List.getElem?_eq_some_iff.mp hy).1
          have sz40 : Tm.sizeL ((asT (namesOf gs)).map (rd p)) ≤ 40 := by
            have hg : given[i]? = some (toldOf (namesOf gs) (p, wy)) := by rw [hpre, List.getElem?_map, List.getElem?_take, if_pos hi, hy]; rfl
            have h := hGs _ (List.mem_of_getElem? hg)
            rw [show (toldOf (namesOf gs) (p, wy)).1 = toldL ((asT (namesOf gs)).map (rd p)) from rfl, told_size] at h
            exact h
          have fo := fok _ (List.mem_of_getElem? hy)
          have sG26 := s1922
          refine ⟨a26, .ref d26, .ref wv26, rfl, same_sqt s26 e1, fun σ2 g14 g15 gm => ?_⟩
          have nD : wv26 ≠ D2 := ne_of_none e3 hD2
          refine ⟨.ref l15, (gm 10 (by decide) (by decide)).trans rfl, _, g14, _, g15, l15, d26, wv26, namesOf gs, p, wy.length, cx.nb, rfl, SqL.of ((sG25.trans s26) _ _ hask22), e2.same s26, fo.mono fun t h => h.mono (by decide) (Nat.le_refl _), fun x hx => ⟨?_, ?_⟩, by omega, fun H5 r l s5' hl5' hT => ?_⟩
          · exact (pt_any (nmem x hx)).mono (by decide) (Nat.zero_le _)
          · have := dep_sizeL (ts := (asT (namesOf gs)).map (rd p)) (t := rd p (.any x)) (List.mem_map.mpr ⟨.any x, List.mem_map.mpr ⟨x, hx, rfl⟩, rfl⟩)
            omega
          · have hDu5 := s5' _ _ hDu
            have lu := hus.len
            rw [List.length_map, List.length_take] at lu
            have o1 : Off D2 H' H5 := off_same hDu s5'
            have o2 : Off D2 H5 (upd H5 D2 (.lst (us ++ [r]))) := off_upd hDu5
            refine ⟨us, hDu5, by omega, same_upd (s26.trans s5') hD2, us ++ [r], upd_same, ?_⟩
            have et : (ways.take (i + 1)).map (toldOf (namesOf gs)) = (ways.take i).map (toldOf (namesOf gs)) ++ [toldOf (namesOf gs) (p, wy)] := by
              rw [List.take_add_one, hy, List.map_append]; rfl
            rw [et]
            refine (hus.imp fun _ _ q => (q.off o1).off o2).app ⟨GivD.off o2 ⟨l, wv26, hT, (s26.trans s5') _ _ e3, ne_of_none hDu hl5' |>.symm, nD⟩, trivial⟩
        · rw [lt, ← hpre] at hus
          have hus2 : F2 (GivAt K H1 (namesOf gs)) us given := hus.imp fun _ _ q => q.giv
          have sH1 := sG25.trans s26
          have hgv : F2 (GivAt K H1 (namesOf gs)) fvs given := hgiv22.imp fun _ _ q => q.same sH1
          have hfaH := same_sqt sH1 hfa22
          have hlgH := sH1 _ _ hlg22
          have pl : (PyData.list (given.map (gvd (namesOf gs)))).plain = true := plainAll_map (gvd_plain _) _
          have dz : (PyData.list (given.map (gvd (namesOf gs)))).depth ≤ 95 := by
            have := depthAll_map (f := gvd (namesOf gs)) (m := 90) given fun x hx => gvd_depth _ (hGs x hx)
            simp only [PyData.depth]
            omega
          refine ⟨_, rfl, fa, _, 0, _, rfl, rfl, hfaH, rfl, _, rfl, _, _, .lst (SqL.of hlgH) (givs_dp hgv), .lst (SqL.of hDu) (givs_dp hus2), pl, pl, by omega, true, ?_, iteT ?_⟩
          · rw [PySem.SeqAt.eqv_refl_plain _ pl]
          refine ⟨_, rfl, fa, _, 1, _, rfl, rfl, hfaH, rfl, (by show 1 ≤ sizeLine; decide), fun e1 he1 => ⟨(by show 1 ≤ sizeLine; decide), fun e2 he2 => ⟨(by show 1 ≤ sizeLine; decide), fun e3 he3 => ⟨(by show 1 ≤ sizeLine; decide), fun e4 he4 => ⟨(by show 4 ≤ sizeLine; decide), fun e5 he5 => ?_⟩⟩⟩⟩⟩
          have z1 := same_new (o := .tup [.str "all"]) he1
          have z2 := same_new (o := .tup [.str "enough"]) he2
          have z3 := same_new (o := .tup [.str "spent"]) he3
          have z4 := same_new (o := .tup [.str "big"]) he4
          have z5 := same_new (o := .tup [.ref e1, .ref e2, .ref e3, .ref e4]) he5
          have z25 := z2.trans (z3.trans (z4.trans z5))
          refine ⟨_, [.tuple [.str "all"], .tuple [.str "enough"], .tuple [.str "spent"], .tuple [.str "big"]], dE (sH1.trans (z1.trans z25)), .tup (SqT.of upd_same) (.cons (dW (z25 _ _ upd_same)) (.cons (dW ((z3.trans (z4.trans z5)) _ _ upd_same)) (.cons (dW ((z4.trans z5) _ _ upd_same)) (.cons (dW (z5 _ _ upd_same)) .nil)))), rfl, rfl, by have := de kk; omega, ?_⟩
          have ha : ([.tuple [.str "all"], .tuple [.str "enough"], .tuple [.str "spent"], .tuple [.str "big"]] : List PyData).any (fun e => PyData.eqv e (.tuple [.str kk])) = true := by
            simp only [List.any_cons, List.any_nil, end_eqv]
            rcases hie with rfl | rfl | rfl | rfl <;> simp
          rw [ha]
          exact q _
end
end Gt
set_option Elab.async false
set_option linter.all false
set_option maxRecDepth 100000
set_option maxHeartbeats 4000000
/-! The facts of the text gathered. -/
namespace Gt
open PySem L2
section
variable {K : PySem.W.Frag} {h : Heap} {mg : Str → Option Value} {R : Prop} {C : Addr}
theorem k_def (X : K.In h) (G : h.Ns mainGlobals mg) {x : Str} {st : Stmt} {ps : List Str} {od an : Option Addr} {f : Addr} {sl : Array (Option Value)} {oc kV dc pm cd ct : Value}
    (hb : ∀ (kV doc pm : Value) (an : Option Addr) (cdv ct : Value) (us : List Value), us.length = ps.length → bindArgs (PySem.W.fnOf x x (defArgs st) (defBody st) (defScope st) .none kV doc pm an cdv ct) ⟨us, []⟩ = pure (ps.zip us))
    (a : PySem.W.nsIn K mainGlobals x = some (some (.ref f))) (l : K.lookup f = some ⟨oc, od, .func (PySem.W.fnOf x x (defArgs st) (defBody st) (defScope st) .none kV dc pm an cd ct), sl⟩) (c : PySem.W.codeIn K cd x = true) (k : PySem.W.keepIn K (.ref f) = true)
    (go : DefAt K mg x st ps → R) : R :=
  go ⟨f, _, fun_mk l c k, PySem.W.mg_of X G a, (fun_mk l c k).binds hb⟩
structure MethAt (K : PySem.W.Frag) (C : Addr) (x qual : Str) (st : Stmt) (ps : List Str) where
  f : Addr
  fd : FuncData
  F : Fun K x qual st f fd
  a : PySem.W.findIn K (.ref C) x = some (some (.ref f))
  i : PySem.W.isFn K (.ref f) = true
  b : Binds K fd ps []
theorem MethAt.m {x qual : Str} {st : Stmt} {ps : List Str} (M : MethAt K C x qual st ps) : Meth K C x M.f := ⟨M.a, M.i, M.F.kp⟩
def IsRun (K : PySem.W.Frag) (C : Addr) : Prop := PySem.W.nsIn K mainGlobals "Run" = some (some (.ref C))
theorem k_C (_ : K.In h) (aC : PySem.W.nsIn K mainGlobals "Run" = some (some (.ref C))) (go : IsRun K C → R) : R := go aC
theorem k_meth {x qual : Str} {st : Stmt} {ps : List Str} {od an : Option Addr} {f : Addr} {sl : Array (Option Value)} {oc kV dc pm cd ct : Value}
    (hb : ∀ (kV doc pm : Value) (an : Option Addr) (cdv ct : Value) (us : List Value), us.length = ps.length → bindArgs (PySem.W.fnOf x qual (defArgs st) (defBody st) (defScope st) .none kV doc pm an cdv ct) ⟨us, []⟩ = pure (ps.zip us))
    (a : PySem.W.findIn K (.ref C) x = some (some (.ref f))) (i : PySem.W.isFn K (.ref f) = true) (l : K.lookup f = some ⟨oc, od, .func (PySem.W.fnOf x qual (defArgs st) (defBody st) (defScope st) .none kV dc pm an cd ct), sl⟩) (c : PySem.W.codeIn K cd qual = true) (k : PySem.W.keepIn K (.ref f) = true)
    (go : MethAt K C x qual st ps → R) : R :=
  go ⟨f, _, fun_mk l c k, a, i, (fun_mk l c k).binds hb⟩
theorem k_unknown (X : K.In h) (G : h.Ns mainGlobals mg) {od an : Option Addr} {f : Addr} {sl : Array (Option Value)} {oc kV dc pm cd ct : Value} (a : PySem.W.nsIn K mainGlobals "unknown" = some (some (.ref f))) (l : K.lookup f = some ⟨oc, od, .func (PySem.W.fnOf "unknown" "unknown" (defArgs s_unknown) (defBody s_unknown) (defScope s_unknown) .none kV dc pm an cd ct), sl⟩) (c : PySem.W.codeIn K cd "unknown" = true) (k : PySem.W.keepIn K (.ref f) = true) (go : DefAt K mg "unknown" s_unknown ["name"] → R) : R := k_def X G (fun _ _ _ _ _ _ us hl => match us, hl with | [_], _ => rfl) a l c k go
theorem k_app (X : K.In h) (G : h.Ns mainGlobals mg) {od an : Option Addr} {f : Addr} {sl : Array (Option Value)} {oc kV dc pm cd ct : Value} (a : PySem.W.nsIn K mainGlobals "app" = some (some (.ref f))) (l : K.lookup f = some ⟨oc, od, .func (PySem.W.fnOf "app" "app" (defArgs s_app) (defBody s_app) (defScope s_app) .none kV dc pm an cd ct), sl⟩) (c : PySem.W.codeIn K cd "app" = true) (k : PySem.W.keepIn K (.ref f) = true) (go : DefAt K mg "app" s_app ["sign", "kids"] → R) : R := k_def X G (fun _ _ _ _ _ _ us hl => match us, hl with | [_, _], _ => rfl) a l c k go
theorem k_unknowns_of (X : K.In h) (G : h.Ns mainGlobals mg) {od an : Option Addr} {f : Addr} {sl : Array (Option Value)} {oc kV dc pm cd ct : Value} (a : PySem.W.nsIn K mainGlobals "unknowns_of" = some (some (.ref f))) (l : K.lookup f = some ⟨oc, od, .func (PySem.W.fnOf "unknowns_of" "unknowns_of" (defArgs s_unknowns_of) (defBody s_unknowns_of) (defScope s_unknowns_of) .none kV dc pm an cd ct), sl⟩) (c : PySem.W.codeIn K cd "unknowns_of" = true) (k : PySem.W.keepIn K (.ref f) = true) (go : DefAt K mg "unknowns_of" s_unknowns_of ["terms"] → R) : R := k_def X G (fun _ _ _ _ _ _ us hl => match us, hl with | [_], _ => rfl) a l c k go
theorem k_renamed (X : K.In h) (G : h.Ns mainGlobals mg) {od an : Option Addr} {f : Addr} {sl : Array (Option Value)} {oc kV dc pm cd ct : Value} (a : PySem.W.nsIn K mainGlobals "renamed" = some (some (.ref f))) (l : K.lookup f = some ⟨oc, od, .func (PySem.W.fnOf "renamed" "renamed" (defArgs s_renamed) (defBody s_renamed) (defScope s_renamed) .none kV dc pm an cd ct), sl⟩) (c : PySem.W.codeIn K cd "renamed" = true) (k : PySem.W.keepIn K (.ref f) = true) (go : DefAt K mg "renamed" s_renamed ["term", "names"] → R) : R := k_def X G (fun _ _ _ _ _ _ us hl => match us, hl with | [_, _], _ => rfl) a l c k go
theorem k_told_anew (X : K.In h) (G : h.Ns mainGlobals mg) {od an : Option Addr} {f : Addr} {sl : Array (Option Value)} {oc kV dc pm cd ct : Value} (a : PySem.W.nsIn K mainGlobals "told_anew" = some (some (.ref f))) (l : K.lookup f = some ⟨oc, od, .func (PySem.W.fnOf "told_anew" "told_anew" (defArgs s_told_anew) (defBody s_told_anew) (defScope s_told_anew) .none kV dc pm an cd ct), sl⟩) (c : PySem.W.codeIn K cd "told_anew" = true) (k : PySem.W.keepIn K (.ref f) = true) (go : DefAt K mg "told_anew" s_told_anew ["terms"] → R) : R := k_def X G (fun _ _ _ _ _ _ us hl => match us, hl with | [_], _ => rfl) a l c k go
theorem k_marked (X : K.In h) (G : h.Ns mainGlobals mg) {od an : Option Addr} {f : Addr} {sl : Array (Option Value)} {oc kV dc pm cd ct : Value} (a : PySem.W.nsIn K mainGlobals "marked" = some (some (.ref f))) (l : K.lookup f = some ⟨oc, od, .func (PySem.W.fnOf "marked" "marked" (defArgs s_marked) (defBody s_marked) (defScope s_marked) .none kV dc pm an cd ct), sl⟩) (c : PySem.W.codeIn K cd "marked" = true) (k : PySem.W.keepIn K (.ref f) = true) (go : DefAt K mg "marked" s_marked ["term", "n"] → R) : R := k_def X G (fun _ _ _ _ _ _ us hl => match us, hl with | [_, _], _ => rfl) a l c k go
theorem k_walked (X : K.In h) (G : h.Ns mainGlobals mg) {od an : Option Addr} {f : Addr} {sl : Array (Option Value)} {oc kV dc pm cd ct : Value} (a : PySem.W.nsIn K mainGlobals "walked" = some (some (.ref f))) (l : K.lookup f = some ⟨oc, od, .func (PySem.W.fnOf "walked" "walked" (defArgs s_walked) (defBody s_walked) (defScope s_walked) .none kV dc pm an cd ct), sl⟩) (c : PySem.W.codeIn K cd "walked" = true) (k : PySem.W.keepIn K (.ref f) = true) (go : DefAt K mg "walked" s_walked ["term", "puts"] → R) : R := k_def X G (fun _ _ _ _ _ _ us hl => match us, hl with | [_, _], _ => rfl) a l c k go
theorem k_parts_up_to (X : K.In h) (G : h.Ns mainGlobals mg) {od an : Option Addr} {f : Addr} {sl : Array (Option Value)} {oc kV dc pm cd ct : Value} (a : PySem.W.nsIn K mainGlobals "parts_up_to" = some (some (.ref f))) (l : K.lookup f = some ⟨oc, od, .func (PySem.W.fnOf "parts_up_to" "parts_up_to" (defArgs s_parts_up_to) (defBody s_parts_up_to) (defScope s_parts_up_to) .none kV dc pm an cd ct), sl⟩) (c : PySem.W.codeIn K cd "parts_up_to" = true) (k : PySem.W.keepIn K (.ref f) = true) (go : DefAt K mg "parts_up_to" s_parts_up_to ["term", "puts", "most"] → R) : R := k_def X G (fun _ _ _ _ _ _ us hl => match us, hl with | [_, _, _], _ => rfl) a l c k go
theorem k_put_in (X : K.In h) (G : h.Ns mainGlobals mg) {od an : Option Addr} {f : Addr} {sl : Array (Option Value)} {oc kV dc pm cd ct : Value} (a : PySem.W.nsIn K mainGlobals "put_in" = some (some (.ref f))) (l : K.lookup f = some ⟨oc, od, .func (PySem.W.fnOf "put_in" "put_in" (defArgs s_put_in) (defBody s_put_in) (defScope s_put_in) .none kV dc pm an cd ct), sl⟩) (c : PySem.W.codeIn K cd "put_in" = true) (k : PySem.W.keepIn K (.ref f) = true) (go : DefAt K mg "put_in" s_put_in ["term", "puts"] → R) : R := k_def X G (fun _ _ _ _ _ _ us hl => match us, hl with | [_, _], _ => rfl) a l c k go
theorem k_written_out (X : K.In h) (G : h.Ns mainGlobals mg) {od an : Option Addr} {f : Addr} {sl : Array (Option Value)} {oc kV dc pm cd ct : Value} (a : PySem.W.nsIn K mainGlobals "written_out" = some (some (.ref f))) (l : K.lookup f = some ⟨oc, od, .func (PySem.W.fnOf "written_out" "written_out" (defArgs s_written_out) (defBody s_written_out) (defScope s_written_out) .none kV dc pm an cd ct), sl⟩) (c : PySem.W.codeIn K cd "written_out" = true) (k : PySem.W.keepIn K (.ref f) = true) (go : DefAt K mg "written_out" s_written_out ["term", "puts"] → R) : R := k_def X G (fun _ _ _ _ _ _ us hl => match us, hl with | [_, _], _ => rfl) a l c k go
theorem k_head_of (X : K.In h) (G : h.Ns mainGlobals mg) {od an : Option Addr} {f : Addr} {sl : Array (Option Value)} {oc kV dc pm cd ct : Value} (a : PySem.W.nsIn K mainGlobals "head_of" = some (some (.ref f))) (l : K.lookup f = some ⟨oc, od, .func (PySem.W.fnOf "head_of" "head_of" (defArgs s_head_of) (defBody s_head_of) (defScope s_head_of) .none kV dc pm an cd ct), sl⟩) (c : PySem.W.codeIn K cd "head_of" = true) (k : PySem.W.keepIn K (.ref f) = true) (go : DefAt K mg "head_of" s_head_of ["term"] → R) : R := k_def X G (fun _ _ _ _ _ _ us hl => match us, hl with | [_], _ => rfl) a l c k go
theorem k_stands_in (X : K.In h) (G : h.Ns mainGlobals mg) {od an : Option Addr} {f : Addr} {sl : Array (Option Value)} {oc kV dc pm cd ct : Value} (a : PySem.W.nsIn K mainGlobals "stands_in" = some (some (.ref f))) (l : K.lookup f = some ⟨oc, od, .func (PySem.W.fnOf "stands_in" "stands_in" (defArgs s_stands_in) (defBody s_stands_in) (defScope s_stands_in) .none kV dc pm an cd ct), sl⟩) (c : PySem.W.codeIn K cd "stands_in" = true) (k : PySem.W.keepIn K (.ref f) = true) (go : DefAt K mg "stands_in" s_stands_in ["name", "term", "puts"] → R) : R := k_def X G (fun _ _ _ _ _ _ us hl => match us, hl with | [_, _, _], _ => rfl) a l c k go
theorem k_kids_of (X : K.In h) (G : h.Ns mainGlobals mg) {od an : Option Addr} {f : Addr} {sl : Array (Option Value)} {oc kV dc pm cd ct : Value} (a : PySem.W.nsIn K mainGlobals "kids_of" = some (some (.ref f))) (l : K.lookup f = some ⟨oc, od, .func (PySem.W.fnOf "kids_of" "kids_of" (defArgs s_kids_of) (defBody s_kids_of) (defScope s_kids_of) .none kV dc pm an cd ct), sl⟩) (c : PySem.W.codeIn K cd "kids_of" = true) (k : PySem.W.keepIn K (.ref f) = true) (go : DefAt K mg "kids_of" s_kids_of ["path", "one", "other"] → R) : R := k_def X G (fun _ _ _ _ _ _ us hl => match us, hl with | [_, _, _], _ => rfl) a l c k go
theorem k_made_one (X : K.In h) (G : h.Ns mainGlobals mg) {od an : Option Addr} {f : Addr} {sl : Array (Option Value)} {oc kV dc pm cd ct : Value} (a : PySem.W.nsIn K mainGlobals "made_one" = some (some (.ref f))) (l : K.lookup f = some ⟨oc, od, .func (PySem.W.fnOf "made_one" "made_one" (defArgs s_made_one) (defBody s_made_one) (defScope s_made_one) .none kV dc pm an cd ct), sl⟩) (c : PySem.W.codeIn K cd "made_one" = true) (k : PySem.W.keepIn K (.ref f) = true) (go : DefAt K mg "made_one" s_made_one ["one", "other", "puts"] → R) : R := k_def X G (fun _ _ _ _ _ _ us hl => match us, hl with | [_, _, _], _ => rfl) a l c k go
theorem k_deed (X : K.In h) (G : h.Ns mainGlobals mg) {od an : Option Addr} {f : Addr} {sl : Array (Option Value)} {oc kV dc pm cd ct : Value} (a : PySem.W.nsIn K mainGlobals "deed" = some (some (.ref f))) (l : K.lookup f = some ⟨oc, od, .func (PySem.W.fnOf "deed" "deed" (defArgs s_deed) (defBody s_deed) (defScope s_deed) .none kV dc pm an cd ct), sl⟩) (c : PySem.W.codeIn K cd "deed" = true) (k : PySem.W.keepIn K (.ref f) = true) (go : DefAt K mg "deed" s_deed ["goal", "puts"] → R) : R := k_def X G (fun _ _ _ _ _ _ us hl => match us, hl with | [_, _], _ => rfl) a l c k go
theorem k_same_word (X : K.In h) (G : h.Ns mainGlobals mg) {od an : Option Addr} {f : Addr} {sl : Array (Option Value)} {oc kV dc pm cd ct : Value} (a : PySem.W.nsIn K mainGlobals "same_word" = some (some (.ref f))) (l : K.lookup f = some ⟨oc, od, .func (PySem.W.fnOf "same_word" "same_word" (defArgs s_same_word) (defBody s_same_word) (defScope s_same_word) .none kV dc pm an cd ct), sl⟩) (c : PySem.W.codeIn K cd "same_word" = true) (k : PySem.W.keepIn K (.ref f) = true) (go : DefAt K mg "same_word" s_same_word ["head", "goal"] → R) : R := k_def X G (fun _ _ _ _ _ _ us hl => match us, hl with | [_, _], _ => rfl) a l c k go
theorem k_law_cell_at (X : K.In h) (G : h.Ns mainGlobals mg) {od an : Option Addr} {f : Addr} {sl : Array (Option Value)} {oc kV dc pm cd ct : Value} (a : PySem.W.nsIn K mainGlobals "_law_cell_at" = some (some (.ref f))) (l : K.lookup f = some ⟨oc, od, .func (PySem.W.fnOf "_law_cell_at" "_law_cell_at" (defArgs s_law_cell_at) (defBody s_law_cell_at) (defScope s_law_cell_at) .none kV dc pm an cd ct), sl⟩) (c : PySem.W.codeIn K cd "_law_cell_at" = true) (k : PySem.W.keepIn K (.ref f) = true) (go : DefAt K mg "_law_cell_at" s_law_cell_at ["_law_script", "_law_k"] → R) : R := k_def X G (fun _ _ _ _ _ _ us hl => match us, hl with | [_, _], _ => rfl) a l c k go
theorem k_law_pick (X : K.In h) (G : h.Ns mainGlobals mg) {od an : Option Addr} {f : Addr} {sl : Array (Option Value)} {oc kV dc pm cd ct : Value} (a : PySem.W.nsIn K mainGlobals "_law_pick" = some (some (.ref f))) (l : K.lookup f = some ⟨oc, od, .func (PySem.W.fnOf "_law_pick" "_law_pick" (defArgs s_law_pick) (defBody s_law_pick) (defScope s_law_pick) .none kV dc pm an cd ct), sl⟩) (c : PySem.W.codeIn K cd "_law_pick" = true) (k : PySem.W.keepIn K (.ref f) = true) (go : DefAt K mg "_law_pick" s_law_pick ["_law_cell", "_law_k", "_law_many"] → R) : R := k_def X G (fun _ _ _ _ _ _ us hl => match us, hl with | [_, _, _], _ => rfl) a l c k go
theorem k_law_words (X : K.In h) (G : h.Ns mainGlobals mg) {od an : Option Addr} {f : Addr} {sl : Array (Option Value)} {oc kV dc pm cd ct : Value} (a : PySem.W.nsIn K mainGlobals "_law_words" = some (some (.ref f))) (l : K.lookup f = some ⟨oc, od, .func (PySem.W.fnOf "_law_words" "_law_words" (defArgs s_law_words) (defBody s_law_words) (defScope s_law_words) .none kV dc pm an cd ct), sl⟩) (c : PySem.W.codeIn K cd "_law_words" = true) (k : PySem.W.keepIn K (.ref f) = true) (go : DefAt K mg "_law_words" s_law_words ["_law_cell"] → R) : R := k_def X G (fun _ _ _ _ _ _ us hl => match us, hl with | [_], _ => rfl) a l c k go
theorem k_law_names (X : K.In h) (G : h.Ns mainGlobals mg) {od an : Option Addr} {f : Addr} {sl : Array (Option Value)} {oc kV dc pm cd ct : Value} (a : PySem.W.nsIn K mainGlobals "_law_names" = some (some (.ref f))) (l : K.lookup f = some ⟨oc, od, .func (PySem.W.fnOf "_law_names" "_law_names" (defArgs s_law_names) (defBody s_law_names) (defScope s_law_names) .none kV dc pm an cd ct), sl⟩) (c : PySem.W.codeIn K cd "_law_names" = true) (k : PySem.W.keepIn K (.ref f) = true) (go : DefAt K mg "_law_names" s_law_names ["_law_words_here", "_law_cell"] → R) : R := k_def X G (fun _ _ _ _ _ _ us hl => match us, hl with | [_, _], _ => rfl) a l c k go
theorem k_law_thing (X : K.In h) (G : h.Ns mainGlobals mg) {od an : Option Addr} {f : Addr} {sl : Array (Option Value)} {oc kV dc pm cd ct : Value} (a : PySem.W.nsIn K mainGlobals "_law_thing" = some (some (.ref f))) (l : K.lookup f = some ⟨oc, od, .func (PySem.W.fnOf "_law_thing" "_law_thing" (defArgs s_law_thing) (defBody s_law_thing) (defScope s_law_thing) .none kV dc pm an cd ct), sl⟩) (c : PySem.W.codeIn K cd "_law_thing" = true) (k : PySem.W.keepIn K (.ref f) = true) (go : DefAt K mg "_law_thing" s_law_thing ["_law_cell", "_law_names_here", "_law_words_here", "_law_often", "_law_deep"] → R) : R := k_def X G (fun _ _ _ _ _ _ us hl => match us, hl with | [_, _, _, _, _], _ => rfl) a l c k go
theorem k_law_goal (X : K.In h) (G : h.Ns mainGlobals mg) {od an : Option Addr} {f : Addr} {sl : Array (Option Value)} {oc kV dc pm cd ct : Value} (a : PySem.W.nsIn K mainGlobals "_law_goal" = some (some (.ref f))) (l : K.lookup f = some ⟨oc, od, .func (PySem.W.fnOf "_law_goal" "_law_goal" (defArgs s_law_goal) (defBody s_law_goal) (defScope s_law_goal) .none kV dc pm an cd ct), sl⟩) (c : PySem.W.codeIn K cd "_law_goal" = true) (k : PySem.W.keepIn K (.ref f) = true) (go : DefAt K mg "_law_goal" s_law_goal ["_law_cell", "_law_names_here", "_law_words_here", "_law_level"] → R) : R := k_def X G (fun _ _ _ _ _ _ us hl => match us, hl with | [_, _, _, _], _ => rfl) a l c k go
theorem k_law_rule (X : K.In h) (G : h.Ns mainGlobals mg) {od an : Option Addr} {f : Addr} {sl : Array (Option Value)} {oc kV dc pm cd ct : Value} (a : PySem.W.nsIn K mainGlobals "_law_rule" = some (some (.ref f))) (l : K.lookup f = some ⟨oc, od, .func (PySem.W.fnOf "_law_rule" "_law_rule" (defArgs s_law_rule) (defBody s_law_rule) (defScope s_law_rule) .none kV dc pm an cd ct), sl⟩) (c : PySem.W.codeIn K cd "_law_rule" = true) (k : PySem.W.keepIn K (.ref f) = true) (go : DefAt K mg "_law_rule" s_law_rule ["_law_script", "_law_k", "_law_names_here", "_law_words_here"] → R) : R := k_def X G (fun _ _ _ _ _ _ us hl => match us, hl with | [_, _, _, _], _ => rfl) a l c k go
theorem k_law_walk (X : K.In h) (G : h.Ns mainGlobals mg) {od an : Option Addr} {f : Addr} {sl : Array (Option Value)} {oc kV dc pm cd ct : Value} (a : PySem.W.nsIn K mainGlobals "_law_walk" = some (some (.ref f))) (l : K.lookup f = some ⟨oc, od, .func (PySem.W.fnOf "_law_walk" "_law_walk" (defArgs s_law_walk) (defBody s_law_walk) (defScope s_law_walk) .none kV dc pm an cd ct), sl⟩) (c : PySem.W.codeIn K cd "_law_walk" = true) (k : PySem.W.keepIn K (.ref f) = true) (go : DefAt K mg "_law_walk" s_law_walk ["_law_term", "_law_puts"] → R) : R := k_def X G (fun _ _ _ _ _ _ us hl => match us, hl with | [_, _], _ => rfl) a l c k go
theorem k_law_holds (X : K.In h) (G : h.Ns mainGlobals mg) {od an : Option Addr} {f : Addr} {sl : Array (Option Value)} {oc kV dc pm cd ct : Value} (a : PySem.W.nsIn K mainGlobals "_law_holds" = some (some (.ref f))) (l : K.lookup f = some ⟨oc, od, .func (PySem.W.fnOf "_law_holds" "_law_holds" (defArgs s_law_holds) (defBody s_law_holds) (defScope s_law_holds) .none kV dc pm an cd ct), sl⟩) (c : PySem.W.codeIn K cd "_law_holds" = true) (k : PySem.W.keepIn K (.ref f) = true) (go : DefAt K mg "_law_holds" s_law_holds ["_law_name", "_law_term", "_law_puts"] → R) : R := k_def X G (fun _ _ _ _ _ _ us hl => match us, hl with | [_, _, _], _ => rfl) a l c k go
theorem k_law_one (X : K.In h) (G : h.Ns mainGlobals mg) {od an : Option Addr} {f : Addr} {sl : Array (Option Value)} {oc kV dc pm cd ct : Value} (a : PySem.W.nsIn K mainGlobals "_law_one" = some (some (.ref f))) (l : K.lookup f = some ⟨oc, od, .func (PySem.W.fnOf "_law_one" "_law_one" (defArgs s_law_one) (defBody s_law_one) (defScope s_law_one) .none kV dc pm an cd ct), sl⟩) (c : PySem.W.codeIn K cd "_law_one" = true) (k : PySem.W.keepIn K (.ref f) = true) (go : DefAt K mg "_law_one" s_law_one ["_law_one_here", "_law_other", "_law_puts"] → R) : R := k_def X G (fun _ _ _ _ _ _ us hl => match us, hl with | [_, _, _], _ => rfl) a l c k go
theorem k_law_read (X : K.In h) (G : h.Ns mainGlobals mg) {od an : Option Addr} {f : Addr} {sl : Array (Option Value)} {oc kV dc pm cd ct : Value} (a : PySem.W.nsIn K mainGlobals "_law_read" = some (some (.ref f))) (l : K.lookup f = some ⟨oc, od, .func (PySem.W.fnOf "_law_read" "_law_read" (defArgs s_law_read) (defBody s_law_read) (defScope s_law_read) .none kV dc pm an cd ct), sl⟩) (c : PySem.W.codeIn K cd "_law_read" = true) (k : PySem.W.keepIn K (.ref f) = true) (go : DefAt K mg "_law_read" s_law_read ["_law_term", "_law_puts"] → R) : R := k_def X G (fun _ _ _ _ _ _ us hl => match us, hl with | [_, _], _ => rfl) a l c k go
theorem k_law_named (X : K.In h) (G : h.Ns mainGlobals mg) {od an : Option Addr} {f : Addr} {sl : Array (Option Value)} {oc kV dc pm cd ct : Value} (a : PySem.W.nsIn K mainGlobals "_law_named" = some (some (.ref f))) (l : K.lookup f = some ⟨oc, od, .func (PySem.W.fnOf "_law_named" "_law_named" (defArgs s_law_named) (defBody s_law_named) (defScope s_law_named) .none kV dc pm an cd ct), sl⟩) (c : PySem.W.codeIn K cd "_law_named" = true) (k : PySem.W.keepIn K (.ref f) = true) (go : DefAt K mg "_law_named" s_law_named ["_law_term", "_law_found"] → R) : R := k_def X G (fun _ _ _ _ _ _ us hl => match us, hl with | [_, _], _ => rfl) a l c k go
theorem k_law_called (X : K.In h) (G : h.Ns mainGlobals mg) {od an : Option Addr} {f : Addr} {sl : Array (Option Value)} {oc kV dc pm cd ct : Value} (a : PySem.W.nsIn K mainGlobals "_law_called" = some (some (.ref f))) (l : K.lookup f = some ⟨oc, od, .func (PySem.W.fnOf "_law_called" "_law_called" (defArgs s_law_called) (defBody s_law_called) (defScope s_law_called) .none kV dc pm an cd ct), sl⟩) (c : PySem.W.codeIn K cd "_law_called" = true) (k : PySem.W.keepIn K (.ref f) = true) (go : DefAt K mg "_law_called" s_law_called ["_law_term", "_law_names_here"] → R) : R := k_def X G (fun _ _ _ _ _ _ us hl => match us, hl with | [_, _], _ => rfl) a l c k go
theorem k_law_anew (X : K.In h) (G : h.Ns mainGlobals mg) {od an : Option Addr} {f : Addr} {sl : Array (Option Value)} {oc kV dc pm cd ct : Value} (a : PySem.W.nsIn K mainGlobals "_law_anew" = some (some (.ref f))) (l : K.lookup f = some ⟨oc, od, .func (PySem.W.fnOf "_law_anew" "_law_anew" (defArgs s_law_anew) (defBody s_law_anew) (defScope s_law_anew) .none kV dc pm an cd ct), sl⟩) (c : PySem.W.codeIn K cd "_law_anew" = true) (k : PySem.W.keepIn K (.ref f) = true) (go : DefAt K mg "_law_anew" s_law_anew ["_law_term"] → R) : R := k_def X G (fun _ _ _ _ _ _ us hl => match us, hl with | [_], _ => rfl) a l c k go
theorem k_law_marked (X : K.In h) (G : h.Ns mainGlobals mg) {od an : Option Addr} {f : Addr} {sl : Array (Option Value)} {oc kV dc pm cd ct : Value} (a : PySem.W.nsIn K mainGlobals "_law_marked" = some (some (.ref f))) (l : K.lookup f = some ⟨oc, od, .func (PySem.W.fnOf "_law_marked" "_law_marked" (defArgs s_law_marked) (defBody s_law_marked) (defScope s_law_marked) .none kV dc pm an cd ct), sl⟩) (c : PySem.W.codeIn K cd "_law_marked" = true) (k : PySem.W.keepIn K (.ref f) = true) (go : DefAt K mg "_law_marked" s_law_marked ["_law_term", "_law_n"] → R) : R := k_def X G (fun _ _ _ _ _ _ us hl => match us, hl with | [_, _], _ => rfl) a l c k go
theorem k_law_ways_of (X : K.In h) (G : h.Ns mainGlobals mg) {od an : Option Addr} {f : Addr} {sl : Array (Option Value)} {oc kV dc pm cd ct : Value} (a : PySem.W.nsIn K mainGlobals "_law_ways_of" = some (some (.ref f))) (l : K.lookup f = some ⟨oc, od, .func (PySem.W.fnOf "_law_ways_of" "_law_ways_of" (defArgs s_law_ways_of) (defBody s_law_ways_of) (defScope s_law_ways_of) .none kV dc pm an cd ct), sl⟩) (c : PySem.W.codeIn K cd "_law_ways_of" = true) (k : PySem.W.keepIn K (.ref f) = true) (go : DefAt K mg "_law_ways_of" s_law_ways_of ["_law_rules", "_law_goal_here", "_law_puts", "_law_way"] → R) : R := k_def X G (fun _ _ _ _ _ _ us hl => match us, hl with | [_, _, _, _], _ => rfl) a l c k go
theorem k_law_all (X : K.In h) (G : h.Ns mainGlobals mg) {od an : Option Addr} {f : Addr} {sl : Array (Option Value)} {oc kV dc pm cd ct : Value} (a : PySem.W.nsIn K mainGlobals "_law_all" = some (some (.ref f))) (l : K.lookup f = some ⟨oc, od, .func (PySem.W.fnOf "_law_all" "_law_all" (defArgs s_law_all) (defBody s_law_all) (defScope s_law_all) .none kV dc pm an cd ct), sl⟩) (c : PySem.W.codeIn K cd "_law_all" = true) (k : PySem.W.keepIn K (.ref f) = true) (go : DefAt K mg "_law_all" s_law_all ["_law_rules", "_law_goals", "_law_puts", "_law_way"] → R) : R := k_def X G (fun _ _ _ _ _ _ us hl => match us, hl with | [_, _, _, _], _ => rfl) a l c k go
theorem k_law_told (X : K.In h) (G : h.Ns mainGlobals mg) {od an : Option Addr} {f : Addr} {sl : Array (Option Value)} {oc kV dc pm cd ct : Value} (a : PySem.W.nsIn K mainGlobals "_law_told" = some (some (.ref f))) (l : K.lookup f = some ⟨oc, od, .func (PySem.W.fnOf "_law_told" "_law_told" (defArgs s_law_told) (defBody s_law_told) (defScope s_law_told) .none kV dc pm an cd ct), sl⟩) (c : PySem.W.codeIn K cd "_law_told" = true) (k : PySem.W.keepIn K (.ref f) = true) (go : DefAt K mg "_law_told" s_law_told ["_law_names_here", "_law_puts", "_law_way"] → R) : R := k_def X G (fun _ _ _ _ _ _ us hl => match us, hl with | [_, _, _], _ => rfl) a l c k go
theorem k_law (X : K.In h) (G : h.Ns mainGlobals mg) {od an : Option Addr} {f : Addr} {sl : Array (Option Value)} {oc kV dc pm cd ct : Value} (a : PySem.W.nsIn K mainGlobals "law" = some (some (.ref f))) (l : K.lookup f = some ⟨oc, od, .func (PySem.W.fnOf "law" "law" (defArgs s_law) (defBody s_law) (defScope s_law) .none kV dc pm an cd ct), sl⟩) (c : PySem.W.codeIn K cd "law" = true) (k : PySem.W.keepIn K (.ref f) = true) (go : DefAt K mg "law" s_law ["_law_script"] → R) : R := k_def X G (fun _ _ _ _ _ _ us hl => match us, hl with | [_], _ => rfl) a l c k go
theorem km_init__ (_ : IsRun K C) {od an : Option Addr} {f : Addr} {sl : Array (Option Value)} {oc kV dc pm cd ct : Value} (a : PySem.W.findIn K (.ref C) "__init__" = some (some (.ref f))) (i : PySem.W.isFn K (.ref f) = true) (l : K.lookup f = some ⟨oc, od, .func (PySem.W.fnOf "__init__" "Run.__init__" (defArgs s_init__) (defBody s_init__) (defScope s_init__) .none kV dc pm an cd ct), sl⟩) (c : PySem.W.codeIn K cd "Run.__init__" = true) (k : PySem.W.keepIn K (.ref f) = true) (go : MethAt K C "__init__" "Run.__init__" s_init__ ["self", "rules", "goals", "bound", "most"] → R) : R := k_meth (fun _ _ _ _ _ _ us hl => match us, hl with | [_, _, _, _, _], _ => rfl) a i l c k go
theorem km_step (_ : IsRun K C) {od an : Option Addr} {f : Addr} {sl : Array (Option Value)} {oc kV dc pm cd ct : Value} (a : PySem.W.findIn K (.ref C) "step" = some (some (.ref f))) (i : PySem.W.isFn K (.ref f) = true) (l : K.lookup f = some ⟨oc, od, .func (PySem.W.fnOf "step" "Run.step" (defArgs s_step) (defBody s_step) (defScope s_step) .none kV dc pm an cd ct), sl⟩) (c : PySem.W.codeIn K cd "Run.step" = true) (k : PySem.W.keepIn K (.ref f) = true) (go : MethAt K C "step" "Run.step" s_step ["self"] → R) : R := k_meth (fun _ _ _ _ _ _ us hl => match us, hl with | [_], _ => rfl) a i l c k go
theorem km_tell (_ : IsRun K C) {od an : Option Addr} {f : Addr} {sl : Array (Option Value)} {oc kV dc pm cd ct : Value} (a : PySem.W.findIn K (.ref C) "tell" = some (some (.ref f))) (i : PySem.W.isFn K (.ref f) = true) (l : K.lookup f = some ⟨oc, od, .func (PySem.W.fnOf "tell" "Run.tell" (defArgs s_tell) (defBody s_tell) (defScope s_tell) .none kV dc pm an cd ct), sl⟩) (c : PySem.W.codeIn K cd "Run.tell" = true) (k : PySem.W.keepIn K (.ref f) = true) (go : MethAt K C "tell" "Run.tell" s_tell ["self", "puts", "way"] → R) : R := k_meth (fun _ _ _ _ _ _ us hl => match us, hl with | [_, _, _], _ => rfl) a i l c k go
theorem km_take (_ : IsRun K C) {od an : Option Addr} {f : Addr} {sl : Array (Option Value)} {oc kV dc pm cd ct : Value} (a : PySem.W.findIn K (.ref C) "take" = some (some (.ref f))) (i : PySem.W.isFn K (.ref f) = true) (l : K.lookup f = some ⟨oc, od, .func (PySem.W.fnOf "take" "Run.take" (defArgs s_take) (defBody s_take) (defScope s_take) .none kV dc pm an cd ct), sl⟩) (c : PySem.W.codeIn K cd "Run.take" = true) (k : PySem.W.keepIn K (.ref f) = true) (go : MethAt K C "take" "Run.take" s_take ["self", "goal", "height", "rest"] → R) : R := k_meth (fun _ _ _ _ _ _ us hl => match us, hl with | [_, _, _, _], _ => rfl) a i l c k go
theorem km_take_not (_ : IsRun K C) {od an : Option Addr} {f : Addr} {sl : Array (Option Value)} {oc kV dc pm cd ct : Value} (a : PySem.W.findIn K (.ref C) "take_not" = some (some (.ref f))) (i : PySem.W.isFn K (.ref f) = true) (l : K.lookup f = some ⟨oc, od, .func (PySem.W.fnOf "take_not" "Run.take_not" (defArgs s_take_not) (defBody s_take_not) (defScope s_take_not) .none kV dc pm an cd ct), sl⟩) (c : PySem.W.codeIn K cd "Run.take_not" = true) (k : PySem.W.keepIn K (.ref f) = true) (go : MethAt K C "take_not" "Run.take_not" s_take_not ["self", "goal", "behind"] → R) : R := k_meth (fun _ _ _ _ _ _ us hl => match us, hl with | [_, _, _], _ => rfl) a i l c k go
theorem km_take_deed (_ : IsRun K C) {od an : Option Addr} {f : Addr} {sl : Array (Option Value)} {oc kV dc pm cd ct : Value} (a : PySem.W.findIn K (.ref C) "take_deed" = some (some (.ref f))) (i : PySem.W.isFn K (.ref f) = true) (l : K.lookup f = some ⟨oc, od, .func (PySem.W.fnOf "take_deed" "Run.take_deed" (defArgs s_take_deed) (defBody s_take_deed) (defScope s_take_deed) .none kV dc pm an cd ct), sl⟩) (c : PySem.W.codeIn K cd "Run.take_deed" = true) (k : PySem.W.keepIn K (.ref f) = true) (go : MethAt K C "take_deed" "Run.take_deed" s_take_deed ["self", "goal", "behind"] → R) : R := k_meth (fun _ _ _ _ _ _ us hl => match us, hl with | [_, _, _], _ => rfl) a i l c k go
theorem km_take_named (_ : IsRun K C) {od an : Option Addr} {f : Addr} {sl : Array (Option Value)} {oc kV dc pm cd ct : Value} (a : PySem.W.findIn K (.ref C) "take_named" = some (some (.ref f))) (i : PySem.W.isFn K (.ref f) = true) (l : K.lookup f = some ⟨oc, od, .func (PySem.W.fnOf "take_named" "Run.take_named" (defArgs s_take_named) (defBody s_take_named) (defScope s_take_named) .none kV dc pm an cd ct), sl⟩) (c : PySem.W.codeIn K cd "Run.take_named" = true) (k : PySem.W.keepIn K (.ref f) = true) (go : MethAt K C "take_named" "Run.take_named" s_take_named ["self", "goal", "rest"] → R) : R := k_meth (fun _ _ _ _ _ _ us hl => match us, hl with | [_, _, _], _ => rfl) a i l c k go
theorem k_search (X : K.In h) (G : h.Ns mainGlobals mg) {od an : Option Addr} {f D : Addr} {sl : Array (Option Value)} {oc kV dc pm cd ct : Value}
    (a : PySem.W.nsIn K mainGlobals "search" = some (some (.ref f))) (l : K.lookup f = some ⟨oc, od, .func (PySem.W.fnOf "search" "search" (defArgs s_search) (defBody s_search) (defScope s_search) (.ref D) kV dc pm an cd ct), sl⟩) (c : PySem.W.codeIn K cd "search" = true) (k : PySem.W.keepIn K (.ref f) = true)
    {oDc : Value} {oDd : Option Addr} {its : Array Value} {n : Nat} {slD : Array (Option Value)} (lD : K.lookup D = some ⟨oDc, oDd, .seq its n, slD⟩) (hits : Vals [.int 200, .int 10] its.toList)
    (go : SearchAt K mg → R) : R := by
  have F : FunD K "search" "search" (defArgs s_search) (defBody s_search) (defScope s_search) [.int 200, .int 10] [] f (PySem.W.fnOf "search" "search" (defArgs s_search) (defBody s_search) (defScope s_search) (.ref D) kV dc pm an cd ct) :=
    ⟨⟨oc, od, .ref D, kV, dc, pm, an, cd, ct, sl, rfl, l, c, .inr ⟨by simp, D, _, its.toList, n, rfl, lD, rfl, hits⟩, .inl rfl⟩, k⟩
  obtain ⟨ds, hds, hb⟩ := F.binds1 (ps := ["rules", "goals", "bound", "most"]) 4 2 (by simp) rfl (fun T kV doc pm an cdv ct us its h1 h2 => match us, h1, its, h2 with | [_, _, _, _], _, [_, _], _ => ⟨_, rfl, rfl⟩)
  have e : ds = [] := by
    cases hds
    rfl
  rw [e] at hb
  exact go ⟨f, _, F, PySem.W.mg_of X G a, k, hb⟩
theorem k_gl (X : K.In h) (G : h.Ns mainGlobals mg) (z_len : PySem.W.nsIn K mainGlobals "len" = some none) (z_list : PySem.W.nsIn K mainGlobals "list" = some none) (z_reversed : PySem.W.nsIn K mainGlobals "reversed" = some none) (z_zip : PySem.W.nsIn K mainGlobals "zip" = some none) (z_enumerate : PySem.W.nsIn K mainGlobals "enumerate" = some none) (z_tuple : PySem.W.nsIn K mainGlobals "tuple" = some none) (z_dict : PySem.W.nsIn K mainGlobals "dict" = some none) (z_str : PySem.W.nsIn K mainGlobals "str" = some none) (z_int : PySem.W.nsIn K mainGlobals "int" = some none) (z_sum : PySem.W.nsIn K mainGlobals "sum" = some none) (z_range : PySem.W.nsIn K mainGlobals "range" = some none) {t_MOST_PARTS_puts : Tok} (c_MOST_PARTS_puts : PySem.W.nsIn K mainGlobals "MOST_PARTS_puts" = some (some (.int 40 t_MOST_PARTS_puts))) {t_MOST_PARTS_search : Tok} (c_MOST_PARTS_search : PySem.W.nsIn K mainGlobals "MOST_PARTS_search" = some (some (.int 40 t_MOST_PARTS_search)))
    (d_unknown : DefAt K mg "unknown" s_unknown ["name"]) (d_app : DefAt K mg "app" s_app ["sign", "kids"]) (d_unknowns_of : DefAt K mg "unknowns_of" s_unknowns_of ["terms"]) (d_renamed : DefAt K mg "renamed" s_renamed ["term", "names"]) (d_told_anew : DefAt K mg "told_anew" s_told_anew ["terms"]) (d_marked : DefAt K mg "marked" s_marked ["term", "n"]) (d_walked : DefAt K mg "walked" s_walked ["term", "puts"]) (d_parts_up_to : DefAt K mg "parts_up_to" s_parts_up_to ["term", "puts", "most"]) (d_put_in : DefAt K mg "put_in" s_put_in ["term", "puts"]) (d_written_out : DefAt K mg "written_out" s_written_out ["term", "puts"]) (d_head_of : DefAt K mg "head_of" s_head_of ["term"]) (d_stands_in : DefAt K mg "stands_in" s_stands_in ["name", "term", "puts"]) (d_kids_of : DefAt K mg "kids_of" s_kids_of ["path", "one", "other"]) (d_made_one : DefAt K mg "made_one" s_made_one ["one", "other", "puts"]) (d_deed : DefAt K mg "deed" s_deed ["goal", "puts"]) (d_same_word : DefAt K mg "same_word" s_same_word ["head", "goal"]) (d_law_cell_at : DefAt K mg "_law_cell_at" s_law_cell_at ["_law_script", "_law_k"]) (d_law_pick : DefAt K mg "_law_pick" s_law_pick ["_law_cell", "_law_k", "_law_many"]) (d_law_words : DefAt K mg "_law_words" s_law_words ["_law_cell"]) (d_law_names : DefAt K mg "_law_names" s_law_names ["_law_words_here", "_law_cell"]) (d_law_thing : DefAt K mg "_law_thing" s_law_thing ["_law_cell", "_law_names_here", "_law_words_here", "_law_often", "_law_deep"]) (d_law_goal : DefAt K mg "_law_goal" s_law_goal ["_law_cell", "_law_names_here", "_law_words_here", "_law_level"]) (d_law_rule : DefAt K mg "_law_rule" s_law_rule ["_law_script", "_law_k", "_law_names_here", "_law_words_here"]) (d_law_walk : DefAt K mg "_law_walk" s_law_walk ["_law_term", "_law_puts"]) (d_law_holds : DefAt K mg "_law_holds" s_law_holds ["_law_name", "_law_term", "_law_puts"]) (d_law_one : DefAt K mg "_law_one" s_law_one ["_law_one_here", "_law_other", "_law_puts"]) (d_law_read : DefAt K mg "_law_read" s_law_read ["_law_term", "_law_puts"]) (d_law_named : DefAt K mg "_law_named" s_law_named ["_law_term", "_law_found"]) (d_law_called : DefAt K mg "_law_called" s_law_called ["_law_term", "_law_names_here"]) (d_law_anew : DefAt K mg "_law_anew" s_law_anew ["_law_term"]) (d_law_marked : DefAt K mg "_law_marked" s_law_marked ["_law_term", "_law_n"]) (d_law_ways_of : DefAt K mg "_law_ways_of" s_law_ways_of ["_law_rules", "_law_goal_here", "_law_puts", "_law_way"]) (d_law_all : DefAt K mg "_law_all" s_law_all ["_law_rules", "_law_goals", "_law_puts", "_law_way"]) (d_law_told : DefAt K mg "_law_told" s_law_told ["_law_names_here", "_law_puts", "_law_way"]) (d_law : DefAt K mg "law" s_law ["_law_script"]) (go : Txt K mg → R) : R :=
  go { len := PySem.W.mg_none_of X G z_len, list := PySem.W.mg_none_of X G z_list, reversed := PySem.W.mg_none_of X G z_reversed, zip := PySem.W.mg_none_of X G z_zip, enumerate := PySem.W.mg_none_of X G z_enumerate, tuple := PySem.W.mg_none_of X G z_tuple, dict := PySem.W.mg_none_of X G z_dict, str := PySem.W.mg_none_of X G z_str, int := PySem.W.mg_none_of X G z_int, sum := PySem.W.mg_none_of X G z_sum, range := PySem.W.mg_none_of X G z_range, MOST_PARTS_puts := ⟨_, PySem.W.mg_of X G c_MOST_PARTS_puts⟩, MOST_PARTS_search := ⟨_, PySem.W.mg_of X G c_MOST_PARTS_search⟩, d_unknown := d_unknown, d_app := d_app, d_unknowns_of := d_unknowns_of, d_renamed := d_renamed, d_told_anew := d_told_anew, d_marked := d_marked, d_walked := d_walked, d_parts_up_to := d_parts_up_to, d_put_in := d_put_in, d_written_out := d_written_out, d_head_of := d_head_of, d_stands_in := d_stands_in, d_kids_of := d_kids_of, d_made_one := d_made_one, d_deed := d_deed, d_same_word := d_same_word, d_law_cell_at := d_law_cell_at, d_law_pick := d_law_pick, d_law_words := d_law_words, d_law_names := d_law_names, d_law_thing := d_law_thing, d_law_goal := d_law_goal, d_law_rule := d_law_rule, d_law_walk := d_law_walk, d_law_holds := d_law_holds, d_law_one := d_law_one, d_law_read := d_law_read, d_law_named := d_law_named, d_law_called := d_law_called, d_law_anew := d_law_anew, d_law_marked := d_law_marked, d_law_ways_of := d_law_ways_of, d_law_all := d_law_all, d_law_told := d_law_told, d_law := d_law }
theorem k_cl (X : K.In h) (G : h.Ns mainGlobals mg) (aC : IsRun K C) (pg : PySem.W.plainGet K C Str.empty = true) (hd : PySem.W.hasDictIn K C = true) (po : PySem.W.plainOver K C = true) (sa : PySem.W.findIn K (.ref C) "__setattr__" = some (some (.builtin "object.__setattr__"))) (mk : PySem.W.makesIn K C = true) (kc : PySem.W.keepIn K (.ref C) = true) (n_rules : PySem.W.findIn K (.ref C) "rules" = some none) (n_asked : PySem.W.findIn K (.ref C) "asked" = some none) (n_bound : PySem.W.findIn K (.ref C) "bound" = some none) (n_most : PySem.W.findIn K (.ref C) "most" = some none) (n_given : PySem.W.findIn K (.ref C) "given" = some none) (n_taken : PySem.W.findIn K (.ref C) "taken" = some none) (n_end : PySem.W.findIn K (.ref C) "end" = some none) (n_left : PySem.W.findIn K (.ref C) "left" = some none) {D : Addr} {oDd : Option Addr} {its : Array Value} {n : Nat} {slD : Array (Option Value)} (aD : PySem.W.nsIn K mainGlobals "DEEDS" = some (some (.ref D))) (lD : K.lookup D = some ⟨.type "tuple", oDd, .seq its n, slD⟩) (hits : Vals [.str "=", .str ":=", .str "<", .str "<="] its.toList)
    (T : Txt K mg) (m_init__ : MethAt K C "__init__" "Run.__init__" s_init__ ["self", "rules", "goals", "bound", "most"]) (m_step : MethAt K C "step" "Run.step" s_step ["self"]) (m_tell : MethAt K C "tell" "Run.tell" s_tell ["self", "puts", "way"]) (m_take : MethAt K C "take" "Run.take" s_take ["self", "goal", "height", "rest"]) (m_take_not : MethAt K C "take_not" "Run.take_not" s_take_not ["self", "goal", "behind"]) (m_take_deed : MethAt K C "take_deed" "Run.take_deed" s_take_deed ["self", "goal", "behind"]) (m_take_named : MethAt K C "take_named" "Run.take_named" s_take_named ["self", "goal", "rest"]) (go : TxtR K mg C → R) : R :=
  go { toTxt := T, cl := ⟨pg, hd, po, sa⟩, mgC := PySem.W.mg_of X G aC, n_rules := n_rules, n_asked := n_asked, n_bound := n_bound, n_most := n_most, n_given := n_given, n_taken := n_taken, n_end := n_end, n_left := n_left, deeds := ⟨D, PySem.W.mg_of X G aD, fun H => .inr ⟨_, its, n, lD, rfl, rfl, (by have := Vals.length hits; simp only [List.length_cons, List.length_nil, Array.length_toList] at this; rw [← this]; decide), hits⟩⟩, f_init__ := m_init__.f, fd_init__ := m_init__.fd, F_init__ := m_init__.F, b_init__ := m_init__.b, mkr := ⟨mk, m_init__.a, m_init__.i, kc⟩, f_step := m_step.f, fd_step := m_step.fd, F_step := m_step.F, b_step := m_step.b, M_step := m_step.m, f_tell := m_tell.f, fd_tell := m_tell.fd, F_tell := m_tell.F, b_tell := m_tell.b, M_tell := m_tell.m, f_take := m_take.f, fd_take := m_take.fd, F_take := m_take.F, b_take := m_take.b, M_take := m_take.m, f_take_not := m_take_not.f, fd_take_not := m_take_not.fd, F_take_not := m_take_not.F, b_take_not := m_take_not.b, M_take_not := m_take_not.m, f_take_deed := m_take_deed.f, fd_take_deed := m_take_deed.fd, F_take_deed := m_take_deed.F, b_take_deed := m_take_deed.b, M_take_deed := m_take_deed.m, f_take_named := m_take_named.f, fd_take_named := m_take_named.fd, F_take_named := m_take_named.F, b_take_named := m_take_named.b, M_take_named := m_take_named.m }
end
theorem fin {P : Program} {w : World} {K : PySem.W.Frag} {mg : Str → Option Value} {fa C : Addr} (hfa : mg "law" = some (.ref fa)) (T : TxtR K mg C) (TS : SearchAt K mg) :
    ∃ fd : FuncData, (∀ (s : Shared) (v : Value), BindsTo s fd ⟨[v], []⟩ [("_law_script", v)]) ∧ ∀ base : Heap, K.In base → base.Ns mainGlobals mg → FnOk P w K mg base CX0 131 fa fd ["_law_script"] (spLaw K) := by
  have e : fa = T.d_law.f := by
    have q := hfa.symm.trans T.d_law.m
    injection q with q
    injection q
  subst e
  refine ⟨T.d_law.fd, fun s v => ?_, fun base _ _ => ok_law T TS⟩
  obtain ⟨oc, od, kV, doc, pm, an, cdv, ct, osl, e, _⟩ := T.d_law.F.ex
  rw [e]
  exact .of_eq rfl
theorem walk_end {l : PySem.W.OpenLaw} {q : Program} {loose : List Str} {XP : (Str → Option Value) → Heap → Prop} {YP : World → Heap → Prop} {d : DefRec} {K : Params → PySem.W.Frag} (hn : l.most = some 63) (hdf : d.params.defaults = [])
    (hY : ∀ (w : World) (h : Heap), YP w h → (K w.params).In h)
    (F : ∀ (w : World) (mg : Str → Option Value) (fa : Addr) (h : Heap), (K w.params).In h → h.Ns mainGlobals mg → mg d.name = some (.ref fa) →
      ∃ fd : FuncData, (∀ (s : Shared) (u : Value), BindsTo s fd ⟨[u], []⟩ [("_law_script", u)]) ∧ ∀ base : Heap, (K w.params).In base → base.Ns mainGlobals mg → FnOk l.prog w (K w.params) mg base CX0 131 fa fd ["_law_script"] (spLaw (K w.params))) :
    PySem.W.WalkO q loose XP YP l.row.toRowW d [] (fun f vs => PySem.call f vs) :=
  L2.walk_of (n := 63) (k := 131) (x := "_law_script") (CX := fun _ => CX0) (sp := fun w => spLaw (K w.params)) hn (by decide) hdf ⟨rfl, by decide, by decide⟩ hY F (fun _ _ a ns hl _ hS => ⟨a, ns, rfl, hS, hl, fun _ => rfl⟩) fun _ _ _ _ _ z => z
end Gt
set_option Elab.async false
open PySem PySem.W PyProof.Rows
set_option maxRecDepth 100000
set_option maxHeartbeats 0
open_top head for PySem.Challenge.rw_goaltrail_k39_whole_plain_model
set_option Elab.async false
open PySem PySem.W PyProof.Rows
set_option maxRecDepth 100000
set_option maxHeartbeats 0
theorem PySem.Challenge.cw_goaltrail_k39_whole_plain_model_holds : PySem.Challenge.rw_goaltrail_k39_whole_plain_model.Holds := by
  refine head ?_
  k_fill
  refine Gt.walk_end (l := PySem.Challenge.rw_goaltrail_k39_whole_plain_model) rfl rfl (fun w h Y => PySem.W.kIn_of Y) ?F
  case F =>
    intro w mg fa h KX G hmg
    refine' Gt.k_unknown KX G ?a ?l ?c ?k (fun d_unknown => ?_)
    (case a => k_is)
    (case l => k_is)
    (case c => k_is)
    (case k => k_is)
    refine' Gt.k_app KX G ?a ?l ?c ?k (fun d_app => ?_)
    (case a => k_is)
    (case l => k_is)
    (case c => k_is)
    (case k => k_is)
    refine' Gt.k_unknowns_of KX G ?a ?l ?c ?k (fun d_unknowns_of => ?_)
    (case a => k_is)
    (case l => k_is)
    (case c => k_is)
    (case k => k_is)
    refine' Gt.k_renamed KX G ?a ?l ?c ?k (fun d_renamed => ?_)
    (case a => k_is)
    (case l => k_is)
    (case c => k_is)
    (case k => k_is)
    refine' Gt.k_told_anew KX G ?a ?l ?c ?k (fun d_told_anew => ?_)
    (case a => k_is)
    (case l => k_is)
    (case c => k_is)
    (case k => k_is)
    refine' Gt.k_marked KX G ?a ?l ?c ?k (fun d_marked => ?_)
    (case a => k_is)
    (case l => k_is)
    (case c => k_is)
    (case k => k_is)
    refine' Gt.k_walked KX G ?a ?l ?c ?k (fun d_walked => ?_)
    (case a => k_is)
    (case l => k_is)
    (case c => k_is)
    (case k => k_is)
    refine' Gt.k_parts_up_to KX G ?a ?l ?c ?k (fun d_parts_up_to => ?_)
    (case a => k_is)
    (case l => k_is)
    (case c => k_is)
    (case k => k_is)
    refine' Gt.k_put_in KX G ?a ?l ?c ?k (fun d_put_in => ?_)
    (case a => k_is)
    (case l => k_is)
    (case c => k_is)
    (case k => k_is)
    refine' Gt.k_written_out KX G ?a ?l ?c ?k (fun d_written_out => ?_)
    (case a => k_is)
    (case l => k_is)
    (case c => k_is)
    (case k => k_is)
    refine' Gt.k_head_of KX G ?a ?l ?c ?k (fun d_head_of => ?_)
    (case a => k_is)
    (case l => k_is)
    (case c => k_is)
    (case k => k_is)
    refine' Gt.k_stands_in KX G ?a ?l ?c ?k (fun d_stands_in => ?_)
    (case a => k_is)
    (case l => k_is)
    (case c => k_is)
    (case k => k_is)
    refine' Gt.k_kids_of KX G ?a ?l ?c ?k (fun d_kids_of => ?_)
    (case a => k_is)
    (case l => k_is)
    (case c => k_is)
    (case k => k_is)
    refine' Gt.k_made_one KX G ?a ?l ?c ?k (fun d_made_one => ?_)
    (case a => k_is)
    (case l => k_is)
    (case c => k_is)
    (case k => k_is)
    refine' Gt.k_deed KX G ?a ?l ?c ?k (fun d_deed => ?_)
    (case a => k_is)
    (case l => k_is)
    (case c => k_is)
    (case k => k_is)
    refine' Gt.k_same_word KX G ?a ?l ?c ?k (fun d_same_word => ?_)
    (case a => k_is)
    (case l => k_is)
    (case c => k_is)
    (case k => k_is)
    refine' Gt.k_law_cell_at KX G ?a ?l ?c ?k (fun d_law_cell_at => ?_)
    (case a => k_is)
    (case l => k_is)
    (case c => k_is)
    (case k => k_is)
    refine' Gt.k_law_pick KX G ?a ?l ?c ?k (fun d_law_pick => ?_)
    (case a => k_is)
    (case l => k_is)
    (case c => k_is)
    (case k => k_is)
    refine' Gt.k_law_words KX G ?a ?l ?c ?k (fun d_law_words => ?_)
    (case a => k_is)
    (case l => k_is)
    (case c => k_is)
    (case k => k_is)
    refine' Gt.k_law_names KX G ?a ?l ?c ?k (fun d_law_names => ?_)
    (case a => k_is)
    (case l => k_is)
    (case c => k_is)
    (case k => k_is)
    refine' Gt.k_law_thing KX G ?a ?l ?c ?k (fun d_law_thing => ?_)
    (case a => k_is)
    (case l => k_is)
    (case c => k_is)
    (case k => k_is)
    refine' Gt.k_law_goal KX G ?a ?l ?c ?k (fun d_law_goal => ?_)
    (case a => k_is)
    (case l => k_is)
    (case c => k_is)
    (case k => k_is)
    refine' Gt.k_law_rule KX G ?a ?l ?c ?k (fun d_law_rule => ?_)
    (case a => k_is)
    (case l => k_is)
    (case c => k_is)
    (case k => k_is)
    refine' Gt.k_law_walk KX G ?a ?l ?c ?k (fun d_law_walk => ?_)
    (case a => k_is)
    (case l => k_is)
    (case c => k_is)
    (case k => k_is)
    refine' Gt.k_law_holds KX G ?a ?l ?c ?k (fun d_law_holds => ?_)
    (case a => k_is)
    (case l => k_is)
    (case c => k_is)
    (case k => k_is)
    refine' Gt.k_law_one KX G ?a ?l ?c ?k (fun d_law_one => ?_)
    (case a => k_is)
    (case l => k_is)
    (case c => k_is)
    (case k => k_is)
    refine' Gt.k_law_read KX G ?a ?l ?c ?k (fun d_law_read => ?_)
    (case a => k_is)
    (case l => k_is)
    (case c => k_is)
    (case k => k_is)
    refine' Gt.k_law_named KX G ?a ?l ?c ?k (fun d_law_named => ?_)
    (case a => k_is)
    (case l => k_is)
    (case c => k_is)
    (case k => k_is)
    refine' Gt.k_law_called KX G ?a ?l ?c ?k (fun d_law_called => ?_)
    (case a => k_is)
    (case l => k_is)
    (case c => k_is)
    (case k => k_is)
    refine' Gt.k_law_anew KX G ?a ?l ?c ?k (fun d_law_anew => ?_)
    (case a => k_is)
    (case l => k_is)
    (case c => k_is)
    (case k => k_is)
    refine' Gt.k_law_marked KX G ?a ?l ?c ?k (fun d_law_marked => ?_)
    (case a => k_is)
    (case l => k_is)
    (case c => k_is)
    (case k => k_is)
    refine' Gt.k_law_ways_of KX G ?a ?l ?c ?k (fun d_law_ways_of => ?_)
    (case a => k_is)
    (case l => k_is)
    (case c => k_is)
    (case k => k_is)
    refine' Gt.k_law_all KX G ?a ?l ?c ?k (fun d_law_all => ?_)
    (case a => k_is)
    (case l => k_is)
    (case c => k_is)
    (case k => k_is)
    refine' Gt.k_law_told KX G ?a ?l ?c ?k (fun d_law_told => ?_)
    (case a => k_is)
    (case l => k_is)
    (case c => k_is)
    (case k => k_is)
    refine' Gt.k_law KX G ?a ?l ?c ?k (fun d_law => ?_)
    (case a => k_is)
    (case l => k_is)
    (case c => k_is)
    (case k => k_is)
    refine' Gt.k_search KX G ?a ?l ?c ?k ?lD ?hits (fun TS => ?_)
    (case a => k_is)
    (case l => k_is)
    (case c => k_is)
    (case k => k_is)
    (case lD => k_is)
    (case hits => exact .cons ⟨_, rfl⟩ (.cons ⟨_, rfl⟩ .nil))
    refine' Gt.k_gl KX G ?z_len ?z_list ?z_reversed ?z_zip ?z_enumerate ?z_tuple ?z_dict ?z_str ?z_int ?z_sum ?z_range ?c1 ?c2 d_unknown d_app d_unknowns_of d_renamed d_told_anew d_marked d_walked d_parts_up_to d_put_in d_written_out d_head_of d_stands_in d_kids_of d_made_one d_deed d_same_word d_law_cell_at d_law_pick d_law_words d_law_names d_law_thing d_law_goal d_law_rule d_law_walk d_law_holds d_law_one d_law_read d_law_named d_law_called d_law_anew d_law_marked d_law_ways_of d_law_all d_law_told d_law (fun T => ?_)
    (case z_len => k_is)
    (case z_list => k_is)
    (case z_reversed => k_is)
    (case z_zip => k_is)
    (case z_enumerate => k_is)
    (case z_tuple => k_is)
    (case z_dict => k_is)
    (case z_str => k_is)
    (case z_int => k_is)
    (case z_sum => k_is)
    (case z_range => k_is)
    (case c1 => k_is)
    (case c2 => k_is)
    clear d_unknown d_app d_unknowns_of d_renamed d_told_anew d_marked d_walked d_parts_up_to d_put_in d_written_out d_head_of d_stands_in d_kids_of d_made_one d_deed d_same_word d_law_cell_at d_law_pick d_law_words d_law_names d_law_thing d_law_goal d_law_rule d_law_walk d_law_holds d_law_one d_law_read d_law_named d_law_called d_law_anew d_law_marked d_law_ways_of d_law_all d_law_told d_law
    refine' Gt.k_C KX ?aC (fun aC => ?_)
    (case aC => k_is)
    refine' Gt.km_init__ aC ?a ?i ?l ?c ?k (fun m_init__ => ?_)
    (case a => k_is)
    (case i => k_is)
    (case l => k_is)
    (case c => k_is)
    (case k => k_is)
    refine' Gt.km_step aC ?a ?i ?l ?c ?k (fun m_step => ?_)
    (case a => k_is)
    (case i => k_is)
    (case l => k_is)
    (case c => k_is)
    (case k => k_is)
    refine' Gt.km_tell aC ?a ?i ?l ?c ?k (fun m_tell => ?_)
    (case a => k_is)
    (case i => k_is)
    (case l => k_is)
    (case c => k_is)
    (case k => k_is)
    refine' Gt.km_take aC ?a ?i ?l ?c ?k (fun m_take => ?_)
    (case a => k_is)
    (case i => k_is)
    (case l => k_is)
    (case c => k_is)
    (case k => k_is)
    refine' Gt.km_take_not aC ?a ?i ?l ?c ?k (fun m_take_not => ?_)
    (case a => k_is)
    (case i => k_is)
    (case l => k_is)
    (case c => k_is)
    (case k => k_is)
    refine' Gt.km_take_deed aC ?a ?i ?l ?c ?k (fun m_take_deed => ?_)
    (case a => k_is)
    (case i => k_is)
    (case l => k_is)
    (case c => k_is)
    (case k => k_is)
    refine' Gt.km_take_named aC ?a ?i ?l ?c ?k (fun m_take_named => ?_)
    (case a => k_is)
    (case i => k_is)
    (case l => k_is)
    (case c => k_is)
    (case k => k_is)
    refine' Gt.k_cl KX G aC ?pg ?hd ?po ?sa ?mk ?kc ?n_rules ?n_asked ?n_bound ?n_most ?n_given ?n_taken ?n_end ?n_left ?aD ?lD ?hits T m_init__ m_step m_tell m_take m_take_not m_take_deed m_take_named (fun TR => ?_)
    (case pg => k_is)
    (case hd => k_is)
    (case po => k_is)
    (case sa => k_is)
    (case mk => k_is)
    (case kc => k_is)
    (case n_rules => k_is)
    (case n_asked => k_is)
    (case n_bound => k_is)
    (case n_most => k_is)
    (case n_given => k_is)
    (case n_taken => k_is)
    (case n_end => k_is)
    (case n_left => k_is)
    (case aD => k_is)
    (case lD => k_is)
    (case hits => exact .cons ⟨_, rfl⟩ (.cons ⟨_, rfl⟩ (.cons ⟨_, rfl⟩ (.cons ⟨_, rfl⟩ .nil))))
    exact Gt.fin hmg TR TS
