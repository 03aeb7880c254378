import PyProof.Rows.All
import HandS.Set
import HandS.Strs
import HandS.SetTxt0
import HandS.TupSets
import PyProof.Rows.SortShellAny
import KE.DataMinMax
import HandS.SortKw
import HandS.ForMost
import HandS.ForExc
import HandS.Walk
import HandS.TupAny
import HandS.TupMul
import HandS.Wide
import HandS.IsInst
import PyProof.Rows.RuleB_pow
import PyProof.P3In
import PyProof.ReprRoads
import HandS.SortInts
import HandS.WordsDict
import HandS.Flow
import HandS.NoneIn
import HandS.Spec
import HandS.Style
import HandS.ListItems
import KE.KUnpackStar
import HandS.Words
import HandS.Codes
import HandS.Ends
import HandS.EndBits
import PySem.Challenge.RW_likebeneath_k02_free_names_and_holes
set_option Elab.async false
set_option linter.all false
set_option maxRecDepth 10000
/-! VR, part A: sets of texts: made of a list, sorted. -/
namespace VS
open PySem L2
open PyProof.Rows

/-- one more, each once -/
def addS (l : List Str) (k : Str) : List Str := if k ∈ l then l else k :: l
def dedS (xs : List Str) : List Str := xs.foldl addS []
/-- the payload of a set that holds just these texts, and may be walked -/
structure TSet (w : World) (D : Froz.SD) (l : List Str) : Prop where
  ok : ∀ P : Program, Froz.TxOk P w D l
  each : ∀ e ∈ D.1.toList, ∃ k tk, e.2 = Value.str k tk
  nd : l.Nodup
  ris : Ris D.2.2.place.toList
  led : w.params.followText "set-order" = true ∨ D.2.2.led = true
def nameE (v : Value) : Str := match v with | .str k _ => k | _ => Str.empty

section
variable {w : World} {D : Froz.SD} {l : List Str} {k : Str} {u : Tok}
theorem tail_each {ep : Nat} {es : Array (Int × Value)} {t : SetTable} {b : Bool} (h : ∀ e ∈ es.toList, ∃ k tk, e.2 = Value.str k tk) : ∀ e ∈ (Froz.tailTx ep es t b).1.toList, ∃ k tk, e.2 = Value.str k tk := by
  unfold Froz.tailTx; split
  · exact fun e he => h e ((relayAll_perm t es _).mem_iff.mp he)
  · exact h
theorem tail_ris {ep : Nat} {es : Array (Int × Value)} {t : SetTable} {b : Bool} (h : Ris t.place.toList) : Ris (Froz.tailTx ep es t b).2.2.place.toList := by
  unfold Froz.tailTx; split
  · exact relayAll_ris t es _
  · exact h
theorem tail_led {ep : Nat} {es : Array (Int × Value)} {t : SetTable} {b : Bool} : (Froz.tailTx ep es t b).2.2.led = t.led := by
  unfold Froz.tailTx; split
  · exact relayAll_led t es _
  · rfl
theorem TSet.add (F : TSet w D l) (h : k ∉ l) : TSet w (Froz.addTx (hashStr w k) (.str k u) D) (k :: l) := by
  refine ⟨fun P => Froz.add_ok u (F.ok P), ?_, List.nodup_cons.mpr ⟨h, F.nd⟩, ?_, ?_⟩ <;> unfold Froz.addTx
  · refine tail_each fun e he => ?_
    have pm := (layNew_perm D.2.2 D.1 (hashStr w k) (.str k u)).mem_iff.mp he
    rcases List.mem_append.mp (by rwa [Array.toList_push] at pm) with z | z
    · exact F.each e z
    · cases List.mem_singleton.mp z; exact ⟨k, u, rfl⟩
  · refine tail_ris ?_
    have r := layNew_ris D.2.2 D.1 (hashStr w k) (.str k u) F.ris
    split <;> exact r
  · rw [tail_led]
    have r := layNew_led D.2.2 D.1 (hashStr w k) (.str k u)
    exact F.led.imp_right fun z => by split <;> exact r.trans z
end
/-- the set of texts l stands at a -/
def SetS (w : World) (h : Heap) (a : Addr) (l : List Str) : Prop := ∃ D, h.get? a = some (Froz.sObj "set" D) ∧ TSet w D l
theorem SetS.at {w : World} {h h' : Heap} {a : Addr} {l : List Str} : SetS w h a l → (∀ o, h.get? a = some o → h'.get? a = some o) → SetS w h' a l
  | ⟨D, e, F⟩, k => ⟨D, k _ e, F⟩
section
variable {P : Program} {w : World} {A : Around} {E : Value → Shared → Prop} {s : Shared} {a : Addr} {l : List Str}
/-- it stands there already: nothing changes -/
theorem add_again {k : Str} {u : Tok} {Q : Bool → Shared → Prop} {D : Froz.SD} (ho : s.heap.get? a = some (Froz.sObj "set" D)) (F : TSet w D l) (hk : k ∈ l) (hb : l.length < scanBound) (h : Q false s) : wpAny (model P w) A (setAddHashed a (.str k u) (hashStr w k)) Q E s := by
  obtain ⟨es, ep, t⟩ := D
  have X := F.ok P
  have he := X.el
  have hf : t.fits es.size = true := X.fit
  have key := Froz.is_str (P := P) (w := w) k u
  have small : es.size < scanBound := by have := X.sz; simp only at this; omega
  obtain ⟨j, hj⟩ : ∃ j, List.findIdx? (fun e : Int × Value => (PySem.strKind P w).is k e.2) es.toList = some j := by
    cases z : List.findIdx? (fun e : Int × Value => (PySem.strKind P w).is k e.2) es.toList with
    | some j => exact ⟨j, rfl⟩
    | none =>
      obtain ⟨e, m, q⟩ := (X.mem k).mp hk
      exact absurd q (by rw [List.findIdx?_eq_none_iff.mp z e m]; decide)
  unfold setAddHashed setAddHashedIn setAddByScan
  refine wpAny_holding (wpAny_bind (wpAny_setState_of ho (es := es) (ep := ep) (t := t) rfl hf ?_))
  show wpAny _ _ (if byScan (.str k u) es = true then _ else _) _ _ _
  rw [if_pos (byScan_of (knd := PySem.strKind P w) rfl small he)]
  refine wpAny_bind (wpAny_bind (wpAny_rule (wpAny_bind (wpAny_setScan_of (knd := PySem.strKind P w) key ho (es := es) (ep := ep) (t := t) rfl hf he ?_))))
  rw [hj]
  exact wpAny_pure (wpAny_pure h)
/-- one text more -/
theorem add_one {k : Str} {u : Tok} {Q : Bool → Shared → Prop} (R : SetS w s.heap a l) (hb : l.length + 1 < scanBound)
    (h : ∀ b h', Heap.SameBut a s.heap h' → SetS w h' a (addS l k) → Q b { s with heap := h' }) : wpAny (model P w) A (setAddHashed a (.str k u) (hashStr w k)) Q E s := by
  obtain ⟨D, ho, F⟩ := R
  by_cases hk : k ∈ l
  · refine add_again ho F hk (by omega) (h false s.heap (.refl a _) ⟨D, ho, ?_⟩)
    rw [addS, if_pos hk]; exact F
  · refine Froz.add_x ho (F.ok P) hk hb (h true _ (.update ..) ⟨_, Froz.get_upd _ ho rfl, ?_⟩)
    rw [addS, if_neg hk]; exact F.add hk
end
theorem addS_len (l : List Str) (k : Str) : (addS l k).length ≤ l.length + 1 := by
  by_cases h : k ∈ l
  · rw [addS, if_pos h]; omega
  · rw [addS, if_neg h]; exact Nat.le_refl _
theorem fold_len : ∀ (xs l : List Str), (xs.foldl addS l).length ≤ l.length + xs.length
  | [], _ => Nat.le_refl _
  | x :: xs, l => Nat.le_trans (fold_len xs (addS l x)) (by have := addS_len l x; simp only [List.length_cons]; omega)
theorem strs_get : ∀ {vs : List Value} {ns : List Str}, StrsAre vs ns → ∀ {i : Nat} {v : Value}, vs[i]? = some v → ∃ k t, v = .str k t ∧ ns[i]? = some k := by
  intro vs ns h
  induction h with
  | nil => exact fun e => nomatch e
  | cons k t _ ih =>
    intro i v e
    match i, e with
    | 0, e => cases e; exact ⟨_, _, rfl, rfl⟩
    | i + 1, e => exact ih e
section
variable {P : Program} {w : World} {A : Around} {R : Result → Shared → Prop} {I T : Addr} {fp wr : List Addr} {G : Array GenState → Array GenState → Prop} {n : Nat} {V : Nat → Value → Prop} {St : Nat → Shared → Prop}
/-- what is left to be taken: ns -/
theorem fill (W : WalksS P w A.in1 I fp wr G n V St) (hT : T ∉ fp) : ∀ (ns : List Str) (i : Nat) (l : List Str) (s : Shared), (∀ j v, V (i + j) v → ∃ k t, v = .str k t ∧ ns[j]? = some k) → i + ns.length = n → l.length + ns.length + 1 < scanBound →
    St i s → SetS w s.heap T l → (∀ s', Moved (T :: wr) G s s' → SetS w s'.heap T (ns.foldl addS l) → R (.ok (.ret .none)) s') → codeAny (model P w) A (.builtin "set.update.loop" ⟨[.ref T, .ref I], []⟩) R s
  | ns, i, l, s, hv, hn, hb, hs, hS, fin => by
    have away : T ∉ wr := mt (W.sub T) hT
    have wide : ∀ b ∈ wr, b ∈ T :: wr := fun _ => .tail T
    refine codeAny_builtin F.entry_set_update_loop ?_
    rw [Around.under_plainId F.plain_set_update_loop]
    show wpAny _ A.in1 (do let o ← pyNext (.ref I); _) _ _ s
    cases ns with
    | nil =>
      cases hn
      exact wpAny_bind (W.done s _ _ hs fun s' hm => wpAny_pure (fin s' (hm.mono wide) (hS.at fun o e => hm.heap T o away e)))
    | cons x ns =>
      rw [List.length_cons] at hn hb
      refine wpAny_bind (W.item i s _ _ (by omega) hs fun v s' hV hs' hm => ?_)
      obtain ⟨k, t, rfl, e⟩ := hv 0 v hV
      cases e
      refine wpAny_bind (wpAny_holding (wpAny_holding (wpAny_bind ((PySem.strKind P w).pyHash (Froz.is_str x t) ?_))))
      refine add_one (s := { s' with toks := s'.toks + 1 }) (hS.at fun o e => hm.heap T o away e) (by omega) fun _ h' sb hS' => wpAny_pure ⟨plainId_quiet F.plain_set_update_loop _, ?_⟩
      have same : ∀ b, b ≠ T → h'.get? b = s'.heap.get? b := sb.2
      have room := addS_len l x
      refine fill W hT ns (i + 1) (addS l x) _ (fun j v q => ?_) (by omega) (by omega) (W.frame _ s' h' _ hs' (Nat.le_succ _) fun b hb o e => (same b fun z => hT (z ▸ hb)).trans e) hS' fun s2 hm2 hS2 => ?_
      · rw [show i + 1 + j = i + (j + 1) by omega] at q
        exact hv (j + 1) v q
      · exact fin s2 (Moved.trans W.gtrans ((hm.mono wide).then_heap (Nat.le_succ _) fun b o nb e => (same b fun z => nb (z ▸ .head _)).trans e) hm2) hS2
end
end VS

/-! VR, part B: set(list of texts), sorted(set), as rules; sorted(list of texts) of any length. -/
namespace VS
open PySem L2
open PyProof.Rows

/-- a new set's object -/
abbrev freshO (w : World) : Obj := { cls := .type "set", dict := none, data := .set #[] 0 (.fresh 0 0 (!w.params.followText "set-order")) }
theorem fresh_ok (w : World) : TSet w (#[], 0, .fresh 0 0 (!w.params.followText "set-order")) [] := by
  refine ⟨fun P => Froz.TxOk.nil rfl, fun e he => ?_, List.nodup_nil, List.Pairwise.nil, ?_⟩
  · exact absurd he (by simp)
  · show _ ∨ (!_) = true
    cases w.params.followText "set-order" <;> simp
section
variable {P : Program} {w : World} {A : Around} {E : Value → Shared → Prop} {s : Shared}
theorem new_set (a : Value) {Z : Value → Shared → Prop} (h : Z (.ref s.heap.objs.size) { s with heap := s.heap.push (freshO w) }) :
    codeAny (model P w) A (.call (.builtin "set.__new__") ⟨[.type "set", a], []⟩) (wants Z E) s := by
  have sub := sub_set_self
  refine codeAny_of_tree (?_ : wpAny _ A.in1 (do checkBuiltinCall "set.__new__" ⟨[.type "set", a], []⟩; again _) _ _ s)
  refine wpAny_bind (wpAny_of_eq (F.newCall_set_1 a) (wpAny_pure ⟨plainId_quiet F.plain_set_new _, codeAny_builtin F.entry_set_new ?_⟩))
  rw [Around.under_plainId F.plain_set_new]
  cases s
  unfold Builtin.«set.__new__» Builtin.Frozenset.newClass
  wp_walk
  refine wpAny_askSetting (wpAny_pure ?_)
  simp only [newObj]
  exact wpAny_bind (wpAny_alloc (wpAny_pure (wpAny_pure h)))
set_option maxHeartbeats 3200000 in
theorem call_setS {l : Addr} {items : Array Value} {ns : List Str} {Q : Value → Shared → Prop} (quiet : A.handled = none) (hl : s.heap.IsList l items) (hi : StrsAre items.toList ns) (hb : items.size + 1 < scanBound)
    (h : ∀ h' tk, SetS w h' s.heap.objs.size (dedS ns) → (∀ b o, s.heap.get? b = some o → h'.get? b = some o) → Q (.ref s.heap.objs.size) { s with heap := h', toks := tk }) : wpAny (model P w) A (call (.type "set") [.ref l]) Q E s := by
  have C := F.called_set
  have ⟨_, _, mro⟩ := C.mro
  have made := C.made; have sub := C.sub; have nt := C.notType; have cc := C.canCreate; have ct := F.typeCall_set_1 (.ref l)
  have few : ns.length + 1 < scanBound := by have := StrsAre.length hi; rw [Array.length_toList] at this; omega
  have n0 : (s.heap.push (freshO w)).get? s.heap.objs.size = some (freshO w) := Heap.get?_push_size _ rfl
  have ty : Shared.TypeIs { s with heap := s.heap.push (freshO w) } (.ref s.heap.objs.size) "set" := ⟨_, n0, rfl⟩
  refine wpAny_call (codeAny_of_tree (?_ : wpAny _ _ (callAny (.type "set") _) _ _ _))
  refine wpAny_pure ⟨Code.quiet_builtin _ (by decide +kernel), codeAny_builtin F.entry_type_call ?_⟩
  rw [Around.under_plain (weight_type_call_type "set" [.ref l] []) rfl]
  repeat (any_goals (first | assumption | wp_step))
  refine codeAny_mono (new_set (E := E) (.ref l) (Z := fun v s' => v = .ref s.heap.objs.size ∧ s' = { s with heap := s.heap.push (freshO w) }) ⟨rfl, rfl⟩) fun r s1 hr => ?_
  match r, hr with
  | .error _, hr => exact hr
  | .ok (.ret v), hr =>
    obtain ⟨e1, e2⟩ := hr
    subst e1 e2
    have il := C.init.lookup; have ib := C.init.bind (.ref s.heap.objs.size)
    repeat (any_goals (first | assumption | wp_step))
    refine codeAny_mono (codeAny_call_builtin (R := wants (fun r s2 => r = .none ∧ ∃ h' tk, s2 = { s with heap := h', toks := tk } ∧ SetS w h' s.heap.objs.size (dedS ns) ∧ ∀ b o, s.heap.get? b = some o → h'.get? b = some o) E)
      C.init.plain F.entry_set_init (check_set_init_1 ty ?_)) fun r2 s2 hr2 => ?_
    · obtain ⟨⟨_, od, _, os⟩, eo, ec, nl, ed⟩ := hl
      cases ec; cases ed
      have lt := Heap.lt_size eo
      have eo2 : (s.heap.push (freshO w)).get? l = some { cls := .type "list", dict := od, data := .seq items nl, slots := os } := Heap.get?_push_of_some _ eo
      have z1 := F.sub_list_set; have z2 := F.sub_list_frozenset; have z3 : (Value.type "list" == Value.type "dict") = false := by decide
      have hl2 : (s.heap.push (freshO w)).IsList l items := ⟨_, eo2, rfl, nl, rfl⟩
      unfold Builtin.«set.__init__» noKeywords Builtin.Frozenset.updateFrom
      generalize hI : pyIter = PI
      wp_walk
      subst hI
      refine wpAny_pyIter_list hl2 (wpAny_bind (wpAny_runValue ?_))
      have sz : (s.heap.push (freshO w)).objs.size = s.heap.objs.size + 1 := Heap.size_push ..
      have nl2 : l ≠ (s.heap.push (freshO w)).objs.size := fun z => Nat.ne_of_lt (Nat.lt_succ_of_lt lt) (z.trans sz)
      have len : 0 + ns.length = items.size := by have := StrsAre.length hi; rw [Array.length_toList] at this; omega
      have apart : s.heap.objs.size ∉ [(s.heap.push (freshO w)).objs.size, l] := fun m => by
        rcases List.mem_cons.mp m with z | z
        · exact Nat.ne_of_lt (Nat.lt_succ_self _) (z.trans sz)
        · exact Nat.ne_of_gt lt (List.mem_singleton.mp z)
      have room : ([] : List Str).length + ns.length + 1 < scanBound := by rw [List.length_nil]; omega
      refine fill ((Walks.list (by simp [quiet]) _ l nl2 items).toS) (T := s.heap.objs.size) apart ns 0 [] _ (fun j v e => strs_get hi (by rw [Array.getElem?_toList, ← Nat.zero_add j]; exact e)) len room
        ⟨⟨_, Heap.get?_push_size _ rfl, rfl, rfl⟩, hl2.push _⟩ ⟨(#[], 0, .fresh 0 0 (!w.params.followText "set-order")), Heap.get?_push_of_some _ n0, fresh_ok w⟩ fun s' hm hS => ?_
      obtain ⟨h', g', d', tk', os'⟩ := s'
      cases (show g' = s.gens from hm.gens); cases (show d' = s.drawn from hm.drawn); cases (show os' = s.os from hm.os)
      show wpAny _ _ _ _ _ _
      refine wpAny_pure ?_
      show wpAny _ _ (ret Value.none) _ _ _
      refine wpAny_pure ⟨rfl, h', tk', rfl, hS, fun b o e => ?_⟩
      have lb := Heap.lt_size e
      refine hm.heap b o (fun m => ?_) (Heap.get?_push_of_some _ (Heap.get?_push_of_some _ e))
      rcases List.mem_cons.mp m with z | z
      · exact Nat.ne_of_lt lb z
      · exact Nat.ne_of_lt (Nat.lt_succ_of_lt lb) ((List.mem_singleton.mp z).trans sz)
    · match r2, hr2 with
      | .error _, hr2 => exact hr2
      | .ok (.ret v), hr2 =>
        obtain ⟨rfl, h', tk, rfl, hS, hk⟩ := hr2
        repeat (any_goals (first | assumption | wp_step))
        exact h _ _ hS hk
end
end VS

/-! VR, part G: sorted(set of texts), as rules; sorted(list of texts) of any length. -/
namespace VS
open PySem L2
open PyProof.Rows
section
variable {P : Program} {w : World} {A : Around} {E : Value → Shared → Prop} {s : Shared}
theorem strs_are : ∀ {l : List Value}, (∀ v ∈ l, ∃ k tk, v = Value.str k tk) → StrsAre l (l.map nameE)
  | [], _ => .nil
  | v :: _, h => match v, h v (.head _) with
    | _, ⟨k, tk, rfl⟩ => .cons k tk (strs_are fun u hu => h u (.tail _ hu))
theorem perm_of {α : Type} [DecidableEq α] : ∀ {l m : List α}, l.Nodup → (∀ x ∈ l, x ∈ m) → m.length ≤ l.length → m.Perm l
  | [], m, _, _, h => by cases List.eq_nil_of_length_eq_zero (Nat.le_zero.mp h); exact .nil
  | x :: l, m, nd, sub, h => by
    have p := List.perm_cons_erase (sub x (.head _))
    have e := p.length_eq
    rw [List.length_cons] at e h
    refine p.trans ((perm_of (List.nodup_cons.mp nd).2 (fun y hy => (List.mem_erase_of_ne fun z => ?_).mpr (sub y (.tail _ hy))) (by omega)).cons x)
    subst z
    exact (List.nodup_cons.mp nd).1 hy
theorem keys_perm {D : Froz.SD} {l : List Str} (F : TSet w D l) (P : Program) : ((D.1.toList.map (·.2)).map nameE).Perm l := by
  have X := F.ok P
  have eq_ : ∀ e ∈ D.1.toList, ∀ k, (PySem.strKind P w).is k e.2 = true ↔ nameE e.2 = k := fun e he k => by
    obtain ⟨k0, tk, z⟩ := F.each e he
    rw [z]
    exact ⟨fun q => (PySem.strKind P w).inj _ _ _ (Froz.is_str k0 tk) q, fun q => by cases q; exact Froz.is_str k0 tk⟩
  have sub : ∀ k ∈ l, k ∈ (D.1.toList.map (·.2)).map nameE := fun k hk => by
    obtain ⟨e, he, q⟩ := (X.mem k).mp hk
    exact List.mem_map_of_mem (f := nameE) (List.mem_map_of_mem (f := (·.2)) he) |> fun z => by rwa [(eq_ e he k).mp q] at z
  have len : ((D.1.toList.map (·.2)).map nameE).length = l.length := by rw [List.length_map, List.length_map, Array.length_toList]; exact X.sz
  exact perm_of F.nd sub (Nat.le_of_eq len)
set_option maxHeartbeats 1000000 in
theorem sorted_setS {a : Addr} {l : List Str} {Q : Value → Shared → Prop} (R : SetS w s.heap a l) (hh : A.handled = none) (few : l.length < scanBound)
    (hQ : ∀ s' p (out : Array Value) (c : Nat) (ns : List Str), (∀ b o, s.heap.get? b = some o → s'.heap.get? b = some o) → s'.gens = s.gens → s'.os = s.os → s.heap.objs.size ≤ p →
      s'.heap.get? p = some (seqObj "list" out c) → StrsAre out.toList ns → ns.Perm l → sortedS ns = true → Q (.ref p) s') : wpAny (model P w) A (call (.builtin "sorted") [.ref a]) Q E s := by
  obtain ⟨⟨es, ep, t⟩, ho, F⟩ := R
  have X := F.ok P
  have pl := keys_perm F P
  have sz : es.size = l.length := X.sz
  have hb : es.size < scanBound := by omega
  refine Calls.call_function_entry kind_sorted plain_sorted entry_sorted (args_sorted1 _) ?_
  unfold Builtin.«sorted»
  refine wpAny_bind (m := checkCount "sorted" 1 1 _) (wpAny_pure ?_)
  have hf : t.fits es.size = true := X.fit
  have hr : Ris t.place.toList := F.ris
  have at_ : SetAt s.heap a es ep t := ⟨Froz.sObj "set" (es, ep, t), ho, rfl, rfl⟩
  refine wpAny_bind (collect_set (A := A.in1) (es := es) (ep := ep) (t := t) hh at_ hf hb hr F.led fun s1 vs k1 hz g1 o1 pm => ?_)
  have vl : vs.length = es.size := by rw [pm.length_eq, List.length_map, Array.length_toList]
  have fits : vs.length ≤ sizeLine := vl ▸ fits_of_scanBound hb
  have hI := strs_are (l := vs) fun v hv => by
    obtain ⟨e, he, q⟩ := List.mem_map.mp (pm.mem_iff.mp hv)
    exact q ▸ F.each e he
  refine wpAny_bind (wpAny_newList ?_ fits)
  have oL : (s1.heap.push (seqObj "list" vs.toArray 0)).get? s1.heap.objs.size = some (seqObj "list" vs.toArray 0) := Heap.get?_push_size _ rfl
  refine wpAny_bind (wpAny_holding (wpAny_call_entry slot_list_sort ⟨_, oL, rfl⟩ entry_list_sort (list_sort_treeKAny strKind_oneLt oL hI.keysOf (fun v₁ v₂ rest e => keyKind_strs (by rw [← e]; exact hI)) fits fun st hp hs => ⟨_, rfl, ?_⟩) (args_list_sort _)))
  obtain ⟨ss, a1, a2, a3⟩ := sorted_out_str hI hp hs
  obtain ⟨c, hc⟩ := sortedHeap_at (vs := vs) (out := (arrOf st).map (·.2)) oL
  refine wpAny_pure ⟨_, rfl, hQ _ s1.heap.objs.size _ c ss (fun b u e => ?_) g1 o1 hz hc a1 ((a2.trans (pm.map nameE)).trans pl) a3⟩
  have lb := Heap.lt_size (k1 b u e)
  show (sortedHeap (s1.heap.push (seqObj "list" vs.toArray 0)) s1.heap.objs.size vs _).get? b = some u
  rw [sortedHeap_old (Nat.ne_of_lt lb) (by rw [size_push']; exact Nat.lt_succ_of_lt lb)]
  exact Heap.get?_push_of_some _ (k1 b u e)
end
/-- such a set, as a thing of the heap -/
def SetSO (w : World) (a : Addr) (l : List Str) : HO := .ext fun h => SetS w h a l
section
variable {X : Cx}
def rSetOfS (K : PySem.W.Frag) (w : World) : List V → Hp → VK → Prop := fun xs H Q => ∃ (l : Addr) (ns : List Str), xs = [V.ref l] ∧ SqL K H l (ns.map V.str) ∧ ns.length + 1 < scanBound ∧ ∀ a, H a = none → Q (.ref a) (upd H a (SetSO w a (dedS ns)))
theorem cr_setOfS (hc : X.calm = true) : CallR X (.type "set") (rSetOfS X.K X.w) := by
  intro pins s σ H vs us Q I r h
  obtain ⟨l, ns, rfl, hl, hf, q⟩ := h
  rw [Vals.ref1 r]
  obtain ⟨its, rv, pl, _⟩ := I.list hl
  have ll := rv.length
  rw [List.length_map] at ll
  refine call_setS (P := X.prog) (w := X.w) (I.ok.hd hc) pl.isList (by simpa using rv.strs) (by simp; omega) fun h' tk R k => ⟨.ref s.heap.objs.size, _, I.laid (t' := tk) k (Nat.le_refl _) ?_, rfl, q _ (I.hok.fresh (Nat.le_refl _))⟩
  have ⟨_, e, _⟩ := id R
  exact ⟨R, ⟨_, e⟩, fun h1 h2 z kk => z.at kk⟩
def rSortedSetS (w : World) : List V → Hp → VK → Prop := fun vs H Q => ∃ (a : Addr) (l : List Str), vs = [V.ref a] ∧ H a = some (SetSO w a l) ∧ l.length < scanBound ∧ ∀ (ns : List Str) (p : Addr), ns.Perm l → sortedS ns = true → H p = none → Q (.ref p) (upd H p (.lst (ns.map V.str)))
theorem cr_sortedSetS (hc : X.calm = true) : CallR X (.builtin "sorted") (rSortedSetS X.w) := by
  intro pins s σ H vs us Q I r h
  obtain ⟨a, l, rfl, ha, few, q⟩ := h
  rw [Vals.ref1 r]
  refine sorted_setS (I.hok a _ ha).1 (I.ok.hd hc) few fun s' p out c ns k g o hp hg hi hpm hs => ?_
  have fits : (ns.map V.str).length ≤ sizeLine := by rw [List.length_map, hpm.length_eq]; exact fits_of_scanBound few
  have fr : H p = none := I.hok.fresh hp
  have J : Inv X pins σ (upd H p (.lst (ns.map V.str))) { s with heap := s'.heap, gens := s'.gens, drawn := s'.drawn, toks := s'.toks } := I.call (ch := []) (Un.laid k hp fr) (I.hok.laid k hp ⟨fits, out.toList, c, vals_of_strs hi, hg⟩) (by rw [g]; exact I.bare) (fun _ z => nomatch z)
  cases s'; cases s; cases o
  exact ⟨.ref p, _, J, rfl, q ns p hpm hs fr⟩
/-- sorted(list of texts), of any length -/
def rSortS (K : PySem.W.Frag) : List V → Hp → VK → Prop := fun vs H Q => ∃ (a : Addr) (xs : List Str), vs = [V.ref a] ∧ SqL K H a (xs.map V.str) ∧ ∀ (ys : List Str) (p : Addr), ys.Perm xs → sortedS ys = true → H p = none → Q (.ref p) (upd H p (.lst (ys.map V.str)))
theorem cr_sortS : CallR X (.builtin "sorted") (rSortS X.K) := by
  intro pins s σ H vs us Q I r h
  obtain ⟨a, xs, rfl, hs, q⟩ := h
  rw [Vals.ref1 r]
  obtain ⟨its, rv, hl, hz⟩ := I.list hs
  have l0 := rv.length
  rw [List.length_map] at l0 hz
  refine sorted_strsAny hl.isList rv.strs (l0 ▸ hz) fun out ys h1 h2 h3 => ?_
  have ⟨ep, he⟩ := sortedAll_at s.heap its out
  exact ⟨.ref _, upd H (s.heap.objs.size + 1) (.lst (ys.map V.str)), I.laid (t' := s.toks) (fun _ _ => sortedAll_old) (Nat.le_succ _) ⟨by rw [List.length_map, h2.length_eq]; exact hz, out.toList, ep, vals_of_strs h1, he⟩, rfl, q ys _ h2 h3 (I.hok.fresh (Nat.le_succ _))⟩
end
end VS

/-! VR, part C: max(list of ints, default=d). -/
namespace VS
open PySem PySem.Spec L2 PyProof.Rows

section
variable {prog : Program} {w : World} {A : Around} {E : Value → Shared → Prop} {s : Shared} {l : Addr} {xs : Array (Int × Tok)}
theorem max_intListD {d : Value} {Q : Value → Shared → Prop} (hh : A.handled = none) (hl : s.heap.IsList l (intItems xs))
    (h0 : xs.size = 0 → ∀ h' tk, (∀ b o, s.heap.get? b = some o → h'.get? b = some o) → Q d { s with heap := h', toks := tk })
    (h : 0 < xs.size → ∀ v h' tk, (intItems xs)[argBest (fun i j => decide (numAt xs i > numAt xs j)) (xs.size - 1)]? = some v → (∀ b o, s.heap.get? b = some o → h'.get? b = some o) → Q v { s with heap := h', toks := tk }) :
    wpAny (model prog w) A (call (.builtin "max") [.ref l] [(Str.ofString "default", d)]) Q E s := by
  have mv : ∀ {G : Array GenState → Array GenState → Prop} {s₂ s' : Shared}, s₂ = { s with heap := s.heap.push { cls := .type "list_iterator", data := .fields #[.ref l, .int 0 0] } } → (∀ a b, G a b → b = a) → Moved [s.heap.objs.size] G s₂ s' →
      ∃ h' tk, s' = { s with heap := h', toks := tk } ∧ ∀ b o, s.heap.get? b = some o → h'.get? b = some o := fun {G s₂ s'} e hg hm => by
    subst e
    obtain ⟨h', g', d', tk', os'⟩ := s'
    have eg : g' = s.gens := hg _ _ hm.gens
    have ed : d' = s.drawn := hm.drawn
    have eo : os' = s.os := hm.os
    subst eg; subst ed; subst eo
    refine ⟨h', tk', rfl, old_kept (l := l) fun b o hb e => hm.heap b o hb e⟩
  refine call_max_walkD (iter_intList hl fun s₂ e st hfp hlI => ?_)
  subst e
  refine ⟨_, _, _, _, _, _, _, ⟨#[], s.heap.life⟩, (fun i j => decide (numAt xs i > numAt xs j)), rfl, (Walks.list (A := A.in1) hh _ l hlI (intItems xs)).toS, st, hfp, (fun b o z => by simp [Heap.get?] at z), (fun b o z => by simp [Heap.get?] at z), fun hn s' hm => ?_, fun hn => ⟨fun i j vi vj s' Q' E' _ hi hj hq => ?_, fun v s' hP hm => ?_⟩⟩
  · obtain ⟨h', tk, e, hk⟩ := mv rfl (fun a b z => z) hm
    rw [e]; exact h0 (by simpa [intItems] using hn) h' tk hk
  · exact CmpOf.ints_gt (numAt xs) (fun _ _ => intItems_at) i j vi vj s' Q' E' hi hj hq
  · obtain ⟨h', tk, e, hk⟩ := mv rfl (fun a b z => z) hm
    rw [e]; exact h (by simpa [intItems] using hn) v h' tk (by simpa [intItems] using hP) hk
end
def maxD (d : Int) : List Int → Int
  | [] => d
  | i :: r => r.foldl (fun a b => if a < b then b else a) i
theorem fold_max : ∀ (r : List Int) (i : Int), (r.foldl (fun a b => if a < b then b else a) i = i ∨ r.foldl (fun a b => if a < b then b else a) i ∈ r) ∧ i ≤ r.foldl (fun a b => if a < b then b else a) i ∧ ∀ y ∈ r, y ≤ r.foldl (fun a b => if a < b then b else a) i
  | [], i => ⟨.inl rfl, Int.le_refl _, fun y h => nomatch h⟩
  | x :: r, i => by
    rw [List.foldl_cons]
    obtain ⟨h1, h2, h3⟩ := fold_max r (if i < x then x else i)
    generalize hm : r.foldl (fun a b => if a < b then b else a) (if i < x then x else i) = m at h1 h2 h3
    by_cases c : i < x
    · rw [if_pos c] at h1 h2
      refine ⟨.inr ?_, by omega, fun y hy => ?_⟩
      · rcases h1 with h1 | h1
        · rw [h1]; exact List.mem_cons_self
        · exact List.mem_cons_of_mem _ h1
      · rcases List.mem_cons.mp hy with rfl | hy
        · exact h2
        · exact h3 y hy
    · rw [if_neg c] at h1 h2
      refine ⟨?_, h2, fun y hy => ?_⟩
      · rcases h1 with h1 | h1
        · exact .inl h1
        · exact .inr (List.mem_cons_of_mem _ h1)
      · rcases List.mem_cons.mp hy with rfl | hy
        · omega
        · exact h3 y hy
theorem maxD_mem {d : Int} {ns : List Int} (h : ns ≠ []) : maxD d ns ∈ ns ∧ ∀ y ∈ ns, y ≤ maxD d ns := by
  cases ns with
  | nil => exact absurd rfl h
  | cons i r =>
    obtain ⟨h1, h2, h3⟩ := fold_max r i
    refine ⟨?_, fun y hy => ?_⟩
    · show r.foldl (fun a b => if a < b then b else a) i ∈ i :: r
      rcases h1 with h1 | h1
      · rw [h1]; exact List.mem_cons_self
      · exact List.mem_cons_of_mem _ h1
    · rcases List.mem_cons.mp hy with rfl | hy
      · exact h2
      · exact h3 y hy
theorem maxD_eq {d m : Int} {ns : List Int} (h1 : m ∈ ns) (h2 : ∀ y ∈ ns, y ≤ m) : m = maxD d ns := by
  have hn : ns ≠ [] := fun z => by rw [z] at h1; cases h1
  obtain ⟨a, b⟩ := maxD_mem (d := d) hn
  have := h2 _ a
  have := b _ h1
  omega
section
variable {X : Cx}
def rMaxDf (K : PySem.W.Frag) : List V → List V → Hp → VK → Prop := fun vs zs H Q => ∃ (a : Addr) (ns : List Int) (d : Int), vs = [V.ref a] ∧ zs = [V.int d] ∧ SqL K H a (ns.map V.int) ∧ Q (.int (maxD d ns)) H
theorem cr_maxDf (hc : X.calm = true) : CallRK X (.builtin "max") [Str.ofString "default"] (rMaxDf X.K) := by
  intro pins s σ H vs zs us ws Q I r rz h
  obtain ⟨a, ns, d, rfl, rfl, hs, q⟩ := h
  obtain ⟨its, rv, hl, hz⟩ := I.list hs
  rw [Vals.ref1 r]
  obtain ⟨u, rfl, ⟨td, rfl⟩⟩ := vals1 rz
  have hi := rv.ints
  obtain ⟨xs, e⟩ := hi.allInts.items
  have hn : numsOf (intItems xs).toList = ns := by rw [← e]; exact hi.numsOf
  rw [nums_intItems] at hn
  have hl := hl.isList
  rw [e] at hl
  show wpAny _ _ (call (.builtin "max") [.ref a] [(Str.ofString "default", .int d td)]) _ _ _
  refine max_intListD (I.ok.hd hc) hl (fun h0 h' tk hk => ?_) fun hp v h' tk hv hk => ?_
  · have : ns = [] := by
      rw [← hn]
      exact List.eq_nil_of_length_eq_zero (by rw [List.length_map, Array.length_toList]; exact h0)
    rw [this] at q
    exact ⟨.int d, H, I.kept hk, ⟨_, rfl⟩, q⟩
  · obtain ⟨t, rfl⟩ := intItems_at hv
    obtain ⟨h1, h2⟩ := argBest_gt (numAt xs) (xs.size - 1)
    refine ⟨.int _, H, I.kept hk, ⟨t, rfl⟩, ?_⟩
    rw [maxD_eq (d := d) (ns := ns) (m := numAt xs (argBest (fun i j => decide (numAt xs i > numAt xs j)) (xs.size - 1))) ?_ ?_]
    · exact q
    · rw [numAt_eq, hn]; exact PySem.getD_mem (by rw [← hn, List.length_map, Array.length_toList]; omega)
    · intro y hy
      obtain ⟨j, hj, rfl⟩ := mem_getD hy
      rw [← hn, List.length_map, Array.length_toList] at hj
      have := h2 j (by omega)
      rw [numAt_eq, hn] at this
      exact this
end
end VS

/-! VS, part A: data, the small language, its interpreter. -/
namespace VS
open PySem

/-- a value: data by value; a mutable object by its number; a global by its name -/
inductive D where
  | non | bl (b : Bool) | int (i : Int) | str (s : Str)
  | tup (xs : List D) | lst (xs : List D)
  | dic (ks : List L2.Key) (vs : List D)
  | ref (n : Nat) | glo (x : Str) | ty (n : String)
  /-- the law's own list of whole numbers -/
  | scr (ns : List Int)
  deriving Inhabited

/-- how a cell stands: it may change; it is being walked; it never changes again -/
inductive Lk where
  | mu | lk | fz
  deriving DecidableEq

structure Cell where
  lk : Lk
  c : D

abbrev Cells := List Cell

structure Exn where
  cls : Str
  args : List D

inductive R (α : Type) where
  | ok (a : α) (S : Cells)
  | exn (x : Exn) (S : Cells)
  | stuck

def R.bind {α β : Type} (r : R α) (f : α → Cells → R β) : R β :=
  match r with
  | .ok a S => f a S
  | .exn x S => .exn x S
  | .stuck => .stuck

theorem R.bind_ok {α β : Type} (a : α) (S : Cells) (f : α → Cells → R β) : (R.ok a S).bind f = f a S := rfl
theorem R.bind_exn {α β : Type} (x : Exn) (S : Cells) (f : α → Cells → R β) : (R.exn x S : R α).bind f = .exn x S := rfl
theorem R.bind_stuck {α β : Type} (f : α → Cells → R β) : (R.stuck : R α).bind f = .stuck := rfl

/-- from a decided condition -/
def R.need {α : Type} (c : Bool) (r : R α) : R α := if c then r else .stuck
theorem R.need_true {α : Type} (r : R α) : R.need true r = r := rfl

/-- the longest list or text -/
abbrev line : Nat := 16777216

/-! ### data -/
mutual
/-- data that == can compare here -/
def D.dat : D → Bool
  | .non | .bl _ | .int _ => true
  | .str s => PyData.strOk s
  | .tup xs | .lst xs => D.dats xs
  | _ => false
def D.dats : List D → Bool
  | [] => true
  | x :: xs => x.dat && D.dats xs
end

mutual
/-- how deep -/
def D.dep : D → Nat
  | .tup xs | .lst xs => D.deps xs + 1
  | _ => 0
def D.deps : List D → Nat
  | [] => 0
  | x :: xs => max x.dep (D.deps xs)
end

mutual
/-- Python's == on data -/
def eqD : D → D → Bool
  | .non, e => match e with | .non => true | _ => false
  | .bl a, e => match e with | .bl b => a == b | .int j => (if a then 1 else 0) == j | _ => false
  | .int i, e => match e with | .int j => i == j | .bl b => i == (if b then 1 else 0) | _ => false
  | .str x, e => match e with | .str y => x == y | _ => false
  | .tup xs, e => match e with | .tup ys => eqDs xs ys | _ => false
  | .lst xs, e => match e with | .lst ys => eqDs xs ys | _ => false
  | _, _ => false
def eqDs : List D → List D → Bool
  | [], e => match e with | [] => true | _ :: _ => false
  | x :: xs, e => match e with | y :: ys => eqD x y && eqDs xs ys | [] => false
end

mutual
/-- data as the library's data -/
def D.py : D → PyData
  | .bl b => .bool b
  | .int i => .int i
  | .str s => .str s
  | .tup xs => .tuple (D.pys xs)
  | .lst xs => .list (D.pys xs)
  | _ => .none
def D.pys : List D → List PyData
  | [] => []
  | x :: xs => x.py :: D.pys xs
end
/-- data whose text is told -/
def D.rp (d : D) : Bool := d.dat && d.py.showable && decide (d.dep ≤ 64) && decide (d.py.shown.length ≤ line)

/-- a thing that == compares by itself alone -/
def D.flat : D → Bool
  | .non | .bl _ | .int _ | .str _ => true
  | _ => false

/-- the value by its cell -/
def val (S : Cells) : D → Option D
  | .ref n => (S[n]?).map (·.c)
  | d => some d

/-- made part of something else: its cell never changes again -/
def frz (d : D) (S : Cells) : R D :=
  match d with
  | .ref n => match S[n]? with
    | some ⟨.lk, _⟩ => .stuck
    | some ⟨_, .lst xs⟩ => .ok (.lst xs) (S.set n ⟨.fz, .lst xs⟩)
    | some ⟨_, .dic ks vs⟩ => .ok (.dic ks vs) (S.set n ⟨.fz, .dic ks vs⟩)
    | _ => .stuck
  | d => .ok d S
def frzs : List D → Cells → R (List D)
  | [], S => .ok [] S
  | d :: ds, S => (frz d S).bind fun e S => (frzs ds S).bind fun es S => .ok (e :: es) S

/-- a new list -/
def newL (xs : List D) (S : Cells) : R D := .ok (.ref S.length) (S ++ [⟨.mu, .lst xs⟩])

/-- back to so many cells: what is told of the new ones goes to the first new place -/
def norm (n : Nat) : R D → R D
  | .ok (.ref m) S => if m < n then .ok (.ref m) (S.take n) else match S[m]? with
    | some c => .ok (.ref n) (S.take n ++ [c])
    | none => .stuck
  | .ok d S => .ok d (S.take n)
  | .exn x S => .exn x (S.take n)
  | .stuck => .stuck

/-- truth -/
def truth (S : Cells) (d : D) : Option Bool :=
  match val S d with
  | some .non => some false
  | some (.bl b) => some b
  | some (.int i) => some (i != 0)
  | some (.str s) => if s.length ≤ line then some ((s.length : Int) != 0) else none
  | some (.tup xs) => some (!xs.isEmpty)
  | some (.lst xs) => some (!xs.isEmpty)
  | _ => none
def truthR (d : D) (S : Cells) (f : Bool → R D) : R D :=
  match truth S d with
  | some b => f b
  | none => .stuck

/-! ### the language -/
inductive Bop where
  | add | sub | mul | fdiv | mod | pow
  deriving DecidableEq
inductive Cop where
  | eq | ne | lt | le | gt | ge | isin | notin | isN | notN
  deriving DecidableEq

/-- built-in functions and types that are called -/
inductive Blt where
  | len | tuple | list | int | sorted | all | any | sum | abs | repr | min2 | max2 | max1 | min1 | dict | str
  deriving DecidableEq
inductive Mth where
  | append | extend | pop0 | pop1 | reverse | join | index | get1 | get2
  deriving DecidableEq

inductive Tg where
  | v (i : Nat)
  | tup (is : List Nat)
  deriving DecidableEq

mutual
inductive Ex where
  | k (d : D)
  | v (i : Nat)
  | g (x : Str)
  | tup (es : Exs) | lst (es : Exs)
  | bin (op : Bop) (a b : Ex)
  | neg (a : Ex)
  | cmp (op : Cop) (a b : Ex)
  | chain (o p : Cop) (a b c : Ex)
  | and (a b : Ex) | or (a b : Ex) | not (a : Ex)
  | ite (t a b : Ex)
  | ix (a i : Ex)
  | int1 (a : Ex)
  | sl (a lo hi : Ex)
  | isi (a : Ex) (t : String)
  | call (f : Str) (es : Exs)
  | callv (f : Ex) (es : Exs)
  | callk (f : Str) (pm : List Nat) (es : Exs)
  | blt (b : Blt) (es : Exs)
  | fz (a : Ex)
  | gc (x : Str) (d : D)
  | maxd (a d : Ex)
  | sset (a : Ex)
  | dnew
  | disp (ks : List L2.Key) (vs : Exs)
  | items (a : Ex)
  | rvs (a : Ex)
  | mth (m : Mth) (a : Ex) (es : Exs)
  | lc (elt : Ex) (w : List Nat) (tg : Tg) (it : It) (ifs : Exs)
  | lc2 (elt : Ex) (w w1 : List Nat) (tg : Tg) (it : It) (ifs : Exs) (tg1 : Tg) (it1 : It) (ifs1 : Exs)
inductive Exs where
  | nil
  | cons (e : Ex) (es : Exs)
/-- what is walked -/
inductive It where
  | seq (e : Ex)
  | rng1 (a : Ex) | rng2 (a b : Ex) | rng3 (a b c : Ex)
  | enum (e : Ex)
  | zip (a b : Ex)
  | rev (e : Ex)
end

/-! ### operations -/
def mulOk (i j : Int) : Bool := decide (Builtin.Int.intBits i ≤ 64) || decide (Builtin.Int.intBits j ≤ 64) || decide (Builtin.Int.intBits i + Builtin.Int.intBits j ≤ 100000000)
def powOk (i n : Int) : Bool := decide (0 ≤ n) && decide ((Builtin.Int.intBits i : Int) * n ≤ 134217728)
def divOk (j : Int) : Bool := decide (0 < j) && decide (j.natAbs.log2 < 9000)
def rep {α : Type} (xs : List α) (n : Nat) : List α := (List.replicate n xs).flatten

/-- a op b of values -/
def binV (op : Bop) (x y : D) (S : Cells) : R D :=
  match op, x, y with
  | .add, .int i, .int j => .ok (.int (i + j)) S
  | .sub, .int i, .int j => .ok (.int (i - j)) S
  | .mul, .int i, .int j => .need (mulOk i j) (.ok (.int (i * j)) S)
  | .fdiv, .int i, .int j => .need (divOk j) (.ok (.int (i / j)) S)
  | .mod, .int i, .int j => .need (decide (0 < j)) (.ok (.int (i % j)) S)
  | .pow, .int i, .int j => .need (powOk i j) (.ok (.int (i ^ j.toNat)) S)
  | .add, .str a, .str b => .need (decide (a.length + b.length ≤ line)) (.ok (.str (a ++ b)) S)
  | .add, .lst a, .lst b => .need (decide (a.length + b.length ≤ line)) (newL (a ++ b) S)
  | .add, .tup a, .tup b => .need (decide (a.length + b.length ≤ line)) (.ok (.tup (a ++ b)) S)
  | .mul, .lst a, .int j => .need (decide (j < 9223372036854775808) && decide (-9223372036854775808 ≤ j) && decide (a.length * j.toNat ≤ line)) (newL (rep a j.toNat) S)
  | .mul, .tup a, .int j => .need (!a.isEmpty && decide (2 ≤ j) && decide (j ≤ 1000) && decide (a.length ≤ 1000)) (.ok (.tup (rep a j.toNat)) S)
  | _, _, _ => .stuck
/-- with the operands by their cells -/
def both (x y : D) (S : Cells) (f : D → D → R D) : R D :=
  match val S x, val S y with
  | some a, some b => f a b
  | _, _ => .stuck
def one (x : D) (S : Cells) (f : D → R D) : R D :=
  match val S x with
  | some a => f a
  | none => .stuck

/-- dicts -/
def keyOf : D → Option L2.Key
  | .int i => some (.inl i)
  | .str s => some (.inr s)
  | _ => none
def keyD : L2.Key → D
  | .inl i => .int i
  | .inr s => .str s
def dget : List L2.Key → List D → L2.Key → Option D
  | k :: ks, v :: vs, x => if k = x then some v else dget ks vs x
  | _, _, _ => none
def dhas (ks : List L2.Key) (x : L2.Key) : Bool := ks.any fun z => decide (z = x)
def dmap : List L2.Key → List D → L2.Key → D → List D
  | k :: ks, v :: vs, x, d => (if k = x then d else v) :: dmap ks vs x d
  | _, _, _, _ => []
def dputK (ks : List L2.Key) (x : L2.Key) : List L2.Key := if dhas ks x = true then ks else ks ++ [x]
def dputV (ks : List L2.Key) (vs : List D) (x : L2.Key) (d : D) : List D := if dhas ks x = true then dmap ks vs x d else vs ++ [d]
/-- pairs put one after another -/
def dputs : List L2.Key → List D → List (L2.Key × D) → List L2.Key × List D
  | ks, vs, [] => (ks, vs)
  | ks, vs, (k, d) :: r => dputs (dputK ks k) (dputV ks vs k d) r
def pairD : D → Option (L2.Key × D)
  | .tup [k, d] => (keyOf k).map fun x => (x, d)
  | _ => none
def pairsD : List D → Option (List (L2.Key × D))
  | [] => some []
  | x :: r => match pairD x, pairsD r with
    | some p, some ps => some (p :: ps)
    | _, _ => none
def itemsD (ks : List L2.Key) (vs : List D) : List D := (ks.zip vs).map fun p => .tup [keyD p.1, p.2]
/-- a new dict -/
def newD (ks : List L2.Key) (vs : List D) (S : Cells) : R D := .ok (.ref S.length) (S ++ [⟨.mu, .dic ks vs⟩])

/-- order of texts -/
def strLt (a b : Str) : Bool := decide (a.cps.toList < b.cps.toList)
/-- x in y -/
def inV (x y : D) : Option Bool :=
  match y with
  | .lst ys => if x.flat && ys.all D.flat then some (ys.any fun z => eqD z x) else if x.dat && D.dats ys && decide (x.dep ≤ 64) then some (ys.any fun z => eqD z x) else none
  | .tup ys => if x.flat && ys.all D.flat then some (ys.any fun z => eqD z x) else if x.dat && D.dats ys && decide (x.dep ≤ 64) then some (ys.any fun z => eqD z x) else none
  | .dic ks _ => match keyOf x with
    | some k => some (dhas ks k)
    | none => none
  | .str t => match x with
    | .str s => match s.cps.toList with
      | [c] => some (decide (c ∈ t.cps.toList))
      | _ => none
    | _ => none
  | _ => none
def bR (o : Option Bool) (S : Cells) : R D :=
  match o with
  | some b => .ok (.bl b) S
  | none => .stuck
def eqV (x y : D) : Option Bool :=
  if x.flat && y.flat then some (eqD x y) else if x.dat && y.dat && (decide (x.dep ≤ 64) || decide (y.dep ≤ 64)) then some (eqD x y) else none
def ltV (x y : D) : Option Bool :=
  match x, y with
  | .int i, .int j => some (decide (i < j))
  | .str a, .str b => some (strLt a b)
  | _, _ => none
def leV (x y : D) : Option Bool :=
  match x, y with
  | .int i, .int j => some (decide (i ≤ j))
  | _, _ => none
def cmpV (op : Cop) (x y : D) : Option Bool :=
  match op with
  | .eq => eqV x y
  | .ne => (eqV x y).map (!·)
  | .lt => ltV x y
  | .le => leV x y
  | .gt => match x, y with | .int i, .int j => some (decide (j < i)) | _, _ => none
  | .ge => match x, y with | .int i, .int j => some (decide (j ≤ i)) | _, _ => none
  | .isin => inV x y
  | .notin => (inV x y).map (!·)
  | .isN => match y, x with
    | .non, .non => some true
    | .non, .ref _ => some false
    | .non, .bl _ => some false | .non, .int _ => some false | .non, .str _ => some false | .non, .tup _ => some false | .non, .lst _ => some false
    | _, _ => none
  | .notN => match y, x with
    | .non, .non => some false
    | .non, .ref _ => some true
    | .non, .bl _ => some true | .non, .int _ => some true | .non, .str _ => some true | .non, .tup _ => some true | .non, .lst _ => some true
    | _, _ => none

/-- the place of i among n -/
def atN (n : Nat) (i : Int) : Option Nat := if 0 ≤ i then (if i.toNat < n then some i.toNat else none) else if 0 ≤ i + n then some (i + n).toNat else none
/-- x[i] -/
def ixV (x i : D) (S : Cells) : R D :=
  match x, i with
  | .dic ks vs, i => match keyOf i with | some k => (match dget ks vs k with | some d => .ok d S | none => .stuck) | none => .stuck
  | .tup xs, .int i => match atN xs.length i with | some j => (match xs[j]? with | some d => .ok d S | none => .stuck) | none => .stuck
  | .lst xs, .int i => match atN xs.length i with | some j => (match xs[j]? with | some d => .ok d S | none => .stuck) | none => .stuck
  | .str s, .int i => .need (decide (s.length ≤ line)) (match atN s.cps.toList.length i with | some j => (match s.cps.toList[j]? with | some c => .ok (.str ⟨#[c]⟩) S | none => .stuck) | none => .stuck)
  | _, _ => .stuck
/-- a slice's bound -/
def bnd (n d : Nat) : D → Option Nat
  | .non => some d
  | .int v => some (if v < 0 then (v + (n : Int)).toNat else min v.toNat n)
  | _ => none
def cut {α : Type} (xs : List α) (i j : Nat) : List α := (xs.drop i).take (j - i)
def slV (x lo hi : D) (S : Cells) : R D :=
  match x with
  | .tup xs => match bnd xs.length 0 lo, bnd xs.length xs.length hi with | some i, some j => .ok (.tup (cut xs i j)) S | _, _ => .stuck
  | .lst xs => match bnd xs.length 0 lo, bnd xs.length xs.length hi with | some i, some j => newL (cut xs i j) S | _, _ => .stuck
  | .scr ns => match bnd ns.length 0 lo, bnd ns.length ns.length hi with | some i, some j => newL (cut (ns.map D.int) i j) S | _, _ => .stuck
  | .str s => .need (decide (s.length ≤ line)) (match bnd s.cps.toList.length 0 lo, bnd s.cps.toList.length s.cps.toList.length hi with | some i, some j => .ok (.str ⟨(cut s.cps.toList i j).toArray⟩) S | _, _ => .stuck)
  | _ => .stuck

def tyOf : D → Option String
  | .non => some "NoneType" | .bl _ => some "bool" | .int _ => some "int" | .str _ => some "str" | .tup _ => some "tuple" | .lst _ => some "list"
  | .dic _ _ => some "dict"
  | _ => none
def isiV (t : String) (d : D) : Option Bool :=
  match tyOf d with
  | some u => some (u == t || (u == "bool" && t == "int"))
  | none => none

def intsD : List D → Option (List Int)
  | [] => some []
  | .int i :: r => (intsD r).map (i :: ·)
  | _ => none
def strsD : List D → Option (List Str)
  | [] => some []
  | .str s :: r => (strsD r).map (s :: ·)
  | _ => none
def boolsD : List D → Option (List Bool)
  | [] => some []
  | .bl b :: r => (boolsD r).map (b :: ·)
  | _ => none
def insI (i : Int) : List Int → List Int
  | [] => [i]
  | j :: r => if i ≤ j then i :: j :: r else j :: insI i r
def sortI : List Int → List Int
  | [] => []
  | i :: r => insI i (sortI r)
def strLe (a b : Str) : Bool := !strLt b a
def insS (i : Str) : List Str → List Str
  | [] => [i]
  | j :: r => if strLe i j then i :: j :: r else j :: insS i r
def sortS : List Str → List Str
  | [] => []
  | i :: r => insS i (sortS r)
def seqOf : D → Option (List D)
  | .tup xs => some xs
  | .lst xs => some xs
  | _ => none


/-! ### the interpreter -/
abbrev Env := List (Option D)
abbrev CallF := Str → List D → Cells → R D

def R.only {α : Type} : R α → R α
  | .ok a S => .ok a S
  | _ => .stuck

/-- targets -/
def asgs : List Nat → List D → Env → Option Env
  | [], [], ρ => some ρ
  | i :: is, d :: ds, ρ => asgs is ds (ρ.set i (some d))
  | _, _, _ => none
def asg (tg : Tg) (d : D) (ρ : Env) : Option Env :=
  match tg with
  | .v i => some (ρ.set i (some d))
  | .tup is => match d with
    | .tup ds => asgs is ds ρ
    | _ => none
def wipeE (ρ : Env) : List Nat → Env
  | [] => ρ
  | v :: vs => (wipeE ρ vs).set v none

/-- a walk: what comes, and which cell is held meanwhile -/
abbrev Walked := List D × Option Nat
def hold (n : Nat) (d : D) (S : Cells) : R Walked :=
  match d with
  | .ref m => match S[m]? with
    | some ⟨.mu, .lst xs⟩ => if m < n then .ok (xs, some m) ((S.take n).set m ⟨.lk, .lst xs⟩) else .ok (xs, none) (S.take n)
    | some ⟨_, .lst xs⟩ => .ok (xs, none) (S.take n)
    | _ => .stuck
  | .lst xs => .ok (xs, none) (S.take n)
  | .tup xs => .ok (xs, none) (S.take n)
  | .str s => .ok (s.cps.toList.map fun c => D.str ⟨#[c]⟩, none) (S.take n)
  | _ => .stuck
def free (o : Option Nat) (S : Cells) : Option Cells :=
  match o with
  | none => some S
  | some m => match S[m]? with
    | some ⟨.lk, c⟩ => some (S.set m ⟨.mu, c⟩)
    | _ => none
/-- as hold, of a list alone -/
def holdL (n : Nat) (d : D) (S : Cells) : R Walked :=
  match d with
  | .ref _ => hold n d S
  | .lst _ => hold n d S
  | _ => .stuck
def rngD (lo : Int) (n : Nat) : List D := (List.range n).map fun (i : Nat) => D.int (lo + i)
def enumD (xs : List D) : List D := (List.range xs.length).map fun (i : Nat) => D.tup [.int i, xs.getD i .non]
def rngC (lo : Int) (c : Int) (n : Nat) : List D := (List.range n).map fun (i : Nat) => D.int (lo + i * c)
def zipD (xs ys : List D) : List D := (List.range (min xs.length ys.length)).map fun (i : Nat) => D.tup [xs.getD i .non, ys.getD i .non]
def Walked.map (f : List D → List D) (w : Walked) : Walked := (f w.1, w.2)

/-- one turn after another; what each gives is joined -/
def turns (f : D → Cells → R (List D)) : List D → Cells → R (List D)
  | [], S => .ok [] S
  | x :: xs, S => (f x S).bind fun ys S => (turns f xs S).bind fun zs S => .ok (ys ++ zs) S
/-- a comprehension's end -/
def comp (n : Nat) (w : Walked) (f : D → Cells → R (List D)) (S : Cells) : R D :=
  (turns f w.1 S).bind fun ys S => match free w.2 S with
    | some S => .need (decide (ys.length ≤ line)) (newL ys (S.take n))
    | none => .stuck

/-- what an item gives -/
def keep (n : Nat) : R D → R (List D)
  | .ok d S => .ok [d] (S.take n)
  | _ => .stuck

/-- a slot -/
def look (ρ : Env) (i : Nat) (S : Cells) : R D :=
  match ρ[i]? with
  | some (some d) => .ok d S
  | _ => .stuck

def bltV (b : Blt) (ds : List D) (S : Cells) : R D :=
  match b, ds with
  | .len, [x] => one x S fun x => match x with
    | .lst xs => .ok (.int xs.length) S
    | .tup xs => .ok (.int xs.length) S
    | .str s => .need (decide (s.length ≤ line)) (.ok (.int s.length) S)
    | .dic ks _ => .ok (.int ks.length) S
    | _ => .stuck
  | .tuple, [x] => one x S fun x => match x with
    | .lst xs => .ok (.tup xs) S
    | .tup xs => .ok (.tup xs) S
    | _ => .stuck
  | .list, [x] => one x S fun x => match x with
    | .lst xs => newL xs S
    | .tup xs => newL xs S
    | _ => .stuck
  | .repr, [x] => one x S fun x => match seqOf x with
    | some _ => .need x.rp (.ok (.str x.py.shown) S)
    | none => .stuck
  | .int, [.int i] => .ok (.int i) S
  | .int, [.bl b] => .ok (.int (if b then 1 else 0)) S
  | .abs, [.int i] => .ok (.int (if i < 0 then -i else i)) S
  | .min2, [.int i, .int j] => .ok (.int (if j < i then j else i)) S
  | .max2, [.int i, .int j] => .ok (.int (if j > i then j else i)) S
  | .all, [x] => one x S fun x => match x with
    | .lst xs => match boolsD xs with
      | some bs => .ok (.bl (bs.all id)) S
      | none => .stuck
    | _ => .stuck
  | .any, [x] => one x S fun x => match x with
    | .lst xs => match boolsD xs with
      | some bs => .ok (.bl (bs.any id)) S
      | none => .stuck
    | _ => .stuck
  | .max1, [x] => one x S fun x => match x with
    | .lst xs => match intsD xs with
      | some is => .need (!is.isEmpty) (.ok (.int (maxD 0 is)) S)
      | none => .stuck
    | _ => .stuck
  | .sorted, [x] => one x S fun x => match x with
    | .lst xs => match strsD xs with
      | some ss => newL ((sortS ss).map .str) S
      | none => match intsD xs with
        | some is => newL ((sortI is).map .int) S
        | none => .stuck
    | _ => .stuck
  | .dict, [x] => one x S fun x => match x with
    | .dic ks vs => newD ks vs S
    | .lst xs => match pairsD xs with
      | some ps => newD (dputs [] [] ps).1 (dputs [] [] ps).2 S
      | none => .stuck
    | _ => .stuck
  | .sum, [x] => one x S fun x => match x with
    | .lst xs => match intsD xs with
      | some is => .ok (.int is.sum) S
      | none => .stuck
    | _ => .stuck
  | _, _ => .stuck

/-- a list's cell changed -/
def grow (d : D) (S : Cells) (f : List D → R D) (g : List D → List D) : R D :=
  match d with
  | .ref m => match S[m]? with
    | some ⟨.mu, .lst xs⟩ => (f xs).bind fun r _ => .ok r (S.set m ⟨.mu, .lst (g xs)⟩)
    | _ => .stuck
  | _ => .stuck
def mthV (m : Mth) (o : D) (ds : List D) (S : Cells) : R D :=
  match m, ds with
  | .append, [x] => (frz x S).bind fun x S => grow o S (fun xs => .need (decide (xs.length + 1 ≤ line)) (.ok .non S)) (fun xs => xs ++ [x])
  | .extend, [x] => one x S fun x => match x with
    | .lst ys => grow o S (fun xs => .need (decide (xs.length + ys.length ≤ line)) (.ok .non S)) (fun xs => xs ++ ys)
    | _ => .stuck
  | .pop0, [.int i] => if i = 0 then grow o S (fun xs => match xs with | x :: _ => .ok x S | [] => .stuck) (fun xs => xs.tail) else .stuck
  | .reverse, [] => grow o S (fun _ => .ok .non S) List.reverse
  | .index, [x] => one o S fun o => match o with
    | .lst xs => .need (x.flat && xs.all D.flat) (match xs.findIdx? (fun z => eqD z x) with
      | some j => .ok (.int (j : Nat)) S
      | none => .stuck)
    | _ => .stuck
  | .get1, [x] => one o S fun o => match o with
    | .dic ks vs => match keyOf x with
      | some k => .ok ((dget ks vs k).getD .non) S
      | none => .stuck
    | _ => .stuck
  | .get2, [x, d] => one o S fun o => match o with
    | .dic ks vs => match keyOf x with
      | some k => .ok ((dget ks vs k).getD d) S
      | none => .stuck
    | _ => .stuck
  | .join, [x] => match o with
    | .str sep => one x S fun x => match seqOf x with
      | some xs => match strsD xs with
        | some ss => .need (decide ((ss.map (·.length)).sum + ss.length * sep.length ≤ line)) (.ok (.str (Txt.join sep ss)) S)
        | none => .stuck
      | none => .stuck
    | _ => .stuck
  | _, _ => .stuck

/-- what the receiver is, ahead of the arguments -/
def mthK (m : Mth) (o : Option D) : Bool :=
  match m, o with
  | .join, some (.str _) => true
  | .join, _ => false
  | .get1, some (.dic _ _) => true
  | .get1, _ => false
  | .get2, some (.dic _ _) => true
  | .get2, _ => false
  | _, some (.lst _) => true
  | _, _ => false
/-- a whole number, or nothing goes -/
def intOnly (d : D) (S : Cells) : R D := match d with | .int i => .ok (.int i) S | _ => .stuck

section
variable (Φ : CallF)
mutual
def evE : Ex → Env → Cells → R D
  | .k d, _, S => .ok d S
  | .v i, ρ, S => look ρ i S
  | .g x, _, S => .ok (.glo x) S
  | .tup es, ρ, S => norm S.length ((evEs es ρ S).bind fun ds S => (frzs ds S).bind fun ds S => .need (decide (ds.length ≤ line)) (.ok (.tup ds) S))
  | .lst es, ρ, S => norm S.length ((evEs es ρ S).bind fun ds S => (frzs ds S).bind fun ds S => .need (decide (ds.length ≤ line)) (newL ds S))
  | .bin op a b, ρ, S => norm S.length ((evE a ρ S).bind fun x S => (evE b ρ S).bind fun y S => both x y S fun x y => binV op x y S)
  | .neg a, ρ, S => (evE a ρ S).bind fun x S => match x with | .int i => .ok (.int (-i)) S | _ => .stuck
  | .cmp op a b, ρ, S => norm S.length ((evE a ρ S).bind fun x S => (evE b ρ S).bind fun y S => both x y S fun x y => bR (cmpV op x y) S)
  | .chain o p a b c, ρ, S => norm S.length ((evE a ρ S).bind fun x S => (evE b ρ S).bind fun y S => both x y S fun x' y' => match cmpV o x' y' with
    | some true => (evE c ρ S).bind fun z S => both y z S fun y z => bR (cmpV p y z) S
    | some false => .ok (.bl false) S
    | none => .stuck)
  | .and a b, ρ, S => (evE a ρ S).bind fun x S1 => truthR x S1 fun t => if t then evE b ρ (S1.take S.length) else norm S.length (.ok x S1)
  | .or a b, ρ, S => (evE a ρ S).bind fun x S1 => truthR x S1 fun t => if t then norm S.length (.ok x S1) else evE b ρ (S1.take S.length)
  | .not a, ρ, S => norm S.length ((evE a ρ S).bind fun x S => truthR x S fun t => .ok (.bl (!t)) S)
  | .ite t a b, ρ, S => (norm S.length ((evE t ρ S).bind fun x S => truthR x S fun t => .ok (.bl t) S)).bind fun x S => match x with
    | .bl true => evE a ρ S
    | .bl false => evE b ρ S
    | _ => .stuck
  | .int1 a, ρ, S => (evE a ρ S).bind intOnly
  | .ix a i, ρ, S => norm S.length ((evE a ρ S).bind fun x S => (evE i ρ S).bind fun y S => both x y S fun x y => ixV x y S)
  | .sl a lo hi, ρ, S => norm S.length ((evE a ρ S).bind fun x S => (evE lo ρ S).bind fun l S => (evE hi ρ S).bind fun h S => one x S fun x => slV x l h S)
  | .isi a t, ρ, S => norm S.length ((evE a ρ S).bind fun x S => one x S fun x => bR (isiV t x) S)
  | .call f es, ρ, S => norm S.length ((evEs es ρ S).bind fun ds S => Φ f ds S)
  | .callv f es, ρ, S => norm S.length ((evE f ρ S).bind fun g S => match g with
    | .glo f => (evEs es ρ S).bind fun ds S => Φ f ds S
    | _ => .stuck)
  | .callk f pm es, ρ, S => norm S.length ((evEs es ρ S).bind fun ds S => Φ f (pm.map fun i => ds.getD i .non) S)
  | .fz a, ρ, S => norm S.length ((evE a ρ S).bind frz)
  | .gc _ d, _, S => .ok d S
  | .maxd a d, ρ, S => norm S.length ((evE a ρ S).bind fun x S => (evE d ρ S).bind fun y S => one x S fun x => match x, y with
    | .lst xs, .int d => match intsD xs with
      | some is => .ok (.int (maxD d is)) S
      | none => .stuck
    | _, _ => .stuck)
  | .sset a, ρ, S => norm S.length ((evE a ρ S).bind fun x S => one x S fun x => match x with
    | .lst xs => match strsD xs with
      | some ss => .need (decide (ss.length < 4000)) (newL ((sortS (dedS ss)).map .str) S)
      | none => .stuck
    | _ => .stuck)
  | .dnew, _, S => newD [] [] S
  | .disp ks vs, ρ, S => norm S.length ((evEs vs ρ S).bind fun ds S => (frzs ds S).bind fun ds S =>
    .need (decide (ks.length = ds.length) && decide (ks.length ≤ 15)) (newD (dputs [] [] (ks.zip ds)).1 (dputs [] [] (ks.zip ds)).2 S))
  | .items a, ρ, S => norm S.length ((evE a ρ S).bind fun x S => one x S fun x => match x with
    | .dic ks vs => newL (itemsD ks vs) S
    | _ => .stuck)
  | .rvs a, ρ, S => norm S.length ((evE a ρ S).bind fun x S => one x S fun x => match x with
    | .lst xs => newL xs.reverse S
    | _ => .stuck)
  | .blt b es, ρ, S => norm S.length ((evEs es ρ S).bind fun ds S => bltV b ds S)
  | .mth m o es, ρ, S => norm S.length ((evE o ρ S).bind fun x S => .need (mthK m (val S x)) ((evEs es ρ S).bind fun ds S => mthV m x ds S))
  | .lc elt w tg it ifs, ρ, S => (evI it ρ S).bind fun wk S' => comp S.length wk (fun x S => match asg tg x (wipeE ρ w) with
    | some ρ => ((evTs ifs ρ S).only).bind fun t S1 => if t then keep S.length ((evE elt ρ (S1.take S.length)).bind frz) else .ok [] (S1.take S.length)
    | none => .stuck) S'
  | .lc2 elt w w1 tg it ifs tg1 it1 ifs1, ρ, S => (evI it ρ S).bind fun wk S' => comp S.length wk (fun x S => match asg tg x (wipeE ρ w) with
    | some ρ => ((evTs ifs ρ S).only).bind fun t S1 => if t then ((evI it1 ρ (S1.take S.length)).only).bind fun wk1 S2 => (turns (fun x S => match asg tg1 x (wipeE ρ w1) with
        | some ρ => ((evTs ifs1 ρ S).only).bind fun t S1 => if t then keep S.length ((evE elt ρ (S1.take S.length)).bind frz) else .ok [] (S1.take S.length)
        | none => .stuck) wk1.1 S2).bind fun ys S3 => (match free wk1.2 S3 with | some S4 => .ok ys (S4.take S.length) | none => .stuck)
      else .ok [] (S1.take S.length)
    | none => .stuck) S'
def evEs : Exs → Env → Cells → R (List D)
  | .nil, _, S => .ok [] S
  | .cons e es, ρ, S => (evE e ρ S).bind fun d S => (evEs es ρ S).bind fun ds S => .ok (d :: ds) S
/-- the tests of a comprehension -/
def evTs : Exs → Env → Cells → R Bool
  | .nil, _, S => .ok true S
  | .cons e es, ρ, S => (evE e ρ S).bind fun d S => match truth S d with
    | some true => evTs es ρ S
    | some false => .ok false S
    | none => .stuck
def evI : It → Env → Cells → R Walked
  | .seq e, ρ, S => (evE e ρ S).bind fun d S' => hold S.length d S'
  | .rng1 a, ρ, S => (evE a ρ S).bind fun d S' => match d with
    | .int n => .need (decide (n < 4611686018427387904) && decide (-4611686018427387904 ≤ n)) (.ok (rngD 0 n.toNat, none) (S'.take S.length))
    | _ => .stuck
  | .rng2 a b, ρ, S => (evE a ρ S).bind fun d S1 => (evE b ρ S1).bind fun e S' => match d, e with
    | .int m, .int n => .need (decide (n < 4611686018427387904) && decide (-4611686018427387904 ≤ n) && decide (m < 4611686018427387904) && decide (-4611686018427387904 ≤ m)) (.ok (rngD m (n - m).toNat, none) (S'.take S.length))
    | _, _ => .stuck
  | .rng3 a b c, ρ, S => (evE a ρ S).bind fun d S1 => (evE b ρ S1).bind fun e S2 => (evE c ρ S2).bind fun f S' => match d, e, f with
    | .int i, .int j, .int k => .need (decide (k ≠ 0) && decide (k.natAbs < 1073741824) && Builtin.Range.small i j k && decide (0 ≤ Builtin.Range.rangeSize i j k)) (.ok (rngC i k (Builtin.Range.rangeSize i j k).toNat, none) (S'.take S.length))
    | _, _, _ => .stuck
  | .enum e, ρ, S => (evE e ρ S).bind fun d S' => (holdL S.length d S').bind fun w S => .ok (w.map enumD) S
  | .zip _ _, _, _ => .stuck
  | .rev e, ρ, S => (evE e ρ S).bind fun d S' => (holdL S.length d S').bind fun w S => .ok (w.map List.reverse) S
end
end

/-! ### statements -/
mutual
inductive Sx where
  | expr (e : Ex)
  | ret (e : Ex)
  | retN
  | set (i : Nat) (e : Ex)
  | unp (is : List Nat) (e : Ex)
  | star (is : List Nat) (at_ : Nat) (e : Ex)
  | seti (o i e : Ex)
  | aug (i : Nat) (op : Bop) (e : Ex)
  | ite (t : Ex) (a b : Sxs)
  | for (tg : Tg) (it : It) (b : Sxs)
  | while (t : Ex) (b : Sxs)
  | pass | cont | brk
  | never
inductive Sxs where
  | nil
  | cons (s : Sx) (ss : Sxs)
end

inductive FR where
  | next (ρ : Env) (S : Cells)
  | ret (d : D) (S : Cells)
  | brk (ρ : Env) (S : Cells)
  | cont (ρ : Env) (S : Cells)
  | exn (x : Exn) (ρ : Env) (S : Cells)
  | stuck
def R.toF {α : Type} (ρ : Env) (r : R α) (f : α → Cells → FR) : FR :=
  match r with
  | .ok a S => f a S
  | .exn x S => .exn x ρ S
  | .stuck => .stuck
def FR.thn (r : FR) (f : Env → Cells → FR) : FR :=
  match r with
  | .next ρ S => f ρ S
  | r => r
/-- the turns of a for -/
def forT (f : D → Env → Cells → FR) : List D → Env → Cells → FR
  | [], ρ, S => .next ρ S
  | x :: xs, ρ, S => match f x ρ S with
    | .next ρ S => forT f xs ρ S
    | .cont ρ S => forT f xs ρ S
    | .brk ρ S => .brk ρ S
    | r => r
def forE (o : Option Nat) (r : FR) : FR :=
  match r with
  | .next ρ S => match free o S with | some S => .next ρ S | none => .stuck
  | .brk ρ S => match free o S with | some S => .next ρ S | none => .stuck
  | .ret d S => match free o S with | some S => .ret d S | none => .stuck
  | .exn x ρ S => match free o S with | some S => .exn x ρ S | none => .stuck
  | _ => .stuck
def whileT (t : Env → Cells → R D) (b : Env → Cells → FR) : Nat → Env → Cells → FR
  | 0, _, _ => .stuck
  | n + 1, ρ, S => (t ρ S).toF ρ fun d S => match d with
    | .bl true => match b ρ S with
      | .next ρ S => whileT t b n ρ S
      | .cont ρ S => whileT t b n ρ S
      | .brk ρ S => .next ρ S
      | r => r
    | .bl false => .next ρ S
    | _ => .stuck
def augV (op : Bop) (m : Int) (y : D) : Option Int :=
  match op, y with
  | .add, .int n => some (m + n)
  | .sub, .int n => some (m - n)
  | _, _ => none
/-- o[i] = d -/
def setV (o i d : D) (S : Cells) : R D :=
  (frz d S).bind fun d S => match o with
    | .ref m => match S[m]? with
      | some ⟨.mu, .lst xs⟩ => match i with
        | .int i => match atN xs.length i with
          | some j => .ok .non (S.set m ⟨.mu, .lst (xs.set j d)⟩)
          | none => .stuck
        | _ => .stuck
      | some ⟨.mu, .dic ks vs⟩ => match keyOf i with
        | some k => .need (decide (ks.length < line)) (.ok .non (S.set m ⟨.mu, .dic (dputK ks k) (dputV ks vs k d)⟩))
        | none => .stuck
      | _ => .stuck
    | _ => .stuck

section
variable (Φ : CallF) (W : Nat)
/-- a test -/
def evT (e : Ex) (ρ : Env) (S : Cells) : R D := norm S.length ((evE Φ e ρ S).bind fun x S => truthR x S fun t => .ok (.bl t) S)
mutual
def evS : Sx → Env → Cells → FR
  | .expr e, ρ, S => (evE Φ e ρ S).toF ρ fun _ S' => .next ρ (S'.take S.length)
  | .ret e, ρ, S => (evE Φ e ρ S).toF ρ fun d S => .ret d S
  | .retN, _, S => .ret .non S
  | .set i e, ρ, S => (evE Φ e ρ S).toF ρ fun d S => .next (ρ.set i (some d)) S
  | .unp is e, ρ, S => (evE Φ e ρ S).toF ρ fun d S => match d with
    | .tup ds => match asgs is ds ρ with
      | some ρ => .next ρ S
      | none => .stuck
    | _ => .stuck
  | .star is k e, ρ, S => (evE Φ e ρ S).toF ρ fun d S => match val S d with
    | some v => match seqOf v with
      | some ds => if is.length ≤ ds.length + 1 then
          match asgs is (ds.take k ++ [.ref S.length] ++ ds.drop (ds.length - (is.length - 1 - k))) ρ with
          | some ρ => .next ρ (S ++ [⟨.mu, .lst ((ds.drop k).take (ds.length - (is.length - 1)))⟩])
          | none => .stuck
        else .stuck
      | none => .stuck
    | none => .stuck
  | .seti o i e, ρ, S => (norm S.length ((evE Φ e ρ S).bind fun d S => (evE Φ o ρ S).bind fun o S => (evE Φ i ρ S).bind fun i S => setV o i d S)).toF ρ fun _ S => .next ρ S
  | .aug i op e, ρ, S => (look ρ i S).toF ρ fun x S => match x with
    | .int m => (evE Φ e ρ S).toF ρ fun y S => match augV op m y with
      | some z => .next (ρ.set i (some (.int z))) S
      | none => .stuck
    | _ => .stuck
  | .ite t a b, ρ, S => (evT Φ t ρ S).toF ρ fun d S => match d with
    | .bl true => evSs a ρ S
    | .bl false => evSs b ρ S
    | _ => .stuck
  | .for tg it b, ρ, S => (evI Φ it ρ S).toF ρ fun w S => forE w.2 (forT (fun x ρ S => match asg tg x ρ with | some ρ => evSs b ρ S | none => .stuck) w.1 ρ S)
  | .while t b, ρ, S => whileT (evT Φ t) (evSs b) W ρ S
  | .pass, ρ, S => .next ρ S
  | .cont, ρ, S => .cont ρ S
  | .brk, ρ, S => .brk ρ S
  | .never, _, _ => .stuck
def evSs : Sxs → Env → Cells → FR
  | .nil, ρ, S => .next ρ S
  | .cons s ss, ρ, S => (evS s ρ S).thn fun ρ S => evSs ss ρ S
end
end

/-- a def -/
structure Fn where
  np : Nat
  ns : Nat
  body : Sxs
def retR (n : Nat) : FR → R D
  | .next _ S => .ok .non (S.take n)
  | .ret d S => norm n (.ok d S)
  | .exn x _ S => .exn x (S.take n)
  | _ => .stuck
def callF (prog : Str → Option Fn) (W : Nat) : Nat → CallF
  | 0, _, _, _ => .stuck
  | k + 1, f, ds, S => match prog f with
    | some fn => if ds.length = fn.np then retR S.length (evSs (callF prog W k) W fn.body (ds.map some ++ List.replicate (fn.ns - fn.np) none) S) else .stuck
    | none => .stuck
end VS

/-! VS, part B: how the layer's heap bears the data. -/
namespace VS
open PySem PySem.Spec L2

section
variable (K : PySem.W.Frag) (mg : Str → Option Value) (H : Hp) (M : Addr → Prop)
/-- a list, a tuple that never changes -/
def StL (a : Addr) (vs : List V) : Prop := (Rd H a (.lst vs) ∧ ¬ M a) ∨
  ∃ (o : Obj) (its : Array Value) (n : Nat), K.lookup a = some o ∧ o.cls = .type "list" ∧ o.dict = none ∧ o.data = .seq its n ∧ its.size ≤ sizeLine ∧ Vals vs its.toList
def StT (a : Addr) (vs : List V) : Prop := (Rd H a (.tup vs) ∧ ¬ M a) ∨
  ∃ (o : Obj) (its : Array Value) (n : Nat), K.lookup a = some o ∧ o.cls = .type "tuple" ∧ o.data = .seq its n ∧ its.size ≤ sizeLine ∧ Vals vs its.toList
mutual
/-- data by value -/
inductive Dat : V → D → Prop
  | non : Dat .non .non
  | bl (b : Bool) : Dat (.bl b) (.bl b)
  | int (i : Int) : Dat (.int i) (.int i)
  | str (x : Str) : Dat (.str x) (.str x)
  | ty (n : String) : Dat (.ty n) (.ty n)
  | glo {x : Str} {a : Addr} : mg x = some (.ref a) → Dat (.ref a) (.glo x)
  | tup {a : Addr} {vs : List V} {ds : List D} : StT K H M a vs → Dats vs ds → Dat (.ref a) (.tup ds)
  | lst {a : Addr} {vs : List V} {ds : List D} : H a = some (.lst vs) → ¬ M a → Dats vs ds → Dat (.ref a) (.lst ds)
  | dic {a : Addr} {kvs : List (Key × V)} {ks : List Key} {vs : List V} {ds : List D} : H a = some (.dK kvs) → ¬ M a → kvs.map (·.1) = ks → kvs.map (·.2) = vs → Dats vs ds → Dat (.ref a) (.dic ks ds)
  | scr {a : Addr} {ns : List Int} : StL K H M a (ns.map V.int) → Dat (.ref a) (.scr ns)
inductive Dats : List V → List D → Prop
  | nil : Dats [] []
  | cons {v : V} {vs : List V} {d : D} {ds : List D} : Dat v d → Dats vs ds → Dats (v :: vs) (d :: ds)
end
end

/-- where the cells lie, and what else is not to be handed about -/
structure Ad where
  cs : List Addr
  bs : List Addr
/-- what may change, or is held meanwhile -/
def Mu (φ : Ad) (S : Cells) (a : Addr) : Prop := (∃ (n : Nat) (c : Cell), φ.cs[n]? = some a ∧ S[n]? = some c ∧ c.lk ≠ .fz) ∨ a ∈ φ.bs
/-- what may change -/
def Wr (φ : Ad) (S : Cells) (a : Addr) : Prop := ∃ (n : Nat) (c : Cell), φ.cs[n]? = some a ∧ S[n]? = some c ∧ c.lk = .mu
theorem Wr.mu {φ : Ad} {S : Cells} {a : Addr} (h : Wr φ S a) : Mu φ S a := by
  obtain ⟨n, c, h1, h2, h3⟩ := h
  exact .inl ⟨n, c, h1, h2, by rw [h3]; exact fun z => nomatch z⟩

section
variable (K : PySem.W.Frag) (mg : Str → Option Value)
/-- a value that is handed about -/
inductive Rep (H : Hp) (φ : Ad) (S : Cells) : V → D → Prop
  | dat {v : V} {d : D} : Dat K mg H (Mu φ S) v d → Rep H φ S v d
  | ref {a : Addr} {n : Nat} : φ.cs[n]? = some a → Rep H φ S (.ref a) (.ref n)
inductive Repl (H : Hp) (φ : Ad) (S : Cells) : List V → List D → Prop
  | nil : Repl H φ S [] []
  | cons {v : V} {vs : List V} {d : D} {ds : List D} : Rep K mg H φ S v d → Repl H φ S vs ds → Repl H φ S (v :: vs) (d :: ds)

/-- what stands in a cell -/
inductive Ct (H : Hp) (M : Addr → Prop) (a : Addr) : D → Prop
  | lst {vs : List V} {ds : List D} : H a = some (.lst vs) → Dats K mg H M vs ds → Ct H M a (.lst ds)
  | dic {kvs : List (Key × V)} {ks : List Key} {vs : List V} {ds : List D} : H a = some (.dK kvs) → kvs.map (·.1) = ks → kvs.map (·.2) = vs → Dats K mg H M vs ds → Ct H M a (.dic ks ds)

/-- the cells stand in the heap -/
structure StOk (H : Hp) (φ : Ad) (S : Cells) : Prop where
  len : φ.cs.length = S.length
  nd : φ.cs.Nodup
  ex : ∀ b ∈ φ.bs, b ∉ φ.cs ∧ H b ≠ none
  at_ : ∀ (n : Nat) (a : Addr) (c : Cell), φ.cs[n]? = some a → S[n]? = some c → Ct K mg H (Mu φ S) a c.c

structure REnv (H : Hp) (φ : Ad) (S : Cells) (σ : St) (ρ : Env) : Prop where
  len : ρ.length = σ.length
  at_ : ∀ (i : Nat) (d : D), ρ[i]? = some (some d) → ∃ v, σ[i]? = some (some v) ∧ Rep K mg H φ S v d
end

/-- what stays from one state to a later one -/
structure Keep (H : Hp) (φ : Ad) (S : Cells) (H' : Hp) (φ' : Ad) (S' : Cells) : Prop where
  pre : ∀ (n : Nat) (a : Addr), φ.cs[n]? = some a → φ'.cs[n]? = some a
  bs : φ'.bs = φ.bs
  mu : ∀ a, H a ≠ none → Mu φ' S' a → Mu φ S a
  wr : ∀ a, H a ≠ none → Wr φ' S' a → Wr φ S a
  frame : ∀ a o, H a = some o → ¬ Wr φ S a → H' a = some o
  there : ∀ a, H a ≠ none → H' a ≠ none

theorem Keep.refl (H : Hp) (φ : Ad) (S : Cells) : Keep H φ S H φ S := ⟨fun _ _ h => h, rfl, fun _ _ h => h, fun _ _ h => h, fun _ _ h _ => h, fun _ h => h⟩
theorem Keep.trans {H H1 H2 : Hp} {φ φ1 φ2 : Ad} {S S1 S2 : Cells} (a : Keep H φ S H1 φ1 S1) (b : Keep H1 φ1 S1 H2 φ2 S2) : Keep H φ S H2 φ2 S2 :=
  ⟨fun n x h => b.pre n x (a.pre n x h), b.bs.trans a.bs, fun x h m => a.mu x h (b.mu x (a.there x h) m), fun x h m => a.wr x h (b.wr x (a.there x h) m),
   fun x o h n => b.frame x o (a.frame x o h n) fun z => n (a.wr x (by rw [h]; exact fun q => nomatch q) z), fun x h => b.there x (a.there x h)⟩

section
variable {K : PySem.W.Frag} {mg : Str → Option Value} {H H' : Hp} {φ φ' : Ad} {S S' : Cells} {M M' : Addr → Prop}
theorem some_ne {α : Type} {o : Option α} {x : α} (h : o = some x) : o ≠ none := by rw [h]; exact fun z => nomatch z
theorem Rd.some {a : Addr} {u : HO} (h : Rd H a u) : ∃ o, H a = some o := by
  rcases h with h | ⟨o, h⟩
  · exact ⟨_, h⟩
  · exact ⟨_, h⟩
theorem StL.sq {a : Addr} {vs : List V} (h : StL K H M a vs) : SqL K H a vs := by
  rcases h with ⟨h, _⟩ | h
  · exact .inl h
  · exact .inr h
theorem StT.sq {a : Addr} {vs : List V} (h : StT K H M a vs) : SqT K H a vs := by
  rcases h with ⟨h, _⟩ | h
  · exact .inl h
  · exact .inr h
/-- data stay -/
structure Stay (H : Hp) (M : Addr → Prop) (H' : Hp) (M' : Addr → Prop) : Prop where
  obj : ∀ a o, H a = some o → ¬ M a → H' a = some o
  mu : ∀ a, H a ≠ none → M' a → M a
theorem Stay.rd {a : Addr} {u : HO} (k : Stay H M H' M') (h : Rd H a u) (n : ¬ M a) : Rd H' a u ∧ ¬ M' a := by
  refine ⟨?_, fun z => n (k.mu a ?_ z)⟩
  · rcases h with h | ⟨o, h⟩
    · exact .inl (k.obj a _ h n)
    · exact .inr ⟨o, k.obj a _ h n⟩
  · obtain ⟨o, e⟩ := Rd.some h
    exact some_ne e
mutual
theorem Dat.stay (k : Stay H M H' M') : ∀ {d : D} {v : V}, Dat K mg H M v d → Dat K mg H' M' v d
  | .non, _, h => by cases h; exact .non
  | .bl _, _, h => by cases h; exact .bl _
  | .int _, _, h => by cases h; exact .int _
  | .str _, _, h => by cases h; exact .str _
  | .ty _, _, h => by cases h; exact .ty _
  | .glo _, _, h => by cases h with | glo e => exact .glo e
  | .tup ds, _, h => by
    cases h with
    | tup s r =>
      refine .tup ?_ (Dats.stay k r)
      rcases s with ⟨s, n⟩ | s
      · exact .inl (k.rd s n)
      · exact .inr s
  | .lst ds, _, h => by
    cases h with
    | lst s n r => exact .lst (k.obj _ _ s n) (fun z => n (k.mu _ (some_ne s) z)) (Dats.stay k r)
  | .scr ns, _, h => by
    cases h with
    | scr s =>
      refine .scr ?_
      rcases s with ⟨s, n⟩ | s
      · exact .inl (k.rd s n)
      · exact .inr s
  | .dic ks ds, _, h => by
    cases h with
    | dic s n e1 e2 r => exact .dic (k.obj _ _ s n) (fun z => n (k.mu _ (some_ne s) z)) e1 e2 (Dats.stay k r)
  | .ref _, _, h => by cases h
theorem Dats.stay (k : Stay H M H' M') : ∀ {ds : List D} {vs : List V}, Dats K mg H M vs ds → Dats K mg H' M' vs ds
  | [], _, h => by cases h; exact .nil
  | _ :: _, _, h => by
    cases h with
    | cons a b => exact .cons (Dat.stay k a) (Dats.stay k b)
end
theorem Ct.stay (k : Stay H M H' M') {a : Addr} {d : D} (h : Ct K mg H M a d) (e : ∀ o, H a = some o → H' a = some o) : Ct K mg H' M' a d := by
  cases h with
  | lst s r => exact .lst (e _ s) (r.stay k)
  | dic s e1 e2 r => exact .dic (e _ s) e1 e2 (r.stay k)
theorem Ct.some {a : Addr} {d : D} (h : Ct K mg H M a d) : ∃ o, H a = some o := by
  cases h with
  | lst s r => exact ⟨_, s⟩
  | dic s e1 e2 r => exact ⟨_, s⟩
theorem Ct.list {a : Addr} {ds : List D} (h : Ct K mg H M a (.lst ds)) : ∃ vs, H a = Option.some (.lst vs) ∧ Dats K mg H M vs ds := by
  cases h with | lst s r => exact ⟨_, s, r⟩
theorem Keep.stay (k : Keep H φ S H' φ' S') : Stay H (Mu φ S) H' (Mu φ' S') :=
  ⟨fun a o h n => k.frame a o h fun z => n z.mu, k.mu⟩
theorem Rep.keep (k : Keep H φ S H' φ' S') {v : V} {d : D} (h : Rep K mg H φ S v d) : Rep K mg H' φ' S' v d := by
  cases h with
  | dat h => exact .dat (h.stay k.stay)
  | ref h => exact .ref (k.pre _ _ h)
theorem Repl.keep (k : Keep H φ S H' φ' S') {vs : List V} {ds : List D} (h : Repl K mg H φ S vs ds) : Repl K mg H' φ' S' vs ds := by
  induction h with
  | nil => exact .nil
  | cons a _ ih => exact .cons (a.keep k) ih
theorem REnv.keep (k : Keep H φ S H' φ' S') {σ : St} {ρ : Env} (h : REnv K mg H φ S σ ρ) : REnv K mg H' φ' S' σ ρ :=
  ⟨h.len, fun i d e => let ⟨v, e1, r⟩ := h.at_ i d e; ⟨v, e1, r.keep k⟩⟩
theorem Dats.length {vs : List V} {ds : List D} (h : Dats K mg H M vs ds) : vs.length = ds.length := by
  induction ds generalizing vs with
  | nil => cases h; rfl
  | cons d ds ih => cases h with | cons _ b => simp [ih b]
theorem Repl.length {vs : List V} {ds : List D} (h : Repl K mg H φ S vs ds) : vs.length = ds.length := by
  induction h with
  | nil => rfl
  | cons _ _ ih => simp [ih]
theorem Dats.get {vs : List V} {ds : List D} (h : Dats K mg H M vs ds) : ∀ {i : Nat} {d : D}, ds[i]? = some d → ∃ v, vs[i]? = some v ∧ Dat K mg H M v d := by
  induction ds generalizing vs with
  | nil => intro i d e; simp at e
  | cons x xs ih =>
    cases h with
    | cons a b =>
      intro i d e
      cases i with
      | zero => simp at e; subst e; exact ⟨_, rfl, a⟩
      | succ i => simpa using ih b (i := i) (d := d) (by simpa using e)
theorem Dats.append {vs ws : List V} {ds es : List D} (h : Dats K mg H M vs ds) (h' : Dats K mg H M ws es) : Dats K mg H M (vs ++ ws) (ds ++ es) := by
  induction ds generalizing vs with
  | nil => cases h; exact h'
  | cons x xs ih => cases h with | cons a b => exact .cons a (ih b)
theorem Dats.take {vs : List V} {ds : List D} (h : Dats K mg H M vs ds) : ∀ n : Nat, Dats K mg H M (vs.take n) (ds.take n) := by
  induction ds generalizing vs with
  | nil => intro n; cases h; simp; exact .nil
  | cons x xs ih =>
    intro n
    cases h with
    | cons a b =>
      cases n with
      | zero => exact .nil
      | succ n => exact .cons a (ih b n)
theorem Dats.drop {vs : List V} {ds : List D} (h : Dats K mg H M vs ds) : ∀ n : Nat, Dats K mg H M (vs.drop n) (ds.drop n) := by
  induction ds generalizing vs with
  | nil => intro n; cases h; simp; exact .nil
  | cons x xs ih =>
    intro n
    cases h with
    | cons a b =>
      cases n with
      | zero => exact .cons a b
      | succ n => exact ih b n
theorem Dats.reverse {vs : List V} {ds : List D} (h : Dats K mg H M vs ds) : Dats K mg H M vs.reverse ds.reverse := by
  induction ds generalizing vs with
  | nil => cases h; exact .nil
  | cons x xs ih =>
    cases h with
    | cons a b =>
      rw [List.reverse_cons, List.reverse_cons]
      exact (ih b).append (.cons a .nil)
theorem Dats.set {vs : List V} {ds : List D} {v : V} {d : D} (h : Dats K mg H M vs ds) (hv : Dat K mg H M v d) : ∀ j : Nat, Dats K mg H M (vs.set j v) (ds.set j d) := by
  induction ds generalizing vs with
  | nil => intro j; cases h; exact .nil
  | cons x xs ih =>
    intro j
    cases h with
    | cons a b =>
      cases j with
      | zero => exact .cons hv b
      | succ j => exact .cons a (ih b j)
theorem Dats.tail {vs : List V} {ds : List D} (h : Dats K mg H M vs ds) : Dats K mg H M vs.tail ds.tail := by
  cases h with
  | nil => exact .nil
  | cons _ b => exact b
theorem Dats.flatten {vss : List V} {ds : List D} (h : Dats K mg H M vss ds) (n : Nat) : Dats K mg H M ((List.replicate n vss).flatten) ((List.replicate n ds).flatten) := by
  induction n with
  | zero => exact .nil
  | succ n ih => rw [List.replicate_succ, List.replicate_succ, List.flatten_cons, List.flatten_cons]; exact h.append ih
theorem Dats.at_len {vs : List V} {ds : List D} (h : Dats K mg H M vs ds) {i : Nat} {v : V} (e : vs[i]? = some v) : ∃ d, ds[i]? = some d ∧ Dat K mg H M v d := by
  have hl := h.length
  obtain ⟨hi, _⟩ := List.getElem?_eq_some_iff.mp e
  have e2 : ds[i]? = some ds[i] := by simp [show i < ds.length by omega]
  obtain ⟨w, e3, r⟩ := h.get e2
  rw [e] at e3; cases e3
  exact ⟨_, e2, r⟩
end
end VS

/-! VS, part C: readings made from the interpreter; cells made, frozen, dropped. -/
namespace VS
open PySem PySem.Spec L2

section
variable (K : PySem.W.Frag) (mg : Str → Option Value)
/-- what is wanted behind an evaluation's answer -/
def Ans (r : R D) (H : Hp) (φ : Ad) (S : Cells) (Q : VK) : Prop :=
  match r with
  | .ok d S' => ∀ v H' φ', StOk K mg H' φ' S' → Rep K mg H' φ' S' v d → Keep H φ S H' φ' S' → Q v H'
  | _ => False
def Anss (r : R (List D)) (H : Hp) (φ : Ad) (S : Cells) (Q : List V → Hp → Prop) : Prop :=
  match r with
  | .ok ds S' => ∀ vs H' φ', StOk K mg H' φ' S' → Repl K mg H' φ' S' vs ds → Keep H φ S H' φ' S' → Q vs H'
  | _ => False
/-- a reading of an expression; of an argument list -/
def TEv (f : Env → Cells → R D) : TE := fun σ H Q => ∃ φ ρ S, StOk K mg H φ S ∧ REnv K mg H φ S σ ρ ∧ Ans K mg (f ρ S) H φ S Q
def TAv (f : Env → Cells → R (List D)) : TA := fun σ H Q => ∃ φ ρ S, StOk K mg H φ S ∧ REnv K mg H φ S σ ρ ∧ Anss K mg (f ρ S) H φ S Q
end

/-- fewer cells, one more -/
def Ad.take (φ : Ad) (n : Nat) : Ad := ⟨φ.cs.take n, φ.bs⟩
def Ad.push (φ : Ad) (a : Addr) : Ad := ⟨φ.cs ++ [a], φ.bs⟩
section
variable {K : PySem.W.Frag} {mg : Str → Option Value} {H H' : Hp} {φ φ' : Ad} {S S' : Cells}
theorem Ans.mono {r : R D} {Q Q' : VK} (h : Ans K mg r H φ S Q) (hq : ∀ v H, Q v H → Q' v H) : Ans K mg r H φ S Q' := by
  cases r with
  | ok d S' => exact fun v H' φ' a b c => hq _ _ (h v H' φ' a b c)
  | exn x S' => exact h
  | stuck => exact h
/-- from an earlier state -/
theorem Ans.later {r : R D} {Q : VK} (k : Keep H φ S H' φ' S') (h : Ans K mg r H φ S Q) : Ans K mg r H' φ' S' Q := by
  cases r with
  | ok d S2 => exact fun v H2 φ2 a b c => h v H2 φ2 a b (k.trans c)
  | exn x S' => exact h
  | stuck => exact h
theorem Anss.later {r : R (List D)} {Q : List V → Hp → Prop} (k : Keep H φ S H' φ' S') (h : Anss K mg r H φ S Q) : Anss K mg r H' φ' S' Q := by
  cases r with
  | ok d S2 => exact fun v H2 φ2 a b c => h v H2 φ2 a b (k.trans c)
  | exn x S' => exact h
  | stuck => exact h
theorem Ans.ok_iff {d : D} {S2 : Cells} {Q : VK} : Ans K mg (.ok d S2) H φ S Q ↔ ∀ v H' φ', StOk K mg H' φ' S2 → Rep K mg H' φ' S2 v d → Keep H φ S H' φ' S2 → Q v H' := Iff.rfl
/-- the answer at hand, the state as it is -/
theorem Ans.here {d : D} {Q : VK} {v : V} (h : Ans K mg (.ok d S) H φ S Q) (st : StOk K mg H φ S) (r : Rep K mg H φ S v d) : Q v H := h v H φ st r (Keep.refl _ _ _)

/-- one step, then more -/
theorem Ans.step {r : R D} {g : D → Cells → R D} {Q : VK} (h : Ans K mg (r.bind g) H φ S Q) :
    Ans K mg r H φ S (fun v H1 => ∃ φ1 S1 d, StOk K mg H1 φ1 S1 ∧ Rep K mg H1 φ1 S1 v d ∧ Keep H φ S H1 φ1 S1 ∧ Ans K mg (g d S1) H1 φ1 S1 Q) := by
  cases r with
  | ok d S1 => exact fun v H1 φ1 a b c => ⟨φ1, S1, d, a, b, c, Ans.later c h⟩
  | exn x S' => exact h
  | stuck => exact h
theorem Ans.steps {r : R D} {g : D → Cells → R (List D)} {Q : List V → Hp → Prop} (h : Anss K mg (r.bind g) H φ S Q) :
    Ans K mg r H φ S (fun v H1 => ∃ φ1 S1 d, StOk K mg H1 φ1 S1 ∧ Rep K mg H1 φ1 S1 v d ∧ Keep H φ S H1 φ1 S1 ∧ Anss K mg (g d S1) H1 φ1 S1 Q) := by
  cases r with
  | ok d S1 => exact fun v H1 φ1 a b c => ⟨φ1, S1, d, a, b, c, Anss.later c h⟩
  | exn x S' => exact h
  | stuck => exact h
theorem Anss.step {r : R (List D)} {g : List D → Cells → R D} {Q : VK} (h : Ans K mg (r.bind g) H φ S Q) :
    Anss K mg r H φ S (fun vs H1 => ∃ φ1 S1 ds, StOk K mg H1 φ1 S1 ∧ Repl K mg H1 φ1 S1 vs ds ∧ Keep H φ S H1 φ1 S1 ∧ Ans K mg (g ds S1) H1 φ1 S1 Q) := by
  cases r with
  | ok d S1 => exact fun v H1 φ1 a b c => ⟨φ1, S1, d, a, b, c, Ans.later c h⟩
  | exn x S' => exact h
  | stuck => exact h

/-! ### cells dropped -/
theorem getElem?_take_le {α : Type} {l : List α} {n i : Nat} {x : α} (h : (l.take n)[i]? = some x) : l[i]? = some x ∧ i < n := by
  rw [List.getElem?_take] at h
  split at h
  · exact ⟨h, by assumption⟩
  · cases h
theorem Mu.take {n : Nat} {a : Addr} (h : Mu (φ.take n) (S.take n) a) : Mu φ S a := by
  rcases h with ⟨i, c, h1, h2, h3⟩ | h
  · exact .inl ⟨i, c, (getElem?_take_le h1).1, (getElem?_take_le h2).1, h3⟩
  · exact .inr h
theorem Wr.take {n : Nat} {a : Addr} (h : Wr (φ.take n) (S.take n) a) : Wr φ S a := by
  obtain ⟨i, c, h1, h2, h3⟩ := h
  exact ⟨i, c, (getElem?_take_le h1).1, (getElem?_take_le h2).1, h3⟩
theorem Stay.mu_le {M M' : Addr → Prop} (h : ∀ a, M' a → M a) : Stay H M H M' := ⟨fun _ _ e _ => e, fun a _ m => h a m⟩
theorem StOk.take (st : StOk K mg H φ S) (n : Nat) : StOk K mg H (φ.take n) (S.take n) := by
  refine ⟨by simp [Ad.take, st.len], st.nd.sublist (List.take_sublist _ _), fun b hb => ⟨fun z => (st.ex b hb).1 (List.mem_of_mem_take z), (st.ex b hb).2⟩, fun i a c h1 h2 => ?_⟩
  exact (st.at_ i a c (getElem?_take_le h1).1 (getElem?_take_le h2).1).stay (Stay.mu_le fun _ m => m.take) fun _ e => e
theorem StOk.there (st : StOk K mg H φ S) {n : Nat} {a : Addr} (h : φ.cs[n]? = some a) : ∃ o, H a = some o := by
  have hn : n < S.length := by rw [← st.len]; exact (List.getElem?_eq_some_iff.mp h).1
  exact (st.at_ n a S[n] h (by simp [hn])).some
/-- behind: so many cells as ahead -/
theorem Keep.take {n : Nat} (k : Keep H φ S H' φ' S') (hn : n = φ.cs.length) : Keep H φ S H' (φ'.take n) (S'.take n) := by
  refine ⟨fun i a h => ?_, k.bs, fun a h m => k.mu a h m.take, fun a h m => k.wr a h m.take, k.frame, k.there⟩
  have hi : i < n := by rw [hn]; exact (List.getElem?_eq_some_iff.mp h).1
  show (φ'.cs.take n)[i]? = some a
  rw [List.getElem?_take, if_pos hi]
  exact k.pre i a h
theorem mem_of_get {α : Type} {l : List α} {i : Nat} {x : α} (h : l[i]? = some x) : x ∈ l := List.mem_of_getElem? h
theorem nd_get {l : List Addr} (hN : l.Nodup) {i j : Nat} {x : Addr} (a : l[i]? = some x) (b : l[j]? = some x) : i = j := by
  obtain ⟨h1, e1⟩ := List.getElem?_eq_some_iff.mp a
  obtain ⟨h2, e2⟩ := List.getElem?_eq_some_iff.mp b
  exact (List.getElem_inj hN).mp (e1.trans e2.symm)
/-- a cell taken down to a lower place -/
theorem down {n m : Nat} {a : Addr} {c : Cell} (st : StOk K mg H φ S) (hn : n ≤ m) (ha : φ.cs[m]? = some a) (hc : S[m]? = some c) :
    StOk K mg H ((φ.take n).push a) (S.take n ++ [c]) ∧ (∀ b, Mu ((φ.take n).push a) (S.take n ++ [c]) b → Mu φ S b) ∧ (∀ b, Wr ((φ.take n).push a) (S.take n ++ [c]) b → Wr φ S b) := by
  have hm : m < φ.cs.length := (List.getElem?_eq_some_iff.mp ha).1
  have l1 : (φ.cs.take n).length = n := by rw [List.length_take]; omega
  have l2 : (S.take n).length = n := by rw [List.length_take, ← st.len]; omega
  have pick : ∀ {i : Nat} {b : Addr} {c' : Cell}, (φ.cs.take n ++ [a])[i]? = some b → (S.take n ++ [c])[i]? = some c' → ∃ j : Nat, φ.cs[j]? = some b ∧ S[j]? = some c' := by
    intro i b c' h1 h2
    by_cases hi : i < n
    · rw [List.getElem?_append_left (by omega)] at h1 h2
      exact ⟨i, (getElem?_take_le h1).1, (getElem?_take_le h2).1⟩
    · rw [List.getElem?_append_right (by omega), l1] at h1
      rw [List.getElem?_append_right (by omega), l2] at h2
      have hz : i - n = 0 := by
        by_cases z : i - n = 0
        · exact z
        · rw [List.getElem?_eq_none (by simp; omega)] at h1; cases h1
      rw [hz] at h1 h2
      simp at h1 h2
      subst h1 h2
      exact ⟨m, ha, hc⟩
  have mu : ∀ b, Mu ((φ.take n).push a) (S.take n ++ [c]) b → Mu φ S b := fun b z => by
    rcases z with ⟨i, c', h1, h2, h3⟩ | z
    · obtain ⟨j, q1, q2⟩ := pick h1 h2
      exact .inl ⟨j, c', q1, q2, h3⟩
    · exact .inr z
  have amem : a ∈ φ.cs := mem_of_get ha
  refine ⟨⟨by simp [Ad.push, Ad.take, st.len], ?_, fun b hb => ⟨fun z => ?_, (st.ex b hb).2⟩, fun i b c' h1 h2 => ?_⟩, mu, fun b ⟨i, c', h1, h2, h3⟩ => let ⟨j, q1, q2⟩ := pick h1 h2; ⟨j, c', q1, q2, h3⟩⟩
  · show (φ.cs.take n ++ [a]).Nodup
    rw [List.nodup_append]
    refine ⟨st.nd.sublist (List.take_sublist _ _), (by simp), fun x hx y hy e => ?_⟩
    rw [List.mem_singleton] at hy
    subst hy
    subst e
    obtain ⟨i, hi⟩ := List.getElem?_of_mem hx
    obtain ⟨q, hlt⟩ := getElem?_take_le hi
    have := nd_get st.nd q ha
    omega
  · rcases List.mem_append.mp (show b ∈ φ.cs.take n ++ [a] from z) with z | z
    · exact (st.ex b hb).1 (List.mem_of_mem_take z)
    · rw [List.mem_singleton] at z
      exact (st.ex b hb).1 (by rw [z]; exact amem)
  · obtain ⟨j, q1, q2⟩ := pick h1 h2
    exact (st.at_ j b c' q1 q2).stay (Stay.mu_le mu) fun _ e => e
theorem Dat.le {M M' : Addr → Prop} {v : V} {d : D} (h : Dat K mg H M v d) (hm : ∀ a, M' a → M a) : Dat K mg H M' v d := h.stay (Stay.mu_le hm)
theorem take_full {α : Type} {l : List α} {n : Nat} (h : l.length = n) : l.take n = l := by rw [← h]; exact List.take_length

/-- norm drops nothing that is asked for -/
theorem Ans.norm {r : R D} {Q : VK} (st : StOk K mg H φ S) (h : Ans K mg (norm S.length r) H φ S Q) : Ans K mg r H φ S Q := by
  cases r with
  | exn x S' => exact h
  | stuck => exact h
  | ok d S1 =>
    intro v H1 φ1 st1 rv k
    have base : ∀ {w : V} {e : D}, (Dat K mg H1 (Mu φ1 S1) w e) → (∀ v H' φ', StOk K mg H' φ' (S1.take S.length) → Rep K mg H' φ' (S1.take S.length) v e → Keep H φ S H' φ' (S1.take S.length) → Q v H') → Q w H1 :=
      fun {w e} rw_ hh => hh w H1 (φ1.take S.length) (st1.take _) (.dat (rw_.le fun a m => m.take)) (k.take (by rw [st.len]))
    cases d with
    | ref m =>
      by_cases hm : m < S.length
      · have h' : Ans K mg (.ok (.ref m) (S1.take S.length)) H φ S Q := by
          have e : VS.norm S.length (.ok (.ref m) S1) = .ok (.ref m) (S1.take S.length) := by simp [VS.norm, hm]
          rw [e] at h; exact h
        cases rv with
        | dat z => cases z
        | ref z =>
          refine h' _ H1 (φ1.take S.length) (st1.take _) (.ref ?_) (k.take (by rw [st.len]))
          show (φ1.cs.take S.length)[m]? = _
          rw [List.getElem?_take, if_pos hm]; exact z
      · cases rv with
        | dat z => cases z
        | @ref a _ z =>
          have hlt : m < S1.length := by rw [← st1.len]; exact (List.getElem?_eq_some_iff.mp z).1
          have hc : S1[m]? = some S1[m] := by simp [hlt]
          have h' : Ans K mg (.ok (.ref S.length) (S1.take S.length ++ [S1[m]])) H φ S Q := by
            have e : VS.norm S.length (.ok (.ref m) S1) = .ok (.ref S.length) (S1.take S.length ++ [S1[m]]) := by simp [VS.norm, hm, hc]
            rw [e] at h; exact h
          have hle : S.length ≤ m := by omega
          obtain ⟨s2, mu2, wr2⟩ := down st1 hle z hc
          have l1 : (φ1.cs.take S.length).length = S.length := by rw [List.length_take, st1.len]; omega
          refine h' _ H1 _ s2 (.ref ?_) ⟨fun i b e => ?_, k.bs, fun b e m' => k.mu b e (mu2 b m'), fun b e m' => k.wr b e (wr2 b m'), k.frame, k.there⟩
          · show (φ1.cs.take S.length ++ [a])[S.length]? = _
            rw [List.getElem?_append_right (by omega), l1]; simp
          · have hi : i < S.length := by rw [← st.len]; exact (List.getElem?_eq_some_iff.mp e).1
            show (φ1.cs.take S.length ++ [a])[i]? = _
            rw [List.getElem?_append_left (by omega), List.getElem?_take, if_pos hi]
            exact k.pre i b e
    | non => cases rv with | dat z => exact base z h
    | bl _ => cases rv with | dat z => exact base z h
    | int _ => cases rv with | dat z => exact base z h
    | str _ => cases rv with | dat z => exact base z h
    | tup _ => cases rv with | dat z => exact base z h
    | lst _ => cases rv with | dat z => exact base z h
    | dic _ _ => cases rv with | dat z => exact base z h
    | glo _ => cases rv with | dat z => exact base z h
    | ty _ => cases rv with | dat z => exact base z h
    | scr _ => cases rv with | dat z => exact base z h

theorem TEv.norm {f : Env → Cells → R D} {σ : St} {Q : VK} (h : TEv K mg (fun ρ S => norm S.length (f ρ S)) σ H Q) : TEv K mg f σ H Q := by
  obtain ⟨φ, ρ, S, st, re, a⟩ := h
  exact ⟨φ, ρ, S, st, re, Ans.norm st a⟩

/-! ### new objects -/
theorem fresh_not (st : StOk K mg H φ S) {p : Addr} (hp : H p = none) : p ∉ φ.cs := fun hm => by
  obtain ⟨i, hi⟩ := List.getElem?_of_mem hm
  obtain ⟨vs, e⟩ := st.there hi
  rw [hp] at e; cases e
theorem fresh_mu (st : StOk K mg H φ S) {p : Addr} (hp : H p = none) : ¬ Mu φ S p := fun z => by
  rcases z with ⟨i, c, h1, _, _⟩ | z
  · exact fresh_not st hp (mem_of_get h1)
  · exact (st.ex p z).2 hp
theorem Stay.new {M M' : Addr → Prop} {p : Addr} {o : HO} (hp : H p = none) (hm : ∀ a, M' a → a = p ∨ M a) : Stay H M (upd H p o) M' :=
  ⟨fun a u e _ => by rw [upd_ne (ne_of_none e hp)]; exact e, fun a e m => by
    rcases hm a m with z | z
    · subst z; exact (e hp).elim
    · exact z⟩
/-- a tuple laid -/
theorem lay_tup {p : Addr} {vs : List V} {ds : List D} (st : StOk K mg H φ S) (hp : H p = none) (r : Dats K mg H (Mu φ S) vs ds) :
    StOk K mg (upd H p (.tup vs)) φ S ∧ Dat K mg (upd H p (.tup vs)) (Mu φ S) (.ref p) (.tup ds) ∧ Keep H φ S (upd H p (.tup vs)) φ S := by
  have sy : Stay H (Mu φ S) (upd H p (.tup vs)) (Mu φ S) := Stay.new hp fun a m => .inr m
  have th : ∀ a, H a ≠ none → upd H p (.tup vs) a ≠ none := fun a h => by
    by_cases z : a = p
    · subst z; exact (h hp).elim
    · rw [upd_ne z]; exact h
  refine ⟨⟨st.len, st.nd, fun b hb => ⟨(st.ex b hb).1, th b (st.ex b hb).2⟩, fun n a c h1 h2 => ?_⟩, .tup (.inl ⟨.inl upd_same, fresh_mu st hp⟩) (r.stay sy), ⟨fun _ _ h => h, rfl, fun _ _ m => m, fun _ _ m => m, fun a o h _ => by rw [upd_ne (ne_of_none h hp)]; exact h, th⟩⟩
  exact (st.at_ n a c h1 h2).stay sy fun o e => by rw [upd_ne (ne_of_none e hp)]; exact e
/-- a thing laid: a new cell -/
theorem lay_new {p : Addr} {o : HO} {cd : D} (st : StOk K mg H φ S) (hp : H p = none) (r : ∀ M', Stay H (Mu φ S) (upd H p o) M' → Ct K mg (upd H p o) M' p cd) :
    StOk K mg (upd H p o) (φ.push p) (S ++ [⟨.mu, cd⟩]) ∧ Rep K mg (upd H p o) (φ.push p) (S ++ [⟨.mu, cd⟩]) (.ref p) (.ref S.length) ∧
      Keep H φ S (upd H p o) (φ.push p) (S ++ [⟨.mu, cd⟩]) := by
  have split : ∀ {i : Nat} {a : Addr} {c : Cell}, (φ.cs ++ [p])[i]? = some a → (S ++ [⟨.mu, cd⟩])[i]? = some c → (φ.cs[i]? = some a ∧ S[i]? = some c) ∨ (a = p ∧ c = ⟨.mu, cd⟩) := by
    intro i a c h1 h2
    by_cases hi : i < φ.cs.length
    · rw [List.getElem?_append_left hi] at h1
      rw [List.getElem?_append_left (by rw [← st.len]; exact hi)] at h2
      exact .inl ⟨h1, h2⟩
    · rw [List.getElem?_append_right (by omega)] at h1
      rw [List.getElem?_append_right (by rw [← st.len]; omega), ← st.len] at h2
      have hz : i - φ.cs.length = 0 := by
        by_cases z : i - φ.cs.length = 0
        · exact z
        · rw [List.getElem?_eq_none (by simp; omega)] at h1; cases h1
      rw [hz] at h1 h2
      simp at h1 h2
      exact .inr ⟨h1.symm, h2.symm⟩
  have mu : ∀ a, Mu (φ.push p) (S ++ [⟨.mu, cd⟩]) a → a = p ∨ Mu φ S a := fun a z => by
    rcases z with ⟨i, c, h1, h2, h3⟩ | z
    · rcases split h1 h2 with ⟨q1, q2⟩ | ⟨q1, _⟩
      · exact .inr (.inl ⟨i, c, q1, q2, h3⟩)
      · exact .inl q1
    · exact .inr (.inr z)
  have wr : ∀ a, Wr (φ.push p) (S ++ [⟨.mu, cd⟩]) a → a = p ∨ Wr φ S a := fun a ⟨i, c, h1, h2, h3⟩ => by
    rcases split h1 h2 with ⟨q1, q2⟩ | ⟨q1, _⟩
    · exact .inr ⟨i, c, q1, q2, h3⟩
    · exact .inl q1
  have sy : Stay H (Mu φ S) (upd H p o) (Mu (φ.push p) (S ++ [⟨.mu, cd⟩])) := Stay.new hp mu
  have hne : ∀ a, H a ≠ none → a = p → False := fun a h z => by subst z; exact h hp
  have th : ∀ a, H a ≠ none → upd H p o a ≠ none := fun a h => by
    by_cases z : a = p
    · exact (hne a h z).elim
    · rw [upd_ne z]; exact h
  refine ⟨⟨by simp [Ad.push, st.len], ?_, fun b hb => ⟨fun z => ?_, th b (st.ex b hb).2⟩, fun n a c h1 h2 => ?_⟩, .ref ?_, ⟨fun n a h => ?_, rfl, fun a h m => (mu a m).elim (fun z => (hne a h z).elim) id, fun a h m => (wr a m).elim (fun z => (hne a h z).elim) id,
    fun a u h _ => by rw [upd_ne (ne_of_none h hp)]; exact h, th⟩⟩
  · show (φ.cs ++ [p]).Nodup
    rw [List.nodup_append]
    refine ⟨st.nd, (by simp), fun x hx y hy e => ?_⟩
    rw [List.mem_singleton] at hy
    subst hy; subst e
    exact fresh_not st hp hx
  · rcases List.mem_append.mp (show b ∈ φ.cs ++ [p] from z) with z | z
    · exact (st.ex b hb).1 z
    · rw [List.mem_singleton] at z
      exact hne b (st.ex b hb).2 z
  · rcases split h1 h2 with ⟨q1, q2⟩ | ⟨q1, q2⟩
    · exact (st.at_ n a c q1 q2).stay sy fun u e => by rw [upd_ne (ne_of_none e hp)]; exact e
    · subst q1; subst q2
      exact r _ sy
  · show (φ.cs ++ [p])[S.length]? = _
    rw [← st.len, List.getElem?_append_right (Nat.le_refl _)]; simp
  · show (φ.cs ++ [p])[n]? = _
    rw [List.getElem?_append_left (List.getElem?_eq_some_iff.mp h).1]; exact h

/-- a list laid: a new cell -/
theorem lay_lst {p : Addr} {vs : List V} {ds : List D} (st : StOk K mg H φ S) (hp : H p = none) (r : Dats K mg H (Mu φ S) vs ds) :
    StOk K mg (upd H p (.lst vs)) (φ.push p) (S ++ [⟨.mu, .lst ds⟩]) ∧ Rep K mg (upd H p (.lst vs)) (φ.push p) (S ++ [⟨.mu, .lst ds⟩]) (.ref p) (.ref S.length) ∧
      Keep H φ S (upd H p (.lst vs)) (φ.push p) (S ++ [⟨.mu, .lst ds⟩]) := lay_new st hp fun M' sy => .lst upd_same (r.stay sy)
theorem lay_dic {p : Addr} {kvs : List (Key × V)} {ks : List Key} {ds : List D} (st : StOk K mg H φ S) (hp : H p = none) (e : kvs.map (·.1) = ks) (r : Dats K mg H (Mu φ S) (kvs.map (·.2)) ds) :
    StOk K mg (upd H p (.dK kvs)) (φ.push p) (S ++ [⟨.mu, .dic ks ds⟩]) ∧ Rep K mg (upd H p (.dK kvs)) (φ.push p) (S ++ [⟨.mu, .dic ks ds⟩]) (.ref p) (.ref S.length) ∧
      Keep H φ S (upd H p (.dK kvs)) (φ.push p) (S ++ [⟨.mu, .dic ks ds⟩]) := lay_new st hp fun M' sy => .dic upd_same e rfl (r.stay sy)

/-- a cell's lock changed, its content as it was -/
theorem relock {m : Nat} {a : Addr} {c : Cell} {l : Lk} (st : StOk K mg H φ S) (ha : φ.cs[m]? = some a) (hc : S[m]? = some c)
    (hl : c.lk = .fz → l = .fz) : StOk K mg H φ (S.set m ⟨l, c.c⟩) ∧ (∀ b, Mu φ (S.set m ⟨l, c.c⟩) b → Mu φ S b) := by
  have hm : m < S.length := (List.getElem?_eq_some_iff.mp hc).1
  have pick : ∀ {i : Nat} {c' : Cell}, (S.set m ⟨l, c.c⟩)[i]? = some c' → ∃ c2, S[i]? = some c2 ∧ c'.c = c2.c ∧ (c2.lk = .fz → c'.lk = .fz) := by
    intro i c' h
    by_cases hi : m = i
    · subst hi
      rw [List.getElem?_set_self hm] at h
      cases h
      exact ⟨c, hc, rfl, hl⟩
    · rw [List.getElem?_set_ne hi] at h
      exact ⟨c', h, rfl, id⟩
  have mu : ∀ b, Mu φ (S.set m ⟨l, c.c⟩) b → Mu φ S b := fun b z => by
    rcases z with ⟨i, c', h1, h2, h3⟩ | z
    · obtain ⟨c2, q1, _, q3⟩ := pick h2
      exact .inl ⟨i, c2, h1, q1, fun z => h3 (q3 z)⟩
    · exact .inr z
  refine ⟨⟨by simp [st.len], st.nd, st.ex, fun n b c' h1 h2 => ?_⟩, mu⟩
  obtain ⟨c2, q1, q2, _⟩ := pick h2
  rw [q2]
  exact (st.at_ n b c2 h1 q1).stay (Stay.mu_le mu) fun _ e => e
theorem Keep.relock {m : Nat} {c : Cell} {l : Lk} (hc : S[m]? = some c) (mu : ∀ b, Mu φ (S.set m ⟨l, c.c⟩) b → Mu φ S b) (hw : l = .mu → c.lk = .mu) : Keep H φ S H φ (S.set m ⟨l, c.c⟩) := by
  refine ⟨fun _ _ h => h, rfl, fun a _ h => mu a h, fun a _ ⟨i, c', h1, h2, h3⟩ => ?_, fun _ _ h _ => h, fun _ h => h⟩
  by_cases hi : m = i
  · subst hi
    rw [List.getElem?_set_self (List.getElem?_eq_some_iff.mp hc).1] at h2
    cases h2
    exact ⟨m, c, h1, hc, hw h3⟩
  · rw [List.getElem?_set_ne hi] at h2
    exact ⟨i, c', h1, h2, h3⟩

/-- a value made part of another -/
theorem frz_ok {v : V} {d e : D} (st : StOk K mg H φ S) (r : Rep K mg H φ S v d) (h : frz d S = .ok e S') :
    StOk K mg H φ S' ∧ Dat K mg H (Mu φ S') v e ∧ Keep H φ S H φ S' := by
  cases r with
  | @dat v d z =>
    have e1 : frz d S = .ok d S := by cases z <;> rfl
    rw [e1] at h
    cases h
    exact ⟨st, z, Keep.refl _ _ _⟩
  | @ref a n z =>
    have hn : n < S.length := by rw [← st.len]; exact (List.getElem?_eq_some_iff.mp z).1
    have hc : S[n]? = some S[n] := by simp [hn]
    have ct := st.at_ n a _ z hc
    generalize hcc : S[n] = c at *
    obtain ⟨l, cc⟩ := c
    have nm : ∀ {cc : D}, S[n]? = some ⟨l, cc⟩ → ¬ Mu φ (S.set n ⟨.fz, cc⟩) a := fun {cc} hc => by
      rintro (⟨i, c', h1, h2, h3⟩ | hb)
      · have : i = n := nd_get st.nd h1 z
        subst this
        rw [List.getElem?_set_self hn] at h2
        cases h2
        exact h3 rfl
      · exact (st.ex a hb).1 (mem_of_get z)
    have fin : (∃ ds, cc = .lst ds) ∨ (∃ ks ds, cc = .dic ks ds) := by
      cases ct with
      | lst s r => exact .inl ⟨_, rfl⟩
      | dic s e1 e2 r => exact .inr ⟨_, _, rfl⟩
    have hl : l ≠ .lk ∧ e = cc ∧ S' = S.set n ⟨.fz, cc⟩ := by
      rcases fin with ⟨ds, rfl⟩ | ⟨ks, ds, rfl⟩ <;> cases l <;> first
        | (simp [frz, hc] at h; done)
        | (simp [frz, hc] at h; exact ⟨(fun z => nomatch z), h.1.symm, h.2.symm⟩)
    obtain ⟨_, rfl, rfl⟩ := hl
    obtain ⟨s2, mu2⟩ := relock (l := .fz) st z hc (fun _ => rfl)
    have k2 := Keep.relock (H := H) (φ := φ) (l := .fz) hc mu2 (fun z => nomatch z)
    refine ⟨s2, ?_, k2⟩
    have n2 := nm hc
    cases ct with
    | lst s r => exact .lst s n2 (r.stay (Stay.mu_le mu2))
    | dic s e1 e2 r => exact .dic s n2 e1 e2 (r.stay (Stay.mu_le mu2))
theorem frzs_ok : ∀ {ds es : List D} {vs : List V} {S S' : Cells}, StOk K mg H φ S → Repl K mg H φ S vs ds → frzs ds S = .ok es S' →
    StOk K mg H φ S' ∧ Dats K mg H (Mu φ S') vs es ∧ Keep H φ S H φ S' := by
  intro ds
  induction ds with
  | nil =>
    intro es vs S S' st r h
    cases r
    cases h
    exact ⟨st, .nil, Keep.refl _ _ _⟩
  | cons d ds ih =>
    intro es vs S S' st r h
    cases r with
    | cons r rr =>
      simp only [frzs] at h
      cases h1 : frz d S with
      | exn x S1 => rw [h1] at h; cases h
      | stuck => rw [h1] at h; cases h
      | ok e S1 =>
        rw [h1] at h
        simp only [R.bind] at h
        obtain ⟨st1, q1, k1⟩ := frz_ok st r h1
        cases h2 : frzs ds S1 with
        | exn x S2 => rw [h2] at h; cases h
        | stuck => rw [h2] at h; cases h
        | ok es' S2 =>
          rw [h2] at h
          simp only [R.bind] at h
          cases h
          obtain ⟨st2, q2, k2⟩ := ih st1 (rr.keep k1) h2
          exact ⟨st2, .cons (q1.stay k2.stay) q2, k1.trans k2⟩

/-! ### a value looked at -/
/-- what a value is, by its cell -/
inductive Vw (K : PySem.W.Frag) (mg : Str → Option Value) (H : Hp) (φ : Ad) (S : Cells) : V → D → Prop
  | dat {v : V} {d : D} : Dat K mg H (Mu φ S) v d → Vw K mg H φ S v d
  | cell {a : Addr} {vs : List V} {ds : List D} : H a = some (.lst vs) → Dats K mg H (Mu φ S) vs ds → Vw K mg H φ S (.ref a) (.lst ds)
  | dcell {a : Addr} {kvs : List (Key × V)} {ks : List Key} {ds : List D} : H a = some (.dK kvs) → kvs.map (·.1) = ks → Dats K mg H (Mu φ S) (kvs.map (·.2)) ds → Vw K mg H φ S (.ref a) (.dic ks ds)
theorem val_vw {v : V} {d e : D} (st : StOk K mg H φ S) (r : Rep K mg H φ S v d) (h : val S d = some e) : Vw K mg H φ S v e := by
  cases r with
  | @dat v d z =>
    have e1 : val S d = some d := by cases z <;> rfl
    rw [e1] at h
    cases h
    exact .dat z
  | @ref a n z =>
    have hn : n < S.length := by rw [← st.len]; exact (List.getElem?_eq_some_iff.mp z).1
    have hc : S[n]? = some S[n] := by simp [hn]
    have ct := st.at_ n a _ z hc
    simp only [val, hc, Option.map_some, Option.some.injEq] at h
    rw [h] at ct
    cases ct with
    | lst s r => exact .cell s r
    | dic s e1 e2 r => subst e2; exact .dcell s e1 r
theorem Vw.lst {v : V} {ds : List D} (h : Vw K mg H φ S v (.lst ds)) : ∃ a vs, v = .ref a ∧ H a = some (.lst vs) ∧ Dats K mg H (Mu φ S) vs ds := by
  cases h with
  | dat h => cases h with | lst s _ r => exact ⟨_, _, rfl, s, r⟩
  | cell e r => exact ⟨_, _, rfl, e, r⟩
theorem Vw.dic {v : V} {ks : List Key} {ds : List D} (h : Vw K mg H φ S v (.dic ks ds)) : ∃ a kvs, v = .ref a ∧ H a = some (.dK kvs) ∧ kvs.map (·.1) = ks ∧ Dats K mg H (Mu φ S) (kvs.map (·.2)) ds := by
  cases h with
  | dat h => cases h with | dic s _ e1 e2 r => subst e2; exact ⟨_, _, rfl, s, e1, r⟩
  | dcell s e1 r => exact ⟨_, _, rfl, s, e1, r⟩
theorem Vw.scr {v : V} {ns : List Int} (h : Vw K mg H φ S v (.scr ns)) : ∃ a, v = .ref a ∧ SqL K H a (ns.map V.int) := by
  cases h with
  | dat h => cases h with | scr s => exact ⟨_, rfl, s.sq⟩
theorem Vw.tup {v : V} {ds : List D} (h : Vw K mg H φ S v (.tup ds)) : ∃ a vs, v = .ref a ∧ SqT K H a vs ∧ Dats K mg H (Mu φ S) vs ds := by
  cases h with
  | dat h => cases h with | tup s r => exact ⟨_, _, rfl, s.sq, r⟩
theorem Vw.seq {v : V} {d : D} {ds : List D} (h : Vw K mg H φ S v d) (e : seqOf d = some ds) : ∃ a vs, v = .ref a ∧ (SqL K H a vs ∨ SqT K H a vs) ∧ Dats K mg H (Mu φ S) vs ds := by
  cases d with
  | lst xs => cases e; obtain ⟨a, vs, e1, e2, e3⟩ := h.lst; exact ⟨a, vs, e1, .inl (.of e2), e3⟩
  | tup xs => cases e; obtain ⟨a, vs, e1, e2, e3⟩ := h.tup; exact ⟨a, vs, e1, .inr e2, e3⟩
  | _ => cases e
theorem Vw.int {v : V} {i : Int} (h : Vw K mg H φ S v (.int i)) : v = .int i := by cases h with | dat h => cases h; rfl
theorem Vw.str {v : V} {x : Str} (h : Vw K mg H φ S v (.str x)) : v = .str x := by cases h with | dat h => cases h; rfl
theorem Vw.bl {v : V} {b : Bool} (h : Vw K mg H φ S v (.bl b)) : v = .bl b := by cases h with | dat h => cases h; rfl
theorem Vw.non {v : V} (h : Vw K mg H φ S v .non) : v = .non := by cases h with | dat h => cases h; rfl
theorem Vw.glo {v : V} {x : Str} (h : Vw K mg H φ S v (.glo x)) : ∃ a, v = .ref a ∧ mg x = some (.ref a) := by cases h with | dat h => cases h with | glo e => exact ⟨_, rfl, e⟩
theorem rep_int {v : V} {i : Int} (h : Rep K mg H φ S v (.int i)) : v = .int i := by cases h with | dat h => cases h; rfl
theorem rep_str {v : V} {i : Str} (h : Rep K mg H φ S v (.str i)) : v = .str i := by cases h with | dat h => cases h; rfl
theorem rep_bl {v : V} {i : Bool} (h : Rep K mg H φ S v (.bl i)) : v = .bl i := by cases h with | dat h => cases h; rfl
theorem rep_non {v : V} (h : Rep K mg H φ S v .non) : v = .non := by cases h with | dat h => cases h; rfl
end
end VS

/-! VS, part D: operators. -/
namespace VS
open PySem PySem.Spec L2 PyProof.Rows

theorem line_eq : (line : Nat) = sizeLine := by rw [sizeLine_eq]
section
variable {X : Cx}
def opOf : Bop → Operator
  | .add => .Add | .sub => .Sub | .mul => .Mult | .fdiv => .FloorDiv | .mod => .Mod | .pow => .Pow

theorem need_ans {K : PySem.W.Frag} {mg : Str → Option Value} {H : Hp} {φ : Ad} {S : Cells} {c : Bool} {r : R D} {Q : VK} (h : Ans K mg (.need c r) H φ S Q) : c = true ∧ Ans K mg r H φ S Q := by
  cases c with
  | true => exact ⟨rfl, h⟩
  | false => exact h.elim
theorem newL_ans {K : PySem.W.Frag} {mg : Str → Option Value} {H : Hp} {φ : Ad} {S : Cells} {ds : List D} {vs : List V} {Q : VK} (st : StOk K mg H φ S) (r : Dats K mg H (Mu φ S) vs ds) (h : Ans K mg (newL ds S) H φ S Q)
    {p : Addr} (hp : H p = none) : Q (.ref p) (upd H p (.lst vs)) := by
  obtain ⟨a, b, c⟩ := lay_lst st hp r
  exact h _ _ _ a b c
theorem newT_ans {K : PySem.W.Frag} {mg : Str → Option Value} {H : Hp} {φ : Ad} {S : Cells} {ds : List D} {vs : List V} {Q : VK} (st : StOk K mg H φ S) (r : Dats K mg H (Mu φ S) vs ds) (h : Ans K mg (.ok (.tup ds) S) H φ S Q)
    {p : Addr} (hp : H p = none) : Q (.ref p) (upd H p (.tup vs)) := by
  obtain ⟨a, b, c⟩ := lay_tup st hp r
  exact h _ _ _ a (.dat b) c
theorem Vw.rep {K : PySem.W.Frag} {mg : Str → Option Value} {H : Hp} {φ : Ad} {S : Cells} {v : V} {ds : List D} (h : Vw K mg H φ S v (.tup ds)) : Rep K mg H φ S v (.tup ds) := by
  cases h with | dat h => exact .dat h

/-- a op b, read by the interpreter -/
def rBin (K : PySem.W.Frag) (mg : Str → Option Value) (op : Bop) : R2 := fun x y H Q => ∃ φ S a b, StOk K mg H φ S ∧ Vw K mg H φ S x a ∧ Vw K mg H φ S y b ∧ Ans K mg (binV op a b S) H φ S Q
theorem sl_line {n : Nat} (h : decide (n ≤ line) = true) : n ≤ sizeLine := by rw [← line_eq]; exact of_decide_eq_true h
theorem mulOk_ok {i j : Int} (h : mulOk i j = true) : IntMulOk i j := by
  unfold mulOk at h
  simp only [Bool.or_eq_true, decide_eq_true_eq] at h
  rcases h with (h | h) | h
  · exact .of_left h
  · exact .of_right h
  · unfold IntMulOk
    intro z
    rw [Bool.and_eq_true] at z
    have z2 := z.2
    unfold Builtin.Int.intTooBig at z2
    have z3 := of_decide_eq_true z2
    have e : bitsLine = 134217728 := by decide
    rw [e] at z3
    omega
theorem here_i {K : PySem.W.Frag} {mg : Str → Option Value} {H : Hp} {φ : Ad} {S : Cells} {i : Int} {Q : VK} (st : StOk K mg H φ S) (h : Ans K mg (.ok (.int i) S) H φ S Q) : Q (.int i) H := h.here st (.dat (.int i))
theorem here_b {K : PySem.W.Frag} {mg : Str → Option Value} {H : Hp} {φ : Ad} {S : Cells} {i : Bool} {Q : VK} (st : StOk K mg H φ S) (h : Ans K mg (.ok (.bl i) S) H φ S Q) : Q (.bl i) H := h.here st (.dat (.bl i))
theorem here_s {K : PySem.W.Frag} {mg : Str → Option Value} {H : Hp} {φ : Ad} {S : Cells} {i : Str} {Q : VK} (st : StOk K mg H φ S) (h : Ans K mg (.ok (.str i) S) H φ S Q) : Q (.str i) H := h.here st (.dat (.str i))
theorem here_n {K : PySem.W.Frag} {mg : Str → Option Value} {H : Hp} {φ : Ad} {S : Cells} {Q : VK} (st : StOk K mg H φ S) (h : Ans K mg (.ok .non S) H φ S Q) : Q .non H := h.here st (.dat .non)

/-- tuple * int -/
theorem rep_tup_any {pins : List (Addr × Obj)} {s : Shared} {σ : L2.St} {H : Hp} {l : Addr} {xs : List V} {k : Int} {t : Tok} {Q : VK} (I : Inv X pins σ H s) (hT : SqT X.K H l xs) (hne : xs ≠ []) (h1 : 2 ≤ k) (h2 : k ≤ 1000) (hz : xs.length ≤ 1000)
    (q : ∀ p, H p = none → Q (.ref p) (upd H p (.tup (List.replicate k.toNat xs).flatten))) : wpAny (model X.prog X.w) X.A (binaryOp .Mult (.ref l) (.int k t)) (EP X pins σ Q) X.xe s :=
  op_repT pins s σ H (.ref l) (.int k) _ _ Q I rfl ⟨t, rfl⟩ ⟨l, k, xs, rfl, rfl, hT, hne, h1, h2, hz, q⟩

theorem op_pow2 : OpR X (binaryOp .Pow) (rI (fun i j => powOk i j = true) fun i j => .int (i ^ j.toNat)) := opI fun _ _ _ _ _ _ _ hc q => by
  unfold powOk at hc
  simp only [Bool.and_eq_true, decide_eq_true_eq] at hc
  exact pow_int hc.1 hc.2 q
theorem op_mul2 : OpR X (binaryOp .Mult) (rI (fun i j => mulOk i j = true) fun i j => .int (i * j)) := opI fun _ _ _ _ _ _ _ hc q => mul_int q (mulOk_ok hc)
theorem divOk_ok {j : Int} (h : divOk j = true) (i : Int) : CDivW i j := by
  unfold divOk at h
  simp only [Bool.and_eq_true, decide_eq_true_eq] at h
  exact h

theorem or_bin (op : Bop) : OpR X (binaryOp (opOf op)) (rBin X.K X.mg op) := by
  intro pins s σ H x y v u Q I rx ry ⟨φ, S, a, b, st, va, vb, h⟩
  cases op with
  | add =>
    cases a <;> try (exact h.elim)
    case int i =>
      cases b <;> try (exact h.elim)
      case int j => rw [va.int] at rx; rw [vb.int] at ry; exact op_add pins s σ H _ _ v u Q I rx ry ⟨i, j, rfl, rfl, here_i st h⟩
    case str i =>
      cases b <;> try (exact h.elim)
      case str j =>
        rw [va.str] at rx; rw [vb.str] at ry
        obtain ⟨c, h⟩ := need_ans h
        exact op_add_str pins s σ H _ _ v u Q I rx ry ⟨i, j, rfl, rfl, sl_line c, here_s st h⟩
    case lst i =>
      cases b <;> try (exact h.elim)
      case lst j =>
        obtain ⟨p, xs, e1, e2, e3⟩ := va.lst
        obtain ⟨q, ys, f1, f2, f3⟩ := vb.lst
        subst e1 f1
        obtain ⟨c, h⟩ := need_ans h
        refine op_cat pins s σ H _ _ v u Q I rx ry ⟨p, q, xs, ys, rfl, rfl, e2, f2, ?_, fun r hr => newL_ans st (e3.append f3) h hr⟩
        rw [e3.length, f3.length]; exact sl_line c
    case tup i =>
      cases b <;> try (exact h.elim)
      case tup j =>
        obtain ⟨p, xs, e1, e2, e3⟩ := va.tup
        obtain ⟨q, ys, f1, f2, f3⟩ := vb.tup
        subst e1 f1
        obtain ⟨c, h⟩ := need_ans h
        refine op_catA pins s σ H _ _ v u Q I rx ry ⟨p, q, xs, ys, rfl, rfl, e2, f2, ?_, fun e => ?_, fun n e => ?_, fun _ _ r hr => newT_ans st (e3.append f3) h hr⟩
        · rw [e3.length, f3.length]; exact sl_line c
        · have : i = [] := by have := e3.length; rw [e] at this; exact List.eq_nil_of_length_eq_zero this.symm
          subst this
          exact h.here st vb.rep
        · have : j = [] := by have := f3.length; rw [e] at this; exact List.eq_nil_of_length_eq_zero this.symm
          subst this
          rw [List.append_nil] at h
          exact h.here st va.rep
  | sub =>
    cases a <;> try (exact h.elim)
    case int i =>
      cases b <;> try (exact h.elim)
      case int j => rw [va.int] at rx; rw [vb.int] at ry; exact op_sub pins s σ H _ _ v u Q I rx ry ⟨i, j, rfl, rfl, here_i st h⟩
  | mul =>
    cases a <;> try (exact h.elim)
    case int i =>
      cases b <;> try (exact h.elim)
      case int j =>
        rw [va.int] at rx; rw [vb.int] at ry
        obtain ⟨c, h⟩ := need_ans h
        exact op_mul2 pins s σ H _ _ v u Q I rx ry ⟨i, j, rfl, rfl, c, here_i st h⟩
    case lst i =>
      cases b <;> try (exact h.elim)
      case int j =>
        obtain ⟨p, xs, e1, e2, e3⟩ := va.lst
        subst e1
        rw [vb.int] at ry
        obtain ⟨c, h⟩ := need_ans h
        simp only [Bool.and_eq_true, decide_eq_true_eq] at c
        refine op_rep pins s σ H _ _ v u Q I rx ry ⟨p, j, xs, rfl, rfl, e2, by omega, by omega, ?_, fun r hr => newL_ans st (e3.flatten j.toNat) h hr⟩
        rw [e3.length, ← line_eq]; exact c.2
    case tup i =>
      cases b <;> try (exact h.elim)
      case int j =>
        obtain ⟨p, xs, e1, e2, e3⟩ := va.tup
        subst e1
        rw [vb.int] at ry
        obtain ⟨c, h⟩ := need_ans h
        simp only [Bool.and_eq_true, decide_eq_true_eq, Bool.not_eq_true', List.isEmpty_eq_false_iff] at c
        refine op_repT pins s σ H _ _ v u Q I rx ry ⟨p, j, xs, rfl, rfl, e2, ?_, c.1.1.2, c.1.2, by rw [e3.length]; exact c.2, fun r hr => newT_ans st (e3.flatten j.toNat) h hr⟩
        intro z
        subst z
        cases e3
        exact c.1.1.1 rfl
  | fdiv =>
    cases a <;> try (exact h.elim)
    case int i =>
      cases b <;> try (exact h.elim)
      case int j =>
        rw [va.int] at rx; rw [vb.int] at ry
        obtain ⟨c, h⟩ := need_ans h
        exact op_fdivW pins s σ H _ _ v u Q I rx ry ⟨i, j, rfl, rfl, divOk_ok c i, here_i st h⟩
  | mod =>
    cases a <;> try (exact h.elim)
    case int i =>
      cases b <;> try (exact h.elim)
      case int j =>
        rw [va.int] at rx; rw [vb.int] at ry
        obtain ⟨c, h⟩ := need_ans h
        exact op_mod pins s σ H _ _ v u Q I rx ry ⟨i, j, rfl, rfl, of_decide_eq_true c, here_i st h⟩
  | pow =>
    cases a <;> try (exact h.elim)
    case int i =>
      cases b <;> try (exact h.elim)
      case int j =>
        rw [va.int] at rx; rw [vb.int] at ry
        obtain ⟨c, h⟩ := need_ans h
        exact op_pow2 pins s σ H _ _ v u Q I rx ry ⟨i, j, rfl, rfl, c, here_i st h⟩
end
end VS

/-! VS, part E: comparisons. -/
namespace VS
open PySem PySem.Spec L2 PyProof.Rows

mutual
theorem lay_py : ∀ d : D, d.dat = true → d.py.canLay0 = true
  | .non, _ => rfl
  | .bl _, _ => rfl
  | .int _, _ => rfl
  | .str s, h => h
  | .tup xs, h => lay_pys xs h
  | .lst xs, h => lay_pys xs h
  | .dic _ _, h => nomatch h
  | .ref _, h => nomatch h
  | .glo _, h => nomatch h
  | .ty _, h => nomatch h
  | .scr _, h => nomatch h
theorem lay_pys : ∀ ds : List D, D.dats ds = true → PyData.canLayAll0 (D.pys ds) = true
  | [], _ => rfl
  | d :: ds, h => by
    have h' : (d.dat && D.dats ds) = true := h
    rw [Bool.and_eq_true] at h'
    show (d.py.canLay0 && PyData.canLayAll0 (D.pys ds)) = true
    rw [lay_py d h'.1, lay_pys ds h'.2] <;> rfl
end
mutual
theorem dep_py : ∀ d : D, d.py.depth = d.dep
  | .non => rfl
  | .bl _ => rfl
  | .int _ => rfl
  | .str s => rfl
  | .tup xs => congrArg (· + 1) (dep_pys xs)
  | .lst xs => congrArg (· + 1) (dep_pys xs)
  | .dic _ _ => rfl
  | .ref _ => rfl
  | .glo _ => rfl
  | .ty _ => rfl
  | .scr _ => rfl
theorem dep_pys : ∀ ds : List D, PyData.depthAll (D.pys ds) = D.deps ds
  | [] => rfl
  | d :: ds => by
    show max d.py.depth (PyData.depthAll (D.pys ds)) = max d.dep (D.deps ds)
    rw [dep_py d, dep_pys ds]
end
mutual
theorem eqv_py : ∀ d e : D, d.dat = true → e.dat = true → PyData.eqv d.py e.py = eqD d e
  | .non, e, _, h => by cases e <;> first | rfl | exact nomatch h
  | .bl _, e, _, h => by cases e <;> first | rfl | exact nomatch h
  | .int _, e, _, h => by cases e <;> first | rfl | exact nomatch h
  | .str s, e, _, h => by cases e <;> first | rfl | exact nomatch h
  | .tup xs, e, h0, h => by
    cases e with
    | tup ys => exact eqv_pys xs ys h0 h
    | _ => first | rfl | exact nomatch h
  | .lst xs, e, h0, h => by
    cases e with
    | lst ys => exact eqv_pys xs ys h0 h
    | _ => first | rfl | exact nomatch h
  | .dic _ _, _, h, _ => nomatch h
  | .ref _, _, h, _ => nomatch h
  | .glo _, _, h, _ => nomatch h
  | .ty _, _, h, _ => nomatch h
  | .scr _, _, h, _ => nomatch h
theorem eqv_pys : ∀ ds es : List D, D.dats ds = true → D.dats es = true → PyData.eqvAll (D.pys ds) (D.pys es) = eqDs ds es
  | [], [], _, _ => rfl
  | [], _ :: _, _, _ => rfl
  | _ :: _, [], _, _ => rfl
  | d :: ds, e :: es, h, h' => by
    have h1 : (d.dat && D.dats ds) = true := h
    have h2 : (e.dat && D.dats es) = true := h'
    rw [Bool.and_eq_true] at h1 h2
    show (PyData.eqv d.py e.py && PyData.eqvAll (D.pys ds) (D.pys es)) = (eqD d e && eqDs ds es)
    rw [eqv_py d e h1.1 h2.1, eqv_pys ds es h1.2 h2.2]
end
section
variable {K : PySem.W.Frag} {mg : Str → Option Value} {H : Hp} {M : Addr → Prop} {φ : Ad} {S : Cells}
mutual
theorem Dat.dp : ∀ {d : D} {v : V}, Dat K mg H M v d → d.dat = true → Dp K H v d.py
  | .non, _, h, _ => by cases h; exact .non
  | .bl _, _, h, _ => by cases h; exact .bl _
  | .int _, _, h, _ => by cases h; exact .int _
  | .str _, _, h, _ => by cases h; exact .str _
  | .tup ds, _, h, q => by cases h with | tup s r => exact .tup s.sq (Dats.dp r q)
  | .lst ds, _, h, q => by cases h with | lst s n r => exact .lst (.of s) (Dats.dp r q)
  | .dic _ _, _, _, q => nomatch q
  | .ref _, _, h, _ => by cases h
  | .glo _, _, _, q => nomatch q
  | .ty _, _, _, q => nomatch q
  | .scr _, _, _, q => nomatch q
theorem Dats.dp : ∀ {ds : List D} {vs : List V}, Dats K mg H M vs ds → D.dats ds = true → DpAll K H vs (D.pys ds)
  | [], _, h, _ => by cases h; exact .nil
  | d :: ds, _, h, q => by
    have h1 : (d.dat && D.dats ds) = true := q
    rw [Bool.and_eq_true] at h1
    cases h with
    | cons a b => exact .cons (Dat.dp a h1.1) (Dats.dp b h1.2)
end
theorem Vw.dp {v : V} {d : D} (h : Vw K mg H φ S v d) (q : d.dat = true) : Dp K H v d.py := by
  cases h with
  | dat h => exact h.dp q
  | cell e r => exact .lst (.of e) (r.dp q)
  | dcell e e1 r => exact nomatch q
theorem flat_V {v : V} {d : D} (h : Dat K mg H M v d) (q : d.flat = true) : flatV v = true := by
  cases h <;> first | rfl | (simp [D.flat] at q; done)
theorem flats_V : ∀ {ds : List D} {vs : List V}, Dats K mg H M vs ds → ds.all D.flat = true → vs.all flatV = true
  | [], _, h, _ => by cases h; rfl
  | d :: ds, _, h, q => by
    rw [List.all_cons, Bool.and_eq_true] at q
    cases h with
    | cons a b => rw [List.all_cons, flat_V a q.1, flats_V b q.2] <;> rfl
theorem eq_V {v w : V} {d e : D} (h : Dat K mg H M v d) (h' : Dat K mg H M w e) (q : d.flat = true) (q' : e.flat = true) : L2.eqV v w = eqD d e := by
  cases h <;> first | (simp [D.flat] at q; done) | (cases h' <;> first | rfl | (simp [D.flat] at q'; done))
theorem any_V {w : V} {e : D} (h' : Dat K mg H M w e) (q' : e.flat = true) : ∀ {ds : List D} {vs : List V}, Dats K mg H M vs ds → ds.all D.flat = true → (vs.any fun y => L2.eqV y w) = ds.any fun z => eqD z e
  | [], _, h, _ => by cases h; rfl
  | d :: ds, _, h, q => by
    rw [List.all_cons, Bool.and_eq_true] at q
    cases h with
    | cons a b => rw [List.any_cons, List.any_cons, eq_V a h' q.1 q', any_V h' q' b q.2]
theorem Vw.flat {v : V} {d : D} (h : Vw K mg H φ S v d) (q : d.flat = true) : Dat K mg H (Mu φ S) v d := by
  cases h with
  | dat h => exact h
  | cell e r => exact nomatch q
  | dcell e e1 r => exact nomatch q
theorem dec_V {v w : V} {d e : D} (h : Dat K mg H M v d) (h' : Dat K mg H M w e) (q : d.flat = true) (q' : e.flat = true) (sc : scal v w = true) : decide (v = w) = eqD d e := by
  cases h <;> first | (simp [D.flat] at q; done) | (cases h' <;> first | exact dec_int | exact dec_bl | exact dec_str | (simp [eqD]; done) | (simp [D.flat] at q'; done) | (simp [scal] at sc; done))
theorem scal_V {v w : V} {d e : D} (h : Dat K mg H M v d) (h' : Dat K mg H M w e) (q : d.flat = true) (q' : e.flat = true) (sc : scal v w = false) : d.dat = true ∧ e.dat = true ∧ d.dep = 0 := by
  cases h <;> first | (simp [D.flat] at q; done) | (cases h' <;> first | (simp [scal] at sc; done) | (simp [D.flat] at q'; done) | exact ⟨rfl, rfl, rfl⟩)
end
section
variable {X : Cx}
def cOf : Cop → CmpOp
  | .eq => .Eq | .ne => .NotEq | .lt => .Lt | .le => .LtE | .gt => .Gt | .ge => .GtE | .isin => .In | .notin => .NotIn | .isN => .Is | .notN => .IsNot
/-- a comparison, read by the interpreter -/
def rCmp (K : PySem.W.Frag) (mg : Str → Option Value) (op : Cop) : R2 := fun x y H Q => ∃ φ S a b, StOk K mg H φ S ∧ Vw K mg H φ S x a ∧ Vw K mg H φ S y b ∧ Ans K mg (bR (cmpV op a b) S) H φ S Q
theorem here_o {K : PySem.W.Frag} {mg : Str → Option Value} {H : Hp} {φ : Ad} {S : Cells} {o : Option Bool} {Q : VK} (st : StOk K mg H φ S) (h : Ans K mg (bR o S) H φ S Q) : ∃ b, o = some b ∧ Q (.bl b) H := by
  cases o with
  | none => exact h.elim
  | some b => exact ⟨b, rfl, here_b st h⟩
/-- == of data, whatever they are -/
theorem or_eqD (hu : X.A.units + 100 < cLine) {pins : List (Addr × Obj)} {s : Shared} {σ : L2.St} {H : Hp} {φ : Ad} {S : Cells} {x y : V} {v u : Value} {a b : D} {k : Bool} (I : Inv X pins σ H s) (rx : RelV x v) (ry : RelV y u)
    (va : Vw X.K X.mg H φ S x a) (vb : Vw X.K X.mg H φ S y b) (e : eqV a b = some k) :
    (∀ Q : VK, Q (.bl k) H → wpAny (model X.prog X.w) X.A (compareOp .Eq v u) (EP X pins σ Q) X.xe s) ∧ (∀ Q : VK, Q (.bl (!k)) H → wpAny (model X.prog X.w) X.A (compareOp .NotEq v u) (EP X pins σ Q) X.xe s) := by
  have main : a.dat = true → b.dat = true → (a.dep ≤ 64 ∨ b.dep ≤ 64) → k = eqD a b → ((∀ Q : VK, Q (.bl k) H → wpAny (model X.prog X.w) X.A (compareOp .Eq v u) (EP X pins σ Q) X.xe s) ∧ (∀ Q : VK, Q (.bl (!k)) H → wpAny (model X.prog X.w) X.A (compareOp .NotEq v u) (EP X pins σ Q) X.xe s)) := fun da db hd hk => by
    obtain ⟨as, r1⟩ := Dp.reads I a.py x v (va.dp da) rx
    obtain ⟨bs, r2⟩ := Dp.reads I b.py y u (vb.dp db) ry
    have hm : X.A.units + min a.py.depth b.py.depth < cLine := by rw [dep_py, dep_py]; omega
    exact ⟨fun Q q => SeqAt.compareEq_reads r1 r2 (lay_py a da) (lay_py b db) hm (by rw [eqv_py a b da db, ← hk]; exact ⟨.bl _, H, I, rfl, q⟩),
      fun Q q => SeqAt.compareNe_reads r1 r2 (lay_py a da) (lay_py b db) hm (by rw [eqv_py a b da db, ← hk]; exact ⟨.bl _, H, I, rfl, q⟩)⟩
  unfold eqV at e
  split at e
  · rename_i hf
    rw [Bool.and_eq_true] at hf
    have hk : k = eqD a b := (Option.some.inj e).symm
    have fa := va.flat hf.1
    have fb := vb.flat hf.2
    cases sc : scal x y with
    | true =>
      have hd := dec_V fa fb hf.1 hf.2 sc
      rw [← hk] at hd
      exact ⟨fun Q q => op_eq pins s σ H x y v u Q I rx ry ⟨sc, by rw [hd]; exact q⟩, fun Q q => op_ne pins s σ H x y v u Q I rx ry ⟨sc, by rw [hd]; exact q⟩⟩
    | false =>
      obtain ⟨h1, h2, h3⟩ := scal_V fa fb hf.1 hf.2 sc
      exact main h1 h2 (.inl (by omega)) hk
  · split at e
    · rename_i hd
      simp only [Bool.and_eq_true, Bool.or_eq_true, decide_eq_true_eq] at hd
      exact main hd.1.1 hd.1.2 hd.2 (Option.some.inj e).symm
    · cases e

theorem key_V {K : PySem.W.Frag} {mg : Str → Option Value} {H : Hp} {φ : Ad} {S : Cells} {x : V} {a : D} {k : Key} (va : Vw K mg H φ S x a) (h : keyOf a = some k) : x = kV k := by
  cases a <;> try (cases h; done)
  case int i => cases h; exact va.int
  case str z => cases h; exact va.str
theorem strLt_eq (a b : Str) : strLt a b = decide (a.cps.toList < b.cps.toList) := rfl
/-- x in a list or tuple -/
theorem or_inD (hu : X.A.units + 100 < cLine) {pins : List (Addr × Obj)} {s : Shared} {σ : L2.St} {H : Hp} {φ : Ad} {S : Cells} {x y : V} {v u : Value} {a b : D} {k : Bool} (I : Inv X pins σ H s) (rx : RelV x v) (ry : RelV y u)
    (va : Vw X.K X.mg H φ S x a) (vb : Vw X.K X.mg H φ S y b) (e : inV a b = some k) :
    (∀ Q : VK, Q (.bl k) H → wpAny (model X.prog X.w) X.A (compareOp .In v u) (EP X pins σ Q) X.xe s) ∧ (∀ Q : VK, Q (.bl (!k)) H → wpAny (model X.prog X.w) X.A (compareOp .NotIn v u) (EP X pins σ Q) X.xe s) := by
  have flatC : ∀ {p : Addr} {vs : List V} {ds : List D}, y = .ref p → (SqL X.K H p vs ∨ SqT X.K H p vs) → Dats X.K X.mg H (Mu φ S) vs ds → a.flat = true → ds.all D.flat = true → k = (ds.any fun z => eqD z a) →
      ((∀ Q : VK, Q (.bl k) H → wpAny (model X.prog X.w) X.A (compareOp .In v u) (EP X pins σ Q) X.xe s) ∧ (∀ Q : VK, Q (.bl (!k)) H → wpAny (model X.prog X.w) X.A (compareOp .NotIn v u) (EP X pins σ Q) X.xe s)) := fun {p vs ds} ey hs hd fa fs hk => by
    have f1 := va.flat fa
    have e1 := any_V f1 fa hd fs
    have e2 : L2.inV x vs = k := by rw [hk]; exact e1
    refine ⟨fun Q q => op_in_seq pins s σ H x y v u Q I rx ry ⟨p, vs, ey, hs, flat_V f1 fa, flats_V hd fs, ?_⟩, fun Q q => op_notIn_seq pins s σ H x y v u Q I rx ry ⟨p, vs, ey, hs, flat_V f1 fa, flats_V hd fs, ?_⟩⟩
    · rw [e2]; exact q
    · rw [e2]; exact q
  have any_py : ∀ (ds : List D), D.dats ds = true → a.dat = true → (D.pys ds).any (fun z => PyData.eqv z a.py) = ds.any fun z => eqD z a := by
    intro ds
    induction ds with
    | nil => intro _ _; rfl
    | cons d ds ih =>
      intro h ha
      have h1 : (d.dat && D.dats ds) = true := h
      rw [Bool.and_eq_true] at h1
      show (PyData.eqv d.py a.py || (D.pys ds).any (fun z => PyData.eqv z a.py)) = (eqD d a || ds.any fun z => eqD z a)
      rw [eqv_py d a h1.1 ha, ih h1.2 ha]
  cases b with
  | lst ds =>
    obtain ⟨p, vs, ey, e2, e3⟩ := vb.lst
    unfold inV at e
    simp only at e
    split at e
    · rename_i hf
      rw [Bool.and_eq_true] at hf
      exact flatC ey (.inl (.of e2)) e3 hf.1 hf.2 (Option.some.inj e).symm
    · split at e
      · rename_i hd
        simp only [Bool.and_eq_true, decide_eq_true_eq] at hd
        obtain ⟨bs, r2⟩ := Dp.reads I a.py x v (va.dp hd.1.1) rx
        obtain ⟨as, r1⟩ := Dp.reads I (D.lst ds).py y u (vb.dp hd.1.2) ry
        have hk : k = ds.any fun z => eqD z a := (Option.some.inj e).symm
        have hm : X.A.units + 1 + min (PyData.depthAll (D.pys ds)) a.py.depth < cLine := by rw [dep_py, dep_pys]; omega
        exact ⟨fun Q q => SeqAt.in_list_reads r1 r2 (lay_pys ds hd.1.2) (lay_py a hd.1.1) hm (by rw [any_py ds hd.1.2 hd.1.1, ← hk]; exact ⟨.bl _, H, I, rfl, q⟩),
          fun Q q => SeqAt.notIn_list_reads r1 r2 (lay_pys ds hd.1.2) (lay_py a hd.1.1) hm (by rw [any_py ds hd.1.2 hd.1.1, ← hk]; exact ⟨.bl _, H, I, rfl, q⟩)⟩
      · cases e
  | tup ds =>
    obtain ⟨p, vs, ey, e2, e3⟩ := vb.tup
    unfold inV at e
    simp only at e
    split at e
    · rename_i hf
      rw [Bool.and_eq_true] at hf
      exact flatC ey (.inr e2) e3 hf.1 hf.2 (Option.some.inj e).symm
    · split at e
      · rename_i hd
        simp only [Bool.and_eq_true, decide_eq_true_eq] at hd
        obtain ⟨bs, r2⟩ := Dp.reads I a.py x v (va.dp hd.1.1) rx
        obtain ⟨as, r1⟩ := Dp.reads I (D.tup ds).py y u (vb.dp hd.1.2) ry
        have hk : k = ds.any fun z => eqD z a := (Option.some.inj e).symm
        have hm : X.A.units + 1 + min (PyData.depthAll (D.pys ds)) a.py.depth < cLine := by rw [dep_py, dep_pys]; omega
        exact ⟨fun Q q => SeqAt.in_tuple_reads r1 r2 (lay_pys ds hd.1.2) (lay_py a hd.1.1) hm (by rw [any_py ds hd.1.2 hd.1.1, ← hk]; exact ⟨.bl _, H, I, rfl, q⟩),
          fun Q q => SeqAt.notIn_tuple_reads r1 r2 (lay_pys ds hd.1.2) (lay_py a hd.1.1) hm (by rw [any_py ds hd.1.2 hd.1.1, ← hk]; exact ⟨.bl _, H, I, rfl, q⟩)⟩
      · cases e
  | dic ks ds =>
    obtain ⟨p, kvs, ey, e2, e3, e4⟩ := vb.dic
    unfold inV at e
    simp only at e
    cases hk : keyOf a with
    | none => rw [hk] at e; cases e
    | some key =>
      rw [hk] at e
      have hkv : k = (valV kvs key).isSome := by
        rw [← valV_any, ← Option.some.inj e, ← e3]; unfold dhas; rw [List.any_map] <;> rfl
      have ex := key_V va hk
      subst ey
      cases ry
      have g : DGet H p x (valV kvs key) := by rw [ex]; exact DGet.k e2
      exact ⟨fun Q q => d_in (by omega) I g rx fun s' I' => ⟨.bl _, H, I', rfl, by rw [← hkv]; exact q⟩, fun Q q => d_notIn (by omega) I g rx fun s' I' => ⟨.bl _, H, I', rfl, by rw [← hkv]; exact q⟩⟩
  | str t =>
    have ey := vb.str
    cases a with
    | str z =>
      have ex := va.str
      unfold inV at e
      simp only at e
      split at e
      · rename_i c hc
        have hz : z = ⟨#[c]⟩ := by
          cases z with
          | mk cs =>
            have : cs.toList = [c] := hc
            congr 1
            apply Array.ext'
            simpa using this
        have hk : k = decide (c ∈ t.cps.toList) := (Option.some.inj e).symm
        subst ex ey
        subst hz
        exact ⟨fun Q q => op_in_sign pins s σ H _ _ v u Q I rx ry ⟨c, t, rfl, rfl, by rw [← hk]; exact q⟩, fun Q q => op_notIn_sign pins s σ H _ _ v u Q I rx ry ⟨c, t, rfl, rfl, by rw [← hk]; exact q⟩⟩
      · cases e
    | _ => unfold inV at e; cases e
  | _ => unfold inV at e; cases e

theorem or_cmp (hu : X.A.units + 100 < cLine) (op : Cop) : OpR X (compareOp (cOf op)) (rCmp X.K X.mg op) := by
  intro pins s σ H x y v u Q I rx ry ⟨φ, S, a, b, st, va, vb, h⟩
  obtain ⟨k, e, q⟩ := here_o st h
  cases op with
  | eq => exact (or_eqD hu I rx ry va vb e).1 Q q
  | ne =>
    obtain ⟨k', e1, e2⟩ := Option.map_eq_some_iff.mp e
    subst e2
    exact (or_eqD hu I rx ry va vb e1).2 Q q
  | isin => exact (or_inD hu I rx ry va vb e).1 Q q
  | notin =>
    obtain ⟨k', e1, e2⟩ := Option.map_eq_some_iff.mp e
    subst e2
    exact (or_inD hu I rx ry va vb e1).2 Q q
  | lt =>
    cases a <;> try (cases e; done)
    case int i =>
      cases b <;> try (cases e; done)
      case int j => cases e; rw [va.int] at rx; rw [vb.int] at ry; exact op_lt pins s σ H _ _ v u Q I rx ry ⟨i, j, rfl, rfl, q⟩
    case str i =>
      cases b <;> try (cases e; done)
      case str j => cases e; rw [va.str] at rx; rw [vb.str] at ry; exact op_lt_str pins s σ H _ _ v u Q I rx ry ⟨i, j, rfl, rfl, q⟩
  | le =>
    cases a <;> try (cases e; done)
    case int i =>
      cases b <;> try (cases e; done)
      case int j => cases e; rw [va.int] at rx; rw [vb.int] at ry; exact op_le pins s σ H _ _ v u Q I rx ry ⟨i, j, rfl, rfl, q⟩
  | gt =>
    cases a <;> try (cases e; done)
    case int i =>
      cases b <;> try (cases e; done)
      case int j => cases e; rw [va.int] at rx; rw [vb.int] at ry; exact op_gt pins s σ H _ _ v u Q I rx ry ⟨i, j, rfl, rfl, q⟩
  | ge =>
    cases a <;> try (cases e; done)
    case int i =>
      cases b <;> try (cases e; done)
      case int j => cases e; rw [va.int] at rx; rw [vb.int] at ry; exact op_ge pins s σ H _ _ v u Q I rx ry ⟨i, j, rfl, rfl, q⟩
  | isN =>
    cases b <;> try (cases e; done)
    case non =>
      rw [vb.non] at ry
      refine op_isN pins s σ H x .non v u Q I rx ry ⟨rfl, ?_⟩
      cases a <;> try (cases e; done)
      case non => cases e; rw [va.non]; exact q
      case bl => cases e; rw [va.bl]; exact q
      case int => cases e; rw [va.int]; exact q
      case str => cases e; rw [va.str]; exact q
      case tup => cases e; obtain ⟨p, _, e1, _⟩ := va.tup; rw [e1]; exact q
      case lst => cases e; obtain ⟨p, _, e1, _⟩ := va.lst; rw [e1]; exact q
      case ref => cases va with | dat z => cases z
  | notN =>
    cases b <;> try (cases e; done)
    case non =>
      rw [vb.non] at ry
      refine op_notN pins s σ H x .non v u Q I rx ry ⟨rfl, ?_⟩
      cases a <;> try (cases e; done)
      case non => cases e; rw [va.non]; exact q
      case bl => cases e; rw [va.bl]; exact q
      case int => cases e; rw [va.int]; exact q
      case str => cases e; rw [va.str]; exact q
      case tup => cases e; obtain ⟨p, _, e1, _⟩ := va.tup; rw [e1]; exact q
      case lst => cases e; obtain ⟨p, _, e1, _⟩ := va.lst; rw [e1]; exact q
      case ref => cases va with | dat z => cases z
end
end VS

/-! VR, part D: sorted lists are one. -/
namespace VS
open PySem PySem.Spec L2 PyProof.Rows

theorem insI_perm (i : Int) : ∀ l : List Int, (insI i l).Perm (i :: l)
  | [] => .refl _
  | j :: r => by
    unfold insI
    split
    · exact .refl _
    · exact ((insI_perm i r).cons j).trans (.swap i j r)
theorem sortI_perm : ∀ l : List Int, (sortI l).Perm l
  | [] => .refl _
  | i :: r => by unfold sortI; exact (insI_perm i _).trans ((sortI_perm r).cons i)
theorem insI_pw (i : Int) : ∀ {l : List Int}, l.Pairwise (· ≤ ·) → (insI i l).Pairwise (· ≤ ·)
  | [], _ => by unfold insI; simp
  | j :: r, h => by
    unfold insI
    obtain ⟨h1, h2⟩ := List.pairwise_cons.mp h
    split
    · rename_i c
      exact List.pairwise_cons.mpr ⟨fun y hy => by rcases List.mem_cons.mp hy with rfl | hy; exact c; have := h1 y hy; omega, h⟩
    · rename_i c
      refine List.pairwise_cons.mpr ⟨fun y hy => ?_, insI_pw i h2⟩
      rcases List.mem_cons.mp ((insI_perm i r).mem_iff.mp hy) with rfl | hy
      · omega
      · exact h1 y hy
theorem sortI_pw : ∀ l : List Int, (sortI l).Pairwise (· ≤ ·)
  | [] => by unfold sortI; exact .nil
  | i :: r => by unfold sortI; exact insI_pw i (sortI_pw r)
/-- two arrangements by an order are one -/
theorem perm_uniq {α : Type} {le : α → α → Prop} (as : ∀ a b, le a b → le b a → a = b) : ∀ {l l' : List α}, l.Perm l' → l.Pairwise le → l'.Pairwise le → l = l'
  | [], l', p, _, _ => (List.nil_perm.mp p).symm
  | a :: l, [], p, _, _ => by have := p.length_eq; simp at this
  | a :: l, b :: l', p, h, h' => by
    obtain ⟨h1, h2⟩ := List.pairwise_cons.mp h
    obtain ⟨h3, h4⟩ := List.pairwise_cons.mp h'
    have e : a = b := by
      rcases List.mem_cons.mp (p.mem_iff.mp List.mem_cons_self) with e | ha
      · exact e
      · rcases List.mem_cons.mp (p.symm.mem_iff.mp List.mem_cons_self) with e | hb
        · exact e.symm
        · exact as a b (h1 b hb) (h3 a ha)
    subst e
    rw [perm_uniq as (List.perm_cons a |>.mp p) h2 h4]
theorem sortI_eq {l l' : List Int} (h1 : l'.Perm l) (h2 : l'.Pairwise (· ≤ ·)) : l' = sortI l :=
  perm_uniq (le := (· ≤ ·)) (fun a b h h' => Int.le_antisymm h h') (h1.trans (sortI_perm l).symm) h2 (sortI_pw l)
/-! texts -/
theorem cps_lt {a b : Str} : strLt a b = true ↔ a.cps.toList < b.cps.toList := by unfold strLt; exact decide_eq_true_iff
theorem str_ext {a b : Str} (h : a.cps.toList = b.cps.toList) : a = b := by
  cases a with | mk x => cases b with | mk y => congr 1; exact Array.ext' h
theorem strLe_tot (a b : Str) : strLe a b = true ∨ strLe b a = true := by
  unfold strLe
  cases h1 : strLt b a with
  | false => exact .inl rfl
  | true =>
    cases h2 : strLt a b with
    | false => exact .inr rfl
    | true => exact absurd (List.lt_trans (cps_lt.mp h1) (cps_lt.mp h2)) (List.lt_irrefl _)
theorem strLe_as (a b : Str) (h1 : strLe a b = true) (h2 : strLe b a = true) : a = b := by
  unfold strLe at h1 h2
  have n1 : ¬ b.cps.toList < a.cps.toList := fun z => by rw [cps_lt.mpr z] at h1; cases h1
  have n2 : ¬ a.cps.toList < b.cps.toList := fun z => by rw [cps_lt.mpr z] at h2; cases h2
  exact str_ext (List.le_antisymm (List.not_lt.mp n1) (List.not_lt.mp n2))
theorem strLe_tr (a b c : Str) (h1 : strLe a b = true) (h2 : strLe b c = true) : strLe a c = true := by
  unfold strLe at *
  have n1 : ¬ b.cps.toList < a.cps.toList := fun z => by rw [cps_lt.mpr z] at h1; cases h1
  have n2 : ¬ c.cps.toList < b.cps.toList := fun z => by rw [cps_lt.mpr z] at h2; cases h2
  cases h3 : strLt c a with
  | false => rfl
  | true => exact absurd (cps_lt.mp h3) (List.not_lt.mpr (List.le_trans (List.not_lt.mp n1) (List.not_lt.mp n2)))
theorem insS_perm (i : Str) : ∀ l : List Str, (insS i l).Perm (i :: l)
  | [] => .refl _
  | j :: r => by
    unfold insS
    split
    · exact .refl _
    · exact ((insS_perm i r).cons j).trans (.swap i j r)
theorem sortS_perm : ∀ l : List Str, (sortS l).Perm l
  | [] => .refl _
  | i :: r => by unfold sortS; exact (insS_perm i _).trans ((sortS_perm r).cons i)
abbrev SLe (a b : Str) : Prop := strLe a b = true
theorem insS_pw (i : Str) : ∀ {l : List Str}, l.Pairwise SLe → (insS i l).Pairwise SLe
  | [], _ => by unfold insS; simp
  | j :: r, h => by
    unfold insS
    obtain ⟨h1, h2⟩ := List.pairwise_cons.mp h
    split
    · rename_i c
      exact List.pairwise_cons.mpr ⟨fun y hy => by rcases List.mem_cons.mp hy with rfl | hy; exact c; exact strLe_tr _ _ _ c (h1 y hy), h⟩
    · rename_i c
      refine List.pairwise_cons.mpr ⟨fun y hy => ?_, insS_pw i h2⟩
      rcases List.mem_cons.mp ((insS_perm i r).mem_iff.mp hy) with rfl | hy
      · exact (strLe_tot j y).elim id fun z => absurd z c
      · exact h1 y hy
theorem sortS_pw : ∀ l : List Str, (sortS l).Pairwise SLe
  | [] => by unfold sortS; exact .nil
  | i :: r => by unfold sortS; exact insS_pw i (sortS_pw r)
theorem rising_pw : ∀ {l : List Str} {p : Str}, risingS p l = true → (p :: l).Pairwise SLe
  | [], p, _ => by simp
  | x :: r, p, h => by
    unfold risingS at h
    rw [Bool.and_eq_true] at h
    have ih := rising_pw h.2
    have px : SLe p x := by
      have h1 := h.1
      show (!strLt x p) = true
      rw [show strLt x p = ltCps x.cps.toList p.cps.toList from ?_]
      · exact h1
      · first | rfl | (unfold strLt; exact (ltCps_eq _ _).symm) | (unfold strLt; exact (ltCps_iff _ _).symm)
    refine List.pairwise_cons.mpr ⟨fun y hy => ?_, ih⟩
    rcases List.mem_cons.mp hy with rfl | hy
    · exact px
    · exact strLe_tr _ _ _ px ((List.pairwise_cons.mp ih).1 y hy)
theorem sorted_pw {l : List Str} (h : sortedS l = true) : l.Pairwise SLe := by
  cases l with
  | nil => exact .nil
  | cons x r => exact rising_pw h
theorem sortS_eq {l l' : List Str} (h1 : l'.Perm l) (h2 : sortedS l' = true) : l' = sortS l :=
  perm_uniq (le := SLe) strLe_as (h1.trans (sortS_perm l).symm) (sorted_pw h2) (sortS_pw l)
end VS

/-! VS, part F: subscripts, slices, truth, isinstance, built-ins, methods. -/
namespace VS
open PySem PySem.Spec L2 PyProof.Rows

theorem atN_eq (n : Nat) (i : Int) : atN n i = ixN n i := by
  unfold atN ixN
  by_cases h : 0 ≤ i
  · rw [if_pos h, if_pos h]
    by_cases h2 : i.toNat < n
    · rw [if_pos h2, if_pos (by omega)]
    · rw [if_neg h2, if_neg (by omega)]
  · rw [if_neg h, if_neg h]
    by_cases h2 : 0 ≤ i + n
    · rw [if_pos h2, if_pos (by omega)]
    · rw [if_neg h2, if_neg (by omega)]
section
variable {K : PySem.W.Frag} {mg : Str → Option Value} {H : Hp} {M : Addr → Prop} {φ : Ad} {S : Cells}
theorem Dats.atI {vs : List V} {ds : List D} (h : Dats K mg H M vs ds) {i : Int} {j : Nat} {d : D} (e : atN ds.length i = some j) (e2 : ds[j]? = some d) : ∃ v, L2.atI vs i = some v ∧ Dat K mg H M v d := by
  obtain ⟨v, h1, h2⟩ := h.get e2
  refine ⟨v, ?_, h2⟩
  unfold L2.atI
  rw [h.length, ← atN_eq, e]
  exact h1
def optI : D → Option (Option Int)
  | .non => some none
  | .int i => some (some i)
  | _ => none
theorem bnd_eq {n d : Nat} {x : D} {k : Nat} (h : bnd n d x = some k) : ∃ o, optI x = some o ∧ k = HT.sIx n d o := by
  cases x with
  | non => cases h; exact ⟨none, rfl, rfl⟩
  | int i => cases h; exact ⟨some i, rfl, rfl⟩
  | _ => cases h
theorem bnd_none {n d : Nat} {x : D} (h : optI x = none) : bnd n d x = none := by
  cases x with
  | non => cases h
  | int i => cases h
  | _ => rfl
end

section
variable {K : PySem.W.Frag} {mg : Str → Option Value} {H : Hp} {M : Addr → Prop}
theorem dget_V : ∀ {kvs : List (Key × V)} {ks : List Key} {ds : List D} {k : Key} {d : D}, kvs.map (·.1) = ks → Dats K mg H M (kvs.map (·.2)) ds → dget ks ds k = some d → ∃ v, valV kvs k = some v ∧ Dat K mg H M v d
  | [], _, _, k, d, e, r, h => by subst e; cases r; cases h
  | p :: kvs, _, _, k, d, e, r, h => by
    subst e
    rw [List.map_cons] at r
    cases r with
    | cons a b =>
      rw [List.map_cons, dget] at h
      by_cases c : p.1 = k
      · rw [if_pos c] at h
        cases h
        exact ⟨p.2, valV_pos c, a⟩
      · rw [if_neg c] at h
        rw [valV_neg c]
        exact dget_V rfl b h
theorem dget_no : ∀ {kvs : List (Key × V)} {ks : List Key} {ds : List D} {k : Key}, kvs.map (·.1) = ks → Dats K mg H M (kvs.map (·.2)) ds → dget ks ds k = none → valV kvs k = none
  | [], _, _, k, e, r, h => rfl
  | p :: kvs, _, _, k, e, r, h => by
    subst e
    rw [List.map_cons] at r
    cases r with
    | cons a b =>
      rw [List.map_cons, dget] at h
      by_cases c : p.1 = k
      · rw [if_pos c] at h; cases h
      · rw [if_neg c] at h
        rw [valV_neg c]
        exact dget_no rfl b h
theorem dhas_V (kvs : List (Key × V)) (k : Key) : (kvs.any fun kv => decide (kv.1 = k)) = dhas (kvs.map (·.1)) k := by
  unfold dhas; rw [List.any_map] <;> rfl
theorem dput_V {kvs : List (Key × V)} {ks : List Key} {ds : List D} {k : Key} {v : V} {d : D} (e : kvs.map (·.1) = ks) (r : Dats K mg H M (kvs.map (·.2)) ds) (rv : Dat K mg H M v d) :
    (putK kvs k v).map (·.1) = dputK ks k ∧ Dats K mg H M ((putK kvs k v).map (·.2)) (dputV ks ds k d) := by
  subst e
  unfold putK dputK dputV
  rw [dhas_V]
  cases hh : dhas (kvs.map (·.1)) k with
  | false =>
    simp only [Bool.false_eq_true, if_false]
    rw [List.map_append, List.map_append]
    exact ⟨rfl, r.append (.cons rv .nil)⟩
  | true =>
    simp only [if_true]
    clear hh
    refine ⟨?_, ?_⟩
    · rw [List.map_map]
      refine List.map_congr_left fun p _ => ?_
      show (if p.1 = k then (p.1, v) else p).1 = p.1
      split <;> rfl
    · induction kvs generalizing ds with
      | nil => cases r; exact .nil
      | cons p kvs ih =>
        rw [List.map_cons] at r
        cases r with
        | cons a b =>
          rw [List.map_cons, List.map_cons, List.map_cons, dmap]
          refine .cons ?_ (ih b)
          by_cases c : p.1 = k
          · rw [if_pos c, if_pos c]; exact rv
          · rw [if_neg c, if_neg c]; exact a
theorem dputs_V : ∀ {ps : List (Key × V)} {pd : List (Key × D)} {kvs : List (Key × V)} {ks : List Key} {ds : List D}, ps.map (·.1) = pd.map (·.1) → Dats K mg H M (ps.map (·.2)) (pd.map (·.2)) → kvs.map (·.1) = ks → Dats K mg H M (kvs.map (·.2)) ds →
    (mergeK kvs ps).map (·.1) = (dputs ks ds pd).1 ∧ Dats K mg H M ((mergeK kvs ps).map (·.2)) (dputs ks ds pd).2
  | [], [], kvs, ks, ds, e, r, e2, r2 => ⟨e2, r2⟩
  | [], _ :: _, _, _, _, e, _, _, _ => by cases e
  | _ :: _, [], _, _, _, e, _, _, _ => by cases e
  | p :: ps, (k, d) :: pd, kvs, ks, ds, e, r, e2, r2 => by
    rw [List.map_cons, List.map_cons] at r e
    cases r with
    | cons a b =>
      have e0 : p.1 = k := (List.cons.inj e).1
      obtain ⟨h1, h2⟩ := dput_V (k := k) e2 r2 a
      show (mergeK (putK kvs p.1 p.2) ps).map (·.1) = (dputs (dputK ks k) (dputV ks ds k d) pd).1 ∧ Dats K mg H M ((mergeK (putK kvs p.1 p.2) ps).map (·.2)) (dputs (dputK ks k) (dputV ks ds k d) pd).2
      rw [e0]
      exact dputs_V (List.cons.inj e).2 b h1 h2
end
section
variable {X : Cx}
/-- x[i], read by the interpreter -/
def rIxD (K : PySem.W.Frag) (mg : Str → Option Value) : R2 := fun x y H Q => ∃ φ S a b, StOk K mg H φ S ∧ Vw K mg H φ S x a ∧ Vw K mg H φ S y b ∧ Ans K mg (ixV a b S) H φ S Q
theorem or_ix (hu : X.A.units + 100 < cLine) : IxR X (rIxD X.K X.mg) := by
  intro value slice pins s σ H x y v u Q I rx ry ⟨φ, S, a, b, st, va, vb, h⟩ hs
  cases a <;> try (exact h.elim)
  case tup xs =>
    cases b <;> try (exact h.elim)
    case int i =>
      obtain ⟨p, vs, e1, e2, e3⟩ := va.tup
      subst e1
      rw [vb.int] at ry
      simp only [ixV] at h
      split at h
      · rename_i j hj
        split at h
        · rename_i d hd
          obtain ⟨w, f1, f2⟩ := e3.atI hj hd
          exact ix_tup value slice pins s σ H _ _ v u Q I rx ry ⟨p, vs, i, w, rfl, rfl, e2, f1, h.here st (.dat f2)⟩ hs
        · exact h.elim
      · exact h.elim
  case lst xs =>
    cases b <;> try (exact h.elim)
    case int i =>
      obtain ⟨p, vs, e1, e2, e3⟩ := va.lst
      subst e1
      rw [vb.int] at ry
      simp only [ixV] at h
      split at h
      · rename_i j hj
        split at h
        · rename_i d hd
          obtain ⟨w, f1, f2⟩ := e3.atI hj hd
          exact ix_list value slice pins s σ H _ _ v u Q I rx ry ⟨p, vs, i, w, rfl, rfl, .of e2, f1, h.here st (.dat f2)⟩ hs
        · exact h.elim
      · exact h.elim
  case dic ks ds =>
    have h : Ans X.K X.mg (match keyOf b with | some k => (match dget ks ds k with | some d => .ok d S | none => .stuck) | none => .stuck) H φ S Q := by cases b <;> exact h
    cases hk : keyOf b with
    | none => rw [hk] at h; exact h.elim
    | some k =>
      rw [hk] at h
      dsimp only at h
      cases hd : dget ks ds k with
      | none => rw [hd] at h; exact h.elim
      | some d =>
        rw [hd] at h
        obtain ⟨p, kvs, e1, e2, e3, e4⟩ := va.dic
        subst e1
        obtain ⟨w, f1, f2⟩ := dget_V e3 e4 hd
        have ey := key_V vb hk
        cases rx
        have g : DGet H p y (some w) := by rw [ey, ← f1]; exact DGet.k e2
        have q := h.here st (.dat f2)
        have hT := dict_typeIs I g
        unfold subscriptTail
        refine wpAny_bind ?_
        rw [getitemInPython_of_ne hT.not_modules]
        refine wpAny_bind (wpAny_specialOf hT PySem.F.slot_dict_getitem.lookup ?_)
        have fin : wpAny (model X.prog X.w) X.A (subscripted slice false (.ref p) u) (fun r s₃ => wpAny (model X.prog X.w) X.A (letTemporaryGo value (.ref p) r >>= fun _ => pure r) (EP X pins σ Q) X.xe s₃) X.xe s := by
          rw [hs]
          exact wpAny_operating (wpAny_mono (d_getItem (by omega) I g ry fun w' s' I' rw' => (show EP X pins σ Q w' s' from ⟨_, H, I', rw', q⟩)) (fun r s₃ h₃ => wpAny_bind (wpAny_letTemporaryGo (wpAny_pure h₃))) fun _ _ x => x)
        first
          | exact wpAny_pure (wpAny_bind fin)
          | exact wpAny_bind (wpAny_pure (wpAny_bind fin))
          | exact wpAny_bind fin
  case str z =>
    cases b <;> try (exact h.elim)
    case int i =>
      rw [va.str] at rx
      rw [vb.int] at ry
      obtain ⟨c, h⟩ := need_ans h
      split at h
      · rename_i j hj
        split at h
        · rename_i d hd
          refine ix_str value slice pins s σ H _ _ v u Q I rx ry ⟨z, i, d, rfl, rfl, sl_line c, ?_, here_s st h⟩ hs
          unfold L2.atI
          rw [← atN_eq, hj]
          exact hd
        · exact h.elim
      · exact h.elim

/-- x[lo:hi], read by the interpreter -/
def rSlD (K : PySem.W.Frag) (mg : Str → Option Value) : V → Option Int → Option Int → Hp → VK → Prop := fun x lo hi H Q => ∃ φ S a l h, StOk K mg H φ S ∧ Vw K mg H φ S x a ∧ optI l = some lo ∧ optI h = some hi ∧ Ans K mg (slV a l h S) H φ S Q
theorem cut_V {K : PySem.W.Frag} {mg : Str → Option Value} {H : Hp} {M : Addr → Prop} {vs : List V} {ds : List D} {lo hi : Option Int} (h : Dats K mg H M vs ds) :
    Dats K mg H M (cutV vs lo hi) (cut ds (HT.sIx ds.length 0 lo) (HT.sIx ds.length ds.length hi)) := by
  unfold cutV cut
  rw [h.length]
  exact (h.drop _).take _
theorem or_sl : SlR X (rSlD X.K X.mg) := by
  intro pins s σ H x v vl vu lo hi sl Q I rx hs pl pu ⟨φ, S, a, l, u, st, va, el, eu, h⟩
  cases a <;> try (exact h.elim)
  case tup xs =>
    obtain ⟨p, vs, e1, e2, e3⟩ := va.tup
    subst e1
    simp only [slV] at h
    split at h
    · rename_i i j hi' hj'
      obtain ⟨o1, f1, f2⟩ := bnd_eq hi'
      obtain ⟨o2, g1, g2⟩ := bnd_eq hj'
      rw [el] at f1; cases f1
      rw [eu] at g1; cases g1
      subst f2 g2
      refine sl_tupA pins s σ H _ v vl vu lo hi sl Q I rx hs pl pu ⟨p, vs, rfl, e2, fun w => ?_, fun _ q hq => newT_ans st (cut_V e3) h hq⟩
      rw [e3.length] at w
      have e4 : cut xs (HT.sIx xs.length 0 lo) (HT.sIx xs.length xs.length hi) = xs := by
        unfold cut
        rw [w.1, w.2]
        simp
      rw [e4] at h
      exact h.here st va.rep
    · exact h.elim
  case lst xs =>
    obtain ⟨p, vs, e1, e2, e3⟩ := va.lst
    subst e1
    simp only [slV] at h
    split at h
    · rename_i i j hi' hj'
      obtain ⟨o1, f1, f2⟩ := bnd_eq hi'
      obtain ⟨o2, g1, g2⟩ := bnd_eq hj'
      rw [el] at f1; cases f1
      rw [eu] at g1; cases g1
      subst f2 g2
      exact sl_list pins s σ H _ v vl vu lo hi sl Q I rx hs pl pu ⟨p, vs, rfl, .of e2, fun q hq => newL_ans st (cut_V e3) h hq⟩
    · exact h.elim
  case scr ns =>
    obtain ⟨p, e1, e2⟩ := va.scr
    subst e1
    simp only [slV] at h
    split at h
    · rename_i i j hi' hj'
      obtain ⟨o1, f1, f2⟩ := bnd_eq hi'
      obtain ⟨o2, g1, g2⟩ := bnd_eq hj'
      rw [el] at f1; cases f1
      rw [eu] at g1; cases g1
      have hd : ∀ ns : List Int, Dats X.K X.mg H (Mu φ S) (ns.map V.int) (ns.map D.int) := fun ns => by
        induction ns with
        | nil => exact .nil
        | cons n ns ih => exact .cons (.int n) ih
      subst f2 g2
      refine sl_list pins s σ H _ v vl vu lo hi sl Q I rx hs pl pu ⟨p, _, rfl, e2, fun q hq => newL_ans st (?_ : Dats X.K X.mg H (Mu φ S) (cutV (ns.map V.int) lo hi) _) h hq⟩
      have := cut_V (lo := lo) (hi := hi) (hd ns)
      rw [List.length_map] at this
      exact this
    · exact h.elim
  case str z =>
    rw [va.str] at rx
    obtain ⟨c, h⟩ := need_ans h
    split at h
    · rename_i i j hi' hj'
      obtain ⟨o1, f1, f2⟩ := bnd_eq hi'
      obtain ⟨o2, g1, g2⟩ := bnd_eq hj'
      rw [el] at f1; cases f1
      rw [eu] at g1; cases g1
      subst f2 g2
      refine sl_str pins s σ H _ v vl vu lo hi sl Q I rx hs pl pu ⟨z, rfl, sl_line c, ?_⟩
      have e : cutS z lo hi = ⟨(cut z.cps.toList (HT.sIx z.cps.toList.length 0 lo) (HT.sIx z.cps.toList.length z.cps.toList.length hi)).toArray⟩ := by
        unfold cutS cut
        rw [show z.cps.toList.length = z.length by simp [Str.length]]
      rw [e]
      exact here_s st h
    · exact h.elim

/-! ### truth -/
theorem tru_V {K : PySem.W.Frag} {mg : Str → Option Value} {H : Hp} {φ : Ad} {S : Cells} {v : V} {d : D} {b : Bool} (st : StOk K mg H φ S) (r : Rep K mg H φ S v d) (h : truth S d = some b) : TruV K v H b := by
  unfold truth at h
  cases e : val S d with
  | none => rw [e] at h; cases h
  | some a =>
    rw [e] at h
    have w := val_vw st r e
    cases a <;> try (cases h; done)
    case non => cases h; rw [w.non]; exact rfl
    case bl k => cases h; rw [w.bl]; exact rfl
    case int i => cases h; rw [w.int]; exact rfl
    case str z =>
      simp only at h
      split at h
      · rename_i hl
        cases h
        rw [w.str]
        exact ⟨by rw [← line_eq]; exact hl, rfl⟩
      · cases h
    case tup xs =>
      cases h
      obtain ⟨p, vs, e1, e2, e3⟩ := w.tup
      rw [e1]
      refine .inr (.inl ⟨vs, e2, ?_⟩)
      have := e3.length
      cases vs <;> cases xs <;> first | rfl | simp at this
    case lst xs =>
      cases h
      obtain ⟨p, vs, e1, e2, e3⟩ := w.lst
      rw [e1]
      refine .inl ⟨vs, .of e2, ?_⟩
      have := e3.length
      cases vs <;> cases xs <;> first | rfl | simp at this

/-! ### isinstance -/
theorem ty_V {K : PySem.W.Frag} {mg : Str → Option Value} {H : Hp} {φ : Ad} {S : Cells} {v : V} {d : D} {t : String} (w : Vw K mg H φ S v d) (h : tyOf d = some t) : TyX K H v (.type t) := by
  cases d <;> try (cases h; done)
  case non => cases h; rw [w.non]; exact .base .non
  case bl => cases h; rw [w.bl]; exact .base (.bl _)
  case int => cases h; rw [w.int]; exact .base (.int _)
  case str => cases h; rw [w.str]; exact .base (.str _)
  case tup =>
    cases h
    cases w with
    | dat w =>
      cases w with
      | tup s r =>
        rcases s with ⟨s | ⟨o, s⟩, _⟩ | ⟨o, its, n, s, c, _⟩
        · exact .base (.tup s)
        · exact .fTuple s
        · exact .kTuple s c
  case lst => cases h; obtain ⟨p, vs, e1, e2, _⟩ := w.lst; rw [e1]; exact .base (.lst e2)
  case dic => cases h; obtain ⟨p, kvs, e1, e2, _⟩ := w.dic; rw [e1]; exact .base (.dK e2)
def isiTys : List String := ["int", "bool", "str", "tuple", "list", "dict"]
theorem kit_all : (["NoneType", "bool", "int", "str", "tuple", "list", "dict"].all fun u => isiTys.all fun t => kitB u t == some (u == t || (u == "bool" && t == "int"))) = true := by decide +kernel
theorem kit_isi {d : D} {u t : String} (h : tyOf d = some u) (ht : isiTys.contains t = true) : kitB u t = some (u == t || (u == "bool" && t == "int")) := by
  have hu : u ∈ ["NoneType", "bool", "int", "str", "tuple", "list", "dict"] := by
    cases d <;> first | (cases h; done) | (cases h; simp; done)
  have ht' : t ∈ isiTys := by simpa using ht
  have := List.all_eq_true.mp (List.all_eq_true.mp kit_all u hu) t ht'
  simpa using this

/-- isinstance(x, t) -/
def rIsiD (K : PySem.W.Frag) (mg : Str → Option Value) (t : String) : List V → Hp → VK → Prop := fun xs H Q => ∃ φ S x a, xs = [x, .ty t] ∧ isiTys.contains t = true ∧ StOk K mg H φ S ∧ Vw K mg H φ S x a ∧ Ans K mg (bR (isiV t a) S) H φ S Q
theorem or_isi (t : String) : CallR X (.builtin "isinstance") (rIsiD X.K X.mg t) := by
  intro pins s σ H xs us Q I r ⟨φ, S, x, a, ex, ht, st, va, h⟩
  obtain ⟨k, e, q⟩ := here_o st h
  unfold isiV at e
  cases hu : tyOf a with
  | none => rw [hu] at e; cases e
  | some u =>
    rw [hu] at e
    cases e
    refine call_isi pins s σ H xs us Q I r ⟨x, .ty t, .type u, .type t, _, ex, .ty t, ty_V va hu, kit_ty (kit_isi hu ht), q⟩

/-! ### built-ins -/
theorem ints_V {K : PySem.W.Frag} {mg : Str → Option Value} {H : Hp} {M : Addr → Prop} : ∀ {ds : List D} {vs : List V} {is : List Int}, Dats K mg H M vs ds → intsD ds = some is → vs = is.map V.int
  | [], _, _, h, e => by cases h; cases e; rfl
  | d :: ds, _, _, h, e => by
    cases h with
    | cons a b =>
      cases d <;> try (cases e; done)
      case int i =>
        simp only [intsD] at e
        obtain ⟨js, e1, e2⟩ := Option.map_eq_some_iff.mp e
        subst e2
        cases a
        rw [ints_V b e1]
        rfl
theorem strs_V {K : PySem.W.Frag} {mg : Str → Option Value} {H : Hp} {M : Addr → Prop} : ∀ {ds : List D} {vs : List V} {is : List Str}, Dats K mg H M vs ds → strsD ds = some is → vs = is.map V.str
  | [], _, _, h, e => by cases h; cases e; rfl
  | d :: ds, _, _, h, e => by
    cases h with
    | cons a b =>
      cases d <;> try (cases e; done)
      case str i =>
        simp only [strsD] at e
        obtain ⟨js, e1, e2⟩ := Option.map_eq_some_iff.mp e
        subst e2
        cases a
        rw [strs_V b e1]
        rfl
theorem bools_V {K : PySem.W.Frag} {mg : Str → Option Value} {H : Hp} {M : Addr → Prop} : ∀ {ds : List D} {vs : List V} {is : List Bool}, Dats K mg H M vs ds → boolsD ds = some is → vs = is.map V.bl
  | [], _, _, h, e => by cases h; cases e; rfl
  | d :: ds, _, _, h, e => by
    cases h with
    | cons a b =>
      cases d <;> try (cases e; done)
      case bl i =>
        simp only [boolsD] at e
        obtain ⟨js, e1, e2⟩ := Option.map_eq_some_iff.mp e
        subst e2
        cases a
        rw [bools_V b e1]
        rfl
def bltId : Blt → Value
  | .len => .builtin "len" | .tuple => .type "tuple" | .list => .type "list" | .int => .type "int" | .abs => .builtin "abs" | .min2 => .builtin "min" | .max2 => .builtin "max"
  | .max1 => .builtin "max" | .sorted => .builtin "sorted" | .dict => .type "dict"
  | .all => .builtin "all" | .any => .builtin "any" | .sum => .builtin "sum" | .repr => .builtin "repr" | _ => .none
def bltName : Blt → Str
  | .len => "len" | .tuple => "tuple" | .list => "list" | .int => "int" | .abs => "abs" | .min2 => "min" | .max2 => "max"
  | .max1 => "max" | .sorted => "sorted" | .dict => "dict"
  | .all => "all" | .any => "any" | .sum => "sum" | .repr => "repr" | _ => ""
def bltOk : Blt → Bool
  | .len | .tuple | .list | .int | .abs | .min2 | .max2 | .all | .any | .sum | .repr | .max1 | .sorted | .dict => true
  | _ => false
def rBlt (K : PySem.W.Frag) (mg : Str → Option Value) (b : Blt) : List V → Hp → VK → Prop := fun vs H Q => ∃ φ S ds, StOk K mg H φ S ∧ Repl K mg H φ S vs ds ∧ Ans K mg (bltV b ds S) H φ S Q
theorem Repl.one {K : PySem.W.Frag} {mg : Str → Option Value} {H : Hp} {φ : Ad} {S : Cells} {vs : List V} {d : D} (h : Repl K mg H φ S vs [d]) : ∃ v, vs = [v] ∧ Rep K mg H φ S v d := by
  cases h with | cons a b => cases b; exact ⟨_, rfl, a⟩
theorem Repl.two {K : PySem.W.Frag} {mg : Str → Option Value} {H : Hp} {φ : Ad} {S : Cells} {vs : List V} {d e : D} (h : Repl K mg H φ S vs [d, e]) : ∃ v w, vs = [v, w] ∧ Rep K mg H φ S v d ∧ Rep K mg H φ S w e := by
  cases h with | cons a b => obtain ⟨w, e, r⟩ := b.one; subst e; exact ⟨_, _, rfl, a, r⟩
theorem one_ans {K : PySem.W.Frag} {mg : Str → Option Value} {H : Hp} {φ : Ad} {S : Cells} {v : V} {d : D} {f : D → R D} {Q : VK} (st : StOk K mg H φ S) (r : Rep K mg H φ S v d) (h : Ans K mg (one d S f) H φ S Q) : ∃ a, Vw K mg H φ S v a ∧ Ans K mg (f a) H φ S Q := by
  unfold one at h
  cases e : val S d with
  | none => rw [e] at h; exact h.elim
  | some a => rw [e] at h; exact ⟨a, val_vw st r e, h⟩

theorem newD_ans {K : PySem.W.Frag} {mg : Str → Option Value} {H : Hp} {φ : Ad} {S : Cells} {kvs : List (Key × V)} {ks : List Key} {ds : List D} {Q : VK} (st : StOk K mg H φ S) (e : kvs.map (·.1) = ks) (r : Dats K mg H (Mu φ S) (kvs.map (·.2)) ds) (h : Ans K mg (newD ks ds S) H φ S Q)
    {p : Addr} (hp : H p = none) : Q (.ref p) (upd H p (.dK kvs)) := by
  obtain ⟨a, b, c⟩ := lay_dic st hp e r
  exact h _ _ _ a b c
theorem dats_strs {K : PySem.W.Frag} {mg : Str → Option Value} {H : Hp} {M : Addr → Prop} : ∀ ss : List Str, Dats K mg H M (ss.map V.str) (ss.map D.str)
  | [] => .nil
  | s :: ss => .cons (.str s) (dats_strs ss)
theorem dats_ints {K : PySem.W.Frag} {mg : Str → Option Value} {H : Hp} {M : Addr → Prop} : ∀ ss : List Int, Dats K mg H M (ss.map V.int) (ss.map D.int)
  | [] => .nil
  | s :: ss => .cons (.int s) (dats_ints ss)
theorem dkey_V {K : PySem.W.Frag} {mg : Str → Option Value} {H : Hp} {M : Addr → Prop} {x : V} {a : D} {k : Key} (va : Dat K mg H M x a) (h : keyOf a = some k) : x = kV k := by
  cases a <;> try (cases h; done)
  case int i => cases h; cases va; rfl
  case str z => cases h; cases va; rfl
theorem pairs_V {K : PySem.W.Frag} {mg : Str → Option Value} {H : Hp} {M : Addr → Prop} : ∀ {xs : List D} {ws : List V} {pd : List (Key × D)}, Dats K mg H M ws xs → pairsD xs = some pd →
    ∃ (as : List Addr) (ps : List (Key × V)), ws = as.map V.ref ∧ Paired (fun p kv => SqT K H p [kV kv.1, kv.2]) as ps ∧ ps.map (·.1) = pd.map (·.1) ∧ Dats K mg H M (ps.map (·.2)) (pd.map (·.2))
  | [], _, pd, r, h => by cases r; cases h; exact ⟨[], [], rfl, .nil, rfl, .nil⟩
  | x :: xs, _, pd, r, h => by
    cases r with
    | cons a b =>
      unfold pairsD at h
      cases hp : pairD x with
      | none => rw [hp] at h; cases h
      | some p =>
        cases hr : pairsD xs with
        | none => rw [hp, hr] at h; cases h
        | some pr =>
          rw [hp, hr] at h
          cases h
          obtain ⟨as, ps, f1, f2, f3, f4⟩ := pairs_V b hr
          unfold pairD at hp
          split at hp
          · rename_i k d
            obtain ⟨z, hz, e⟩ := Option.map_eq_some_iff.mp hp
            cases e
            cases a with
            | tup s rr =>
              cases rr with
              | cons rk rr =>
                cases rr with
                | cons rd rr =>
                  cases rr
                  have e1 := dkey_V rk hz
                  rw [e1] at s
                  exact ⟨_ :: as, (z, _) :: ps, by rw [f1] <;> rfl, .cons s.sq f2, congrArg (z :: ·) f3, .cons rd f4⟩
          · cases hp
/-- repr of data -/
theorem repr_ok {pins : List (Addr × Obj)} {s : Shared} {σ : L2.St} {H : Hp} {φ : Ad} {S : Cells} {x : V} {v : Value} {a : D} {Q : VK} (hu : X.A.units + 100 < cLine) (I : Inv X pins σ H s) (rx : RelV x v) (va : Vw X.K X.mg H φ S x a) (hr : ∃ p, x = .ref p)
    (da : a.dat = true) (hs : a.py.showable = true) (hg : X.A.guards = some []) (hd : a.dep ≤ 64) (hl : a.py.shown.length ≤ sizeLine) (q : Q (.str a.py.shown) H) : wpAny (model X.prog X.w) X.A (call (.builtin "repr") [v]) (EP X pins σ Q) X.xe s := by
  obtain ⟨as, r1⟩ := Dp.reads I a.py x v (va.dp da) rx
  obtain ⟨p, rfl⟩ := hr
  cases rx
  have nd := PyData.hasDict_of_canLay a.py (lay_py a da)
  exact repr_of_reads' r1 hs (fun z => by rw [nd] at z; cases z) hg (by rw [dep_py]; omega) (fun _ _ e => e) (fun h' u tk k => ⟨.str _, H, I.kept k, ⟨u, rfl⟩, q⟩) hl

theorem or_blt (hc : X.calm = true) (hu : X.A.units + 100 < cLine) (hg : X.A.guards = some []) (b : Blt) (hb : bltOk b = true) : CallR X (bltId b) (rBlt X.K X.mg b) := by
  intro pins s σ H vs us Q I r ⟨φ, S, ds, st, rr, h⟩
  cases b <;> try (cases hb; done)
  case len =>
    match ds, rr, h with
    | [d], rr, h =>
      obtain ⟨v, ev, rv⟩ := rr.one
      obtain ⟨a, va, h⟩ := one_ans st rv h
      cases a <;> try (exact h.elim)
      case lst xs =>
        obtain ⟨p, ws, e1, e2, e3⟩ := va.lst
        exact call_len_seq pins s σ H vs us Q I r ⟨p, ws, by rw [ev, e1], .inl (.of e2), by rw [e3.length]; exact here_i st h⟩
      case tup xs =>
        obtain ⟨p, ws, e1, e2, e3⟩ := va.tup
        exact call_len_seq pins s σ H vs us Q I r ⟨p, ws, by rw [ev, e1], .inr e2, by rw [e3.length]; exact here_i st h⟩
      case str z =>
        obtain ⟨c, h⟩ := need_ans h
        exact call_len_str pins s σ H vs us Q I r ⟨z, by rw [ev, va.str], sl_line c, here_i st h⟩
      case dic ks ds =>
        obtain ⟨p, kvs, e1, e2, e3, _⟩ := va.dic
        exact call_lenD pins s σ H vs us Q I r ⟨p, kvs, by rw [ev, e1], e2, by have := here_i st h; rw [← e3, List.length_map] at this; exact this⟩
    | [], _, h => exact h.elim
    | _ :: _ :: _, _, h => exact h.elim
  case tuple =>
    match ds, rr, h with
    | [d], rr, h =>
      obtain ⟨v, ev, rv⟩ := rr.one
      obtain ⟨a, va, h⟩ := one_ans st rv h
      cases a <;> try (exact h.elim)
      case lst xs =>
        obtain ⟨p, ws, e1, e2, e3⟩ := va.lst
        exact call_tuple_of pins s σ H vs us Q I r ⟨p, ws, by rw [ev, e1], .inl ⟨.of e2, fun l hl => newT_ans st e3 h hl⟩⟩
      case tup xs =>
        obtain ⟨p, ws, e1, e2, e3⟩ := va.tup
        exact call_tuple_of pins s σ H vs us Q I r ⟨p, ws, by rw [ev, e1], .inr ⟨e2, by rw [← e1]; exact h.here st va.rep⟩⟩
    | [], _, h => exact h.elim
    | _ :: _ :: _, _, h => exact h.elim
  case list =>
    match ds, rr, h with
    | [d], rr, h =>
      obtain ⟨v, ev, rv⟩ := rr.one
      obtain ⟨a, va, h⟩ := one_ans st rv h
      cases a <;> try (exact h.elim)
      case lst xs =>
        obtain ⟨p, ws, e1, e2, e3⟩ := va.lst
        exact call_list_of pins s σ H vs us Q I r ⟨p, ws, by rw [ev, e1], .inl (.of e2), fun l hl => newL_ans st e3 h hl⟩
      case tup xs =>
        obtain ⟨p, ws, e1, e2, e3⟩ := va.tup
        exact call_list_of pins s σ H vs us Q I r ⟨p, ws, by rw [ev, e1], .inr e2, fun l hl => newL_ans st e3 h hl⟩
    | [], _, h => exact h.elim
    | _ :: _ :: _, _, h => exact h.elim
  case int =>
    match ds, rr, h with
    | [d], rr, h =>
      obtain ⟨v, ev, rv⟩ := rr.one
      cases d <;> try (exact h.elim)
      case int i => exact call_int1 pins s σ H vs us Q I r (.inl ⟨i, by rw [ev, rep_int rv], here_i st h⟩)
      case bl k => exact call_int1 pins s σ H vs us Q I r (.inr ⟨k, by rw [ev, rep_bl rv], here_i st h⟩)
    | [], _, h => exact h.elim
    | d :: _ :: _, _, h => cases d <;> exact h.elim
  case abs =>
    match ds, rr, h with
    | [d], rr, h =>
      obtain ⟨v, ev, rv⟩ := rr.one
      cases d <;> try (exact h.elim)
      case int i => exact call_abs pins s σ H vs us Q I r ⟨i, by rw [ev, rep_int rv], here_i st h⟩
    | [], _, h => exact h.elim
    | d :: _ :: _, _, h => cases d <;> exact h.elim
  case min2 =>
    match ds, rr, h with
    | [d, e], rr, h =>
      obtain ⟨v, w, ev, rv, rw_⟩ := rr.two
      cases d <;> try (exact h.elim)
      case int i =>
        cases e <;> try (exact h.elim)
        case int j => exact call_min2 hc pins s σ H vs us Q I r ⟨i, j, by rw [ev, rep_int rv, rep_int rw_], here_i st h⟩
    | [], _, h => exact h.elim
    | [d], _, h => cases d <;> exact h.elim
    | d :: e :: _ :: _, _, h => cases d <;> cases e <;> exact h.elim
  case max2 =>
    match ds, rr, h with
    | [d, e], rr, h =>
      obtain ⟨v, w, ev, rv, rw_⟩ := rr.two
      cases d <;> try (exact h.elim)
      case int i =>
        cases e <;> try (exact h.elim)
        case int j => exact call_max2 hc pins s σ H vs us Q I r ⟨i, j, by rw [ev, rep_int rv, rep_int rw_], here_i st h⟩
    | [], _, h => exact h.elim
    | [d], _, h => cases d <;> exact h.elim
    | d :: e :: _ :: _, _, h => cases d <;> cases e <;> exact h.elim
  case all =>
    match ds, rr, h with
    | [d], rr, h =>
      obtain ⟨v, ev, rv⟩ := rr.one
      obtain ⟨a, va, h⟩ := one_ans st rv h
      cases a <;> try (exact h.elim)
      case lst xs =>
        obtain ⟨p, ws, e1, e2, e3⟩ := va.lst
        simp only at h
        split at h
        · rename_i bs hbs
          rw [bools_V e3 hbs] at e2
          exact cr_all hc pins s σ H vs us Q I r ⟨p, bs, by rw [ev, e1], .of e2, here_b st h⟩
        · exact h.elim
    | [], _, h => exact h.elim
    | _ :: _ :: _, _, h => exact h.elim
  case any =>
    match ds, rr, h with
    | [d], rr, h =>
      obtain ⟨v, ev, rv⟩ := rr.one
      obtain ⟨a, va, h⟩ := one_ans st rv h
      cases a <;> try (exact h.elim)
      case lst xs =>
        obtain ⟨p, ws, e1, e2, e3⟩ := va.lst
        simp only at h
        split at h
        · rename_i bs hbs
          rw [bools_V e3 hbs] at e2
          exact cr_any hc pins s σ H vs us Q I r ⟨p, bs, by rw [ev, e1], .of e2, here_b st h⟩
        · exact h.elim
    | [], _, h => exact h.elim
    | _ :: _ :: _, _, h => exact h.elim
  case sum =>
    match ds, rr, h with
    | [d], rr, h =>
      obtain ⟨v, ev, rv⟩ := rr.one
      obtain ⟨a, va, h⟩ := one_ans st rv h
      cases a <;> try (exact h.elim)
      case lst xs =>
        obtain ⟨p, ws, e1, e2, e3⟩ := va.lst
        simp only at h
        split at h
        · rename_i bs hbs
          rw [ints_V e3 hbs] at e2
          exact cr_sum hc pins s σ H vs us Q I r ⟨p, bs, by rw [ev, e1], .of e2, here_i st h⟩
        · exact h.elim
    | [], _, h => exact h.elim
    | _ :: _ :: _, _, h => exact h.elim
  case max1 =>
    match ds, rr, h with
    | [d], rr, h =>
      obtain ⟨v, ev, rv⟩ := rr.one
      obtain ⟨a, va, h⟩ := one_ans st rv h
      cases a <;> try (exact h.elim)
      case lst xs =>
        obtain ⟨p, ws, e1, e2, e3⟩ := va.lst
        simp only at h
        split at h
        · rename_i is his
          rw [ints_V e3 his] at e2
          obtain ⟨c, h⟩ := need_ans h
          refine cr_max hc pins s σ H vs us Q I r ⟨p, is, by rw [ev, e1], .of e2, ?_, fun m h1 h2 => ?_⟩
          · cases is with
            | nil => cases c
            | cons _ _ => simp
          · rw [maxD_eq (d := 0) h1 h2]; exact here_i st h
        · exact h.elim
    | [], _, h => exact h.elim
    | _ :: _ :: _, _, h => exact h.elim
  case sorted =>
    match ds, rr, h with
    | [d], rr, h =>
      obtain ⟨v, ev, rv⟩ := rr.one
      obtain ⟨a, va, h⟩ := one_ans st rv h
      cases a <;> try (exact h.elim)
      case lst xs =>
        obtain ⟨p, ws, e1, e2, e3⟩ := va.lst
        simp only at h
        split at h
        · rename_i ss hss
          rw [strs_V e3 hss] at e2
          refine cr_sortS pins s σ H vs us Q I r ⟨p, ss, by rw [ev, e1], .of e2, fun ys q h1 h2 hq => ?_⟩
          rw [sortS_eq h1 h2]
          exact newL_ans st (dats_strs _) h hq
        · split at h
          · rename_i is his
            rw [ints_V e3 his] at e2
            refine cr_sortedI pins s σ H vs us Q I r ⟨p, is, by rw [ev, e1], .of e2, fun ys q h1 h2 hq => ?_⟩
            rw [sortI_eq h1 h2]
            exact newL_ans st (dats_ints _) h hq
          · exact h.elim
    | [], _, h => exact h.elim
    | _ :: _ :: _, _, h => exact h.elim
  case dict =>
    match ds, rr, h with
    | [d], rr, h =>
      obtain ⟨v, ev, rv⟩ := rr.one
      obtain ⟨a, va, h⟩ := one_ans st rv h
      cases a <;> try (exact h.elim)
      case dic ks ds =>
        obtain ⟨p, kvs, e1, e2, e3, e4⟩ := va.dic
        rw [ev, e1] at r
        rw [Vals.ref1 r]
        exact d_copyOf I (.inl e2) fun q s' hq I' => ⟨.ref q, _, I', rfl, newD_ans st e3 e4 h hq⟩
      case lst xs =>
        obtain ⟨p, ws, e1, e2, e3⟩ := va.lst
        simp only at h
        split at h
        · rename_i pd hpd
          obtain ⟨as, ps, f1, f2, f3, f4⟩ := pairs_V e3 hpd
          obtain ⟨h1, h2⟩ := dputs_V (kvs := []) (ks := []) (ds := []) f3 f4 rfl .nil
          subst f1
          exact call_dictP hc pins s σ H vs us Q I r ⟨p, as, ps, by rw [ev, e1], .of e2, f2, fun q hq => newD_ans st h1 h2 h hq⟩
        · exact h.elim
    | [], _, h => exact h.elim
    | _ :: _ :: _, _, h => exact h.elim
  case repr =>
    match ds, rr, h with
    | [d], rr, h =>
      obtain ⟨v, ev, rv⟩ := rr.one
      obtain ⟨a, va, h⟩ := one_ans st rv h
      split at h
      · rename_i xs hxs
        obtain ⟨c, h⟩ := need_ans h
        unfold D.rp at c
        simp only [Bool.and_eq_true, decide_eq_true_eq] at c
        obtain ⟨p, ws, e1, _⟩ := va.seq hxs
        rw [ev] at r
        obtain ⟨u, rfl, ru⟩ := vals1 r
        exact repr_ok hu I ru va ⟨p, e1⟩ c.1.1.1 c.1.1.2 hg c.1.2 (by rw [← line_eq]; exact c.2) (here_s st h)
      · exact h.elim
    | [], _, h => exact h.elim
    | _ :: _ :: _, _, h => exact h.elim
end
end VS

/-! VS, part G: expressions: from the interpreter's answer to the layer's judgement. -/
namespace VS
open PySem PySem.Spec L2 PyProof.Rows

/-- a def keeps a promise, wherever it is called with room and no guard -/
structure FnG (P : Program) (w : World) (K : PySem.W.Frag) (mg : Str → Option Value) (base : Heap) (k : Nat) (f : Addr) (fd : FuncData) (ps : List Str) (sp : List V → Hp → VK → Prop) : Prop where
  len : ∀ vs H Q, sp vs H Q → vs.length = ps.length
  run : ∀ (A : Around) (outer : List PySem.Env) (s : Shared) (H : Hp) (args : Args) (us : List Value) (vs : List V) (Q : VK), Room k A → A.guards = some [] →
    Env0 P w K mg base A outer s H → BindsTo s fd args (ps.zip us) → Vals vs us → sp vs H Q →
    codeAny (model P w) A (.call (.ref f) args) (CR CX0 outer P w H s Q E0) s

/-- what a call of f by the interpreter promises -/
def spF (K : PySem.W.Frag) (mg : Str → Option Value) (Φ : CallF) (f : Str) (n : Nat) : List V → Hp → VK → Prop := fun vs H Q => vs.length = n ∧ ∃ φ S ds, StOk K mg H φ S ∧ Repl K mg H φ S vs ds ∧ Ans K mg (Φ f ds S) H φ S Q

/-- a global def that may be called -/
structure CallOk (P : Program) (w : World) (K : PySem.W.Frag) (mg : Str → Option Value) (base : Heap) (k : Nat) (Φ : CallF) (f : Str) : Prop where
  to : ∃ (a : Addr) (fd : FuncData) (ps : List Str), mg f = some (.ref a) ∧ PySem.W.keepIn K (.ref a) = true ∧ Binds K fd ps [] ∧ (∀ ds S, ds.length ≠ ps.length → Φ f ds S = .stuck) ∧ FnG P w K mg base k a fd ps (spF K mg Φ f ps.length)

/-- where one stands -/
structure GX (X : Cx) (k : Nat) (Φ : CallF) (fs bs : List Str) : Prop where
  calm : X.calm = true
  nd : X.N.Nodup
  room : Room k X.A
  guards : X.A.guards = some []
  calls : ∀ f ∈ fs, CallOk X.prog X.w X.K X.mg X.base k Φ f
  blts : ∀ x ∈ bs, X.mg x = none
theorem GX.hu {X : Cx} {k : Nat} {Φ : CallF} {fs bs : List Str} (g : GX X k Φ fs bs) : X.A.units + 100 < cLine := by have := g.room.un; omega

theorem _root_.L2.PE.imp {X : Cx} {e : Expr} {t t' : TE} (h : PE X e t) (i : ∀ σ H Q, t' σ H Q → t σ H Q) : PE X e t' := ⟨fun pins s σ H Q I q => h.run pins s σ H Q I (i σ H Q q)⟩
theorem _root_.L2.PA.imp {X : Cx} {e : List Expr} {t t' : TA} (h : PA X e t) (i : ∀ σ H Q, t' σ H Q → t σ H Q) : PA X e t' := ⟨fun pos pins s σ H Q I q => h.run pos pins s σ H Q I (i σ H Q q)⟩
theorem _root_.L2.PT.imp {X : Cx} {e : Expr} {t t' : TT} (h : PT X e t) (i : ∀ σ H Q, t' σ H Q → t σ H Q) : PT X e t' := ⟨fun pins s σ H Q I q => h.run pins s σ H Q I (i σ H Q q)⟩
theorem _root_.L2.PE.to {X : Cx} {e : Expr} {f g : Env → Cells → R D} (h : PE X e (TEv X.K X.mg f)) (e1 : ∀ ρ S, g ρ S = f ρ S) : PE X e (TEv X.K X.mg g) := by
  have : g = f := by funext ρ S; exact e1 ρ S
  rw [this]; exact h

section
variable {K : PySem.W.Frag} {mg : Str → Option Value} {H : Hp} {φ : Ad} {S : Cells} {σ : L2.St} {ρ : Env}
/-- two in a row -/
theorem tev2 {fa fb : Env → Cells → R D} {g : D → D → Cells → R D} {Q : VK} (h : TEv K mg (fun ρ S => (fa ρ S).bind fun x S => (fb ρ S).bind fun y S => g x y S) σ H Q) :
    TEv K mg fa σ H fun x H1 => TEv K mg fb σ H1 fun y H2 => ∃ φ S a b, StOk K mg H2 φ S ∧ Rep K mg H2 φ S x a ∧ Rep K mg H2 φ S y b ∧ Ans K mg (g a b S) H2 φ S Q := by
  obtain ⟨φ, ρ, S, st, re, a⟩ := h
  refine ⟨φ, ρ, S, st, re, (Ans.step a).mono fun v H1 ⟨φ1, S1, d, st1, r1, k1, a1⟩ => ?_⟩
  refine ⟨φ1, ρ, S1, st1, re.keep k1, (Ans.step a1).mono fun u H2 ⟨φ2, S2, e, st2, r2, k2, a2⟩ => ?_⟩
  exact ⟨φ2, S2, d, e, st2, r1.keep k2, r2, a2⟩
theorem both_ans {x y : V} {a b : D} {f : D → D → R D} {Q : VK} (st : StOk K mg H φ S) (r1 : Rep K mg H φ S x a) (r2 : Rep K mg H φ S y b) (h : Ans K mg (both a b S f) H φ S Q) :
    ∃ a' b', Vw K mg H φ S x a' ∧ Vw K mg H φ S y b' ∧ Ans K mg (f a' b') H φ S Q := by
  unfold both at h
  cases e1 : val S a with
  | none => rw [e1] at h; exact h.elim
  | some a' =>
    cases e2 : val S b with
    | none => rw [e1, e2] at h; exact h.elim
    | some b' => rw [e1, e2] at h; exact ⟨a', b', val_vw st r1 e1, val_vw st r2 e2, h⟩
theorem truth_ans {x : V} {a : D} {f : Bool → R D} {Q : VK} (st : StOk K mg H φ S) (r : Rep K mg H φ S x a) (h : Ans K mg (truthR a S f) H φ S Q) : ∃ t, TruV K x H t ∧ Ans K mg (f t) H φ S Q := by
  unfold truthR at h
  cases e : truth S a with
  | none => rw [e] at h; exact h.elim
  | some t => rw [e] at h; exact ⟨t, tru_V st r e, h⟩
end

section
variable {X : Cx} {k : Nat} {Φ : CallF} {fs bs : List Str} {pos : Pos}
/-! ### names, constants -/
theorem se_var (g : GX X k Φ fs bs) {i : Nat} {x : Str} (hN : X.N[i]? = some x) (hv : Vis X.env.scope x) (hd : (x == ("__debug__" : Str)) = false) (hcd : (x == ("__classdict__" : Str)) = false) : PE X (.Name x pos) (TEv X.K X.mg fun ρ S => look ρ i S) :=
  (pe_var hN hv hd hcd).imp fun σ H Q ⟨φ, ρ, S, st, re, a⟩ => by
    have a : Ans X.K X.mg (look ρ i S) H φ S Q := a
    unfold look at a
    split at a
    · rename_i d hd
      obtain ⟨v, e, r⟩ := re.at_ i d hd
      exact ⟨v, e, a.here st r⟩
    · exact a.elim
theorem se_k {e : Expr} {v : V} {d : D} (h : PE X e (tC v)) (r : ∀ H φ S, Rep X.K X.mg H φ S v d) : PE X e (TEv X.K X.mg fun _ S => .ok d S) :=
  h.imp fun σ H Q ⟨φ, ρ, S, st, re, a⟩ => a.here st (r H φ S)
theorem se_g (g : GX X k Φ fs bs) {x : Str} (hx : x ∈ fs) (hg : Gl X x) (hd : (x == ("__debug__" : Str)) = false) : PE X (.Name x pos) (TEv X.K X.mg fun _ S => .ok (.glo x) S) := by
  obtain ⟨a, fd, ps, hm, _⟩ := (g.calls x hx).to
  exact se_k (pe_glob hg hm (v := .ref a) rfl hd) fun H φ S => .dat (.glo hm)

/-! ### argument lists, displays -/
theorem sa_nil : PA X [] (TAv X.K X.mg fun _ S => .ok [] S) := pa_nil.imp fun σ H Q ⟨φ, ρ, S, st, re, a⟩ => a [] H φ st .nil (Keep.refl _ _ _)
theorem sa_cons {e : Expr} {es : List Expr} {fa : Env → Cells → R D} {fb : Env → Cells → R (List D)} (ha : PE X e (TEv X.K X.mg fa)) (hb : PA X es (TAv X.K X.mg fb))
    (hs : starEach (e :: es) X.env = (false, eval e X.env) :: starEach es X.env) : PA X (e :: es) (TAv X.K X.mg fun ρ S => (fa ρ S).bind fun d S => (fb ρ S).bind fun ds S => .ok (d :: ds) S) :=
  (pa_cons ha hb hs).imp fun σ H Q ⟨φ, ρ, S, st, re, a⟩ => by
    refine ⟨φ, ρ, S, st, re, (Ans.steps a).mono fun v H1 ⟨φ1, S1, d, st1, r1, k1, a1⟩ => ?_⟩
    refine ⟨φ1, ρ, S1, st1, re.keep k1, ?_⟩
    show Anss _ _ (fb ρ S1) H1 φ1 S1 _
    cases e : fb ρ S1 with
    | ok ds S2 =>
      rw [e] at a1
      exact fun vs H2 φ2 st2 r2 k2 => a1 (v :: vs) H2 φ2 st2 (.cons (r1.keep k2) r2) k2
    | exn x S2 => rw [e] at a1; exact a1
    | stuck => rw [e] at a1; exact a1
/-- items made part of a display -/
theorem disp_ans {K : PySem.W.Frag} {mg : Str → Option Value} {H : Hp} {φ : Ad} {S : Cells} {vs : List V} {ds : List D} {g : List D → Cells → R D} {Q : VK} (st : StOk K mg H φ S) (r : Repl K mg H φ S vs ds)
    (h : Ans K mg ((frzs ds S).bind fun ds S => .need (decide (ds.length ≤ line)) (g ds S)) H φ S Q) :
    ∃ S' es, StOk K mg H φ S' ∧ Dats K mg H (Mu φ S') vs es ∧ vs.length ≤ sizeLine ∧ Ans K mg (g es S') H φ S' Q := by
  cases e : frzs ds S with
  | ok es S' =>
    rw [e] at h
    obtain ⟨st', q, k⟩ := frzs_ok st r e
    have h2 : Ans K mg (.need (decide (es.length ≤ line)) (g es S')) H φ S' Q := Ans.later k h
    obtain ⟨c, h3⟩ := need_ans h2
    exact ⟨S', es, st', q, by rw [q.length]; exact sl_line c, h3⟩
  | exn x S' => rw [e] at h; exact h.elim
  | stuck => rw [e] at h; exact h.elim
theorem se_tup {es : List Expr} {x1 : Nat} {f : Env → Cells → R (List D)} (h : PA X es (TAv X.K X.mg f)) :
    PE X (.Tuple es x1 pos) (TEv X.K X.mg fun ρ S => norm S.length ((f ρ S).bind fun ds S => (frzs ds S).bind fun ds S => .need (decide (ds.length ≤ line)) (.ok (.tup ds) S))) :=
  (pe_tup h).imp fun σ H Q hh => by
    obtain ⟨φ, ρ, S, st, re, a⟩ := TEv.norm hh
    refine ⟨φ, ρ, S, st, re, ?_⟩
    have a' := Anss.step a
    revert a'
    show Anss _ _ (f ρ S) H φ S _ → Anss _ _ (f ρ S) H φ S _
    cases f ρ S with
    | ok ds S1 =>
      intro a' vs H1 φ1 st1 r1 k1
      obtain ⟨φ2, S2, ds2, st2, r2, k2, a2⟩ := a' vs H1 φ1 st1 r1 k1
      obtain ⟨S', es', st3, q3, l3, a3⟩ := disp_ans st2 r2 a2
      exact ⟨l3, fun p hp => newT_ans st3 q3 a3 hp⟩
    | exn x S1 => exact fun a' => a'
    | stuck => exact fun a' => a'
theorem se_lst {es : List Expr} {f : Env → Cells → R (List D)} (h : PA X es (TAv X.K X.mg f)) :
    PE X (.List es pos) (TEv X.K X.mg fun ρ S => norm S.length ((f ρ S).bind fun ds S => (frzs ds S).bind fun ds S => .need (decide (ds.length ≤ line)) (newL ds S))) :=
  (pe_lst h).imp fun σ H Q hh => by
    obtain ⟨φ, ρ, S, st, re, a⟩ := TEv.norm hh
    refine ⟨φ, ρ, S, st, re, ?_⟩
    have a' := Anss.step a
    revert a'
    show Anss _ _ (f ρ S) H φ S _ → Anss _ _ (f ρ S) H φ S _
    cases f ρ S with
    | ok ds S1 =>
      intro a' vs H1 φ1 st1 r1 k1
      obtain ⟨φ2, S2, ds2, st2, r2, k2, a2⟩ := a' vs H1 φ1 st1 r1 k1
      obtain ⟨S', es', st3, q3, l3, a3⟩ := disp_ans st2 r2 a2
      exact ⟨l3, fun p hp => newL_ans st3 q3 a3 hp⟩
    | exn x S1 => exact fun a' => a'
    | stuck => exact fun a' => a'

/-! ### operators -/
theorem se_bin {a b : Expr} {fa fb : Env → Cells → R D} (op : Bop) (ha : PE X a (TEv X.K X.mg fa)) (hb : PE X b (TEv X.K X.mg fb)) :
    PE X (.BinOp a (opOf op) b pos) (TEv X.K X.mg fun ρ S => norm S.length ((fa ρ S).bind fun x S => (fb ρ S).bind fun y S => both x y S fun x y => binV op x y S)) :=
  (pe_op (or_bin op) ha hb).imp fun σ H Q hh => by
    obtain ⟨φ, ρ, S, st, re, q⟩ := tev2 (TEv.norm hh)
    refine ⟨φ, ρ, S, st, re, q.mono fun x H1 ⟨φ1, ρ1, S1, st1, re1, q1⟩ => ⟨φ1, ρ1, S1, st1, re1, q1.mono fun y H2 ⟨φ2, S2, a, b, st2, r1, r2, q2⟩ => ?_⟩⟩
    obtain ⟨a', b', va, vb, q3⟩ := both_ans st2 r1 r2 q2
    exact ⟨φ2, S2, a', b', st2, va, vb, q3⟩
theorem se_cmp (g : GX X k Φ fs bs) {a b : Expr} {fa fb : Env → Cells → R D} (op : Cop) (ha : PE X a (TEv X.K X.mg fa)) (hb : PE X b (TEv X.K X.mg fb)) (hm : behindInMarks (cOf op) b = false) :
    PE X (.Compare a [cOf op] [b] pos) (TEv X.K X.mg fun ρ S => norm S.length ((fa ρ S).bind fun x S => (fb ρ S).bind fun y S => both x y S fun x y => bR (cmpV op x y) S)) :=
  (pe_cmpR (or_cmp g.hu op) ha hb hm).imp fun σ H Q hh => by
    obtain ⟨φ, ρ, S, st, re, q⟩ := tev2 (TEv.norm hh)
    refine ⟨φ, ρ, S, st, re, q.mono fun x H1 ⟨φ1, ρ1, S1, st1, re1, q1⟩ => ⟨φ1, ρ1, S1, st1, re1, q1.mono fun y H2 ⟨φ2, S2, a, b, st2, r1, r2, q2⟩ => ?_⟩⟩
    obtain ⟨a', b', va, vb, q3⟩ := both_ans st2 r1 r2 q2
    exact ⟨φ2, S2, a', b', st2, va, vb, q3⟩
theorem se_ix (g : GX X k Φ fs bs) {a b : Expr} {fa fb : Env → Cells → R D} (ha : PE X a (TEv X.K X.mg fa)) (hb : PE X b (TEv X.K X.mg fb)) (hs : PlainIx b) :
    PE X (.Subscript a b pos) (TEv X.K X.mg fun ρ S => norm S.length ((fa ρ S).bind fun x S => (fb ρ S).bind fun y S => both x y S fun x y => ixV x y S)) :=
  (pe_ix (or_ix g.hu) ha hb hs).imp fun σ H Q hh => by
    obtain ⟨φ, ρ, S, st, re, q⟩ := tev2 (TEv.norm hh)
    refine ⟨φ, ρ, S, st, re, q.mono fun x H1 ⟨φ1, ρ1, S1, st1, re1, q1⟩ => ⟨φ1, ρ1, S1, st1, re1, q1.mono fun y H2 ⟨φ2, S2, a, b, st2, r1, r2, q2⟩ => ?_⟩⟩
    obtain ⟨a', b', va, vb, q3⟩ := both_ans st2 r1 r2 q2
    exact ⟨φ2, S2, a', b', st2, va, vb, q3⟩
theorem se_neg {a : Expr} {fa : Env → Cells → R D} (ha : PE X a (TEv X.K X.mg fa)) : PE X (.UnaryOp .USub a pos) (TEv X.K X.mg fun ρ S => (fa ρ S).bind fun x S => match x with | .int i => .ok (.int (-i)) S | _ => .stuck) :=
  (pe_un un_neg ha).imp fun σ H Q ⟨φ, ρ, S, st, re, q⟩ => by
    refine ⟨φ, ρ, S, st, re, (Ans.step q).mono fun x H1 ⟨φ1, S1, d, st1, r1, k1, q1⟩ => ?_⟩
    cases d <;> try (exact q1.elim)
    case int i => exact ⟨i, rep_int r1, here_i st1 q1⟩

/-! ### and, or, not, if -/
theorem drop_keep {K : PySem.W.Frag} {mg : Str → Option Value} {H H' : Hp} {φ φ' : Ad} {S S' : Cells} (st : StOk K mg H φ S) (st' : StOk K mg H' φ' S') (k : Keep H φ S H' φ' S') : StOk K mg H' (φ'.take S.length) (S'.take S.length) ∧ Keep H φ S H' (φ'.take S.length) (S'.take S.length) ∧ (∀ a, Mu (φ'.take S.length) (S'.take S.length) a → Mu φ' S' a) :=
  ⟨st'.take _, k.take (by rw [st.len]), fun _ m => m.take⟩
theorem se_and {a b : Expr} {rest : List Expr} {p : Pos} {fa fb : Env → Cells → R D} (ha : PE X a (TEv X.K X.mg fa)) (hb : PE X (.BoolOp .And (b :: rest) p) (TEv X.K X.mg fb)) :
    PE X (.BoolOp .And (a :: b :: rest) p) (TEv X.K X.mg fun ρ S => (fa ρ S).bind fun x S1 => truthR x S1 fun t => if t then fb ρ (S1.take S.length) else norm S.length (.ok x S1)) :=
  (pe_andT ha hb).imp fun σ H Q ⟨φ, ρ, S, st, re, q⟩ => by
    refine ⟨φ, ρ, S, st, re, ?_⟩
    dsimp only at q
    cases e : fa ρ S with
    | exn x S1 => rw [e] at q; exact q
    | stuck => rw [e] at q; exact q
    | ok d S1 =>
      rw [e] at q
      simp only [R.bind] at q
      unfold truthR at q
      cases et : truth S1 d with
      | none => rw [et] at q; exact q.elim
      | some t =>
        rw [et] at q
        simp only at q
        intro x H1 φ1 st1 r1 k1
        refine ⟨t, tru_V st1 r1 et, ?_⟩
        cases t with
        | true =>
          rw [if_pos rfl] at q ⊢
          obtain ⟨s2, k2, m2⟩ := drop_keep st st1 k1
          exact ⟨_, ρ, _, s2, re.keep k2, Ans.later k2 q⟩
        | false =>
          rw [if_neg Bool.false_ne_true] at q ⊢
          exact Ans.norm st q x H1 φ1 st1 r1 k1
theorem se_or {a b : Expr} {rest : List Expr} {p : Pos} {fa fb : Env → Cells → R D} (ha : PE X a (TEv X.K X.mg fa)) (hb : PE X (.BoolOp .Or (b :: rest) p) (TEv X.K X.mg fb)) :
    PE X (.BoolOp .Or (a :: b :: rest) p) (TEv X.K X.mg fun ρ S => (fa ρ S).bind fun x S1 => truthR x S1 fun t => if t then norm S.length (.ok x S1) else fb ρ (S1.take S.length)) :=
  (pe_orT ha hb).imp fun σ H Q ⟨φ, ρ, S, st, re, q⟩ => by
    refine ⟨φ, ρ, S, st, re, ?_⟩
    dsimp only at q
    cases e : fa ρ S with
    | exn x S1 => rw [e] at q; exact q
    | stuck => rw [e] at q; exact q
    | ok d S1 =>
      rw [e] at q
      simp only [R.bind] at q
      unfold truthR at q
      cases et : truth S1 d with
      | none => rw [et] at q; exact q.elim
      | some t =>
        rw [et] at q
        simp only at q
        intro x H1 φ1 st1 r1 k1
        refine ⟨t, tru_V st1 r1 et, ?_⟩
        cases t with
        | false =>
          rw [if_neg Bool.false_ne_true] at q ⊢
          obtain ⟨s2, k2, m2⟩ := drop_keep st st1 k1
          exact ⟨_, ρ, _, s2, re.keep k2, Ans.later k2 q⟩
        | true =>
          rw [if_pos rfl] at q ⊢
          exact Ans.norm st q x H1 φ1 st1 r1 k1
theorem se_not {a : Expr} {fa : Env → Cells → R D} (ha : PE X a (TEv X.K X.mg fa)) : PE X (.UnaryOp .Not a pos) (TEv X.K X.mg fun ρ S => norm S.length ((fa ρ S).bind fun x S => truthR x S fun t => .ok (.bl (!t)) S)) :=
  (pe_notT ha).imp fun σ H Q hh => by
    obtain ⟨φ, ρ, S, st, re, q⟩ := TEv.norm hh
    refine ⟨φ, ρ, S, st, re, (Ans.step q).mono fun x H1 ⟨φ1, S1, d, st1, r1, k1, q1⟩ => ?_⟩
    obtain ⟨t, tv, q2⟩ := truth_ans st1 r1 q1
    exact ⟨t, tv, here_b st1 q2⟩

/-- a test, by its value's truth -/
def TTv (K : PySem.W.Frag) (mg : Str → Option Value) (f : Env → Cells → R D) : TT := fun σ H Q => ∃ φ ρ S, StOk K mg H φ S ∧ REnv K mg H φ S σ ρ ∧ Ans K mg (norm S.length ((f ρ S).bind fun x S => truthR x S fun t => .ok (.bl t) S)) H φ S (fun v H' => ∃ b, v = .bl b ∧ Q b H')
theorem ttv_step {K : PySem.W.Frag} {mg : Str → Option Value} {σ : L2.St} {H : Hp} {f : Env → Cells → R D} {Q : Bool → Hp → Prop} (h : TTv K mg f σ H Q) : TEv K mg f σ H fun x H1 => ∃ t, TruV K x H1 t ∧ Q t H1 := by
  obtain ⟨φ, ρ, S, st, re, q⟩ := h
  refine ⟨φ, ρ, S, st, re, (Ans.step (Ans.norm st q)).mono fun x H1 ⟨φ1, S1, d, st1, r1, k1, q1⟩ => ?_⟩
  obtain ⟨t, tv, q2⟩ := truth_ans st1 r1 q1
  obtain ⟨b, e, q3⟩ := here_b st1 q2
  cases e
  exact ⟨t, tv, q3⟩
theorem st_truth {a : Expr} {fa : Env → Cells → R D} (ha : PE X a (TEv X.K X.mg fa)) (he : ∀ whole, isTrue a X.env whole = (do let v ← whole; standAt a.pos; holding [v] (truthy v))) : PT X a (TTv X.K X.mg fa) :=
  (pt_truth ha he).imp fun σ H Q h => by
    obtain ⟨φ, ρ, S, st, re, q⟩ := ttv_step h
    exact ⟨φ, ρ, S, st, re, q⟩
theorem se_ite {c a b : Expr} {ft fa fb : Env → Cells → R D} (hc : PT X c (TTv X.K X.mg ft)) (ha : PE X a (TEv X.K X.mg fa)) (hb : PE X b (TEv X.K X.mg fb)) :
    PE X (.IfExp c a b pos) (TEv X.K X.mg fun ρ S => (norm S.length ((ft ρ S).bind fun x S => truthR x S fun t => .ok (.bl t) S)).bind fun x S => match x with
      | .bl true => fa ρ S
      | .bl false => fb ρ S
      | _ => .stuck) :=
  (pe_ifExp hc ha hb).imp fun σ H Q ⟨φ, ρ, S, st, re, q⟩ => by
    refine ⟨φ, ρ, S, st, re, (Ans.step q).mono fun x H1 ⟨φ1, S1, d, st1, r1, k1, q1⟩ => ?_⟩
    cases d <;> try (exact q1.elim)
    case bl t =>
      refine ⟨t, rep_bl r1, ?_⟩
      cases t with
      | true => exact ⟨φ1, ρ, S1, st1, re.keep k1, q1⟩
      | false => exact ⟨φ1, ρ, S1, st1, re.keep k1, q1⟩

theorem bool_ans {K : PySem.W.Frag} {mg : Str → Option Value} {H : Hp} {φ : Ad} {S : Cells} {o : Option Bool} {Q : Bool → Hp → Prop} (h : Ans K mg (bR o S) H φ S fun x H1 => ∃ t, TruV K x H1 t ∧ Q t H1) :
    Ans K mg (bR o S) H φ S fun x H1 => ∃ t, x = .bl t ∧ Q t H1 := by
  cases o with
  | none => exact h
  | some b =>
    intro v H' φ' st r k
    obtain ⟨t, tv, q⟩ := h v H' φ' st r k
    have e := rep_bl r
    subst e
    have e2 : t = b := tv
    subst e2
    exact ⟨_, rfl, q⟩
theorem st_cmp (g : GX X k Φ fs bs) {a b : Expr} {fa fb : Env → Cells → R D} (op : Cop) (ha : PE X a (TEv X.K X.mg fa)) (hb : PE X b (TEv X.K X.mg fb)) (hm : behindInMarks (cOf op) b = false) :
    PT X (.Compare a [cOf op] [b] pos) (TTv X.K X.mg fun ρ S => norm S.length ((fa ρ S).bind fun x S => (fb ρ S).bind fun y S => both x y S fun x y => bR (cmpV op x y) S)) :=
  (pt_cmpR (or_cmp g.hu op) ha hb hm).imp fun σ H Q h => by
    obtain ⟨φ, ρ, S, st, re, q⟩ := tev2 (TEv.norm (ttv_step h))
    refine ⟨φ, ρ, S, st, re, q.mono fun x H1 ⟨φ1, ρ1, S1, st1, re1, q1⟩ => ⟨φ1, ρ1, S1, st1, re1, q1.mono fun y H2 ⟨φ2, S2, a, b, st2, r1, r2, q2⟩ => ?_⟩⟩
    obtain ⟨a', b', va, vb, q3⟩ := both_ans st2 r1 r2 q2
    exact ⟨φ2, S2, a', b', st2, va, vb, bool_ans q3⟩
/-- a test evaluated -/
theorem ttv_of {K : PySem.W.Frag} {mg : Str → Option Value} {σ : L2.St} {H : Hp} {f : Env → Cells → R D} {Q : Bool → Hp → Prop} (h : TEv K mg f σ H fun x H1 => ∃ t, TruV K x H1 t ∧ Q t H1) : True := trivial
theorem st_not {a : Expr} {fa : Env → Cells → R D} (ha : PT X a (TTv X.K X.mg fa)) : PT X (.UnaryOp .Not a pos) (TTv X.K X.mg fun ρ S => norm S.length ((fa ρ S).bind fun x S => truthR x S fun t => .ok (.bl (!t)) S)) :=
  (pt_not ha).imp fun σ H Q ⟨φ, ρ, S, st, re, q⟩ => by
    refine ⟨φ, ρ, S, st, re, ?_⟩
    have key : ∀ (r : R D), Ans X.K X.mg (norm S.length ((norm S.length (r.bind fun x S => truthR x S fun t => .ok (.bl (!t)) S)).bind fun x S => truthR x S fun t => .ok (.bl t) S)) H φ S (fun v H' => ∃ b, v = .bl b ∧ Q b H') →
        Ans X.K X.mg (norm S.length (r.bind fun x S => truthR x S fun t => .ok (.bl t) S)) H φ S (fun v H' => ∃ b, v = .bl b ∧ Q (!b) H') := by
      intro r h
      cases r with
      | exn x S1 => exact h
      | stuck => exact h
      | ok d S1 =>
        simp only [R.bind] at h ⊢
        unfold truthR at h ⊢
        cases e : truth S1 d with
        | none => rw [e] at h; exact h
        | some t =>
          rw [e] at h
          simp only at h ⊢
          have e1 : norm S.length (.ok (.bl (!t)) S1) = .ok (.bl (!t)) (S1.take S.length) := rfl
          rw [e1] at h
          simp only [R.bind] at h
          have e2 : truth (S1.take S.length) (.bl (!t)) = some (!t) := rfl
          rw [e2] at h
          simp only at h
          have e3 : norm S.length (.ok (.bl (!t)) (S1.take S.length)) = .ok (.bl (!t)) (S1.take S.length) := by
            show R.ok (D.bl (!t)) ((S1.take S.length).take S.length) = _
            rw [List.take_take, Nat.min_self]
          rw [e3] at h
          have e4 : norm S.length (.ok (.bl t) S1) = .ok (.bl t) (S1.take S.length) := rfl
          rw [e4]
          intro v H' φ' st' r' k'
          have ev := rep_bl r'
          subst ev
          obtain ⟨b, eb, q'⟩ := h (.bl (!t)) H' φ' st' (.dat (.bl _)) k'
          cases eb
          exact ⟨t, rfl, q'⟩
    exact key (fa ρ S) q
theorem sw_one {a : Expr} {op : BoolOp} {fa : Env → Cells → R D} (ha : PT X a (TTv X.K X.mg fa)) : PW X (.BoolOp op [a] pos) (TTv X.K X.mg fa) := by
  cases op with
  | And => exact pw_and1 ha
  | Or => exact pw_or1 ha
/-- norm leaves the truth -/
theorem truth_val {S S' : Cells} {d e : D} (h : val S' e = val S d) : truth S' e = truth S d := by
  unfold truth
  rw [h]
theorem truth_norm {n : Nat} {d e : D} {S S' : Cells} (hn : n ≤ S.length) (h : norm n (.ok d S) = .ok e S') : truth S' e = truth S d := by
  refine truth_val ?_
  cases d with
  | ref m =>
    unfold norm at h
    simp only at h
    split at h
    · rename_i hm
      cases h
      show ((S.take n)[m]?).map (·.c) = (S[m]?).map (·.c)
      rw [List.getElem?_take, if_pos hm]
    · split at h
      · rename_i c hc
        cases h
        show ((S.take n ++ [c])[n]?).map (·.c) = (S[m]?).map (·.c)
        have : (S.take n ++ [c])[n]? = some c := by
          have l : (S.take n).length = n := by rw [List.length_take]; omega
          rw [List.getElem?_append_right (by omega), l]; simp
        rw [this, hc]
      · cases h
  | _ => cases h; rfl
theorem keep_len {H H' : Hp} {K : PySem.W.Frag} {mg : Str → Option Value} {φ φ' : Ad} {S S' : Cells} (st : StOk K mg H φ S) (st' : StOk K mg H' φ' S') (k : Keep H φ S H' φ' S') : S.length ≤ S'.length := by
  rw [← st.len, ← st'.len]
  by_cases h : φ.cs.length = 0
  · omega
  · have e : φ.cs[φ.cs.length - 1]? = some φ.cs[φ.cs.length - 1] := by simp
    have := k.pre _ _ e
    have := (List.getElem?_eq_some_iff.mp this).1
    omega
theorem take_len {H H' : Hp} {K : PySem.W.Frag} {mg : Str → Option Value} {φ φ' : Ad} {S S1 : Cells} (st : StOk K mg H φ S) (st' : StOk K mg H' φ' (S1.take S.length)) (k : Keep H φ S H' φ' (S1.take S.length)) : (S1.take S.length).length = S.length ∧ S.length ≤ S1.length := by
  have := keep_len st st' k
  rw [List.length_take] at *
  omega
theorem tst (n : Nat) (d : D) (S1 : Cells) : norm n ((R.ok d S1).bind fun x S => truthR x S fun t => .ok (.bl t) S) = match truth S1 d with | some t => .ok (.bl t) (S1.take n) | none => .stuck := by
  simp only [R.bind]
  unfold truthR
  cases truth S1 d <;> rfl
/-- the test of a, then what hangs on it -/
theorem sw_and {a b : Expr} {rest : List Expr} {p : Pos} {fa fb : Env → Cells → R D} (ha : PT X a (TTv X.K X.mg fa)) (hb : PW X (.BoolOp .And (b :: rest) p) (TTv X.K X.mg fb)) :
    PW X (.BoolOp .And (a :: b :: rest) p) (TTv X.K X.mg fun ρ S => (fa ρ S).bind fun x S1 => truthR x S1 fun t => if t then fb ρ (S1.take S.length) else norm S.length (.ok x S1)) := by
  have h := pw_and ha hb
  refine ⟨fun wh pins s σ H Q I hq => h.run wh pins s σ H Q I ?_⟩
  obtain ⟨φ, ρ, S, st, re, q⟩ := hq
  refine ⟨φ, ρ, S, st, re, ?_⟩
  dsimp only at q
  cases e : fa ρ S with
  | exn x S1 => rw [e] at q; exact q
  | stuck => rw [e] at q; exact q
  | ok d S1 =>
    rw [e] at q
    rw [tst]
    simp only [R.bind] at q
    unfold truthR at q
    cases et : truth S1 d with
    | none => rw [et] at q; exact q
    | some t =>
      rw [et] at q
      simp only at q ⊢
      intro v H' φ' st' r' k'
      have ev := rep_bl r'
      subst ev
      refine ⟨t, rfl, ?_⟩
      obtain ⟨l1, l2⟩ := take_len st st' k'
      cases t with
      | true =>
        rw [if_pos rfl] at q ⊢
        refine ⟨φ', ρ, S1.take S.length, st', re.keep k', ?_⟩
        rw [l1]
        exact Ans.later k' q
      | false =>
        rw [if_neg Bool.false_ne_true] at q ⊢
        cases en : norm S.length (.ok d S1) with
        | exn x S2 => rw [en] at q; exact q.elim
        | stuck => rw [en] at q; exact q.elim
        | ok d2 S2 =>
          rw [en] at q
          simp only at q
          have tn := truth_norm l2 en
          rw [et] at tn
          rw [tn] at q
          simp only at q
          have es : S2.take S.length = S1.take S.length := by
            unfold norm at en
            cases d <;> first
              | (cases en; rw [List.take_take, Nat.min_self])
              | (simp only at en
                 split at en
                 · cases en; rw [List.take_take, Nat.min_self]
                 · split at en
                   · cases en
                     rw [List.take_append_of_le_length (by omega), List.take_take, Nat.min_self]
                   · cases en)
          have q' : Ans X.K X.mg (.ok (.bl false) (S2.take S.length)) H φ S (fun v H' => ∃ b, v = .bl b ∧ Q b H') := q
          rw [es] at q'
          obtain ⟨b, eb, q3⟩ := q' _ H' φ' st' (.dat (.bl false)) k'
          cases eb
          exact q3
theorem sw_or {a b : Expr} {rest : List Expr} {p : Pos} {fa fb : Env → Cells → R D} (ha : PT X a (TTv X.K X.mg fa)) (hb : PW X (.BoolOp .Or (b :: rest) p) (TTv X.K X.mg fb)) :
    PW X (.BoolOp .Or (a :: b :: rest) p) (TTv X.K X.mg fun ρ S => (fa ρ S).bind fun x S1 => truthR x S1 fun t => if t then norm S.length (.ok x S1) else fb ρ (S1.take S.length)) := by
  have h := pw_or ha hb
  refine ⟨fun wh pins s σ H Q I hq => h.run wh pins s σ H Q I ?_⟩
  obtain ⟨φ, ρ, S, st, re, q⟩ := hq
  refine ⟨φ, ρ, S, st, re, ?_⟩
  dsimp only at q
  cases e : fa ρ S with
  | exn x S1 => rw [e] at q; exact q
  | stuck => rw [e] at q; exact q
  | ok d S1 =>
    rw [e] at q
    rw [tst]
    simp only [R.bind] at q
    unfold truthR at q
    cases et : truth S1 d with
    | none => rw [et] at q; exact q
    | some t =>
      rw [et] at q
      simp only at q ⊢
      intro v H' φ' st' r' k'
      have ev := rep_bl r'
      subst ev
      refine ⟨t, rfl, ?_⟩
      obtain ⟨l1, l2⟩ := take_len st st' k'
      cases t with
      | false =>
        rw [if_neg Bool.false_ne_true] at q ⊢
        refine ⟨φ', ρ, S1.take S.length, st', re.keep k', ?_⟩
        rw [l1]
        exact Ans.later k' q
      | true =>
        rw [if_pos rfl] at q ⊢
        cases en : norm S.length (.ok d S1) with
        | exn x S2 => rw [en] at q; exact q.elim
        | stuck => rw [en] at q; exact q.elim
        | ok d2 S2 =>
          rw [en] at q
          simp only at q
          have tn := truth_norm l2 en
          rw [et] at tn
          rw [tn] at q
          simp only at q
          have es : S2.take S.length = S1.take S.length := by
            unfold norm at en
            cases d <;> first
              | (cases en; rw [List.take_take, Nat.min_self])
              | (simp only at en
                 split at en
                 · cases en; rw [List.take_take, Nat.min_self]
                 · split at en
                   · cases en
                     rw [List.take_append_of_le_length (by omega), List.take_take, Nat.min_self]
                   · cases en)
          have q' : Ans X.K X.mg (.ok (.bl true) (S2.take S.length)) H φ S (fun v H' => ∃ b, v = .bl b ∧ Q b H') := q
          rw [es] at q'
          obtain ⟨b, eb, q3⟩ := q' _ H' φ' st' (.dat (.bl true)) k'
          cases eb
          exact q3
end
end VS

/-! VS, part H: calls, slices, isinstance, built-ins, methods. -/
namespace VS
open PySem PySem.Spec L2 PyProof.Rows

section
variable {K : PySem.W.Frag} {mg : Str → Option Value} {H : Hp} {φ : Ad} {S : Cells}
/-- a cell's content changed -/
theorem cell_set0 {m : Nat} {a : Addr} {c0 c1 : D} {o : HO} (st : StOk K mg H φ S) (ha : φ.cs[m]? = some a) (hc : S[m]? = some ⟨.mu, c0⟩) (r : ∀ M', Stay H (Mu φ S) (upd H a o) M' → Ct K mg (upd H a o) M' a c1) :
    StOk K mg (upd H a o) φ (S.set m ⟨.mu, c1⟩) ∧ Keep H φ S (upd H a o) φ (S.set m ⟨.mu, c1⟩) ∧ Stay H (Mu φ S) (upd H a o) (Mu φ (S.set m ⟨.mu, c1⟩)) := by
  have hm : m < S.length := (List.getElem?_eq_some_iff.mp hc).1
  have wa : Wr φ S a := ⟨m, _, ha, hc, rfl⟩
  have pick : ∀ {i : Nat} {c : Cell}, (S.set m ⟨.mu, c1⟩)[i]? = some c → (i = m ∧ c = ⟨.mu, c1⟩) ∨ (i ≠ m ∧ S[i]? = some c) := by
    intro i c h
    by_cases hi : m = i
    · subst hi
      rw [List.getElem?_set_self hm] at h
      cases h
      exact .inl ⟨rfl, rfl⟩
    · rw [List.getElem?_set_ne hi] at h
      exact .inr ⟨Ne.symm hi, h⟩
  have mu : ∀ b, Mu φ (S.set m ⟨.mu, c1⟩) b → Mu φ S b := fun b z => by
    rcases z with ⟨i, c, h1, h2, h3⟩ | z
    · rcases pick h2 with ⟨rfl, _⟩ | ⟨_, q⟩
      · exact .inl ⟨i, _, h1, hc, fun z => nomatch z⟩
      · exact .inl ⟨i, c, h1, q, h3⟩
    · exact .inr z
  have wr : ∀ b, Wr φ (S.set m ⟨.mu, c1⟩) b → Wr φ S b := fun b ⟨i, c, h1, h2, h3⟩ => by
    rcases pick h2 with ⟨rfl, _⟩ | ⟨_, q⟩
    · exact ⟨i, _, h1, hc, rfl⟩
    · exact ⟨i, c, h1, q, h3⟩
  have fr : ∀ b u, H b = some u → ¬ Wr φ S b → upd H a o b = some u := fun b u e n => by
    rw [upd_ne (fun z => n (by rw [z]; exact wa))]; exact e
  have sy : Stay H (Mu φ S) (upd H a o) (Mu φ (S.set m ⟨.mu, c1⟩)) := ⟨fun b u e n => fr b u e fun z => n z.mu, fun b _ z => mu b z⟩
  have th : ∀ b, H b ≠ none → upd H a o b ≠ none := fun b e => by
    by_cases z : b = a
    · subst z; rw [upd_same]; exact fun q => nomatch q
    · rw [upd_ne z]; exact e
  refine ⟨⟨by simp [st.len], st.nd, fun b hb => ⟨(st.ex b hb).1, th b (st.ex b hb).2⟩, fun i b c h1 h2 => ?_⟩, ⟨fun _ _ h => h, rfl, fun b _ z => mu b z, fun b _ z => wr b z, fr, th⟩, sy⟩
  · rcases pick h2 with ⟨rfl, rfl⟩ | ⟨hi, q⟩
    · rw [ha] at h1; cases h1
      exact r _ sy
    · exact (st.at_ i b c h1 q).stay sy fun u e2 => by
        rw [upd_ne (fun z => hi (nd_get st.nd (by rw [← z]; exact h1) ha))]
        exact e2
theorem cell_set {m : Nat} {a : Addr} {ds es : List D} {vs : List V} (st : StOk K mg H φ S) (ha : φ.cs[m]? = some a) (hc : S[m]? = some ⟨.mu, .lst ds⟩) (r : Dats K mg H (Mu φ S) vs es) :
    StOk K mg (upd H a (.lst vs)) φ (S.set m ⟨.mu, .lst es⟩) ∧ Keep H φ S (upd H a (.lst vs)) φ (S.set m ⟨.mu, .lst es⟩) ∧ Stay H (Mu φ S) (upd H a (.lst vs)) (Mu φ (S.set m ⟨.mu, .lst es⟩)) := cell_set0 st ha hc fun M' sy => .lst upd_same (r.stay sy)
theorem cell_setD {m : Nat} {a : Addr} {c0 : D} {ks : List Key} {es : List D} {kvs : List (Key × V)} (st : StOk K mg H φ S) (ha : φ.cs[m]? = some a) (hc : S[m]? = some ⟨.mu, c0⟩) (e : kvs.map (·.1) = ks) (r : Dats K mg H (Mu φ S) (kvs.map (·.2)) es) :
    StOk K mg (upd H a (.dK kvs)) φ (S.set m ⟨.mu, .dic ks es⟩) ∧ Keep H φ S (upd H a (.dK kvs)) φ (S.set m ⟨.mu, .dic ks es⟩) ∧ Stay H (Mu φ S) (upd H a (.dK kvs)) (Mu φ (S.set m ⟨.mu, .dic ks es⟩)) := cell_set0 st ha hc fun M' sy => .dic upd_same e rfl (r.stay sy)
/-- grow, opened -/
theorem grow_ans {d : D} {x : V} {f : List D → R D} {g : List D → List D} {Q : VK} (st : StOk K mg H φ S) (r : Rep K mg H φ S x d) (h : Ans K mg (grow d S f g) H φ S Q) :
    ∃ m a ds vs e, d = .ref m ∧ x = .ref a ∧ φ.cs[m]? = some a ∧ S[m]? = some ⟨.mu, .lst ds⟩ ∧ H a = some (.lst vs) ∧ Dats K mg H (Mu φ S) vs ds ∧ (∃ S', f ds = .ok e S') ∧
      Ans K mg (.ok e (S.set m ⟨.mu, .lst (g ds)⟩)) H φ S Q := by
  unfold grow at h
  cases d <;> try (exact h.elim)
  case ref m =>
    cases r with
    | dat z => cases z
    | @ref a _ z =>
      dsimp only at h
      split at h
      · rename_i xs hc
        cases e : f xs with
        | ok d S' =>
          rw [e] at h
          obtain ⟨vs, e2, e3⟩ := (st.at_ m a _ z hc).list
          exact ⟨m, a, xs, vs, d, rfl, rfl, z, hc, e2, e3, ⟨S', e⟩, h⟩
        | exn y S' => rw [e] at h; exact h.elim
        | stuck => rw [e] at h; exact h.elim
      · exact h.elim
end

section
variable {X : Cx} {k : Nat} {Φ : CallF} {fs bs : List Str} {pos : Pos}
theorem anss_id {K : PySem.W.Frag} {mg : Str → Option Value} {H : Hp} {φ : Ad} {S : Cells} {r : R (List D)} {g : List D → Cells → R D} {Q : VK} {Q' : List V → Hp → Prop} (h : Ans K mg (r.bind g) H φ S Q)
    (i : ∀ vs H1 φ1 S1 ds, StOk K mg H1 φ1 S1 → Repl K mg H1 φ1 S1 vs ds → Keep H φ S H1 φ1 S1 → Ans K mg (g ds S1) H1 φ1 S1 Q → Q' vs H1) : Anss K mg r H φ S Q' := by
  have a := Anss.step h
  cases r with
  | ok ds S1 =>
    intro vs H1 φ1 st r k
    obtain ⟨φ2, S2, ds2, st2, r2, k2, a2⟩ := a vs H1 φ1 st r k
    exact i vs H1 φ2 S2 ds2 st2 r2 k2 a2
  | exn x S1 => exact a
  | stuck => exact a

/-- the def runs -/
theorem run_g {f : Addr} {fd : FuncData} {ps : List Str} {sp : List V → Hp → VK → Prop} {pins : List (Addr × Obj)} {σ : L2.St} {H : Hp} {s : Shared} {Q : VK} {us : List Value} {vs : List V} (g : GX X k Φ fs bs) (F : FnG X.prog X.w X.K X.mg X.base k f fd ps sp)
    (b : Binds X.K fd ps []) (I : Inv X pins σ H s) (r : Vals vs us) (h : sp vs H Q) : wpAny (model X.prog X.w) X.A (call (.ref f) us) (EP X pins σ Q) X.xe s := by
  have el : us.length = ps.length := by rw [← r.length, F.len vs H Q h]
  have bb := b s us I.kIn (by rw [List.append_nil]; exact el)
  rw [List.append_nil] at bb
  refine wpAny_call (codeAny_mono (F.run X.A X.stack s H ⟨us, []⟩ us vs Q g.room g.guards I.env0 bb r h) fun res s' hq => ?_)
  match res, hq with
  | .error e, hq => exact (False.elim hq)
  | .ok (.ret u), hq => exact I.after hq
  | .ok .next, hq => exact False.elim hq
  | .ok .brk, hq => exact False.elim hq
  | .ok .cont, hq => exact False.elim hq
/-- f(e, ..) -/
theorem se_call (g : GX X k Φ fs bs) {x : Str} {p : Pos} {e : Expr} {es : List Expr} {fa : Env → Cells → R (List D)} (hx : x ∈ fs) (hg : Gl X x) (hd : (x == ("__debug__" : Str)) = false) (ha : PA X (e :: es) (TAv X.K X.mg fa))
    (he : starEach (e :: es) X.env = (false, eval e X.env) :: starEach es X.env) (hpl : (backTo pos (starEach es X.env)).any (·.1) = false) :
    PE X (.Call (.Name x p) (e :: es) [] pos) (TEv X.K X.mg fun ρ S => norm S.length ((fa ρ S).bind fun ds S => Φ x ds S)) := by
  obtain ⟨a, fd, ps, hm, hk, hb, har, F⟩ := (g.calls x hx).to
  refine ⟨fun pins s σ H Q I h => ?_⟩
  obtain ⟨φ, ρ, S, st, re, q⟩ := TEv.norm h
  refine wpAny_Call_Name_kw (ld_glob I hg hm ?_ hd)
  refine PySem.W.callWith_K (h₀ := X.base) I.ok.mod.kin hk (thn (ha.run pos pins s σ H (fun vs H1 => ∃ φ1 S1 ds, StOk X.K X.mg H1 φ1 S1 ∧ Repl X.K X.mg H1 φ1 S1 vs ds ∧ Ans X.K X.mg (Φ x ds S1) H1 φ1 S1 Q) I
    ⟨φ, ρ, S, st, re, anss_id q fun vs H1 φ1 S1 ds s1 r1 _ a1 => ⟨φ1, S1, ds, s1, r1, a1⟩⟩) fun us s1 ⟨vs, H1, I1, r1, φ1, S1, ds, st1, rr, a1⟩ => ⟨I1.kIn, ?_⟩) he hpl
  by_cases hl : vs.length = ps.length
  · exact run_g g F hb I1 r1 ⟨hl, φ1, S1, ds, st1, rr, a1⟩
  · rw [har ds S1 (by rw [← rr.length]; exact hl)] at a1
    exact a1.elim

theorem se_call0 (g : GX X k Φ fs bs) {x : Str} {p : Pos} (hx : x ∈ fs) (hg : Gl X x) (hd : (x == ("__debug__" : Str)) = false) :
    PE X (.Call (.Name x p) [] [] pos) (TEv X.K X.mg fun ρ S => norm S.length ((R.ok [] S).bind fun ds S => Φ x ds S)) := by
  obtain ⟨a, fd, ps, hm, hk, hb, har, F⟩ := (g.calls x hx).to
  refine ⟨fun pins s σ H Q I h => ?_⟩
  obtain ⟨φ, ρ, S, st, re, q⟩ := TEv.norm h
  have q : Ans X.K X.mg (Φ x [] S) H φ S Q := q
  refine wpAny_Call_Name_kw (ld_glob I hg hm ?_ hd)
  refine PySem.W.callWith_K0 I.kIn hk ?_
  by_cases hl : ps.length = 0
  · exact run_g (us := []) (vs := []) g F hb I .nil ⟨hl.symm, φ, S, [], st, .nil, q⟩
  · rw [har [] S (fun z => hl z.symm)] at q
    exact q.elim
/-- f(e, ..), f a local name that holds a def -/
theorem se_callv (g : GX X k Φ fs bs) {x : Str} {p : Pos} {e : Expr} {es : List Expr} {fv : Env → Cells → R D} {fa : Env → Cells → R (List D)} (hv : PE X (.Name x p) (TEv X.K X.mg fv)) (hin : ∀ ρ S y S', fv ρ S = .ok (.glo y) S' → True)
    (hfs : ∀ y a, X.mg y = some (.ref a) → y ∈ fs ∨ ∀ ds S, Φ y ds S = .stuck) (ha : PA X (e :: es) (TAv X.K X.mg fa))
    (he : starEach (e :: es) X.env = (false, eval e X.env) :: starEach es X.env) (hpl : (backTo pos (starEach es X.env)).any (·.1) = false) :
    PE X (.Call (.Name x p) (e :: es) [] pos) (TEv X.K X.mg fun ρ S => norm S.length ((fv ρ S).bind fun f S => match f with
      | .glo f => (fa ρ S).bind fun ds S => Φ f ds S
      | _ => .stuck)) := by
  refine ⟨fun pins s σ H Q I h => ?_⟩
  obtain ⟨φ, ρ, S, st, re, q⟩ := TEv.norm h
  refine wpAny_Call_Name_kw (thn (hv.run pins s σ H _ I ⟨φ, ρ, S, st, re, Ans.step q⟩) fun u s1 ⟨v, H1, I1, rv, φ1, S1, d, st1, r1, k1, q1⟩ => ?_)
  cases d <;> try (exact q1.elim)
  case glo y =>
    dsimp only at q1
    obtain ⟨a, ev, hm⟩ := (Vw.dat (by cases r1 with | dat z => exact z) : Vw X.K X.mg H1 φ1 S1 v (.glo y)).glo
    subst ev
    cases rv
    rcases hfs y a hm with hy | hy
    · obtain ⟨a', fd, ps, hm', hk, hb, har, F⟩ := (g.calls y hy).to
      rw [hm] at hm'
      cases hm'
      refine PySem.W.callWith_K (h₀ := X.base) I.ok.mod.kin hk (thn (ha.run pos pins s1 σ H1 (fun vs H1 => ∃ φ1 S1 ds, StOk X.K X.mg H1 φ1 S1 ∧ Repl X.K X.mg H1 φ1 S1 vs ds ∧ Ans X.K X.mg (Φ y ds S1) H1 φ1 S1 Q) I1
        ⟨φ1, ρ, S1, st1, re.keep k1, anss_id q1 fun vs H1 φ1 S1 ds s1 r1 _ a1 => ⟨φ1, S1, ds, s1, r1, a1⟩⟩) fun us s1 ⟨vs, H1, I1, r1, φ1, S1, ds, st1, rr, a1⟩ => ⟨I1.kIn, ?_⟩) he hpl
      by_cases hl : vs.length = ps.length
      · exact run_g g F hb I1 r1 ⟨hl, φ1, S1, ds, st1, rr, a1⟩
      · rw [har ds S1 (by rw [← rr.length]; exact hl)] at a1
        exact a1.elim
    · exfalso
      cases e : fa ρ S1 with
      | ok ds S2 => rw [e] at q1; simp only [R.bind] at q1; rw [hy] at q1; exact q1
      | exn z S2 => rw [e] at q1; exact q1
      | stuck => rw [e] at q1; exact q1

/-! ### slices, isinstance -/
/-- a slice's part, as the interpreter has it -/
inductive PartOk (X : Cx) : Option Expr → (Env → Cells → R D) → Prop
  | none : PartOk X none fun _ S => .ok .non S
  | some {e : Expr} {f : Env → Cells → R D} : PE X e (TEv X.K X.mg f) → PartOk X (some e) fun ρ S => (f ρ S).bind intOnly
theorem part_ok {o : Option Expr} {f : Env → Cells → R D} (h : PartOk X o f) :
    ∃ t : TO, PO X o t ∧ ∀ (σ : L2.St) (H : Hp) (φ : Ad) (ρ : Env) (S : Cells) (g : D → Cells → R D) (Q : VK) (Q' : Option Int → Hp → Prop), StOk X.K X.mg H φ S → REnv X.K X.mg H φ S σ ρ → Ans X.K X.mg ((f ρ S).bind g) H φ S Q →
        (∀ o d H1 φ1 S1, optI d = some o → StOk X.K X.mg H1 φ1 S1 → Keep H φ S H1 φ1 S1 → Ans X.K X.mg (g d S1) H1 φ1 S1 Q → Q' o H1) → t σ H Q' := by
  cases h with
  | none => exact ⟨tNoPart, po_none, fun σ H φ ρ S g Q Q' st re q i => i Option.none .non H φ S rfl st (Keep.refl _ _ _) q⟩
  | @some e f0 he =>
    refine ⟨tPart (TEv X.K X.mg f0), po_some he, fun σ H φ ρ S g Q Q' st re q i => ⟨φ, ρ, S, st, re, ?_⟩⟩
    dsimp only at q
    cases ef : f0 ρ S with
    | exn y S1 => rw [ef] at q; exact q
    | stuck => rw [ef] at q; exact q
    | ok d S1 =>
      rw [ef] at q
      intro v H1 φ1 st1 r1 k1
      cases d <;> try (exact q.elim)
      case int n => exact ⟨n, rep_int r1, i (Option.some n) (.int n) H1 φ1 S1 rfl st1 k1 (Ans.later k1 q)⟩
theorem se_sl {a : Expr} {lo hi : Option Expr} {p2 : Pos} {fa fl fh : Env → Cells → R D} (ha : PE X a (TEv X.K X.mg fa)) (hl : PartOk X lo fl) (hh : PartOk X hi fh) :
    PE X (.Subscript a (.Slice lo hi none p2) pos) (TEv X.K X.mg fun ρ S => norm S.length ((fa ρ S).bind fun x S => (fl ρ S).bind fun l S => (fh ρ S).bind fun h S => one x S fun x => slV x l h S)) := by
  obtain ⟨tl, pl, il⟩ := part_ok hl
  obtain ⟨th, ph, ih⟩ := part_ok hh
  refine (pe_slice or_sl ha pl ph).imp fun σ H Q hq => ?_
  obtain ⟨φ, ρ, S, st, re, q⟩ := TEv.norm hq
  refine ⟨φ, ρ, S, st, re, (Ans.step q).mono fun x H1 ⟨φ1, S1, d, st1, r1, k1, q1⟩ => ?_⟩
  refine il σ H1 φ1 ρ S1 _ Q _ st1 (re.keep k1) q1 fun o dl H2 φ2 S2 ho st2 k2 q2 => ?_
  refine ih σ H2 φ2 ρ S2 _ Q _ st2 ((re.keep k1).keep k2) q2 fun o' dh H3 φ3 S3 ho' st3 k3 q3 => ?_
  obtain ⟨a', va, q4⟩ := one_ans st3 ((r1.keep k2).keep k3) q3
  exact ⟨φ3, S3, a', dl, dh, st3, va, ho, ho', q4⟩

theorem se_isi (g : GX X k Φ fs bs) {a : Expr} {t : String} {x y : Str} {p p2 : Pos} {fa : Env → Cells → R D} (ha : PE X a (TEv X.K X.mg fa)) (ht : isiTys.contains t = true)
    (hx : x = "isinstance") (hg : Gl X x) (hb : x ∈ bs) (hg2 : Gl X y) (hb2 : y ∈ bs) (hv : bootBuiltins y = some (.type t)) (hn : y ≠ "__name__") (hd : (y == ("__debug__" : Str)) = false)
    (he : starEach [a, .Name y p2] X.env = (false, eval a X.env) :: starEach [.Name y p2] X.env) :
    PE X (.Call (.Name x p) [a, .Name y p2] [] pos) (TEv X.K X.mg fun ρ S => norm S.length ((fa ρ S).bind fun x S => one x S fun x => bR (isiV t x) S)) := by
  subst hx
  refine (pe_callB (or_isi t) hg (g.blts _ hb) boot_isinstance (pa_cons ha (pa_cons (pe_bltn hg2 (g.blts _ hb2) hv (v := .ty t) rfl hn hd) pa_nil) he) (he := he)).imp fun σ H Q hq => ?_
  obtain ⟨φ, ρ, S, st, re, q⟩ := TEv.norm hq
  refine ⟨φ, ρ, S, st, re, (Ans.step q).mono fun v H1 ⟨φ1, S1, d, st1, r1, k1, q1⟩ => ?_⟩
  obtain ⟨a', va, q2⟩ := one_ans st1 r1 q1
  exact ⟨φ1, S1, v, a', rfl, ht, st1, va, q2⟩

/-! ### built-ins -/
theorem se_blt (g : GX X k Φ fs bs) {b : Blt} {x : Str} {p : Pos} {e : Expr} {es : List Expr} {fa : Env → Cells → R (List D)} (hb : bltOk b = true) (hx : x = bltName b) (hg : Gl X x) (hm : x ∈ bs) (ha : PA X (e :: es) (TAv X.K X.mg fa))
    (he : starEach (e :: es) X.env = (false, eval e X.env) :: starEach es X.env) (hpl : (backTo pos (starEach es X.env)).any (·.1) = false) :
    PE X (.Call (.Name x p) (e :: es) [] pos) (TEv X.K X.mg fun ρ S => norm S.length ((fa ρ S).bind fun ds S => bltV b ds S)) := by
  subst hx
  have key : ∀ t : TE, t = tCB (rBlt X.K X.mg b) (TAv X.K X.mg fa) → PE X (.Call (.Name (bltName b) p) (e :: es) [] pos) t →
      PE X (.Call (.Name (bltName b) p) (e :: es) [] pos) (TEv X.K X.mg fun ρ S => norm S.length ((fa ρ S).bind fun ds S => bltV b ds S)) := fun t et h => by
    subst et
    refine h.imp fun σ H Q hq => ?_
    obtain ⟨φ, ρ, S, st, re, q⟩ := TEv.norm hq
    exact ⟨φ, ρ, S, st, re, anss_id q fun vs H1 φ1 S1 ds s1 r1 _ a1 => ⟨φ1, S1, ds, s1, r1, a1⟩⟩
  have o := or_blt g.calm g.hu g.guards b hb
  cases b <;> first
    | (cases hb; done)
    | exact key _ rfl (pe_callB o hg (g.blts _ hm) (by decide +kernel) ha (hn := by decide +kernel) (hdb := by decide +kernel) (he := he) (hpl := hpl))
    | exact key _ rfl (pe_callTy o hg (g.blts _ hm) (by decide +kernel) ha (hn := by decide +kernel) (hdb := by decide +kernel) (he := he) (hpl := hpl))
end
end VS

/-! VS, part I: methods. -/
namespace VS
open PySem PySem.Spec L2 PyProof.Rows

section
variable {X : Cx} {k : Nat} {Φ : CallF} {fs bs : List Str} {pos : Pos}
theorem need_ok {c : Bool} {r : R D} {e : D} {S' : Cells} (h : R.need c r = .ok e S') : c = true ∧ r = .ok e S' := by
  cases c with
  | true => exact ⟨rfl, h⟩
  | false => cases h
/-- a list's method, read by the interpreter -/
def rMth (K : PySem.W.Frag) (mg : Str → Option Value) (m : Mth) : V → List V → Hp → VK → Prop := fun x vs H Q => ∃ φ S d ds, StOk K mg H φ S ∧ Rep K mg H φ S x d ∧ Repl K mg H φ S vs ds ∧ Ans K mg (mthV m d ds S) H φ S Q
def mthId : Mth → String
  | .append => "list.append" | .extend => "list.extend" | .pop0 => "list.pop" | .pop1 => "list.pop" | .reverse => "list.reverse" | .join => "str.join" | .index => "list.index" | .get1 => "dict.get" | .get2 => "dict.get"
def mthTy : Mth → String
  | .join => "str" | .get1 => "dict" | .get2 => "dict" | _ => "list"
def mthName : Mth → Str
  | .append => "append" | .extend => "extend" | .pop0 => "pop" | .pop1 => "pop" | .reverse => "reverse" | .join => "join" | .index => "index" | .get1 => "get" | .get2 => "get"
theorem rkey_V {K : PySem.W.Frag} {mg : Str → Option Value} {H : Hp} {φ : Ad} {S : Cells} {x : V} {a : D} {k : Key} (r : Rep K mg H φ S x a) (h : keyOf a = some k) : x = kV k := by
  cases r with
  | dat z => exact dkey_V z h
  | ref z => cases h
theorem or_mth (hu : X.A.units + 100 < cLine) (m : Mth) : MtR X (mthId m) (rMth X.K X.mg m) := by
  intro pins s σ H x vs v us Q I rx rv ⟨φ, S, d, ds, st, r, rr, h⟩
  cases m with
  | append =>
    match ds, rr, h with
    | [e], rr, h =>
      obtain ⟨y, ev, ry⟩ := rr.one
      simp only [mthV] at h
      cases ef : frz e S with
      | exn z S1 => rw [ef] at h; exact h.elim
      | stuck => rw [ef] at h; exact h.elim
      | ok e' S1 =>
        rw [ef] at h
        obtain ⟨st1, dy, k1⟩ := frz_ok st ry ef
        have h1 := Ans.later k1 h
        obtain ⟨n, a, xs, ws, res, e1, e2, e3, e4, e5, e6, ⟨S2, e7⟩, h2⟩ := grow_ans st1 (r.keep k1) h1
        obtain ⟨c, e8⟩ := need_ok e7
        cases e8
        obtain ⟨st2, k2, sy⟩ := cell_set st1 e3 e4 (e6.append (.cons dy .nil))
        subst e2
        refine mt_append pins s σ H _ vs v us Q I rx rv ⟨a, ws, y, rfl, ev, e5, ?_, h2 _ _ _ st2 (.dat .non) k2⟩
        have := of_decide_eq_true c
        rw [e6.length, ← line_eq]
        omega
    | [], _, h => exact h.elim
    | _ :: _ :: _, _, h => exact h.elim
  | extend =>
    match ds, rr, h with
    | [e], rr, h =>
      obtain ⟨y, ev, ry⟩ := rr.one
      simp only [mthV] at h
      obtain ⟨b, vb, h⟩ := one_ans st ry h
      cases b <;> try (exact h.elim)
      case lst ys =>
        obtain ⟨q, zs, f1, f2, f3⟩ := vb.lst
        obtain ⟨n, a, xs, ws, res, e1, e2, e3, e4, e5, e6, ⟨S2, e7⟩, h2⟩ := grow_ans st r h
        obtain ⟨c, e8⟩ := need_ok e7
        cases e8
        obtain ⟨st2, k2, sy⟩ := cell_set st e3 e4 (e6.append f3)
        subst e2
        refine mt_extend pins s σ H _ vs v us Q I rx rv ⟨a, q, ws, zs, rfl, by rw [ev, f1], e5, f2, ?_, h2 _ _ _ st2 (.dat .non) k2⟩
        rw [e6.length, f3.length]
        exact sl_line c
    | [], _, h => exact h.elim
    | _ :: _ :: _, _, h => exact h.elim
  | pop0 =>
    match ds, rr, h with
    | [e], rr, h =>
      obtain ⟨y, ev, ry⟩ := rr.one
      cases e <;> try (exact h.elim)
      case int i =>
        by_cases hi : i = 0
        · subst hi
          have h : Ans X.K X.mg (grow d S (fun xs => match xs with | x :: _ => .ok x S | [] => .stuck) (fun xs => xs.tail)) H φ S Q := h
          obtain ⟨n, a, xs, ws, res, e1, e2, e3, e4, e5, e6, ⟨S2, e7⟩, h2⟩ := grow_ans st r h
          cases xs with
          | nil => cases e7
          | cons x0 xr =>
            cases e7
            cases e6 with
            | cons w0 wr =>
              rename_i w ws
              obtain ⟨st2, k2, sy⟩ := cell_set st e3 e4 wr
              subst e2
              exact mt_popAt pins s σ H _ vs v us Q I rx rv ⟨a, w :: ws, 0, 0, w, rfl, by rw [ev, rep_int ry], e5, by decide, by decide, by simp [PySem.seqIndex?], rfl, h2 _ _ _ st2 (.dat (w0.stay sy)) k2⟩
        · have h : Ans X.K X.mg (if i = 0 then grow d S (fun xs => match xs with | x :: _ => .ok x S | [] => .stuck) (fun xs => xs.tail) else .stuck) H φ S Q := h
          rw [if_neg hi] at h
          exact h.elim
    | [], _, h => exact h.elim
    | e :: _ :: _, _, h => cases e <;> exact h.elim
  | pop1 => cases ds <;> exact h.elim
  | reverse =>
    match ds, rr, h with
    | [], rr, h =>
      cases rr
      have h : Ans X.K X.mg (grow d S (fun _ => .ok .non S) List.reverse) H φ S Q := h
      obtain ⟨n, a, xs, ws, res, e1, e2, e3, e4, e5, e6, ⟨S2, e7⟩, h2⟩ := grow_ans st r h
      cases e7
      obtain ⟨st2, k2, sy⟩ := cell_set st e3 e4 e6.reverse
      subst e2
      exact mt_reverse pins s σ H _ _ v us Q I rx rv ⟨a, ws, rfl, rfl, e5, h2 _ _ _ st2 (.dat .non) k2⟩
    | _ :: _, _, h => exact h.elim
  | index =>
    match ds, rr, h with
    | [e], rr, h =>
      obtain ⟨y, ev, ry⟩ := rr.one
      simp only [mthV] at h
      obtain ⟨b, vb, h⟩ := one_ans st r h
      cases b <;> try (exact h.elim)
      case lst ys =>
        obtain ⟨q, zs, f1, f2, f3⟩ := vb.lst
        obtain ⟨c, h⟩ := need_ans h
        rw [Bool.and_eq_true] at c
        split at h
        · rename_i j hj
          obtain ⟨hlt, h1, h2⟩ := List.findIdx?_eq_some_iff_getElem.mp hj
          have de : Dat X.K X.mg H (Mu φ S) y e := by
            cases ry with
            | dat z => exact z
            | ref z => exact nomatch c.1
          have fl : ∀ {i : Nat} {d : D}, ys[i]? = some d → d.flat = true := fun e => List.all_eq_true.mp c.2 _ (List.mem_of_getElem? e)
          obtain ⟨w, g1, g2⟩ := f3.get (i := j) (d := ys[j]) (by simp [hlt])
          subst f1
          refine mt_index pins s σ H _ vs v us Q I rx rv ⟨q, zs, y, j, w, rfl, ev, .of f2, flat_V de c.1, flats_V f3 c.2, g1, ?_, fun m z' hm hz => ?_, here_i st h⟩
          · rw [eq_V g2 de (fl (i := j) (by simp [hlt])) c.1]; exact h1
          · obtain ⟨d', k1, k2⟩ := f3.at_len hz
            rw [eq_V k2 de (fl k1) c.1]
            obtain ⟨hl, k3⟩ := List.getElem?_eq_some_iff.mp k1
            have := h2 m hm
            rw [k3] at this
            simpa using this
        · exact h.elim
    | [], _, h => exact h.elim
    | _ :: _ :: _, _, h => exact h.elim
  | get1 =>
    match ds, rr, h with
    | [e], rr, h =>
      obtain ⟨y, ev, ry⟩ := rr.one
      simp only [mthV] at h
      obtain ⟨b, vb, h⟩ := one_ans st r h
      cases b <;> try (exact h.elim)
      case dic ks ys =>
        obtain ⟨q, kvs, f1, f2, f3, f4⟩ := vb.dic
        simp only at h
        cases hk : keyOf e with
        | none => rw [hk] at h; exact h.elim
        | some key =>
          rw [hk] at h
          dsimp only at h
          subst ev
          obtain ⟨u, eu, ru⟩ := vals1 rv
          subst eu
          have ey := rkey_V ry hk
          subst f1
          cases rx
          have g : DGet H q y (valV kvs key) := by rw [ey]; exact DGet.k f2
          refine d_get1 (by omega) I g ru fun w' s' I' rw' => ⟨_, H, I', rw', ?_⟩
          cases hd : dget ks ys key with
          | none => rw [hd] at h; rw [dget_no f3 f4 hd]; exact here_n st h
          | some d =>
            rw [hd] at h
            obtain ⟨w, g1, g2⟩ := dget_V f3 f4 hd
            rw [g1]; exact h.here st (.dat g2)
    | [], _, h => exact h.elim
    | _ :: _ :: _, _, h => exact h.elim
  | get2 =>
    match ds, rr, h with
    | [e, e2], rr, h =>
      obtain ⟨y, y2, ev, ry, ry2⟩ := rr.two
      simp only [mthV] at h
      obtain ⟨b, vb, h⟩ := one_ans st r h
      cases b <;> try (exact h.elim)
      case dic ks ys =>
        obtain ⟨q, kvs, f1, f2, f3, f4⟩ := vb.dic
        simp only at h
        cases hk : keyOf e with
        | none => rw [hk] at h; exact h.elim
        | some key =>
          rw [hk] at h
          dsimp only at h
          subst ev
          cases rv with
          | cons ru rt =>
            cases rt with
            | cons ru2 rt =>
              cases rt
              have ey := rkey_V ry hk
              subst f1
              cases rx
              have g : DGet H q y (valV kvs key) := by rw [ey]; exact DGet.k f2
              refine d_get2 (by omega) I g ru ru2 fun w' s' I' rw' => ⟨_, H, I', rw', ?_⟩
              cases hd : dget ks ys key with
              | none => rw [hd] at h; rw [dget_no f3 f4 hd]; exact h.here st ry2
              | some d =>
                rw [hd] at h
                obtain ⟨w, g1, g2⟩ := dget_V f3 f4 hd
                rw [g1]; exact h.here st (.dat g2)
    | [], _, h => exact h.elim
    | [_], _, h => exact h.elim
    | _ :: _ :: _ :: _, _, h => exact h.elim
  | join =>
    match ds, rr, h with
    | [e], rr, h =>
      obtain ⟨y, ev, ry⟩ := rr.one
      simp only [mthV] at h
      obtain ⟨sep, hsep⟩ : ∃ sep, d = .str sep := by
        cases d <;> first | exact ⟨_, rfl⟩ | exact h.elim
      subst hsep
      dsimp only at h
      obtain ⟨b, vb, h⟩ := one_ans st ry h
      split at h
      · rename_i xs hxs
        split at h
        · rename_i ss hss
          obtain ⟨q, zs, f1, f2, f3⟩ := vb.seq hxs
          rw [strs_V f3 hss] at f2
          obtain ⟨c, h⟩ := need_ans h
          exact mt_join pins s σ H _ vs v us Q I rx rv ⟨sep, q, ss, rep_str r, by rw [ev, f1], f2, of_decide_eq_true c, here_s st h⟩
        · exact h.elim
      · exact h.elim
    | [], _, h => exact h.elim
    | _ :: _ :: _, _, h => exact h.elim
/-- what the interpreter asks of the receiver, ahead of the arguments -/
theorem mth_ty {m : Mth} {d : D} {x : V} {H : Hp} {φ : Ad} {S : Cells} (st : StOk X.K X.mg H φ S) (r : Rep X.K X.mg H φ S x d) (h : mthK m (val S d) = true) : tyV X.K (mthTy m) x H := by
  cases e : val S d with
  | none => rw [e] at h; cases m <;> cases h
  | some a =>
    rw [e] at h
    have w := val_vw st r e
    have lst : ∀ xs, a = .lst xs → tyV X.K "list" x H := fun xs ea => by
      subst ea
      obtain ⟨p, vs, e1, e2, _⟩ := w.lst
      rw [e1]; exact .inl ⟨rfl, vs, .of e2⟩
    have dic : ∀ ks xs, a = .dic ks xs → tyV X.K "dict" x H := fun ks xs ea => by
      subst ea
      obtain ⟨p, vs, e1, e2, _⟩ := w.dic
      rw [e1]; exact .inr (.inr (.inl ⟨rfl, .inl ⟨vs, e2⟩⟩))
    cases m <;> cases a <;> first
      | (cases h; done)
      | exact lst _ rfl
      | exact dic _ _ rfl
      | (rw [w.str] <;> rfl)
/-- o.m(e, ..) -/
theorem se_mthN (g : GX X k Φ fs bs) {m : Mth} {o e : Expr} {es : List Expr} {apos : Pos} {fo : Env → Cells → R D} {fa : Env → Cells → R (List D)} (hm : m ≠ .reverse ∧ m ≠ .pop1) (ho : PE X o (TEv X.K X.mg fo)) (ha : PA X (e :: es) (TAv X.K X.mg fa))
    (hbase : attributeBase o (mthName m) X.env (eval o X.env) = eval o X.env) (hline : (apos.endLine == pos.line) = true) (hs : starEach (e :: es) X.env = (false, eval e X.env) :: starEach es X.env)
    (hfew : ((backTo pos (starEach (e :: es) X.env)).all (fun x => !x.1) && (backToKw pos (keywordEach [] X.env)).all (fun x => x.1.isSome)
      && decide ((e :: es).length + ([] : List Keyword).length + (if ([] : List Keyword).isEmpty then 0 else 1) < 30)) = true) (hplain : (backTo pos (starEach es X.env)).any (·.1) = false) :
    PE X (.Call (.Attribute o (mthName m) apos) (e :: es) [] pos) (TEv X.K X.mg fun ρ S => norm S.length ((fo ρ S).bind fun x S => .need (mthK m (val S x)) ((fa ρ S).bind fun ds S => mthV m x ds S))) := by
  have key : ∀ t : TE, t = tBM X.K (mthTy m) (rMth X.K X.mg m) (TEv X.K X.mg fo) (TAv X.K X.mg fa) → PE X (.Call (.Attribute o (mthName m) apos) (e :: es) [] pos) t →
      PE X (.Call (.Attribute o (mthName m) apos) (e :: es) [] pos) (TEv X.K X.mg fun ρ S => norm S.length ((fo ρ S).bind fun x S => .need (mthK m (val S x)) ((fa ρ S).bind fun ds S => mthV m x ds S))) := fun t et h => by
    subst et
    refine h.imp fun σ H Q hq => ?_
    obtain ⟨φ, ρ, S, st, re, q⟩ := TEv.norm hq
    refine ⟨φ, ρ, S, st, re, (Ans.step q).mono fun x H1 ⟨φ1, S1, d, st1, r1, k1, q1⟩ => ?_⟩
    obtain ⟨c, q1⟩ := need_ans q1
    refine ⟨mth_ty st1 r1 c, φ1, ρ, S1, st1, re.keep k1, anss_id q1 fun vs H2 φ2 S2 ds s2 r2 k2 a2 => ⟨φ2, S2, d, ds, s2, r1.keep k2, r2, a2⟩⟩
  have o' := or_mth (X := X) g.hu m
  cases m with
  | append => exact key _ rfl (pe_bm PySem.F.plainAttrs_list PySem.F.slot_list_append PySem.F.type_list_append o' ho ha (hbase := hbase) (hfew := hfew) (hline := hline) (hs := hs) (hplain := hplain))
  | extend => exact key _ rfl (pe_bm PySem.F.plainAttrs_list PySem.F.slot_list_extend PySem.F.type_list_extend o' ho ha (hbase := hbase) (hfew := hfew) (hline := hline) (hs := hs) (hplain := hplain))
  | pop0 => exact key _ rfl (pe_bm PySem.F.plainAttrs_list PySem.F.slot_list_pop PySem.F.type_list_pop o' ho ha (hbase := hbase) (hfew := hfew) (hline := hline) (hs := hs) (hplain := hplain))
  | pop1 => exact absurd rfl hm.2
  | reverse => exact absurd rfl hm.1
  | index => exact key _ rfl (pe_bm PySem.F.plainAttrs_list PySem.F.slot_list_index PySem.F.type_list_index o' ho ha (hbase := hbase) (hfew := hfew) (hline := hline) (hs := hs) (hplain := hplain))
  | get1 => exact key _ rfl (pe_bm PySem.F.plainAttrs_dict PySem.F.slot_dict_get PySem.F.type_dict_get o' ho ha (hbase := hbase) (hfew := hfew) (hline := hline) (hs := hs) (hplain := hplain))
  | get2 => exact key _ rfl (pe_bm PySem.F.plainAttrs_dict PySem.F.slot_dict_get PySem.F.type_dict_get o' ho ha (hbase := hbase) (hfew := hfew) (hline := hline) (hs := hs) (hplain := hplain))
  | join => exact key _ rfl (pe_bm PySem.F.plainAttrs_str PySem.F.slot_str_join PySem.F.type_str_join o' ho ha (hbase := hbase) (hfew := hfew) (hline := hline) (hs := hs) (hplain := hplain))
theorem se_rev (g : GX X k Φ fs bs) {o : Expr} {apos : Pos} {fo : Env → Cells → R D} (ho : PE X o (TEv X.K X.mg fo)) (hbase : attributeBase o "reverse" X.env (eval o X.env) = eval o X.env) (hline : (apos.endLine == pos.line) = true) :
    PE X (.Call (.Attribute o "reverse" apos) [] [] pos) (TEv X.K X.mg fun ρ S => norm S.length ((fo ρ S).bind fun x S => .need (mthK .reverse (val S x)) ((R.ok [] S).bind fun ds S => mthV .reverse x ds S))) :=
  (pe_bm0 PySem.F.plainAttrs_list PySem.F.slot_list_reverse PySem.F.type_list_reverse (or_mth (X := X) g.hu .reverse) ho (hbase := hbase) (hline := hline)).imp fun σ H Q hq => by
    obtain ⟨φ, ρ, S, st, re, q⟩ := TEv.norm hq
    refine ⟨φ, ρ, S, st, re, (Ans.step q).mono fun x H1 ⟨φ1, S1, d, st1, r1, k1, q1⟩ => ?_⟩
    obtain ⟨c, q1⟩ := need_ans q1
    exact ⟨mth_ty st1 r1 c, φ1, S1, d, [], st1, r1, .nil, q1⟩
end
end VS

/-! VS, part J: what is walked. -/
namespace VS
open PySem PySem.Spec L2 PyProof.Rows

/-- what stays over a walk: new things may be banned -/
structure Keep0 (H : Hp) (φ : Ad) (S : Cells) (H' : Hp) (φ' : Ad) (S' : Cells) : Prop where
  pre : ∀ (n : Nat) (a : Addr), φ.cs[n]? = some a → φ'.cs[n]? = some a
  mu : ∀ a, H a ≠ none → Mu φ' S' a → Mu φ S a
  wr : ∀ a, H a ≠ none → Wr φ' S' a → Wr φ S a
  frame : ∀ a o, H a = some o → ¬ Wr φ S a → H' a = some o
  there : ∀ a, H a ≠ none → H' a ≠ none
theorem Keep.k0 {H H' : Hp} {φ φ' : Ad} {S S' : Cells} (k : Keep H φ S H' φ' S') : Keep0 H φ S H' φ' S' := ⟨k.pre, k.mu, k.wr, k.frame, k.there⟩
theorem Keep0.k {H H' : Hp} {φ φ' : Ad} {S S' : Cells} (k : Keep0 H φ S H' φ' S') (b : φ'.bs = φ.bs) : Keep H φ S H' φ' S' := ⟨k.pre, b, k.mu, k.wr, k.frame, k.there⟩
theorem Keep0.trans {H H1 H2 : Hp} {φ φ1 φ2 : Ad} {S S1 S2 : Cells} (a : Keep0 H φ S H1 φ1 S1) (b : Keep0 H1 φ1 S1 H2 φ2 S2) : Keep0 H φ S H2 φ2 S2 :=
  ⟨fun n x h => b.pre n x (a.pre n x h), fun x h m => a.mu x h (b.mu x (a.there x h) m), fun x h m => a.wr x h (b.wr x (a.there x h) m),
   fun x o h n => b.frame x o (a.frame x o h n) fun z => n (a.wr x (by rw [h]; exact fun q => nomatch q) z), fun x h => b.there x (a.there x h)⟩
section
variable {K : PySem.W.Frag} {mg : Str → Option Value} {H H' : Hp} {φ φ' : Ad} {S S' : Cells}
theorem Keep0.stay (k : Keep0 H φ S H' φ' S') : Stay H (Mu φ S) H' (Mu φ' S') := ⟨fun a o h n => k.frame a o h fun z => n z.mu, k.mu⟩
theorem Rep.keep0 (k : Keep0 H φ S H' φ' S') {v : V} {d : D} (h : Rep K mg H φ S v d) : Rep K mg H' φ' S' v d := by
  cases h with
  | dat h => exact .dat (h.stay k.stay)
  | ref h => exact .ref (k.pre _ _ h)
theorem REnv.keep0 (k : Keep0 H φ S H' φ' S') {σ : L2.St} {ρ : Env} (h : REnv K mg H φ S σ ρ) : REnv K mg H' φ' S' σ ρ :=
  ⟨h.len, fun i d e => let ⟨v, e1, r⟩ := h.at_ i d e; ⟨v, e1, r.keep0 k⟩⟩
end

/-- what stays but for one thing that is kept to oneself -/
structure KeepX (ex : Option Addr) (H : Hp) (φ : Ad) (S : Cells) (H' : Hp) (φ' : Ad) (S' : Cells) : Prop where
  pre : ∀ (n : Nat) (a : Addr), φ.cs[n]? = some a → φ'.cs[n]? = some a
  mu : ∀ a, H a ≠ none → Mu φ' S' a → Mu φ S a
  wr : ∀ a, H a ≠ none → Wr φ' S' a → Wr φ S a
  frame : ∀ a o, H a = some o → ¬ Wr φ S a → ex ≠ some a → H' a = some o
  there : ∀ a, H a ≠ none → H' a ≠ none
section
variable {K : PySem.W.Frag} {mg : Str → Option Value} {H H' H1 H2 : Hp} {φ φ' φ1 φ2 : Ad} {S S' S1 S2 : Cells} {ex : Option Addr}
theorem Keep0.x (k : Keep0 H φ S H' φ' S') : KeepX ex H φ S H' φ' S' := ⟨k.pre, k.mu, k.wr, fun a o h n _ => k.frame a o h n, k.there⟩
theorem Keep.x (k : Keep H φ S H' φ' S') : KeepX ex H φ S H' φ' S' := k.k0.x
theorem KeepX.trans (a : KeepX ex H φ S H1 φ1 S1) (b : KeepX ex H1 φ1 S1 H2 φ2 S2) : KeepX ex H φ S H2 φ2 S2 :=
  ⟨fun n x h => b.pre n x (a.pre n x h), fun x h m => a.mu x h (b.mu x (a.there x h) m), fun x h m => a.wr x h (b.wr x (a.there x h) m),
   fun x o h n e => b.frame x o (a.frame x o h n e) (fun z => n (a.wr x (by rw [h]; exact fun q => nomatch q) z)) e, fun x h => b.there x (a.there x h)⟩
theorem KeepX.stay (k : KeepX ex H φ S H' φ' S') (he : ∀ D, ex = some D → D ∈ φ.bs) : Stay H (Mu φ S) H' (Mu φ' S') := ⟨fun a o h n => k.frame a o h (fun z => n z.mu) fun z => n (.inr (he a z)), k.mu⟩
theorem Rep.keepx (k : KeepX ex H φ S H' φ' S') (he : ∀ D, ex = some D → D ∈ φ.bs) {v : V} {d : D} (h : Rep K mg H φ S v d) : Rep K mg H' φ' S' v d := by
  cases h with
  | dat h => exact .dat (h.stay (k.stay he))
  | ref h => exact .ref (k.pre _ _ h)
theorem REnv.keepx (k : KeepX ex H φ S H' φ' S') (he : ∀ D, ex = some D → D ∈ φ.bs) {σ : L2.St} {ρ : Env} (h : REnv K mg H φ S σ ρ) : REnv K mg H' φ' S' σ ρ :=
  ⟨h.len, fun i d e => let ⟨v, e1, r⟩ := h.at_ i d e; ⟨v, e1, r.keepx k he⟩⟩
end
section
variable (K : PySem.W.Frag) (mg : Str → Option Value)
/-- a walk that gives these items, from this state on -/
def WOk (J : L2.It) (H : Hp) (φ : Ad) (S : Cells) (ds : List D) : Prop := ∃ (G : Hp → Prop) (Y : Nat → Hp → V → Hp → Prop), Walk J ds.length G Y ∧
  (∀ ex H' φ' S', (∀ D, ex = some D → D ∈ φ.bs) → KeepX ex H φ S H' φ' S' → G H') ∧
  (∀ ex i Hi φi Si x Hi', (∀ D, ex = some D → D ∈ φ.bs) → i < ds.length → StOk K mg Hi φi Si → KeepX ex H φ S Hi φi Si → Y i Hi x Hi' → ∃ d, ds[i]? = some d ∧ StOk K mg Hi' φi Si ∧ Dat K mg Hi' (Mu φi Si) x d ∧ Keep Hi φi Si Hi' φi Si ∧ ∀ b, Hi b ≠ none → Hi' b = Hi b)
/-- the answer of a walk's making -/
def AnsW (r : R Walked) (H : Hp) (φ : Ad) (S : Cells) (R' : L2.It → Hp → Prop) : Prop :=
  match r with
  | .ok w S' => ∀ J H' φ', StOk K mg H' φ' S' → Keep H φ S H' φ' S' → S'.length = S.length → (∀ m, w.2 = some m → m < S.length ∧ ∃ a, φ.cs[m]? = some a ∧ Wr φ S a) → WOk K mg J H' φ' S' w.1 → R' J H'
  | _ => False
def TIv (f : Env → Cells → R Walked) : TI := fun σ H R' => ∃ φ ρ S, StOk K mg H φ S ∧ REnv K mg H φ S σ ρ ∧ AnsW K mg (f ρ S) H φ S R'
end

section
variable {K : PySem.W.Frag} {mg : Str → Option Value} {H : Hp} {φ : Ad} {S : Cells}
theorem wok_list {a : Addr} {vs : List V} {ds : List D} (h : H a = some (.lst vs)) (n : ¬ Wr φ S a) (nb : a ∉ φ.bs) (r : Dats K mg H (Mu φ S) vs ds) : WOk K mg (Itl K a) H φ S ds := by
  refine ⟨_, _, by rw [← r.length]; exact walk_list (K := K) (a := a) (xs := vs), fun ex H' φ' S' he k => SqL.of (k.frame a _ h n fun z => nb (he a z)), fun ex i Hi φi Si x Hi' he hi st k y => ?_⟩
  obtain ⟨e1, e2⟩ := y
  subst e1
  obtain ⟨d, f1, f2⟩ := r.at_len e2
  exact ⟨d, f1, st, f2.stay (k.stay he), Keep.refl _ _ _, fun _ _ => rfl⟩
theorem wok_tup {a : Addr} {vs : List V} {ds : List D} (h : StT K H (Mu φ S) a vs) (r : Dats K mg H (Mu φ S) vs ds) : WOk K mg (Itt K a) H φ S ds := by
  refine ⟨_, _, by rw [← r.length]; exact walk_tup (K := K) (a := a) (xs := vs), fun ex H' φ' S' he k => ?_, fun ex i Hi φi Si x Hi' he hi st k y => ?_⟩
  · rcases h with ⟨s, n⟩ | s
    · exact .inl ((k.stay he).rd s n).1
    · exact .inr s
  · obtain ⟨e1, e2⟩ := y
    subst e1
    obtain ⟨d, f1, f2⟩ := r.at_len e2
    exact ⟨d, f1, st, f2.stay (k.stay he), Keep.refl _ _ _, fun _ _ => rfl⟩
theorem wok_str {z : Str} : WOk K mg (Its z) H φ S (z.cps.toList.map fun c => D.str ⟨#[c]⟩) := by
  refine ⟨_, _, by rw [List.length_map, Array.length_toList]; exact walk_str (z := z), fun _ _ _ _ _ _ => trivial, fun ex i Hi φi Si x Hi' he hi st k y => ?_⟩
  obtain ⟨e1, c, e2, e3⟩ := y
  subst e1 e3
  refine ⟨.str ⟨#[c]⟩, ?_, st, .str _, Keep.refl _ _ _, fun _ _ => rfl⟩
  rw [List.getElem?_map, Array.getElem?_toList, e2] <;> rfl
theorem wok_rng {lo : Int} {n : Nat} : WOk K mg (Itr lo n) H φ S (rngD lo n) := by
  have hl : (rngD lo n).length = n := by simp [rngD]
  refine ⟨_, _, by rw [hl]; exact walk_range (lo := lo) (n := n), fun _ _ _ _ _ _ => trivial, fun ex i Hi φi Si x Hi' he hi st k y => ?_⟩
  obtain ⟨e1, e2⟩ := y
  subst e1 e2
  rw [hl] at hi
  exact ⟨.int (lo + i), by simp [rngD, hi], st, .int _, Keep.refl _ _ _, fun _ _ => rfl⟩
theorem wok_rngC {lo c : Int} {n : Nat} : WOk K mg (Itc lo c n) H φ S (rngC lo c n) := by
  have hl : (rngC lo c n).length = n := by simp [rngC]
  refine ⟨_, _, by rw [hl]; exact walk_rangeC (lo := lo) (c := c) (n := n), fun _ _ _ _ _ _ => trivial, fun ex i Hi φi Si x Hi' he hi st k y => ?_⟩
  obtain ⟨e1, e2⟩ := y
  subst e1 e2
  rw [hl] at hi
  exact ⟨.int (lo + i * c), by simp [rngC, hi], st, .int _, Keep.refl _ _ _, fun _ _ => rfl⟩
theorem wok_rev {a : Addr} {vs : List V} {ds : List D} (h : H a = some (.lst vs)) (n : ¬ Wr φ S a) (nb : a ∉ φ.bs) (r : Dats K mg H (Mu φ S) vs ds) : WOk K mg (Itv K a vs.length) H φ S ds.reverse := by
  refine ⟨_, _, by rw [List.length_reverse, ← r.length]; exact walk_rev (K := K) (a := a) (xs := vs), fun ex H' φ' S' he k => SqL.of (k.frame a _ h n fun z => nb (he a z)), fun ex i Hi φi Si x Hi' he hi st k y => ?_⟩
  obtain ⟨e1, e2⟩ := y
  subst e1
  obtain ⟨d, f1, f2⟩ := r.at_len e2
  rw [List.length_reverse] at hi
  refine ⟨d, ?_, st, f2.stay (k.stay he), Keep.refl _ _ _, fun _ _ => rfl⟩
  rw [List.getElem?_reverse hi, ← r.length]
  exact f1
theorem wok_enum {a : Addr} {vs : List V} {ds : List D} (h : H a = some (.lst vs)) (n : ¬ Wr φ S a) (nb : a ∉ φ.bs) (r : Dats K mg H (Mu φ S) vs ds) : WOk K mg (Ite K a) H φ S (enumD ds) := by
  have hl : (enumD ds).length = ds.length := by simp [enumD]
  refine ⟨_, _, by rw [hl, ← r.length]; exact walk_enum (K := K) (a := a) (xs := vs), fun ex H' φ' S' he k => SqL.of (k.frame a _ h n fun z => nb (he a z)), fun ex i Hi φi Si x Hi' he hi st k y => ?_⟩
  rw [hl] at hi
  obtain ⟨T, p, q, e1, e2, e3, e4, e5⟩ := y
  subst e1 e3
  cases e4
  obtain ⟨d, f1, f2⟩ := r.at_len e5
  have f3 := f2.stay (k.stay he)
  obtain ⟨s1, d1, k1⟩ := lay_tup st e2 (.cons (.int (i : Nat)) (.cons f3 .nil))
  refine ⟨.tup [.int i, d], ?_, s1, d1, k1, fun b hb => upd_ne fun z => hb (by rw [z]; exact e2)⟩
  have : ds.getD i .non = d := by rw [List.getD_eq_getElem?_getD, f1] <;> rfl
  simp only [enumD, List.getElem?_map, List.getElem?_range hi, Option.map_some, this]

/-- a sequence held for a walk -/
theorem hold_ok {H0 : Hp} {φ0 : Ad} {S0 S1 S' : Cells} {φ1 : Ad} {v : V} {d : D} {w : Walked} (st0 : StOk K mg H0 φ0 S0) (st : StOk K mg H φ1 S1) (k : Keep H0 φ0 S0 H φ1 S1) (r : Rep K mg H φ1 S1 v d) (h : hold S0.length d S1 = .ok w S') :
    ∃ φ', StOk K mg H φ' S' ∧ Keep H0 φ0 S0 H φ' S' ∧ S'.length = S0.length ∧ (∀ m, w.2 = some m → m < S0.length ∧ ∃ a, φ0.cs[m]? = some a ∧ Wr φ0 S0 a) ∧
      ((∃ z, v = .str z ∧ w.1 = z.cps.toList.map fun c => D.str ⟨#[c]⟩) ∨
        ∃ a vs, v = .ref a ∧ Dats K mg H (Mu φ' S') vs w.1 ∧ ((H a = some (.lst vs) ∧ ¬ Wr φ' S' a ∧ a ∉ φ'.bs ∧ (∃ xs, d = .lst xs) ∨ (H a = some (.lst vs) ∧ ¬ Wr φ' S' a ∧ a ∉ φ'.bs ∧ ∃ n, d = .ref n)) ∨ (StT K H (Mu φ' S') a vs ∧ ∃ xs, d = .tup xs))) := by
  have hn : S0.length = φ0.cs.length := st0.len.symm
  have hle : S0.length ≤ S1.length := keep_len st0 st k
  have tk : StOk K mg H (φ1.take S0.length) (S1.take S0.length) := st.take _
  have kk : Keep H0 φ0 S0 H (φ1.take S0.length) (S1.take S0.length) := k.take hn
  have ll : (S1.take S0.length).length = S0.length := by rw [List.length_take]; omega
  cases d <;> try (cases h; done)
  case str z =>
    cases h
    exact ⟨_, tk, kk, ll, fun m e => (nomatch e), .inl ⟨z, rep_str r, rfl⟩⟩
  case lst xs =>
    cases h
    cases r with
    | dat r =>
      cases r with
      | lst e n r => exact ⟨_, tk, kk, ll, fun m e => (nomatch e), .inr ⟨_, _, rfl, r.stay (Stay.mu_le fun _ m => m.take), .inl (.inl ⟨e, fun z => n z.take.mu, fun z => n (.inr z), xs, rfl⟩)⟩⟩
  case tup xs =>
    cases h
    cases r with
    | dat r =>
      cases r with
      | tup s r =>
        refine ⟨_, tk, kk, ll, fun m e => (nomatch e), .inr ⟨_, _, rfl, r.stay (Stay.mu_le fun _ m => m.take), .inr ⟨?_, xs, rfl⟩⟩⟩
        rcases s with ⟨s, n⟩ | s
        · exact .inl ⟨s, fun z => n z.take⟩
        · exact .inr s
  case ref m =>
    cases r with
    | dat z => cases z
    | @ref a _ z =>
      have hm : m < S1.length := by rw [← st.len]; exact (List.getElem?_eq_some_iff.mp z).1
      have hc : S1[m]? = some S1[m] := by simp [hm]
      have ct := st.at_ m a _ z hc
      generalize hcc : S1[m] = c at *
      obtain ⟨l, cc⟩ := c
      have isl : ∃ ds, cc = .lst ds := by
        cases ct with
        | lst s r => exact ⟨_, rfl⟩
        | dic s e1 e2 r => exfalso; cases l <;> simp [hold, hc] at h
      obtain ⟨ds, rfl⟩ := isl
      obtain ⟨vs, e2, e3⟩ := ct.list
      have nbs : a ∉ φ1.bs := fun z2 => (st.ex a z2).1 (mem_of_get z)
      -- dropped, or not to be changed: no writer
      have drop : l ≠ .mu ∨ ¬ m < S0.length → ¬ Wr (φ1.take S0.length) (S1.take S0.length) a := fun hh ⟨i, c', h1, h2, h3⟩ => by
        obtain ⟨q1, q2⟩ := getElem?_take_le h1
        obtain ⟨q3, _⟩ := getElem?_take_le h2
        have ei : i = m := nd_get st.nd q1 z
        subst ei
        rw [hc] at q3
        cases q3
        rcases hh with hh | hh
        · exact hh h3
        · exact hh q2
      simp only [hold, hc] at h
      cases l with
      | mu =>
        simp only at h
        split at h
        · rename_i hlt
          cases h
          have hc2 : (S1.take S0.length)[m]? = some ⟨.mu, .lst ds⟩ := by rw [List.getElem?_take, if_pos hlt]; exact hc
          have z2 : (φ1.take S0.length).cs[m]? = some a := by
            show (φ1.cs.take S0.length)[m]? = _
            rw [List.getElem?_take, if_pos hlt]; exact z
          obtain ⟨s2, mu2⟩ := relock (l := .lk) tk z2 hc2 (fun q => nomatch q)
          have k2 := Keep.relock (H := H) (l := .lk) hc2 mu2 (fun q => nomatch q)
          have z0 : φ0.cs[m]? = some a := by
            have hl0 : m < φ0.cs.length := by omega
            have e0 : φ0.cs[m]? = some φ0.cs[m] := by simp [hl0]
            have := k.pre m _ e0
            rw [z] at this
            rw [e0, this]
          refine ⟨_, s2, kk.trans k2, by rw [List.length_set]; exact ll, fun m' e => ?_, .inr ⟨a, vs, rfl, e3.stay (Stay.mu_le fun b q => (mu2 b q).take), .inl (.inr ⟨e2, ?_, nbs, m, rfl⟩)⟩⟩
          · cases e
            obtain ⟨vs0, h0⟩ := st0.there z0
            exact ⟨hlt, a, z0, k.wr a (some_ne h0) ⟨m, _, z, hc, rfl⟩⟩
          · rintro ⟨i, c', h1, h2, h3⟩
            have ei : i = m := nd_get tk.nd h1 z2
            subst ei
            rw [List.getElem?_set_self (List.getElem?_eq_some_iff.mp hc2).1] at h2
            cases h2
            cases h3
        · rename_i hlt
          cases h
          exact ⟨_, tk, kk, ll, fun m e => (nomatch e), .inr ⟨a, vs, rfl, e3.stay (Stay.mu_le fun _ q => q.take), .inl (.inr ⟨e2, drop (.inr hlt), nbs, m, rfl⟩)⟩⟩
      | lk =>
        cases h
        exact ⟨_, tk, kk, ll, fun m e => (nomatch e), .inr ⟨a, vs, rfl, e3.stay (Stay.mu_le fun _ q => q.take), .inl (.inr ⟨e2, drop (.inl fun q => nomatch q), nbs, m, rfl⟩)⟩⟩
      | fz =>
        cases h
        exact ⟨_, tk, kk, ll, fun m e => (nomatch e), .inr ⟨a, vs, rfl, e3.stay (Stay.mu_le fun _ q => q.take), .inl (.inr ⟨e2, drop (.inl fun q => nomatch q), nbs, m, rfl⟩)⟩⟩
end

section
variable {X : Cx} {k : Nat} {Φ : CallF} {fs bs : List Str} {pos : Pos} {tg : Expr}
theorem _root_.L2.PI.imp {X : Cx} {tg e : Expr} {t t' : TI} (h : PI X tg e t) (i : ∀ σ H Q, t' σ H Q → t σ H Q) : PI X tg e t' := ⟨fun pins s σ H Q I q => h.run pins s σ H Q I (i σ H Q q)⟩
/-- a sequence or a text -/
theorem si_seq {e : Expr} {f : Env → Cells → R D} (h : PE X e (TEv X.K X.mg f)) : PI X tg e (TIv X.K X.mg fun ρ S => (f ρ S).bind fun d S' => hold S.length d S') := by
  refine ⟨fun pins s σ H R' I q => ?_⟩
  obtain ⟨φ, ρ, S, st, re, q0⟩ := q
  have q1 : AnsW X.K X.mg ((f ρ S).bind fun d S' => hold S.length d S') H φ S R' := q0
  clear q0
  cases ef : f ρ S with
  | exn x S1 => rw [ef] at q1; exact q1.elim
  | stuck => rw [ef] at q1; exact q1.elim
  | ok d S1 =>
    rw [ef] at q1
    have q : AnsW X.K X.mg (hold S.length d S1) H φ S R' := q1
    clear q1
    cases eh : hold S.length d S1 with
    | exn x S2 => rw [eh] at q; exact q.elim
    | stuck => rw [eh] at q; exact q.elim
    | ok w S2 =>
      rw [eh] at q
      -- which of the three
      have seqL : (∃ n, d = .ref n) ∨ (∃ xs, d = .lst xs) → wpAny (model X.prog X.w) X.A (eval e X.env) (fun v s1 => wpAny (model X.prog X.w) X.A (pyIter v) (PIE X pins σ tg R') X.xe s1) X.xe s := fun hd =>
        (pi_list (tg := tg) h).run pins s σ H R' I ⟨φ, ρ, S, st, re, by
          rw [ef]
          intro v H1 φ1 st1 r1 k1
          obtain ⟨φ', s2, k2, l2, lk2, c⟩ := hold_ok st st1 k1 r1 eh
          rcases c with ⟨z, e1, _⟩ | ⟨a, vs, e1, e2, (⟨e3, e4, e5, _⟩ | ⟨e3, e4, e5, _⟩) | ⟨_, xs, e4⟩⟩
          · exfalso
            subst e1
            rcases hd with ⟨n, rfl⟩ | ⟨xs, rfl⟩
            · cases r1 with | dat z => cases z
            · cases r1 with | dat z => cases z
          · exact ⟨a, e1, ⟨vs, .of e3⟩, q _ H1 φ' s2 k2 l2 lk2 (wok_list e3 e4 e5 e2)⟩
          · exact ⟨a, e1, ⟨vs, .of e3⟩, q _ H1 φ' s2 k2 l2 lk2 (wok_list e3 e4 e5 e2)⟩
          · exfalso
            subst e4
            rcases hd with ⟨n, hd⟩ | ⟨xs, hd⟩ <;> cases hd⟩
      cases d <;> try (cases eh; done)
      case ref n => exact seqL (.inl ⟨n, rfl⟩)
      case lst xs => exact seqL (.inr ⟨xs, rfl⟩)
      case tup xs =>
        refine (pi_tup (tg := tg) h).run pins s σ H R' I ⟨φ, ρ, S, st, re, ?_⟩
        rw [ef]
        intro v H1 φ1 st1 r1 k1
        obtain ⟨φ', s2, k2, l2, lk2, c⟩ := hold_ok st st1 k1 r1 eh
        rcases c with ⟨z, e1, _⟩ | ⟨a, vs, e1, e2, (⟨e3, e4, _, ys, e5⟩ | ⟨e3, e4, _, n, e5⟩) | ⟨e3, ys, e4⟩⟩
        · subst e1
          cases r1 with | dat z => cases z
        · cases e5
        · cases e5
        · exact ⟨a, e1, ⟨vs, e3.sq⟩, q _ H1 φ' s2 k2 l2 lk2 (wok_tup e3 e2)⟩
      case str z =>
        refine (pi_str (tg := tg) h).run pins s σ H R' I ⟨φ, ρ, S, st, re, ?_⟩
        rw [ef]
        intro v H1 φ1 st1 r1 k1
        obtain ⟨φ', s2, k2, l2, lk2, c⟩ := hold_ok st st1 k1 r1 eh
        rcases c with ⟨z', e1, e2⟩ | ⟨a, vs, e1, _⟩
        · exact ⟨z', e1, q _ H1 φ' s2 k2 l2 lk2 (by rw [e2]; exact wok_str)⟩
        · rw [rep_str r1] at e1
          cases e1
theorem AnsW.of_ok {K : PySem.W.Frag} {mg : Str → Option Value} {w : Walked} {S' S : Cells} {H : Hp} {φ : Ad} {R' : L2.It → Hp → Prop} (h : AnsW K mg (.ok w S') H φ S R') :
    ∀ J H' φ', StOk K mg H' φ' S' → Keep H φ S H' φ' S' → S'.length = S.length → (∀ m, w.2 = some m → m < S.length ∧ ∃ a, φ.cs[m]? = some a ∧ Wr φ S a) → WOk K mg J H' φ' S' w.1 → R' J H' := h
end
end VS

/-! VS, part K: ranges, enumerate, reversed; comprehensions. -/
namespace VS
open PySem PySem.Spec L2 PyProof.Rows

section
variable {X : Cx} {k : Nat} {Φ : CallF} {fs bs : List Str} {pos : Pos} {tg : Expr}
theorem si_rng1 (g : GX X k Φ fs bs) {a : Expr} {p : Pos} {fa : Env → Cells → R D} (ha : PE X a (TEv X.K X.mg fa)) (hg : Gl X "range") (hb : ("range" : Str) ∈ bs) (hs : starEach [a] X.env = [(false, eval a X.env)]) :
    PI X tg (.Call (.Name "range" p) [a] [] pos) (TIv X.K X.mg fun ρ S => (fa ρ S).bind fun d S' => match d with
      | .int n => .need (decide (n < 4611686018427387904) && decide (-4611686018427387904 ≤ n)) (.ok (rngD 0 n.toNat, none) (S'.take S.length))
      | _ => .stuck) :=
  (pi_range1 hg (g.blts _ hb) (pa_cons ha pa_nil (hs := by rw [hs] <;> rfl)) (hs := hs)).imp fun σ H R' ⟨φ, ρ, S, st, re, q0⟩ => by
    refine ⟨φ, ρ, S, st, re, ?_⟩
    dsimp only at q0
    cases ef : fa ρ S with
    | exn x S1 => rw [ef] at q0; exact q0.elim
    | stuck => rw [ef] at q0; exact q0.elim
    | ok d S1 =>
      rw [ef] at q0
      intro v H1 φ1 st1 r1 k1
      cases d <;> try (exact q0.elim)
      case int n =>
        simp only [R.bind] at q0
        cases c : (decide (n < 4611686018427387904) && decide (-4611686018427387904 ≤ n)) with
        | false => rw [c] at q0; exact q0.elim
        | true =>
          rw [c] at q0
          simp only [Bool.and_eq_true, decide_eq_true_eq] at c
          have hl := keep_len st st1 k1
          refine ⟨n, by rw [rep_int r1], by omega, by omega, ?_⟩
          exact AnsW.of_ok q0 _ H1 (φ1.take S.length) (st1.take _) (k1.take (by rw [st.len])) (by rw [List.length_take]; omega) (fun m e => nomatch e) wok_rng
theorem si_rng2 (g : GX X k Φ fs bs) {a b : Expr} {p : Pos} {fa fb : Env → Cells → R D} (ha : PE X a (TEv X.K X.mg fa)) (hb' : PE X b (TEv X.K X.mg fb)) (hg : Gl X "range") (hb : ("range" : Str) ∈ bs)
    (hs : starEach [a, b] X.env = [(false, eval a X.env), (false, eval b X.env)]) (hs2 : starEach [b] X.env = [(false, eval b X.env)]) :
    PI X tg (.Call (.Name "range" p) [a, b] [] pos) (TIv X.K X.mg fun ρ S => (fa ρ S).bind fun d S1 => (fb ρ S1).bind fun e S' => match d, e with
      | .int m, .int n => .need (decide (n < 4611686018427387904) && decide (-4611686018427387904 ≤ n) && decide (m < 4611686018427387904) && decide (-4611686018427387904 ≤ m)) (.ok (rngD m (n - m).toNat, none) (S'.take S.length))
      | _, _ => .stuck) :=
  (pi_range2 hg (g.blts _ hb) (pa_cons ha (pa_cons hb' pa_nil (hs := by rw [hs2] <;> rfl)) (hs := by rw [hs, hs2])) (hs := hs) (hs2 := hs2)).imp fun σ H R' ⟨φ, ρ, S, st, re, q0⟩ => by
    refine ⟨φ, ρ, S, st, re, ?_⟩
    dsimp only at q0
    cases ef : fa ρ S with
    | exn x S1 => rw [ef] at q0; exact q0.elim
    | stuck => rw [ef] at q0; exact q0.elim
    | ok d S1 =>
      rw [ef] at q0
      simp only [R.bind] at q0
      intro v H1 φ1 st1 r1 k1
      refine ⟨φ1, ρ, S1, st1, re.keep k1, ?_⟩
      cases eg : fb ρ S1 with
      | exn x S2 => rw [eg] at q0; exact q0.elim
      | stuck => rw [eg] at q0; exact q0.elim
      | ok e S2 =>
        rw [eg] at q0
        intro u H2 φ2 st2 r2 k2
        cases d <;> try (exact q0.elim)
        case int m =>
          cases e <;> try (exact q0.elim)
          case int n =>
            simp only at q0
            cases c : (decide (n < 4611686018427387904) && decide (-4611686018427387904 ≤ n) && decide (m < 4611686018427387904) && decide (-4611686018427387904 ≤ m)) with
            | false => rw [c] at q0; exact q0.elim
            | true =>
              rw [c] at q0
              simp only [Bool.and_eq_true, decide_eq_true_eq] at c
              have hl := keep_len st st2 (k1.trans k2)
              refine ⟨m, n, by rw [rep_int r1, rep_int r2], ⟨by omega, by omega, by omega, by omega⟩, ?_⟩
              exact AnsW.of_ok q0 _ H2 (φ2.take S.length) (st2.take _) ((k1.trans k2).take (by rw [st.len])) (by rw [List.length_take]; omega) (fun m e => nomatch e) wok_rng
theorem si_rng3 (g : GX X k Φ fs bs) {a b c : Expr} {p : Pos} {fa fb fc : Env → Cells → R D} (ha : PE X a (TEv X.K X.mg fa)) (hb' : PE X b (TEv X.K X.mg fb)) (hc : PE X c (TEv X.K X.mg fc)) (hg : Gl X "range") (hb : ("range" : Str) ∈ bs)
    (hs : starEach [a, b, c] X.env = [(false, eval a X.env), (false, eval b X.env), (false, eval c X.env)]) (hs2 : starEach [b, c] X.env = [(false, eval b X.env), (false, eval c X.env)]) (hs3 : starEach [c] X.env = [(false, eval c X.env)]) :
    PI X tg (.Call (.Name "range" p) [a, b, c] [] pos) (TIv X.K X.mg fun ρ S => (fa ρ S).bind fun d S1 => (fb ρ S1).bind fun e S2 => (fc ρ S2).bind fun f S' => match d, e, f with
      | .int i, .int j, .int k => .need (decide (k ≠ 0) && decide (k.natAbs < 1073741824) && Builtin.Range.small i j k && decide (0 ≤ Builtin.Range.rangeSize i j k)) (.ok (rngC i k (Builtin.Range.rangeSize i j k).toNat, none) (S'.take S.length))
      | _, _, _ => .stuck) :=
  (pi_range3 hg (g.blts _ hb) (pa_cons ha (pa_cons hb' (pa_cons hc pa_nil (hs := by rw [hs3] <;> rfl)) (hs := by rw [hs2, hs3])) (hs := by rw [hs, hs2])) (hs := by rw [hs, hs2]) (hpl := by rw [hs2] <;> rfl)).imp fun σ H R' ⟨φ, ρ, S, st, re, q0⟩ => by
    refine ⟨φ, ρ, S, st, re, ?_⟩
    dsimp only at q0
    cases ef : fa ρ S with
    | exn x S1 => rw [ef] at q0; exact q0.elim
    | stuck => rw [ef] at q0; exact q0.elim
    | ok d S1 =>
      rw [ef] at q0
      simp only [R.bind] at q0
      intro v H1 φ1 st1 r1 k1
      refine ⟨φ1, ρ, S1, st1, re.keep k1, ?_⟩
      cases eg : fb ρ S1 with
      | exn x S2 => rw [eg] at q0; exact q0.elim
      | stuck => rw [eg] at q0; exact q0.elim
      | ok e S2 =>
        rw [eg] at q0
        simp only [R.bind] at q0
        intro u H2 φ2 st2 r2 k2
        refine ⟨φ2, ρ, S2, st2, (re.keep k1).keep k2, ?_⟩
        cases eh : fc ρ S2 with
        | exn x S3 => rw [eh] at q0; exact q0.elim
        | stuck => rw [eh] at q0; exact q0.elim
        | ok f S3 =>
          rw [eh] at q0
          intro w H3 φ3 st3 r3 k3
          cases d <;> try (exact q0.elim)
          case int i =>
            cases e <;> try (exact q0.elim)
            case int j =>
              cases f <;> try (exact q0.elim)
              case int k =>
                simp only at q0
                cases c : (decide (k ≠ 0) && decide (k.natAbs < 1073741824) && Builtin.Range.small i j k && decide (0 ≤ Builtin.Range.rangeSize i j k)) with
                | false => rw [c] at q0; exact q0.elim
                | true =>
                  rw [c] at q0
                  simp only [Bool.and_eq_true, decide_eq_true_eq] at c
                  have kk := (k1.trans k2).trans k3
                  have hl := keep_len st st3 kk
                  refine ⟨i, j, k, (Builtin.Range.rangeSize i j k).toNat, by rw [rep_int r1, rep_int r2, rep_int r3], ⟨c.1.1.1, c.1.1.2, c.1.2, (Int.toNat_of_nonneg c.2).symm⟩, ?_⟩
                  exact AnsW.of_ok q0 _ H3 (φ3.take S.length) (st3.take _) (kk.take (by rw [st.len])) (by rw [List.length_take]; omega) (fun m e => nomatch e) wok_rngC
theorem si_hold {f : Env → Cells → R D} {h : List D → List D} {R' : L2.It → Hp → Prop} {φ : Ad} {ρ : Env} {S : Cells} {H : Hp} {Q : V → Hp → Prop} (st : StOk X.K X.mg H φ S)
    (q0 : AnsW X.K X.mg ((f ρ S).bind fun d S' => (holdL S.length d S').bind fun w S => .ok (w.map h) S) H φ S R')
    (i : ∀ a vs ds H1 φ' S2, H1 a = some (.lst vs) → ¬ Wr φ' S2 a → a ∉ φ'.bs → Dats X.K X.mg H1 (Mu φ' S2) vs ds → (∀ J, WOk X.K X.mg J H1 φ' S2 (h ds) → R' J H1) → Q (.ref a) H1) : Ans X.K X.mg (f ρ S) H φ S Q := by
  cases ef : f ρ S with
  | exn x S1 => rw [ef] at q0; exact q0.elim
  | stuck => rw [ef] at q0; exact q0.elim
  | ok d S1 =>
    rw [ef] at q0
    simp only [R.bind] at q0
    intro v H1 φ1 st1 r1 k1
    cases eh : hold S.length d S1 with
    | exn x S2 => cases d <;> first | exact q0.elim | (simp only [holdL, eh] at q0; exact q0.elim)
    | stuck => cases d <;> first | exact q0.elim | (simp only [holdL, eh] at q0; exact q0.elim)
    | ok w S2 =>
      have q1 : AnsW X.K X.mg (.ok (w.map h) S2) H φ S R' := by
        cases d <;> first | exact q0.elim | (simp only [holdL, eh] at q0; exact q0)
      have hd : (∃ n, d = .ref n) ∨ ∃ xs, d = .lst xs := by
        cases d <;> first | exact q0.elim | exact .inl ⟨_, rfl⟩ | exact .inr ⟨_, rfl⟩
      obtain ⟨φ', s2, k2, l2, lk2, c⟩ := hold_ok st st1 k1 r1 eh
      rcases c with ⟨z, e1, _⟩ | ⟨a, vs, e1, e2, (⟨e3, e4, nbs, _⟩ | ⟨e3, e4, nbs, _⟩) | ⟨_, xs, e4⟩⟩
      · exfalso
        subst e1
        rcases hd with ⟨n, rfl⟩ | ⟨xs, rfl⟩
        · cases r1 with | dat z => cases z
        · cases r1 with | dat z => cases z
      · subst e1; exact i a vs w.1 H1 φ' S2 e3 e4 nbs e2 fun J wk => AnsW.of_ok q1 J H1 φ' s2 k2 l2 lk2 wk
      · subst e1; exact i a vs w.1 H1 φ' S2 e3 e4 nbs e2 fun J wk => AnsW.of_ok q1 J H1 φ' s2 k2 l2 lk2 wk
      · exfalso
        subst e4
        rcases hd with ⟨n, hd⟩ | ⟨xs, hd⟩ <;> cases hd
theorem si_enum (g : GX X k Φ fs bs) {e : Expr} {p tpos : Pos} {elts : List Expr} {kk : Nat} {f : Env → Cells → R D} (h : PE X e (TEv X.K X.mg f)) (hg : Gl X "enumerate") (hb : ("enumerate" : Str) ∈ bs) (hs : starEach [e] X.env = [(false, eval e X.env)]) :
    PI X (.Tuple elts kk tpos) (.Call (.Name "enumerate" p) [e] [] pos) (TIv X.K X.mg fun ρ S => (f ρ S).bind fun d S' => (holdL S.length d S').bind fun w S => .ok (w.map enumD) S) :=
  (pi_enum hg (g.blts _ hb) (pa_cons h pa_nil (hs := by rw [hs] <;> rfl)) (hs := hs)).imp fun σ H R' ⟨φ, ρ, S, st, re, q0⟩ =>
    ⟨φ, ρ, S, st, re, si_hold st q0 fun a vs ds H1 φ' S2 e3 e4 e5 e2 q => ⟨a, vs, rfl, .of e3, q _ (wok_enum e3 e4 e5 e2)⟩⟩
theorem si_rev (g : GX X k Φ fs bs) {e : Expr} {p : Pos} {f : Env → Cells → R D} (h : PE X e (TEv X.K X.mg f)) (hg : Gl X "reversed") (hb : ("reversed" : Str) ∈ bs) (hs : starEach [e] X.env = [(false, eval e X.env)]) :
    PI X tg (.Call (.Name "reversed" p) [e] [] pos) (TIv X.K X.mg fun ρ S => (f ρ S).bind fun d S' => (holdL S.length d S').bind fun w S => .ok (w.map List.reverse) S) :=
  (pi_reversed hg (g.blts _ hb) (pa_cons h pa_nil (hs := by rw [hs] <;> rfl)) (hs := hs)).imp fun σ H R' ⟨φ, ρ, S, st, re, q0⟩ =>
    ⟨φ, ρ, S, st, re, si_hold st q0 fun a vs ds H1 φ' S2 e3 e4 e5 e2 q => ⟨a, vs, rfl, .of e3, q _ (wok_rev e3 e4 e5 e2)⟩⟩
end

/-! ### targets, slots -/
section
variable {K : PySem.W.Frag} {mg : Str → Option Value} {H : Hp} {φ : Ad} {S : Cells} {σ : L2.St} {ρ : Env}
theorem REnv.set (re : REnv K mg H φ S σ ρ) {i : Nat} {v : V} {d : D} (r : Rep K mg H φ S v d) : REnv K mg H φ S (σ.set i (some v)) (ρ.set i (some d)) := by
  refine ⟨by simp [re.len], fun j e h => ?_⟩
  by_cases hi : i = j
  · subst hi
    have hl : i < ρ.length := by
      have := (List.getElem?_eq_some_iff.mp h).1
      simpa using this
    rw [List.getElem?_set_self hl] at h
    cases h
    exact ⟨v, List.getElem?_set_self (by rw [← re.len]; exact hl), r⟩
  · rw [List.getElem?_set_ne hi] at h ⊢
    exact re.at_ j e h
theorem REnv.wipe (re : REnv K mg H φ S σ ρ) : ∀ vs : List Nat, REnv K mg H φ S (L2.wipe σ vs) (wipeE ρ vs)
  | [] => re
  | v :: vs => by
    have ih := REnv.wipe re vs
    refine ⟨by show ((wipeE ρ vs).set v none).length = ((L2.wipe σ vs).set v none).length; simp [ih.len], fun j e h => ?_⟩
    have h : ((wipeE ρ vs).set v none)[j]? = some (some e) := h
    show ∃ w, ((L2.wipe σ vs).set v none)[j]? = some (some w) ∧ _
    by_cases hi : v = j
    · subst hi
      have hl := (List.getElem?_eq_some_iff.mp h).1
      rw [List.getElem?_set_self (by simpa using hl)] at h
      cases h
    · rw [List.getElem?_set_ne hi] at h ⊢
      exact ih.at_ j e h
theorem wipe_set (σ : L2.St) (i : Nat) (o : Option V) (vs : List Nat) (h : i ∈ vs) : L2.wipe (σ.set i o) vs = L2.wipe σ vs := by
  induction vs with
  | nil => cases h
  | cons v vs ih =>
    show (L2.wipe (σ.set i o) vs).set v none = (L2.wipe σ vs).set v none
    by_cases hv : i = v
    · subst hv
      have key : ∀ (vs : List Nat) (τ : L2.St), (L2.wipe (τ.set i o) vs).set i none = (L2.wipe τ vs).set i none := by
        intro vs
        induction vs with
        | nil => intro τ; show (τ.set i o).set i none = τ.set i none; rw [List.set_set]
        | cons w ws ih2 =>
          intro τ
          show ((L2.wipe (τ.set i o) ws).set w none).set i none = ((L2.wipe τ ws).set w none).set i none
          by_cases hw : w = i
          · subst hw; rw [List.set_set, List.set_set]; exact ih2 τ
          · rw [List.set_comm _ _ hw, List.set_comm _ _ hw, ih2 τ]
      exact key vs σ
    · rcases List.mem_cons.mp h with z | z
      · exact absurd z hv
      · rw [ih z]
theorem wipe_wipe (σ : L2.St) : ∀ vs : List Nat, L2.wipe (L2.wipe σ vs) vs = L2.wipe σ vs := by
  have key : ∀ (ws vs : List Nat), (∀ v ∈ ws, v ∈ vs) → L2.wipe (L2.wipe σ ws) vs = L2.wipe σ vs := by
    intro ws
    induction ws with
    | nil => intro vs _; rfl
    | cons w ws ih =>
      intro vs h
      show L2.wipe ((L2.wipe σ ws).set w none) vs = _
      rw [wipe_set _ _ _ _ (h w List.mem_cons_self), ih vs fun v hv => h v (List.mem_cons_of_mem _ hv)]
  exact fun vs => key vs vs fun _ h => h
end

/-- a target's reading -/
structure TgOk (X : Cx) (tg : Expr) (t : Tg) (g : TG) (vs : List Nat) : Prop where
  pg : PG X tg g
  to : ∀ {H : Hp} {φ : Ad} {S : Cells} {σ : L2.St} {ρ ρ' : Env} {v : V} {d : D} {Q : L2.St → Hp → Prop}, StOk X.K X.mg H φ S → REnv X.K X.mg H φ S σ ρ → Rep X.K X.mg H φ S v d → asg t d ρ = some ρ' →
    (∀ σ', REnv X.K X.mg H φ S σ' ρ' → (∀ ws : List Nat, (∀ i ∈ vs, i ∈ ws) → L2.wipe σ' ws = L2.wipe σ ws) → Q σ' H) → g v σ H Q
section
variable {X : Cx} {pos : Pos}
theorem tg_name {i : Nat} {x : Str} (hN : X.N.Nodup) (hi : X.N[i]? = some x) (hx : Loc X.env.scope x) (hf : X.fn x = true ∨ X.env.scope.names.lookup x = some .local) : TgOk X (.Name x pos) (.v i) (gName i) [i] where
  pg := pg_name hN hi hx hf
  to := fun {H φ S σ ρ ρ' v d Q} st re r e q => by
    cases e
    exact q _ (re.set r) fun ws hw => wipe_set σ i (some v) ws (hw i List.mem_cons_self)
/-- several names -/
structure TgsOk (X : Cx) (tgs : List Expr) (is : List Nat) (g : TGs) : Prop where
  pg : PGs X tgs g
  to : ∀ {H : Hp} {φ : Ad} {S : Cells} {σ : L2.St} {ρ ρ' : Env} {vs : List V} {ds : List D} {Q : L2.St → Hp → Prop}, StOk X.K X.mg H φ S → REnv X.K X.mg H φ S σ ρ → Repl X.K X.mg H φ S vs ds → asgs is ds ρ = some ρ' →
    (∀ σ', REnv X.K X.mg H φ S σ' ρ' → (∀ ws : List Nat, (∀ i ∈ is, i ∈ ws) → L2.wipe σ' ws = L2.wipe σ ws) → Q σ' H) → g vs σ H Q
theorem tgs_nil : TgsOk X [] [] gNil where
  pg := pgs_nil
  to := fun {H φ S σ ρ ρ' vs ds Q} st re r e q => by
    cases r with
    | nil => cases e; exact ⟨rfl, q _ re fun _ _ => rfl⟩
    | cons _ _ => cases e
theorem tgs_cons {e : Expr} {es : List Expr} {i : Nat} {is : List Nat} {g : TG} {gs : TGs} (h1 : TgOk X e (.v i) g [i]) (h2 : TgsOk X es is gs) (hs : (assignEach (e :: es) X.env).map (·.2) = assign e X.env :: (assignEach es X.env).map (·.2)) : TgsOk X (e :: es) (i :: is) (gCons g gs) where
  pg := pgs_cons h1.pg h2.pg hs
  to := fun {H φ S σ ρ ρ' vs ds Q} st re r e q => by
    cases r with
    | nil => cases e
    | @cons v vs d ds r rr =>
      refine ⟨v, vs, rfl, h1.to st re r (show asg (.v i) d ρ = some (ρ.set i (some d)) from rfl) fun σ1 re1 w1 => ?_⟩
      exact h2.to st re1 rr e fun σ2 re2 w2 => q σ2 re2 fun ws hw => (w2 ws fun j hj => hw j (List.mem_cons_of_mem _ hj)).trans (w1 ws fun j hj => hw j (by rw [List.mem_singleton] at hj; subst hj; exact List.mem_cons_self))
theorem Dats.repl {K : PySem.W.Frag} {mg : Str → Option Value} {H : Hp} {φ : Ad} {S : Cells} : ∀ {vs : List V} {ds : List D}, Dats K mg H (Mu φ S) vs ds → Repl K mg H φ S vs ds
  | _, [], h => by cases h; exact .nil
  | _, _ :: _, h => by cases h with | cons a b => exact .cons (.dat a) (Dats.repl b)
theorem tg_tup {es : List Expr} {kk : Nat} {is : List Nat} {gs : TGs} (hc : X.calm = true) (h : TgsOk X es is gs) (hl : (assignEach es X.env).length = is.length) (hst : (assignEach es X.env).findIdx? (·.1) = none) : TgOk X (.Tuple es kk pos) (.tup is) (gTup X.K is.length gs) is where
  pg := pg_tup hc h.pg hl hst
  to := fun {H φ S σ ρ ρ' v d Q} st re r e q => by
    cases d <;> try (cases e; done)
    case tup ds =>
      have e : asgs is ds ρ = some ρ' := e
      obtain ⟨a, vs, e1, e2, e3⟩ := (Vw.dat (by cases r with | dat z => exact z) : Vw X.K X.mg H φ S v (.tup ds)).tup
      have len : ∀ (is : List Nat) (ds : List D) (ρ : Env), asgs is ds ρ = some ρ' → ds.length = is.length := by
        intro is
        induction is with
        | nil => intro ds ρ h; cases ds with | nil => rfl | cons _ _ => cases h
        | cons i is ih => intro ds ρ h; cases ds with | nil => cases h | cons d ds => simp [ih ds _ h]
      exact ⟨a, vs, e1, e2, by rw [e3.length]; exact len is ds ρ e, h.to st re e3.repl e q⟩
end
end VS

/-! VS, part L: comprehensions. -/
namespace VS
open PySem PySem.Spec L2 PyProof.Rows

/-- tests of a comprehension -/
structure TsOk (X : Cx) (ifs : List Expr) (tt : TT) (f : Env → Cells → R Bool) : Prop where
  pt : PTs X ifs tt
  to : ∀ {H : Hp} {φ : Ad} {S S1 : Cells} {σ : L2.St} {ρ : Env} {t : Bool} {Q : Bool → Hp → Prop}, StOk X.K X.mg H φ S → REnv X.K X.mg H φ S σ ρ → f ρ S = .ok t S1 →
    (∀ H' φ', StOk X.K X.mg H' φ' (S1.take S.length) → Keep H φ S H' φ' (S1.take S.length) → Q t H') → tt σ H Q
section
variable {X : Cx} {k : Nat} {Φ : CallF} {fs bs : List Str} {pos : Pos}
theorem ts_nil : TsOk X [] tYes (fun _ S => .ok true S) where
  pt := pts_nil
  to := fun {H φ S S1 σ ρ t Q} st re e q => by
    cases e
    have := q H φ (by rw [List.take_length]; exact st) (by rw [List.take_length]; exact Keep.refl _ _ _)
    exact this
theorem ts_one {c : Expr} {f : Env → Cells → R D} (h : PT X c (TTv X.K X.mg f)) : TsOk X [c] (TTv X.K X.mg f) (fun ρ S => (f ρ S).bind fun d S => match truth S d with
    | some true => .ok true S
    | some false => .ok false S
    | none => .stuck) where
  pt := pts_one h
  to := fun {H φ S S1 σ ρ t Q} st re e q => by
    refine ⟨φ, ρ, S, st, re, ?_⟩
    cases ef : f ρ S with
    | exn x S2 => rw [ef] at e; cases e
    | stuck => rw [ef] at e; cases e
    | ok d S2 =>
      rw [ef] at e
      simp only [R.bind] at e
      rw [tst]
      cases et : truth S2 d with
      | none => rw [et] at e; cases e
      | some b =>
        rw [et] at e
        have e2 : t = b ∧ S1 = S2 := by cases b <;> (cases e; exact ⟨rfl, rfl⟩)
        obtain ⟨rfl, rfl⟩ := e2
        intro v H' φ' st' r' k'
        exact ⟨t, rep_bl r', q H' φ' st' k'⟩
end

section
variable {K : PySem.W.Frag} {mg : Str → Option Value} {H : Hp} {φ : Ad} {S : Cells}
theorem StOk.nowr (st : StOk K mg H φ S) {D : Addr} (h : D ∈ φ.bs) : ¬ Wr φ S D := fun ⟨n, c, h1, _, _⟩ => (st.ex D h).1 (mem_of_get h1)
/-- a new thing, kept to oneself -/
theorem ban_new (st : StOk K mg H φ S) {D : Addr} {o : HO} (hD : H D = none) : StOk K mg (upd H D o) ⟨φ.cs, D :: φ.bs⟩ S ∧ Keep0 H φ S (upd H D o) ⟨φ.cs, D :: φ.bs⟩ S := by
  have mu : ∀ a, Mu ⟨φ.cs, D :: φ.bs⟩ S a → a = D ∨ Mu φ S a := fun a z => by
    rcases z with z | z
    · exact .inr (.inl z)
    · rcases List.mem_cons.mp z with z | z
      · exact .inl z
      · exact .inr (.inr z)
  have sy : Stay H (Mu φ S) (upd H D o) (Mu ⟨φ.cs, D :: φ.bs⟩ S) := Stay.new hD mu
  have ne : ∀ a, H a ≠ none → a ≠ D := fun a h z => by subst z; exact h hD
  have th : ∀ a, H a ≠ none → upd H D o a ≠ none := fun a h => by rw [upd_ne (ne a h)]; exact h
  refine ⟨⟨st.len, st.nd, fun b hb => ?_, fun n a c h1 h2 => ?_⟩, ⟨fun _ _ h => h, fun a h m => (mu a m).elim (fun z => absurd z (ne a h)) id, fun _ _ m => m, fun a u e _ => by rw [upd_ne (ne_of_none e hD)]; exact e, th⟩⟩
  · rcases List.mem_cons.mp hb with z | z
    · subst z; exact ⟨fresh_not st hD, by rw [upd_same]; exact fun q => nomatch q⟩
    · exact ⟨(st.ex b z).1, th b (st.ex b z).2⟩
  ·   exact (st.at_ n a c h1 h2).stay sy fun u e => by rw [upd_ne (ne_of_none e hD)]; exact e
/-- it is written -/
theorem ban_write (st : StOk K mg H φ S) {D : Addr} {o : HO} (hD : D ∈ φ.bs) : StOk K mg (upd H D o) φ S ∧ Stay H (Mu φ S) (upd H D o) (Mu φ S) := by
  have ne : ∀ a, ¬ Mu φ S a → a ≠ D := fun a h z => h (.inr (by rw [z]; exact hD))
  have sy : Stay H (Mu φ S) (upd H D o) (Mu φ S) := ⟨fun a u e n => by rw [upd_ne (ne a n)]; exact e, fun _ _ m => m⟩
  have th : ∀ a, H a ≠ none → upd H D o a ≠ none := fun a h => by
    by_cases z : a = D
    · subst z; rw [upd_same]; exact fun q => nomatch q
    · rw [upd_ne z]; exact h
  refine ⟨⟨st.len, st.nd, fun b hb => ⟨(st.ex b hb).1, th b (st.ex b hb).2⟩, fun n a c h1 h2 => ?_⟩, sy⟩
  exact (st.at_ n a c h1 h2).stay sy fun u e => by
    rw [upd_ne fun z => (st.ex D hD).1 (by rw [← z]; exact mem_of_get h1)]
    exact e
/-- it becomes a cell -/
theorem ban_cell (st : StOk K mg H φ S) {D : Addr} {bs0 : List Addr} {vs : List V} {ds : List VS.D} (hb : φ.bs = D :: bs0) (hD : H D = some (.lst vs)) (r : Dats K mg H (Mu φ S) vs ds) :
    StOk K mg H ⟨φ.cs ++ [D], bs0.filter (fun b => b ≠ D)⟩ (S ++ [⟨.mu, .lst ds⟩]) := by
  have nD : D ∉ φ.cs := (st.ex D (by rw [hb]; exact List.mem_cons_self)).1
  have split : ∀ {i : Nat} {a : Addr} {c : Cell}, (φ.cs ++ [D])[i]? = some a → (S ++ [⟨.mu, .lst ds⟩])[i]? = some c → (φ.cs[i]? = some a ∧ S[i]? = some c) ∨ (a = D ∧ c = ⟨.mu, .lst ds⟩) := by
    intro i a c h1 h2
    by_cases hi : i < φ.cs.length
    · rw [List.getElem?_append_left hi] at h1
      rw [List.getElem?_append_left (by rw [← st.len]; exact hi)] at h2
      exact .inl ⟨h1, h2⟩
    · rw [List.getElem?_append_right (by omega)] at h1
      rw [List.getElem?_append_right (by rw [← st.len]; omega), ← st.len] at h2
      have hz : i - φ.cs.length = 0 := by
        by_cases z : i - φ.cs.length = 0
        · exact z
        · rw [List.getElem?_eq_none (by simp; omega)] at h1; cases h1
      rw [hz] at h1 h2
      simp at h1 h2
      exact .inr ⟨h1.symm, h2.symm⟩
  have mu : ∀ a, Mu ⟨φ.cs ++ [D], bs0.filter (fun b => b ≠ D)⟩ (S ++ [⟨.mu, .lst ds⟩]) a → Mu φ S a := fun a z => by
    rcases z with ⟨i, c, h1, h2, h3⟩ | z
    · rcases split h1 h2 with ⟨q1, q2⟩ | ⟨q1, _⟩
      · exact .inl ⟨i, c, q1, q2, h3⟩
      · exact .inr (by rw [hb, q1]; exact List.mem_cons_self)
    · exact .inr (by rw [hb]; exact List.mem_cons_of_mem _ (List.mem_filter.mp z).1)
  refine ⟨by simp [st.len], ?_, fun b hb' => ⟨fun z => ?_, (st.ex b (by rw [hb]; exact List.mem_cons_of_mem _ (List.mem_filter.mp hb').1)).2⟩, fun n a c h1 h2 => ?_⟩
  · show (φ.cs ++ [D]).Nodup
    rw [List.nodup_append]
    refine ⟨st.nd, (by simp), fun x hx y hy e => ?_⟩
    rw [List.mem_singleton] at hy
    subst hy; subst e
    exact nD hx
  · obtain ⟨q1, q2⟩ := List.mem_filter.mp hb'
    rcases List.mem_append.mp (show b ∈ φ.cs ++ [D] from z) with z | z
    · exact (st.ex b (by rw [hb]; exact List.mem_cons_of_mem _ q1)).1 z
    · rw [List.mem_singleton] at z
      simp [z] at q2
  · rcases split h1 h2 with ⟨q1, q2⟩ | ⟨q1, q2⟩
    · exact (st.at_ n a c q1 q2).stay (Stay.mu_le mu) fun _ e => e
    · subst q1; subst q2
      exact .lst hD (r.stay (Stay.mu_le mu))

/-- the walked cell is let go -/
theorem free_ok {H0 : Hp} {φ0 : Ad} {S0 S' : Cells} {lk : Option Nat} (st : StOk K mg H φ S) (k : Keep0 H0 φ0 S0 H φ S) (hl : ∀ m, lk = some m → m < S0.length ∧ ∃ a, φ0.cs[m]? = some a ∧ Wr φ0 S0 a) (h : free lk S = some S') :
    StOk K mg H φ S' ∧ Keep0 H0 φ0 S0 H φ S' ∧ S'.length = S.length ∧ (∀ a, Mu φ S' a → Mu φ S a) := by
  cases lk with
  | none => cases h; exact ⟨st, k, rfl, fun _ m => m⟩
  | some m =>
    unfold free at h
    simp only at h
    split at h
    · rename_i c hc
      cases h
      obtain ⟨hm, a, ha, wa⟩ := hl m rfl
      have ha' := k.pre m a ha
      obtain ⟨s2, mu2⟩ := relock (l := .mu) st ha' hc (fun q => nomatch q)
      refine ⟨s2, ⟨k.pre, fun b hb z => k.mu b hb (mu2 b z), fun b hb ⟨i, c', h1, h2, h3⟩ => ?_, k.frame, k.there⟩, by simp, mu2⟩
      by_cases hi : m = i
      · subst hi
        rw [ha'] at h1; cases h1
        exact wa
      · rw [List.getElem?_set_ne hi] at h2
        exact k.wr b hb ⟨i, c', h1, h2, h3⟩
    · cases h
end

section
variable {X : Cx} {k : Nat} {Φ : CallF} {fs bs : List Str} {pos : Pos}
/-- one turn of a comprehension, by the interpreter -/
def lcF (t : Tg) (w : List Nat) (fT : Env → Cells → R Bool) (fE : Env → Cells → R D) (ρ : Env) (x : D) (S : Cells) : R (List D) :=
  match asg t x (wipeE ρ w) with
  | some ρ => ((fT ρ S).only).bind fun t S1 => if t then keep S.length ((fE ρ (S1.take S.length)).bind frz) else .ok [] (S1.take S.length)
  | none => .stuck
theorem keep_ok {n : Nat} {r : R D} {ys : List D} {S' : Cells} (h : keep n r = .ok ys S') : ∃ d S, r = .ok d S ∧ ys = [d] ∧ S' = S.take n := by
  cases r with
  | ok d S => cases h; exact ⟨d, S, rfl, rfl, rfl⟩
  | exn x S => cases h
  | stuck => cases h
theorem bind_ok {α β : Type} {r : R α} {f : α → Cells → R β} {b : β} {S : Cells} (h : r.bind f = .ok b S) : ∃ a S1, r = .ok a S1 ∧ f a S1 = .ok b S := by
  cases r with
  | ok a S1 => exact ⟨a, S1, rfl, h⟩
  | exn x S1 => cases h
  | stuck => cases h
theorem only_ok {α : Type} {r : R α} {a : α} {S : Cells} (h : r.only = .ok a S) : r = .ok a S := by
  cases r with
  | ok b S1 => exact h
  | exn x S1 => cases h
  | stuck => cases h
/-- the turns' reading -/
theorem lc_loop {J : L2.It} {H1 : Hp} {φ1 : Ad} {S1 Se : Cells} {σ : L2.St} {ρ : Env} {ds total : List D} {g : TG} {t : Tg} {tt : TT} {te : TE} {w vt : List Nat} {fT : Env → Cells → R Bool} {fE : Env → Cells → R D} {Qd : Hp → Prop} {D : Addr}
    (st1 : StOk X.K X.mg H1 φ1 S1) (re : REnv X.K X.mg H1 φ1 S1 σ ρ) (wk : WOk X.K X.mg J H1 φ1 S1 ds) (hv : ∀ i ∈ vt, i ∈ w)
    (tg : ∀ {H : Hp} {φ : Ad} {S : Cells} {σ : L2.St} {ρ ρ' : Env} {v : V} {d : VS.D} {Q : L2.St → Hp → Prop}, StOk X.K X.mg H φ S → REnv X.K X.mg H φ S σ ρ → Rep X.K X.mg H φ S v d → asg t d ρ = some ρ' →
      (∀ σ', REnv X.K X.mg H φ S σ' ρ' → (∀ ws : List Nat, (∀ i ∈ vt, i ∈ ws) → L2.wipe σ' ws = L2.wipe σ ws) → Q σ' H) → g v σ H Q)
    (ts : ∀ {H : Hp} {φ : Ad} {S S1 : Cells} {σ : L2.St} {ρ : Env} {t : Bool} {Q : Bool → Hp → Prop}, StOk X.K X.mg H φ S → REnv X.K X.mg H φ S σ ρ → fT ρ S = .ok t S1 →
      (∀ H' φ', StOk X.K X.mg H' φ' (S1.take S.length) → Keep H φ S H' φ' (S1.take S.length) → Q t H') → tt σ H Q)
    (el : ∀ {σ : L2.St} {H : Hp} {Q : VK}, TEv X.K X.mg fE σ H Q → te σ H Q)
    (tot : turns (lcF t w fT fE ρ) ds S1 = .ok total Se) (hline : total.length ≤ line) (hD : H1 D = none)
    (hd : ∀ H φ vs, StOk X.K X.mg H φ Se → Keep0 H1 φ1 S1 H φ Se → φ.bs = D :: φ1.bs → Se.length = S1.length → H D = some (.lst vs) → Dats X.K X.mg H (Mu φ Se) vs total → Qd H) :
    ∃ W : Nat → Nat → Hp → Prop, (∃ m, W 0 m (upd H1 D (.lst []))) ∧ ∀ i m H, W i m H →
      (J.stop i H ∧ Qd H) ∨ (J.go i H ∧ ∃ Nx : Hp → Prop, (∀ H', Nx H' → ∃ m', m' < m ∧ W (i + 1) m' H') ∧ ∀ x H', J.yld i H x H' → g x (L2.wipe σ w) H' fun σ2 H2 => L2.wipe σ2 w = L2.wipe σ w ∧ tt σ2 H2 fun b H3 =>
        if b = true then te σ2 H3 fun y H4 => ∃ acc, H4 D = some (.lst acc) ∧ acc.length < sizeLine ∧ Nx (upd H4 D (.lst (acc ++ [y]))) else Nx H3) := by
  obtain ⟨G, Y, wl, stay, give⟩ := wk
  have hb := ban_new (o := .lst []) st1 hD
  refine lc_it wl (fun i H => ∃ φi Si accv acc rest, StOk X.K X.mg H φi Si ∧ Keep0 H1 φ1 S1 H φi Si ∧ φi.bs = D :: φ1.bs ∧ Si.length = S1.length ∧ H D = some (.lst accv) ∧ Dats X.K X.mg H (Mu φi Si) accv acc ∧
    turns (lcF t w fT fE ρ) (ds.drop i) Si = .ok rest Se ∧ total = acc ++ rest) ?_ ?_ ?_ ?_
  · exact ⟨_, S1, [], [], total, hb.1, hb.2, rfl, rfl, upd_same, .nil, tot, rfl⟩
  · rintro i H _ ⟨φi, Si, accv, acc, rest, st, k0, _⟩
    exact stay none H φi Si (fun _ z => nomatch z) k0.x
  · rintro i x H H' hi ⟨φi, Si, accv, acc, rest, st, k0, ebs, esz, eD, da, et, etot⟩ y
    obtain ⟨d, ed, st', dx, kx, same⟩ := give none i H φi Si x H' (fun _ z => nomatch z) hi st k0.x y
    have hdrop : ds.drop i = d :: ds.drop (i + 1) := by
      rw [List.drop_eq_getElem_cons hi]
      congr 1
      rw [List.getElem?_eq_getElem hi] at ed
      exact Option.some.inj ed
    rw [hdrop] at et
    obtain ⟨ys, S2, e1, e2⟩ := bind_ok et
    obtain ⟨zs, S3, e3, e4⟩ := bind_ok e2
    cases e4
    unfold lcF at e1
    split at e1
    · rename_i ρ1 easg
      obtain ⟨b, S4, e5, e6⟩ := bind_ok e1
      have e5 := only_ok e5
      have re' : REnv X.K X.mg H' φi Si (L2.wipe σ w) (wipeE ρ w) := ((re.keep0 k0).keep kx).wipe w
      have eD' : H' D = some (.lst accv) := by rw [same D (some_ne eD)]; exact eD
      refine tg st' re' (.dat dx) easg fun σ2 re2 w2 => ⟨by rw [w2 w hv, wipe_wipe], ts st' re2 e5 fun H3 φ3 st3 k3 => ?_⟩
      have memD : D ∈ φ3.bs := by rw [k3.bs, ebs]; exact List.mem_cons_self
      have da3 := (da.stay kx.stay).stay k3.stay
      have hD3 : H3 D = some (.lst accv) := k3.frame D _ eD' (st'.nowr (by rw [ebs]; exact List.mem_cons_self))
      have len3 : (S4.take Si.length).length = Si.length := (take_len st' st3 k3).1
      have k03 : Keep0 H1 φ1 S1 H3 φ3 (S4.take Si.length) := (k0.trans kx.k0).trans k3.k0
      cases b with
      | false =>
        rw [if_neg Bool.false_ne_true] at e6 ⊢
        cases e6
        exact ⟨φ3, _, accv, acc, zs, st3, k03, by rw [k3.bs, ebs], by rw [len3, esz], hD3, da3, e3, etot⟩
      | true =>
        rw [if_pos rfl] at e6 ⊢
        obtain ⟨e', S6, e7, e8, e9⟩ := keep_ok e6
        obtain ⟨e0, S5, e10, e11⟩ := bind_ok e7
        subst e8 e9
        refine el ⟨φ3, ρ1, _, st3, re2.keep k3, ?_⟩
        rw [e10]
        intro u H4 φ4 st4 r4 k4
        obtain ⟨st5, du, k5⟩ := frz_ok st4 r4 e11
        have k45 := k4.trans k5
        have hD4 : H4 D = some (.lst accv) := k45.frame D _ hD3 (st3.nowr memD)
        have nlen : Si.length = φ3.cs.length := by rw [st3.len, len3]
        have st6 := st5.take Si.length
        have k6 : Keep H3 φ3 (S4.take Si.length) H4 (φ4.take Si.length) (S6.take Si.length) := k45.take nlen
        have da6 := da3.stay k6.stay
        have du6 := du.le (M' := Mu (φ4.take Si.length) (S6.take Si.length)) fun a m => m.take
        have mem6 : D ∈ (φ4.take Si.length).bs := by rw [k6.bs]; exact memD
        obtain ⟨st7, sy7⟩ := ban_write (o := .lst (accv ++ [u])) st6 mem6
        have len6 := keep_len st3 st6 k6
        refine ⟨accv, hD4, ?_, φ4.take Si.length, S6.take Si.length, accv ++ [u], acc ++ [e'], zs, st7, ?_, by rw [k6.bs, k3.bs, ebs], ?_, upd_same, (da6.append (.cons du6 .nil)).stay sy7, e3, by rw [etot]; simp⟩
        · have e12 := da.length
          rw [e12]
          have : total.length = acc.length + 1 + zs.length := by rw [etot]; simp; omega
          have hl := hline
          rw [← line_eq]
          omega
        · have kk := k03.trans k6.k0
          have neD : ∀ a, H1 a ≠ none → a ≠ D := fun a h z => by subst z; exact h hD
          exact ⟨kk.pre, kk.mu, kk.wr, fun a o h n => by rw [upd_ne (neD a (some_ne h))]; exact kk.frame a o h n, fun a h => by rw [upd_ne (neD a h)]; exact kk.there a h⟩
        · have h1 : (S6.take Si.length).length ≤ Si.length := List.length_take_le _ _
          rw [len3] at len6
          omega
    · cases e1
  · rintro H ⟨φi, Si, accv, acc, rest, st, k0, ebs, esz, eD, da, et, etot⟩
    rw [List.drop_length] at et
    cases et
    rw [List.append_nil] at etot
    subst etot
    exact hd H φi accv st k0 ebs esz eD da

/-- a comprehension, by the interpreter -/
def lcD (fI : Env → Cells → R Walked) (t : Tg) (w : List Nat) (fT : Env → Cells → R Bool) (fE : Env → Cells → R D) (ρ : Env) (S : Cells) : R D :=
  (fI ρ S).bind fun wk S' => comp S.length wk (lcF t w fT fE ρ) S'
theorem lc_read {g : TG} {t : Tg} {tt : TT} {te : TE} {w vt : List Nat} {fI : Env → Cells → R Walked} {fT : Env → Cells → R Bool} {fE : Env → Cells → R D} (hv : ∀ i ∈ vt, i ∈ w)
    (tg : ∀ {H : Hp} {φ : Ad} {S : Cells} {σ : L2.St} {ρ ρ' : Env} {v : V} {d : VS.D} {Q : L2.St → Hp → Prop}, StOk X.K X.mg H φ S → REnv X.K X.mg H φ S σ ρ → Rep X.K X.mg H φ S v d → asg t d ρ = some ρ' →
      (∀ σ', REnv X.K X.mg H φ S σ' ρ' → (∀ ws : List Nat, (∀ i ∈ vt, i ∈ ws) → L2.wipe σ' ws = L2.wipe σ ws) → Q σ' H) → g v σ H Q)
    (ts : ∀ {H : Hp} {φ : Ad} {S S1 : Cells} {σ : L2.St} {ρ : Env} {t : Bool} {Q : Bool → Hp → Prop}, StOk X.K X.mg H φ S → REnv X.K X.mg H φ S σ ρ → fT ρ S = .ok t S1 →
      (∀ H' φ', StOk X.K X.mg H' φ' (S1.take S.length) → Keep H φ S H' φ' (S1.take S.length) → Q t H') → tt σ H Q)
    (el : ∀ {σ : L2.St} {H : Hp} {Q : VK}, TEv X.K X.mg fE σ H Q → te σ H Q) (σ : L2.St) (H : Hp) (Q : VK) (h : TEv X.K X.mg (lcD fI t w fT fE) σ H Q) : tLc (TIv X.K X.mg fI) g tt te w σ H Q := by
  obtain ⟨φ, ρ, S, st, re, q⟩ := h
  refine ⟨φ, ρ, S, st, re, ?_⟩
  have q : Ans X.K X.mg ((fI ρ S).bind fun wk S' => comp S.length wk (lcF t w fT fE ρ) S') H φ S Q := q
  cases ei : fI ρ S with
  | exn x S' => rw [ei] at q; exact q.elim
  | stuck => rw [ei] at q; exact q.elim
  | ok wk S' =>
    rw [ei] at q
    simp only [R.bind] at q
    intro J H1 φ1 st1 k1 l1 lk1 wok D hD
    unfold comp at q
    cases et : turns (lcF t w fT fE ρ) wk.1 S' with
    | exn x Se => rw [et] at q; exact q.elim
    | stuck => rw [et] at q; exact q.elim
    | ok total Se =>
      rw [et] at q
      simp only [R.bind] at q
      cases ef : free wk.2 Se with
      | none => rw [ef] at q; exact q.elim
      | some Sf =>
        rw [ef] at q
        obtain ⟨c, q⟩ := need_ans q
        refine lc_loop (D := D) st1 (re.keep k1) wok hv tg ts el et (of_decide_eq_true c) hD fun Hn φn vs stn kn ebs esz eD da => ?_
        obtain ⟨stf, kf, lf, muf⟩ := free_ok (lk := wk.2) stn (k1.k0.trans kn) lk1 ef
        have lS : Sf.length = S.length := by rw [lf, esz, l1]
        rw [take_full lS] at q
        have bs1 : φ1.bs = φ.bs := k1.bs
        have nb : φ1.bs.filter (fun b => b ≠ D) = φ.bs := by
          rw [bs1]
          refine List.filter_eq_self.mpr fun b hb => ?_
          have := (st1.ex b (by rw [bs1]; exact hb)).2
          simp only [ne_eq, decide_not, Bool.not_eq_eq_eq_not, Bool.not_true, decide_eq_false_iff_not]
          intro z
          subst z
          exact this hD
        have fin := ban_cell stf ebs eD (da.stay (Stay.mu_le muf))
        rw [nb] at fin
        have hH : H D = none := by
          cases e : H D with
          | none => rfl
          | some o => exact absurd hD (k1.there D (some_ne e))
        have neD : ∀ a, H a ≠ none → a ≠ D := fun a h z => by subst z; exact h hH
        have lφ : φn.cs.length = S.length := by rw [stf.len, lS]
        refine q (.ref D) Hn _ fin (.ref ?_) ⟨fun n a e => ?_, rfl, fun a h m => ?_, fun a h m => ?_, kf.frame, kf.there⟩
        · show (φn.cs ++ [D])[Sf.length]? = some D
          rw [lS, ← lφ, List.getElem?_append_right (Nat.le_refl _)]; simp
        · show (φn.cs ++ [D])[n]? = some a
          have e' := kf.pre n a e
          rw [List.getElem?_append_left (List.getElem?_eq_some_iff.mp e').1]
          exact e'
        · rcases m with ⟨i, cc, h1, h2, h3⟩ | m
          · have h1 : (φn.cs ++ [D])[i]? = some a := h1
            by_cases hi : i < φn.cs.length
            · rw [List.getElem?_append_left hi] at h1
              rw [List.getElem?_append_left (by rw [← stf.len]; exact hi)] at h2
              exact kf.mu a h (.inl ⟨i, cc, h1, h2, h3⟩)
            · rw [List.getElem?_append_right (by omega)] at h1
              have : a = D := by
                have := List.mem_of_getElem? h1
                simpa using this
              exact absurd this (neD a h)
          · exact .inr m
        · obtain ⟨i, cc, h1, h2, h3⟩ := m
          have h1 : (φn.cs ++ [D])[i]? = some a := h1
          by_cases hi : i < φn.cs.length
          · rw [List.getElem?_append_left hi] at h1
            rw [List.getElem?_append_left (by rw [← stf.len]; exact hi)] at h2
            exact kf.wr a h ⟨i, cc, h1, h2, h3⟩
          · rw [List.getElem?_append_right (by omega)] at h1
            have : a = D := by
              have := List.mem_of_getElem? h1
              simpa using this
            exact absurd this (neD a h)
/-- a comprehension of one clause -/
structure LcOk (X : Cx) (elt tg iter : Expr) (ifs : List Expr) (scope : Scope) (own : List (Str × Nat)) (t : Tg) (fI : Env → Cells → R Walked) (fT : Env → Cells → R Bool) (fE : Env → Cells → R D) : Prop where
  it : PI X tg iter (TIv X.K X.mg fI)
  blk : BlkOk X.N X.env.scope scope own
  set : ∀ x, foldedSetIterable iter X.env x = pure x
  tgs : ∃ g vt, (∀ i ∈ vt, i ∈ own.map (·.2)) ∧ ∀ (s : Shared) (H : Hp) (C : Addr) (cl : List (Str × Addr)) (fp : List Addr), TgOk (X.blk s H scope (compEnvC scope cl C X.env) fp) tg t g vt
  ts : ∃ tt, ∀ (s : Shared) (H : Hp) (C : Addr) (cl : List (Str × Addr)) (fp : List Addr), TsOk (X.blk s H scope (compEnvC scope cl C X.env) fp) ifs tt fT
  el : ∀ (s : Shared) (H : Hp) (C : Addr) (cl : List (Str × Addr)) (fp : List Addr), PE (X.blk s H scope (compEnvC scope cl C X.env) fp) elt (TEv X.K X.mg fE)
theorem se_lc (hc : X.calm = true) (hN : X.N.Nodup) {elt tg iter : Expr} {ifs : List Expr} {scope : Scope} {own : List (Str × Nat)} {t : Tg} {fI : Env → Cells → R Walked} {fT : Env → Cells → R Bool} {fE : Env → Cells → R D} (L : LcOk X elt tg iter ifs scope own t fI fT fE) :
    PE X (.ListComp elt [⟨tg, iter, ifs, 0⟩] scope pos) (TEv X.K X.mg (lcD fI t (own.map (·.2)) fT fE)) := by
  obtain ⟨g, vt, hv, tk⟩ := L.tgs
  obtain ⟨tt, tsk⟩ := L.ts
  refine (pe_lc hc hN L.it L.blk (fun s H C cl fp => (tk s H C cl fp).pg) (fun s H C cl fp => (tsk s H C cl fp).pt) L.el (hs := L.set)).imp fun σ H Q h => ?_
  exact lc_read hv (fun {H φ S σ ρ ρ' v d Q} => (tk {} (fun _ => none) 0 [] []).to) (fun {H φ S S1 σ ρ t Q} => (tsk {} (fun _ => none) 0 [] []).to) (fun h => h) σ H Q h
end
end VS

/-! VR, part E: comprehensions of two clauses. -/
namespace VS
open PySem PySem.Spec L2 PyProof.Rows

section
variable {K : PySem.W.Frag} {mg : Str → Option Value} {H : Hp} {φ : Ad} {S : Cells}
theorem free_okX {ex : Option Addr} {H0 : Hp} {φ0 : Ad} {S0 S' : Cells} {lk : Option Nat} (st : StOk K mg H φ S) (k : KeepX ex H0 φ0 S0 H φ S) (hl : ∀ m, lk = some m → m < S0.length ∧ ∃ a, φ0.cs[m]? = some a ∧ Wr φ0 S0 a) (h : free lk S = some S') :
    StOk K mg H φ S' ∧ KeepX ex H0 φ0 S0 H φ S' ∧ S'.length = S.length ∧ (∀ a, Mu φ S' a → Mu φ S a) := by
  cases lk with
  | none => cases h; exact ⟨st, k, rfl, fun _ m => m⟩
  | some m =>
    unfold free at h
    simp only at h
    split at h
    · rename_i c hc
      cases h
      obtain ⟨hm, a, ha, wa⟩ := hl m rfl
      have ha' := k.pre m a ha
      obtain ⟨s2, mu2⟩ := relock (l := .mu) st ha' hc (fun q => nomatch q)
      refine ⟨s2, ⟨k.pre, fun b hb z => k.mu b hb (mu2 b z), fun b hb ⟨i, c', h1, h2, h3⟩ => ?_, k.frame, k.there⟩, by simp, mu2⟩
      by_cases hi : m = i
      · subst hi
        rw [ha'] at h1; cases h1
        exact wa
      · rw [List.getElem?_set_ne hi] at h2
        exact k.wr b hb ⟨i, c', h1, h2, h3⟩
    · cases h
theorem Keep0.withX {H1 H2 : Hp} {φ1 φ2 : Ad} {S1 S2 : Cells} {D : Addr} (a : Keep0 H φ S H1 φ1 S1) (b : KeepX (some D) H1 φ1 S1 H2 φ2 S2) (hD : H D = none) : Keep0 H φ S H2 φ2 S2 :=
  ⟨fun n x h => b.pre n x (a.pre n x h), fun x h m => a.mu x h (b.mu x (a.there x h) m), fun x h m => a.wr x h (b.wr x (a.there x h) m),
   fun x o h n => b.frame x o (a.frame x o h n) (fun z => n (a.wr x (by rw [h]; exact fun q => nomatch q) z)) (fun e => by cases e; rw [hD] at h; cases h), fun x h => b.there x (a.there x h)⟩
theorem KeepX.take {ex : Option Addr} {H' : Hp} {φ' : Ad} {S' : Cells} {n : Nat} (k : KeepX ex H φ S H' φ' S') (hn : n = φ.cs.length) : KeepX ex H φ S H' (φ'.take n) (S'.take n) := by
  refine ⟨fun i a h => ?_, fun a h m => k.mu a h m.take, fun a h m => k.wr a h m.take, k.frame, k.there⟩
  have hi : i < n := by rw [hn]; exact (List.getElem?_eq_some_iff.mp h).1
  show (φ'.cs.take n)[i]? = some a
  rw [List.getElem?_take, if_pos hi]
  exact k.pre i a h
end
section
variable {J : L2.It} {n : Nat} {G : Hp → Prop} {Y : Nat → Hp → V → Hp → Prop}
/-- the outer clause's turns, over any step -/
theorem out_it (w : Walk J n G Y) {H1 : Hp} {Qd : Hp → Prop} (St : Nat → V → Hp → (Hp → Prop) → Prop) (Pv : Nat → Hp → Prop) (h0 : Pv 0 H1) (hG : ∀ i H, i ≤ n → Pv i H → G H)
    (hs : ∀ i x H H', i < n → Pv i H → Y i H x H' → St i x H' (Pv (i + 1))) (hd : ∀ H, Pv n H → Qd H) :
    ∃ W : Nat → Nat → Hp → Prop, (∃ m, W 0 m H1) ∧ ∀ i m H, W i m H →
      (J.stop i H ∧ Qd H) ∨ (J.go i H ∧ ∃ Nx : Hp → Prop, (∀ H', Nx H' → ∃ m', m' < m ∧ W (i + 1) m' H') ∧ ∀ x H', J.yld i H x H' → St i x H' Nx) := by
  refine ⟨fun i m H => m = n - i ∧ i ≤ n ∧ Pv i H, ⟨n, by simp, Nat.zero_le _, h0⟩, ?_⟩
  rintro i m H ⟨rfl, hi, p⟩
  have q := hG i H hi p
  by_cases hlt : i < n
  · refine .inr ⟨w.goes i H hlt q, Pv (i + 1), fun H' p' => ⟨n - (i + 1), by omega, rfl, hlt, p'⟩, fun x H' y => hs i x H H' hlt p (w.yields i H x H' hlt q y)⟩
  · have e : i = n := by omega
    subst e
    exact .inl ⟨w.stops H q, hd H p⟩
end
section
variable {X : Cx}
/-- the inner loop -/
theorem lc_in {J : L2.It} {H1 : Hp} {φ1 : Ad} {S1 Se : Cells} {σ : L2.St} {ρ : Env} {ds total acc0 : List D} {accv0 : List V} {g : TG} {t : Tg} {tt : TT} {te : TE} {w vt : List Nat} {fT : Env → Cells → R Bool} {fE : Env → Cells → R D} {Nx : Hp → Prop} {D : Addr}
    (st1 : StOk X.K X.mg H1 φ1 S1) (re : REnv X.K X.mg H1 φ1 S1 σ ρ) (wk : WOk X.K X.mg J H1 φ1 S1 ds) (hv : ∀ i ∈ vt, i ∈ w)
    (tg : ∀ {H : Hp} {φ : Ad} {S : Cells} {σ : L2.St} {ρ ρ' : Env} {v : V} {d : VS.D} {Q : L2.St → Hp → Prop}, StOk X.K X.mg H φ S → REnv X.K X.mg H φ S σ ρ → Rep X.K X.mg H φ S v d → asg t d ρ = some ρ' →
      (∀ σ', REnv X.K X.mg H φ S σ' ρ' → (∀ ws : List Nat, (∀ i ∈ vt, i ∈ ws) → L2.wipe σ' ws = L2.wipe σ ws) → Q σ' H) → g v σ H Q)
    (ts : ∀ {H : Hp} {φ : Ad} {S S1 : Cells} {σ : L2.St} {ρ : Env} {t : Bool} {Q : Bool → Hp → Prop}, StOk X.K X.mg H φ S → REnv X.K X.mg H φ S σ ρ → fT ρ S = .ok t S1 →
      (∀ H' φ', StOk X.K X.mg H' φ' (S1.take S.length) → Keep H φ S H' φ' (S1.take S.length) → Q t H') → tt σ H Q)
    (el : ∀ {σ : L2.St} {H : Hp} {Q : VK}, TEv X.K X.mg fE σ H Q → te σ H Q)
    (tot : turns (lcF t w fT fE ρ) ds S1 = .ok total Se) (hline : acc0.length + total.length ≤ line) (memD : D ∈ φ1.bs) (hD : H1 D = some (.lst accv0)) (d0 : Dats X.K X.mg H1 (Mu φ1 S1) accv0 acc0)
    (hd : ∀ H φ vs, StOk X.K X.mg H φ Se → KeepX (some D) H1 φ1 S1 H φ Se → φ.bs = φ1.bs → Se.length = S1.length → H D = some (.lst vs) → Dats X.K X.mg H (Mu φ Se) vs (acc0 ++ total) → Nx H) :
    ∃ W : Nat → Nat → Hp → Prop, (∃ m, W 0 m H1) ∧ ∀ i m H, W i m H →
      (J.stop i H ∧ Nx H) ∨ (J.go i H ∧ ∃ Nx1 : Hp → Prop, (∀ H', Nx1 H' → ∃ m', m' < m ∧ W (i + 1) m' H') ∧ ∀ x H', J.yld i H x H' → g x (L2.wipe σ w) H' fun σ2 H2 => L2.wipe σ2 w = L2.wipe σ w ∧ tt σ2 H2 fun b H3 =>
        if b = true then te σ2 H3 fun y H4 => ∃ acc, H4 D = some (.lst acc) ∧ acc.length < sizeLine ∧ Nx1 (upd H4 D (.lst (acc ++ [y]))) else Nx1 H3) := by
  obtain ⟨G, Y, wl, stay, give⟩ := wk
  have hex : ∀ D', some D = some D' → D' ∈ φ1.bs := fun D' e => by cases e; exact memD
  refine out_it wl (H1 := H1) (Qd := Nx) (fun i x H' N2 => g x (L2.wipe σ w) H' fun σ3 H5 => L2.wipe σ3 w = L2.wipe σ w ∧ tt σ3 H5 fun b H6 => if b = true then te σ3 H6 fun y H7 => ∃ acc, H7 D = some (.lst acc) ∧ acc.length < sizeLine ∧ N2 (upd H7 D (.lst (acc ++ [y]))) else N2 H6) (fun i H => ∃ φi Si accv acc rest, StOk X.K X.mg H φi Si ∧ KeepX (some D) H1 φ1 S1 H φi Si ∧ φi.bs = φ1.bs ∧ Si.length = S1.length ∧ H D = some (.lst accv) ∧ Dats X.K X.mg H (Mu φi Si) accv (acc0 ++ acc) ∧
    turns (lcF t w fT fE ρ) (ds.drop i) Si = .ok rest Se ∧ total = acc ++ rest) ?_ ?_ ?_ ?_
  · exact ⟨_, S1, accv0, [], total, st1, (Keep.refl _ _ _).x, rfl, rfl, hD, by rw [List.append_nil]; exact d0, tot, rfl⟩
  · rintro i H _ ⟨φi, Si, accv, acc, rest, st, k0, _⟩
    exact stay (some D) H φi Si hex k0
  · rintro i x H H' hi ⟨φi, Si, accv, acc, rest, st, k0, ebs, esz, eD, da, et, etot⟩ y
    obtain ⟨d, ed, st', dx, kx, same⟩ := give (some D) i H φi Si x H' hex hi st k0 y
    have hdrop : ds.drop i = d :: ds.drop (i + 1) := by
      rw [List.drop_eq_getElem_cons hi]
      congr 1
      rw [List.getElem?_eq_getElem hi] at ed
      exact Option.some.inj ed
    rw [hdrop] at et
    obtain ⟨ys, S2, e1, e2⟩ := bind_ok et
    obtain ⟨zs, S3, e3, e4⟩ := bind_ok e2
    cases e4
    unfold lcF at e1
    split at e1
    · rename_i ρ1 easg
      obtain ⟨b, S4, e5, e6⟩ := bind_ok e1
      have e5 := only_ok e5
      have re' : REnv X.K X.mg H' φi Si (L2.wipe σ w) (wipeE ρ w) := ((re.keepx k0 hex).keep kx).wipe w
      have eD' : H' D = some (.lst accv) := by rw [same D (some_ne eD)]; exact eD
      refine tg st' re' (.dat dx) easg fun σ2 re2 w2 => ⟨by rw [w2 w hv, wipe_wipe], ts st' re2 e5 fun H3 φ3 st3 k3 => ?_⟩
      have memD3 : D ∈ φ3.bs := by rw [k3.bs, ebs]; exact memD
      have da3 := (da.stay kx.stay).stay k3.stay
      have hD3 : H3 D = some (.lst accv) := k3.frame D _ eD' (st'.nowr (by rw [ebs]; exact memD))
      have len3 : (S4.take Si.length).length = Si.length := (take_len st' st3 k3).1
      have k03 : KeepX (some D) H1 φ1 S1 H3 φ3 (S4.take Si.length) := (k0.trans kx.x).trans k3.x
      cases b with
      | false =>
        rw [if_neg Bool.false_ne_true] at e6 ⊢
        cases e6
        exact ⟨φ3, _, accv, acc, zs, st3, k03, by rw [k3.bs, ebs], by rw [len3, esz], hD3, da3, e3, etot⟩
      | true =>
        rw [if_pos rfl] at e6 ⊢
        obtain ⟨e', S6, e7, e8, e9⟩ := keep_ok e6
        obtain ⟨e0, S5, e10, e11⟩ := bind_ok e7
        subst e8 e9
        refine el ⟨φ3, ρ1, _, st3, re2.keep k3, ?_⟩
        rw [e10]
        intro u H4 φ4 st4 r4 k4
        obtain ⟨st5, du, k5⟩ := frz_ok st4 r4 e11
        have k45 := k4.trans k5
        have hD4 : H4 D = some (.lst accv) := k45.frame D _ hD3 (st3.nowr memD3)
        have nlen : Si.length = φ3.cs.length := by rw [st3.len, len3]
        have st6 := st5.take Si.length
        have k6 : Keep H3 φ3 (S4.take Si.length) H4 (φ4.take Si.length) (S6.take Si.length) := k45.take nlen
        have da6 := da3.stay k6.stay
        have du6 := du.le (M' := Mu (φ4.take Si.length) (S6.take Si.length)) fun a m => m.take
        have mem6 : D ∈ (φ4.take Si.length).bs := by rw [k6.bs]; exact memD3
        obtain ⟨st7, sy7⟩ := ban_write (o := .lst (accv ++ [u])) st6 mem6
        have len6 := keep_len st3 st6 k6
        refine ⟨accv, hD4, ?_, φ4.take Si.length, S6.take Si.length, accv ++ [u], acc ++ [e'], zs, st7, ?_, by rw [k6.bs, k3.bs, ebs], ?_, upd_same, ?_, e3, by rw [etot]; simp⟩
        · have e12 := da.length
          rw [e12, List.length_append]
          have : total.length = acc.length + 1 + zs.length := by rw [etot]; simp; omega
          have hl := hline
          rw [← line_eq]
          omega
        · have kk := k03.trans k6.x
          exact ⟨kk.pre, kk.mu, kk.wr, fun a o h n e => by rw [upd_ne (fun z => e (by rw [z]))]; exact kk.frame a o h n e, fun a h => by
            by_cases z : a = D
            · rw [z, upd_same]; exact fun q => nomatch q
            · rw [upd_ne z]; exact kk.there a h⟩
        · have h1 : (S6.take Si.length).length ≤ Si.length := List.length_take_le _ _
          rw [len3] at len6
          omega
        · rw [← List.append_assoc]
          exact (da6.append (.cons du6 .nil)).stay sy7
    · cases e1
  · rintro H ⟨φi, Si, accv, acc, rest, st, k0, ebs, esz, eD, da, et, etot⟩
    rw [List.drop_length] at et
    cases et
    rw [List.append_nil] at etot
    subst etot
    exact hd H φi accv st k0 ebs esz eD da

/-- one turn of the outer clause, by the interpreter -/
def lcF2 (t : Tg) (w w1 : List Nat) (fT : Env → Cells → R Bool) (fI1 : Env → Cells → R Walked) (t1 : Tg) (fT1 : Env → Cells → R Bool) (fE : Env → Cells → R D) (ρ : Env) (x : D) (S : Cells) : R (List D) :=
  match asg t x (wipeE ρ w) with
  | some ρ => ((fT ρ S).only).bind fun t S1 => if t then ((fI1 ρ (S1.take S.length)).only).bind fun wk1 S2 => (turns (lcF t1 w1 fT1 fE ρ) wk1.1 S2).bind fun ys S3 => (match free wk1.2 S3 with | some S4 => .ok ys (S4.take S.length) | none => .stuck)
      else .ok [] (S1.take S.length)
  | none => .stuck
def lcD2 (fI : Env → Cells → R Walked) (t : Tg) (w w1 : List Nat) (fT : Env → Cells → R Bool) (fI1 : Env → Cells → R Walked) (t1 : Tg) (fT1 : Env → Cells → R Bool) (fE : Env → Cells → R D) (ρ : Env) (S : Cells) : R D :=
  (fI ρ S).bind fun wk S' => comp S.length wk (lcF2 t w w1 fT fI1 t1 fT1 fE ρ) S'
theorem lc2_read {g g1 : TG} {t t1 : Tg} {tt tt1 : TT} {te : TE} {w w1 vt vt1 : List Nat} {fI fI1 : Env → Cells → R Walked} {fT fT1 : Env → Cells → R Bool} {fE : Env → Cells → R D} (hv : ∀ i ∈ vt, i ∈ w) (hv1 : ∀ i ∈ vt1, i ∈ w1)
    (tg : ∀ {H : Hp} {φ : Ad} {S : Cells} {σ : L2.St} {ρ ρ' : Env} {v : V} {d : VS.D} {Q : L2.St → Hp → Prop}, StOk X.K X.mg H φ S → REnv X.K X.mg H φ S σ ρ → Rep X.K X.mg H φ S v d → asg t d ρ = some ρ' →
      (∀ σ', REnv X.K X.mg H φ S σ' ρ' → (∀ ws : List Nat, (∀ i ∈ vt, i ∈ ws) → L2.wipe σ' ws = L2.wipe σ ws) → Q σ' H) → g v σ H Q)
    (ts : ∀ {H : Hp} {φ : Ad} {S S1 : Cells} {σ : L2.St} {ρ : Env} {t : Bool} {Q : Bool → Hp → Prop}, StOk X.K X.mg H φ S → REnv X.K X.mg H φ S σ ρ → fT ρ S = .ok t S1 →
      (∀ H' φ', StOk X.K X.mg H' φ' (S1.take S.length) → Keep H φ S H' φ' (S1.take S.length) → Q t H') → tt σ H Q)
    (tg1 : ∀ {H : Hp} {φ : Ad} {S : Cells} {σ : L2.St} {ρ ρ' : Env} {v : V} {d : VS.D} {Q : L2.St → Hp → Prop}, StOk X.K X.mg H φ S → REnv X.K X.mg H φ S σ ρ → Rep X.K X.mg H φ S v d → asg t1 d ρ = some ρ' →
      (∀ σ', REnv X.K X.mg H φ S σ' ρ' → (∀ ws : List Nat, (∀ i ∈ vt1, i ∈ ws) → L2.wipe σ' ws = L2.wipe σ ws) → Q σ' H) → g1 v σ H Q)
    (ts1 : ∀ {H : Hp} {φ : Ad} {S S1 : Cells} {σ : L2.St} {ρ : Env} {t : Bool} {Q : Bool → Hp → Prop}, StOk X.K X.mg H φ S → REnv X.K X.mg H φ S σ ρ → fT1 ρ S = .ok t S1 →
      (∀ H' φ', StOk X.K X.mg H' φ' (S1.take S.length) → Keep H φ S H' φ' (S1.take S.length) → Q t H') → tt1 σ H Q)
    (el : ∀ {σ : L2.St} {H : Hp} {Q : VK}, TEv X.K X.mg fE σ H Q → te σ H Q) (σ : L2.St) (H : Hp) (Q : VK) (h : TEv X.K X.mg (lcD2 fI t w w1 fT fI1 t1 fT1 fE) σ H Q) :
    tLc2 (TIv X.K X.mg fI) g tt (TIv X.K X.mg fI1) g1 tt1 te w w1 σ H Q := by
  obtain ⟨φ, ρ, S, st, re, q⟩ := h
  refine ⟨φ, ρ, S, st, re, ?_⟩
  have q : Ans X.K X.mg ((fI ρ S).bind fun wk S' => comp S.length wk (lcF2 t w w1 fT fI1 t1 fT1 fE ρ) S') H φ S Q := q
  cases ei : fI ρ S with
  | exn x S' => rw [ei] at q; exact q.elim
  | stuck => rw [ei] at q; exact q.elim
  | ok wk S' =>
    rw [ei] at q
    simp only [R.bind] at q
    intro J H1 φ1 st1 k1 l1 lk1 wok D hD
    unfold comp at q
    cases et : turns (lcF2 t w w1 fT fI1 t1 fT1 fE ρ) wk.1 S' with
    | exn x Se => rw [et] at q; exact q.elim
    | stuck => rw [et] at q; exact q.elim
    | ok total Se =>
      rw [et] at q
      simp only [R.bind] at q
      cases ef : free wk.2 Se with
      | none => rw [ef] at q; exact q.elim
      | some Sf =>
        rw [ef] at q
        obtain ⟨c, q⟩ := need_ans q
        have hline := of_decide_eq_true c
        obtain ⟨G, Y, wl, stay, give⟩ := wok
        have hb := ban_new (o := .lst []) st1 hD
        have re1 := re.keep k1
        refine out_it wl (H1 := upd H1 D (.lst [])) (Qd := Q (.ref D)) (fun i x H' Nx => g x (L2.wipe σ w) H' fun σ2 H2 => L2.wipe σ2 w = L2.wipe σ w ∧ tt σ2 H2 fun b H3 =>
          if b = true then TIv X.K X.mg fI1 σ2 H3 fun J1 H4 => ∃ W1 : Nat → Nat → Hp → Prop, (∃ m, W1 0 m H4) ∧ ∀ j k H, W1 j k H →
            (J1.stop j H ∧ Nx H) ∨ (J1.go j H ∧ ∃ Nx1 : Hp → Prop, (∀ H', Nx1 H' → ∃ k', k' < k ∧ W1 (j + 1) k' H') ∧ ∀ x H', J1.yld j H x H' → g1 x (L2.wipe σ2 w1) H' fun σ3 H5 => L2.wipe σ3 w1 = L2.wipe σ2 w1 ∧ tt1 σ3 H5 fun b H6 =>
              if b = true then te σ3 H6 fun y H7 => ∃ acc, H7 D = some (.lst acc) ∧ acc.length < sizeLine ∧ Nx1 (upd H7 D (.lst (acc ++ [y]))) else Nx1 H6)
          else Nx H3) (fun i H => ∃ φi Si accv acc rest, StOk X.K X.mg H φi Si ∧ Keep0 H1 φ1 S' H φi Si ∧ φi.bs = D :: φ1.bs ∧ Si.length = S'.length ∧ H D = some (.lst accv) ∧ Dats X.K X.mg H (Mu φi Si) accv acc ∧
            turns (lcF2 t w w1 fT fI1 t1 fT1 fE ρ) (wk.1.drop i) Si = .ok rest Se ∧ total = acc ++ rest) ?_ ?_ ?_ ?_
        · exact ⟨_, S', [], [], total, hb.1, hb.2, rfl, rfl, upd_same, .nil, et, rfl⟩
        · rintro i H _ ⟨φi, Si, accv, acc, rest, st, k0, _⟩
          exact stay none H φi Si (fun _ z => nomatch z) k0.x
        · rintro i x H H' hi ⟨φi, Si, accv, acc, rest, st, k0, ebs, esz, eD, da, et, etot⟩ y
          obtain ⟨d, ed, st', dx, kx, same⟩ := give none i H φi Si x H' (fun _ z => nomatch z) hi st k0.x y
          have hdrop : wk.1.drop i = d :: wk.1.drop (i + 1) := by
            rw [List.drop_eq_getElem_cons hi]
            congr 1
            rw [List.getElem?_eq_getElem hi] at ed
            exact Option.some.inj ed
          rw [hdrop] at et
          obtain ⟨ys, S2, e1, e2⟩ := bind_ok et
          obtain ⟨zs, S3, e3, e4⟩ := bind_ok e2
          cases e4
          unfold lcF2 at e1
          split at e1
          · rename_i ρ1 easg
            obtain ⟨b, S4, e5, e6⟩ := bind_ok e1
            have e5 := only_ok e5
            have re' : REnv X.K X.mg H' φi Si (L2.wipe σ w) (wipeE ρ w) := ((re1.keep0 k0).keep kx).wipe w
            have eD' : H' D = some (.lst accv) := by rw [same D (some_ne eD)]; exact eD
            refine tg st' re' (.dat dx) easg fun σ2 re2 w2 => ⟨by rw [w2 w hv, wipe_wipe], ts st' re2 e5 fun H3 φ3 st3 k3 => ?_⟩
            have memD : D ∈ φ3.bs := by rw [k3.bs, ebs]; exact List.mem_cons_self
            have da3 := (da.stay kx.stay).stay k3.stay
            have hD3 : H3 D = some (.lst accv) := k3.frame D _ eD' (st'.nowr (by rw [ebs]; exact List.mem_cons_self))
            have len3 : (S4.take Si.length).length = Si.length := (take_len st' st3 k3).1
            have k03 : Keep0 H1 φ1 S' H3 φ3 (S4.take Si.length) := (k0.trans kx.k0).trans k3.k0
            cases b with
            | false =>
              rw [if_neg Bool.false_ne_true] at e6 ⊢
              cases e6
              exact ⟨φ3, _, accv, acc, zs, st3, k03, by rw [k3.bs, ebs], by rw [len3, esz], hD3, da3, e3, etot⟩
            | true =>
              rw [if_pos rfl] at e6 ⊢
              obtain ⟨wk1, S5, e7, e8⟩ := bind_ok e6
              have e7 := only_ok e7
              obtain ⟨ys1, S6, e9, e10⟩ := bind_ok e8
              refine ⟨φ3, ρ1, _, st3, re2.keep k3, ?_⟩
              rw [e7]
              intro J1 H4 φ4 st4 k4 l4 lk4 wok4
              have memD4 : D ∈ φ4.bs := by rw [k4.bs]; exact memD
              have hD4 : H4 D = some (.lst accv) := k4.frame D _ hD3 (st3.nowr memD)
              have da4 := da3.stay k4.stay
              cases ef1 : free wk1.2 S6 with
              | none => rw [ef1] at e10; cases e10
              | some S7 =>
                rw [ef1] at e10
                have ey : ys1 = ys ∧ S7.take Si.length = S2 := by cases e10; exact ⟨rfl, rfl⟩
                obtain ⟨rfl, rfl⟩ := ey
                have hl1 : acc.length + ys1.length ≤ line := by
                  rw [etot] at hline
                  simp only [List.length_append] at hline
                  omega
                refine lc_in st4 ((re2.keep k3).keep k4) wok4 hv1 tg1 ts1 el e9 hl1 memD4 hD4 da4 fun H8 φ8 vs8 st8 k8 b8 sz8 hD8 da8 => ?_
                obtain ⟨st9, k9, l9, mu9⟩ := free_okX (ex := some D) (lk := wk1.2) st8 ((k4.x (ex := some D)).trans k8) lk4 ef1
                have nl : Si.length = φ3.cs.length := by rw [st3.len, len3]
                have k10 := k9.take nl
                refine ⟨φ8.take Si.length, S7.take Si.length, vs8, acc ++ ys1, zs, st9.take _, k03.withX k10 hD, by rw [show (φ8.take Si.length).bs = φ8.bs from rfl, b8, k4.bs, k3.bs, ebs], ?_, hD8, (da8.stay (Stay.mu_le fun a m => mu9 a m.take)), e3, by rw [etot, List.append_assoc]⟩
                rw [List.length_take, l9, sz8, l4, len3, Nat.min_self, esz]
          · cases e1
        · rintro Hn ⟨φn, Si, accv, acc, rest, stn, kn, ebs, esz, eD, da, et, etot⟩
          rw [List.drop_length] at et
          cases et
          rw [List.append_nil] at etot
          subst etot
          obtain ⟨stf, kf, lf, muf⟩ := free_ok (lk := wk.2) stn (k1.k0.trans kn) lk1 ef
          have lS : Sf.length = S.length := by rw [lf, esz, l1]
          rw [take_full lS] at q
          have bs1 : φ1.bs = φ.bs := k1.bs
          have nb : φ1.bs.filter (fun b => b ≠ D) = φ.bs := by
            rw [bs1]
            refine List.filter_eq_self.mpr fun b hb => ?_
            have := (st1.ex b (by rw [bs1]; exact hb)).2
            simp only [ne_eq, decide_not, Bool.not_eq_eq_eq_not, Bool.not_true, decide_eq_false_iff_not]
            intro z
            subst z
            exact this hD
          have fin := ban_cell stf ebs eD (da.stay (Stay.mu_le muf))
          rw [nb] at fin
          have hH : H D = none := by
            cases e : H D with
            | none => rfl
            | some o => exact absurd hD (k1.there D (some_ne e))
          have neD : ∀ a, H a ≠ none → a ≠ D := fun a h z => by subst z; exact h hH
          have lφ : φn.cs.length = S.length := by rw [stf.len, lS]
          refine q (.ref D) Hn _ fin (.ref ?_) ⟨fun n a e => ?_, rfl, fun a h m => ?_, fun a h m => ?_, kf.frame, kf.there⟩
          · show (φn.cs ++ [D])[Sf.length]? = some D
            rw [lS, ← lφ, List.getElem?_append_right (Nat.le_refl _)]; simp
          · show (φn.cs ++ [D])[n]? = some a
            have e' := kf.pre n a e
            rw [List.getElem?_append_left (List.getElem?_eq_some_iff.mp e').1]
            exact e'
          · rcases m with ⟨i, cc, h1, h2, h3⟩ | m
            · have h1 : (φn.cs ++ [D])[i]? = some a := h1
              by_cases hi : i < φn.cs.length
              · rw [List.getElem?_append_left hi] at h1
                rw [List.getElem?_append_left (by rw [← stf.len]; exact hi)] at h2
                exact kf.mu a h (.inl ⟨i, cc, h1, h2, h3⟩)
              · rw [List.getElem?_append_right (by omega)] at h1
                have : a = D := by
                  have := List.mem_of_getElem? h1
                  simpa using this
                exact absurd this (neD a h)
            · exact .inr m
          · obtain ⟨i, cc, h1, h2, h3⟩ := m
            have h1 : (φn.cs ++ [D])[i]? = some a := h1
            by_cases hi : i < φn.cs.length
            · rw [List.getElem?_append_left hi] at h1
              rw [List.getElem?_append_left (by rw [← stf.len]; exact hi)] at h2
              exact kf.wr a h ⟨i, cc, h1, h2, h3⟩
            · rw [List.getElem?_append_right (by omega)] at h1
              have : a = D := by
                have := List.mem_of_getElem? h1
                simpa using this
              exact absurd this (neD a h)
/-- a comprehension of two clauses -/
structure LcOk2 (X : Cx) (elt tg iter tg1 iter1 : Expr) (ifs ifs1 : List Expr) (scope : Scope) (own : List (Str × Nat)) (t : Tg) (w1 : List Nat) (fI : Env → Cells → R Walked) (fT : Env → Cells → R Bool) (t1 : Tg) (fI1 : Env → Cells → R Walked) (fT1 : Env → Cells → R Bool) (fE : Env → Cells → R D) : Prop where
  it : PI X tg iter (TIv X.K X.mg fI)
  blk : BlkOk X.N X.env.scope scope own
  set : ∀ x, foldedSetIterable iter X.env x = pure x
  set1 : ∀ env x, foldedSetIterable iter1 env x = pure x
  sub : ∀ i ∈ w1, i ∈ own.map (·.2)
  tgs : ∃ g vt, (∀ i ∈ vt, i ∈ own.map (·.2)) ∧ ∀ (s : Shared) (H : Hp) (C : Addr) (cl : List (Str × Addr)) (fp : List Addr), TgOk (X.blk s H scope (compEnvC scope cl C X.env) fp) tg t g vt
  ts : ∃ tt, ∀ (s : Shared) (H : Hp) (C : Addr) (cl : List (Str × Addr)) (fp : List Addr), TsOk (X.blk s H scope (compEnvC scope cl C X.env) fp) ifs tt fT
  it1 : ∀ (s : Shared) (H : Hp) (C : Addr) (cl : List (Str × Addr)) (fp : List Addr), PI (X.blk s H scope (compEnvC scope cl C X.env) fp) tg1 iter1 (TIv X.K X.mg fI1)
  tgs1 : ∃ g vt, (∀ i ∈ vt, i ∈ w1) ∧ ∀ (s : Shared) (H : Hp) (C : Addr) (cl : List (Str × Addr)) (fp : List Addr), TgOk (X.blk s H scope (compEnvC scope cl C X.env) fp) tg1 t1 g vt
  ts1 : ∃ tt, ∀ (s : Shared) (H : Hp) (C : Addr) (cl : List (Str × Addr)) (fp : List Addr), TsOk (X.blk s H scope (compEnvC scope cl C X.env) fp) ifs1 tt fT1
  el : ∀ (s : Shared) (H : Hp) (C : Addr) (cl : List (Str × Addr)) (fp : List Addr), PE (X.blk s H scope (compEnvC scope cl C X.env) fp) elt (TEv X.K X.mg fE)
theorem se_lc2 {pos : Pos} (hc : X.calm = true) (hN : X.N.Nodup) {elt tg iter tg1 iter1 : Expr} {ifs ifs1 : List Expr} {scope : Scope} {own : List (Str × Nat)} {t t1 : Tg} {w1 : List Nat} {fI fI1 : Env → Cells → R Walked} {fT fT1 : Env → Cells → R Bool} {fE : Env → Cells → R D}
    (L : LcOk2 X elt tg iter tg1 iter1 ifs ifs1 scope own t w1 fI fT t1 fI1 fT1 fE) :
    PE X (.ListComp elt [⟨tg, iter, ifs, 0⟩, ⟨tg1, iter1, ifs1, 0⟩] scope pos) (TEv X.K X.mg (lcD2 fI t (own.map (·.2)) w1 fT fI1 t1 fT1 fE)) := by
  obtain ⟨g, vt, hv, tk⟩ := L.tgs
  obtain ⟨tt, tsk⟩ := L.ts
  obtain ⟨g1, vt1, hv1, tk1⟩ := L.tgs1
  obtain ⟨tt1, tsk1⟩ := L.ts1
  refine (pe_lc2 (vs1 := w1) hc hN L.it L.blk L.sub (fun s H C cl fp => (tk s H C cl fp).pg) (fun s H C cl fp => (tsk s H C cl fp).pt) L.it1 (fun s H C cl fp => (tk1 s H C cl fp).pg) (fun s H C cl fp => (tsk1 s H C cl fp).pt) L.el (hs := L.set) (hs1 := L.set1)).imp fun σ H Q h => ?_
  exact lc2_read hv hv1 (fun {H φ S σ ρ ρ' v d Q} => (tk {} (fun _ => none) 0 [] []).to) (fun {H φ S S1 σ ρ t Q} => (tsk {} (fun _ => none) 0 [] []).to) (fun {H φ S σ ρ ρ' v d Q} => (tk1 {} (fun _ => none) 0 [] []).to) (fun {H φ S S1 σ ρ t Q} => (tsk1 {} (fun _ => none) 0 [] []).to) (fun h => h) σ H Q h
end
end VS

/-! VS, part M: statements. -/
namespace VS
open PySem PySem.Spec L2 PyProof.Rows

section
variable (K : PySem.W.Frag) (mg : Str → Option Value)
/-- what is wanted behind a statement -/
def AnsS (r : FR) (H : Hp) (φ : Ad) (S : Cells) (D : Ends) : Prop :=
  match r with
  | .next ρ' S' => ∀ σ' H' φ', StOk K mg H' φ' S' → Keep H φ S H' φ' S' → REnv K mg H' φ' S' σ' ρ' → D.nx σ' H'
  | .brk ρ' S' => ∀ σ' H' φ', StOk K mg H' φ' S' → Keep H φ S H' φ' S' → REnv K mg H' φ' S' σ' ρ' → D.bk σ' H'
  | .cont ρ' S' => ∀ σ' H' φ', StOk K mg H' φ' S' → Keep H φ S H' φ' S' → REnv K mg H' φ' S' σ' ρ' → D.ct σ' H'
  | .ret d S' => ∀ v H' φ', StOk K mg H' φ' S' → Keep H φ S H' φ' S' → Rep K mg H' φ' S' v d → D.rt v H'
  | _ => False
def TSv (f : Env → Cells → FR) : TS := fun D σ H => ∃ φ ρ S, StOk K mg H φ S ∧ REnv K mg H φ S σ ρ ∧ AnsS K mg (f ρ S) H φ S D
end

section
variable {K : PySem.W.Frag} {mg : Str → Option Value} {H H' : Hp} {φ φ' : Ad} {S S' : Cells} {σ : L2.St} {ρ : Env}
theorem AnsS.later {r : FR} {D : Ends} (k : Keep H φ S H' φ' S') (h : AnsS K mg r H φ S D) : AnsS K mg r H' φ' S' D := by
  cases r with
  | next ρ2 S2 => exact fun σ2 H2 φ2 a b c => h σ2 H2 φ2 a (k.trans b) c
  | brk ρ2 S2 => exact fun σ2 H2 φ2 a b c => h σ2 H2 φ2 a (k.trans b) c
  | cont ρ2 S2 => exact fun σ2 H2 φ2 a b c => h σ2 H2 φ2 a (k.trans b) c
  | ret d S2 => exact fun v H2 φ2 a b c => h v H2 φ2 a (k.trans b) c
  | exn x ρ2 S2 => exact h
  | stuck => exact h
/-- an evaluation, then more -/
theorem toF_ans {r : R D} {g : D → Cells → FR} {E : Ends} (h : AnsS K mg (r.toF ρ g) H φ S E) :
    Ans K mg r H φ S fun v H1 => ∃ φ1 S1 d, StOk K mg H1 φ1 S1 ∧ Rep K mg H1 φ1 S1 v d ∧ Keep H φ S H1 φ1 S1 ∧ AnsS K mg (g d S1) H1 φ1 S1 E := by
  cases r with
  | ok d S1 => exact fun v H1 φ1 a b c => ⟨φ1, S1, d, a, b, c, AnsS.later c h⟩
  | exn x S' => exact h
  | stuck => exact h
theorem AnsS.here {E : Ends} (h : AnsS K mg (.next ρ S) H φ S E) (st : StOk K mg H φ S) (re : REnv K mg H φ S σ ρ) : E.nx σ H := h σ H φ st (Keep.refl _ _ _) re
theorem REnv.mu_le {S2 : Cells} (re : REnv K mg H φ S σ ρ) (m : ∀ a, Mu φ S2 a → Mu φ S a) : REnv K mg H φ S2 σ ρ :=
  ⟨re.len, fun i d e => let ⟨v, e1, r⟩ := re.at_ i d e; ⟨v, e1, by
    cases r with
    | dat z => exact .dat (z.stay (Stay.mu_le m))
    | ref z => exact .ref z⟩⟩
theorem Rep.mu_le {S2 : Cells} {v : V} {d : D} (r : Rep K mg H φ S v d) (m : ∀ a, Mu φ S2 a → Mu φ S a) : Rep K mg H φ S2 v d := by
  cases r with
  | dat z => exact .dat (z.stay (Stay.mu_le m))
  | ref z => exact .ref z
end

/-- o[i] = v of a list or a dict -/
def rSetA (O : V → V → V → Hp → (Hp → Prop) → Prop) : V → V → V → Hp → (Hp → Prop) → Prop := fun o i v H Q => rSetL o i v H Q ∨ O o i v H Q
def rSetD : V → V → V → Hp → (Hp → Prop) → Prop := fun o i v H Q => ∃ a kvs k, o = .ref a ∧ i = kV k ∧ H a = some (.dK kvs) ∧ kvs.length < sizeLine ∧ Q (upd H a (.dK (putK kvs k v)))
theorem set_any {X : Cx} (hu : X.A.units + 100 < cLine) : PSet X (rSetA rSetD) := by
  intro pins s σ H o i v ov iv u Q I ro ri rv h
  rcases h with h | ⟨a, kvs, k, rfl, rfl, ha, hl, q⟩
  · exact set_list pins s σ H o i v ov iv u Q I ro ri rv h
  · cases ro
    exact d_setItem (by omega) I (DPut.k ha hl) ri rv fun s' I' => ⟨_, I', q⟩
theorem free_okK {K : PySem.W.Frag} {mg : Str → Option Value} {H H0 : Hp} {φ φ0 : Ad} {S S0 S' : Cells} {lk : Option Nat} (st : StOk K mg H φ S) (k : Keep H0 φ0 S0 H φ S) (hl : ∀ m, lk = some m → m < S0.length ∧ ∃ a, φ0.cs[m]? = some a ∧ Wr φ0 S0 a) (h : free lk S = some S') :
    StOk K mg H φ S' ∧ Keep H0 φ0 S0 H φ S' ∧ S'.length = S.length ∧ (∀ a, Mu φ S' a → Mu φ S a) := by
  obtain ⟨a, b, c, d⟩ := free_ok st k.k0 hl h
  exact ⟨a, b.k k.bs, c, d⟩
theorem _root_.L2.PS.imp {X : Cx} {e : Stmt} {t t' : TS} (h : PS X e t) (i : ∀ D σ H, t' D σ H → t D σ H) : PS X e t' := ⟨fun pins s σ H D I q => h.run pins s σ H D I (i D σ H q)⟩
theorem _root_.L2.PSs.imp {X : Cx} {e : List Stmt} {t t' : TS} (h : PSs X e t) (i : ∀ D σ H, t' D σ H → t D σ H) : PSs X e t' := ⟨fun pins s σ H D I q => h.run pins s σ H D I (i D σ H q)⟩

section
variable {X : Cx} {k : Nat} {Φ : CallF} {fs bs : List Str} {pos : Pos}
theorem ss_nil : PSs X [] (TSv X.K X.mg fun ρ S => .next ρ S) := pss_nil.imp fun D σ H ⟨φ, ρ, S, st, re, q⟩ => AnsS.here q st re
theorem ss_cons {st : Stmt} {rest : List Stmt} {f g : Env → Cells → FR} (h1 : PS X st (TSv X.K X.mg f)) (h2 : PSs X rest (TSv X.K X.mg g)) : PSs X (st :: rest) (TSv X.K X.mg fun ρ S => (f ρ S).thn g) :=
  (pss_cons h1 h2).imp fun D σ H ⟨φ, ρ, S, st, re, q⟩ => by
    refine ⟨φ, ρ, S, st, re, ?_⟩
    dsimp only at q
    revert q
    cases f ρ S with
    | next ρ1 S1 => exact fun q σ1 H1 φ1 s1 k1 r1 => ⟨φ1, ρ1, S1, s1, r1, AnsS.later k1 q⟩
    | brk ρ1 S1 => exact fun q => q
    | cont ρ1 S1 => exact fun q => q
    | ret d S1 => exact fun q => q
    | exn x ρ1 S1 => exact fun q => q
    | stuck => exact fun q => q
theorem ss_pass : PS X (.Pass pos) (TSv X.K X.mg fun ρ S => .next ρ S) := ps_pass.imp fun D σ H ⟨φ, ρ, S, st, re, q⟩ => AnsS.here q st re
theorem ss_brk : PS X (.Break pos) (TSv X.K X.mg fun ρ S => .brk ρ S) := ps_break.imp fun D σ H ⟨φ, ρ, S, st, re, q⟩ => q σ H φ st (Keep.refl _ _ _) re
theorem ss_cont : PS X (.Continue pos) (TSv X.K X.mg fun ρ S => .cont ρ S) := ps_continue.imp fun D σ H ⟨φ, ρ, S, st, re, q⟩ => q σ H φ st (Keep.refl _ _ _) re
theorem ss_never {st : Stmt} : PS X st (TSv X.K X.mg fun _ _ => .stuck) := ps_never.imp fun D σ H ⟨φ, ρ, S, st, re, q⟩ => q
theorem ss_retN : PS X (.Return none pos) (TSv X.K X.mg fun _ S => .ret .non S) := ps_retN.imp fun D σ H ⟨φ, ρ, S, st, re, q⟩ => q .non H φ st (Keep.refl _ _ _) (.dat .non)
theorem ss_ret {e : Expr} {f : Env → Cells → R D} (h : PE X e (TEv X.K X.mg f)) : PS X (.Return (some e) pos) (TSv X.K X.mg fun ρ S => (f ρ S).toF ρ fun d S => .ret d S) :=
  (ps_ret h).imp fun D σ H ⟨φ, ρ, S, st, re, q⟩ => ⟨φ, ρ, S, st, re, (toF_ans q).mono fun v H1 ⟨φ1, S1, d, s1, r1, k1, q1⟩ => q1 v H1 φ1 s1 (Keep.refl _ _ _) r1⟩
theorem ss_expr {e : Expr} {f : Env → Cells → R D} (h : PE X e (TEv X.K X.mg f)) (hs : swapsWith e none pos.line X.env = pure false) : PS X (.Expr e pos) (TSv X.K X.mg fun ρ S => (f ρ S).toF ρ fun _ S' => .next ρ (S'.take S.length)) :=
  (ps_expr h hs).imp fun D σ H ⟨φ, ρ, S, st, re, q⟩ => ⟨φ, ρ, S, st, re, by
    dsimp only at q
    cases e : f ρ S with
    | exn x S1 => rw [e] at q; exact q
    | stuck => rw [e] at q; exact q
    | ok d S1 =>
      rw [e] at q
      intro v H1 φ1 s1 r1 k1
      obtain ⟨s2, k2, m2⟩ := drop_keep st s1 k1
      exact q σ H1 _ s2 k2 (re.keep k2)⟩
/-- a target = a value -/
theorem ss_asg {tg e : Expr} {f : Env → Cells → R D} {t : Tg} {g : TG} {vs : List Nat} (h : PE X e (TEv X.K X.mg f)) (tk : TgOk X tg t g vs) (hs : swapsWithSole [tg] e pos.line X.env = pure false) (hw : swappedStores [tg] e X.env = pure none)
    (h1 : (assignEach [tg] X.env).map (·.2) = [assign tg X.env]) : PS X (.Assign [tg] e pos) (TSv X.K X.mg fun ρ S => (f ρ S).toF ρ fun d S => match asg t d ρ with | some ρ => .next ρ S | none => .stuck) :=
  (ps_asg h tk.pg hs hw h1).imp fun D σ H ⟨φ, ρ, S, st, re, q⟩ => ⟨φ, ρ, S, st, re, (toF_ans q).mono fun v H1 ⟨φ1, S1, d, s1, r1, k1, q1⟩ => by
    cases ea : asg t d ρ with
    | none => rw [ea] at q1; exact q1.elim
    | some ρ' =>
      rw [ea] at q1
      exact tk.to s1 (re.keep k1) r1 ea fun σ' re' _ => AnsS.here q1 s1 re'⟩
theorem ss_set (hN : X.N.Nodup) {i : Nat} {x : Str} {pos' : Pos} {e : Expr} {f : Env → Cells → R D} (hi : X.N[i]? = some x) (hx : Loc X.env.scope x) (hf : X.fn x = true ∨ X.env.scope.names.lookup x = some .local) (h : PE X e (TEv X.K X.mg f))
    (hs : swapsWith e (some (.Name x pos')) pos.line X.env = pure false) : PS X (.Assign [.Name x pos'] e pos) (TSv X.K X.mg fun ρ S => (f ρ S).toF ρ fun d S => .next (ρ.set i (some d)) S) :=
  (ps_set hN hi hx h hs hf).imp fun D σ H ⟨φ, ρ, S, st, re, q⟩ => ⟨φ, ρ, S, st, re, (toF_ans q).mono fun v H1 ⟨φ1, S1, d, s1, r1, k1, q1⟩ => AnsS.here (σ := σ.set i (some v)) q1 s1 ((re.keep k1).set r1)⟩
/-- o[i] = e -/
theorem ss_seti (g : GX X k Φ fs bs) {o i e : Expr} {p2 : Pos} {fo fi f : Env → Cells → R D} (ho : PE X o (TEv X.K X.mg fo)) (hi : PE X i (TEv X.K X.mg fi)) (h : PE X e (TEv X.K X.mg f))
    (ha : ∀ v, assign (.Subscript o i p2) X.env v = (do
      let ov ← holding [v] (eval o X.env)
      let iv ← holding [v, ov] (eval i X.env)
      standAt p2
      holding [v, ov, iv] (setItem ov iv v)
      release [v, ov, iv] []))
    (hs : swapsWithSole [.Subscript o i p2] e pos.line X.env = pure false) (hw : swappedStores [.Subscript o i p2] e X.env = pure none)
    (h1 : (assignEach [.Subscript o i p2] X.env).map (·.2) = [assign (.Subscript o i p2) X.env]) :
    PS X (.Assign [.Subscript o i p2] e pos) (TSv X.K X.mg fun ρ S => (norm S.length ((f ρ S).bind fun d S => (fo ρ S).bind fun o S => (fi ρ S).bind fun i S => setV o i d S)).toF ρ fun _ S => .next ρ S) :=
  (ps_asg h (pg_sub ho hi (set_any g.hu) ha) hs hw h1).imp fun D σ H ⟨φ, ρ, S, st, re, q⟩ => by
    refine ⟨φ, ρ, S, st, re, ?_⟩
    have q2 := Ans.norm st (toF_ans q)
    refine (Ans.step q2).mono fun v H1 ⟨φ1, S1, d, s1, r1, k1, q3⟩ => ⟨φ1, ρ, S1, s1, re.keep k1, (Ans.step q3).mono fun ov H2 ⟨φ2, S2, o, s2, r2, k2, q4⟩ => ⟨φ2, ρ, S2, s2, (re.keep k1).keep k2, (Ans.step q4).mono fun iv H3 ⟨φ3, S3, i, s3, r3, k3, q5⟩ => ?_⟩⟩
    have re3 := ((re.keep k1).keep k2).keep k3
    have rd := (r1.keep k2).keep k3
    have ro := r2.keep k3
    unfold setV at q5
    cases ef : frz d S3 with
    | exn x S4 => rw [ef] at q5; exact q5.elim
    | stuck => rw [ef] at q5; exact q5.elim
    | ok d' S4 =>
      rw [ef] at q5
      simp only [R.bind] at q5
      obtain ⟨s4, dv, k4⟩ := frz_ok s3 rd ef
      cases o with
      | ref m =>
        have ro4 := ro.keep k4
        cases ro4 with
        | dat z => cases z
        | @ref a _ z =>
          dsimp only at q5
          split at q5
          · rename_i xs hc
            cases i <;> try (exact q5.elim)
            case int i =>
              have ei := rep_int r3
              subst ei
              dsimp only at q5
              obtain ⟨vs, e2, e3⟩ := (s4.at_ m a _ z hc).list
              split at q5
              · rename_i j hj
                obtain ⟨s5, k5, _⟩ := cell_set (es := xs.set j d') s4 z hc (e3.set dv j)
                refine .inl ⟨a, vs, i, j, rfl, rfl, e2, by rw [e3.length, ← atN_eq]; exact hj, ?_⟩
                obtain ⟨φ6, S6, d6, s6, r6, k6, q6⟩ := q5 .non _ φ3 s5 (.dat .non) (k4.trans k5)
                exact AnsS.here q6 s6 (re.keep k6)
              · exact q5.elim
          · rename_i ks xs hc
            cases hk : keyOf i with
            | none => rw [hk] at q5; exact q5.elim
            | some key =>
              rw [hk] at q5
              dsimp only at q5
              obtain ⟨c, q5⟩ := need_ans q5
              have ek := rkey_V r3 hk
              have ct := s4.at_ m a _ z hc
              cases ct with
              | dic e2 e3 e4 e5 =>
                subst e4
                obtain ⟨h1, h2⟩ := dput_V (k := key) e3 e5 dv
                obtain ⟨s5, k5, _⟩ := cell_setD s4 z hc h1 h2
                refine .inr ⟨a, _, key, rfl, ek, e2, ?_, ?_⟩
                · have := of_decide_eq_true c
                  rw [← e3, List.length_map] at this
                  rw [← line_eq]; exact this
                · obtain ⟨φ6, S6, d6, s6, r6, k6, q6⟩ := q5 .non _ φ3 s5 (.dat .non) (k4.trans k5)
                  exact AnsS.here q6 s6 (re.keep k6)
          · exact q5.elim
      | _ => exact q5.elim
/-- if -/
theorem ss_if {c : Expr} {a b : List Stmt} {fc : Env → Cells → R D} {f g : Env → Cells → FR} (hc : PT X c (TTv X.K X.mg fc)) (ha : PSs X a (TSv X.K X.mg f)) (hb : PSs X b (TSv X.K X.mg g)) :
    PS X (.If c a b pos) (TSv X.K X.mg fun ρ S => (norm S.length ((fc ρ S).bind fun x S => truthR x S fun t => .ok (.bl t) S)).toF ρ fun d S => match d with
      | .bl true => f ρ S
      | .bl false => g ρ S
      | _ => .stuck) :=
  (ps_if hc ha hb).imp fun D σ H ⟨φ, ρ, S, st, re, q⟩ => ⟨φ, ρ, S, st, re, (toF_ans q).mono fun v H1 ⟨φ1, S1, d, s1, r1, k1, q1⟩ => by
    cases d <;> try (exact q1.elim)
    case bl t =>
      refine ⟨t, rep_bl r1, ?_⟩
      cases t with
      | true => exact ⟨φ1, ρ, S1, s1, re.keep k1, q1⟩
      | false => exact ⟨φ1, ρ, S1, s1, re.keep k1, q1⟩⟩
/-- while -/
theorem ss_while {c : Expr} {body : List Stmt} {fc : Env → Cells → R D} {f : Env → Cells → FR} {W : Nat} (hp : PassesOwn (model X.prog X.w) X.A X.env X.xe) (hc : PT X c (TTv X.K X.mg fc)) (hb : PSs X body (TSv X.K X.mg f)) :
    PS X (.While c body [] pos) (TSv X.K X.mg fun ρ S => whileT (fun ρ S => norm S.length ((fc ρ S).bind fun x S => truthR x S fun t => .ok (.bl t) S)) f W ρ S) :=
  (ps_while hp hc hb).imp fun D σ H ⟨φ, ρ, S, st, re, q⟩ => by
    refine ⟨fun m σ H => ∃ φ ρ S, StOk X.K X.mg H φ S ∧ REnv X.K X.mg H φ S σ ρ ∧ AnsS X.K X.mg (whileT (fun ρ S => norm S.length ((fc ρ S).bind fun x S => truthR x S fun t => .ok (.bl t) S)) f m ρ S) H φ S D, ⟨W, φ, ρ, S, st, re, q⟩, ?_⟩
    rintro m σ H ⟨φ, ρ, S, st, re, q⟩
    cases m with
    | zero => exact q.elim
    | succ m =>
      refine ⟨φ, ρ, S, st, re, (toF_ans (show AnsS X.K X.mg (R.toF ρ _ _) H φ S D from q)).mono fun v H1 ⟨φ1, S1, d, s1, r1, k1, q1⟩ => ?_⟩
      cases d <;> try (exact q1.elim)
      case bl t =>
        refine ⟨t, rep_bl r1, ?_⟩
        cases t with
        | false => exact AnsS.here q1 s1 (re.keep k1)
        | true =>
          rw [if_pos rfl]
          refine ⟨_, fun σ' H' w => ⟨m, Nat.lt_succ_self m, w⟩, φ1, ρ, S1, s1, re.keep k1, ?_⟩
          dsimp only at q1
          revert q1
          cases f ρ S1 with
          | next ρ2 S2 => exact fun q1 σ2 H2 φ2 s2 k2 re2 => ⟨φ2, ρ2, S2, s2, re2, AnsS.later k2 q1⟩
          | cont ρ2 S2 => exact fun q1 σ2 H2 φ2 s2 k2 re2 => ⟨φ2, ρ2, S2, s2, re2, AnsS.later k2 q1⟩
          | brk ρ2 S2 => exact fun q1 => q1
          | ret d S2 => exact fun q1 => q1
          | exn x ρ2 S2 => exact fun q1 => q1
          | stuck => exact fun q1 => q1
/-- the state behind a loop -/
theorem forE_next {H0 : Hp} {φ0 : Ad} {S0 : Cells} {H' : Hp} {φ' : Ad} {S' : Cells} {σ' : L2.St} {ρ' : Env} {o : Option Nat} {D : Ends} (lk : ∀ m, o = some m → m < S0.length ∧ ∃ a, φ0.cs[m]? = some a ∧ Wr φ0 S0 a)
    (st : StOk X.K X.mg H' φ' S') (k : Keep H0 φ0 S0 H' φ' S') (re : REnv X.K X.mg H' φ' S' σ' ρ') (q : AnsS X.K X.mg (match free o S' with | some S => .next ρ' S | none => .stuck) H0 φ0 S0 D) : D.nx σ' H' := by
  cases ef : free o S' with
  | none => rw [ef] at q; exact q.elim
  | some S2 =>
    rw [ef] at q
    obtain ⟨s2, k2, l2, m2⟩ := free_ok st k.k0 lk ef
    exact q σ' H' φ' s2 (k2.k k.bs) (re.mu_le m2)
theorem ss_for {tg iter : Expr} {body : List Stmt} {fi : Env → Cells → R Walked} {f : Env → Cells → FR} {t : Tg} {g : TG} {vs : List Nat} (hp : PassesOwn (model X.prog X.w) X.A X.env X.xe) (hc : X.calm = true) (hi : PI X tg iter (TIv X.K X.mg fi)) (tk : TgOk X tg t g vs)
    (hb : PSs X body (TSv X.K X.mg f)) (hs : ∀ x, foldedSetIterable iter X.env x = pure x) :
    PS X (.For tg iter body [] pos) (TSv X.K X.mg fun ρ S => (fi ρ S).toF ρ fun w S => forE w.2 (forT (fun x ρ S => match asg t x ρ with | some ρ => f ρ S | none => .stuck) w.1 ρ S)) :=
  (ps_for hp hc hi tk.pg hb hs).imp fun E σ H ⟨φ, ρ, S, st, re, q⟩ => by
    refine ⟨φ, ρ, S, st, re, ?_⟩
    dsimp only at q
    cases ei : fi ρ S with
    | exn x S1 => rw [ei] at q; exact q.elim
    | stuck => rw [ei] at q; exact q.elim
    | ok w S1 =>
      rw [ei] at q
      simp only [R.toF] at q
      intro J H1 φ1 s1 k1 l1 lk1 wok
      obtain ⟨G, Y, wl, stay, give⟩ := wok
      refine for_it wl (fun i σ Hi => ∃ φi ρi Si, StOk X.K X.mg Hi φi Si ∧ Keep H φ S Hi φi Si ∧ Keep H1 φ1 S1 Hi φi Si ∧ REnv X.K X.mg Hi φi Si σ ρi ∧
        AnsS X.K X.mg (forE w.2 (forT (fun x ρ S => match asg t x ρ with | some ρ => f ρ S | none => .stuck) (w.1.drop i) ρi Si)) H φ S E) ?_ ?_ ?_ ?_
      · exact ⟨φ1, ρ, S1, s1, k1, Keep.refl _ _ _, re.keep k1, q⟩
      · rintro i σ Hi hi ⟨φi, ρi, Si, si, _, k0, _⟩
        exact stay none Hi φi Si (fun _ z => nomatch z) k0.x
      · rintro i x σ Hi Hi' hi ⟨φi, ρi, Si, si, ki, k0, rei, qi⟩ y
        obtain ⟨d, ed, s2, dx, k2, _⟩ := give none i Hi φi Si x Hi' (fun _ z => nomatch z) hi si k0.x y
        have hdrop : w.1.drop i = d :: w.1.drop (i + 1) := by
          rw [List.drop_eq_getElem_cons hi]
          congr 1
          rw [List.getElem?_eq_getElem hi] at ed
          exact Option.some.inj ed
        rw [hdrop] at qi
        have kk := ki.trans k2
        have kk0 := k0.trans k2
        cases ea : asg t d ρi with
        | none =>
          simp only [forT, ea] at qi
          exact qi.elim
        | some ρ2 =>
          simp only [forT, ea] at qi
          refine tk.to s2 (rei.keep k2) (.dat dx) ea fun σ2 re2 _ => ⟨φi, ρ2, Si, s2, re2, ?_⟩
          revert qi
          cases f ρ2 Si with
          | next ρ3 S3 => exact fun qi σ3 H3 φ3 s3 k3 re3 => ⟨φ3, ρ3, S3, s3, kk.trans k3, kk0.trans k3, re3, qi⟩
          | cont ρ3 S3 => exact fun qi σ3 H3 φ3 s3 k3 re3 => ⟨φ3, ρ3, S3, s3, kk.trans k3, kk0.trans k3, re3, qi⟩
          | brk ρ3 S3 => exact fun qi σ3 H3 φ3 s3 k3 re3 => forE_next lk1 s3 (kk.trans k3) re3 qi
          | ret d S3 =>
            intro qi v H3 φ3 s3 k3 r3
            have qi : AnsS X.K X.mg (match free w.2 S3 with | some S => .ret d S | none => .stuck) H φ S E := qi
            cases ef : free w.2 S3 with
            | none => rw [ef] at qi; exact qi.elim
            | some S4 =>
              rw [ef] at qi
              obtain ⟨s4, k4, l4, m4⟩ := free_ok s3 (kk.trans k3).k0 lk1 ef
              exact qi v H3 φ3 s4 (k4.k (kk.trans k3).bs) (r3.mu_le m4)
          | exn x ρ3 S3 =>
            intro qi
            have qi : AnsS X.K X.mg (match free w.2 S3 with | some S => .exn x ρ3 S | none => .stuck) H φ S E := qi
            cases ef : free w.2 S3 with
            | none => rw [ef] at qi; exact qi.elim
            | some S4 => rw [ef] at qi; exact qi.elim
          | stuck => exact fun qi => qi.elim
      · rintro σ Hi ⟨φi, ρi, Si, si, ki, _, rei, qi⟩
        rw [List.drop_length] at qi
        exact forE_next lk1 si ki rei qi
end
end VS

/-! VR, part F: values frozen, constants, max with a default, sorted(set(..)), new dicts, list(d.items()), xs[::-1]. -/
namespace VS
open PySem PySem.Spec L2 PyProof.Rows

section
variable {K : PySem.W.Frag} {mg : Str → Option Value} {H H' : Hp} {φ : Ad} {S : Cells}
/-- more stands in the heap -/
theorem lay_more (st : StOk K mg H φ S) (hk : ∀ b o, H b = some o → H' b = some o) : StOk K mg H' φ S ∧ Keep H φ S H' φ S := by
  have th : ∀ a, H a ≠ none → H' a ≠ none := fun a h => by
    cases e : H a with
    | none => exact absurd e h
    | some o => rw [hk a o e]; exact fun q => nomatch q
  have sy : Stay H (Mu φ S) H' (Mu φ S) := ⟨fun a o e _ => hk a o e, fun _ _ m => m⟩
  exact ⟨⟨st.len, st.nd, fun b hb => ⟨(st.ex b hb).1, th b (st.ex b hb).2⟩, fun n a c h1 h2 => (st.at_ n a c h1 h2).stay sy fun o e => hk a o e⟩, ⟨fun _ _ h => h, rfl, fun _ _ m => m, fun _ _ m => m, fun a o h _ => hk a o h, th⟩⟩
/-- a new thing that stands already becomes a cell -/
theorem lay_there {p : Addr} {cd : D} (st : StOk K mg H φ S) (hk : ∀ b o, H b = some o → H' b = some o) (hp : H p = none) (hp' : H' p ≠ none) (r : ∀ M', Stay H (Mu φ S) H' M' → (∀ a, M' a → a = p ∨ Mu φ S a) → Ct K mg H' M' p cd) :
    StOk K mg H' (φ.push p) (S ++ [⟨.mu, cd⟩]) ∧ Rep K mg H' (φ.push p) (S ++ [⟨.mu, cd⟩]) (.ref p) (.ref S.length) ∧ Keep H φ S H' (φ.push p) (S ++ [⟨.mu, cd⟩]) := by
  have split : ∀ {i : Nat} {a : Addr} {c : Cell}, (φ.cs ++ [p])[i]? = some a → (S ++ [⟨.mu, cd⟩])[i]? = some c → (φ.cs[i]? = some a ∧ S[i]? = some c) ∨ (a = p ∧ c = ⟨.mu, cd⟩) := by
    intro i a c h1 h2
    by_cases hi : i < φ.cs.length
    · rw [List.getElem?_append_left hi] at h1
      rw [List.getElem?_append_left (by rw [← st.len]; exact hi)] at h2
      exact .inl ⟨h1, h2⟩
    · rw [List.getElem?_append_right (by omega)] at h1
      rw [List.getElem?_append_right (by rw [← st.len]; omega), ← st.len] at h2
      have hz : i - φ.cs.length = 0 := by
        by_cases z : i - φ.cs.length = 0
        · exact z
        · rw [List.getElem?_eq_none (by simp; omega)] at h1; cases h1
      rw [hz] at h1 h2
      simp at h1 h2
      exact .inr ⟨h1.symm, h2.symm⟩
  have mu : ∀ a, Mu (φ.push p) (S ++ [⟨.mu, cd⟩]) a → a = p ∨ Mu φ S a := fun a z => by
    rcases z with ⟨i, c, h1, h2, h3⟩ | z
    · rcases split h1 h2 with ⟨q1, q2⟩ | ⟨q1, _⟩
      · exact .inr (.inl ⟨i, c, q1, q2, h3⟩)
      · exact .inl q1
    · exact .inr (.inr z)
  have wr : ∀ a, Wr (φ.push p) (S ++ [⟨.mu, cd⟩]) a → a = p ∨ Wr φ S a := fun a ⟨i, c, h1, h2, h3⟩ => by
    rcases split h1 h2 with ⟨q1, q2⟩ | ⟨q1, _⟩
    · exact .inr ⟨i, c, q1, q2, h3⟩
    · exact .inl q1
  have hne : ∀ a, H a ≠ none → a = p → False := fun a h z => by subst z; exact h hp
  have th : ∀ a, H a ≠ none → H' a ≠ none := fun a h => by
    cases e : H a with
    | none => exact absurd e h
    | some o => rw [hk a o e]; exact fun q => nomatch q
  have sy : Stay H (Mu φ S) H' (Mu (φ.push p) (S ++ [⟨.mu, cd⟩])) := ⟨fun a o e _ => hk a o e, fun a e m => (mu a m).elim (fun z => (hne a e z).elim) id⟩
  refine ⟨⟨by simp [Ad.push, st.len], ?_, fun b hb => ⟨fun z => ?_, th b (st.ex b hb).2⟩, fun n a c h1 h2 => ?_⟩, .ref ?_, ⟨fun n a h => ?_, rfl, fun a h m => (mu a m).elim (fun z => (hne a h z).elim) id, fun a h m => (wr a m).elim (fun z => (hne a h z).elim) id, fun a o h _ => hk a o h, th⟩⟩
  · show (φ.cs ++ [p]).Nodup
    rw [List.nodup_append]
    refine ⟨st.nd, (by simp), fun x hx y hy e => ?_⟩
    rw [List.mem_singleton] at hy
    subst hy; subst e
    exact fresh_not st hp hx
  · rcases List.mem_append.mp (show b ∈ φ.cs ++ [p] from z) with z | z
    · exact (st.ex b hb).1 z
    · rw [List.mem_singleton] at z
      exact hne b (st.ex b hb).2 z
  · rcases split h1 h2 with ⟨q1, q2⟩ | ⟨q1, q2⟩
    · exact (st.at_ n a c q1 q2).stay sy fun o e => hk a o e
    · subst q1; subst q2
      exact r _ sy mu
  · show (φ.cs ++ [p])[S.length]? = _
    rw [← st.len, List.getElem?_append_right (Nat.le_refl _)]; simp
  · show (φ.cs ++ [p])[n]? = _
    rw [List.getElem?_append_left (List.getElem?_eq_some_iff.mp h).1]; exact h
end
section
variable {X : Cx} {k : Nat} {Φ : CallF} {fs bs : List Str} {pos : Pos}
theorem se_fz {e : Expr} {f : Env → Cells → R D} (h : PE X e (TEv X.K X.mg f)) : PE X e (TEv X.K X.mg fun ρ S => norm S.length ((f ρ S).bind frz)) :=
  h.imp fun σ H Q hh => by
    obtain ⟨φ, ρ, S, st, re, a⟩ := TEv.norm hh
    refine ⟨φ, ρ, S, st, re, (Ans.step a).mono fun v H1 ⟨φ1, S1, d, st1, r1, k1, a1⟩ => ?_⟩
    cases ef : frz d S1 with
    | exn x S2 => rw [ef] at a1; exact a1.elim
    | stuck => rw [ef] at a1; exact a1.elim
    | ok e S2 =>
      rw [ef] at a1
      obtain ⟨st2, dv, k2⟩ := frz_ok st1 r1 ef
      exact a1 v H1 φ1 st2 (.dat dv) k2
/-- a module's constant, as a value -/
def cstV : D → Option V
  | .int i => some (.int i)
  | .str s => some (.str s)
  | .bl b => some (.bl b)
  | _ => none
theorem cst_dat {K : PySem.W.Frag} {mg : Str → Option Value} {H : Hp} {M : Addr → Prop} {d : D} {v : V} (h : cstV d = some v) : Dat K mg H M v d := by
  cases d <;> first | (cases h; done) | (cases h; constructor)
theorem se_gc {x : Str} {d : D} {v : V} {u : Value} (hg : Gl X x) (hm : X.mg x = some u) (hv : cstV d = some v) (r : RelV v u) (hd : (x == ("__debug__" : Str)) = false) : PE X (.Name x pos) (TEv X.K X.mg fun _ S => .ok d S) :=
  se_k (pe_glob hg hm r hd) fun H φ S => .dat (cst_dat hv)
/-- max(e, default=d) -/
theorem se_maxd (g : GX X k Φ fs bs) {e d : Expr} {p kpos : Pos} {fa fd : Env → Cells → R D} (ha : PE X e (TEv X.K X.mg fa)) (hd : PE X d (TEv X.K X.mg fd)) (hg : Gl X "max") (hb : ("max" : Str) ∈ bs) (he : starEach [e] X.env = [(false, eval e X.env)]) :
    PE X (.Call (.Name "max" p) [e] [⟨some "default", d, kpos⟩] pos) (TEv X.K X.mg fun ρ S => norm S.length ((fa ρ S).bind fun x S => (fd ρ S).bind fun y S => one x S fun x => match x, y with
      | .lst xs, .int d => match intsD xs with
        | some is => .ok (.int (maxD d is)) S
        | none => .stuck
      | _, _ => .stuck)) :=
  (pe_callBK (cr_maxDf g.calm) hg (g.blts _ hb) (by decide +kernel) (pa_cons ha pa_nil (hs := by rw [he] <;> rfl)) (pk_cons hd pk_nil) (he := by rw [he] <;> rfl) (hpl := by rw [he] <;> rfl)).imp fun σ H Q hq => by
    obtain ⟨φ, ρ, S, st, re, q⟩ := tev2 (TEv.norm hq)
    refine ⟨φ, ρ, S, st, re, q.mono fun x H1 ⟨φ1, ρ1, S1, st1, re1, q1⟩ => ⟨φ1, ρ1, S1, st1, re1, q1.mono fun y H2 ⟨φ2, S2, a, b, st2, r1, r2, q2⟩ => ?_⟩⟩
    obtain ⟨a', va, q3⟩ := one_ans st2 r1 q2
    cases a' <;> try (exact q3.elim)
    case lst xs =>
      cases b <;> try (exact q3.elim)
      case int n =>
        simp only at q3
        split at q3
        · rename_i is his
          obtain ⟨p, ws, e1, e2, e3⟩ := va.lst
          rw [ints_V e3 his] at e2
          exact ⟨p, is, n, by rw [e1], by rw [rep_int r2], .of e2, here_i st2 q3⟩
        · exact q3.elim
/-- sorted(set(e)) -/
theorem se_sset (g : GX X k Φ fs bs) {e : Expr} {p p2 p3 : Pos} {fa : Env → Cells → R D} (ha : PE X e (TEv X.K X.mg fa)) (hg : Gl X "sorted") (hb : ("sorted" : Str) ∈ bs) (hg2 : Gl X "set") (hb2 : ("set" : Str) ∈ bs) (he : starEach [e] X.env = [(false, eval e X.env)]) :
    PE X (.Call (.Name "sorted" p) [.Call (.Name "set" p2) [e] [] p3] [] pos) (TEv X.K X.mg fun ρ S => norm S.length ((fa ρ S).bind fun x S => one x S fun x => match x with
      | .lst xs => match strsD xs with
        | some ss => .need (decide (ss.length < 4000)) (newL ((sortS (dedS ss)).map .str) S)
        | none => .stuck
      | _ => .stuck)) :=
  (pe_callB (cr_sortedSetS g.calm) hg (g.blts _ hb) (by decide +kernel) (pa_cons (pe_callTy (cr_setOfS g.calm) hg2 (g.blts _ hb2) (by decide +kernel) (pa_cons ha pa_nil (hs := by rw [he] <;> rfl)) (hn := by decide +kernel) (hdb := by decide +kernel) (he := by rw [he] <;> rfl) (hpl := by rfl)) pa_nil (hs := by rfl)) (hn := by decide +kernel) (hdb := by decide +kernel) (he := by rfl) (hpl := by rfl)).imp fun σ H Q hq => by
    obtain ⟨φ, ρ, S, st, re, q⟩ := TEv.norm hq
    refine ⟨φ, ρ, S, st, re, (Ans.step q).mono fun x H1 ⟨φ1, S1, d, st1, r1, k1, q1⟩ => ?_⟩
    obtain ⟨a', va, q2⟩ := one_ans st1 r1 q1
    cases a' <;> try (exact q2.elim)
    case lst xs =>
      simp only at q2
      split at q2
      · rename_i ss hss
        obtain ⟨c, q2⟩ := need_ans q2
        obtain ⟨p, ws, e1, e2, e3⟩ := va.lst
        rw [strs_V e3 hss] at e2
        have few := of_decide_eq_true c
        refine ⟨p, ss, by rw [e1], .of e2, by unfold scanBound; omega, fun a hna => ⟨a, dedS ss, rfl, upd_same, ?_, fun ns b hpm hs hnb => ?_⟩⟩
        · have := fold_len ss []
          show (ss.foldl addS []).length < 4096
          simp only [List.length_nil] at this
          omega
        · obtain ⟨st2, k2⟩ := lay_more (H' := upd H1 a (SetSO X.w a (dedS ss))) st1 fun b o e => by rw [upd_ne (ne_of_none e hna)]; exact e
          have q3 := Ans.later k2 q2
          rw [← sortS_eq hpm hs] at q3
          exact newL_ans st2 (dats_strs _) q3 hnb
      · exact q2.elim
/-- f(e, ..), f any expression that gives a def -/
theorem se_callx (g : GX X k Φ fs bs) {f : Expr} {e : Expr} {es : List Expr} {fv : Env → Cells → R D} {fa : Env → Cells → R (List D)} (hat : (match f with | .Attribute .. => false | _ => true) = true) (hv : PE X f (TEv X.K X.mg fv))
    (hfs : ∀ y a, X.mg y = some (.ref a) → y ∈ fs ∨ ∀ ds S, Φ y ds S = .stuck) (ha : PA X (e :: es) (TAv X.K X.mg fa))
    (he : starEach (e :: es) X.env = (false, eval e X.env) :: starEach es X.env) (hpl : (backTo pos (starEach es X.env)).any (·.1) = false) :
    PE X (.Call f (e :: es) [] pos) (TEv X.K X.mg fun ρ S => norm S.length ((fv ρ S).bind fun f S => match f with
      | .glo f => (fa ρ S).bind fun ds S => Φ f ds S
      | _ => .stuck)) := by
  refine ⟨fun pins s σ H Q I h => ?_⟩
  obtain ⟨φ, ρ, S, st, re, q⟩ := TEv.norm h
  have main : wpAny (model X.prog X.w) X.A (eval f X.env) (fun f s₁ => wpAny (model X.prog X.w) X.A (callWith pos f [] (backTo pos (starEach (e :: es) X.env)) (backToKw pos (keywordEach [] X.env))) (EP X pins σ Q) X.xe s₁) X.xe s := by
    refine (thn (hv.run pins s σ H _ I ⟨φ, ρ, S, st, re, Ans.step q⟩) fun u s1 ⟨v, H1, I1, rv, φ1, S1, d, st1, r1, k1, q1⟩ => ?_)
    cases d <;> try (exact q1.elim)
    case glo y =>
      dsimp only at q1
      obtain ⟨a, ev, hm⟩ := (Vw.dat (by cases r1 with | dat z => exact z) : Vw X.K X.mg H1 φ1 S1 v (.glo y)).glo
      subst ev
      cases rv
      rcases hfs y a hm with hy | hy
      · obtain ⟨a', fd, ps, hm', hk, hb, har, F⟩ := (g.calls y hy).to
        rw [hm] at hm'
        cases hm'
        refine PySem.W.callWith_K (h₀ := X.base) I.ok.mod.kin hk (thn (ha.run pos pins s1 σ H1 (fun vs H1 => ∃ φ1 S1 ds, StOk X.K X.mg H1 φ1 S1 ∧ Repl X.K X.mg H1 φ1 S1 vs ds ∧ Ans X.K X.mg (Φ y ds S1) H1 φ1 S1 Q) I1
          ⟨φ1, ρ, S1, st1, re.keep k1, anss_id q1 fun vs H1 φ1 S1 ds s1 r1 _ a1 => ⟨φ1, S1, ds, s1, r1, a1⟩⟩) fun us s1 ⟨vs, H1, I1, r1, φ1, S1, ds, st1, rr, a1⟩ => ⟨I1.kIn, ?_⟩) he hpl
        by_cases hl : vs.length = ps.length
        · exact run_g g F hb I1 r1 ⟨hl, φ1, S1, ds, st1, rr, a1⟩
        · rw [har ds S1 (by rw [← rr.length]; exact hl)] at a1
          exact a1.elim
      · exfalso
        cases e : fa ρ S1 with
        | ok ds S2 => rw [e] at q1; simp only [R.bind] at q1; rw [hy] at q1; exact q1
        | exn z S2 => rw [e] at q1; exact q1
        | stuck => rw [e] at q1; exact q1
  have eq_ : eval (.Call f (e :: es) [] pos) X.env = (do
      let fv ← eval f X.env
      callWith pos fv [] (backTo pos (starEach (e :: es) X.env)) (backToKw pos (keywordEach [] X.env))) := by
    cases f <;> first | rfl | exact nomatch hat
  rw [eq_]
  exact wpAny_bind main
theorem se_dnew : PE X (.Dict [] [] pos) (TEv X.K X.mg fun _ S => newD [] [] S) :=
  pe_dnewK.imp fun σ H Q ⟨φ, ρ, S, st, re, q⟩ p hp => newD_ans (kvs := []) (ks := []) (ds := []) st rfl .nil q hp
/-- e[::-1] -/
theorem se_rvs {e : Expr} {j : Nat} {p1 p2 p3 : Pos} {fa : Env → Cells → R D} (ha : PE X e (TEv X.K X.mg fa)) : PE X (.Subscript e (.Slice none none (some (.UnaryOp .USub (.Constant (.int 1) j p1) p2)) p3) pos) (TEv X.K X.mg fun ρ S => norm S.length ((fa ρ S).bind fun x S => one x S fun x => match x with
    | .lst xs => newL xs.reverse S
    | _ => .stuck)) :=
  (pe_revL ha).imp fun σ H Q hq => by
    obtain ⟨φ, ρ, S, st, re, q⟩ := TEv.norm hq
    refine ⟨φ, ρ, S, st, re, (Ans.step q).mono fun x H1 ⟨φ1, S1, d, st1, r1, k1, q1⟩ => ?_⟩
    obtain ⟨a', va, q2⟩ := one_ans st1 r1 q1
    cases a' <;> try (exact q2.elim)
    case lst xs =>
      obtain ⟨p, ws, e1, e2, e3⟩ := va.lst
      exact ⟨p, ws, e1, .of e2, fun b hb => newL_ans st1 e3.reverse q2 hb⟩
theorem dats_items {K : PySem.W.Frag} {mg : Str → Option Value} {H H' : Hp} {M M' : Addr → Prop} (sy : Stay H M H' M') : ∀ {ts : List Addr} {kvs : List (Key × V)} {ks : List Key} {ds : List D}, Paired (fun (t : Addr) (q : Key × V) => H' t = some (.tup [kV q.1, q.2])) ts kvs → (∀ t ∈ ts, ¬ M' t) → kvs.map (·.1) = ks → Dats K mg H M (kvs.map (·.2)) ds →
    Dats K mg H' M' (ts.map V.ref) (itemsD ks ds)
  | [], [], ks, ds, p, nm, e, r => by subst e; cases r; exact .nil
  | [], _ :: _, _, _, p, _, _, _ => by cases p
  | _ :: _, [], _, _, p, _, _, _ => by cases p
  | t :: ts, q :: kvs, ks, ds, p, nm, e, r => by
    subst e
    cases p with
    | cons p1 p2 =>
      rw [List.map_cons] at r
      cases r with
      | cons a b =>
        have ih := dats_items sy p2 (fun t ht => nm t (List.mem_cons_of_mem _ ht)) rfl b
        refine .cons ?_ ih
        refine .tup (.inl ⟨.inl p1, nm t List.mem_cons_self⟩) (.cons ?_ (.cons (a.stay sy) .nil))
        cases q.1 with
        | inl i => exact .int i
        | inr z => exact .str z
/-- list(e.items()) -/
theorem se_items (g : GX X k Φ fs bs) {e : Expr} {p apos cpos : Pos} {fa : Env → Cells → R D} (ha : PE X e (TEv X.K X.mg fa)) (hg : Gl X "list") (hb : ("list" : Str) ∈ bs) (hbase : attributeBase e "items" X.env (eval e X.env) = eval e X.env) (hline : (apos.endLine == cpos.line) = true) :
    PE X (.Call (.Name "list" p) [.Call (.Attribute e "items" apos) [] [] cpos] [] pos) (TEv X.K X.mg fun ρ S => norm S.length ((fa ρ S).bind fun x S => one x S fun x => match x with
      | .dic ks vs => newL (itemsD ks vs) S
      | _ => .stuck)) :=
  (LiI.pe_listItems g.calm ha hg (g.blts _ hb) (by decide +kernel) (hbase := hbase) (hline := hline)).imp fun σ H Q hq => by
    obtain ⟨φ, ρ, S, st, re, q⟩ := TEv.norm hq
    refine ⟨φ, ρ, S, st, re, (Ans.step q).mono fun x H1 ⟨φ1, S1, d, st1, r1, k1, q1⟩ => ?_⟩
    obtain ⟨a', va, q2⟩ := one_ans st1 r1 q1
    cases a' <;> try (exact q2.elim)
    case dic ks ds =>
      obtain ⟨p, kvs, e1, e2, e3, e4⟩ := va.dic
      refine ⟨p, kvs, e1, e2, fun H' b ts hk hb hts hbt hH' hp => ?_⟩
      obtain ⟨s2, r2, k2⟩ := lay_there (cd := .lst (itemsD ks ds)) st1 hk hb (some_ne hH') fun M' sy mu => .lst hH' (dats_items sy hp (fun t ht z => by
        rcases mu t z with z | z
        · subst z; exact hbt ht
        · exact fresh_mu st1 (hts t ht) z) e3 e4)
      exact q2 _ _ _ s2 r2 k2
end
end VS

/-! VS, part N: chains, calls by keywords; the look at the text. -/
namespace VS
open PySem PySem.Spec L2 PyProof.Rows

section
variable {X : Cx} {k : Nat} {Φ : CallF} {fs bs : List Str} {pos : Pos}
/-- a op b op' c -/
theorem chain_read {K : PySem.W.Frag} {mg : Str → Option Value} {fa fb fc : Env → Cells → R D} {op op' : Cop} {σ : L2.St} {H : Hp} {Q Q' : VK} (hq : ∀ {H : Hp} {φ : Ad} {S : Cells} {o : Option Bool}, Ans K mg (bR o S) H φ S Q → Ans K mg (bR o S) H φ S Q')
    (h : TEv K mg (fun ρ S => norm S.length ((fa ρ S).bind fun x S => (fb ρ S).bind fun y S => both x y S fun x' y' => match cmpV op x' y' with
      | some true => (fc ρ S).bind fun z S => both y z S fun y z => bR (cmpV op' y z) S
      | some false => .ok (.bl false) S
      | none => .stuck)) σ H Q) : tChain (rCmp K mg op) (rCmp K mg op') (TEv K mg fa) (TEv K mg fb) (TEv K mg fc) σ H Q' := by
  obtain ⟨φ, ρ, S, st, re, q⟩ := TEv.norm h
  refine ⟨φ, ρ, S, st, re, (Ans.step q).mono fun x H1 ⟨φ1, S1, a, s1, r1, k1, q1⟩ => ⟨φ1, ρ, S1, s1, re.keep k1, (Ans.step q1).mono fun y H2 ⟨φ2, S2, b, s2, r2, k2, q2⟩ => ?_⟩⟩
  obtain ⟨a', b', va, vb, q3⟩ := both_ans s2 (r1.keep k2) r2 q2
  refine ⟨φ2, S2, a', b', s2, va, vb, ?_⟩
  cases e : cmpV op a' b' with
  | none => rw [e] at q3; exact q3.elim
  | some t =>
    rw [e] at q3
    intro v H3 φ3 s3 r3 k3
    refine ⟨t, rep_bl r3, ?_⟩
    cases t with
    | false => exact hq (o := some false) q3 _ H3 φ3 s3 (.dat (.bl false)) k3
    | true =>
      refine ⟨φ3, ρ, S2, s3, ((re.keep k1).keep k2).keep k3, (Ans.step (Ans.later k3 q3)).mono fun z H4 ⟨φ4, S4, c, s4, r4, k4, q4⟩ => ?_⟩
      obtain ⟨b2, c2, vb2, vc2, q5⟩ := both_ans s4 ((r2.keep k3).keep k4) r4 q4
      exact ⟨φ4, S4, b2, c2, s4, vb2, vc2, hq q5⟩
theorem se_chain (g : GX X k Φ fs bs) {a b c : Expr} {fa fb fc : Env → Cells → R D} (op op' : Cop) (ha : PE X a (TEv X.K X.mg fa)) (hb : PE X b (TEv X.K X.mg fb)) (hc : PE X c (TEv X.K X.mg fc)) (hm : lastMarks [cOf op, cOf op'] [b, c] = false) :
    PE X (.Compare a [cOf op, cOf op'] [b, c] pos) (TEv X.K X.mg fun ρ S => norm S.length ((fa ρ S).bind fun x S => (fb ρ S).bind fun y S => both x y S fun x' y' => match cmpV op x' y' with
      | some true => (fc ρ S).bind fun z S => both y z S fun y z => bR (cmpV op' y z) S
      | some false => .ok (.bl false) S
      | none => .stuck)) :=
  (pe_chain (or_cmp g.hu op) (or_cmp g.hu op') ha hb hc (hm := hm)).imp fun σ H Q h => chain_read (fun h => h) h
theorem st_chain (g : GX X k Φ fs bs) {a b c : Expr} {fa fb fc : Env → Cells → R D} (op op' : Cop) (ha : PE X a (TEv X.K X.mg fa)) (hb : PE X b (TEv X.K X.mg fb)) (hc : PE X c (TEv X.K X.mg fc)) (hm : lastMarks [cOf op, cOf op'] [b, c] = false) :
    PT X (.Compare a [cOf op, cOf op'] [b, c] pos) (TTv X.K X.mg fun ρ S => norm S.length ((fa ρ S).bind fun x S => (fb ρ S).bind fun y S => both x y S fun x' y' => match cmpV op x' y' with
      | some true => (fc ρ S).bind fun z S => both y z S fun y z => bR (cmpV op' y z) S
      | some false => .ok (.bl false) S
      | none => .stuck)) :=
  (pt_chain (or_cmp g.hu op) (or_cmp g.hu op') ha hb hc (hm := hm)).imp fun σ H Q h => by
    exact chain_read bool_ans (ttv_step h)

/-! ### keywords -/
structure KwOk (P : Program) (w : World) (K : PySem.W.Frag) (mg : Str → Option Value) (base : Heap) (k : Nat) (Φ : CallF) (f : Str) (n : Nat) (ks : List Str) (pm : List Nat) : Prop where
  to : ∃ (a : Addr) (fd : FuncData) (ps : List Str), mg f = some (.ref a) ∧ PySem.W.keepIn K (.ref a) = true ∧ pm.length = ps.length ∧ (∀ i ∈ pm, i < n + ks.length) ∧
    (∀ (s : Shared) (us ws : List Value), K.In s.heap → us.length = n → ws.length = ks.length → BindsTo s fd ⟨us, ks.zip ws⟩ (ps.zip (pm.map fun i => (us ++ ws).getD i .none))) ∧ FnG P w K mg base k a fd ps (spF K mg Φ f ps.length)
theorem _root_.L2.PK.imp {X : Cx} {e : List Keyword} {t t' : TA} (h : PK X e t) (i : ∀ σ H Q, t' σ H Q → t σ H Q) : PK X e t' := ⟨fun pos pins s σ H Q I q => h.run pos pins s σ H Q I (i σ H Q q)⟩
theorem sk_nil : PK X [] (TAv X.K X.mg fun _ S => .ok [] S) := pk_nil.imp fun σ H Q ⟨φ, ρ, S, st, re, a⟩ => a [] H φ st .nil (Keep.refl _ _ _)
theorem sk_cons {e : Expr} {nm : Option Str} {kpos : Pos} {es : List Keyword} {fa : Env → Cells → R D} {fb : Env → Cells → R (List D)} (ha : PE X e (TEv X.K X.mg fa)) (hb : PK X es (TAv X.K X.mg fb)) :
    PK X (⟨nm, e, kpos⟩ :: es) (TAv X.K X.mg fun ρ S => (fa ρ S).bind fun d S => (fb ρ S).bind fun ds S => .ok (d :: ds) S) :=
  (pk_cons ha hb).imp fun σ H Q ⟨φ, ρ, S, st, re, a⟩ => by
    refine ⟨φ, ρ, S, st, re, (Ans.steps a).mono fun v H1 ⟨φ1, S1, d, st1, r1, k1, a1⟩ => ?_⟩
    refine ⟨φ1, ρ, S1, st1, re.keep k1, ?_⟩
    show Anss _ _ (fb ρ S1) H1 φ1 S1 _
    cases e : fb ρ S1 with
    | ok ds S2 =>
      rw [e] at a1
      exact fun vs H2 φ2 st2 r2 k2 => a1 (v :: vs) H2 φ2 st2 (.cons (r1.keep k2) r2) k2
    | exn x S2 => rw [e] at a1; exact a1
    | stuck => rw [e] at a1; exact a1
theorem repl_get {K : PySem.W.Frag} {mg : Str → Option Value} {H : Hp} {φ : Ad} {S : Cells} {vs : List V} {ds : List D} (h : Repl K mg H φ S vs ds) : ∀ {i : Nat}, i < vs.length → Rep K mg H φ S (vs.getD i .non) (ds.getD i .non) := by
  induction h with
  | nil => intro i hi; cases hi
  | cons a b ih =>
    intro i hi
    cases i with
    | zero => exact a
    | succ i => exact ih (by simpa using hi)
theorem vals_get {vs : List V} {us : List Value} (h : Vals vs us) : ∀ {i : Nat}, i < vs.length → RelV (vs.getD i .non) (us.getD i .none) := by
  induction h with
  | nil => intro i hi; cases hi
  | cons a b ih =>
    intro i hi
    cases i with
    | zero => exact a
    | succ i => exact ih (by simpa using hi)
theorem repl_pm {K : PySem.W.Frag} {mg : Str → Option Value} {H : Hp} {φ : Ad} {S : Cells} {vs : List V} {ds : List D} (h : Repl K mg H φ S vs ds) : ∀ {pm : List Nat}, (∀ i ∈ pm, i < vs.length) → Repl K mg H φ S (pm.map fun i => vs.getD i .non) (pm.map fun i => ds.getD i .non)
  | [], _ => .nil
  | i :: pm, hi => .cons (repl_get h (hi i List.mem_cons_self)) (repl_pm h fun j hj => hi j (List.mem_cons_of_mem _ hj))
theorem vals_pm {vs : List V} {us : List Value} (h : Vals vs us) : ∀ {pm : List Nat}, (∀ i ∈ pm, i < vs.length) → Vals (pm.map fun i => vs.getD i .non) (pm.map fun i => us.getD i .none)
  | [], _ => .nil
  | i :: pm, hi => .cons (vals_get h (hi i List.mem_cons_self)) (vals_pm h fun j hj => hi j (List.mem_cons_of_mem _ hj))
theorem kwE (kws : List Keyword) (env : PySem.Env) (pos : Pos) : (backToKw pos (keywordEach kws env)).map (·.1) = kws.map (·.arg) := by
  induction kws with
  | nil => rfl
  | cons a r ih =>
    obtain ⟨n, v, p⟩ := a
    show n :: (backToKw pos (keywordEach r env)).map (·.1) = n :: r.map (·.arg)
    rw [ih]
theorem filterMap_map1 {α β : Type} (l : List (Option α × β)) : l.filterMap (·.1) = (l.map (·.1)).filterMap id := by
  rw [List.filterMap_map] <;> rfl
theorem all_map1 {α β : Type} (l : List (Option α × β)) : l.all (·.1.isSome) = (l.map (·.1)).all (·.isSome) := by
  rw [List.all_map] <;> rfl
theorem any_map1 {α β : Type} (l : List (Option α × β)) : l.any (·.1.isNone) = (l.map (·.1)).any (·.isNone) := by
  rw [List.any_map] <;> rfl
theorem se_callk0 (g : GX X k Φ fs bs) {x : Str} {p : Pos} {kws : List Keyword} {ks : List Str} {pm : List Nat} {fa : Env → Cells → R (List D)} (KW : KwOk X.prog X.w X.K X.mg X.base k Φ x 0 ks pm) (hg : Gl X x) (hd : (x == ("__debug__" : Str)) = false)
    (ha : PK X kws (TAv X.K X.mg fa)) (hks : kws.map (·.arg) = ks.map some) (hl : ∀ ρ S ds S', fa ρ S = .ok ds S' → ds.length = ks.length) :
    PE X (.Call (.Name x p) [] kws pos) (TEv X.K X.mg fun ρ S => norm S.length ((fa ρ S).bind fun ds S => Φ x (pm.map fun i => ds.getD i .non) S)) := by
  obtain ⟨a, fd, ps, hm, hk, hpm, hin, hb, F⟩ := KW.to
  refine ⟨fun pins s σ H Q I h => ?_⟩
  obtain ⟨φ, ρ, S, st, re, q⟩ := TEv.norm h
  refine wpAny_Call_Name_kw (ld_glob I hg hm ?_ hd)
  have e1 : (backToKw pos (keywordEach kws X.env)).all (·.1.isSome) = true := by
    rw [all_map1, kwE, hks, List.all_map]; exact List.all_eq_true.mpr fun _ _ => rfl
  have e2 : ((backTo pos (starEach [] X.env)).any (·.1) || (backToKw pos (keywordEach kws X.env)).any (·.1.isNone)) = false := by
    rw [any_map1, kwE, hks, List.any_map]
    show (false || _) = false
    rw [Bool.false_or]
    exact List.any_eq_false.mpr fun _ _ z => nomatch z
  have e3 : (backToKw pos (keywordEach kws X.env)).filterMap (·.1) = ks := by
    rw [filterMap_map1, kwE, hks, List.filterMap_map]
    exact List.filterMap_some
  refine PySem.W.callWith_KW0 (h₀ := X.base) I.ok.mod.kin hk e1 (thn (ha.run pos pins s σ H (fun vs H1 => ∃ φ1 S1 ds, vs.length = ks.length ∧ StOk X.K X.mg H1 φ1 S1 ∧ Repl X.K X.mg H1 φ1 S1 vs ds ∧ Ans X.K X.mg (Φ x (pm.map fun i => ds.getD i .non) S1) H1 φ1 S1 Q) I
    ⟨φ, ρ, S, st, re, ?_⟩) fun us s1 ⟨vs, H1, I1, r1, φ1, S1, ds, el, st1, rr, a1⟩ => ⟨I1.kIn, ?_⟩) e2
  · dsimp only at q
    cases e : fa ρ S with
    | ok ds S2 =>
      have el := hl _ _ _ _ e
      rw [e] at q
      exact fun vs H2 φ2 s2 r2 k2 => ⟨φ2, S2, ds, by rw [r2.length]; exact el, s2, r2, Ans.later k2 q⟩
    | exn x S2 => rw [e] at q; exact q
    | stuck => rw [e] at q; exact q
  · rw [e3]
    have hi : ∀ i ∈ pm, i < vs.length := fun i h => by rw [el]; simpa using hin i h
    have vl : us.length = ks.length := by rw [← r1.length]; exact el
    have bb := hb s1 [] us I1.kIn rfl vl
    have r2 := vals_pm r1 hi
    refine wpAny_call (codeAny_mono (F.run X.A X.stack s1 H1 ⟨[], ks.zip us⟩ _ (pm.map fun i => vs.getD i .non) Q g.room g.guards I1.env0 (by simpa using bb) r2 ⟨by simp [hpm], φ1, S1, _, st1, repl_pm rr hi, a1⟩) fun res s' hq => ?_)
    match res, hq with
    | .error e, hq => exact (False.elim hq)
    | .ok (.ret u), hq => exact I1.after hq
    | .ok .next, hq => exact False.elim hq
    | .ok .brk, hq => exact False.elim hq
    | .ok .cont, hq => exact False.elim hq
end
end VS

/-! VS, part O: the look at the text: expressions. -/
namespace VS
open PySem PySem.Spec L2 PyProof.Rows

/-- what a def's text is looked at with -/
structure Ck where
  N : List Str
  sc : Scope
  fn : Str → Bool
  fs : List Str
  bs : List Str
  kw : List (Str × List Str × List Nat)
  cs : List (Str × D)
def Ck.vis (c : Ck) (x : Str) : Bool := match c.sc.names.lookup x with | some .local => true | some .cell => true | some .free => true | _ => false
def Ck.gl (c : Ck) (x : Str) : Bool := match c.sc.names.lookup x with | some .globalImplicit => true | _ => false
def Ck.loc (c : Ck) (x : Str) : Bool := match c.sc.names.lookup x with | some .local => true | some .cell => c.fn x | _ => false
def Ck.blk (c : Ck) (scope : Scope) : Ck := { c with sc := relS scope c.sc, fn := fun x => scope.names.lookup x == some .cell }
def nodbg (x : Str) : Bool := !(x == ("__debug__" : Str)) && !(x == ("__classdict__" : Str))
def noStar (e : Expr) : Bool := match e with | .Starred .. => false | _ => true
def noComp (e : Expr) : Bool := match e with | .ListComp .. => false | .SetComp .. => false | .DictComp .. => false | _ => true
def noCall (e : Expr) : Bool := match e with | .Call .. => false | _ => true
def noSlice (e : Expr) : Bool := match e with | .Slice .. => false | _ => true
def noSet (e : Expr) : Bool := match e with | .Set .. => false | _ => true
def plainT (e : Expr) : Bool := match e with | .UnaryOp .. => false | .BoolOp .. => false | .IfExp .. => false | .Compare .. => false | _ => true
def okK (d : D) (c : Const) : Bool :=
  match d, c with
  | .non, .none => true
  | .bl b, .bool b' => b == b'
  | .int i, .int j => decide (i = j)
  | .str s, .str t => decide (s = t)
  | _, _ => false
def okC (d d' : D) : Bool :=
  match d, d' with
  | .int i, .int j => decide (i = j)
  | .str i, .str j => decide (i = j)
  | .bl i, .bl j => decide (i = j)
  | _, _ => false
def noAttr (e : Expr) : Bool := match e with | .Attribute .. => false | _ => true
def okTgs : List Nat → Ck → List Expr → Bool
  | [], _, [] => true
  | i :: is, c, .Name x _ :: es => decide (c.N[i]? = some x) && c.loc x && okTgs is c es
  | _, _, _ => false
def okTg (t : Tg) (c : Ck) (e : Expr) : Bool :=
  match t, e with
  | .v i, .Name x _ => decide (c.N[i]? = some x) && c.loc x
  | .tup is, .Tuple es _ _ => okTgs is c es
  | _, _ => false
def tgIs : Tg → List Nat
  | .v i => [i]
  | .tup is => is
def ownOf (c : Ck) (w : List Nat) : List (Str × Nat) := w.map fun i => (c.N.getD i "", i)

mutual
def okX : Ex → Bool → Ck → Expr → Bool
  | .k d, _, _, e => match e with | .Constant c _ _ => okK d c | _ => false
  | .v i, _, c, e => match e with | .Name x _ => decide (c.N[i]? = some x) && c.vis x && nodbg x | _ => false
  | .g y, _, c, e => match e with | .Name x _ => decide (x = y) && c.fs.contains x && c.gl x && nodbg x | _ => false
  | .tup es, _, c, e => match e with | .Tuple l _ _ => okXs es c l | _ => false
  | .lst es, _, c, e => match e with | .List l _ => okXs es c l | _ => false
  | .bin op a b, _, c, e => match e with | .BinOp l o r _ => decide (o = opOf op) && okX a false c l && okX b false c r | _ => false
  | .neg a, t, c, e => !t && match e with | .UnaryOp .USub x _ => okX a false c x | _ => false
  | .cmp op a b, _, c, e => match e with | .Compare l [o] [r] _ => decide (o = cOf op) && okX a false c l && okX b false c r && noSet r | _ => false
  | .chain o p a b d, _, c, e => match e with | .Compare l [o', p'] [m, r] _ => decide (o' = cOf o) && decide (p' = cOf p) && okX a false c l && okX b false c m && okX d false c r && noSet r | _ => false
  | .and a b, t, c, e => match e with
    | .BoolOp .And (x :: y :: ys) p => okX a t c x && (match ys with | [] => okX b t c y | z :: zs => okX b t c (.BoolOp .And (y :: z :: zs) p))
    | _ => false
  | .or a b, t, c, e => match e with
    | .BoolOp .Or (x :: y :: ys) p => okX a t c x && (match ys with | [] => okX b t c y | z :: zs => okX b t c (.BoolOp .Or (y :: z :: zs) p))
    | _ => false
  | .not a, t, c, e => match e with | .UnaryOp .Not x _ => okX a t c x | _ => false
  | .ite a b d, t, c, e => !t && match e with | .IfExp x y z _ => okX a true c x && okX b false c y && okX d false c z | _ => false
  | .ix a i, _, c, e => match e with | .Subscript x y _ => okX a false c x && okX i false c y && noSlice y | _ => false
  | .int1 _, _, _, _ => false
  | .sl a lo hi, _, c, e => match e with | .Subscript x (.Slice l h none _) _ => okX a false c x && okP lo c l && okP hi c h | _ => false
  | .isi a t, _, c, e => match e with
    | .Call (.Name f _) [x, .Name y _] [] _ => decide (f = ("isinstance" : Str)) && decide (y = Str.ofString t) && isiTys.contains t && c.bs.contains f && c.bs.contains y && c.gl f && c.gl y && noStar x && okX a false c x
    | _ => false
  | .call f es, _, c, e => match e with | .Call (.Name x _) l [] _ => decide (x = f) && c.fs.contains x && c.gl x && nodbg x && okXs es c l | _ => false
  | .callv f es, _, c, e => match e with | .Call x (y :: l) [] _ => noAttr x && okX f false c x && okXs es c (y :: l) | _ => false
  | .callk f pm es, _, c, e => match e with
    | .Call (.Name x _) [] kws _ => decide (x = f) && c.gl x && nodbg x && c.kw.contains (x, kws.filterMap (·.arg), pm) && decide (kws.map (·.arg) = (kws.filterMap (·.arg)).map some) && okKs es c kws
    | _ => false
  | .blt b es, _, c, e => match e with | .Call (.Name x _) (y :: l) [] _ => bltOk b && decide (x = bltName b) && c.bs.contains x && c.gl x && okXs es c (y :: l) | _ => false
  | .mth m o es, _, c, e => match e with
    | .Call (.Attribute o' a apos) l [] pos => decide (a = mthName m) && okX o false c o' && noCall o' && (apos.endLine == pos.line) && okXs es c l && (if m = .reverse then l.isEmpty else m ≠ .pop1 && l.length == (if m = .get2 then 2 else 1))
    | _ => false
  | .lc elt w tg it ifs, _, c, e => match e with
    | .ListComp el [⟨t, i, fs, 0⟩] scope _ => okI it c t i && noSet i && blkC c.N c.sc scope (ownOf c w) && okTg tg (c.blk scope) t && (tgIs tg).all (fun i => w.contains i) && okTs ifs (c.blk scope) fs && okX elt false (c.blk scope) el
    | _ => false
  | .lc2 elt w w1 tg it ifs tg1 it1 ifs1, _, c, e => match e with
    | .ListComp el [⟨t, i, fs, 0⟩, ⟨t1, i1, fs1, 0⟩] scope _ => okI it c t i && noSet i && noSet i1 && blkC c.N c.sc scope (ownOf c w) && okTg tg (c.blk scope) t && (tgIs tg).all (fun i => w.contains i) && w1.all (fun i => w.contains i) && okTs ifs (c.blk scope) fs &&
        okI it1 (c.blk scope) t1 i1 && okTg tg1 (c.blk scope) t1 && (tgIs tg1).all (fun i => w1.contains i) && okTs ifs1 (c.blk scope) fs1 && okX elt false (c.blk scope) el
    | _ => false
  | .fz a, t, c, e => !t && okX a false c e
  | .gc y d, _, c, e => match e with | .Name x _ => decide (x = y) && c.gl x && nodbg x && c.cs.any (fun p => decide (p.1 = x) && okC p.2 d) | _ => false
  | .maxd a d, _, c, e => match e with
    | .Call (.Name x _) [y] [⟨some kn, z, _⟩] _ => decide (x = ("max" : Str)) && decide (kn = ("default" : Str)) && c.bs.contains x && c.gl x && noStar y && okX a false c y && okX d false c z
    | _ => false
  | .sset a, _, c, e => match e with
    | .Call (.Name x _) [.Call (.Name y _) [z] [] _] [] _ => decide (x = ("sorted" : Str)) && decide (y = ("set" : Str)) && c.bs.contains x && c.bs.contains y && c.gl x && c.gl y && noStar z && okX a false c z
    | _ => false
  | .dnew, _, _, e => match e with | .Dict [] [] _ => true | _ => false
  | .disp _ _, _, _, _ => false
  | .items a, _, c, e => match e with
    | .Call (.Name x _) [.Call (.Attribute o m apos) [] [] cpos] [] _ => decide (x = ("list" : Str)) && decide (m = ("items" : Str)) && c.bs.contains x && c.gl x && noCall o && (apos.endLine == cpos.line) && okX a false c o
    | _ => false
  | .rvs a, _, c, e => match e with | .Subscript x (.Slice none none (some (.UnaryOp .USub (.Constant (.int 1) _ _) _)) _) _ => okX a false c x | _ => false
/-- a slice's part -/
def okP : Ex → Ck → Option Expr → Bool
  | .k d, _, o => match o, d with | none, .non => true | _, _ => false
  | .int1 a, c, o => match o with | some e => okX a false c e | none => false
  | _, _, _ => false
def okXs : Exs → Ck → List Expr → Bool
  | .nil, _, l => l.isEmpty
  | .cons e es, c, l => match l with | x :: xs => okX e false c x && noStar x && okXs es c xs | [] => false
def okKs : Exs → Ck → List Keyword → Bool
  | .nil, _, l => l.isEmpty
  | .cons e es, c, l => match l with | ⟨_, x, _⟩ :: xs => okX e false c x && okKs es c xs | [] => false
/-- a comprehension's tests -/
def okTs : Exs → Ck → List Expr → Bool
  | .nil, _, l => l.isEmpty
  | .cons e es, c, l => match l, es with | [x], .nil => okX e true c x | _, _ => false
def okI : It → Ck → Expr → Expr → Bool
  | .seq e, c, _, i => okX e false c i
  | .rng1 a, c, _, i => match i with | .Call (.Name x _) [y] [] _ => decide (x = ("range" : Str)) && c.bs.contains x && c.gl x && noStar y && okX a false c y | _ => false
  | .rng2 a b, c, _, i => match i with | .Call (.Name x _) [y, z] [] _ => decide (x = ("range" : Str)) && c.bs.contains x && c.gl x && noStar y && noStar z && okX a false c y && okX b false c z | _ => false
  | .rng3 a b d, c, _, i => match i with | .Call (.Name x _) [y, z, u] [] _ => decide (x = ("range" : Str)) && c.bs.contains x && c.gl x && noStar y && noStar z && noStar u && okX a false c y && okX b false c z && okX d false c u | _ => false
  | .enum e, c, t, i => match t, i with | .Tuple .., .Call (.Name x _) [y] [] _ => decide (x = ("enumerate" : Str)) && c.bs.contains x && c.gl x && noStar y && okX e false c y | _, _ => false
  | .zip _ _, _, _, _ => false
  | .rev e, c, _, i => match i with | .Call (.Name x _) [y] [] _ => decide (x = ("reversed" : Str)) && c.bs.contains x && c.gl x && noStar y && okX e false c y | _ => false
end
end VS

/-! VS, part P: the look is sound: expressions. -/
namespace VS
open PySem PySem.Spec L2 PyProof.Rows

theorem star_cons {e : Expr} {es : List Expr} {env : PySem.Env} (h : noStar e = true) : starEach (e :: es) env = (false, eval e env) :: starEach es env := by
  cases e <;> first | rfl | exact nomatch h
theorem plain_true {a : Expr} {env : PySem.Env} (h : plainT a = true) : ∀ whole, isTrue a env whole = (do let v ← whole; standAt a.pos; holding [v] (truthy v)) := by
  intro whole
  cases a <;> first | rfl | exact nomatch h
theorem plain_ix {b : Expr} (h : noSlice b = true) : PlainIx b := by
  intro o i
  cases b <;> first | rfl | exact nomatch h
theorem plain_base {o : Expr} {a : Str} {env : PySem.Env} {whole : Sem Value} (h : noCall o = true) : attributeBase o a env whole = whole := by
  cases o <;> first | rfl | exact nomatch h
theorem plain_mark {b : Expr} {op : CmpOp} (h : noSet b = true) : behindInMarks op b = false := by
  cases b <;> first | rfl | exact nomatch h
theorem plain_iter {b : Expr} {env : PySem.Env} (h : noSet b = true) : ∀ x, foldedSetIterable b env x = pure x := by
  intro x
  cases b <;> first | rfl | exact nomatch h
theorem any_star {l : List Expr} {env : PySem.Env} {pos : Pos} (h : l.all noStar = true) : (backTo pos (starEach l env)).any (·.1) = false := by
  induction l with
  | nil => rfl
  | cons a r ih =>
    rw [List.all_cons, Bool.and_eq_true] at h
    rw [star_cons h.1]
    show (false || (backTo pos (starEach r env)).any (·.1)) = false
    rw [ih h.2] <;> rfl
theorem boot_ty {t : String} (h : isiTys.contains t = true) : bootBuiltins (Str.ofString t) = some (.type t) ∧ (Str.ofString t) ≠ "__name__" ∧ ((Str.ofString t) == ("__debug__" : Str)) = false := by
  have key : ∀ t ∈ isiTys, bootBuiltins (Str.ofString t) = some (.type t) ∧ (Str.ofString t) ≠ "__name__" ∧ ((Str.ofString t) == ("__debug__" : Str)) = false := by
    intro t ht
    simp only [isiTys, List.mem_cons, List.not_mem_nil, or_false] at ht
    rcases ht with rfl | rfl | rfl | rfl | rfl | rfl <;> exact ⟨by rfl, by decide +kernel, by decide +kernel⟩
  exact key t (List.contains_iff_mem.mp h)

/-- one stands where the look was taken -/
structure GC (c : Ck) (X : Cx) (k : Nat) (Φ : CallF) : Prop where
  g : GX X k Φ c.fs c.bs
  N : X.N = c.N
  sc : X.env.scope = c.sc
  fn : ∀ x, c.fn x = true → X.fn x = true
  kws : ∀ p ∈ c.kw, KwOk X.prog X.w X.K X.mg X.base k Φ p.1 0 p.2.1 p.2.2
  cst : ∀ p ∈ c.cs, ∃ v u, cstV p.2 = some v ∧ X.mg p.1 = some u ∧ RelV v u
  any : ∀ y, y ∈ c.fs ∨ ∀ ds S, Φ y ds S = .stuck
section
variable {c : Ck} {X : Cx} {k : Nat} {Φ : CallF} {pos : Pos}
theorem GC.nm (G : GC c X k Φ) {i : Nat} {x : Str} (h : c.N[i]? = some x) : X.N[i]? = some x := by rw [G.N]; exact h
theorem GC.vis (G : GC c X k Φ) {x : Str} (h : c.vis x = true) : Vis X.env.scope x := by
  unfold Ck.vis at h
  unfold Vis
  rw [G.sc]
  split at h
  · exact .inl (by assumption)
  · exact .inr (.inl (by assumption))
  · exact .inr (.inr (by assumption))
  · cases h
theorem GC.gl (G : GC c X k Φ) {x : Str} (h : c.gl x = true) : Gl X x := by
  unfold Ck.gl at h
  show X.env.scope.names.lookup x = _
  rw [G.sc]
  split at h
  · assumption
  · cases h
theorem GC.loc (G : GC c X k Φ) {x : Str} (h : c.loc x = true) : L2.Loc X.env.scope x ∧ (X.fn x = true ∨ X.env.scope.names.lookup x = some .local) := by
  unfold Ck.loc at h
  unfold L2.Loc
  rw [G.sc]
  split at h
  · rename_i e; exact ⟨.inl e, .inr e⟩
  · rename_i e; exact ⟨.inr e, .inl (G.fn x h)⟩
  · cases h
theorem nodbg_ok {x : Str} (h : nodbg x = true) : (x == ("__debug__" : Str)) = false ∧ (x == ("__classdict__" : Str)) = false := by
  unfold nodbg at h
  simpa using h
theorem GC.blk (G : GC c X k Φ) (s : Shared) (H : Hp) (scope : Scope) (cl : List (Str × Addr)) (C : Addr) (fp : List Addr) : GC (c.blk scope) (X.blk s H scope (compEnvC scope cl C X.env) fp) k Φ where
  g := ⟨G.g.calm, G.g.nd, G.g.room, G.g.guards, G.g.calls, G.g.blts⟩
  N := G.N
  sc := by
    show relS scope X.env.scope = relS scope c.sc
    rw [G.sc]
  fn := fun x h => h
  kws := G.kws
  cst := G.cst
  any := G.any
theorem GC.blt (G : GC c X k Φ) {x : Str} (h : c.bs.contains x = true) : x ∈ c.bs := List.contains_iff_mem.mp h

/-! ### targets -/
def gsOf : List Nat → TGs
  | [] => gNil
  | i :: is => gCons (gName i) (gsOf is)
def gOf (K : PySem.W.Frag) : Tg → TG
  | .v i => gName i
  | .tup is => gTup K is.length (gsOf is)
theorem tgs_ok (G : GC c X k Φ) (is : List Nat) : ∀ es : List Expr, okTgs is c es = true → TgsOk X es is (gsOf is) ∧ (assignEach es X.env).length = is.length ∧ (assignEach es X.env).findIdx? (·.1) = none := by
  induction is with
  | nil =>
    intro es h
    cases es with
    | nil => exact ⟨tgs_nil, rfl, rfl⟩
    | cons e es => exact absurd (show false = true by cases e <;> exact h) Bool.false_ne_true
  | cons i is ih =>
    intro es h
    cases es with
    | nil => exact absurd (show false = true from h) Bool.false_ne_true
    | cons e es =>
      cases e with
      | Name x p =>
        have h' : (decide (c.N[i]? = some x) && c.loc x && okTgs is c es) = true := h
        simp only [Bool.and_eq_true, decide_eq_true_eq] at h'
        obtain ⟨⟨h1, h2⟩, h3⟩ := h'
        obtain ⟨a, b, d⟩ := ih es h3
        obtain ⟨l1, l2⟩ := G.loc h2
        refine ⟨tgs_cons (tg_name G.g.nd (G.nm h1) l1 l2) a rfl, congrArg (· + 1) b, ?_⟩
        show List.findIdx? (·.1) ((false, _) :: assignEach es X.env) = none
        rw [List.findIdx?_cons]
        simp [d]
      | _ => exact absurd (show false = true from h) Bool.false_ne_true
theorem tg_ok {t : Tg} {e : Expr} (G : GC c X k Φ) (h : okTg t c e = true) : TgOk X e t (gOf X.K t) (tgIs t) := by
  unfold okTg at h
  split at h
  · simp only [Bool.and_eq_true, decide_eq_true_eq] at h
    obtain ⟨l1, l2⟩ := G.loc h.2
    exact tg_name G.g.nd (G.nm h.1) l1 l2
  · obtain ⟨a, b, d⟩ := tgs_ok G _ _ h
    exact tg_tup G.g.calm a b d
  · cases h
end
end VS

/-! VS, part Q: the look is sound: expressions, all. -/
namespace VS
open PySem PySem.Spec L2 PyProof.Rows

theorem _root_.L2.PT.to {X : Cx} {e : Expr} {f g : Env → Cells → R D} (h : PT X e (TTv X.K X.mg f)) (e1 : ∀ ρ S, g ρ S = f ρ S) : PT X e (TTv X.K X.mg g) := by
  have : g = f := by funext ρ S; exact e1 ρ S
  rw [this]; exact h
theorem _root_.L2.PW.to {X : Cx} {e : Expr} {f g : Env → Cells → R D} (h : PW X e (TTv X.K X.mg f)) (e1 : ∀ ρ S, g ρ S = f ρ S) : PW X e (TTv X.K X.mg g) := by
  have : g = f := by funext ρ S; exact e1 ρ S
  rw [this]; exact h
theorem _root_.L2.PA.to {X : Cx} {e : List Expr} {f g : Env → Cells → R (List D)} (h : PA X e (TAv X.K X.mg f)) (e1 : ∀ ρ S, g ρ S = f ρ S) : PA X e (TAv X.K X.mg g) := by
  have : g = f := by funext ρ S; exact e1 ρ S
  rw [this]; exact h
theorem _root_.L2.PK.to {X : Cx} {e : List Keyword} {f g : Env → Cells → R (List D)} (h : PK X e (TAv X.K X.mg f)) (e1 : ∀ ρ S, g ρ S = f ρ S) : PK X e (TAv X.K X.mg g) := by
  have : g = f := by funext ρ S; exact e1 ρ S
  rw [this]; exact h
theorem _root_.L2.PI.to {X : Cx} {tg e : Expr} {f g : Env → Cells → R Walked} (h : PI X tg e (TIv X.K X.mg f)) (e1 : ∀ ρ S, g ρ S = f ρ S) : PI X tg e (TIv X.K X.mg g) := by
  have : g = f := by funext ρ S; exact e1 ρ S
  rw [this]; exact h

/-- the tests' reading -/
def ttOf (Φ : CallF) (es : Exs) (K : PySem.W.Frag) (mg : Str → Option Value) : TT := match es with
  | .nil => tYes
  | .cons e _ => TTv K mg (evE Φ e)
structure SE (k : Nat) (Φ : CallF) (x : Ex) : Prop where
  e : ∀ {c : Ck} {X : Cx} {e : Expr}, GC c X k Φ → okX x false c e = true → PE X e (TEv X.K X.mg (evE Φ x))
  t : ∀ {c : Ck} {X : Cx} {e : Expr}, GC c X k Φ → okX x true c e = true → PT X e (TTv X.K X.mg (evE Φ x)) ∧ ∀ op l p, e = .BoolOp op l p → PW X e (TTv X.K X.mg (evE Φ x))
structure SEs (k : Nat) (Φ : CallF) (es : Exs) : Prop where
  a : ∀ {c : Ck} {X : Cx} {l : List Expr}, GC c X k Φ → okXs es c l = true → PA X l (TAv X.K X.mg (evEs Φ es)) ∧ l.all noStar = true
  kw : ∀ {c : Ck} {X : Cx} {l : List Keyword}, GC c X k Φ → okKs es c l = true → PK X l (TAv X.K X.mg (evEs Φ es)) ∧ ∀ ρ S ds S', evEs Φ es ρ S = .ok ds S' → ds.length = l.length
  ts : ∀ {c : Ck} {X : Cx} {l : List Expr}, GC c X k Φ → okTs es c l = true → TsOk X l (ttOf Φ es X.K X.mg) (evTs Φ es)
structure SI (k : Nat) (Φ : CallF) (i : It) : Prop where
  i : ∀ {c : Ck} {X : Cx} {tg e : Expr}, GC c X k Φ → okI i c tg e = true → PI X tg e (TIv X.K X.mg (evI Φ i))
theorem SE.plain {k : Nat} {Φ : CallF} {x : Ex} (hp : ∀ {c : Ck} {X : Cx} {e : Expr}, GC c X k Φ → okX x false c e = true → PE X e (TEv X.K X.mg (evE Φ x)) ∧ plainT e = true) (ht : ∀ c e, okX x true c e = true → okX x false c e = true) : SE k Φ x where
  e := fun G h => (hp G h).1
  t := fun {c X e} G h => by
    obtain ⟨h1, h2⟩ := hp G (ht c e h)
    refine ⟨st_truth h1 (plain_true h2), fun op l p e' => ?_⟩
    subst e'
    exact nomatch h2
theorem okK_ok {d : D} {c : Const} {X : Cx} {j : Nat} {pos : Pos} (h : okK d c = true) : PE X (.Constant c j pos) (TEv X.K X.mg fun _ S => .ok d S) := by
  unfold okK at h
  split at h
  · exact se_k pe_non fun H φ S => .dat .non
  · rename_i b b'
    have : b = b' := by simpa using h
    subst this
    exact se_k pe_bl fun H φ S => .dat (.bl b)
  · rename_i i j
    have : i = j := by simpa using h
    subst this
    exact se_k pe_int fun H φ S => .dat (.int i)
  · rename_i i j
    have : i = j := by simpa using h
    subst this
    exact se_k pe_str fun H φ S => .dat (.str i)
  · cases h
theorem part_of {k : Nat} {Φ : CallF} {x : Ex} {c : Ck} {X : Cx} {o : Option Expr} (G : GC c X k Φ) (ih : ∀ a, x = .int1 a → SE k Φ a) (h : okP x c o = true) : PartOk X o (evE Φ x) := by
  unfold okP at h
  split at h
  · split at h
    · have e : evE Φ (.k .non) = fun _ S => .ok .non S := by funext ρ S; rw [evE]
      rw [e]
      exact .none
    · cases h
  · rename_i a
    split at h
    · have e : evE Φ (.int1 a) = fun ρ S => (evE Φ a ρ S).bind intOnly := by funext ρ S; rw [evE]
      rw [e]
      exact .some ((ih a rfl).e G h)
    · cases h
  · cases h

section
variable {k : Nat} {Φ : CallF}
theorem sx_bin {op : Bop} {a b : Ex} (ia : SE k Φ a) (ib : SE k Φ b) : SE k Φ (.bin op a b) := .plain (fun G h => by
  unfold okX at h
  split at h
  · simp only [Bool.and_eq_true, decide_eq_true_eq] at h
    obtain ⟨⟨rfl, h1⟩, h2⟩ := h
    exact ⟨(se_bin op (ia.e G h1) (ib.e G h2)).to fun ρ S => by rw [evE], rfl⟩
  · cases h) fun _ _ h => h
theorem sx_cmp {op : Cop} {a b : Ex} (ia : SE k Φ a) (ib : SE k Φ b) : SE k Φ (.cmp op a b) where
  e := fun G h => by
    unfold okX at h
    split at h
    · simp only [Bool.and_eq_true, decide_eq_true_eq] at h
      obtain ⟨⟨⟨rfl, h1⟩, h2⟩, h3⟩ := h
      exact (se_cmp G.g op (ia.e G h1) (ib.e G h2) (plain_mark h3)).to fun ρ S => by rw [evE]
    · cases h
  t := fun G h => by
    unfold okX at h
    split at h
    · simp only [Bool.and_eq_true, decide_eq_true_eq] at h
      obtain ⟨⟨⟨rfl, h1⟩, h2⟩, h3⟩ := h
      exact ⟨(st_cmp G.g op (ia.e G h1) (ib.e G h2) (plain_mark h3)).to fun ρ S => by rw [evE], fun _ _ _ e => nomatch e⟩
    · cases h
theorem sx_chain {o p : Cop} {a b d : Ex} (ia : SE k Φ a) (ib : SE k Φ b) (id : SE k Φ d) : SE k Φ (.chain o p a b d) where
  e := fun G h => by
    unfold okX at h
    split at h
    · simp only [Bool.and_eq_true, decide_eq_true_eq] at h
      obtain ⟨⟨⟨⟨⟨rfl, rfl⟩, h1⟩, h2⟩, h3⟩, h4⟩ := h
      exact (se_chain G.g o p (ia.e G h1) (ib.e G h2) (id.e G h3) (plain_mark h4)).to fun ρ S => by rw [evE] <;> rfl
    · cases h
  t := fun G h => by
    unfold okX at h
    split at h
    · simp only [Bool.and_eq_true, decide_eq_true_eq] at h
      obtain ⟨⟨⟨⟨⟨rfl, rfl⟩, h1⟩, h2⟩, h3⟩, h4⟩ := h
      exact ⟨(st_chain G.g o p (ia.e G h1) (ib.e G h2) (id.e G h3) (plain_mark h4)).to fun ρ S => by rw [evE] <;> rfl, fun _ _ _ e => nomatch e⟩
    · cases h
theorem sx_and {a b : Ex} (ia : SE k Φ a) (ib : SE k Φ b) : SE k Φ (.and a b) where
  e := fun {c X e} G h => by
    unfold okX at h
    split at h
    · rename_i x y ys p
      rw [Bool.and_eq_true] at h
      obtain ⟨h1, h2⟩ := h
      have hb : PE X (.BoolOp .And (y :: ys) p) (TEv X.K X.mg (evE Φ b)) := by
        split at h2
        · exact pe_one (ib.e G h2)
        · exact ib.e G h2
      exact (se_and (ia.e G h1) hb).to fun ρ S => by rw [evE]
    · cases h
  t := fun {c X e} G h => by
    unfold okX at h
    split at h
    · rename_i x y ys p
      rw [Bool.and_eq_true] at h
      obtain ⟨h1, h2⟩ := h
      have hb : PW X (.BoolOp .And (y :: ys) p) (TTv X.K X.mg (evE Φ b)) := by
        split at h2
        · exact sw_one (ib.t G h2).1
        · exact (ib.t G h2).2 _ _ _ rfl
      have w := (sw_and (ia.t G h1).1 hb).to (g := evE Φ (.and a b)) fun ρ S => by rw [evE]
      exact ⟨w.pt, fun _ _ _ _ => w⟩
    · cases h
theorem sx_or {a b : Ex} (ia : SE k Φ a) (ib : SE k Φ b) : SE k Φ (.or a b) where
  e := fun {c X e} G h => by
    unfold okX at h
    split at h
    · rename_i x y ys p
      rw [Bool.and_eq_true] at h
      obtain ⟨h1, h2⟩ := h
      have hb : PE X (.BoolOp .Or (y :: ys) p) (TEv X.K X.mg (evE Φ b)) := by
        split at h2
        · exact pe_one (ib.e G h2)
        · exact ib.e G h2
      exact (se_or (ia.e G h1) hb).to fun ρ S => by rw [evE]
    · cases h
  t := fun {c X e} G h => by
    unfold okX at h
    split at h
    · rename_i x y ys p
      rw [Bool.and_eq_true] at h
      obtain ⟨h1, h2⟩ := h
      have hb : PW X (.BoolOp .Or (y :: ys) p) (TTv X.K X.mg (evE Φ b)) := by
        split at h2
        · exact sw_one (ib.t G h2).1
        · exact (ib.t G h2).2 _ _ _ rfl
      have w := (sw_or (ia.t G h1).1 hb).to (g := evE Φ (.or a b)) fun ρ S => by rw [evE]
      exact ⟨w.pt, fun _ _ _ _ => w⟩
    · cases h
theorem sx_not {a : Ex} (ia : SE k Φ a) : SE k Φ (.not a) where
  e := fun G h => by
    unfold okX at h
    split at h
    · exact (se_not (ia.e G h)).to fun ρ S => by rw [evE]
    · cases h
  t := fun G h => by
    unfold okX at h
    split at h
    · exact ⟨(st_not (ia.t G h).1).to fun ρ S => by rw [evE], fun _ _ _ e => nomatch e⟩
    · cases h
theorem sx_ite {a b d : Ex} (ia : SE k Φ a) (ib : SE k Φ b) (id : SE k Φ d) : SE k Φ (.ite a b d) where
  e := fun {c X e} G h => by
    unfold okX at h
    rw [Bool.not_false, Bool.true_and] at h
    split at h
    · simp only [Bool.and_eq_true] at h
      obtain ⟨⟨h1, h2⟩, h3⟩ := h
      exact (se_ite (ia.t G h1).1 (ib.e G h2) (id.e G h3)).to fun ρ S => by rw [evE] <;> rfl
    · cases h
  t := fun G h => by
    unfold okX at h
    exact nomatch (show false = true from h)
theorem sx_neg {a : Ex} (ia : SE k Φ a) : SE k Φ (.neg a) where
  e := fun {c X e} G h => by
    unfold okX at h
    rw [Bool.not_false, Bool.true_and] at h
    split at h
    · exact (se_neg (ia.e G h)).to fun ρ S => by rw [evE] <;> rfl
    · cases h
  t := fun G h => by
    unfold okX at h
    exact nomatch (show false = true from h)
theorem sx_ix {a i : Ex} (ia : SE k Φ a) (ii : SE k Φ i) : SE k Φ (.ix a i) := .plain (fun G h => by
  unfold okX at h
  split at h
  · simp only [Bool.and_eq_true] at h
    obtain ⟨⟨h1, h2⟩, h3⟩ := h
    exact ⟨(se_ix G.g (ia.e G h1) (ii.e G h2) (plain_ix h3)).to fun ρ S => by rw [evE], rfl⟩
  · cases h) fun _ _ h => h
theorem sx_sl {a lo hi : Ex} (ia : SE k Φ a) (il : ∀ x, lo = .int1 x → SE k Φ x) (ih : ∀ x, hi = .int1 x → SE k Φ x) : SE k Φ (.sl a lo hi) := .plain (fun G h => by
  unfold okX at h
  split at h
  · simp only [Bool.and_eq_true] at h
    obtain ⟨⟨h1, h2⟩, h3⟩ := h
    exact ⟨(se_sl (ia.e G h1) (part_of G il h2) (part_of G ih h3)).to fun ρ S => by rw [evE], rfl⟩
  · cases h) fun _ _ h => h
theorem sx_isi {a : Ex} {t : String} (ia : SE k Φ a) : SE k Φ (.isi a t) := .plain (fun G h => by
  unfold okX at h
  split at h
  · simp only [Bool.and_eq_true, decide_eq_true_eq] at h
    obtain ⟨⟨⟨⟨⟨⟨⟨⟨h1, rfl⟩, h3⟩, h4⟩, h5⟩, h6⟩, h7⟩, h8⟩, h9⟩ := h
    obtain ⟨b1, b2, b3⟩ := boot_ty h3
    exact ⟨(se_isi G.g (ia.e G h9) h3 h1 (G.gl h6) (G.blt h4) (G.gl h7) (G.blt h5) b1 b2 b3 (star_cons h8)).to fun ρ S => by rw [evE], rfl⟩
  · cases h) fun _ _ h => h
theorem sx_call {f : Str} {es : Exs} (ie : SEs k Φ es) : SE k Φ (.call f es) := .plain (fun {c X e} G h => by
  unfold okX at h
  split at h
  · rename_i x p l pos
    simp only [Bool.and_eq_true, decide_eq_true_eq] at h
    obtain ⟨⟨⟨⟨rfl, h2⟩, h3⟩, h4⟩, h5⟩ := h
    obtain ⟨ha, hs⟩ := ie.a G h5
    refine ⟨?_, rfl⟩
    cases l with
    | nil =>
      cases es with
      | nil => exact (se_call0 G.g (List.contains_iff_mem.mp h2) (G.gl h3) (nodbg_ok h4).1).to fun ρ S => by rw [evE, evEs]
      | cons _ _ => unfold okXs at h5; exact nomatch h5
    | cons e es' =>
      rw [List.all_cons, Bool.and_eq_true] at hs
      exact (se_call G.g (List.contains_iff_mem.mp h2) (G.gl h3) (nodbg_ok h4).1 ha (star_cons hs.1) (any_star hs.2)).to fun ρ S => by rw [evE]
  · cases h) fun _ _ h => h
theorem sx_callk {f : Str} {pm : List Nat} {es : Exs} (ie : SEs k Φ es) : SE k Φ (.callk f pm es) := .plain (fun {c X e} G h => by
  unfold okX at h
  split at h
  · rename_i x p kws pos
    simp only [Bool.and_eq_true, decide_eq_true_eq] at h
    obtain ⟨⟨⟨⟨⟨rfl, h2⟩, h3⟩, h4⟩, h5⟩, h6⟩ := h
    obtain ⟨ha, hl⟩ := ie.kw G h6
    have hlen : (kws.filterMap (·.arg)).length = kws.length := by
      have := congrArg List.length h5
      simpa using this.symm
    exact ⟨(se_callk0 G.g (G.kws _ (List.contains_iff_mem.mp h4)) (G.gl h2) (nodbg_ok h3).1 ha h5 fun ρ S ds S' e => by rw [hlen]; exact hl ρ S ds S' e).to fun ρ S => by rw [evE], rfl⟩
  · cases h) fun _ _ h => h
theorem sx_blt {b : Blt} {es : Exs} (ie : SEs k Φ es) : SE k Φ (.blt b es) := .plain (fun {c X e} G h => by
  unfold okX at h
  split at h
  · simp only [Bool.and_eq_true, decide_eq_true_eq] at h
    obtain ⟨⟨⟨⟨h1, h2⟩, h3⟩, h4⟩, h5⟩ := h
    obtain ⟨ha, hs⟩ := ie.a G h5
    rw [List.all_cons, Bool.and_eq_true] at hs
    exact ⟨(se_blt G.g h1 h2 (G.gl h4) (G.blt h3) ha (star_cons hs.1) (any_star hs.2)).to fun ρ S => by rw [evE], rfl⟩
  · cases h) fun _ _ h => h
theorem sx_mth {m : Mth} {o : Ex} {es : Exs} (io : SE k Φ o) (ie : SEs k Φ es) : SE k Φ (.mth m o es) := .plain (fun {c X e} G h => by
  unfold okX at h
  split at h
  · rename_i o' a apos l pos
    simp only [Bool.and_eq_true, decide_eq_true_eq] at h
    obtain ⟨⟨⟨⟨⟨rfl, h2⟩, h3⟩, h4⟩, h5⟩, h6⟩ := h
    obtain ⟨ha, hs⟩ := ie.a G h5
    refine ⟨?_, rfl⟩
    by_cases hm : m = .reverse
    · rw [if_pos hm] at h6
      subst hm
      cases l with
      | cons _ _ => cases h6
      | nil =>
        cases es with
        | nil => exact (se_rev G.g (io.e G h2) (plain_base h3) h4).to fun ρ S => by rw [evE] <;> rfl
        | cons _ _ => unfold okXs at h5; exact nomatch h5
    · rw [if_neg hm] at h6
      simp only [Bool.and_eq_true, decide_eq_true_eq, beq_iff_eq] at h6
      obtain ⟨h7, h8⟩ := h6
      have short : ∃ x xs, l = x :: xs ∧ xs.length ≤ 1 := by
        match l, h8 with
        | [], h8 => split at h8 <;> cases h8
        | x :: xs, h8 => exact ⟨x, xs, rfl, by split at h8 <;> simp at h8 <;> simp [h8]⟩
      obtain ⟨x, xs, rfl, hx⟩ := short
      rw [List.all_cons, Bool.and_eq_true] at hs
      have hfew : ((backTo pos (starEach (x :: xs) X.env)).all (fun x => !x.1) && (backToKw pos (keywordEach [] X.env)).all (fun x => x.1.isSome)
          && decide ((x :: xs).length + ([] : List Keyword).length + (if ([] : List Keyword).isEmpty then 0 else 1) < 30)) = true := by
        match xs, hx with
        | [], _ => rw [star_cons hs.1] <;> rfl
        | [y], _ =>
          have h2 := hs.2
          rw [List.all_cons, Bool.and_eq_true] at h2
          rw [star_cons hs.1, star_cons h2.1] <;> rfl
      exact (se_mthN G.g ⟨hm, h7⟩ (io.e G h2) ha (plain_base h3) h4 (star_cons hs.1) hfew (any_star hs.2)).to fun ρ S => by rw [evE]
  · cases h) fun _ _ h => h
theorem sx_lc {elt : Ex} {w : List Nat} {tg : Tg} {it : It} {ifs : Exs} (ie : SE k Φ elt) (ii : SI k Φ it) (iT : SEs k Φ ifs) : SE k Φ (.lc elt w tg it ifs) := .plain (fun {c X e} G h => by
  unfold okX at h
  split at h
  · rename_i el t i fs scope pos
    simp only [Bool.and_eq_true] at h
    obtain ⟨⟨⟨⟨⟨⟨h1, h2⟩, h3⟩, h4⟩, h5⟩, h6⟩, h7⟩ := h
    have hw : (ownOf c w).map (·.2) = w := by unfold ownOf; rw [List.map_map]; exact List.map_id _
    have L : LcOk X el t i fs scope (ownOf c w) tg (evI Φ it) (evTs Φ ifs) (evE Φ elt) :=
      { it := ii.i G h1
        blk := by rw [G.N, G.sc]; exact blkOk_by h3
        set := plain_iter h2
        tgs := ⟨gOf X.K tg, tgIs tg, fun i hi => by rw [hw]; exact List.contains_iff_mem.mp (List.all_eq_true.mp h5 i hi), fun s H C cl fp => tg_ok (G.blk s H scope cl C fp) h4⟩
        ts := ⟨ttOf Φ ifs X.K X.mg, fun s H C cl fp => iT.ts (G.blk s H scope cl C fp) h6⟩
        el := fun s H C cl fp => ie.e (G.blk s H scope cl C fp) h7 }
    refine ⟨(se_lc G.g.calm G.g.nd L).to fun ρ S => ?_, rfl⟩
    rw [evE, hw]
    rfl
  · cases h) fun _ _ h => h
theorem okC_eq {d d' : D} (h : okC d d' = true) : d = d' := by
  unfold okC at h
  split at h <;> first | (cases h; done) | (rw [of_decide_eq_true h])
theorem sx_fz {a : Ex} (ia : SE k Φ a) : SE k Φ (.fz a) where
  e := fun G h => by
    unfold okX at h
    rw [Bool.not_false, Bool.true_and] at h
    exact (se_fz (ia.e G h)).to fun ρ S => by rw [evE]
  t := fun G h => by
    unfold okX at h
    exact nomatch (show false = true from h)
theorem sx_gc {x : Str} {d : D} : SE k Φ (.gc x d) := .plain (fun {c X e} G h => by
  unfold okX at h
  split at h
  · simp only [Bool.and_eq_true, decide_eq_true_eq, List.any_eq_true] at h
    obtain ⟨⟨⟨rfl, h2⟩, h3⟩, ⟨p, hp, h4, h5⟩⟩ := h
    obtain ⟨v, u, e1, e2, r⟩ := G.cst p hp
    have ed := okC_eq h5
    rw [h4] at e2
    rw [ed] at e1
    exact ⟨(se_gc (G.gl h2) e2 e1 r (nodbg_ok h3).1).to fun ρ S => by rw [evE], rfl⟩
  · cases h) fun _ _ h => h
theorem sx_maxd {a d : Ex} (ia : SE k Φ a) (id : SE k Φ d) : SE k Φ (.maxd a d) := .plain (fun {c X e} G h => by
  unfold okX at h
  split at h
  · simp only [Bool.and_eq_true, decide_eq_true_eq] at h
    obtain ⟨⟨⟨⟨⟨⟨rfl, rfl⟩, h3⟩, h4⟩, h5⟩, h6⟩, h7⟩ := h
    exact ⟨(se_maxd G.g (ia.e G h6) (id.e G h7) (G.gl h4) (G.blt h3) (by rw [star_cons h5] <;> rfl)).to fun ρ S => by rw [evE] <;> rfl, rfl⟩
  · cases h) fun _ _ h => h
theorem sx_sset {a : Ex} (ia : SE k Φ a) : SE k Φ (.sset a) := .plain (fun {c X e} G h => by
  unfold okX at h
  split at h
  · simp only [Bool.and_eq_true, decide_eq_true_eq] at h
    obtain ⟨⟨⟨⟨⟨⟨⟨rfl, rfl⟩, h3⟩, h4⟩, h5⟩, h6⟩, h7⟩, h8⟩ := h
    exact ⟨(se_sset G.g (ia.e G h8) (G.gl h5) (G.blt h3) (G.gl h6) (G.blt h4) (by rw [star_cons h7] <;> rfl)).to fun ρ S => by rw [evE] <;> rfl, rfl⟩
  · cases h) fun _ _ h => h
theorem sx_items {a : Ex} (ia : SE k Φ a) : SE k Φ (.items a) := .plain (fun {c X e} G h => by
  unfold okX at h
  split at h
  · simp only [Bool.and_eq_true, decide_eq_true_eq] at h
    obtain ⟨⟨⟨⟨⟨⟨rfl, rfl⟩, h3⟩, h4⟩, h5⟩, h6⟩, h7⟩ := h
    exact ⟨(se_items G.g (ia.e G h7) (G.gl h4) (G.blt h3) (plain_base h5) h6).to fun ρ S => by rw [evE] <;> rfl, rfl⟩
  · cases h) fun _ _ h => h
theorem sx_rvs {a : Ex} (ia : SE k Φ a) : SE k Φ (.rvs a) := .plain (fun {c X e} G h => by
  unfold okX at h
  split at h
  · exact ⟨(se_rvs (ia.e G h)).to fun ρ S => by rw [evE] <;> rfl, rfl⟩
  · cases h) fun _ _ h => h
theorem sx_callv {f : Ex} {es : Exs} (iF : SE k Φ f) (ie : SEs k Φ es) : SE k Φ (.callv f es) := .plain (fun {c X e} G h => by
  unfold okX at h
  split at h
  · rename_i x y l pos
    simp only [Bool.and_eq_true] at h
    obtain ⟨⟨h1, h2⟩, h3⟩ := h
    obtain ⟨ha, hs⟩ := ie.a G h3
    rw [List.all_cons, Bool.and_eq_true] at hs
    exact ⟨(se_callx G.g h1 (iF.e G h2) (fun y a hm => G.any y) ha (star_cons hs.1) (any_star hs.2)).to fun ρ S => by rw [evE] <;> rfl, rfl⟩
  · cases h) fun _ _ h => h
theorem sx_lc2 {elt : Ex} {w w1 : List Nat} {tg tg1 : Tg} {it it1 : It} {ifs ifs1 : Exs} (ie : SE k Φ elt) (ii : SI k Φ it) (iT : SEs k Φ ifs) (ii1 : SI k Φ it1) (iT1 : SEs k Φ ifs1) : SE k Φ (.lc2 elt w w1 tg it ifs tg1 it1 ifs1) := .plain (fun {c X e} G h => by
  unfold okX at h
  split at h
  · rename_i el t i fs t1 i1 fs1 scope pos
    simp only [Bool.and_eq_true] at h
    obtain ⟨⟨⟨⟨⟨⟨⟨⟨⟨⟨⟨⟨h1, h2⟩, h2'⟩, h3⟩, h4⟩, h5⟩, h5'⟩, h6⟩, g1⟩, g2⟩, g3⟩, g4⟩, h7⟩ := h
    have hw : (ownOf c w).map (·.2) = w := by unfold ownOf; rw [List.map_map]; exact List.map_id _
    have L : LcOk2 X el t i t1 i1 fs fs1 scope (ownOf c w) tg w1 (evI Φ it) (evTs Φ ifs) tg1 (evI Φ it1) (evTs Φ ifs1) (evE Φ elt) :=
      { it := ii.i G h1
        blk := by rw [G.N, G.sc]; exact blkOk_by h3
        set := plain_iter h2
        set1 := fun env => plain_iter h2'
        sub := fun i hi => by rw [hw]; exact List.contains_iff_mem.mp (List.all_eq_true.mp h5' i hi)
        tgs := ⟨gOf X.K tg, tgIs tg, fun i hi => by rw [hw]; exact List.contains_iff_mem.mp (List.all_eq_true.mp h5 i hi), fun s H C cl fp => tg_ok (G.blk s H scope cl C fp) h4⟩
        ts := ⟨ttOf Φ ifs X.K X.mg, fun s H C cl fp => iT.ts (G.blk s H scope cl C fp) h6⟩
        it1 := fun s H C cl fp => ii1.i (G.blk s H scope cl C fp) g1
        tgs1 := ⟨gOf X.K tg1, tgIs tg1, fun i hi => List.contains_iff_mem.mp (List.all_eq_true.mp g3 i hi), fun s H C cl fp => tg_ok (G.blk s H scope cl C fp) g2⟩
        ts1 := ⟨ttOf Φ ifs1 X.K X.mg, fun s H C cl fp => iT1.ts (G.blk s H scope cl C fp) g4⟩
        el := fun s H C cl fp => ie.e (G.blk s H scope cl C fp) h7 }
    refine ⟨(se_lc2 G.g.calm G.g.nd L).to fun ρ S => ?_, rfl⟩
    rw [evE, hw]
    rfl
  · cases h) fun _ _ h => h
mutual
theorem sX : ∀ x : Ex, SE k Φ x
  | .k d => .plain (fun G h => by
      unfold okX at h
      split at h
      · exact ⟨(okK_ok h).to fun ρ S => by rw [evE], rfl⟩
      · cases h) fun _ _ h => h
  | .v i => .plain (fun G h => by
      unfold okX at h
      split at h
      · simp only [Bool.and_eq_true, decide_eq_true_eq] at h
        obtain ⟨⟨h1, h2⟩, h3⟩ := h
        exact ⟨(se_var G.g (G.nm h1) (G.vis h2) (nodbg_ok h3).1 (nodbg_ok h3).2).to fun ρ S => by rw [evE], rfl⟩
      · cases h) fun _ _ h => h
  | .g x => .plain (fun G h => by
      unfold okX at h
      split at h
      · simp only [Bool.and_eq_true, decide_eq_true_eq] at h
        obtain ⟨⟨⟨rfl, h2⟩, h3⟩, h4⟩ := h
        exact ⟨(se_g G.g (List.contains_iff_mem.mp h2) (G.gl h3) (nodbg_ok h4).1).to fun ρ S => by rw [evE], rfl⟩
      · cases h) fun _ _ h => h
  | .tup es => .plain (fun G h => by
      unfold okX at h
      split at h
      · exact ⟨(se_tup ((sXs es).a G h).1).to fun ρ S => by rw [evE], rfl⟩
      · cases h) fun _ _ h => h
  | .lst es => .plain (fun G h => by
      unfold okX at h
      split at h
      · exact ⟨(se_lst ((sXs es).a G h).1).to fun ρ S => by rw [evE], rfl⟩
      · cases h) fun _ _ h => h
  | .bin op a b => sx_bin (sX a) (sX b)
  | .neg a => sx_neg (sX a)
  | .cmp op a b => sx_cmp (sX a) (sX b)
  | .chain o p a b d => sx_chain (sX a) (sX b) (sX d)
  | .and a b => sx_and (sX a) (sX b)
  | .or a b => sx_or (sX a) (sX b)
  | .not a => sx_not (sX a)
  | .ite a b d => sx_ite (sX a) (sX b) (sX d)
  | .ix a i => sx_ix (sX a) (sX i)
  | .int1 a => ⟨fun G h => absurd h (by unfold okX; exact Bool.false_ne_true), fun G h => absurd h (by unfold okX; exact Bool.false_ne_true)⟩
  | .sl a lo hi => sx_sl (sX a) (sY lo) (sY hi)
  | .isi a t => sx_isi (sX a)
  | .call f es => sx_call (sXs es)
  | .callv f es => sx_callv (sX f) (sXs es)
  | .callk f pm es => sx_callk (sXs es)
  | .blt b es => sx_blt (sXs es)
  | .mth m o es => sx_mth (sX o) (sXs es)
  | .lc elt w tg it ifs => sx_lc (sX elt) (sIt it) (sXs ifs)
  | .lc2 elt w w1 tg it ifs tg1 it1 ifs1 => sx_lc2 (sX elt) (sIt it) (sXs ifs) (sIt it1) (sXs ifs1)
  | .fz a => sx_fz (sX a)
  | .gc x d => sx_gc
  | .maxd a d => sx_maxd (sX a) (sX d)
  | .sset a => sx_sset (sX a)
  | .dnew => .plain (fun G h => by
      unfold okX at h
      split at h
      · exact ⟨se_dnew.to fun ρ S => by rw [evE], rfl⟩
      · cases h) fun _ _ h => h
  | .disp ks vs => .plain (fun G h => by unfold okX at h; exact nomatch h) fun _ _ h => h
  | .items a => sx_items (sX a)
  | .rvs a => sx_rvs (sX a)
theorem sY : ∀ (x : Ex) (a : Ex), x = .int1 a → SE k Φ a
  | .int1 a, b, h => by cases h; exact sX a
  | .k d, _, h => nomatch h
  | .v i, _, h => nomatch h
  | .g x, _, h => nomatch h
  | .tup es, _, h => nomatch h
  | .lst es, _, h => nomatch h
  | .bin op a b, _, h => nomatch h
  | .neg a, _, h => nomatch h
  | .cmp op a b, _, h => nomatch h
  | .chain o p a b d, _, h => nomatch h
  | .and a b, _, h => nomatch h
  | .or a b, _, h => nomatch h
  | .not a, _, h => nomatch h
  | .ite a b d, _, h => nomatch h
  | .ix a i, _, h => nomatch h
  | .sl a lo hi, _, h => nomatch h
  | .isi a t, _, h => nomatch h
  | .call f es, _, h => nomatch h
  | .callv f es, _, h => nomatch h
  | .callk f pm es, _, h => nomatch h
  | .blt b es, _, h => nomatch h
  | .mth m o es, _, h => nomatch h
  | .lc elt w tg it ifs, _, h => nomatch h
  | .lc2 .., _, h => nomatch h
  | .fz _, _, h => nomatch h
  | .gc _ _, _, h => nomatch h
  | .maxd _ _, _, h => nomatch h
  | .sset _, _, h => nomatch h
  | .dnew, _, h => nomatch h
  | .disp _ _, _, h => nomatch h
  | .items _, _, h => nomatch h
  | .rvs _, _, h => nomatch h
theorem sXs : ∀ es : Exs, SEs k Φ es
  | .nil =>
    { a := fun {c X l} G h => by
        unfold okXs at h
        cases l with
        | nil => exact ⟨sa_nil.to fun ρ S => by rw [evEs], rfl⟩
        | cons _ _ => cases h
      kw := fun {c X l} G h => by
        unfold okKs at h
        cases l with
        | nil => exact ⟨sk_nil.to fun ρ S => (by rw [evEs]), fun ρ S ds S' e => by rw [evEs] at e; cases e; rfl⟩
        | cons _ _ => cases h
      ts := fun {c X l} G h => by
        unfold okTs at h
        cases l with
        | nil =>
          have e : evTs Φ .nil = fun _ S => .ok true S := by funext ρ S; rw [evTs]
          rw [e]
          exact ts_nil
        | cons _ _ => cases h }
  | .cons e es =>
    { a := fun {c X l} G h => by
        unfold okXs at h
        cases l with
        | nil => cases h
        | cons x xs =>
          simp only [Bool.and_eq_true] at h
          obtain ⟨⟨h1, h2⟩, h3⟩ := h
          obtain ⟨ha, hs⟩ := (sXs es).a G h3
          exact ⟨(sa_cons ((sX e).e G h1) ha (star_cons h2)).to fun ρ S => (by rw [evEs]), by rw [List.all_cons, h2, hs] <;> rfl⟩
      kw := fun {c X l} G h => by
        unfold okKs at h
        cases l with
        | nil => cases h
        | cons x xs =>
          obtain ⟨nm, x, p⟩ := x
          simp only [Bool.and_eq_true] at h
          obtain ⟨h1, h3⟩ := h
          obtain ⟨ha, hs⟩ := (sXs es).kw G h3
          refine ⟨(sk_cons ((sX e).e G h1) ha).to fun ρ S => (by rw [evEs]), fun ρ S ds S' e' => ?_⟩
          rw [evEs] at e'
          obtain ⟨d, S1, e1, e2⟩ := bind_ok e'
          obtain ⟨ds', S2, e3, e4⟩ := bind_ok e2
          cases e4
          simp [hs _ _ _ _ e3]
      ts := fun {c X l} G h => by
        unfold okTs at h
        split at h
        · rename_i x
          have e : evTs Φ (.cons e .nil) = fun ρ S => (evE Φ e ρ S).bind fun d S => match truth S d with
              | some true => .ok true S
              | some false => .ok false S
              | none => .stuck := by
            funext ρ S
            rw [evTs]
            rfl
          rw [e]
          exact ts_one ((sX _).t G h).1
        · cases h }
theorem sIt : ∀ i : It, SI k Φ i
  | .seq e => ⟨fun G h => by unfold okI at h; exact (si_seq ((sX e).e G h)).to fun ρ S => by rw [evI]⟩
  | .rng1 a => ⟨fun G h => by
      unfold okI at h
      split at h
      · simp only [Bool.and_eq_true, decide_eq_true_eq] at h
        obtain ⟨⟨⟨⟨rfl, h2⟩, h3⟩, h4⟩, h5⟩ := h
        exact (si_rng1 G.g ((sX a).e G h5) (G.gl h3) (G.blt h2) (by rw [star_cons h4] <;> rfl)).to fun ρ S => by rw [evI] <;> rfl
      · cases h⟩
  | .rng2 a b => ⟨fun G h => by
      unfold okI at h
      split at h
      · simp only [Bool.and_eq_true, decide_eq_true_eq] at h
        obtain ⟨⟨⟨⟨⟨⟨rfl, h2⟩, h3⟩, h4⟩, h5⟩, h6⟩, h7⟩ := h
        exact (si_rng2 G.g ((sX a).e G h6) ((sX b).e G h7) (G.gl h3) (G.blt h2) (by rw [star_cons h4, star_cons h5] <;> rfl) (by rw [star_cons h5] <;> rfl)).to fun ρ S => by rw [evI] <;> rfl
      · cases h⟩
  | .rng3 a b d => ⟨fun G h => by
      unfold okI at h
      split at h
      · simp only [Bool.and_eq_true, decide_eq_true_eq] at h
        obtain ⟨⟨⟨⟨⟨⟨⟨⟨rfl, h2⟩, h3⟩, h4⟩, h5⟩, h6⟩, h7⟩, h8⟩, h9⟩ := h
        exact (si_rng3 G.g ((sX a).e G h7) ((sX b).e G h8) ((sX d).e G h9) (G.gl h3) (G.blt h2) (by rw [star_cons h4, star_cons h5, star_cons h6] <;> rfl) (by rw [star_cons h5, star_cons h6] <;> rfl) (by rw [star_cons h6] <;> rfl)).to fun ρ S => by rw [evI] <;> rfl
      · cases h⟩
  | .enum e => ⟨fun G h => by
      unfold okI at h
      split at h
      · simp only [Bool.and_eq_true, decide_eq_true_eq] at h
        obtain ⟨⟨⟨⟨rfl, h2⟩, h3⟩, h4⟩, h5⟩ := h
        exact (si_enum G.g ((sX e).e G h5) (G.gl h3) (G.blt h2) (by rw [star_cons h4] <;> rfl)).to fun ρ S => by rw [evI]
      · cases h⟩
  | .zip a b => ⟨fun G h => by unfold okI at h; exact nomatch h⟩
  | .rev e => ⟨fun G h => by
      unfold okI at h
      split at h
      · simp only [Bool.and_eq_true, decide_eq_true_eq] at h
        obtain ⟨⟨⟨⟨rfl, h2⟩, h3⟩, h4⟩, h5⟩ := h
        exact (si_rev G.g ((sX e).e G h5) (G.gl h3) (G.blt h2) (by rw [star_cons h4] <;> rfl)).to fun ρ S => by rw [evI]
      · cases h⟩
end
end
end VS

/-! VS, part R: the look at the text: statements. -/
namespace VS
open PySem PySem.Spec L2 PyProof.Rows

def noTup (e : Expr) : Bool := match e with | .Tuple .. => false | _ => true
/-- a comprehension that is stored under this local name at once -/
def swC (c : Ck) (y : Str) (py : Pos) (x : Expr) : Bool :=
  match x with
  | .ListComp _ gs scope pos => (match c.sc.names.lookup y with
    | some .local => (py.line == pos.line) && !(scope.names.any fun (n, k) => n == y && (k == .local || k == .cell))
    | some .cell => true
    | _ => false)
  | _ => false
def flatF (e : Ex) : Bool :=
  match e with
  | .lc .. => true
  | .lc2 .. => true
  | .fz (.lc ..) => true
  | .fz (.lc2 ..) => true
  | _ => false
def unstar (e : Expr) : Expr := match e with | .Starred x _ => x | x => x
def starAt (es : List Expr) : Option Nat := es.findIdx? fun e => !noStar e
mutual
def okS : Sx → Ck → Stmt → Bool
  | .expr e, c, s => match s with | .Expr x _ => noComp x && okX e false c x | _ => false
  | .ret e, c, s => match s with | .Return (some x) _ => okX e false c x | _ => false
  | .retN, _, s => match s with | .Return none _ => true | _ => false
  | .set i e, c, s => match s with | .Assign [.Name y p] x _ => decide (c.N[i]? = some y) && c.loc y && (noComp x || (swC c y p x && flatF e)) && okX e false c x | _ => false
  | .unp is e, c, s => match s with | .Assign [.Tuple ts k p] x _ => noComp x && noTup x && okTg (.tup is) c (.Tuple ts k p) && okX e false c x | _ => false
  | .star is a e, c, s => match s with | .Assign [.Tuple ts _ _] x _ => noComp x && noTup x && okTgs is c (ts.map unstar) && decide (starAt ts = some a) && okX e false c x | _ => false
  | .seti o i e, c, s => match s with | .Assign [.Subscript o' i' _] x _ => noSlice i' && okX o false c o' && okX i false c i' && okX e false c x | _ => false
  | .aug i op e, c, s => match s with | .AugAssign (.Name y _) o x _ => decide (c.N[i]? = some y) && c.loc y && decide (o = opOf op) && okX e false c x | _ => false
  | .ite t a b, c, s => match s with | .If x p q _ => okX t true c x && okSs a c p && okSs b c q | _ => false
  | .for tg it b, c, s => match s with | .For t i p [] _ => okI it c t i && noSet i && okTg tg c t && okSs b c p | _ => false
  | .while t b, c, s => match s with | .While x p [] _ => okX t true c x && okSs b c p | _ => false
  | .pass, _, s => match s with | .Pass _ => true | .Expr (.Constant (.str _) _ _) _ => true | _ => false
  | .cont, _, s => match s with | .Continue _ => true | _ => false
  | .brk, _, s => match s with | .Break _ => true | _ => false
  | .never, _, _ => true
def okSs : Sxs → Ck → List Stmt → Bool
  | .nil, _, l => l.isEmpty
  | .cons x xs, c, l => match l with | s :: ss => okS x c s && okSs xs c ss | [] => false
end

theorem sw_plain {e : Expr} {t : Option Expr} {l : Nat} {env : PySem.Env} (h : noComp e = true) : swapsWith e t l env = pure false := by
  cases e <;> first | rfl | exact nomatch h
theorem sw_cell {elt : Expr} {gs : List Comprehension} {scope : Scope} {pos py : Pos} {y : Str} {l : Nat} {env : PySem.Env} (hy : env.scope.names.lookup y = some .cell) : swapsWith (.ListComp elt gs scope pos) (some (.Name y py)) l env = pure false := by
  have ky : env.kindOf y = some .cell := hy
  unfold swapsWith
  simp only [ky]
  have e : (some NameKind.cell == some NameKind.local) = false := rfl
  rw [e, Bool.and_false, Bool.false_and, Bool.false_and]

section
variable {X : Cx} {k : Nat} {Φ : CallF} {fs bs : List Str} {pos : Pos}
def ipA (op : Bop) : TIp := fun x y H Q => ∃ m n z, x = .int m ∧ y = .int n ∧ augV op m (.int n) = some z ∧ Q (.int z) H
theorem ip_aug (op : Bop) : PIp X (opOf op) (ipA op) := by
  intro pins s σ H x y v u Q I r1 r2 ⟨m, n, z, e1, e2, e3, q⟩
  cases op with
  | add => cases e3; exact ip_add pins s σ H x y v u Q I r1 r2 ⟨m, n, e1, e2, q⟩
  | sub => cases e3; exact ip_sub pins s σ H x y v u Q I r1 r2 ⟨m, n, e1, e2, q⟩
  | _ => cases e3
theorem ss_aug (hN : X.N.Nodup) {i : Nat} {x : Str} {pos' : Pos} {e : Expr} {f : Env → Cells → R D} (op : Bop) (hi : X.N[i]? = some x) (hx : L2.Loc X.env.scope x) (hf : X.fn x = true ∨ X.env.scope.names.lookup x = some .local) (h : PE X e (TEv X.K X.mg f)) :
    PS X (.AugAssign (.Name x pos') (opOf op) e pos) (TSv X.K X.mg fun ρ S => (look ρ i S).toF ρ fun x S => match x with
      | .int m => (f ρ S).toF ρ fun y S => match augV op m y with
        | some z => .next (ρ.set i (some (.int z))) S
        | none => .stuck
      | _ => .stuck) :=
  (ps_aug hN hi hx h (ip_aug op) hf).imp fun E σ H ⟨φ, ρ, S, st, re, q⟩ => by
    dsimp only at q
    unfold look at q
    split at q
    · rename_i d hd
      obtain ⟨v, ev, rv⟩ := re.at_ i d hd
      simp only [R.toF] at q
      split at q
      · rename_i m
        refine ⟨v, ev, φ, ρ, S, st, re, (toF_ans (show AnsS X.K X.mg (R.toF ρ _ _) H φ S E from q)).mono fun y H1 ⟨φ1, S1, d, s1, r1, k1, q1⟩ => ?_⟩
        cases ea : augV op m d with
        | none => rw [ea] at q1; exact q1.elim
        | some z =>
          rw [ea] at q1
          have ed : ∃ n, d = .int n := by
            unfold augV at ea
            split at ea
            · exact ⟨_, rfl⟩
            · exact ⟨_, rfl⟩
            · cases ea
          obtain ⟨n, rfl⟩ := ed
          exact ⟨m, n, z, rep_int rv, rep_int r1, ea, AnsS.here (σ := σ.set i (some (.int z))) q1 s1 ((re.keep k1).set (.dat (.int z)))⟩
      · exact q.elim
    · exact q.elim
/-- name = e, by e's own reading -/
theorem set_of {i : Nat} {st : Stmt} {te : TE} {f : Env → Cells → R D} (h : PS X st (tAsg te (gName i))) (r : ∀ σ H Q, TEv X.K X.mg f σ H Q → te σ H Q) : PS X st (TSv X.K X.mg fun ρ S => (f ρ S).toF ρ fun d S => .next (ρ.set i (some d)) S) :=
  h.imp fun E σ H ⟨φ, ρ, S, st, re, q⟩ => r σ H _ ⟨φ, ρ, S, st, re, (toF_ans q).mono fun v H1 ⟨φ1, S1, d, s1, r1, k1, q1⟩ => AnsS.here (σ := σ.set i (some v)) q1 s1 ((re.keep k1).set r1)⟩
theorem set_ofF {i : Nat} {st : Stmt} {te : TE} {f : Env → Cells → R D} (h : PS X st (tAsg te (gName i))) (r : ∀ σ H Q, TEv X.K X.mg f σ H Q → te σ H Q) : PS X st (TSv X.K X.mg fun ρ S => (norm S.length ((f ρ S).bind frz)).toF ρ fun d S => .next (ρ.set i (some d)) S) :=
  h.imp fun E σ H ⟨φ, ρ, S, st, re, q⟩ => r σ H _ ⟨φ, ρ, S, st, re, (Ans.step (Ans.norm st (toF_ans q))).mono fun v H1 ⟨φ1, S1, d, s1, r1, k1, q1⟩ => by
    cases ef : frz d S1 with
    | exn x S2 => rw [ef] at q1; exact q1.elim
    | stuck => rw [ef] at q1; exact q1.elim
    | ok e S2 =>
      rw [ef] at q1
      obtain ⟨st2, dv, k2⟩ := frz_ok s1 r1 ef
      obtain ⟨φ3, S3, d3, s3, r3, k3, q3⟩ := q1 v H1 φ1 st2 (.dat dv) k2
      exact AnsS.here (σ := σ.set i (some v)) q3 s3 ((re.keep k3).set r3)⟩
theorem asg_lc (hc : X.calm = true) (hN : X.N.Nodup) {i : Nat} {y : Str} {py spos : Pos} {elt tg iter : Expr} {ifs : List Expr} {scope : Scope} {own : List (Str × Nat)} {t : Tg} {fI : Env → Cells → R Walked} {fT : Env → Cells → R Bool} {fE : Env → Cells → R D} (L : LcOk X elt tg iter ifs scope own t fI fT fE)
    (hi : X.N[i]? = some y) (hy : X.env.scope.names.lookup y = some .local) (hsw : swapsWith (.ListComp elt [⟨tg, iter, ifs, 0⟩] scope pos) (some (.Name y py)) spos.line X.env = pure true) :
    ∃ te, PS X (.Assign [.Name y py] (.ListComp elt [⟨tg, iter, ifs, 0⟩] scope pos) spos) (tAsg te (gName i)) ∧ ∀ σ H Q, TEv X.K X.mg (lcD fI t (own.map (·.2)) fT fE) σ H Q → te σ H Q := by
  obtain ⟨g, vt, hv, tk⟩ := L.tgs
  obtain ⟨tt, tsk⟩ := L.ts
  exact ⟨_, ps_setLc hc hN hi hy hsw L.it L.blk (fun s H C cl fp => (tk s H C cl fp).pg) (fun s H C cl fp => (tsk s H C cl fp).pt) L.el (hs := L.set), fun σ H Q h => lc_read hv (fun {H φ S σ ρ ρ' v d Q} => (tk {} (fun _ => none) 0 [] []).to) (fun {H φ S S1 σ ρ t Q} => (tsk {} (fun _ => none) 0 [] []).to) (fun h => h) σ H Q h⟩
theorem asg_lc2 (hc : X.calm = true) (hN : X.N.Nodup) {i : Nat} {y : Str} {py spos : Pos} {elt tg iter tg1 iter1 : Expr} {ifs ifs1 : List Expr} {scope : Scope} {own : List (Str × Nat)} {t t1 : Tg} {w1 : List Nat} {fI fI1 : Env → Cells → R Walked} {fT fT1 : Env → Cells → R Bool} {fE : Env → Cells → R D}
    (L : LcOk2 X elt tg iter tg1 iter1 ifs ifs1 scope own t w1 fI fT t1 fI1 fT1 fE)
    (hi : X.N[i]? = some y) (hy : X.env.scope.names.lookup y = some .local) (hsw : swapsWith (.ListComp elt [⟨tg, iter, ifs, 0⟩, ⟨tg1, iter1, ifs1, 0⟩] scope pos) (some (.Name y py)) spos.line X.env = pure true) :
    ∃ te, PS X (.Assign [.Name y py] (.ListComp elt [⟨tg, iter, ifs, 0⟩, ⟨tg1, iter1, ifs1, 0⟩] scope pos) spos) (tAsg te (gName i)) ∧ ∀ σ H Q, TEv X.K X.mg (lcD2 fI t (own.map (·.2)) w1 fT fI1 t1 fT1 fE) σ H Q → te σ H Q := by
  obtain ⟨g, vt, hv, tk⟩ := L.tgs
  obtain ⟨tt, tsk⟩ := L.ts
  obtain ⟨g1, vt1, hv1, tk1⟩ := L.tgs1
  obtain ⟨tt1, tsk1⟩ := L.ts1
  exact ⟨_, ps_setLc2 (vs1 := w1) hc hN hi hy hsw L.it L.blk L.sub (fun s H C cl fp => (tk s H C cl fp).pg) (fun s H C cl fp => (tsk s H C cl fp).pt) L.it1 (fun s H C cl fp => (tk1 s H C cl fp).pg) (fun s H C cl fp => (tsk1 s H C cl fp).pt) L.el (hs := L.set) (hs1 := L.set1),
    fun σ H Q h => lc2_read hv hv1 (fun {H φ S σ ρ ρ' v d Q} => (tk {} (fun _ => none) 0 [] []).to) (fun {H φ S S1 σ ρ t Q} => (tsk {} (fun _ => none) 0 [] []).to) (fun {H φ S σ ρ ρ' v d Q} => (tk1 {} (fun _ => none) 0 [] []).to) (fun {H φ S S1 σ ρ t Q} => (tsk1 {} (fun _ => none) 0 [] []).to) (fun h => h) σ H Q h⟩
end

theorem lc_of {k : Nat} {Φ : CallF} {c : Ck} {X : Cx} {elt : Ex} {w : List Nat} {tg : Tg} {it : It} {ifs : Exs} {el : Expr} {gs : List Comprehension} {scope : Scope} {pos : Pos} (G : GC c X k Φ) (h : okX (.lc elt w tg it ifs) false c (.ListComp el gs scope pos) = true) :
    ∃ t i fs, gs = [⟨t, i, fs, 0⟩] ∧ LcOk X el t i fs scope (ownOf c w) tg (evI Φ it) (evTs Φ ifs) (evE Φ elt) ∧ (ownOf c w).map (·.2) = w := by
  unfold okX at h
  split at h
  · rename_i el' t i fs scope' pos' heq
    cases heq
    simp only [Bool.and_eq_true] at h
    obtain ⟨⟨⟨⟨⟨⟨h1, h2⟩, h3⟩, h4⟩, h5⟩, h6⟩, h7⟩ := h
    have hw : (ownOf c w).map (·.2) = w := by unfold ownOf; rw [List.map_map]; exact List.map_id _
    exact ⟨t, i, fs, rfl, { it := (sIt it).i G h1
                            blk := by rw [G.N, G.sc]; exact blkOk_by h3
                            set := plain_iter h2
                            tgs := ⟨gOf X.K tg, tgIs tg, fun i hi => by rw [hw]; exact List.contains_iff_mem.mp (List.all_eq_true.mp h5 i hi), fun s H C cl fp => tg_ok (G.blk s H scope cl C fp) h4⟩
                            ts := ⟨ttOf Φ ifs X.K X.mg, fun s H C cl fp => (sXs ifs).ts (G.blk s H scope cl C fp) h6⟩
                            el := fun s H C cl fp => (sX elt).e (G.blk s H scope cl C fp) h7 }, hw⟩
  · cases h
theorem lc2_of {k : Nat} {Φ : CallF} {c : Ck} {X : Cx} {elt : Ex} {w w1 : List Nat} {tg tg1 : Tg} {it it1 : It} {ifs ifs1 : Exs} {el : Expr} {gs : List Comprehension} {scope : Scope} {pos : Pos} (G : GC c X k Φ) (h : okX (.lc2 elt w w1 tg it ifs tg1 it1 ifs1) false c (.ListComp el gs scope pos) = true) :
    ∃ t i fs t1 i1 fs1, gs = [⟨t, i, fs, 0⟩, ⟨t1, i1, fs1, 0⟩] ∧ LcOk2 X el t i t1 i1 fs fs1 scope (ownOf c w) tg w1 (evI Φ it) (evTs Φ ifs) tg1 (evI Φ it1) (evTs Φ ifs1) (evE Φ elt) ∧ (ownOf c w).map (·.2) = w := by
  unfold okX at h
  split at h
  · rename_i el' t i fs t1 i1 fs1 scope' pos' heq
    cases heq
    simp only [Bool.and_eq_true] at h
    obtain ⟨⟨⟨⟨⟨⟨⟨⟨⟨⟨⟨⟨h1, h2⟩, h2'⟩, h3⟩, h4⟩, h5⟩, h5'⟩, h6⟩, g1⟩, g2⟩, g3⟩, g4⟩, h7⟩ := h
    have hw : (ownOf c w).map (·.2) = w := by unfold ownOf; rw [List.map_map]; exact List.map_id _
    exact ⟨t, i, fs, t1, i1, fs1, rfl,
      { it := (sIt it).i G h1
        blk := by rw [G.N, G.sc]; exact blkOk_by h3
        set := plain_iter h2
        set1 := fun env => plain_iter h2'
        sub := fun i hi => by rw [hw]; exact List.contains_iff_mem.mp (List.all_eq_true.mp h5' i hi)
        tgs := ⟨gOf X.K tg, tgIs tg, fun i hi => by rw [hw]; exact List.contains_iff_mem.mp (List.all_eq_true.mp h5 i hi), fun s H C cl fp => tg_ok (G.blk s H scope cl C fp) h4⟩
        ts := ⟨ttOf Φ ifs X.K X.mg, fun s H C cl fp => (sXs ifs).ts (G.blk s H scope cl C fp) h6⟩
        it1 := fun s H C cl fp => (sIt it1).i (G.blk s H scope cl C fp) g1
        tgs1 := ⟨gOf X.K tg1, tgIs tg1, fun i hi => List.contains_iff_mem.mp (List.all_eq_true.mp g3 i hi), fun s H C cl fp => tg_ok (G.blk s H scope cl C fp) g2⟩
        ts1 := ⟨ttOf Φ ifs1 X.K X.mg, fun s H C cl fp => (sXs ifs1).ts (G.blk s H scope cl C fp) g4⟩
        el := fun s H C cl fp => (sX elt).e (G.blk s H scope cl C fp) h7 }, hw⟩
  · cases h
structure SS (k : Nat) (Φ : CallF) (W : Nat) (x : Sx) : Prop where
  s : ∀ {c : Ck} {X : Cx} {st : Stmt}, GC c X k Φ → X.xe = (fun _ _ => False) → c.sc.kind = .function → okS x c st = true → PS X st (TSv X.K X.mg (evS Φ W x))
structure SSs (k : Nat) (Φ : CallF) (W : Nat) (x : Sxs) : Prop where
  s : ∀ {c : Ck} {X : Cx} {st : List Stmt}, GC c X k Φ → X.xe = (fun _ _ => False) → c.sc.kind = .function → okSs x c st = true → PSs X st (TSv X.K X.mg (evSs Φ W x))
theorem _root_.L2.PS.to {X : Cx} {e : Stmt} {f g : Env → Cells → FR} (h : PS X e (TSv X.K X.mg f)) (e1 : ∀ ρ S, g ρ S = f ρ S) : PS X e (TSv X.K X.mg g) := by
  have : g = f := by funext ρ S; exact e1 ρ S
  rw [this]; exact h
theorem _root_.L2.PSs.to {X : Cx} {e : List Stmt} {f g : Env → Cells → FR} (h : PSs X e (TSv X.K X.mg f)) (e1 : ∀ ρ S, g ρ S = f ρ S) : PSs X e (TSv X.K X.mg g) := by
  have : g = f := by funext ρ S; exact e1 ρ S
  rw [this]; exact h
section
variable {k : Nat} {Φ : CallF} {W : Nat}
theorem ss_setX {i : Nat} {e : Ex} : SS k Φ W (.set i e) := ⟨fun {c X st} G hx hk h => by
  unfold okS at h
  split at h
  · rename_i y p x spos
    simp only [Bool.and_eq_true, decide_eq_true_eq, Bool.or_eq_true] at h
    obtain ⟨⟨⟨h1, h2⟩, h3⟩, h4⟩ := h
    obtain ⟨l1, l2⟩ := G.loc h2
    have plain : swapsWith x (some (.Name y p)) spos.line X.env = pure false → PS X (.Assign [.Name y p] x spos) (TSv X.K X.mg (evS Φ W (.set i e))) := fun hs => (ss_set G.g.nd (G.nm h1) l1 l2 ((sX e).e G h4) hs).to fun ρ S => by rw [evS]
    rcases h3 with h3 | ⟨h3, h3f⟩
    · exact plain (sw_plain h3)
    · unfold swC at h3
      split at h3
      · rename_i el gs scope pos
        split at h3
        · rename_i hl
          rw [Bool.and_eq_true, Bool.not_eq_true'] at h3
          have hl' : X.env.scope.names.lookup y = some .local := by rw [G.sc]; exact hl
          have hsw := sw_true (elt := el) (gs := gs) (pos := pos) (l := spos.line) (by rw [G.sc]; exact hk) hl' h3.1 h3.2
          unfold flatF at h3f
          split at h3f
          · obtain ⟨t, i', fs, rfl, L, hw⟩ := lc_of G h4
            obtain ⟨te, p, r⟩ := asg_lc G.g.calm G.g.nd L (G.nm h1) hl' hsw
            refine (set_of p r).to fun ρ S => ?_
            rw [evS, evE, hw]
            rfl
          · obtain ⟨t, i', fs, t1, i1, fs1, rfl, L, hw⟩ := lc2_of G h4
            obtain ⟨te, p, r⟩ := asg_lc2 G.g.calm G.g.nd L (G.nm h1) hl' hsw
            refine (set_of p r).to fun ρ S => ?_
            rw [evS, evE, hw]
            rfl
          · obtain ⟨t, i', fs, rfl, L, hw⟩ := lc_of G (by unfold okX at h4; simpa using h4)
            obtain ⟨te, p, r⟩ := asg_lc G.g.calm G.g.nd L (G.nm h1) hl' hsw
            refine (set_ofF p r).to fun ρ S => ?_
            rw [evS, evE, evE, hw]
            rfl
          · obtain ⟨t, i', fs, t1, i1, fs1, rfl, L, hw⟩ := lc2_of G (by unfold okX at h4; simpa using h4)
            obtain ⟨te, p, r⟩ := asg_lc2 G.g.calm G.g.nd L (G.nm h1) hl' hsw
            refine (set_ofF p r).to fun ρ S => ?_
            rw [evS, evE, evE, hw]
            rfl
          · cases h3f
        · rename_i hl
          exact plain (sw_cell (by rw [G.sc]; exact hl))
        · cases h3
      · cases h3
  · cases h⟩
end
end VS

/-! VS, part S: unpacking with a star; all statements. -/
namespace VS
open PySem PySem.Spec L2 PyProof.Rows

section
variable {prog : Program} {w : World} {A : Around} {E : Value → Shared → Prop} {s : Shared}
/-- the first ones, a new list of those between, the last ones -/
def starL (its : List Value) (n i : Nat) (d : Addr) : List Value := its.take i ++ [.ref d] ++ its.drop (its.length - (n - 1 - i))
abbrev starO (its : List Value) (n i : Nat) : Obj := { cls := .type "list", data := .seq ((its.drop i).take (its.length - (n - 1))).toArray }
theorem star_end {its : List Value} {n i : Nat} {s2 : Shared} {Q : List Value → Shared → Prop} (a1 : i < n) (a2 : n ≤ its.length + 1) (a3 : its.length ≤ sizeLine)
    (g : Q (starL its n i s2.heap.objs.size) { s2 with heap := s2.heap.push (starO its n i) }) :
    wpAny (model prog w) A (newList ((its.drop i).take ((its.drop i).length - (n - 1 - i))) >>= fun d => pure (its.take i ++ [d] ++ (its.drop i).drop ((its.drop i).length - (n - 1 - i)))) Q E s2 := by
  have e1 : (its.drop i).length = its.length - i := by simp
  have e2 : (its.drop i).length - (n - 1 - i) = its.length - (n - 1) := by rw [e1]; omega
  rw [e2]
  refine wpAny_bind (wpAny_newList (wpAny_pure ?_) (by rw [List.length_take]; omega))
  rw [List.drop_drop, show i + (its.length - (n - 1)) = its.length - (n - 1 - i) by omega]
  exact g
theorem star_T {l : Addr} {its : List Value} {n i : Nat} {Q : List Value → Shared → Prop} (b1 : IsTup s.heap l its.toArray) (b2 : A.handled = none) (a1 : i < n) (a2 : n ≤ its.length + 1) (a3 : its.length ≤ sizeLine)
    (g : ∀ (h2 : Heap) (tk : Nat), (∀ b o, s.heap.get? b = some o → h2.get? b = some o) → Q (starL its n i h2.objs.size) { s with heap := h2.push (starO its n i), toks := tk }) :
    wpAny (model prog w) A (unpackItems (.ref l) n (some i)) Q E s := by
  have d1 : l ≠ s.heap.objs.size := by obtain ⟨o, ho, _⟩ := b1; exact Nat.ne_of_lt (Heap.lt_size ho)
  have sz : its.toArray.size = its.length := List.size_toArray
  unfold unpackItems
  refine wpAny_bind ?_
  unfold notIterableAtAll
  refine wpAny_bind (wpAny_specialOf b1.typeIs slot_tuple_iter.lookup (wpAny_pure ?_))
  rw [if_neg Bool.false_ne_true]
  refine wpAny_bind (wpAny_holding (iter_tuple b1 ?_))
  refine wpAny_bind (wpAny_holding (draw_tuple d1 i 0 _ _ ⟨_, Heap.get?_push_size _ rfl, rfl, rfl⟩ (b1.push _) (by omega) fun h1 c1 c2 => ?_))
  have b3 : IsTup h1 l its.toArray := (b1.push _).extBut c2.extBut d1
  rw [Nat.zero_add] at c1
  obtain ⟨o1, c3, _⟩ := id c1
  obtain ⟨o2, c4, _⟩ := id b3
  have e0 : (its.toArray.toList.drop 0).take i = its.take i := rfl
  rw [e0, if_neg (show ¬ (its.take i).length < i by rw [List.length_take]; omega)]
  refine wpAny_bind (wpAny_holding (PySem.W.kun_collect (s := { s with heap := h1 }) (T := "tuple_iterator") (.inr (.inr (.inr rfl))) (Walks.tuple (A := A.in1) b2 s.heap.objs.size l d1 its.toArray) (fun j u st => st.1.typeIs) (k := i) (by omega)
    ⟨c1, b3⟩ (Heap.lt_size c3) (Heap.lt_size c4) (fun h2 tk c5 => ?_) (by rw [sz]; exact a3)))
  show wpAny _ _ (if (its.drop i).length < n - 1 - i then _ else _) Q E _
  rw [if_neg (by rw [List.length_drop]; omega)]
  exact star_end (s2 := { s with heap := h2, toks := tk }) a1 a2 a3 (g h2 tk fun b o e => c5 b o (Nat.ne_of_lt (Heap.lt_size e)) (c2.extBut b o (Nat.ne_of_lt (Heap.lt_size e)) (Heap.get?_push_of_some _ e)))
theorem star_L {l : Addr} {its : List Value} {n i : Nat} {Q : List Value → Shared → Prop} (b1 : s.heap.IsList l its.toArray) (b2 : A.handled = none) (a1 : i < n) (a2 : n ≤ its.length + 1) (a3 : its.length ≤ sizeLine)
    (g : ∀ (h2 : Heap) (tk : Nat), (∀ b o, s.heap.get? b = some o → h2.get? b = some o) → Q (starL its n i h2.objs.size) { s with heap := h2.push (starO its n i), toks := tk }) :
    wpAny (model prog w) A (unpackItems (.ref l) n (some i)) Q E s := by
  have d1 : l ≠ s.heap.objs.size := by obtain ⟨o, ho, _⟩ := b1; exact Nat.ne_of_lt (Heap.lt_size ho)
  have sz : its.toArray.size = its.length := List.size_toArray
  unfold unpackItems
  refine wpAny_bind ?_
  unfold notIterableAtAll
  refine wpAny_bind (wpAny_specialOf b1.typeIs slot_list_iter.lookup (wpAny_pure ?_))
  rw [if_neg Bool.false_ne_true]
  refine wpAny_bind (wpAny_holding (wpAny_pyIter_list b1 ?_))
  refine wpAny_bind (wpAny_holding (PySem.W.kun_draw d1 i 0 _ _ ⟨_, Heap.get?_push_size _ rfl, rfl, rfl⟩ (b1.push _) (by omega) fun h1 c1 c2 => ?_))
  have b3 : h1.IsList l its.toArray := (b1.push _).extBut c2.extBut d1
  rw [Nat.zero_add] at c1
  obtain ⟨o1, c3, _⟩ := id c1
  obtain ⟨o2, c4, _⟩ := id b3
  have e0 : (its.toArray.toList.drop 0).take i = its.take i := rfl
  rw [e0, if_neg (show ¬ (its.take i).length < i by rw [List.length_take]; omega)]
  refine wpAny_bind (wpAny_holding (PySem.W.kun_collect (s := { s with heap := h1 }) (T := "list_iterator") (.inr (.inr (.inl rfl))) (Walks.list (A := A.in1) b2 s.heap.objs.size l d1 its.toArray) (fun j u st => st.1.typeIs) (k := i) (by omega)
    ⟨c1, b3⟩ (Heap.lt_size c3) (Heap.lt_size c4) (fun h2 tk c5 => ?_) (by rw [sz]; exact a3)))
  show wpAny _ _ (if (its.drop i).length < n - 1 - i then _ else _) Q E _
  rw [if_neg (by rw [List.length_drop]; omega)]
  exact star_end (s2 := { s with heap := h2, toks := tk }) a1 a2 a3 (g h2 tk fun b o e => c5 b o (Nat.ne_of_lt (Heap.lt_size e)) (c2.extBut b o (Nat.ne_of_lt (Heap.lt_size e)) (Heap.get?_push_of_some _ e)))
end

section
variable {X : Cx} {pos : Pos}
/-- the target with a star -/
def gStar (K : PySem.W.Frag) (n i : Nat) (t : TGs) : TG := fun v σ H Q => ∃ a xs, v = .ref a ∧ (SqT K H a xs ∨ SqL K H a xs) ∧ n ≤ xs.length + 1 ∧
  ∀ d, H d = none → t (xs.take i ++ [.ref d] ++ xs.drop (xs.length - (n - 1 - i))) σ (upd H d (.lst ((xs.drop i).take (xs.length - (n - 1))))) Q
theorem pg_star {es : List Expr} {kk n i : Nat} {t : TGs} (hc : X.calm = true) (h : PGs X es t) (hn : (assignEach es X.env).length = n) (hst : (assignEach es X.env).findIdx? (·.1) = some i) (hi : i < n) : PG X (.Tuple es kk pos) (gStar X.K n i t) := by
  refine ⟨fun pins s σ H v u Q I r hw => ?_⟩
  obtain ⟨a, xs, rfl, hq, hl, hw⟩ := hw
  cases r
  rw [PyProof.Rows.assign_Tuple]
  refine wpAny_bind (wpAny_standAt ?_)
  unfold unpack
  rw [hn, hst]
  have fin : ∀ its : List Value, Vals xs its → xs.length ≤ sizeLine → ∀ (h2 : Heap) (tk : Nat), (∀ b o, s.heap.get? b = some o → h2.get? b = some o) →
      wpAny (model X.prog X.w) X.A (assignInOrder ((assignEach es X.env).map (·.2)) (starL its n i h2.objs.size)) (fun _ s' => ∃ σ' H', Inv X pins σ' H' s' ∧ Q σ' H') X.xe { s with heap := h2.push (starO its n i), toks := tk } := by
    intro its rv hz h2 tk hk
    have I2 : Inv X pins σ H { s with heap := h2, toks := tk } := I.kept hk
    have e := rv.length
    have I3 := I2.laid (a := h2.objs.size) (o := .lst ((xs.drop i).take (xs.length - (n - 1)))) (h' := h2.push (starO its n i)) (t' := tk) (fun b u z => Heap.get?_push_of_some _ z) (Nat.le_refl _)
      ⟨(by rw [List.length_take, List.length_drop]; omega), (its.drop i).take (its.length - (n - 1)), 0, (by rw [e]; exact (rv.drop i).take _), Heap.get?_push_size _ rfl⟩
    refine h.run pins _ σ _ _ _ Q I3 ?_ (hw _ (I2.hok.fresh (Nat.le_refl _)))
    unfold starL
    rw [← e]
    exact ((rv.take i).append (.cons (show RelV (V.ref h2.objs.size) (Value.ref h2.objs.size) from rfl) .nil)).append (rv.drop _)
  rcases hq with hq | hq
  · obtain ⟨its, rv, ht, hz⟩ := I.tuple hq
    have e := rv.length
    exact wpAny_bind (wpAny_holding (star_T ht (I.ok.hd hc) hi (by omega) (by omega) (fin its rv hz)))
  · obtain ⟨its, rv, ht, hz⟩ := I.list hq
    have e := rv.length
    exact wpAny_bind (wpAny_holding (star_L ht.isList (I.ok.hd hc) hi (by omega) (by omega) (fin its rv hz)))
end

theorem sws_plain {t e : Expr} {l : Nat} {env : PySem.Env} (h : noComp e = true) : swapsWithSole [t] e l env = pure false := by
  show swapsWith e (some t) l env = pure false
  exact sw_plain h
/-! ### the text -/
theorem each_unstar {env : PySem.Env} : ∀ es : List Expr, (assignEach es env).map (·.2) = es.map (fun e => assign (unstar e) env)
  | [] => rfl
  | e :: es => by
    have ih := each_unstar (env := env) es
    cases e <;> (show _ :: (assignEach es env).map (·.2) = _ :: es.map (fun e => assign (unstar e) env); rw [ih] <;> rfl)
theorem each_star {env : PySem.Env} : ∀ es : List Expr, (assignEach es env).map (·.1) = es.map fun e => !noStar e
  | [] => rfl
  | e :: es => by
    have ih := each_star (env := env) es
    cases e <;> (show _ :: (assignEach es env).map (·.1) = _ :: es.map (fun e => !noStar e); rw [ih] <;> rfl)
theorem findIdx_map {α β : Type} (f : α → β) (p : β → Bool) (l : List α) : (l.map f).findIdx? p = l.findIdx? (p ∘ f) := by
  induction l with
  | nil => rfl
  | cons a r ih => simp [List.findIdx?_cons, ih]
theorem pgs_unstar {X : Cx} {es : List Expr} {t : TGs} (hu : (es.map unstar).all noStar = true) (h : PGs X (es.map unstar) t) : PGs X es t := by
  refine ⟨fun pins s σ H vs us Q I r q => ?_⟩
  have e : (assignEach es X.env).map (·.2) = (assignEach (es.map unstar) X.env).map (·.2) := by
    rw [each_unstar, each_unstar, List.map_map]
    refine List.map_congr_left fun x hx => ?_
    have := List.all_eq_true.mp hu (unstar x) (List.mem_map_of_mem hx)
    show assign (unstar x) X.env = assign (unstar (unstar x)) X.env
    cases hh : unstar x <;> first | rfl | (rw [hh] at this; exact absurd this (fun z => nomatch z))
  rw [e]
  exact h.run pins s σ H vs us Q I r q
theorem tgs_names {is : List Nat} {c : Ck} : ∀ {es : List Expr}, okTgs is c es = true → es.all noStar = true := by
  induction is with
  | nil =>
    intro es h
    cases es with
    | nil => rfl
    | cons e es => exact absurd (show false = true by cases e <;> exact h) Bool.false_ne_true
  | cons i is ih =>
    intro es h
    cases es with
    | nil => rfl
    | cons e es =>
      cases e with
      | Name x p =>
        have h' : (decide (c.N[i]? = some x) && c.loc x && okTgs is c es) = true := h
        rw [Bool.and_eq_true] at h'
        show (true && es.all noStar) = true
        rw [ih h'.2] <;> rfl
      | _ => exact absurd (show false = true from h) Bool.false_ne_true
section
variable {X : Cx} {k : Nat} {Φ : CallF} {pos : Pos}
theorem Repl.append {K : PySem.W.Frag} {mg : Str → Option Value} {H : Hp} {φ : Ad} {S : Cells} {vs ws : List V} {ds es : List D} (h : Repl K mg H φ S vs ds) (h2 : Repl K mg H φ S ws es) : Repl K mg H φ S (vs ++ ws) (ds ++ es) := by
  induction h with
  | nil => exact h2
  | cons a _ ih => exact .cons a ih
theorem ss_star {c : Ck} (G : GC c X k Φ) {is : List Nat} {at_ kk : Nat} {ts : List Expr} {p : Pos} {e : Expr} {f : Env → Cells → R D} (h : PE X e (TEv X.K X.mg f)) (h1 : okTgs is c (ts.map unstar) = true) (h2 : starAt ts = some at_) (h3 : noComp e = true) (h4 : noTup e = true) :
    PS X (.Assign [.Tuple ts kk p] e pos) (TSv X.K X.mg fun ρ S => (f ρ S).toF ρ fun d S => match val S d with
      | some v => match seqOf v with
        | some ds => if is.length ≤ ds.length + 1 then
            match asgs is (ds.take at_ ++ [.ref S.length] ++ ds.drop (ds.length - (is.length - 1 - at_))) ρ with
            | some ρ => .next ρ (S ++ [⟨.mu, .lst ((ds.drop at_).take (ds.length - (is.length - 1)))⟩])
            | none => .stuck
          else .stuck
        | none => .stuck
      | none => .stuck) := by
  obtain ⟨T, l1, _⟩ := tgs_ok G is _ h1
  have n1 := tgs_names h1
  have el : (assignEach ts X.env).length = is.length := by
    have := congrArg List.length (each_unstar (env := X.env) ts)
    have l2 := congrArg List.length (each_unstar (env := X.env) (ts.map unstar))
    simp only [List.length_map] at this l2
    rw [this, ← l1, l2]
  have es : (assignEach ts X.env).findIdx? (·.1) = some at_ := by
    have := findIdx_map (·.1) (fun b : Bool => b) (assignEach ts X.env)
    rw [each_star, findIdx_map] at this
    exact this.symm.trans h2
  have hi : at_ < is.length := by
    obtain ⟨q, _⟩ := List.findIdx?_eq_some_iff_getElem.mp es
    rw [el] at q; exact q
  refine (ps_asg h (pg_star G.g.calm (pgs_unstar n1 T.pg) el es hi) (hs := sws_plain h3) (hw := by cases e <;> first | rfl | exact nomatch h4) (h1 := rfl)).imp fun E σ H ⟨φ, ρ, S, st, re, q⟩ => ⟨φ, ρ, S, st, re, (toF_ans q).mono fun v H1 ⟨φ1, S1, d, s1, r1, k1, q1⟩ => ?_⟩
  cases ev : val S1 d with
  | none => rw [ev] at q1; exact q1.elim
  | some w =>
    rw [ev] at q1
    dsimp only at q1
    cases es2 : seqOf w with
    | none => rw [es2] at q1; exact q1.elim
    | some ds =>
      rw [es2] at q1
      dsimp only at q1
      obtain ⟨a, vs, e1, e2, e3⟩ := (val_vw s1 r1 ev).seq es2
      subst e1
      split at q1
      · rename_i hle
        cases ea : asgs is (ds.take at_ ++ [.ref S1.length] ++ ds.drop (ds.length - (is.length - 1 - at_))) ρ with
        | none => rw [ea] at q1; exact q1.elim
        | some ρ' =>
          rw [ea] at q1
          refine ⟨a, vs, rfl, e2.symm, by rw [e3.length]; exact hle, fun D hD => ?_⟩
          have e4 : Dats X.K X.mg H1 (Mu φ1 S1) ((vs.drop at_).take (vs.length - (is.length - 1))) ((ds.drop at_).take (ds.length - (is.length - 1))) := by
            rw [e3.length]; exact (e3.drop at_).take _
          obtain ⟨s2, r2, k2⟩ := lay_lst s1 hD e4
          have e5 := e3.stay k2.stay
          refine T.to s2 ((re.keep k1).keep k2) ?_ ea fun σ' re' _ => q1 σ' _ _ s2 k2 re'
          have := ((e5.take at_).repl.append (.cons r2 .nil)).append (e5.drop (ds.length - (is.length - 1 - at_))).repl
          rw [e3.length] at this ⊢
          exact this
      · exact q1.elim
end
section
variable {k : Nat} {Φ : CallF} {W : Nat}
theorem assign_sub {o i : Expr} {p : Pos} {env : PySem.Env} (h : noSlice i = true) (v : Value) : assign (.Subscript o i p) env v = (do
      let ov ← holding [v] (eval o env)
      let iv ← holding [v, ov] (eval i env)
      standAt p
      holding [v, ov, iv] (setItem ov iv v)
      release [v, ov, iv] []) := by
  cases i <;> first | rfl | exact nomatch h
theorem sws_sub {o i e : Expr} {p : Pos} {l : Nat} {env : PySem.Env} : swapsWithSole [.Subscript o i p] e l env = pure false := by
  show swapsWith e (some (.Subscript o i p)) l env = pure false
  cases e <;> rfl
mutual
theorem sS : ∀ x : Sx, SS k Φ W x
  | .expr e => ⟨fun {c X st} G hx hk h => by
      unfold okS at h
      split at h
      · rw [Bool.and_eq_true] at h
        exact (ss_expr ((sX e).e G h.2) (sw_plain h.1)).to fun ρ S => by rw [evS]
      · cases h⟩
  | .ret e => ⟨fun {c X st} G hx hk h => by
      unfold okS at h
      split at h
      · exact (ss_ret ((sX e).e G h)).to fun ρ S => by rw [evS]
      · cases h⟩
  | .retN => ⟨fun {c X st} G hx hk h => by
      unfold okS at h
      split at h
      · exact ss_retN.to fun ρ S => by rw [evS]
      · cases h⟩
  | .set i e => ss_setX
  | .unp is e => ⟨fun {c X st} G hx hk h => by
      unfold okS at h
      split at h
      · rename_i ts kk p x spos
        simp only [Bool.and_eq_true] at h
        obtain ⟨⟨⟨h1, h2⟩, h3⟩, h4⟩ := h
        exact (ss_asg ((sX e).e G h4) (tg_ok G h3) (sws_plain h1) (by cases x <;> first | rfl | exact nomatch h2) rfl).to fun ρ S => by
          rw [evS]
          congr 1
          funext d S
          cases d <;> rfl
      · cases h⟩
  | .star is at_ e => ⟨fun {c X st} G hx hk h => by
      unfold okS at h
      split at h
      · simp only [Bool.and_eq_true, decide_eq_true_eq] at h
        obtain ⟨⟨⟨⟨h1, h2⟩, h3⟩, h4⟩, h5⟩ := h
        exact (ss_star G ((sX e).e G h5) h3 h4 h1 h2).to fun ρ S => by rw [evS] <;> rfl
      · cases h⟩
  | .seti o i e => ⟨fun {c X st} G hx hk h => by
      unfold okS at h
      split at h
      · simp only [Bool.and_eq_true] at h
        obtain ⟨⟨⟨h1, h2⟩, h3⟩, h4⟩ := h
        exact (ss_seti G.g ((sX o).e G h2) ((sX i).e G h3) ((sX e).e G h4) (assign_sub h1) sws_sub rfl rfl).to fun ρ S => by rw [evS]
      · cases h⟩
  | .aug i op e => ⟨fun {c X st} G hx hk h => by
      unfold okS at h
      split at h
      · simp only [Bool.and_eq_true, decide_eq_true_eq] at h
        obtain ⟨⟨⟨h1, h2⟩, rfl⟩, h4⟩ := h
        obtain ⟨l1, l2⟩ := G.loc h2
        exact (ss_aug G.g.nd op (G.nm h1) l1 l2 ((sX e).e G h4)).to fun ρ S => by rw [evS] <;> rfl
      · cases h⟩
  | .ite t a b => ⟨fun {c X st} G hx hk h => by
      unfold okS at h
      split at h
      · simp only [Bool.and_eq_true] at h
        obtain ⟨⟨h1, h2⟩, h3⟩ := h
        exact (ss_if ((sX t).t G h1).1 ((sSs a).s G hx hk h2) ((sSs b).s G hx hk h3)).to fun ρ S => by rw [evS] <;> rfl
      · cases h⟩
  | .for tg it b => ⟨fun {c X st} G hx hk h => by
      unfold okS at h
      split at h
      · simp only [Bool.and_eq_true] at h
        obtain ⟨⟨⟨h1, h2⟩, h3⟩, h4⟩ := h
        exact (ss_for (by rw [hx]; exact PassesOwn.never) G.g.calm ((sIt it).i G h1) (tg_ok G h3) ((sSs b).s G hx hk h4) (plain_iter h2)).to fun ρ S => by rw [evS] <;> rfl
      · cases h⟩
  | .while t b => ⟨fun {c X st} G hx hk h => by
      unfold okS at h
      split at h
      · simp only [Bool.and_eq_true] at h
        exact (ss_while (W := W) (by rw [hx]; exact PassesOwn.never) ((sX t).t G h.1).1 ((sSs b).s G hx hk h.2)).to fun ρ S => by rw [evS] <;> rfl
      · cases h⟩
  | .pass => ⟨fun {c X st} G hx hk h => by
      unfold okS at h
      split at h
      · exact ss_pass.to fun ρ S => by rw [evS]
      · exact (ps_doc.imp fun D σ H ⟨φ, ρ, S, st, re, q⟩ => AnsS.here q st re : PS X _ (TSv X.K X.mg fun ρ S => .next ρ S)).to fun ρ S => by rw [evS]
      · cases h⟩
  | .cont => ⟨fun {c X st} G hx hk h => by
      unfold okS at h
      split at h
      · exact ss_cont.to fun ρ S => by rw [evS]
      · cases h⟩
  | .brk => ⟨fun {c X st} G hx hk h => by
      unfold okS at h
      split at h
      · exact ss_brk.to fun ρ S => by rw [evS]
      · cases h⟩
  | .never => ⟨fun {c X st} G hx hk h => ss_never.to fun ρ S => by rw [evS]⟩
theorem sSs : ∀ x : Sxs, SSs k Φ W x
  | .nil => ⟨fun {c X st} G hx hk h => by
      unfold okSs at h
      cases st with
      | nil => exact ss_nil.to fun ρ S => by rw [evSs]
      | cons _ _ => cases h⟩
  | .cons x xs => ⟨fun {c X st} G hx hk h => by
      unfold okSs at h
      cases st with
      | nil => cases h
      | cons s ss =>
        rw [Bool.and_eq_true] at h
        exact (ss_cons ((sS x).s G hx hk h.1) ((sSs xs).s G hx hk h.2)).to fun ρ S => by rw [evSs]⟩
end
end
end VS

/-! VS, part T: the defs of a text keep what the interpreter tells. -/
namespace VS
open PySem PySem.Spec L2 PyProof.Rows

/-- a def of the text -/
structure DefT where
  x : Str
  fn : Fn
  st : Stmt
  N : List Str
  ps : List Str
/-- the looks at a whole text -/
structure Txt where
  ds : List DefT
  bs : List Str
  kw : List (Str × List Str × List Nat)
  cs : List (Str × D)
def Txt.fs (T : Txt) : List Str := T.ds.map (·.x)
def Txt.find (T : Txt) (f : Str) : Option DefT := T.ds.find? fun d => d.x == f
def Txt.prog (T : Txt) (f : Str) : Option Fn := (T.find f).map (·.fn)
def Txt.ck (T : Txt) (d : DefT) : Ck := ⟨d.N, defScope d.st, fun _ => true, T.fs, T.bs, T.kw, T.cs⟩
def okDef (T : Txt) (d : DefT) : Bool :=
  C8.scC d.N d.ps (defScope d.st) && decide (d.fn.np = d.ps.length) && decide (d.fn.ns = d.N.length) && okSs d.fn.body (T.ck d) (defBody d.st)
def okKw (T : Txt) (p : Str × List Str × List Nat) : Bool :=
  match T.find p.1 with
  | some d => decide (p.2.2.length = d.ps.length) && p.2.2.all fun i => decide (i < p.2.1.length)
  | none => false
def okTxt (T : Txt) : Bool := T.ds.all (okDef T) && decide T.fs.Nodup && T.kw.all (okKw T)

/-- how a def binds keywords -/
def KwB (K : PySem.W.Frag) (fd : FuncData) (ps : List Str) (ks : List Str) (pm : List Nat) : Prop :=
  ∀ (s : Shared) (us : List Value), K.In s.heap → us.length = ks.length → BindsTo s fd ⟨[], ks.zip us⟩ (ps.zip (pm.map fun i => us.getD i .none))
/-- the def stands behind the top -/
structure Stands (K : PySem.W.Frag) (mg : Str → Option Value) (T : Txt) (d : DefT) : Prop where
  to : ∃ (f : Addr) (fd : FuncData), mg d.x = some (.ref f) ∧ L2.Fun K d.x d.x d.st f fd ∧ L2.Binds K fd d.ps [] ∧ ∀ p ∈ T.kw, p.1 = d.x → KwB K fd d.ps p.2.1 p.2.2

theorem stand_of {K : PySem.W.Frag} {mg : Str → Option Value} {T : Txt} {d : DefT} {f : Addr} {fd : FuncData} (m : mg d.x = some (.ref f)) (F : L2.Fun K d.x d.x d.st f fd)
    (hb : ∀ (kV doc pm : Value) (an : Option Addr) (cd ct : Value) (us : List Value), us.length = d.ps.length → bindArgs (PySem.W.fnOf d.x d.x (defArgs d.st) (defBody d.st) (defScope d.st) .none kV doc pm an cd ct) ⟨us, []⟩ = pure (d.ps.zip us))
    (hk : ∀ p ∈ T.kw, p.1 = d.x → ∀ (kV doc pm : Value) (an : Option Addr) (cd ct : Value) (us : List Value), us.length = p.2.1.length →
      bindArgs (PySem.W.fnOf d.x d.x (defArgs d.st) (defBody d.st) (defScope d.st) .none kV doc pm an cd ct) ⟨[], p.2.1.zip us⟩ = pure (d.ps.zip (p.2.2.map fun i => us.getD i .none))) : Stands K mg T d := by
  refine ⟨f, fd, m, F, F.binds hb, fun p hp hx => ?_⟩
  obtain ⟨oc, od, kV, doc, pm, an, cd, ct, osl, rfl, e1, e2⟩ := F.ex
  exact fun s us kin hl => .of_eq (hk p hp hx kV doc pm an cd ct us hl)
section
variable {P : Program} {w : World} {K : PySem.W.Frag} {mg : Str → Option Value} {base : Heap}
/-- a def by its body, no guard about -/
theorem fn_g {k : Nat} {f : Addr} {x qual : Str} {st : Stmt} {fd : FuncData} {N ps : List Str} {sp : List V → Hp → VK → Prop} (F : L2.Fun K x qual st f fd) (S : FnScope N ps (defScope st)) (len : ∀ vs H Q, sp vs H Q → vs.length = ps.length)
    (body : ∀ (cd : Value) (A : Around) (outer : List PySem.Env) (s : Shared) (H : Hp) (vs : List V) (Q : VK), Room k (A.deeper (envOfC qual (defScope st) s.heap.objs.size f cd)) → A.guards = some [] → sp vs H Q →
      ∃ t, PSs (cxOf CX0 P w K mg base N qual (defScope st) f cd A outer s H E0).nox (defBody st) t ∧ t { nx := fun _ H' => Q .non H', rt := Q } (start N vs) H) : FnG P w K mg base (k + 1) f fd ps sp := by
  obtain ⟨oc, od, kV, doc, pm, an, cd, ct, osl, rfl, e1, e2⟩ := F.ex
  refine ⟨len, fun A outer s H args us vs Q room gd env0 bind rel h => ?_⟩
  have el := len _ _ _ h
  have kIn : K.In s.heap := env0.mod.kin.keeps fun b o e => (env0.bs b o e).1
  have noLim : s.heap.NoLimit := env0.mod.nolimit.keeps fun b o e => (env0.bs b o e).1
  have kinds : ∀ y ∈ ps.zip us, (defScope st).names.lookup y.1 = some .local ∨ ((defScope st).names.lookup y.1 = some .cell ∧ ((cellsFrom (s.heap.objs.size + 1) (defScope st).names []).lookup y.1).isSome = true) := by
    rintro ⟨n, v⟩ hy
    rcases S.par n (List.of_mem_zip hy).1 with q | q
    · exact .inl q
    · exact .inr ⟨q, PySem.W.cellsFrom_some _ _ _ (.inl q)⟩
  refine codeAny_call_function room.depth (kIn _ _ e1) rfl S.co S.gen rfl (PySem.W.codeRec_of kIn e2) (bind _ _ _ _ ?_)
  refine wpAny_newFunctionEnv_cells S.kind kinds fun env ee s1 x => ?_
  subst ee
  refine ⟨noLim.keeps x.toInCall.keep, codeAny_func ?_⟩
  obtain ⟨t, ht, q⟩ := body cd A outer s H vs Q (room.deeper _) gd h
  have I : Inv (cxOf CX0 P w K mg base N qual (defScope st) f cd A outer s H E0) [] (start N vs) H s1 := inv_start S room.hd env0 el rel x
  refine wpAny_mono (ht.nox.run [] s1 (start N vs) H _ I q) (fun fl s2 hs => ?_) fun e s2 hs => hs
  have fin : ∀ {σ2 : L2.St} {H2 : Hp} {v : V} {u : Value}, Inv (cxOf CX0 P w K mg base N qual (defScope st) f cd A outer s H E0) [] σ2 H2 s2 → RelV v u → Q v H2 → CE outer P w H s Q u s2 := fun {σ2 H2 v u} J rv q2 => ⟨v, H2, J.os, J.bare, J.base, J.hok, rv, q2⟩
  match fl, hs with
  | .ret u, ⟨v, σ2, H2, J, rv, q2⟩ => exact fin J rv q2
  | .next, ⟨σ2, H2, J, q2⟩ => exact fin (v := V.non) (u := Value.none) J rfl q2
  | .brk, ⟨_, _, _, q2⟩ => exact False.elim q2
  | .cont, ⟨_, _, _, q2⟩ => exact False.elim q2

theorem start_renv {H : Hp} {φ : Ad} {S : Cells} {vs : List V} {ds : List D} (r : Repl K mg H φ S vs ds) (m : Nat) : REnv K mg H φ S (vs.map some ++ List.replicate m none) (ds.map some ++ List.replicate m none) := by
  induction r with
  | nil =>
    refine ⟨(by simp), fun i d h => ?_⟩
    have h : (List.replicate m (none : Option D))[i]? = some (some d) := h
    rw [List.getElem?_replicate] at h
    split at h <;> cases h
  | cons a _ ih =>
    refine ⟨congrArg (· + 1) ih.len, fun i d h => ?_⟩
    cases i with
    | zero => cases h; exact ⟨_, rfl, a⟩
    | succ i => exact ih.at_ i d h
/-- a def's answer, from its body's -/
theorem ret_ans {H : Hp} {φ : Ad} {S : Cells} {r : FR} {Q : VK} (st : StOk K mg H φ S) (h : Ans K mg (retR S.length r) H φ S Q) : AnsS K mg r H φ S { nx := fun _ H' => Q .non H', rt := Q } := by
  cases r with
  | next ρ S1 =>
    intro σ1 H1 φ1 s1 k1 re1
    exact h .non H1 _ (s1.take S.length) (.dat .non) (k1.take (by rw [st.len]))
  | ret d S1 =>
    intro v H1 φ1 s1 k1 r1
    exact Ans.norm st h v H1 φ1 s1 r1 k1
  | brk ρ S1 => exact h.elim
  | cont ρ S1 => exact h.elim
  | exn x ρ S1 => exact h.elim
  | stuck => exact h.elim

theorem Txt.find_of {T : Txt} (h : okTxt T = true) {d : DefT} (hd : d ∈ T.ds) : T.find d.x = some d := by
  unfold okTxt at h
  simp only [Bool.and_eq_true, decide_eq_true_eq] at h
  have nd := h.1.2
  unfold Txt.fs at nd
  unfold Txt.find
  generalize T.ds = l at nd hd
  induction l with
  | nil => cases hd
  | cons a r ih =>
    rw [List.find?_cons]
    rw [List.map_cons, List.nodup_cons] at nd
    rcases List.mem_cons.mp hd with rfl | hr
    · simp
    · have : a.x ≠ d.x := fun e => nd.1 (by rw [e]; exact List.mem_map_of_mem hr)
      rw [show (a.x == d.x) = false by simpa using this]
      exact ih nd.2 hr
theorem callF_len {T : Txt} {W : Nat} (h : okTxt T = true) {d : DefT} (hd : d ∈ T.ds) (k : Nat) (ds : List D) (S : Cells) (hl : ds.length ≠ d.ps.length) : callF T.prog W k d.x ds S = .stuck := by
  cases k with
  | zero => rfl
  | succ k =>
    have e : T.prog d.x = some d.fn := by unfold Txt.prog; rw [T.find_of h hd] <;> rfl
    have ok : okDef T d = true := by
      unfold okTxt at h
      simp only [Bool.and_eq_true, List.all_eq_true] at h
      exact h.1.1 d hd
    unfold okDef at ok
    simp only [Bool.and_eq_true, decide_eq_true_eq] at ok
    unfold callF
    rw [e]
    dsimp only
    rw [if_neg (by rw [ok.1.1.2]; exact hl)]
theorem callF_no {T : Txt} {W : Nat} {y : Str} (h : y ∉ T.fs) (k : Nat) (ds : List D) (S : Cells) : callF T.prog W k y ds S = .stuck := by
  cases k with
  | zero => rfl
  | succ k =>
    have e : T.prog y = none := by
      unfold Txt.prog Txt.find
      rw [List.find?_eq_none.mpr fun d hd z => h ?_]
      · rfl
      · have z : d.x = y := by simpa using z
        unfold Txt.fs
        rw [← z]
        exact List.mem_map_of_mem hd
    unfold callF
    rw [e]
/-- every def, with so many calls -/
theorem all_g {T : Txt} {W : Nat} (h : okTxt T = true) (st : ∀ d ∈ T.ds, Stands K mg T d) (nb : ∀ x ∈ T.bs, mg x = none) (cst : ∀ p ∈ T.cs, ∃ v u, cstV p.2 = some v ∧ mg p.1 = some u ∧ RelV v u) : ∀ k : Nat, ∀ d ∈ T.ds, ∀ (f : Addr) (fd : FuncData), mg d.x = some (.ref f) → L2.Fun K d.x d.x d.st f fd →
    FnG P w K mg base k f fd d.ps (spF K mg (callF T.prog W k) d.x d.ps.length) := by
  intro k
  induction k with
  | zero =>
    intro d hd f fd hm F
    have no : ∀ vs H Q, ¬ spF K mg (callF T.prog W 0) d.x d.ps.length vs H Q := fun vs H Q ⟨_, φ, S, ds, s, r, a⟩ => a
    exact ⟨fun vs H Q q => absurd q (no vs H Q), fun A outer s H args us vs Q _ _ _ _ _ q => absurd q (no vs H Q)⟩
  | succ k ih =>
    intro d hd f fd hm F
    have ok : okDef T d = true := by
      unfold okTxt at h
      simp only [Bool.and_eq_true, List.all_eq_true] at h
      exact h.1.1 d hd
    unfold okDef at ok
    simp only [Bool.and_eq_true, decide_eq_true_eq] at ok
    obtain ⟨⟨⟨o1, o2⟩, o3⟩, o4⟩ := ok
    have SC := C8.fnScope_by o1
    refine fn_g F SC (fun vs H Q q => q.1) fun cd A outer s H vs Q room gd q => ?_
    obtain ⟨hl, φ, S, ds, sok, r, a⟩ := q
    -- what may be called
    have calls : ∀ x ∈ T.fs, CallOk P w K mg base k (callF T.prog W k) x := by
      intro x hx
      obtain ⟨d', hd', rfl⟩ := List.mem_map.mp hx
      obtain ⟨f', fd', m', F', B', _⟩ := (st d' hd').to
      exact ⟨f', fd', d'.ps, m', F'.kp, B', fun ds S hne => callF_len h hd' k ds S hne, ih d' hd' f' fd' m' F'⟩
    have kws : ∀ p ∈ T.kw, KwOk P w K mg base k (callF T.prog W k) p.1 0 p.2.1 p.2.2 := by
      intro p hp
      have okp : okKw T p = true := by
        unfold okTxt at h
        simp only [Bool.and_eq_true, List.all_eq_true] at h
        exact h.2 p hp
      unfold okKw at okp
      split at okp
      · rename_i d' ed
        have hd' : d' ∈ T.ds := List.mem_of_find?_eq_some ed
        have ex : d'.x = p.1 := by
          have := List.find?_some ed
          simpa using this
        simp only [Bool.and_eq_true, decide_eq_true_eq, List.all_eq_true] at okp
        obtain ⟨f', fd', m', F', B', KB⟩ := (st d' hd').to
        rw [ex] at m'
        have G' := ih d' hd' f' fd' (by rw [ex]; exact m') F'
        rw [ex] at G'
        refine ⟨f', fd', d'.ps, m', F'.kp, okp.1, fun i hi => by simpa using okp.2 i hi, fun s us ws kin e1 e2 => ?_, G'⟩
        have : us = [] := List.length_eq_zero_iff.mp e1
        subst this
        exact KB p hp ex.symm s ws kin e2
      · cases okp
    have G : GC (T.ck d) (cxOf CX0 P w K mg base d.N d.x (defScope d.st) f cd A outer s H E0).nox k (callF T.prog W k) :=
      { g := ⟨rfl, SC.nd, room, gd, calls, nb⟩
        N := rfl
        sc := rfl
        fn := fun _ _ => rfl
        kws := kws
        cst := cst
        any := fun y => by
          by_cases hy : y ∈ T.fs
          · exact .inl hy
          · exact .inr fun ds S => callF_no hy k ds S }
    refine ⟨_, (sSs (W := W) d.fn.body).s G rfl SC.kind o4, φ, _, S, sok, start_renv r (d.N.length - vs.length), ?_⟩
    have e : T.prog d.x = some d.fn := by unfold Txt.prog; rw [T.find_of h hd] <;> rfl
    unfold callF at a
    rw [e] at a
    dsimp only at a
    have hds : ds.length = d.fn.np := by rw [o2, ← hl, r.length]
    rw [if_pos hds] at a
    have en : d.fn.ns - d.fn.np = d.N.length - vs.length := by rw [o3, o2, hl]
    rw [en] at a
    exact ret_ans sok a
end
end VS

/-! VS, part U: the law's own call. -/
namespace VS
open PySem PySem.Spec L2 PyProof.Rows

/-- the law is called on its script, at the heap behind the top -/
theorem law_g {P : Program} {w : World} {K : PySem.W.Frag} {mg mb : Str → Option Value} {k : Nat} {fa a : Addr} {fd : FuncData} {x : Str} {sp : List V → Hp → VK → Prop} {s₁ : Shared} {vs : List Value} {ns : List Int}
    (kIn : K.In s₁.heap) (nsm : s₁.heap.Ns mainGlobals mg) (nsb : s₁.heap.Ns builtinsNs mb) (bb : ∀ x : Str, x ≠ "__name__" → mb x = bootBuiltins x) (nolim : s₁.heap.NoLimit) (nogen : s₁.gens = #[])
    (obj : s₁.heap.get? a = some { cls := .type "list", data := .seq vs.toArray }) (whole : IntsAre vs ns) (fits : ns.length ≤ sizeLine) (room : Room k callerA)
    (F : ∀ base : Heap, K.In base → base.Ns mainGlobals mg → FnG P w K mg base k fa fd [x] sp) (bind : ∀ (s : Shared) (u : Value), BindsTo s fd ⟨[u], []⟩ [(x, u)])
    (told : ∀ H : Hp, Only H → SqL K H a (ns.map V.int) → sp [.ref a] H fun v _ => v = .bl true) :
    codeAny (model P w) callerA (.call (.ref fa) ⟨[.ref a], []⟩) (fun r s2 => r = .ok (.ret (.bool true)) ∧ OldK s₁.heap s2.heap ∧ s2.os = s₁.os ∧ AllBare s2.gens) s₁ := by
  have rv := vals_ints whole
  have lv := whole.length
  have main : ∀ H : Hp, Only H → SqL K H a (ns.map V.int) → HOk P w H s₁.heap → (∀ b, H b ≠ none → b = a) → (H a ≠ none → K.lookup a = none) →
      codeAny (model P w) callerA (.call (.ref fa) ⟨[.ref a], []⟩) (fun r s2 => r = .ok (.ret (.bool true)) ∧ OldK s₁.heap s2.heap ∧ s2.os = s₁.os ∧ AllBare s2.gens) s₁ := by
    intro H only sq hok one own
    have hid : ∀ {b : Addr} {o : Obj}, s₁.heap.get? b = some o → H b = none → (hidT s₁.heap H).get? b = some o := fun e n => hidT_get e n
    have dict : ∀ {b : Addr} {o : Obj} {es : Array DictEntry} {ep : Nat}, s₁.heap.get? b = some o → o.data = .dict es ep → H b = none := by
      intro b o es ep e d
      cases q : H b with
      | none => rfl
      | some u =>
        obtain rfl : b = a := one b (by rw [q]; simp)
        rw [obj] at e
        cases e
        cases (show Data.seq vs.toArray _ = Data.dict es ep from d)
    have ns_ : ∀ {b : Addr} {m : Str → Option Value}, s₁.heap.Ns b m → (hidT s₁.heap H).Ns b m := fun {b m} ⟨o, es, ep, e, d, r⟩ => ⟨o, es, ep, hid e (dict e d), d, r⟩
    have kb : K.In (hidT s₁.heap H) := by
      intro b o e
      refine hid (kIn b o e) ?_
      cases q : H b with
      | none => rfl
      | some u =>
        obtain rfl : b = a := one b (by rw [q]; simp)
        rw [own (by rw [q]; simp)] at e
        cases e
    have md : Mod K mg (hidT s₁.heap H) := ⟨kb, ns_ nsm, ⟨mb, ns_ nsb, bb⟩, let ⟨mc, h1, h2⟩ := nolim; ⟨mc, ns_ h1, h2⟩⟩
    have ev : Env0 P w K mg (hidT s₁.heap H) callerA [] s₁ H := ⟨rfl, md, fun b o e => of_hidT e, Nat.le_of_eq (hidT_size _ _), trivial, fun b hb => absurd (show b ∈ ([] : List Addr) from hb) (by simp), hok, .of_eq nogen⟩
    refine codeAny_mono ((F _ kb (ns_ nsm)).run callerA [] s₁ H ⟨[.ref a], []⟩ [.ref a] [.ref a] _ room rfl ev (bind s₁ (.ref a)) (.cons rfl .nil) (told H only sq)) fun r s2 h => ?_
    match r, h with
    | .error e, h => exact False.elim h
    | .ok .next, h => exact False.elim h
    | .ok .brk, h => exact False.elim h
    | .ok .cont, h => exact False.elim h
    | .ok (.ret u), ⟨v, H2, os, bare, un, hok2, r2, q⟩ =>
      obtain rfl : v = V.bl true := q
      obtain rfl : u = Value.bool true := r2
      refine ⟨rfl, OldK.of_keep fun b o e => ?_, os, bare⟩
      cases q2 : H b with
      | none => exact un.keep b o e q2 (fun z => absurd (show b ∈ ([] : List Addr) from z) (by simp)) (by simp)
      | some u =>
        rcases only b with z | ⟨ob, xs, z⟩
        · rw [q2] at z
          cases z
        · have z2 := un.frzs b ob _ z
          have e1 := (hok b _ z).1
          rw [e] at e1
          cases e1
          exact (hok2 b _ z2).1
  cases hk : K.lookup a with
  | some o =>
    have e := kIn a o hk
    rw [obj] at e
    cases e
    exact main (fun _ => none) (fun _ => .inl rfl) (.inr ⟨_, vs.toArray, _, hk, rfl, rfl, rfl, (by rw [List.size_toArray, lv]; exact fits), (by simpa using rv)⟩) (fun b u z => nomatch (show (none : Option HO) = some u from z)) (fun b z => absurd rfl z) fun z => absurd rfl z
  | none =>
    refine main (fun b => if b = a then some (.frz { cls := .type "list", data := .seq vs.toArray } (.lst (ns.map V.int))) else none) (fun b => ?_) (.inl (.inr ⟨{ cls := .type "list", data := .seq vs.toArray }, if_pos rfl⟩)) (fun b u z => ?_) (fun b z => ?_) fun _ => hk
    · by_cases c : b = a
      · exact .inr ⟨_, _, if_pos c⟩
      · exact .inl (if_neg c)
    · by_cases c : b = a
      · cases (if_pos c).symm.trans z
        subst c
        exact ⟨obj, (by rw [List.length_map]; exact fits), vs, _, rv, obj⟩
      · cases (if_neg c).symm.trans z
    · by_cases c : b = a
      · exact c
      · exact absurd (if_neg c) z

theorem scr_rep {K : PySem.W.Frag} {mg : Str → Option Value} {H : Hp} {a : Addr} {ns : List Int} (h : SqL K H a (ns.map V.int)) : Rep K mg H ⟨[], []⟩ [] (.ref a) (.scr ns) := by
  refine .dat (.scr ?_)
  rcases h with h | h
  · exact .inl ⟨h, fun z => z.elim (fun ⟨n, c, h1, _⟩ => by simp at h1) fun z => nomatch z⟩
  · exact .inr h
/-- what is left of the law: the interpreter says True of each script -/
theorem walk_g {l : PySem.W.OpenLaw} {k W : Nat} {q : Program} {loose : List Str} {XP : (Str → Option Value) → Heap → Prop} {YP : World → Heap → Prop} {d : DefRec} {K : Params → PySem.W.Frag} {T : Txt} {D : DefT} {x : Str}
    (hn : l.most = some 63) (hdf : d.params.defaults = []) (room : Room k callerA) (hY : ∀ (w : World) (h : Heap), YP w h → (K w.params).In h) (ok : okTxt T = true) (hD : D ∈ T.ds) (hps : D.ps = [x]) (hx : D.x = d.name)
    (hs : ∀ (w : World) (mg : Str → Option Value) (h : Heap), (K w.params).In h → h.Ns mainGlobals mg → (∀ D ∈ T.ds, Stands (K w.params) mg T D) ∧ (∀ x ∈ T.bs, mg x = none) ∧ ∀ p ∈ T.cs, ∃ v u, cstV p.2 = some v ∧ mg p.1 = some u ∧ RelV v u)
    (hb : ∀ (K : PySem.W.Frag) (f : Addr) (fd : FuncData), L2.Fun K D.x D.x D.st f fd → ∀ (s : Shared) (u : Value), BindsTo s fd ⟨[u], []⟩ [(x, u)])
    (law : ∀ ns : List Int, ns.length ≤ 63 → (∀ z ∈ ns, Builtin.Int.intBits z ≤ 1048576) → ∃ S, callF T.prog W k D.x [.scr ns] [] = .ok (.bl true) S) :
    PySem.W.WalkO q loose XP YP l.row.toRowW d [] (fun f vs => PySem.call f vs) := by
  refine Att.attach_callB hn hdf fun w s₀ s₁ mg mb fa o pm cd doc a vs ns G Y ho hd hcd hmg hobj hints hlen hbits hg => ?_
  have KX := hY w _ Y
  obtain ⟨st, nb, cst⟩ := hs w mg _ KX G.T.g
  obtain ⟨f, fd, m, F, B, _⟩ := (st D hD).to
  have ef : f = fa := by
    rw [hx] at m
    have := m.symm.trans hmg
    cases this; rfl
  subst ef
  obtain ⟨S, hl⟩ := law ns hlen hbits
  refine law_g (x := x) (sp := spF (K w.params) mg (callF T.prog W k) D.x D.ps.length) KX G.T.g G.T.b G.T.builtins G.T.nolimit hg hobj hints (Nat.le_trans hlen (by decide)) room (fun base kb nsb => ?_) (hb _ f fd F) (fun H only sq => ?_)
  · have := all_g (P := l.prog) (w := w) (base := base) (W := W) ok st nb cst k D hD f fd m F
    rw [hps] at this ⊢
    exact this
  · refine ⟨by rw [hps] <;> rfl, ⟨[], []⟩, [], [.scr ns], ⟨rfl, List.nodup_nil, fun b z => (nomatch z), fun n a c h1 _ => by simp at h1⟩, .cons (scr_rep sq) .nil, ?_⟩
    rw [hl]
    exact fun v H' φ' s2 r2 k2 => rep_bl r2
end VS

/-! VV, part A: the same language by values alone: each slot owns its list. -/
namespace VS
open PySem

/-- a slot: nothing, a value, an own thing that may change -/
inductive Sl where
  | no | v (d : D) | own (par : Bool) (l : Lk) (d : D)
  deriving Inhabited
/-- what an expression tells: a value, a new thing, a slot's own thing -/
inductive VR where
  | v (d : D) | new (d : D) | loc (i : Nat)
  deriving Inhabited
abbrev VE := List Sl
inductive V (α : Type) where
  | ok (a : α) (ρ : VE) | exn (x : Exn) (ρ : VE) | no
def V.bind {α β : Type} (r : V α) (f : α → VE → V β) : V β :=
  match r with | .ok a ρ => f a ρ | .exn x ρ => .exn x ρ | .no => .no
def V.need {α : Type} (c : Bool) (r : V α) : V α := match c with | true => r | false => .no
def V.cond {α : Type} (c : Bool) (r s : V α) : V α := match c with | true => r | false => s
def V.only {α : Type} : V α → V α | .ok a ρ => .ok a ρ | _ => .no
def isLD : D → Bool | .lst _ => true | .dic _ _ => true | _ => false
def D.nr : D → Bool | .ref _ => false | _ => true

def rsv (ρ : VE) : VR → Option D
  | .v d => some d
  | .new d => some d
  | .loc i => match ρ[i]? with | some (.own _ _ d) => some d | _ => none
def V.of {α β : Type} (o : Option α) (f : α → V β) : V β := match o with | some a => f a | none => .no
def V.res {β : Type} (r : VR) (ρ : VE) (f : D → V β) : V β := V.of (rsv ρ r) f
def resL (ρ : VE) : List VR → Option (List D)
  | [] => some []
  | r :: rs => match rsv ρ r, resL ρ rs with | some d, some ds => some (d :: ds) | _, _ => none
/-- of an operation at no cells at all -/
def ofR (r : R D) (ρ : VE) : V VR :=
  match r with
  | .ok (.ref 0) [⟨.mu, c⟩] => if isLD c = true then .ok (.new c) ρ else .no
  | .ok d [] => if d.nr = true then .ok (.v d) ρ else .no
  | _ => .no
def bV (o : Option Bool) (ρ : VE) : V VR := match o with | some b => .ok (.v (.bl b)) ρ | none => .no
def vl (d : D) (ρ : VE) : V VR := if d.nr = true then .ok (.v d) ρ else .no
def lookV (ρ : VE) (i : Nat) : V VR :=
  match ρ[i]? with
  | some (.v d) => .ok (.v d) ρ
  | some (.own _ _ _) => .ok (.loc i) ρ
  | _ => .no
def frzV (r : VR) (ρ : VE) : V D :=
  match r with
  | .v d => .ok d ρ
  | .new d => .ok d ρ
  | .loc i => match ρ[i]? with
    | some (.own false .mu d) => .ok d (ρ.set i .no)
    | _ => .no
def frzVs : List VR → VE → V (List D)
  | [], ρ => .ok [] ρ
  | r :: rs, ρ => (frzV r ρ).bind fun d ρ => (frzVs rs ρ).bind fun ds ρ => .ok (d :: ds) ρ
def truV : D → Option Bool := truth []
def V.tr {β : Type} (r : VR) (ρ : VE) (f : Bool → V β) : V β := V.res r ρ fun d => V.of (truV d) f

/-- calls -/
abbrev CallV := Str → List Sl → V VR
def argSl (ρ : VE) : VR → Option Sl
  | .v d => some (.v d)
  | .new d => some (.own true .mu d)
  | .loc i => match ρ[i]? with | some (.own _ l d) => some (.own true l d) | _ => none
def argSls (ρ : VE) : List VR → Option (List Sl)
  | [] => some []
  | r :: rs => match argSl ρ r, argSls ρ rs with | some d, some ds => some (d :: ds) | _, _ => none
def locIn (i : Nat) : List VR → Bool
  | [] => false
  | .loc j :: rs => i == j || locIn i rs
  | _ :: rs => locIn i rs
def ndl : List VR → Bool
  | [] => true
  | .loc i :: rs => !locIn i rs && ndl rs
  | _ :: rs => ndl rs
def putBack : List VR → List Sl → VE → Option VE
  | [], [], ρ => some ρ
  | .v _ :: rs, sl, ρ => putBack rs sl ρ
  | .new _ :: rs, _ :: sl, ρ => putBack rs sl ρ
  | .loc i :: rs, .own _ l d :: sl, ρ => match ρ[i]? with
    | some (.own p _ _) => putBack rs sl (ρ.set i (.own p l d))
    | _ => none
  | _, _, _ => none
def backV (rs : List VR) (ρ : VE) : V VR → V VR
  | .ok r sl => V.of (putBack rs sl ρ) fun ρ => .ok r ρ
  | .exn x sl => V.of (putBack rs sl ρ) fun ρ => .exn x ρ
  | .no => .no
def callR (Φ : CallV) (f : Str) (rs : List VR) (ρ : VE) : V VR :=
  V.need (ndl rs) (V.of (argSls ρ rs) fun sls => backV rs ρ (Φ f sls))

/-- targets -/
def putSl (i : Nat) (s : Sl) (ρ : VE) : Option VE :=
  match ρ[i]? with
  | some .no => some (ρ.set i s)
  | some (.v _) => some (ρ.set i s)
  | some (.own false .mu _) => some (ρ.set i s)
  | _ => none
def putD (i : Nat) (d : D) (ρ : VE) : Option VE := if d.nr = true then putSl i (.v d) ρ else none
def asgsV : List Nat → List D → VE → Option VE
  | [], [], ρ => some ρ
  | i :: is, d :: ds, ρ => match putD i d ρ with | some ρ => asgsV is ds ρ | none => none
  | _, _, _ => none
def asgV (tg : Tg) (d : D) (ρ : VE) : Option VE :=
  match tg with
  | .v i => putD i d ρ
  | .tup is => match d with
    | .tup ds => asgsV is ds ρ
    | _ => none
def wipeV (ρ : VE) : List Nat → VE
  | [] => ρ
  | v :: vs => (wipeV ρ vs).set v .no
def memN (i : Nat) : List Nat → Bool
  | [] => false
  | j :: r => i == j || memN i r
def tgIn (tg : Tg) (w : List Nat) : Bool :=
  match tg with
  | .v i => memN i w
  | .tup is => is.all fun i => memN i w
/-- the slots w as they were -/
def resto (ρ0 : VE) (ρ : VE) : List Nat → VE
  | [] => ρ
  | v :: vs => (resto ρ0 ρ vs).set v (ρ0.getD v .no)

abbrev WalkedV := List D × Option Nat
def holdV (r : VR) (ρ : VE) : V WalkedV :=
  match r with
  | .v (.lst xs) => .ok (xs, none) ρ
  | .v (.tup xs) => .ok (xs, none) ρ
  | .v (.str s) => .ok (s.cps.toList.map fun c => D.str ⟨#[c]⟩, none) ρ
  | .new (.lst xs) => .ok (xs, none) ρ
  | .loc i => match ρ[i]? with
    | some (.own p .mu (.lst xs)) => .ok (xs, some i) (ρ.set i (.own p .lk (.lst xs)))
    | some (.own _ .lk (.lst xs)) => .ok (xs, none) ρ
    | _ => .no
  | _ => .no
def holdVL (r : VR) (ρ : VE) : V WalkedV :=
  match r with
  | .v (.lst xs) => .ok (xs, none) ρ
  | .new (.lst xs) => .ok (xs, none) ρ
  | .loc i => holdV (.loc i) ρ
  | _ => .no
def freeV (o : Option Nat) (ρ : VE) : Option VE :=
  match o with
  | none => some ρ
  | some i => match ρ[i]? with
    | some (.own p .lk d) => some (ρ.set i (.own p .mu d))
    | _ => none
def turnsV (f : D → VE → V (List D)) : List D → VE → V (List D)
  | [], ρ => .ok [] ρ
  | x :: xs, ρ => (f x ρ).bind fun ys ρ => (turnsV f xs ρ).bind fun zs ρ => .ok (ys ++ zs) ρ
def endV (w : WalkedV) (ys : List D) (ρ : VE) : V VR := V.of (freeV w.2 ρ) fun ρ => V.need (decide (ys.length ≤ line)) (.ok (.new (.lst ys)) ρ)

/-- an own list changed -/
def growV (r : VR) (ρ : VE) (ok : List D → Bool) (g : List D → List D) (o : List D → D) : V VR :=
  match r with
  | .loc i => match ρ[i]? with
    | some (.own p .mu (.lst xs)) => V.need (ok xs) (vl (o xs) (ρ.set i (.own p .mu (.lst (g xs)))))
    | _ => .no
  | _ => .no
def valsV : List VR → Option (List D)
  | [] => some []
  | .v d :: rs => (valsV rs).map (d :: ·)
  | _ :: _ => none
def mthVV (m : Mth) (o : VR) (rs : List VR) (ρ : VE) : V VR :=
  match m with
  | .append => match rs with
    | [x] => (frzV x ρ).bind fun x ρ => growV o ρ (fun xs => decide (xs.length + 1 ≤ line)) (fun xs => xs ++ [x]) (fun _ => .non)
    | _ => .no
  | .extend => match rs with
    | [x] => V.res x ρ fun x => match x with
      | .lst ys => growV o ρ (fun xs => decide (xs.length + ys.length ≤ line)) (fun xs => xs ++ ys) (fun _ => .non)
      | _ => .no
    | _ => .no
  | .pop0 => match rs with
    | [.v (.int i)] => V.need (decide (i = 0)) (growV o ρ (fun xs => !xs.isEmpty) List.tail (fun xs => xs.headD .non))
    | _ => .no
  | .reverse => match rs with
    | [] => growV o ρ (fun _ => true) List.reverse (fun _ => .non)
    | _ => .no
  | .join => V.res o ρ fun o => V.of (resL ρ rs) fun ds => ofR (mthV .join o ds []) ρ
  | m => V.res o ρ fun o => V.of (valsV rs) fun ds => ofR (mthV m o ds []) ρ

/-- o[i] = x -/
def setVV (o i x : VR) (ρ : VE) : V VR :=
  (frzV x ρ).bind fun x ρ => match o with
    | .loc j => match ρ[j]? with
      | some (.own p .mu (.lst xs)) => match i with
        | .v (.int n) => V.of (atN xs.length n) fun k => .ok (.v .non) (ρ.set j (.own p .mu (.lst (xs.set k x))))
        | _ => .no
      | some (.own p .mu (.dic ks vs)) => match i with
        | .v i => V.of (keyOf i) fun k => V.need (decide (ks.length < line)) (.ok (.v .non) (ρ.set j (.own p .mu (.dic (dputK ks k) (dputV ks vs k x)))))
        | _ => .no
      | _ => .no
    | _ => .no

section
variable (Φ : CallV)
mutual
def evV : Ex → VE → V VR
  | .k d, ρ => vl d ρ
  | .v i, ρ => lookV ρ i
  | .g x, ρ => .ok (.v (.glo x)) ρ
  | .tup es, ρ => (evVs es ρ).bind fun rs ρ => (frzVs rs ρ).bind fun ds ρ => V.need (decide (ds.length ≤ line)) (.ok (.v (.tup ds)) ρ)
  | .lst es, ρ => (evVs es ρ).bind fun rs ρ => (frzVs rs ρ).bind fun ds ρ => V.need (decide (ds.length ≤ line)) (.ok (.new (.lst ds)) ρ)
  | .bin op a b, ρ => (evV a ρ).bind fun x ρ => (evV b ρ).bind fun y ρ => V.res x ρ fun x => V.res y ρ fun y => ofR (binV op x y []) ρ
  | .neg a, ρ => (evV a ρ).bind fun x ρ => match x with | .v (.int i) => .ok (.v (.int (-i))) ρ | _ => .no
  | .cmp op a b, ρ => (evV a ρ).bind fun x ρ => (evV b ρ).bind fun y ρ => V.res x ρ fun x => V.res y ρ fun y => bV (cmpV op x y) ρ
  | .chain o p a b c, ρ => (evV a ρ).bind fun x ρ => (evV b ρ).bind fun y ρ => V.res x ρ fun x' => V.res y ρ fun y' => V.of (cmpV o x' y') fun t =>
    V.cond t ((evV c ρ).bind fun z ρ => V.res y ρ fun y => V.res z ρ fun z => bV (cmpV p y z) ρ) (.ok (.v (.bl false)) ρ)
  | .and a b, ρ => (evV a ρ).bind fun x ρ => V.tr x ρ fun t => V.cond t (evV b ρ) (.ok x ρ)
  | .or a b, ρ => (evV a ρ).bind fun x ρ => V.tr x ρ fun t => V.cond t (.ok x ρ) (evV b ρ)
  | .not a, ρ => (evV a ρ).bind fun x ρ => V.tr x ρ fun t => .ok (.v (.bl (!t))) ρ
  | .ite t a b, ρ => (evV t ρ).bind fun x ρ => V.tr x ρ fun t => V.cond t (evV a ρ) (evV b ρ)
  | .int1 a, ρ => (evV a ρ).bind fun x ρ => match x with | .v (.int i) => .ok (.v (.int i)) ρ | _ => .no
  | .ix a i, ρ => (evV a ρ).bind fun x ρ => (evV i ρ).bind fun y ρ => V.res x ρ fun x => V.res y ρ fun y => ofR (ixV x y []) ρ
  | .sl a lo hi, ρ => (evV a ρ).bind fun x ρ => (evV lo ρ).bind fun l ρ => (evV hi ρ).bind fun h ρ => V.res x ρ fun x => match l, h with
    | .v l, .v h => ofR (slV x l h []) ρ
    | _, _ => .no
  | .isi a t, ρ => (evV a ρ).bind fun x ρ => V.res x ρ fun x => bV (isiV t x) ρ
  | .call f es, ρ => (evVs es ρ).bind fun rs ρ => callR Φ f rs ρ
  | .callv f es, ρ => (evV f ρ).bind fun g ρ => match g with
    | .v (.glo f) => (evVs es ρ).bind fun rs ρ => callR Φ f rs ρ
    | _ => .no
  | .callk f pm es, ρ => (evVs es ρ).bind fun rs ρ => V.of (valsV rs) fun ds => callR Φ f (pm.map fun i => .v (ds.getD i .non)) ρ
  | .fz a, ρ => (evV a ρ).bind fun x ρ => (frzV x ρ).bind fun d ρ => vl d ρ
  | .gc _ d, ρ => vl d ρ
  | .maxd a d, ρ => (evV a ρ).bind fun x ρ => (evV d ρ).bind fun y ρ => V.res x ρ fun x => match x, y with
    | .lst xs, .v (.int d) => V.of (intsD xs) fun is => .ok (.v (.int (maxD d is))) ρ
    | _, _ => .no
  | .sset a, ρ => (evV a ρ).bind fun x ρ => V.res x ρ fun x => match x with
    | .lst xs => V.of (strsD xs) fun ss => V.need (decide (ss.length < 4000)) (.ok (.new (.lst ((sortS (dedS ss)).map .str))) ρ)
    | _ => .no
  | .dnew, ρ => .ok (.new (.dic [] [])) ρ
  | .disp ks vs, ρ => (evVs vs ρ).bind fun rs ρ => (frzVs rs ρ).bind fun ds ρ =>
    V.need (decide (ks.length = ds.length) && decide (ks.length ≤ 15)) (.ok (.new (.dic (dputs [] [] (ks.zip ds)).1 (dputs [] [] (ks.zip ds)).2)) ρ)
  | .items a, ρ => (evV a ρ).bind fun x ρ => V.res x ρ fun x => match x with
    | .dic ks vs => .ok (.new (.lst (itemsD ks vs))) ρ
    | _ => .no
  | .rvs a, ρ => (evV a ρ).bind fun x ρ => V.res x ρ fun x => match x with
    | .lst xs => .ok (.new (.lst xs.reverse)) ρ
    | _ => .no
  | .blt b es, ρ => (evVs es ρ).bind fun rs ρ => V.of (resL ρ rs) fun ds => ofR (bltV b ds []) ρ
  | .mth m o es, ρ => (evV o ρ).bind fun x ρ => V.need (mthK m (rsv ρ x)) ((evVs es ρ).bind fun rs ρ => mthVV m x rs ρ)
  | .lc elt w tg it ifs, ρ => V.need (tgIn tg w) <| (evIV it ρ).bind fun wk ρ => ((turnsV (fun x ρ1 => V.of (asgV tg x (wipeV ρ1 w)) fun ρ2 => ((evTsV ifs ρ2).only).bind fun t ρ3 =>
      V.cond t ((((evV elt ρ3).bind fun r ρ => frzV r ρ).only).bind fun d ρ4 => .ok [d] (resto ρ1 ρ4 w)) (.ok [] (resto ρ1 ρ3 w))) wk.1 ρ).bind fun ys ρ => endV wk ys ρ)
  | .lc2 elt w w1 tg it ifs tg1 it1 ifs1, ρ => V.need (tgIn tg w && tgIn tg1 w1) <| (evIV it ρ).bind fun wk ρ => ((turnsV (fun x ρ1 => V.of (asgV tg x (wipeV ρ1 w)) fun ρ2 => ((evTsV ifs ρ2).only).bind fun t ρ3 =>
      V.cond t (((evIV it1 ρ3).only).bind fun wk1 ρ4 => (turnsV (fun x ρ5 => V.of (asgV tg1 x (wipeV ρ5 w1)) fun ρ6 => ((evTsV ifs1 ρ6).only).bind fun t ρ7 =>
          V.cond t ((((evV elt ρ7).bind fun r ρ => frzV r ρ).only).bind fun d ρ8 => .ok [d] (resto ρ5 ρ8 w1)) (.ok [] (resto ρ5 ρ7 w1))) wk1.1 ρ4).only.bind fun ys ρ9 => V.of (freeV wk1.2 ρ9) fun ρ10 => .ok ys (resto ρ1 ρ10 w))
        (.ok [] (resto ρ1 ρ3 w))) wk.1 ρ).bind fun ys ρ => endV wk ys ρ)
def evVs : Exs → VE → V (List VR)
  | .nil, ρ => .ok [] ρ
  | .cons e es, ρ => (evV e ρ).bind fun r ρ => (evVs es ρ).bind fun rs ρ => .ok (r :: rs) ρ
def evTsV : Exs → VE → V Bool
  | .nil, ρ => .ok true ρ
  | .cons e es, ρ => (evV e ρ).bind fun r ρ => V.tr r ρ fun t => V.cond t (evTsV es ρ) (.ok false ρ)
def evIV : It → VE → V WalkedV
  | .seq e, ρ => (evV e ρ).bind fun r ρ => holdV r ρ
  | .rng1 a, ρ => (evV a ρ).bind fun d ρ => match d with
    | .v (.int n) => V.need (decide (n < 4611686018427387904) && decide (-4611686018427387904 ≤ n)) (.ok (rngD 0 n.toNat, none) ρ)
    | _ => .no
  | .rng2 a b, ρ => (evV a ρ).bind fun d ρ => (evV b ρ).bind fun e ρ => match d, e with
    | .v (.int m), .v (.int n) => V.need (decide (n < 4611686018427387904) && decide (-4611686018427387904 ≤ n) && decide (m < 4611686018427387904) && decide (-4611686018427387904 ≤ m)) (.ok (rngD m (n - m).toNat, none) ρ)
    | _, _ => .no
  | .rng3 a b c, ρ => (evV a ρ).bind fun d ρ => (evV b ρ).bind fun e ρ => (evV c ρ).bind fun f ρ => match d, e, f with
    | .v (.int i), .v (.int j), .v (.int k) => V.need (decide (k ≠ 0) && decide (k.natAbs < 1073741824) && Builtin.Range.small i j k && decide (0 ≤ Builtin.Range.rangeSize i j k)) (.ok (rngC i k (Builtin.Range.rangeSize i j k).toNat, none) ρ)
    | _, _, _ => .no
  | .enum e, ρ => (evV e ρ).bind fun r ρ => (holdVL r ρ).bind fun w ρ => .ok (enumD w.1, w.2) ρ
  | .zip _ _, _ => .no
  | .rev e, ρ => (evV e ρ).bind fun r ρ => (holdVL r ρ).bind fun w ρ => .ok (w.1.reverse, w.2) ρ
end
end

/-! ### statements -/
inductive FV where
  | next (ρ : VE) | ret (r : VR) (ρ : VE) | brk (ρ : VE) | cont (ρ : VE) | exn (x : Exn) (ρ : VE) | no
def V.toF {α : Type} (r : V α) (f : α → VE → FV) : FV :=
  match r with | .ok a ρ => f a ρ | .exn x ρ => .exn x ρ | .no => .no
def FV.thn (r : FV) (f : VE → FV) : FV := match r with | .next ρ => f ρ | r => r
def FV.cond (c : Bool) (r s : FV) : FV := match c with | true => r | false => s
def FV.of {α : Type} (o : Option α) (f : α → FV) : FV := match o with | some a => f a | none => .no
def forTV (f : D → VE → FV) : List D → VE → FV
  | [], ρ => .next ρ
  | x :: xs, ρ => match f x ρ with
    | .next ρ => forTV f xs ρ
    | .cont ρ => forTV f xs ρ
    | .brk ρ => .brk ρ
    | r => r
def forEV (o : Option Nat) (r : FV) : FV :=
  match r with
  | .next ρ => FV.of (freeV o ρ) .next
  | .brk ρ => FV.of (freeV o ρ) .next
  | .ret r ρ => FV.of (freeV o ρ) (.ret r)
  | .exn x ρ => FV.of (freeV o ρ) (.exn x)
  | _ => .no
def whileTV (t : VE → V Bool) (b : VE → FV) : Nat → VE → FV
  | 0, _ => .no
  | n + 1, ρ => (t ρ).toF fun c ρ => FV.cond c (match b ρ with
      | .next ρ => whileTV t b n ρ
      | .cont ρ => whileTV t b n ρ
      | .brk ρ => .next ρ
      | r => r) (.next ρ)
section
variable (Φ : CallV) (W : Nat)
def evTV (e : Ex) (ρ : VE) : V Bool := (evV Φ e ρ).bind fun x ρ => V.tr x ρ fun t => .ok t ρ
def setR (i : Nat) (r : VR) (ρ : VE) : FV :=
  match r with
  | .v d => FV.of (putSl i (.v d) ρ) .next
  | .new d => FV.of (putSl i (.own false .mu d) ρ) .next
  | .loc _ => .no
def starR (is : List Nat) (k : Nat) (r : VR) (ρ : VE) : FV :=
  FV.of (rsv ρ r) fun d => FV.of (seqOf d) fun ds =>
    FV.cond (decide (is.length ≤ ds.length + 1) && decide (k < is.length))
      (FV.of (asgsV (is.take k) (ds.take k) ρ) fun ρ => FV.of (putSl (is.getD k 0) (.own false .mu (.lst ((ds.drop k).take (ds.length - (is.length - 1))))) ρ) fun ρ =>
        FV.of (asgsV (is.drop (k + 1)) (ds.drop (ds.length - (is.length - 1 - k))) ρ) .next) .no
mutual
def evVS : Sx → VE → FV
  | .expr e, ρ => (evV Φ e ρ).toF fun _ ρ => .next ρ
  | .ret e, ρ => (evV Φ e ρ).toF fun r ρ => .ret r ρ
  | .retN, ρ => .ret (.v .non) ρ
  | .set i e, ρ => (evV Φ e ρ).toF fun r ρ => setR i r ρ
  | .unp is e, ρ => (evV Φ e ρ).toF fun r ρ => match r with
    | .v (.tup ds) => FV.of (asgsV is ds ρ) .next
    | _ => .no
  | .star is k e, ρ => (evV Φ e ρ).toF fun r ρ => starR is k r ρ
  | .seti o i e, ρ => ((evV Φ e ρ).bind fun x ρ => (evV Φ o ρ).bind fun o ρ => (evV Φ i ρ).bind fun i ρ => setVV o i x ρ).toF fun _ ρ => .next ρ
  | .aug i op e, ρ => (lookV ρ i).toF fun x ρ => match x with
    | .v (.int m) => (evV Φ e ρ).toF fun y ρ => match y with
      | .v y => FV.of (augV op m y) fun z => FV.of (putSl i (.v (.int z)) ρ) .next
      | _ => .no
    | _ => .no
  | .ite t a b, ρ => (evTV Φ t ρ).toF fun c ρ => FV.cond c (evVSs a ρ) (evVSs b ρ)
  | .for tg it b, ρ => (evIV Φ it ρ).toF fun w ρ => forEV w.2 (forTV (fun x ρ => FV.of (asgV tg x ρ) fun ρ => evVSs b ρ) w.1 ρ)
  | .while t b, ρ => whileTV (evTV Φ t) (evVSs b) W ρ
  | .pass, ρ => .next ρ
  | .cont, ρ => .cont ρ
  | .brk, ρ => .brk ρ
  | .never, _ => .no
def evVSs : Sxs → VE → FV
  | .nil, ρ => .next ρ
  | .cons s ss, ρ => (evVS s ρ).thn fun ρ => evVSs ss ρ
end
end

def isPar : Sl → Bool | .own true _ _ => true | _ => false
def pars (n : Nat) (ρ : VE) : List Sl := (ρ.take n).filter isPar
def retV (n : Nat) : FV → V VR
  | .next ρ => .ok (.v .non) (pars n ρ)
  | .ret (.v d) ρ => .ok (.v d) (pars n ρ)
  | .ret (.new d) ρ => .ok (.new d) (pars n ρ)
  | .ret (.loc i) ρ => match ρ[i]? with
    | some (.own false .mu d) => .ok (.new d) (pars n ρ)
    | _ => .no
  | .exn x ρ => .exn x (pars n ρ)
  | _ => .no
def callV (prog : Str → Option Fn) (W : Nat) : Nat → CallV
  | 0, _, _ => .no
  | k + 1, f, sls => match prog f with
    | some fn => if sls.length = fn.np then retV fn.np (evVSs (callV prog W k) W fn.body (sls ++ List.replicate (fn.ns - fn.np) .no)) else .no
    | none => .no
end VS

/-! VV, part B: how slots stand for cells. -/
namespace VS
open PySem

def Own (ρv : VE) (ρ : Env) (m : Nat) : Prop := ∃ (i : Nat) (p : Bool) (l : Lk) (d : D), ρv[i]? = some (.own p l d) ∧ ρ[i]? = some (some (.ref m))

structure Rel (b : Nat) (ρv : VE) (ρ : Env) (S : Cells) : Prop where
  len : ρv.length = ρ.length
  base : b ≤ S.length
  v : ∀ {i : Nat} {d : D}, ρv[i]? = some (.v d) → ρ[i]? = some (some d) ∧ d.nr = true
  own : ∀ {i : Nat} {p : Bool} {l : Lk} {d : D}, ρv[i]? = some (.own p l d) → ∃ n : Nat, ρ[i]? = some (some (.ref n)) ∧ S[n]? = some ⟨l, d⟩ ∧ (p = true → n < b) ∧ (p = false → b ≤ n) ∧ isLD d = true
  inj : ∀ {i j : Nat} {p p' : Bool} {l l' : Lk} {d d' : D} {n : Nat}, ρv[i]? = some (.own p l d) → ρv[j]? = some (.own p' l' d') → ρ[i]? = some (some (.ref n)) → ρ[j]? = some (some (.ref n)) → i = j

def SlSub (s s' : Option Sl) : Prop := s' = s ∨ ∃ p l d, s = some (.own p l d) ∧ ((∃ l' d', s' = some (.own p l' d') ∧ (l = .lk → l' = .lk)) ∨ (s' = some .no ∧ p = false ∧ l ≠ .lk))
theorem SlSub.refl (s : Option Sl) : SlSub s s := .inl rfl
theorem SlSub.trans {a b c : Option Sl} (h : SlSub a b) (g : SlSub b c) : SlSub a c := by
  rcases h with rfl | ⟨p, l, d, h1, h2⟩
  · exact g
  · rcases g with rfl | ⟨p', l', d', g1, g2⟩
    · exact .inr ⟨p, l, d, h1, h2⟩
    · rcases h2 with ⟨l2, d2, h2, h3⟩ | ⟨h2, _⟩
      · rw [h2] at g1; cases g1
        refine .inr ⟨p, l, d, h1, ?_⟩
        rcases g2 with ⟨l4, d4, g3, g4⟩ | ⟨g3, g4, g5⟩
        · exact .inl ⟨l4, d4, g3, fun z => g4 (h3 z)⟩
        · exact .inr ⟨g3, g4, fun z => g5 (h3 z)⟩
      · rw [h2] at g1; cases g1
theorem SlSub.own {a : Option Sl} {p : Bool} {l : Lk} {d : D} (h : SlSub a (some (.own p l d))) : ∃ l' d', a = some (.own p l' d') := by
  rcases h with h | ⟨p', l', d', h1, ⟨l2, d2, h2, _⟩ | ⟨h2, _⟩⟩
  · exact ⟨l, d, h.symm⟩
  · cases h2; exact ⟨l', d', h1⟩
  · cases h2
theorem own_sub {ρv ρv' : VE} {ρ : Env} (h : ∀ i : Nat, SlSub ρv[i]? ρv'[i]?) {m : Nat} (o : Own ρv' ρ m) : Own ρv ρ m := by
  obtain ⟨i, p, l, d, h1, h2⟩ := o
  have q := h i
  rw [h1] at q
  obtain ⟨l', d', q⟩ := q.own
  exact ⟨i, p, l', d', q, h2⟩

structure StE (n b : Nat) (ρv ρv' : VE) (ρ : Env) (S S' : Cells) : Prop where
  rel : Rel b ρv' ρ S'
  sub : ∀ i : Nat, SlSub ρv[i]? ρv'[i]?
  fr : ∀ m : Nat, m < n → ¬ Own ρv ρ m → S'[m]? = S[m]?
  len : n ≤ S'.length
theorem StE.refl {n b : Nat} {ρv : VE} {ρ : Env} {S : Cells} (h : Rel b ρv ρ S) (hn : n ≤ S.length) : StE n b ρv ρv ρ S S :=
  ⟨h, fun _ => .refl _, fun _ _ _ => rfl, hn⟩
theorem StE.trans {n b : Nat} {ρv ρv1 ρv2 : VE} {ρ : Env} {S S1 S2 : Cells} (h : StE n b ρv ρv1 ρ S S1) (g : StE n b ρv1 ρv2 ρ S1 S2) : StE n b ρv ρv2 ρ S S2 :=
  ⟨g.rel, fun i => (h.sub i).trans (g.sub i), fun m h1 h2 => (g.fr m h1 fun o => h2 (own_sub h.sub o)).trans (h.fr m h1 h2), g.len⟩
theorem StE.mono {n n' b : Nat} {ρv ρv1 : VE} {ρ : Env} {S S1 : Cells} (h : StE n' b ρv ρv1 ρ S S1) (hn : n ≤ n') : StE n b ρv ρv1 ρ S S1 :=
  ⟨h.rel, h.sub, fun m h1 h2 => h.fr m (by omega) h2, by have := h.len; omega⟩

def Base (n : Nat) (ρv : VE) (ρ : Env) : Prop := ∀ m : Nat, Own ρv ρ m → m < n
theorem Rel.bd {b : Nat} {ρv : VE} {ρ : Env} {S : Cells} (h : Rel b ρv ρ S) : Base S.length ρv ρ := by
  rintro m ⟨i, p, l, d, h1, h2⟩
  obtain ⟨n, q1, q2, _⟩ := h.own h1
  rw [h2] at q1; cases q1
  exact (List.getElem?_eq_some_iff.mp q2).1
theorem Base.sub {n : Nat} {ρv ρv' : VE} {ρ : Env} (h : Base n ρv ρ) (g : ∀ i : Nat, SlSub ρv[i]? ρv'[i]?) : Base n ρv' ρ := fun m o => h m (own_sub g o)

/-- fewer cells, the own ones among them -/
theorem Rel.take {b n : Nat} {ρv : VE} {ρ : Env} {S : Cells} (h : Rel b ρv ρ S) (hb : Base n ρv ρ) (h1 : b ≤ n) (h2 : n ≤ S.length) : Rel b ρv ρ (S.take n) := by
  refine ⟨h.len, by rw [List.length_take]; omega, h.v, fun {i p l d} q => ?_, h.inj⟩
  obtain ⟨m, q1, q2, q3⟩ := h.own q
  exact ⟨m, q1, by rw [List.getElem?_take_of_lt (hb m ⟨i, p, l, d, q, q1⟩)]; exact q2, q3⟩
theorem StE.take {b n : Nat} {ρv ρv' : VE} {ρ : Env} {S S1 : Cells} (h : StE n b ρv ρv' ρ S S1) (hb : Base n ρv ρ) (h1 : b ≤ n) : StE n b ρv ρv' ρ S (S1.take n) :=
  ⟨h.rel.take (hb.sub h.sub) h1 h.len, h.sub, fun m q1 q2 => by rw [List.getElem?_take_of_lt q1]; exact h.fr m q1 q2, by rw [List.length_take]; have := h.len; omega⟩

/-! ### one beside the other -/
def SimE {α β : Type} (n b : Nat) (ρv : VE) (ρ : Env) (S : Cells) (v : V α) (r : R β) (P : α → β → VE → Cells → Prop) : Prop :=
  match v with
  | .ok a ρv' => ∃ c S', r = .ok c S' ∧ StE n b ρv ρv' ρ S S' ∧ P a c ρv' S'
  | .exn x ρv' => ∃ S', r = .exn x S' ∧ StE n b ρv ρv' ρ S S'
  | .no => True
section
variable {α β γ δ : Type} {n b : Nat} {ρv : VE} {ρ : Env} {S : Cells}
theorem SimE.ok {a : α} {c : β} {P : α → β → VE → Cells → Prop} (h : Rel b ρv ρ S) (hn : n ≤ S.length) (p : P a c ρv S) : SimE n b ρv ρ S (.ok a ρv) (.ok c S) P :=
  ⟨c, S, rfl, .refl h hn, p⟩
theorem SimE.imp {v : V α} {r : R β} {P Q : α → β → VE → Cells → Prop} (h : SimE n b ρv ρ S v r P) (q : ∀ a c ρv' S', StE n b ρv ρv' ρ S S' → P a c ρv' S' → Q a c ρv' S') : SimE n b ρv ρ S v r Q := by
  cases v with
  | ok a ρ' => obtain ⟨c, S', h1, h2, h3⟩ := h; exact ⟨c, S', h1, h2, q _ _ _ _ h2 h3⟩
  | exn x ρ' => exact h
  | no => trivial
theorem SimE.mono {n' : Nat} {v : V α} {r : R β} {P : α → β → VE → Cells → Prop} (h : SimE n' b ρv ρ S v r P) (hn : n ≤ n') : SimE n b ρv ρ S v r P := by
  cases v with
  | ok a ρ' => obtain ⟨c, S', h1, h2, h3⟩ := h; exact ⟨c, S', h1, h2.mono hn, h3⟩
  | exn x ρ' => obtain ⟨S', h1, h2⟩ := h; exact ⟨S', h1, h2.mono hn⟩
  | no => trivial
/-- what was ahead stays ahead -/
theorem SimE.pre {ρv0 : VE} {S0 : Cells} {v : V α} {r : R β} {P : α → β → VE → Cells → Prop} (h0 : StE n b ρv0 ρv ρ S0 S) (h : SimE n b ρv ρ S v r P) : SimE n b ρv0 ρ S0 v r P := by
  cases v with
  | ok a ρ' => obtain ⟨c, S', h1, h2, h3⟩ := h; exact ⟨c, S', h1, h0.trans h2, h3⟩
  | exn x ρ' => obtain ⟨S', h1, h2⟩ := h; exact ⟨S', h1, h0.trans h2⟩
  | no => trivial
theorem SimE.bind {v : V α} {r : R β} {P : α → β → VE → Cells → Prop} {f : α → VE → V γ} {g : β → Cells → R δ} {Q : γ → δ → VE → Cells → Prop}
    (h : SimE n b ρv ρ S v r P) (k : ∀ a c ρv' S', StE n b ρv ρv' ρ S S' → P a c ρv' S' → SimE n b ρv' ρ S' (f a ρv') (g c S') Q) : SimE n b ρv ρ S (v.bind f) (r.bind g) Q := by
  cases v with
  | ok a ρ' => obtain ⟨c, S', rfl, h2, h3⟩ := h; exact .pre h2 (k _ _ _ _ h2 h3)
  | exn x ρ' => obtain ⟨S', rfl, h2⟩ := h; exact ⟨S', rfl, h2⟩
  | no => trivial
/-- the same of one more step on the one hand -/
theorem SimE.bindL {v : V α} {r : R β} {P : α → β → VE → Cells → Prop} {f : α → VE → V γ} {Q : γ → β → VE → Cells → Prop}
    (h : SimE n b ρv ρ S v r P) (k : ∀ a c ρv' S', StE n b ρv ρv' ρ S S' → P a c ρv' S' → SimE n b ρv' ρ S' (f a ρv') (.ok c S') Q) : SimE n b ρv ρ S (v.bind f) r Q := by
  cases v with
  | ok a ρ' => obtain ⟨c, S', rfl, h2, h3⟩ := h; exact .pre h2 (k _ _ _ _ h2 h3)
  | exn x ρ' => obtain ⟨S', rfl, h2⟩ := h; exact ⟨S', rfl, h2⟩
  | no => trivial
theorem SimE.need {c : Bool} {v : V α} {r : R β} {P : α → β → VE → Cells → Prop} (h : c = true → SimE n b ρv ρ S v r P) : SimE n b ρv ρ S (V.need c v) (R.need c r) P := by
  cases c with
  | true => exact h rfl
  | false => trivial
theorem SimE.of {o : Option α} {f : α → V β} {r : R γ} {P : β → γ → VE → Cells → Prop} (h : ∀ a, o = some a → SimE n b ρv ρ S (f a) r P) : SimE n b ρv ρ S (V.of o f) r P := by
  cases o with
  | some a => exact h a rfl
  | none => trivial
theorem SimE.only {v : V α} {r : R β} {P : α → β → VE → Cells → Prop} (h : SimE n b ρv ρ S v r P) : SimE n b ρv ρ S v.only r.only P := by
  cases v with
  | ok a ρ' => obtain ⟨c, S', rfl, h2, h3⟩ := h; exact ⟨c, S', rfl, h2, h3⟩
  | exn x ρ' => trivial
  | no => trivial
end

/-- an operand -/
def RepO (st : Bool) (n : Nat) (ρ0 : VE) (ρ : Env) (S : Cells) (r : VR) (d : D) : Prop :=
  match r with
  | .v x => d = x ∧ x.nr = true
  | .new x => ∃ m l, d = .ref m ∧ S[m]? = some ⟨l, x⟩ ∧ l ≠ .lk ∧ (st = true → l = .mu) ∧ ¬ Own ρ0 ρ m ∧ n ≤ m ∧ isLD x = true
  | .loc i => ∃ m, d = .ref m ∧ ρ[i]? = some (some (.ref m)) ∧ Own ρ0 ρ m
/-- what an expression ends with -/
def RepE (n : Nat) (ρ0 : VE) (ρ : Env) (S : Cells) (r : VR) (d : D) : Prop :=
  match r with
  | .v x => d = x ∧ x.nr = true ∧ S.length = n
  | .new x => d = .ref n ∧ S.length = n + 1 ∧ S[n]? = some ⟨.mu, x⟩ ∧ isLD x = true
  | .loc i => ∃ m, d = .ref m ∧ ρ[i]? = some (some (.ref m)) ∧ Own ρ0 ρ m ∧ S.length = n
theorem ld_nr {d : D} (h : isLD d = true) : d.nr = true := by cases d <;> first | rfl | exact absurd h Bool.false_ne_true
section
variable {n b : Nat} {ρ0 ρv ρv' : VE} {ρ : Env} {S S' : Cells} {r : VR} {d : D} {st : Bool}
theorem RepO.weak (h : RepO st n ρ0 ρ S r d) : RepO false n ρ0 ρ S r d := by
  cases r with
  | v x => exact h
  | new x => obtain ⟨m, l, h1, h2, h3, h4, h5⟩ := h; exact ⟨m, l, h1, h2, h3, nofun, h5⟩
  | loc i => exact h
theorem RepO.mono {n' : Nat} (h : RepO st n' ρ0 ρ S r d) (hn : n ≤ n') : RepO st n ρ0 ρ S r d := by
  cases r with
  | v x => exact h
  | new x => obtain ⟨m, l, h1, h2, h3, h4, h5, h6, h7⟩ := h; exact ⟨m, l, h1, h2, h3, h4, h5, by omega, h7⟩
  | loc i => exact h
theorem RepO.step {n' : Nat} (h : RepO st n ρ0 ρ S r d) (g : StE n' b ρv ρv' ρ S S') (hn : S.length ≤ n') (hs : ∀ i : Nat, SlSub ρ0[i]? ρv[i]?) : RepO st n ρ0 ρ S' r d := by
  cases r with
  | v x => exact h
  | new x =>
    obtain ⟨m, l, h1, h2, h3, h4, h5, h6⟩ := h
    have hm := (List.getElem?_eq_some_iff.mp h2).1
    exact ⟨m, l, h1, by rw [g.fr m (by omega) fun o => h5 (own_sub hs o)]; exact h2, h3, h4, h5, h6⟩
  | loc i => exact h
/-- from a later beginning -/
theorem RepO.back {ρ1 : VE} (h : RepO st n ρ1 ρ S r d) (hb : Base n ρ0 ρ) (hs : ∀ i : Nat, SlSub ρ0[i]? ρ1[i]?) : RepO st n ρ0 ρ S r d := by
  cases r with
  | v x => exact h
  | new x => obtain ⟨m, l, h1, h2, h3, h4, h5, h6, h7⟩ := h; exact ⟨m, l, h1, h2, h3, h4, fun o => by have := hb _ o; omega, h6, h7⟩
  | loc i => obtain ⟨m, h1, h2, h3⟩ := h; exact ⟨m, h1, h2, own_sub hs h3⟩
theorem RepE.op (h : RepE n ρ0 ρ S r d) (hb : Base n ρ0 ρ) : RepO true n ρ0 ρ S r d := by
  cases r with
  | v x => exact ⟨h.1, h.2.1⟩
  | new x => exact ⟨n, .mu, h.1, h.2.2.1, nofun, fun _ => rfl, fun o => by have := hb _ o; omega, Nat.le_refl _, h.2.2.2⟩
  | loc i => obtain ⟨m, h1, h2, h3, h4⟩ := h; exact ⟨m, h1, h2, h3⟩
theorem RepE.len (h : RepE n ρ0 ρ S' r d) : n ≤ S'.length := by
  cases r with
  | v x => rw [h.2.2]; omega
  | new x => rw [h.2.1]; omega
  | loc i => obtain ⟨m, _, _, _, h4⟩ := h; omega
theorem val_nr {x : D} (h : x.nr = true) : val S x = some x := by cases x <;> first | rfl | exact absurd h Bool.false_ne_true
/-- as it is, or by its cell -/
def V2 (S : Cells) (d x : D) : Prop := (d = x ∧ x.nr = true) ∨ ∃ m, d = .ref m ∧ val S d = some x ∧ isLD x = true
theorem V2.val {x : D} (h : V2 S d x) : val S d = some x := by
  rcases h with ⟨rfl, h⟩ | ⟨m, _, h, _⟩
  · exact val_nr h
  · exact h
theorem V2.nr {x : D} (h : V2 S d x) : x.nr = true := by
  rcases h with ⟨rfl, h⟩ | ⟨m, _, _, h⟩
  · exact h
  · exact ld_nr h
theorem RepO.v2 {x : D} (h : RepO st n ρ0 ρ S r d) (hr : Rel b ρv ρ S) (e : rsv ρv r = some x) : V2 S d x := by
  cases r with
  | v y => cases e; exact .inl h
  | new y =>
    obtain ⟨m, l, h1, h2, _, _, _, _, h7⟩ := h
    cases e
    refine .inr ⟨m, h1, ?_, h7⟩
    rw [h1]
    show (S[m]?).map (·.c) = _
    rw [h2] <;> rfl
  | loc i =>
    obtain ⟨m, h1, h2, _⟩ := h
    unfold rsv at e
    dsimp only at e
    cases hi : ρv[i]? with
    | none => rw [hi] at e; cases e
    | some s =>
      rw [hi] at e
      cases s with
      | no => cases e
      | v _ => cases e
      | own p l y =>
        cases e
        obtain ⟨k, q1, q2, _, _, q5⟩ := hr.own hi
        rw [h2] at q1; cases q1
        refine .inr ⟨m, h1, ?_, q5⟩
        rw [h1]
        show (S[m]?).map (·.c) = _
        rw [q2] <;> rfl
/-- back to so many cells -/
theorem norm_ok (h : RepO true n ρ0 ρ S' r d) (hb : Base n ρ0 ρ) (hn : n ≤ S'.length) :
    ∃ c S'', norm n (.ok d S') = .ok c S'' ∧ S''.take n = S'.take n ∧ n ≤ S''.length ∧ RepE n ρ0 ρ S'' r c := by
  cases r with
  | v x =>
    obtain ⟨rfl, h2⟩ := h
    refine ⟨d, S'.take n, ?_, by rw [List.take_take, Nat.min_self], by rw [List.length_take]; omega, rfl, h2, by rw [List.length_take]; omega⟩
    cases d <;> first | rfl | exact absurd h2 Bool.false_ne_true
  | new x =>
    obtain ⟨m, l, rfl, h2, _, h4, h5, h6, h7⟩ := h
    cases h4 rfl
    refine ⟨.ref n, S'.take n ++ [⟨.mu, x⟩], ?_, ?_, ?_, rfl, ?_, ?_, h7⟩
    · show (if m < n then _ else _) = _
      rw [if_neg (by omega), h2]
    · rw [List.take_append_of_le_length (by rw [List.length_take]; omega), List.take_take, Nat.min_self]
    · rw [List.length_append, List.length_take]; omega
    · rw [List.length_append, List.length_take]; simp; omega
    · have : (S'.take n).length = n := by rw [List.length_take]; omega
      rw [List.getElem?_append_right (by omega), this, Nat.sub_self] <;> rfl
  | loc i =>
    obtain ⟨m, rfl, h2, h3⟩ := h
    refine ⟨.ref m, S'.take n, ?_, by rw [List.take_take, Nat.min_self], by rw [List.length_take]; omega, m, rfl, h2, h3, by rw [List.length_take]; omega⟩
    show (if m < n then _ else _) = _
    rw [if_pos (hb m h3)]
end
theorem get_of_take {S S' : Cells} {n m : Nat} (h : S'.take n = S.take n) (hm : m < n) : S'[m]? = S[m]? := by
  rw [← List.getElem?_take_of_lt (l := S') hm, h, List.getElem?_take_of_lt hm]
theorem StE.alike {n b : Nat} {ρv ρv' : VE} {ρ : Env} {S S1 S2 : Cells} (h : StE n b ρv ρv' ρ S S1) (hb : Base n ρv ρ) (h1 : b ≤ n) (e : S2.take n = S1.take n) (hl : n ≤ S2.length) : StE n b ρv ρv' ρ S S2 := by
  refine ⟨⟨h.rel.len, by omega, h.rel.v, fun {i p l d} q => ?_, h.rel.inj⟩, h.sub, fun m q1 q2 => (get_of_take e q1).trans (h.fr m q1 q2), hl⟩
  obtain ⟨m, q1, q2, q3⟩ := h.rel.own q
  exact ⟨m, q1, (get_of_take e ((hb.sub h.sub) m ⟨i, p, l, d, q, q1⟩)).trans q2, q3⟩
theorem SimE.norm {b : Nat} {ρv : VE} {ρ : Env} {S : Cells} {v : V VR} {r : R D} (hr : Rel b ρv ρ S)
    (h : SimE S.length b ρv ρ S v r (fun a d _ S' => RepO true S.length ρv ρ S' a d)) : SimE S.length b ρv ρ S v (norm S.length r) (fun a d _ S' => RepE S.length ρv ρ S' a d) := by
  cases v with
  | ok a ρ' =>
    obtain ⟨c, S', rfl, h2, h3⟩ := h
    obtain ⟨c', S'', e, h4, h5, h6⟩ := norm_ok h3 hr.bd h2.len
    exact ⟨c', S'', e, h2.alike hr.bd hr.base h4 h5, h6⟩
  | exn x ρ' => obtain ⟨S', rfl, h2⟩ := h; exact ⟨S'.take S.length, rfl, h2.take hr.bd hr.base⟩
  | no => trivial
end VS

/-! VV, part C: freezing, operations, changes. -/
namespace VS
open PySem

theorem lt_of_get {S : Cells} {m : Nat} {c : Cell} (h : S[m]? = some c) : m < S.length := (List.getElem?_eq_some_iff.mp h).1
theorem ve_get_set {ρ : VE} {i j : Nat} {s : Sl} (h : i < ρ.length) : (ρ.set i s)[j]? = if i = j then some s else ρ[j]? := by
  rw [List.getElem?_set]
  by_cases c : i = j
  · simp [c, h]; omega
  · simp [c]
theorem ve_lt {ρ : VE} {i : Nat} {s : Sl} (h : ρ[i]? = some s) : i < ρ.length := (List.getElem?_eq_some_iff.mp h).1
theorem c_get_set {S : Cells} {i j : Nat} {s : Cell} (h : i < S.length) : (S.set i s)[j]? = if i = j then some s else S[j]? := by
  rw [List.getElem?_set]
  by_cases c : i = j
  · simp [c, h]; omega
  · simp [c]

def Soft (S S' : Cells) : Prop := ∀ (m : Nat) l x, S[m]? = some ⟨l, x⟩ → l ≠ .lk → ∃ l', l' ≠ Lk.lk ∧ S'[m]? = some ⟨l', x⟩
theorem Soft.refl (S : Cells) : Soft S S := fun m l x h1 h2 => ⟨l, h2, h1⟩
theorem Soft.fz {S : Cells} {m : Nat} {l : Lk} {x : D} (h : S[m]? = some ⟨l, x⟩) : Soft S (S.set m ⟨.fz, x⟩) := by
  intro k l' y h1 h2
  rw [c_get_set (lt_of_get h)]
  by_cases c : m = k
  · subst c; rw [h] at h1; cases h1; exact ⟨.fz, nofun, by rw [if_pos rfl]⟩
  · exact ⟨l', h2, by rw [if_neg c]; exact h1⟩
section
variable {n b : Nat} {ρ0 ρv ρv' : VE} {ρ : Env} {S S' : Cells} {r : VR} {d : D} {st : Bool}
theorem RepO.soft (h : RepO false n ρ0 ρ S r d) (g : Soft S S') : RepO false n ρ0 ρ S' r d := by
  cases r with
  | v x => exact h
  | new x =>
    obtain ⟨m, l, h1, h2, h3, h4, h5⟩ := h
    obtain ⟨l', q1, q2⟩ := g m l x h2 h3
    exact ⟨m, l', h1, q2, q1, nofun, h5⟩
  | loc i => exact h
theorem frz_fz {m : Nat} {l : Lk} {x : D} (h : S[m]? = some ⟨l, x⟩) (hl : l ≠ .lk) (hx : isLD x = true) : frz (.ref m) S = .ok x (S.set m ⟨.fz, x⟩) := by
  unfold frz
  dsimp only
  rw [h]
  cases x <;> first | exact absurd hx Bool.false_ne_true | (cases l <;> first | exact absurd rfl hl | rfl)
/-- a cell that is nobody's, changed -/
theorem Rel.other {m : Nat} {c : Cell} (hr : Rel b ρv ρ S) (h : ¬ Own ρv ρ m) : Rel b ρv ρ (S.set m c) := by
  refine ⟨hr.len, by rw [List.length_set]; exact hr.base, hr.v, fun {i p l d} q => ?_, hr.inj⟩
  obtain ⟨k, q1, q2, q3⟩ := hr.own q
  refine ⟨k, q1, ?_, q3⟩
  rw [List.getElem?_set_ne]
  · exact q2
  · intro e; subst e; exact h ⟨i, p, l, d, q, q1⟩
/-- an own cell changed with its slot -/
theorem Rel.put {i m : Nat} {p : Bool} {l l' : Lk} {d d' : D} (hr : Rel b ρv ρ S) (h : ρv[i]? = some (.own p l d)) (hi : ρ[i]? = some (some (.ref m))) (hl : isLD d' = true) : Rel b (ρv.set i (.own p l' d')) ρ (S.set m ⟨l', d'⟩) := by
  have il := ve_lt h
  obtain ⟨m', q1, q2, q3, q4, q5⟩ := hr.own h
  rw [hi] at q1; cases q1
  refine ⟨by rw [List.length_set]; exact hr.len, by rw [List.length_set]; exact hr.base, fun {j d} q => ?_, fun {j p2 l2 d2} q => ?_, fun {j k p1 p2 l1 l2 d1 d2 n} q1 q2 q3 q4 => ?_⟩
  · rw [ve_get_set il] at q
    by_cases c : i = j
    · rw [if_pos c] at q; cases q
    · rw [if_neg c] at q; exact hr.v q
  · rw [ve_get_set il] at q
    by_cases c : i = j
    · rw [if_pos c] at q; cases q; subst c
      exact ⟨m, hi, by rw [c_get_set (lt_of_get q2), if_pos rfl], q3, q4, hl⟩
    · rw [if_neg c] at q
      obtain ⟨k, z1, z2, z3⟩ := hr.own q
      refine ⟨k, z1, ?_, z3⟩
      rw [c_get_set (lt_of_get q2), if_neg]
      · exact z2
      · intro e; subst e; exact c (hr.inj h q hi z1)
  · rw [ve_get_set il] at q1 q2
    by_cases c : i = j
    · by_cases c' : i = k
      · omega
      · rw [if_neg c'] at q2; subst c; exact hr.inj h q2 q3 q4
    · rw [if_neg c] at q1
      by_cases c' : i = k
      · subst c'; exact hr.inj q1 h q3 q4
      · rw [if_neg c'] at q2; exact hr.inj q1 q2 q3 q4
theorem StE.put {i m : Nat} {p : Bool} {l l' : Lk} {d d' : D} (hr : Rel b ρv ρ S) (hn : n ≤ S.length) (h : ρv[i]? = some (.own p l d)) (hi : ρ[i]? = some (some (.ref m))) (hl : isLD d' = true) (hk : l = .lk → l' = .lk) : StE n b ρv (ρv.set i (.own p l' d')) ρ S (S.set m ⟨l', d'⟩) := by
  refine ⟨hr.put h hi hl, fun j => ?_, fun k _ q => ?_, by rw [List.length_set]; exact hn⟩
  · rw [ve_get_set (ve_lt h)]
    by_cases c : i = j
    · subst c; rw [if_pos rfl, h]; exact .inr ⟨p, l, d, rfl, .inl ⟨l', d', rfl, hk⟩⟩
    · rw [if_neg c]; exact .refl _
  · rw [List.getElem?_set_ne]
    intro e; subst e; exact q ⟨i, p, l, d, h, hi⟩
/-- an own cell frozen -/
theorem StE.drop {i m : Nat} {l : Lk} {d : D} {c : Cell} (hr : Rel b ρv ρ S) (hn : n ≤ S.length) (h : ρv[i]? = some (.own false l d)) (hi : ρ[i]? = some (some (.ref m))) (hk : l ≠ .lk) : StE n b ρv (ρv.set i .no) ρ S (S.set m c) := by
  have il := ve_lt h
  have G : ∀ {j : Nat} {s : Sl}, (ρv.set i .no)[j]? = some s → s ≠ .no → ρv[j]? = some s ∧ i ≠ j := by
    intro j s q z
    rw [ve_get_set il] at q
    by_cases c : i = j
    · rw [if_pos c] at q; cases q; exact absurd rfl z
    · rw [if_neg c] at q; exact ⟨q, c⟩
  refine ⟨⟨by rw [List.length_set]; exact hr.len, by rw [List.length_set]; exact hr.base, fun {j d} q => hr.v (G q nofun).1, fun {j p2 l2 d2} q => ?_, fun {j k p1 p2 l1 l2 d1 d2 n} q1 q2 q3 q4 => hr.inj (G q1 nofun).1 (G q2 nofun).1 q3 q4⟩, fun j => ?_, fun k _ q => ?_, by rw [List.length_set]; exact hn⟩
  · obtain ⟨q, z⟩ := G q nofun
    obtain ⟨k, z1, z2, z3⟩ := hr.own q
    refine ⟨k, z1, ?_, z3⟩
    rw [List.getElem?_set_ne]
    · exact z2
    · intro e; subst e; exact z (hr.inj h q hi z1)
  · rw [ve_get_set il]
    by_cases c : i = j
    · subst c; rw [if_pos rfl, h]; exact .inr ⟨false, l, d, rfl, .inr ⟨rfl, rfl, hk⟩⟩
    · rw [if_neg c]; exact .refl _
  · rw [List.getElem?_set_ne]
    intro e; subst e; exact q ⟨i, false, l, d, h, hi⟩

theorem frz_sim (hr : Rel b ρv ρ S) (hb : Base n ρ0 ρ) (hs : ∀ i : Nat, SlSub ρ0[i]? ρv[i]?) (hn : n ≤ S.length) (h : RepO false n ρ0 ρ S r d) :
    SimE n b ρv ρ S (frzV r ρv) (frz d S) (fun x y ρv' S' => y = x ∧ x.nr = true ∧ Soft S S') := by
  cases r with
  | v x =>
    obtain ⟨rfl, h2⟩ := h
    have e : frz d S = .ok d S := by cases d <;> first | rfl | exact absurd h2 Bool.false_ne_true
    rw [e]
    exact .ok hr hn ⟨rfl, h2, .refl S⟩
  | new x =>
    obtain ⟨m, l, rfl, h2, h3, h4, h5, h6, h7⟩ := h
    rw [frz_fz h2 h3 h7]
    exact ⟨x, _, rfl, ⟨hr.other (fun o => h5 (own_sub hs o)), fun _ => .refl _, fun k q1 _ => List.getElem?_set_ne (by omega), by rw [List.length_set]; exact hn⟩, rfl, ld_nr h7, .fz h2⟩
  | loc i =>
    obtain ⟨m, rfl, h2, h3⟩ := h
    unfold frzV
    dsimp only
    cases hi : ρv[i]? with
    | none => trivial
    | some s =>
      cases s with
      | no => trivial
      | v _ => trivial
      | own p l x =>
        cases p with
        | true => trivial
        | false =>
          cases l with
          | lk => trivial
          | fz => trivial
          | mu =>
            obtain ⟨k, q1, q2, q3, q4, q5⟩ := hr.own hi
            rw [h2] at q1; cases q1
            rw [frz_fz q2 nofun q5]
            exact ⟨x, _, rfl, .drop hr hn hi h2 nofun, rfl, ld_nr q5, .fz q2⟩

def AllO (n : Nat) (ρ0 : VE) (ρ : Env) (S : Cells) : List VR → List D → Prop
  | [], [] => True
  | r :: rs, d :: ds => RepO false n ρ0 ρ S r d ∧ AllO n ρ0 ρ S rs ds
  | _, _ => False
theorem AllO.soft {n : Nat} {ρ0 : VE} {ρ : Env} {S S' : Cells} (g : Soft S S') : ∀ {rs : List VR} {ds : List D}, AllO n ρ0 ρ S rs ds → AllO n ρ0 ρ S' rs ds
  | [], [], _ => trivial
  | _ :: _, _ :: _, h => ⟨h.1.soft g, AllO.soft g h.2⟩
  | [], _ :: _, h => h.elim
  | _ :: _, [], h => h.elim
theorem frzs_sim : ∀ {rs : List VR} {ds : List D} {ρv : VE} {S : Cells}, Rel b ρv ρ S → Base n ρ0 ρ → (∀ i : Nat, SlSub ρ0[i]? ρv[i]?) → n ≤ S.length → AllO n ρ0 ρ S rs ds →
    SimE n b ρv ρ S (frzVs rs ρv) (frzs ds S) (fun xs ys _ _ => ys = xs)
  | [], [], ρv, S, hr, hb, hs, hn, _ => .ok hr hn rfl
  | r :: rs, d :: ds, ρv, S, hr, hb, hs, hn, h => by
    refine .bind (frz_sim hr hb hs hn h.1) fun x y ρ1 S1 st1 p => ?_
    obtain ⟨rfl, _, so⟩ := p
    refine .bind (frzs_sim st1.rel hb (fun i => (hs i).trans (st1.sub i)) st1.len (h.2.soft so)) fun xs ys ρ2 S2 st2 p => ?_
    subst p
    exact .ok st2.rel st2.len rfl
  | [], _ :: _, _, _, _, _, _, _, h => h.elim
  | _ :: _, [], _, _, _, _, _, _, h => h.elim

/-! ### operations that look at no cells -/
def Uni (F : Cells → R D) : Prop := ∀ S, (∀ c, F [] = .ok (.ref 0) [c] → F S = .ok (.ref S.length) (S ++ [c])) ∧ ∀ d, F [] = .ok d [] → d.nr = true → F S = .ok d S
theorem Uni.ok (d : D) : Uni (fun S => .ok d S) := fun S => ⟨(fun c h => nomatch h), fun e h _ => by cases h; rfl⟩
theorem Uni.new (xs : List D) : Uni (newL xs) := fun S => ⟨fun c h => by cases h; rfl, fun e h _ => nomatch h⟩
theorem Uni.newD (ks : List L2.Key) (vs : List D) : Uni (newD ks vs) := fun S => ⟨fun c h => by cases h; rfl, fun e h _ => nomatch h⟩
theorem Uni.stuck : Uni (fun _ => .stuck) := fun S => ⟨(fun c h => nomatch h), fun e h _ => nomatch h⟩
theorem Uni.need {c : Bool} {F : Cells → R D} (h : Uni F) : Uni (fun S => R.need c (F S)) := by
  cases c with
  | true => exact h
  | false => exact .stuck
theorem ofR_sim {F : Cells → R D} (u : Uni F) (hr : Rel b ρv ρ S) (hb : Base n ρ0 ρ) (hn : n ≤ S.length) :
    SimE n b ρv ρ S (ofR (F []) ρv) (F S) (fun a d _ S' => RepO true n ρ0 ρ S' a d) := by
  obtain ⟨u1, u2⟩ := u S
  generalize hF : F [] = r0 at u1 u2
  unfold ofR
  split
  · rename_i c
    split
    · rename_i hc
      rw [u1 _ rfl]
      refine ⟨_, _, rfl, ⟨⟨hr.len, by rw [List.length_append]; have := hr.base; omega, hr.v, fun {i p l d} q => ?_, hr.inj⟩, fun _ => .refl _, fun m q _ => List.getElem?_append_left (by omega), by rw [List.length_append]; omega⟩, ?_⟩
      · obtain ⟨k, z1, z2, z3⟩ := hr.own q
        exact ⟨k, z1, by rw [List.getElem?_append_left (lt_of_get z2)]; exact z2, z3⟩
      · exact ⟨S.length, .mu, rfl, List.getElem?_concat_length, nofun, fun _ => rfl, fun o => by have := hb _ o; omega, hn, hc⟩
    · trivial
  · rename_i d _
    split
    · rename_i hd
      rw [u2 _ rfl hd]
      exact .ok hr hn ⟨rfl, hd⟩
    · trivial
  · trivial
theorem bV_sim {o : Option Bool} (hr : Rel b ρv ρ S) (hn : n ≤ S.length) : SimE n b ρv ρ S (bV o ρv) (bR o S) (fun a d _ S' => RepO true n ρ0 ρ S' a d) := by
  cases o with
  | some t => exact .ok hr hn ⟨rfl, rfl⟩
  | none => trivial
theorem vl_sim (hr : Rel b ρv ρ S) (hn : n ≤ S.length) : SimE n b ρv ρ S (vl d ρv) (.ok d S) (fun a c _ S' => RepO true n ρ0 ρ S' a c) := by
  unfold vl
  split
  · rename_i h; exact .ok hr hn ⟨rfl, h⟩
  · trivial
theorem new_sim {c : D} (hr : Rel b ρv ρ S) (hb : Base n ρ0 ρ) (hn : n ≤ S.length) (hc : isLD c = true) : SimE n b ρv ρ S (.ok (.new c) ρv) (.ok (.ref S.length) (S ++ [⟨.mu, c⟩])) (fun a d _ S' => RepO true n ρ0 ρ S' a d) := by
  have := ofR_sim (F := fun S => .ok (.ref S.length) (S ++ [⟨.mu, c⟩])) (fun S => ⟨fun c h => by cases h; rfl, fun e h _ => nomatch h⟩) hr hb hn
  have e : ofR ((fun S : Cells => R.ok (.ref S.length) (S ++ [⟨.mu, c⟩])) []) ρv = .ok (.new c) ρv := by
    show (if isLD c = true then _ else _) = _
    rw [if_pos hc]
  rw [e] at this
  exact this
end
theorem uni_bin {op : Bop} {x y : D} : Uni (binV op x y) := by
  unfold binV
  split <;> first | exact .ok _ | exact .need (.ok _) | exact .need (.new _) | exact .stuck
theorem uni_ix {x y : D} : Uni (ixV x y) := by
  unfold ixV
  split
  · cases keyOf y with
    | none => exact .stuck
    | some k => dsimp only; split <;> first | exact .ok _ | exact .stuck
  · split
    · split <;> first | exact .ok _ | exact .stuck
    · exact .stuck
  · split
    · split <;> first | exact .ok _ | exact .stuck
    · exact .stuck
  · refine .need (F := fun S => _) ?_
    split
    · split <;> first | exact .ok _ | exact .stuck
    · exact .stuck
  · exact .stuck
theorem uni_sl {x l h : D} : Uni (slV x l h) := by
  unfold slV
  split
  · split <;> first | exact .ok _ | exact .stuck
  · split <;> first | exact .new _ | exact .stuck
  · split <;> first | exact .new _ | exact .stuck
  · refine .need (F := fun S => _) ?_
    split <;> first | exact .ok _ | exact .stuck
  · exact .stuck
theorem uni_one {x : D} {f : Cells → D → R D} (hx : x.nr = true) (h : Uni (fun S => f S x)) : Uni (fun S => one x S (f S)) := by
  have e : (fun S => one x S (f S)) = fun S => f S x := by
    funext S
    unfold one
    rw [val_nr hx]
  rw [e]; exact h
theorem V2.ld {S : Cells} {d x : D} (h : V2 S d x) (hx : isLD x = false) : d = x := by
  rcases h with ⟨h, _⟩ | ⟨_, _, _, h⟩
  · exact h
  · rw [h] at hx; cases hx
end VS

/-! VV, part D: built-ins, methods, walks. -/
namespace VS
open PySem

def AllV (S : Cells) : List D → List D → Prop
  | [], [] => True
  | d :: ds, x :: xs => V2 S d x ∧ AllV S ds xs
  | _, _ => False
theorem one_res {S : Cells} {d x : D} (h : V2 S d x) (f : D → R D) : one d S f = one x S f := by
  unfold one
  rw [h.val, val_nr h.nr]
theorem V2.cases {S : Cells} {d x : D} (h : V2 S d x) : d = x ∨ ∃ m, d = .ref m ∧ ((∃ xs, x = .lst xs) ∨ ∃ ks vs, x = .dic ks vs) := by
  rcases h with ⟨h, _⟩ | ⟨m, h, _, h2⟩
  · exact .inl h
  · refine .inr ⟨m, h, ?_⟩
    cases x <;> first | exact absurd h2 Bool.false_ne_true | exact .inl ⟨_, rfl⟩ | exact .inr ⟨_, _, rfl⟩
theorem blt_3 {b : Blt} {x y z : D} {r : List D} {S : Cells} : bltV b (x :: y :: z :: r) S = .stuck := by
  cases b <;> first | rfl | (cases x <;> first | rfl | (cases y <;> rfl))
theorem blt_res {S : Cells} (b : Blt) : ∀ {ds xs : List D}, AllV S ds xs → bltV b ds S = bltV b xs S
  | [], [], _ => rfl
  | [d], [x], ⟨h, _⟩ => by
    cases b <;> first
      | exact one_res h _
      | (rcases h.cases with rfl | ⟨m, rfl, ⟨xs, rfl⟩ | ⟨ks, vs, rfl⟩⟩ <;> rfl)
  | [d, e], [x, y], ⟨h, g, _⟩ => by
    cases b <;> first
      | rfl
      | (rcases h.cases with rfl | ⟨m, rfl, ⟨xs, rfl⟩ | ⟨ks, vs, rfl⟩⟩ <;> rcases g.cases with rfl | ⟨m, rfl, ⟨xs, rfl⟩ | ⟨ks, vs, rfl⟩⟩ <;> first | rfl | (cases d <;> rfl) | (cases e <;> rfl))
  | _ :: _ :: _ :: _, _ :: _ :: _ :: _, _ => by rw [blt_3, blt_3]
  | [], _ :: _, h => h.elim
  | _ :: _, [], h => h.elim
  | [_], _ :: _ :: _, h => h.2.elim
  | _ :: _ :: _, [_], h => h.2.elim
  | [_, _], _ :: _ :: _ :: _, h => h.2.2.elim
  | _ :: _ :: _ :: _, [_, _], h => h.2.2.elim
def allNr (xs : List D) : Prop := ∀ x ∈ xs, x.nr = true
theorem AllV.nr {S : Cells} : ∀ {ds xs : List D}, AllV S ds xs → allNr xs
  | [], [], _ => fun _ h => nomatch h
  | _ :: _, _ :: _, h => fun x hx => by
    rcases List.mem_cons.mp hx with rfl | q
    · exact h.1.nr
    · exact AllV.nr h.2 x q
  | [], _ :: _, h => h.elim
  | _ :: _, [], h => h.elim
theorem uni_blt {b : Blt} {xs : List D} (h : allNr xs) : Uni (bltV b xs) := by
  have one1 : ∀ {x : D} {f : Cells → D → R D}, x ∈ xs → Uni (fun S => f S x) → Uni (fun S => one x S (f S)) := fun hx u => uni_one (h _ hx) u
  unfold bltV
  split
  all_goals first
    | exact .ok _
    | exact .stuck
    | (refine one1 (f := fun S x => _) (by simp) ?_
       first
       | (split
          all_goals first
            | exact .ok _
            | exact .new _
            | exact .newD _ _
            | exact .stuck
            | exact .need (.ok _)
            | (split <;> first | exact .ok _ | exact .new _ | exact .newD _ _ | exact .stuck | exact .need (.ok _) | (split <;> first | exact .ok _ | exact .new _ | exact .stuck))))

theorem mth_uni {m : Mth} {o : D} {ds : List D} (ho : o.nr = true) (hm : m = .index ∨ m = .get1 ∨ m = .get2 ∨ m = .pop1) : Uni (mthV m o ds) := by
  rcases hm with rfl | rfl | rfl | rfl
  · match ds with
    | [] => exact .stuck
    | _ :: _ :: _ => exact .stuck
    | [x] =>
      refine uni_one (x := o) (f := fun S o => match o with | .lst xs => R.need (x.flat && xs.all D.flat) (match xs.findIdx? (fun z => eqD z x) with | some j => .ok (.int (j : Nat)) S | none => .stuck) | _ => .stuck) ho ?_
      split
      · refine .need (F := fun S => _) ?_
        split <;> first | exact .ok _ | exact .stuck
      · exact .stuck
  · match ds with
    | [] => exact .stuck
    | _ :: _ :: _ => exact .stuck
    | [x] =>
      refine uni_one (x := o) (f := fun S o => match o with | .dic ks vs => (match keyOf x with | some k => .ok ((dget ks vs k).getD .non) S | none => .stuck) | _ => .stuck) ho ?_
      split
      · split <;> first | exact .ok _ | exact .stuck
      · exact .stuck
  · match ds with
    | [] => exact .stuck
    | [_] => exact .stuck
    | _ :: _ :: _ :: _ => exact .stuck
    | [x, d] =>
      refine uni_one (x := o) (f := fun S o => match o with | .dic ks vs => (match keyOf x with | some k => .ok ((dget ks vs k).getD d) S | none => .stuck) | _ => .stuck) ho ?_
      split
      · split <;> first | exact .ok _ | exact .stuck
      · exact .stuck
  · match ds with
    | [] => exact .stuck
    | _ :: _ => exact .stuck
theorem join_uni {o : D} {ds : List D} (h : allNr ds) : Uni (mthV .join o ds) := by
  match ds with
  | [] => exact .stuck
  | _ :: _ :: _ => exact .stuck
  | [x] =>
    match o with
    | .str sep =>
      refine uni_one (x := x) (f := fun S x => match seqOf x with
        | some xs => (match strsD xs with
          | some ss => R.need (decide ((ss.map (·.length)).sum + ss.length * sep.length ≤ line)) (.ok (.str (Txt.join sep ss)) S)
          | none => .stuck)
        | none => .stuck) (h _ (by simp)) ?_
      split
      · split <;> first | exact .need (.ok _) | exact .stuck
      · exact .stuck
    | .non | .bl _ | .int _ | .tup _ | .lst _ | .dic _ _ | .ref _ | .glo _ | .ty _ | .scr _ => exact .stuck
theorem mth_res {S : Cells} {m : Mth} {o o' : D} {ds : List D} (h : V2 S o o') (hm : m = .index ∨ m = .get1 ∨ m = .get2 ∨ m = .pop1) : mthV m o ds S = mthV m o' ds S := by
  rcases hm with rfl | rfl | rfl | rfl
  · match ds with
    | [] => rfl
    | _ :: _ :: _ => rfl
    | [x] => exact one_res h _
  · match ds with
    | [] => rfl
    | _ :: _ :: _ => rfl
    | [x] => exact one_res h _
  · match ds with
    | [] => rfl
    | [_] => rfl
    | _ :: _ :: _ :: _ => rfl
    | [x, d] => exact one_res h _
  · match ds with
    | [] => rfl
    | _ :: _ => rfl
theorem join_res {S : Cells} {o o' : D} {ds xs : List D} (h : V2 S o o') (g : AllV S ds xs) : mthV .join o ds S = mthV .join o' xs S := by
  match ds, xs, g with
  | [], [], _ => rfl
  | _ :: _ :: _, _ :: _ :: _, _ => rfl
  | [d], [x], g =>
    rcases h.cases with rfl | ⟨m, rfl, ⟨xs, rfl⟩ | ⟨ks, vs, rfl⟩⟩
    · match o with
      | .str sep => exact one_res g.1 _
      | .non | .bl _ | .int _ | .tup _ | .lst _ | .dic _ _ | .ref _ | .glo _ | .ty _ | .scr _ => rfl
    · rfl
    · rfl
  | [], _ :: _, g => exact g.elim
  | _ :: _, [], g => exact g.elim
  | [_], _ :: _ :: _, g => exact g.2.elim
  | _ :: _ :: _, [_], g => exact g.2.elim

section
variable {n b : Nat} {ρ0 ρv ρv' : VE} {ρ : Env} {S S' : Cells} {r : VR} {d : D} {st : Bool}
theorem AllO.allv (hr : Rel b ρv ρ S) : ∀ {rs : List VR} {ds xs : List D}, AllO n ρ0 ρ S rs ds → resL ρv rs = some xs → AllV S ds xs
  | [], [], xs, _, e => by cases e; trivial
  | r :: rs, d :: ds, xs, h, e => by
    unfold resL at e
    cases h1 : rsv ρv r with
    | none => rw [h1] at e; cases e
    | some x =>
      cases h2 : resL ρv rs with
      | none => rw [h1, h2] at e; cases e
      | some ys => rw [h1, h2] at e; cases e; exact ⟨h.1.v2 hr h1, AllO.allv hr h.2 h2⟩
  | [], _ :: _, _, h, _ => h.elim
  | _ :: _, [], _, h, _ => h.elim
theorem AllO.vals : ∀ {rs : List VR} {ds xs : List D}, AllO n ρ0 ρ S rs ds → valsV rs = some xs → ds = xs
  | [], [], xs, _, e => by cases e; rfl
  | .v x :: rs, d :: ds, xs, h, e => by
    unfold valsV at e
    cases h2 : valsV rs with
    | none => rw [h2] at e; cases e
    | some ys => rw [h2] at e; cases e; rw [AllO.vals h.2 h2, h.1.1]
  | .new _ :: _, _ :: _, _, _, e => by cases e
  | .loc _ :: _, _ :: _, _, _, e => by cases e
  | [], _ :: _, _, h, _ => h.elim
  | _ :: _, [], _, h, _ => h.elim

/-! ### changes -/
theorem grow_sim {ok : List D → Bool} {g : List D → List D} {o : List D → D} {f : List D → R D} (hr : Rel b ρv ρ S) (hn : n ≤ S.length) (h : RepO st n ρ0 ρ S r d)
    (hf : ∀ xs, ok xs = true → (o xs).nr = true → ∃ T, f xs = .ok (o xs) T) :
    SimE n b ρv ρ S (growV r ρv ok g o) (grow d S f g) (fun a d _ S' => RepO true n ρ0 ρ S' a d) := by
  cases r with
  | v x => trivial
  | new x => trivial
  | loc i =>
    obtain ⟨m, rfl, h2, h3⟩ := h
    unfold growV
    dsimp only
    cases hi : ρv[i]? with
    | none => trivial
    | some s =>
      cases s with
      | no => trivial
      | v _ => trivial
      | own p l x =>
        cases l with
        | lk => trivial
        | fz => trivial
        | mu =>
          cases x with
          | lst xs =>
            dsimp only
            cases hk : ok xs with
            | false => trivial
            | true =>
              show SimE _ _ _ _ _ (vl _ _) _ _
              unfold vl
              split
              · rename_i ho
                obtain ⟨k, q1, q2, q3, q4, q5⟩ := hr.own hi
                rw [h2] at q1; cases q1
                obtain ⟨T, e⟩ := hf xs hk ho
                refine ⟨o xs, _, ?_, .put hr hn hi h2 (d' := .lst (g xs)) (l' := .mu) rfl nofun, rfl, ho⟩
                unfold grow
                dsimp only
                rw [q2]
                dsimp only
                rw [e] <;> rfl
              · trivial
          | _ => trivial
theorem seti_sim {o i x : VR} {o' i' x' : D} (hr : Rel b ρv ρ S) (hb : Base n ρ0 ρ) (hs : ∀ i : Nat, SlSub ρ0[i]? ρv[i]?) (hn : n ≤ S.length) (ho : RepO true n ρ0 ρ S o o') (hi : RepO true n ρ0 ρ S i i') (hx : RepO true n ρ0 ρ S x x') :
    SimE n b ρv ρ S (setVV o i x ρv) (setV o' i' x' S) (fun a d _ S' => RepO true n ρ0 ρ S' a d) := by
  unfold setVV setV
  refine .bind (frz_sim hr hb hs hn hx.weak) fun y z ρ1 S1 st1 p => ?_
  obtain ⟨rfl, _, so⟩ := p
  cases o with
  | v x => trivial
  | new x => trivial
  | loc j =>
    obtain ⟨m, rfl, h2, h3⟩ := ho
    dsimp only
    cases hj : ρ1[j]? with
    | none => trivial
    | some s =>
      cases s with
      | no => trivial
      | v _ => trivial
      | own p l c =>
        cases l with
        | lk => trivial
        | fz => trivial
        | mu =>
          obtain ⟨k, q1, q2, q3, q4, q5⟩ := st1.rel.own hj
          rw [h2] at q1; cases q1
          rw [q2]
          cases c with
          | lst xs =>
            cases i with
            | new _ => trivial
            | loc _ => trivial
            | v iv =>
              cases hi.1
              cases i' with
              | int n =>
                dsimp only
                cases ha : atN xs.length n with
                | none => trivial
                | some k => exact ⟨.non, _, rfl, .put st1.rel st1.len hj h2 rfl nofun, rfl, rfl⟩
              | _ => trivial
          | dic ks vs =>
            cases i with
            | new _ => trivial
            | loc _ => trivial
            | v iv =>
              cases hi.1
              dsimp only
              cases ha : keyOf i' with
              | none => trivial
              | some k => exact .need fun _ => ⟨.non, _, rfl, .put st1.rel st1.len hj h2 rfl nofun, rfl, rfl⟩
          | _ => trivial
end
end VS

/-! VV, part E: methods, walks held, targets. -/
namespace VS
open PySem

section
variable {n b : Nat} {ρ0 ρv ρv' : VE} {ρ : Env} {S S' : Cells} {r : VR} {d : D} {st : Bool}
theorem RepO.rs {x : D} (h : RepO st n ρ0 ρ S r d) (hr : Rel b ρv ρ S) (e : rsv ρv r = some x) : x.nr = true := (h.v2 hr e).nr
theorem SimE.res {γ : Type} {f : D → V γ} {α : Type} {q : R α} {P : γ → α → VE → Cells → Prop} (h : ∀ x, rsv ρv r = some x → SimE n b ρv ρ S (f x) q P) : SimE n b ρv ρ S (V.res r ρv f) q P := .of h

theorem mth_sim {m : Mth} {o : VR} {o' : D} {rs : List VR} {ds : List D} (hr : Rel b ρv ρ S) (hb : Base n ρ0 ρ) (hs : ∀ i : Nat, SlSub ρ0[i]? ρv[i]?) (hn : n ≤ S.length) (ho : RepO true n ρ0 ρ S o o') (h : AllO n ρ0 ρ S rs ds) :
    SimE n b ρv ρ S (mthVV m o rs ρv) (mthV m o' ds S) (fun a d _ S' => RepO true n ρ0 ρ S' a d) := by
  have rest : ∀ m, (m = .index ∨ m = .get1 ∨ m = .get2 ∨ m = .pop1) → SimE n b ρv ρ S (V.res o ρv fun o => V.of (valsV rs) fun ds => ofR (mthV m o ds []) ρv) (mthV m o' ds S) (fun a d _ S' => RepO true n ρ0 ρ S' a d) := by
    intro m hm
    refine .res fun x hx => .of fun xs hxs => ?_
    have v := ho.v2 hr hx
    cases h.vals hxs
    rw [mth_res v hm]
    exact ofR_sim (mth_uni v.nr hm) hr hb hn
  cases m with
  | append =>
    match rs, ds, h with
    | [x], [y], h =>
      show SimE _ _ _ _ _ ((frzV x ρv).bind _) ((frz y S).bind _) _
      refine .bind (frz_sim hr hb hs hn h.1) fun z w ρ1 S1 st1 p => ?_
      obtain ⟨rfl, _, so⟩ := p
      have ho1 := ho.weak.soft so
      exact grow_sim st1.rel st1.len ho1 (f := fun xs => .need (decide (xs.length + 1 ≤ line)) (.ok .non S1)) fun xs hk _ => ⟨S1, by rw [hk] <;> rfl⟩
    | [], [], _ => trivial
    | _ :: _ :: _, _ :: _ :: _, _ => trivial
    | [], _ :: _, h => exact h.elim
    | _ :: _, [], h => exact h.elim
    | [_], _ :: _ :: _, h => exact h.2.elim
    | _ :: _ :: _, [_], h => exact h.2.elim
  | extend =>
    match rs, ds, h with
    | [x], [y], h =>
      refine .res fun z hz => ?_
      have v := h.1.v2 hr hz
      show SimE _ _ _ _ _ _ (one y S _) _
      rw [one_res v]
      unfold one
      rw [val_nr v.nr]
      cases z with
      | lst ys => exact grow_sim hr hn ho (f := fun xs => .need (decide (xs.length + ys.length ≤ line)) (.ok .non S)) fun xs hk _ => ⟨S, by rw [hk] <;> rfl⟩
      | _ => trivial
    | [], [], _ => trivial
    | _ :: _ :: _, _ :: _ :: _, _ => trivial
    | [], _ :: _, h => exact h.elim
    | _ :: _, [], h => exact h.elim
    | [_], _ :: _ :: _, h => exact h.2.elim
    | _ :: _ :: _, [_], h => exact h.2.elim
  | pop0 =>
    match rs, ds, h with
    | [.v (.int i)], [y], h =>
      cases h.1.1
      show SimE _ _ _ _ _ (V.need (decide (i = 0)) _) (if i = 0 then _ else _) _
      by_cases c : i = 0
      · rw [if_pos c, decide_eq_true c]
        refine grow_sim hr hn ho (f := fun xs => match xs with | x :: _ => .ok x S | [] => .stuck) fun xs hk _ => ?_
        cases xs with
        | nil => cases hk
        | cons x xs => exact ⟨S, rfl⟩
      · rw [decide_eq_false c]; trivial
    | [.v .non], [_], _ | [.v (.bl _)], [_], _ | [.v (.str _)], [_], _ | [.v (.tup _)], [_], _ | [.v (.lst _)], [_], _ | [.v (.dic _ _)], [_], _ | [.v (.ref _)], [_], _ | [.v (.glo _)], [_], _ | [.v (.ty _)], [_], _ | [.v (.scr _)], [_], _ => trivial
    | [.new _], [_], _ => trivial
    | [.loc _], [_], _ => trivial
    | [], [], _ => trivial
    | x :: _ :: _, _ :: _ :: _, _ => cases x with
      | v x => cases x <;> trivial
      | _ => trivial
    | [], _ :: _, h => exact h.elim
    | _ :: _, [], h => exact h.elim
    | [_], _ :: _ :: _, h => exact h.2.elim
    | _ :: _ :: _, [_], h => exact h.2.elim
  | reverse =>
    match rs, ds, h with
    | [], [], _ => exact grow_sim hr hn ho (f := fun _ => .ok .non S) fun xs _ _ => ⟨S, rfl⟩
    | _ :: _, _ :: _, _ => trivial
    | [], _ :: _, h => exact h.elim
    | _ :: _, [], h => exact h.elim
  | join =>
    refine .res fun x hx => .of fun xs hxs => ?_
    have v := ho.v2 hr hx
    have w := h.allv hr hxs
    rw [join_res v w]
    exact ofR_sim (join_uni w.nr) hr hb hn
  | index => exact rest _ (.inl rfl)
  | get1 => exact rest _ (.inr (.inl rfl))
  | get2 => exact rest _ (.inr (.inr (.inl rfl)))
  | pop1 => exact rest _ (.inr (.inr (.inr rfl)))

/-! ### walks -/
theorem StE.cut (hr : Rel b ρv ρ S) (hb : Base n ρv ρ) (h1 : b ≤ n) (h2 : n ≤ S.length) : StE n b ρv ρv ρ S (S.take n) :=
  ⟨hr.take hb h1 h2, fun _ => .refl _, fun m q _ => List.getElem?_take_of_lt q, by rw [List.length_take]; omega⟩
def Held (ρv : VE) (ρ : Env) (ρv' : VE) (o o' : Option Nat) : Prop :=
  match o with
  | none => o' = none
  | some i => ∃ m p xs l0 d0, o' = some m ∧ ρ[i]? = some (some (.ref m)) ∧ ρv'[i]? = some (.own p .lk xs) ∧ ρv[i]? = some (.own p l0 d0) ∧ l0 ≠ .lk
theorem Held.back {ρv1 : VE} {o o' : Option Nat} (h : Held ρv1 ρ ρv' o o') (g : ∀ i : Nat, SlSub ρv[i]? ρv1[i]?) : Held ρv ρ ρv' o o' := by
  cases o with
  | none => exact h
  | some i =>
    obtain ⟨m, p, xs, l0, d0, h1, h2, h3, h4, h5⟩ := h
    have q := g i
    rw [h4] at q
    rcases q with q | ⟨p', l', d', q1, ⟨l2, d2, q2, q3⟩ | ⟨q2, _⟩⟩
    · exact ⟨m, p, xs, l0, d0, h1, h2, h3, q.symm, h5⟩
    · cases q2; exact ⟨m, p, xs, l', d', h1, h2, h3, q1, fun z => h5 (q3 z)⟩
    · cases q2
theorem hold_sim (hr : Rel b ρv ρ S) (hb : Base n ρ0 ρ) (hs : ∀ i : Nat, SlSub ρ0[i]? ρv[i]?) (h1 : b ≤ n) (hn : n ≤ S.length) (h : RepO true n ρ0 ρ S r d) :
    SimE n b ρv ρ S (holdV r ρv) (hold n d S) (fun w w' ρv' S' => w'.1 = w.1 ∧ S'.length = n ∧ Held ρv ρ ρv' w.2 w'.2) := by
  have hb' : Base n ρv ρ := hb.sub hs
  have tl : (S.take n).length = n := by rw [List.length_take]; omega
  cases r with
  | v x =>
    obtain ⟨rfl, _⟩ := h
    cases d with
    | lst xs => exact ⟨_, _, rfl, .cut hr hb' h1 hn, rfl, tl, rfl⟩
    | tup xs => exact ⟨_, _, rfl, .cut hr hb' h1 hn, rfl, tl, rfl⟩
    | str xs => exact ⟨_, _, rfl, .cut hr hb' h1 hn, rfl, tl, rfl⟩
    | _ => trivial
  | new x =>
    obtain ⟨m, l, rfl, h2, h3, h4, h5, h6, h7⟩ := h
    cases h4 rfl
    cases x with
    | lst xs =>
      refine ⟨(xs, none), _, ?_, .cut hr hb' h1 hn, rfl, tl, rfl⟩
      unfold hold
      dsimp only
      rw [h2]
      dsimp only
      rw [if_neg (by omega)]
    | _ => trivial
  | loc i =>
    obtain ⟨m, rfl, h2, h3⟩ := h
    unfold holdV hold
    dsimp only
    cases hi : ρv[i]? with
    | none => trivial
    | some s =>
      cases s with
      | no => trivial
      | v _ => trivial
      | own p l x =>
        obtain ⟨k, q1, q2, q3, q4, q5⟩ := hr.own hi
        rw [h2] at q1; cases q1
        have hm := hb m h3
        cases l with
        | fz => cases x <;> trivial
        | mu =>
          cases x with
          | lst xs =>
            rw [q2]
            dsimp only
            rw [if_pos hm]
            have c := StE.cut hr hb' h1 hn
            exact ⟨_, _, rfl, c.trans (.put c.rel (by omega) hi h2 rfl nofun), rfl, by rw [List.length_set]; exact tl, m, p, _, .mu, _, rfl, h2, by rw [ve_get_set (ve_lt hi), if_pos rfl], hi, nofun⟩
          | _ => trivial
        | lk =>
          cases x with
          | lst xs => rw [q2]; exact ⟨_, _, rfl, .cut hr hb' h1 hn, rfl, tl, rfl⟩
          | _ => trivial
theorem holdL_sim (hr : Rel b ρv ρ S) (hb : Base n ρ0 ρ) (hs : ∀ i : Nat, SlSub ρ0[i]? ρv[i]?) (h1 : b ≤ n) (hn : n ≤ S.length) (h : RepO true n ρ0 ρ S r d) :
    SimE n b ρv ρ S (holdVL r ρv) (holdL n d S) (fun w w' ρv' S' => w'.1 = w.1 ∧ S'.length = n ∧ Held ρv ρ ρv' w.2 w'.2) := by
  have := hold_sim hr hb hs h1 hn h
  cases r with
  | v x =>
    cases h.1
    cases d with
    | lst xs => exact this
    | _ => trivial
  | new x =>
    obtain ⟨m, l, rfl, _⟩ := h
    cases x with
    | lst xs => exact this
    | _ => trivial
  | loc i => obtain ⟨m, rfl, _⟩ := h; exact this
theorem free_sim {o o' : Option Nat} {ρ1 ρ2 ρ3 : VE} {S2 : Cells} (st : StE n b ρv ρ2 ρ S S2) (hh : Held ρv ρ ρ1 o o') (hs : ∀ i : Nat, SlSub ρ1[i]? ρ2[i]?) (e : freeV o ρ2 = some ρ3) :
    ∃ S3, free o' S2 = some S3 ∧ StE n b ρv ρ3 ρ S S3 ∧ S3.length = S2.length := by
  cases o with
  | none => cases e; cases hh; exact ⟨S2, rfl, st, rfl⟩
  | some i =>
    obtain ⟨m, p, xs, l0, d0, rfl, h2, h3, h4, h5⟩ := hh
    unfold freeV at e
    dsimp only at e
    split at e
    · rename_i p2 d2 hi
      cases e
      obtain ⟨k, q1, q2, q3, q4, q5⟩ := st.rel.own hi
      rw [h2] at q1; cases q1
      refine ⟨S2.set m ⟨.mu, d2⟩, by unfold free; dsimp only; rw [q2], ?_, List.length_set⟩
      refine ⟨st.rel.put hi h2 q5, fun j => ?_, fun k hk ho => ?_, by rw [List.length_set]; exact st.len⟩
      · rw [ve_get_set (ve_lt hi)]
        by_cases c : i = j
        · subst c
          rw [if_pos rfl]
          have q := hs i
          rw [h3, hi] at q
          have : p2 = p := by
            rcases q with q | ⟨_, _, _, q1, ⟨_, _, q2, _⟩ | ⟨q2, _⟩⟩
            · cases q; rfl
            · cases q1; cases q2; rfl
            · cases q2
          subst this
          rw [h4]
          exact .inr ⟨_, _, _, rfl, .inl ⟨_, _, rfl, fun z => absurd z h5⟩⟩
        · rw [if_neg c]; exact st.sub j
      · rw [List.getElem?_set_ne]
        · exact st.fr k hk ho
        · intro z; subst z; exact ho ⟨i, _, _, _, h4, h2⟩
    · cases e
end
end VS

/-! VV, part F: slots set, scopes, calls. -/
namespace VS
open PySem

def Putable (s : Option Sl) : Prop := s = some .no ∨ (∃ d, s = some (.v d)) ∨ ∃ d, s = some (.own false .mu d)
theorem putSl_ok {i : Nat} {s : Sl} {ρ ρ' : VE} (h : putSl i s ρ = some ρ') : Putable ρ[i]? ∧ ρ' = ρ.set i s := by
  unfold putSl at h
  split at h
  · rename_i e; cases h; exact ⟨.inl e, rfl⟩
  · rename_i e; cases h; exact ⟨.inr (.inl ⟨_, e⟩), rfl⟩
  · rename_i e; cases h; exact ⟨.inr (.inr ⟨_, e⟩), rfl⟩
  · cases h
theorem Putable.lt {ρ : VE} {i : Nat} (h : Putable ρ[i]?) : i < ρ.length := by
  rcases h with h | ⟨d, h⟩ | ⟨d, h⟩ <;> exact ve_lt h
theorem env_get_set {ρ : Env} {i j : Nat} {s : Option D} (h : i < ρ.length) : (ρ.set i s)[j]? = if i = j then some s else ρ[j]? := by
  rw [List.getElem?_set]
  by_cases c : i = j
  · simp [c, h]; omega
  · simp [c]
section
variable {n b : Nat} {ρ0 ρv ρv' : VE} {ρ : Env} {S S' : Cells} {r : VR} {d : D} {st : Bool}
theorem Rel.setv {i : Nat} (hr : Rel b ρv ρ S) (hi : i < ρv.length) (hd : d.nr = true) : Rel b (ρv.set i (.v d)) (ρ.set i (some d)) S := by
  have hi' : i < ρ.length := by rw [← hr.len]; exact hi
  have G : ∀ {j : Nat} {s : Sl}, (ρv.set i (.v d))[j]? = some s → (i = j ∧ s = .v d) ∨ (i ≠ j ∧ ρv[j]? = some s) := by
    intro j s q
    rw [ve_get_set hi] at q
    by_cases c : i = j
    · rw [if_pos c] at q; cases q; exact .inl ⟨c, rfl⟩
    · rw [if_neg c] at q; exact .inr ⟨c, q⟩
  refine ⟨by simp [hr.len], hr.base, fun {j e} q => ?_, fun {j p l e} q => ?_, fun {j k p1 p2 l1 l2 d1 d2 m} q1 q2 q3 q4 => ?_⟩
  · rw [env_get_set hi']
    rcases G q with ⟨rfl, z⟩ | ⟨c, q⟩
    · cases z; exact ⟨if_pos rfl, hd⟩
    · rw [if_neg c]; exact hr.v q
  · rw [env_get_set hi']
    rcases G q with ⟨rfl, z⟩ | ⟨c, q⟩
    · cases z
    · rw [if_neg c]; exact hr.own q
  · rw [env_get_set hi'] at q3 q4
    rcases G q1 with ⟨rfl, z⟩ | ⟨c, q1⟩
    · cases z
    · rcases G q2 with ⟨rfl, z⟩ | ⟨c', q2⟩
      · cases z
      · rw [if_neg c] at q3; rw [if_neg c'] at q4; exact hr.inj q1 q2 q3 q4
theorem Rel.setnew {i m : Nat} (hr : Rel b ρv ρ S) (hi : i < ρv.length) (hd : isLD d = true) (hm : S[m]? = some ⟨.mu, d⟩) (hb : b ≤ m) (ho : ¬ Own ρv ρ m) : Rel b (ρv.set i (.own false .mu d)) (ρ.set i (some (.ref m))) S := by
  have hi' : i < ρ.length := by rw [← hr.len]; exact hi
  have G : ∀ {j : Nat} {s : Sl}, (ρv.set i (.own false .mu d))[j]? = some s → (i = j ∧ s = .own false .mu d) ∨ (i ≠ j ∧ ρv[j]? = some s) := by
    intro j s q
    rw [ve_get_set hi] at q
    by_cases c : i = j
    · rw [if_pos c] at q; cases q; exact .inl ⟨c, rfl⟩
    · rw [if_neg c] at q; exact .inr ⟨c, q⟩
  refine ⟨by simp [hr.len], hr.base, fun {j e} q => ?_, fun {j p l e} q => ?_, fun {j k p1 p2 l1 l2 d1 d2 m'} q1 q2 q3 q4 => ?_⟩
  · rw [env_get_set hi']
    rcases G q with ⟨rfl, z⟩ | ⟨c, q⟩
    · cases z
    · rw [if_neg c]; exact hr.v q
  · rw [env_get_set hi']
    rcases G q with ⟨rfl, z⟩ | ⟨c, q⟩
    · cases z; exact ⟨m, if_pos rfl, hm, nofun, fun _ => hb, hd⟩
    · rw [if_neg c]; exact hr.own q
  · rw [env_get_set hi'] at q3 q4
    rcases G q1 with ⟨rfl, z⟩ | ⟨c, q1⟩
    · rw [if_pos rfl] at q3
      rcases G q2 with ⟨rfl, z'⟩ | ⟨c', q2⟩
      · rfl
      · rw [if_neg c'] at q4; cases q3; exact absurd ⟨k, _, _, _, q2, q4⟩ ho
    · rw [if_neg c] at q3
      rcases G q2 with ⟨rfl, z'⟩ | ⟨c', q2⟩
      · rw [if_pos rfl] at q4; cases q4; exact absurd ⟨j, _, _, _, q1, q3⟩ ho
      · rw [if_neg c'] at q4; exact hr.inj q1 q2 q3 q4
/-- the slots `is` set to values -/
def Ch (is : List Nat) (ρv : VE) (ρ : Env) (ρv' : VE) (ρ' : Env) : Prop :=
  ∀ i : Nat, (i ∉ is → ρv'[i]? = ρv[i]? ∧ ρ'[i]? = ρ[i]?) ∧ (i ∈ is → (∃ d, ρv'[i]? = some (.v d)) ∧ Putable ρv[i]?)
theorem putD_sim {i : Nat} (hr : Rel b ρv ρ S) (h : putD i d ρv = some ρv') : Rel b ρv' (ρ.set i (some d)) S ∧ Ch [i] ρv ρ ρv' (ρ.set i (some d)) := by
  unfold putD at h
  split at h
  · rename_i hd
    obtain ⟨h1, rfl⟩ := putSl_ok h
    have hi := h1.lt
    refine ⟨hr.setv hi hd, fun j => ⟨fun z => ?_, fun z => ?_⟩⟩
    · have : i ≠ j := fun e => z (by simp [e])
      rw [ve_get_set hi, if_neg this, env_get_set (by rw [← hr.len]; exact hi), if_neg this]
      exact ⟨rfl, rfl⟩
    · have : j = i := by simpa using z
      subst this
      rw [ve_get_set hi, if_pos rfl]
      exact ⟨⟨d, rfl⟩, h1⟩
  · cases h
theorem Ch.cons {i : Nat} {is : List Nat} {ρv1 ρv2 : VE} {ρ1 ρ2 : Env} (h : Ch [i] ρv ρ ρv1 ρ1) (g : Ch is ρv1 ρ1 ρv2 ρ2) : Ch (i :: is) ρv ρ ρv2 ρ2 := by
  intro j
  refine ⟨fun z => ?_, fun z => ?_⟩
  · rw [List.mem_cons, not_or] at z
    obtain ⟨a1, a2⟩ := (g j).1 z.2
    obtain ⟨b1, b2⟩ := (h j).1 (by simp [z.1])
    exact ⟨a1.trans b1, a2.trans b2⟩
  · by_cases c : j ∈ is
    · obtain ⟨a1, a2⟩ := (g j).2 c
      refine ⟨a1, ?_⟩
      by_cases c' : j = i
      · subst c'; exact ((h j).2 (by simp)).2
      · rw [← ((h j).1 (by simp [c'])).1]; exact a2
    · obtain ⟨a1, a2⟩ := (g j).1 c
      have : j = i := by rcases List.mem_cons.mp z with z | z; exact z; exact absurd z c
      subst this
      obtain ⟨b1, b2⟩ := (h j).2 (by simp)
      rw [a1]
      exact ⟨b1, b2⟩
theorem asgs_sim : ∀ {is : List Nat} {ds : List D} {ρv ρv' : VE} {ρ : Env}, Rel b ρv ρ S → asgsV is ds ρv = some ρv' → ∃ ρ', asgs is ds ρ = some ρ' ∧ Rel b ρv' ρ' S ∧ Ch is ρv ρ ρv' ρ'
  | [], [], ρv, ρv', ρ, hr, h => by cases h; exact ⟨ρ, rfl, hr, fun i => ⟨fun _ => ⟨rfl, rfl⟩, fun z => nomatch z⟩⟩
  | i :: is, d :: ds, ρv, ρv', ρ, hr, h => by
    unfold asgsV at h
    cases h1 : putD i d ρv with
    | none => rw [h1] at h; cases h
    | some ρv1 =>
      rw [h1] at h
      obtain ⟨hr1, c1⟩ := putD_sim hr h1
      obtain ⟨ρ', e, hr2, c2⟩ := asgs_sim hr1 h
      exact ⟨ρ', e, hr2, c1.cons c2⟩
  | [], _ :: _, _, _, _, _, h => by cases h
  | _ :: _, [], _, _, _, _, h => by cases h
def Tg.is : Tg → List Nat | .v i => [i] | .tup is => is
theorem asg_sim {tg : Tg} (hr : Rel b ρv ρ S) (h : asgV tg d ρv = some ρv') : ∃ ρ', asg tg d ρ = some ρ' ∧ Rel b ρv' ρ' S ∧ Ch tg.is ρv ρ ρv' ρ' := by
  cases tg with
  | v i => obtain ⟨h1, h2⟩ := putD_sim hr h; exact ⟨_, rfl, h1, h2⟩
  | tup is =>
    cases d with
    | tup ds => exact asgs_sim hr h
    | _ => cases h

theorem memN_iff {i : Nat} : ∀ {w : List Nat}, memN i w = true ↔ i ∈ w
  | [] => by simp [memN]
  | j :: w => by simp [memN, memN_iff (w := w)]
theorem tgIn_iff {tg : Tg} {w : List Nat} (h : tgIn tg w = true) : ∀ i ∈ tg.is, i ∈ w := by
  cases tg with
  | v i => intro j hj; rw [show j = i by simpa [Tg.is] using hj]; exact memN_iff.mp h
  | tup is => intro j hj; exact memN_iff.mp (List.all_eq_true.mp h j hj)

/-! ### scopes -/
theorem wipeV_len : ∀ {w : List Nat}, (wipeV ρv w).length = ρv.length
  | [] => rfl
  | v :: vs => by show ((wipeV ρv vs).set v .no).length = _; rw [List.length_set, wipeV_len]
theorem wipeV_get {i : Nat} (hi : i < ρv.length) : ∀ {w : List Nat}, (wipeV ρv w)[i]? = if i ∈ w then some .no else ρv[i]?
  | [] => by simp [wipeV]
  | v :: vs => by
    show ((wipeV ρv vs).set v .no)[i]? = _
    rw [List.getElem?_set, wipeV_get hi]
    by_cases c : v = i
    · subst c; simp [wipeV_len, hi]
    · have : i ≠ v := fun e => c e.symm
      simp [c, this]
theorem wipeE_len : ∀ {w : List Nat}, (wipeE ρ w).length = ρ.length
  | [] => rfl
  | v :: vs => by show ((wipeE ρ vs).set v none).length = _; rw [List.length_set, wipeE_len]
theorem wipeE_get {i : Nat} (hi : i < ρ.length) : ∀ {w : List Nat}, (wipeE ρ w)[i]? = if i ∈ w then some none else ρ[i]?
  | [] => by simp [wipeE]
  | v :: vs => by
    show ((wipeE ρ vs).set v none)[i]? = _
    rw [List.getElem?_set, wipeE_get hi]
    by_cases c : v = i
    · subst c; simp [wipeE_len, hi]
    · have : i ≠ v := fun e => c e.symm
      simp [c, this]
theorem resto_len {ρ1 : VE} : ∀ {w : List Nat}, (resto ρv ρ1 w).length = ρ1.length
  | [] => rfl
  | v :: vs => by show ((resto ρv ρ1 vs).set v _).length = _; rw [List.length_set, resto_len]
theorem resto_get {ρ1 : VE} {i : Nat} (hi : i < ρ1.length) (hl : ρ1.length = ρv.length) : ∀ {w : List Nat}, (resto ρv ρ1 w)[i]? = if i ∈ w then ρv[i]? else ρ1[i]?
  | [] => by simp [resto]
  | v :: vs => by
    show ((resto ρv ρ1 vs).set v _)[i]? = _
    rw [List.getElem?_set, resto_get hi hl]
    by_cases c : v = i
    · subst c
      have : v < ρv.length := by omega
      simp [resto_len, hi, List.getD, this]
    · have : i ≠ v := fun e => c e.symm
      simp [c, this]
theorem Rel.wipe {w : List Nat} (hr : Rel b ρv ρ S) : Rel b (wipeV ρv w) (wipeE ρ w) S := by
  have G : ∀ {j : Nat} {s : Sl}, (wipeV ρv w)[j]? = some s → s ≠ .no → ρv[j]? = some s ∧ (wipeE ρ w)[j]? = ρ[j]? := by
    intro j s q z
    have hj : j < ρv.length := by have := ve_lt q; rwa [wipeV_len] at this
    rw [wipeV_get hj] at q
    rw [wipeE_get (by rw [← hr.len]; exact hj)]
    by_cases c : j ∈ w
    · rw [if_pos c] at q; cases q; exact absurd rfl z
    · rw [if_neg c] at q; exact ⟨q, if_neg c⟩
  refine ⟨by rw [wipeV_len, wipeE_len]; exact hr.len, hr.base, fun {j e} q => ?_, fun {j p l e} q => ?_, fun {j k p1 p2 l1 l2 d1 d2 m} q1 q2 q3 q4 => ?_⟩
  · obtain ⟨a, c⟩ := G q nofun; rw [c]; exact hr.v a
  · obtain ⟨a, c⟩ := G q nofun; rw [c]; exact hr.own a
  · obtain ⟨a, c⟩ := G q1 nofun
    obtain ⟨a', c'⟩ := G q2 nofun
    rw [c] at q3; rw [c'] at q4
    exact hr.inj a a' q3 q4
/-- a turn's scope, from its beginning to its end -/
theorem scope_sim {tg : Tg} {w : List Nat} {x : D} {ρ2 : VE} (hr : Rel b ρv ρ S) (hn : n ≤ S.length) (ht : tgIn tg w = true) (h : asgV tg x (wipeV ρv w) = some ρ2) :
    ∃ ρ', asg tg x (wipeE ρ w) = some ρ' ∧ Rel b ρ2 ρ' S ∧ (Base n ρv ρ → Base n ρ2 ρ') ∧ ∀ ρ3 S3, StE n b ρ2 ρ3 ρ' S S3 → S3.length = S.length → StE S.length b ρ2 ρ3 ρ' S S3 → StE n b ρv (resto ρv ρ3 w) ρ S S3 := by
  obtain ⟨ρ', e, hr2, c⟩ := asg_sim hr.wipe h
  have tin := tgIn_iff ht
  have len2 : ρ2.length = ρv.length := by
    rw [hr2.len]
    have e1 := (hr.wipe (w := w)).len
    have : ρ'.length = (wipeE ρ w).length := by
      clear c hr2
      cases tg with
      | v i => cases e; rw [List.length_set]
      | tup is =>
        cases x with
        | tup ds =>
          have al : ∀ {is : List Nat} {ds : List D} {ρ ρ' : Env}, asgs is ds ρ = some ρ' → ρ'.length = ρ.length := by
            intro is
            induction is with
            | nil => intro ds ρ ρ' e; cases ds with
              | nil => cases e; rfl
              | cons _ _ => cases e
            | cons i is ih => intro ds ρ ρ' e; cases ds with
              | nil => cases e
              | cons d ds => exact (ih e).trans List.length_set
          exact al e
        | _ => cases e
    rw [this, ← e1, wipeV_len]
  -- what owns in the scope owned ahead
  have K : ∀ {i : Nat} {p l d}, ρ2[i]? = some (.own p l d) → i ∉ w ∧ ρv[i]? = some (.own p l d) ∧ ρ'[i]? = ρ[i]? := by
    intro i p l d q
    have hi : i < ρv.length := by have := ve_lt q; omega
    by_cases c1 : i ∈ tg.is
    · obtain ⟨⟨y, z⟩, _⟩ := (c i).2 c1; rw [z] at q; cases q
    · obtain ⟨z1, z2⟩ := (c i).1 c1
      rw [z1, wipeV_get hi] at q
      by_cases c2 : i ∈ w
      · rw [if_pos c2] at q; cases q
      · rw [if_neg c2] at q
        rw [wipeE_get (by rw [← hr.len]; exact hi), if_neg c2] at z2
        exact ⟨c2, q, z2⟩
  have O : ∀ {m : Nat}, Own ρ2 ρ' m → Own ρv ρ m := by
    rintro m ⟨i, p, l, d, h1, h2⟩
    obtain ⟨_, q1, q2⟩ := K h1
    exact ⟨i, p, l, d, q1, by rw [← q2]; exact h2⟩
  refine ⟨ρ', e, hr2, fun hb m o => hb m (O o), fun ρ3 S3 st hl stl => ?_⟩
  have len3 : ρ3.length = ρv.length := by rw [st.rel.len, ← hr2.len]; exact len2
  -- slots not in w
  have N : ∀ {i : Nat}, i ∉ w → i < ρv.length → ρ2[i]? = ρv[i]? ∧ ρ'[i]? = ρ[i]? := by
    intro i c1 hi
    have c2 : i ∉ tg.is := fun z => c1 (tin i z)
    obtain ⟨z1, z2⟩ := (c i).1 c2
    rw [wipeV_get hi, if_neg c1] at z1
    rw [wipeE_get (by rw [← hr.len]; exact hi), if_neg c1] at z2
    exact ⟨z1, z2⟩
  have R : ∀ {i : Nat} {s : Sl}, (resto ρv ρ3 w)[i]? = some s → (i ∈ w ∧ ρv[i]? = some s) ∨ (i ∉ w ∧ ρ3[i]? = some s ∧ i < ρv.length) := by
    intro i s q
    have hi : i < ρ3.length := by have := ve_lt q; rwa [resto_len] at this
    rw [resto_get hi len3] at q
    by_cases c1 : i ∈ w
    · rw [if_pos c1] at q; exact .inl ⟨c1, q⟩
    · rw [if_neg c1] at q; exact .inr ⟨c1, q, by omega⟩
  have own3 : ∀ {i : Nat} {p l d}, i ∉ w → i < ρv.length → ρ3[i]? = some (.own p l d) → ∃ l' d', ρv[i]? = some (.own p l' d') ∧ ρ'[i]? = ρ[i]? := by
    intro i p l d c1 hi q
    have z := st.sub i
    rw [q] at z
    obtain ⟨l', d', z⟩ := z.own
    obtain ⟨_, q1, q2⟩ := K z
    exact ⟨l', d', q1, q2⟩
  have sub : ∀ i : Nat, SlSub ρv[i]? (resto ρv ρ3 w)[i]? := by
    intro i
    by_cases hi : i < ρ3.length
    · rw [resto_get hi len3]
      by_cases c1 : i ∈ w
      · rw [if_pos c1]; exact .refl _
      · rw [if_neg c1]
        have := st.sub i
        rwa [(N c1 (by omega)).1] at this
    · rw [List.getElem?_eq_none (by omega), List.getElem?_eq_none (by rw [resto_len]; omega)]; exact .refl _
  refine ⟨⟨?_, by rw [hl]; exact hr.base, fun {i e} q => ?_, fun {i p l e} q => ?_, fun {i j p1 p2 l1 l2 d1 d2 m} q1 q2 q3 q4 => ?_⟩, sub, fun m q1 q2 => st.fr m q1 fun o => q2 (O o), by omega⟩
  · rw [resto_len, len3]; exact hr.len
  · rcases R q with ⟨_, q⟩ | ⟨c1, q, hi⟩
    · exact hr.v q
    · rw [← (N c1 hi).2]; exact st.rel.v q
  · rcases R q with ⟨c1, q⟩ | ⟨c1, q, hi⟩
    · obtain ⟨m, z1, z2, z3⟩ := hr.own q
      refine ⟨m, z1, ?_, z3⟩
      rw [stl.fr m (lt_of_get z2) ?_]
      · exact z2
      · rintro ⟨j, p', l', d', y1, y2⟩
        obtain ⟨x1, x2, x3⟩ := K y1
        rw [x3] at y2
        have := hr.inj q x2 z1 y2
        subst this
        exact x1 c1
    · rw [← (N c1 hi).2]; exact st.rel.own q
  · have A : ∀ {i : Nat} {p l d}, (resto ρv ρ3 w)[i]? = some (.own p l d) → ∃ l' d', ρv[i]? = some (.own p l' d') := fun {i p l d} q => by
      have := sub i; rw [q] at this; exact this.own
    obtain ⟨_, _, a1⟩ := A q1
    obtain ⟨_, _, a2⟩ := A q2
    exact hr.inj a1 a2 q3 q4
end
end VS

/-! VV, part G: calls. -/
namespace VS
open PySem

/-- what is handed in -/
def RelP (S : Cells) : List Sl → List D → Prop
  | [], [] => True
  | .v x :: sls, d :: ds => d = x ∧ x.nr = true ∧ RelP S sls ds
  | .own p l x :: sls, d :: ds => p = true ∧ (∃ m, d = .ref m ∧ S[m]? = some ⟨l, x⟩ ∧ isLD x = true) ∧ RelP S sls ds
  | _, _ => False
def parRefs : List Sl → List D → List Nat
  | .own _ _ _ :: sls, .ref m :: ds => m :: parRefs sls ds
  | .v _ :: sls, _ :: ds => parRefs sls ds
  | _, _ => []
/-- what comes back -/
def PostP (S' : Cells) : List Sl → List D → List Sl → Prop
  | [], [], [] => True
  | .v _ :: sls, _ :: ds, sl' => PostP S' sls ds sl'
  | .own _ l _ :: sls, .ref m :: ds, .own p l' d' :: sl' => p = true ∧ S'[m]? = some ⟨l', d'⟩ ∧ (l = .lk → l' = .lk) ∧ isLD d' = true ∧ PostP S' sls ds sl'
  | _, _, _ => False
def RepR (n : Nat) (S' : Cells) (r : VR) (d : D) : Prop :=
  match r with
  | .v x => d = x ∧ x.nr = true ∧ S'.length = n
  | .new x => d = .ref n ∧ S'.length = n + 1 ∧ S'[n]? = some ⟨.mu, x⟩ ∧ isLD x = true
  | .loc _ => False
def SimC1 (sls : List Sl) (ds : List D) (S : Cells) (v : V VR) (r : R D) : Prop :=
  match v with
  | .ok a sl' => ∃ d S', r = .ok d S' ∧ PostP S' sls ds sl' ∧ (∀ m : Nat, m < S.length → m ∉ parRefs sls ds → S'[m]? = S[m]?) ∧ RepR S.length S' a d
  | .exn x sl' => ∃ S', r = .exn x S' ∧ PostP S' sls ds sl' ∧ (∀ m : Nat, m < S.length → m ∉ parRefs sls ds → S'[m]? = S[m]?) ∧ S.length ≤ S'.length
  | .no => True
def SimC (Φv : CallV) (Φ : CallF) : Prop := ∀ f sls ds S, RelP S sls ds → (parRefs sls ds).Nodup → SimC1 sls ds S (Φv f sls) (Φ f ds S)

/-- operands, one behind the other -/
def RepL (n : Nat) (ρ0 : VE) (ρ : Env) (S : Cells) : List VR → List D → Prop
  | [], [] => True
  | r :: rs, d :: ds => RepO true n ρ0 ρ S r d ∧ ∃ n1, n ≤ n1 ∧ (∀ x m, r = .new x → d = .ref m → m < n1) ∧ RepL n1 ρ0 ρ S rs ds
  | _, _ => False
section
variable {n b : Nat} {ρ0 ρv ρv' : VE} {ρ : Env} {S S' : Cells} {r : VR} {d : D} {st : Bool}
theorem RepL.step {n' : Nat} (g : StE n' b ρv ρv' ρ S S') (hn : S.length ≤ n') (hs : ∀ i : Nat, SlSub ρ0[i]? ρv[i]?) : ∀ {n : Nat} {rs : List VR} {ds : List D}, RepL n ρ0 ρ S rs ds → RepL n ρ0 ρ S' rs ds
  | _, [], [], _ => trivial
  | _, _ :: _, _ :: _, ⟨h1, n1, h2, h3, h4⟩ => ⟨h1.step g hn hs, n1, h2, h3, RepL.step g hn hs h4⟩
  | _, [], _ :: _, h => h.elim
  | _, _ :: _, [], h => h.elim
theorem RepL.back {ρ1 : VE} (hs : ∀ i : Nat, SlSub ρ0[i]? ρ1[i]?) : ∀ {n : Nat} {rs : List VR} {ds : List D}, Base n ρ0 ρ → RepL n ρ1 ρ S rs ds → RepL n ρ0 ρ S rs ds
  | _, [], [], _, _ => trivial
  | _, _ :: _, _ :: _, hb, ⟨h1, n1, h2, h3, h4⟩ => ⟨h1.back hb hs, n1, h2, h3, RepL.back hs (fun m o => by have := hb m o; omega) h4⟩
  | _, [], _ :: _, _, h => h.elim
  | _, _ :: _, [], _, h => h.elim
theorem RepL.allO : ∀ {n n0 : Nat} {rs : List VR} {ds : List D}, n0 ≤ n → RepL n ρ0 ρ S rs ds → AllO n0 ρ0 ρ S rs ds
  | _, _, [], [], _, _ => trivial
  | _, _, _ :: _, _ :: _, hn, ⟨h1, n1, h2, h3, h4⟩ => ⟨h1.weak.mono hn, RepL.allO (Nat.le_trans hn h2) h4⟩
  | _, _, [], _ :: _, _, h => h.elim
  | _, _, _ :: _, [], _, h => h.elim

def locs : List VR → List Nat
  | [] => []
  | .loc i :: rs => i :: locs rs
  | _ :: rs => locs rs
theorem locIn_iff {i : Nat} : ∀ {rs : List VR}, locIn i rs = true ↔ i ∈ locs rs
  | [] => by simp [locIn, locs]
  | .v _ :: rs => by simp [locIn, locs, locIn_iff (rs := rs)]
  | .new _ :: rs => by simp [locIn, locs, locIn_iff (rs := rs)]
  | .loc j :: rs => by simp [locIn, locs, locIn_iff (rs := rs)]
theorem ndl_iff : ∀ {rs : List VR}, ndl rs = true → (locs rs).Nodup
  | [], _ => List.nodup_nil
  | .v _ :: rs, h => ndl_iff (rs := rs) h
  | .new _ :: rs, h => ndl_iff (rs := rs) h
  | .loc j :: rs, h => by
    unfold ndl at h
    rw [Bool.and_eq_true, Bool.not_eq_true'] at h
    refine List.nodup_cons.mpr ⟨fun z => ?_, ndl_iff h.2⟩
    rw [locIn_iff.mpr z] at h
    cases h.1
/-- the arguments as slots -/
theorem args_ok (hr : Rel b ρv ρ S) (hs : ∀ i : Nat, SlSub ρ0[i]? ρv[i]?) : ∀ {n : Nat} {rs : List VR} {ds : List D} {sls : List Sl}, Base n ρ0 ρ → RepL n ρ0 ρ S rs ds → ndl rs = true → argSls ρv rs = some sls →
    RelP S sls ds ∧ (parRefs sls ds).Nodup ∧ (∀ m ∈ parRefs sls ds, (Own ρ0 ρ m ∧ ∃ i ∈ locs rs, ρ[i]? = some (some (.ref m))) ∨ (n ≤ m ∧ ¬ Own ρ0 ρ m)) ∧ (∀ i ∈ locs rs, ∃ p l d, ρv[i]? = some (.own p l d))
  | n, [], [], sls, _, _, _, e => by cases e; exact ⟨trivial, List.nodup_nil, (fun m h => nomatch h), fun i h => nomatch h⟩
  | n, r :: rs, d :: ds, sls, hb, ⟨h1, n1, h2, h3, h4⟩, hd, e => by
    unfold argSls at e
    cases e1 : argSl ρv r with
    | none => rw [e1] at e; cases e
    | some s =>
      cases e2 : argSls ρv rs with
      | none => rw [e1, e2] at e; cases e
      | some sls' =>
        rw [e1, e2] at e; cases e
        have hb1 : Base n1 ρ0 ρ := fun m o => by have := hb m o; omega
        cases r with
        | v x =>
          cases e1
          obtain ⟨g1, g2, g3, g4⟩ := args_ok hr hs hb1 h4 hd e2
          refine ⟨⟨h1.1, h1.2, g1⟩, g2, fun m hm => ?_, g4⟩
          rcases g3 m hm with z | z
          · exact .inl z
          · exact .inr ⟨by omega, z.2⟩
        | new x =>
          cases e1
          obtain ⟨m, l, rfl, q2, q3, q4, q5, q6, q7⟩ := h1
          cases q4 rfl
          obtain ⟨g1, g2, g3, g4⟩ := args_ok hr hs hb1 h4 hd e2
          refine ⟨⟨rfl, ⟨m, rfl, q2, q7⟩, g1⟩, List.nodup_cons.mpr ⟨fun z => ?_, g2⟩, fun k hk => ?_, g4⟩
          · rcases g3 m z with ⟨z, _⟩ | ⟨z, _⟩
            · exact q5 z
            · have := h3 x m rfl rfl; omega
          · rcases List.mem_cons.mp hk with rfl | hk
            · exact .inr ⟨q6, q5⟩
            · rcases g3 k hk with z | z
              · exact .inl z
              · exact .inr ⟨by omega, z.2⟩
        | loc i =>
          obtain ⟨m, rfl, q2, q3⟩ := h1
          have hd' : (!locIn i rs && ndl rs) = true := hd
          rw [Bool.and_eq_true, Bool.not_eq_true'] at hd'
          obtain ⟨g1, g2, g3, g4⟩ := args_ok hr hs hb1 h4 hd'.2 e2
          unfold argSl at e1
          dsimp only at e1
          cases hi : ρv[i]? with
          | none => rw [hi] at e1; cases e1
          | some s' =>
            rw [hi] at e1
            cases s' with
            | no => cases e1
            | v _ => cases e1
            | own p l x =>
              cases e1
              obtain ⟨k, z1, z2, z3, z4, z5⟩ := hr.own hi
              rw [q2] at z1; cases z1
              refine ⟨⟨rfl, ⟨m, rfl, z2, z5⟩, g1⟩, List.nodup_cons.mpr ⟨fun z => ?_, g2⟩, fun k hk => ?_, fun j hj => ?_⟩
              · rcases g3 m z with ⟨z, j, hj, y⟩ | ⟨z, y⟩
                · obtain ⟨p', l', d', w⟩ := g4 j hj
                  have := hr.inj hi w q2 y
                  subst this
                  rw [locIn_iff.mpr hj] at hd'
                  cases hd'.1
                · exact y q3
              · rcases List.mem_cons.mp hk with rfl | hk
                · exact .inl ⟨q3, i, by simp [locs], q2⟩
                · rcases g3 k hk with ⟨z, j, hj, y⟩ | z
                  · exact .inl ⟨z, j, by simp [locs, hj], y⟩
                  · exact .inr ⟨by omega, z.2⟩
              · rcases List.mem_cons.mp hj with rfl | hj
                · exact ⟨p, l, x, hi⟩
                · exact g4 j hj
  | _, [], _ :: _, _, _, h, _, _ => h.elim
  | _, _ :: _, [], _, _, h, _, _ => h.elim
/-- put back -/
theorem back_ok (hr : Rel b ρv ρ S) : ∀ {n : Nat} {rs : List VR} {ds : List D} {sls sl' : List Sl} {ρ1 ρ2 : VE}, RepL n ρ0 ρ S rs ds → ndl rs = true → argSls ρv rs = some sls → PostP S' sls ds sl' → ρ1.length = ρv.length → (∀ i ∈ locs rs, ρ1[i]? = ρv[i]?) → putBack rs sl' ρ1 = some ρ2 →
    ρ2.length = ρ1.length ∧ (∀ i : Nat, i ∉ locs rs → ρ2[i]? = ρ1[i]?) ∧ ∀ i ∈ locs rs, ∃ p l d l' d' m, ρv[i]? = some (.own p l d) ∧ ρ[i]? = some (some (.ref m)) ∧ ρ2[i]? = some (.own p l' d') ∧ S'[m]? = some ⟨l', d'⟩ ∧ (l = .lk → l' = .lk) ∧ isLD d' = true
  | n, [], [], sls, sl', ρ1, ρ2, _, _, e, hp, _, _, h => by
    cases e
    cases sl' with
    | nil => cases h; exact ⟨rfl, fun _ _ => rfl, fun i h => nomatch h⟩
    | cons _ _ => exact hp.elim
  | n, r :: rs, d :: ds, sls, sl', ρ1, ρ2, ⟨h1, n1, h2, h3, h4⟩, hd, e, hp, hl, he, h => by
    unfold argSls at e
    cases e1 : argSl ρv r with
    | none => rw [e1] at e; cases e
    | some s =>
      cases e2 : argSls ρv rs with
      | none => rw [e1, e2] at e; cases e
      | some sls' =>
        rw [e1, e2] at e; cases e
        cases r with
        | v x => cases e1; exact back_ok (rs := rs) hr h4 hd e2 hp hl he h
        | new x =>
          cases e1
          obtain ⟨m, l, rfl, q2, q3, q4, q5, q6, q7⟩ := h1
          cases sl' with
          | nil => exact hp.elim
          | cons s1 sl'' =>
            cases s1 with
            | no => exact hp.elim
            | v _ => exact hp.elim
            | own p l' d' => exact back_ok (rs := rs) hr h4 hd e2 hp.2.2.2.2 hl he h
        | loc i =>
          obtain ⟨m, rfl, q2, q3⟩ := h1
          have hd' : (!locIn i rs && ndl rs) = true := hd
          rw [Bool.and_eq_true, Bool.not_eq_true'] at hd'
          have hni : i ∉ locs rs := fun z => by rw [locIn_iff.mpr z] at hd'; cases hd'.1
          unfold argSl at e1
          dsimp only at e1
          cases hi : ρv[i]? with
          | none => rw [hi] at e1; cases e1
          | some s' =>
            rw [hi] at e1
            cases s' with
            | no => cases e1
            | v _ => cases e1
            | own p l x =>
              cases e1
              cases sl' with
              | nil => exact hp.elim
              | cons s1 sl'' =>
                cases s1 with
                | no => exact hp.elim
                | v _ => exact hp.elim
                | own p2 l' d' =>
                  obtain ⟨rfl, w1, w2, w3, w4⟩ := hp
                  unfold putBack at h
                  have h1i : ρ1[i]? = some (.own p l x) := (he i (by simp [locs])).trans hi
                  rw [h1i] at h
                  dsimp only at h
                  have il := ve_lt h1i
                  obtain ⟨g1, g2, g3⟩ := back_ok hr h4 hd'.2 e2 w4 (by rw [List.length_set]; exact hl) (fun j hj => by
                    have : i ≠ j := fun z => hni (z ▸ hj)
                    rw [ve_get_set il, if_neg this]
                    exact he j (by simp [locs, hj])) h
                  refine ⟨g1.trans List.length_set, fun j hj => ?_, fun j hj => ?_⟩
                  · simp only [locs, List.mem_cons, not_or] at hj
                    rw [g2 j hj.2, ve_get_set il, if_neg (fun z => hj.1 z.symm)]
                  · rcases List.mem_cons.mp hj with rfl | hj
                    · refine ⟨p, l, x, l', d', m, hi, q2, ?_, w1, w2, w3⟩
                      rw [g2 j hni, ve_get_set il, if_pos rfl]
                    · exact g3 j hj
  | _, [], _ :: _, _, _, _, _, h, _, _, _, _, _, _ => h.elim
  | _, _ :: _, [], _, _, _, _, h, _, _, _, _, _, _ => h.elim

theorem call_st (hr : Rel b ρv ρ S) (hb : Base n ρ0 ρ) (hs : ∀ i : Nat, SlSub ρ0[i]? ρv[i]?) (hn : n ≤ S.length) {rs : List VR} {ds : List D} {sls sl' : List Sl} {ρ2 : VE} (h : RepL n ρ0 ρ S rs ds) (hd : ndl rs = true) (e : argSls ρv rs = some sls)
    (hp : PostP S' sls ds sl') (hf : ∀ m : Nat, m < S.length → m ∉ parRefs sls ds → S'[m]? = S[m]?) (hl : S.length ≤ S'.length) (hk : putBack rs sl' ρv = some ρ2) : StE n b ρv ρ2 ρ S S' := by
  obtain ⟨a1, a2, a3, a4⟩ := args_ok hr hs hb h hd e
  obtain ⟨b1, b2, b3⟩ := back_ok hr h hd e hp rfl (fun _ _ => rfl) hk
  have sub : ∀ i : Nat, SlSub ρv[i]? ρ2[i]? := by
    intro i
    by_cases c : i ∈ locs rs
    · obtain ⟨p, l, d, l', d', m, z1, z2, z3, z4, z5, z6⟩ := b3 i c
      exact .inr ⟨p, l, d, z1, .inl ⟨l', d', z3, z5⟩⟩
    · rw [b2 i c]; exact .refl _
  -- a cell that no argument is
  have fr : ∀ m : Nat, m < S.length → (∀ i ∈ locs rs, ρ[i]? ≠ some (some (.ref m))) → (Own ρ0 ρ m ∨ m < n) → S'[m]? = S[m]? := by
    intro m hm h1 h2
    refine hf m hm fun z => ?_
    rcases a3 m z with ⟨_, i, hi, y⟩ | ⟨y1, y2⟩
    · exact h1 i hi y
    · rcases h2 with h2 | h2
      · exact y2 h2
      · omega
  refine ⟨⟨b1.trans hr.len, by have := hr.base; omega, fun {i d} q => ?_, fun {i p l d} q => ?_, fun {i j p1 p2 l1 l2 d1 d2 m} q1 q2 q3 q4 => ?_⟩, sub, fun m q1 q2 => ?_, by omega⟩
  · by_cases c : i ∈ locs rs
    · obtain ⟨p, l, d, l', d', m, z1, z2, z3, z4, z5, z6⟩ := b3 i c
      rw [z3] at q; cases q
    · rw [b2 i c] at q; exact hr.v q
  · by_cases c : i ∈ locs rs
    · obtain ⟨p', l2, d2, l', d', m, z1, z2, z3, z4, z5, z6⟩ := b3 i c
      rw [z3] at q; cases q
      obtain ⟨k, y1, y2, y3, y4, y5⟩ := hr.own z1
      rw [z2] at y1; cases y1
      exact ⟨m, z2, z4, y3, y4, z6⟩
    · rw [b2 i c] at q
      obtain ⟨m, y1, y2, y3⟩ := hr.own q
      refine ⟨m, y1, ?_, y3⟩
      rw [fr m (lt_of_get y2) (fun j hj z => ?_) (.inl (own_sub hs ⟨i, p, l, d, q, y1⟩))]
      · exact y2
      · obtain ⟨p', l', d', w⟩ := a4 j hj
        have := hr.inj q w y1 z
        subst this
        exact c hj
  · have A : ∀ {i : Nat} {p l d}, ρ2[i]? = some (.own p l d) → ∃ l' d', ρv[i]? = some (.own p l' d') := fun {i p l d} q => by
      have := sub i; rw [q] at this; exact this.own
    obtain ⟨_, _, a1⟩ := A q1
    obtain ⟨_, _, a2⟩ := A q2
    exact hr.inj a1 a2 q3 q4
  · refine fr m (by omega) (fun i hi z => q2 ?_) (.inr q1)
    obtain ⟨p', l', d', w⟩ := a4 i hi
    exact ⟨i, p', l', d', w, z⟩
theorem call_sim {Φv : CallV} {Φ : CallF} (hΦ : SimC Φv Φ) {f : Str} {rs : List VR} {ds : List D} (hr : Rel b ρv ρ S) (hb : Base n ρ0 ρ) (hs : ∀ i : Nat, SlSub ρ0[i]? ρv[i]?) (hn : n ≤ S.length) (h : RepL n ρ0 ρ S rs ds) :
    SimE n b ρv ρ S (callR Φv f rs ρv) (Φ f ds S) (fun a d _ S' => RepO true n ρ0 ρ S' a d) := by
  unfold callR
  cases hd : ndl rs with
  | false => trivial
  | true =>
    show SimE _ _ _ _ _ (V.of _ _) _ _
    refine .of fun sls e => ?_
    obtain ⟨a1, a2, a3, a4⟩ := args_ok hr hs hb h hd e
    have q := hΦ f sls ds S a1 a2
    cases hv : Φv f sls with
    | no => trivial
    | ok a sl' =>
      rw [hv] at q
      obtain ⟨d, S', e1, e2, e3, e4⟩ := q
      show SimE _ _ _ _ _ (V.of _ _) _ _
      refine .of fun ρ2 hk => ?_
      have hl : S.length ≤ S'.length := by
        cases a with
        | v x => rw [e4.2.2]; omega
        | new x => rw [e4.2.1]; omega
        | loc _ => exact e4.elim
      refine ⟨d, S', e1, call_st hr hb hs hn h hd e e2 e3 hl hk, ?_⟩
      cases a with
      | v x => exact ⟨e4.1, e4.2.1⟩
      | new x => exact ⟨S.length, .mu, e4.1, e4.2.2.1, nofun, fun _ => rfl, fun o => by have := hb _ o; omega, hn, e4.2.2.2⟩
      | loc _ => exact e4.elim
    | exn x sl' =>
      rw [hv] at q
      obtain ⟨S', e1, e2, e3, e4⟩ := q
      show SimE _ _ _ _ _ (V.of _ _) _ _
      refine .of fun ρ2 hk => ?_
      exact ⟨S', e1, call_st hr hb hs hn h hd e e2 e3 e4 hk⟩
end
end VS

/-! VV, part H: expressions. -/
namespace VS
open PySem

structure Ctx (n b : Nat) (ρ0 ρv : VE) (ρ : Env) (S : Cells) : Prop where
  hr : Rel b ρv ρ S
  hb : Base n ρ0 ρ
  hs : ∀ i : Nat, SlSub ρ0[i]? ρv[i]?
  hn : n ≤ S.length
  hbn : b ≤ n
theorem Ctx.start {b : Nat} {ρv : VE} {ρ : Env} {S : Cells} (hr : Rel b ρv ρ S) : Ctx S.length b ρv ρv ρ S := ⟨hr, hr.bd, fun _ => .refl _, Nat.le_refl _, hr.base⟩
theorem Ctx.step {n b : Nat} {ρ0 ρv ρ1 : VE} {ρ : Env} {S S1 : Cells} (c : Ctx n b ρ0 ρv ρ S) (g : StE n b ρv ρ1 ρ S S1) : Ctx n b ρ0 ρ1 ρ S1 :=
  ⟨g.rel, c.hb, fun i => (c.hs i).trans (g.sub i), g.len, c.hbn⟩

section
variable {Φv : CallV} {Φ : CallF}
def IHe (Φv : CallV) (Φ : CallF) (e : Ex) : Prop := ∀ (b : Nat) (ρv : VE) (ρ : Env) (S : Cells), Rel b ρv ρ S → SimE S.length b ρv ρ S (evV Φv e ρv) (evE Φ e ρ S) (fun a d _ S' => RepE S.length ρv ρ S' a d)
def IHs (Φv : CallV) (Φ : CallF) (es : Exs) : Prop := ∀ (b : Nat) (ρv : VE) (ρ : Env) (S : Cells), Rel b ρv ρ S → SimE S.length b ρv ρ S (evVs Φv es ρv) (evEs Φ es ρ S) (fun rs ds _ S' => RepL S.length ρv ρ S' rs ds)
def IHt (Φv : CallV) (Φ : CallF) (es : Exs) : Prop := ∀ (b : Nat) (ρv : VE) (ρ : Env) (S : Cells), Rel b ρv ρ S → SimE S.length b ρv ρ S (evTsV Φv es ρv) (evTs Φ es ρ S) (fun t t' _ _ => t' = t)
def IHi (Φv : CallV) (Φ : CallF) (it : It) : Prop := ∀ (b : Nat) (ρv : VE) (ρ : Env) (S : Cells), Rel b ρv ρ S → SimE S.length b ρv ρ S (evIV Φv it ρv) (evI Φ it ρ S) (fun w w' ρv' S' => w'.1 = w.1 ∧ S'.length = S.length ∧ Held ρv ρ ρv' w.2 w'.2)

variable {n b : Nat} {ρ0 ρv : VE} {ρ : Env} {S : Cells}
theorem op {e : Ex} (ih : IHe Φv Φ e) (c : Ctx n b ρ0 ρv ρ S) : SimE n b ρv ρ S (evV Φv e ρv) (evE Φ e ρ S) (fun a d ρ1 S1 => RepO true n ρ0 ρ S1 a d ∧ StE S.length b ρv ρ1 ρ S S1) := by
  refine ((ih _ _ _ _ c.hr).imp fun a d ρ1 S1 st p => ?_).mono c.hn
  exact ⟨((p.op c.hr.bd).back (fun m o => by have := c.hb m o; have := c.hn; omega) c.hs).mono c.hn, st⟩
theorem ops {es : Exs} (ih : IHs Φv Φ es) (c : Ctx n b ρ0 ρv ρ S) : SimE n b ρv ρ S (evVs Φv es ρv) (evEs Φ es ρ S) (fun rs ds ρ1 S1 => RepL S.length ρ0 ρ S1 rs ds ∧ StE S.length b ρv ρ1 ρ S S1) := by
  refine ((ih _ _ _ _ c.hr).imp fun a d ρ1 S1 st p => ?_).mono c.hn
  exact ⟨p.back c.hs (fun m o => by have := c.hb m o; have := c.hn; omega), st⟩
theorem RepL.mono {n n' : Nat} {rs : List VR} {ds : List D} (h : RepL n' ρ0 ρ S rs ds) (hn : n ≤ n') : RepL n ρ0 ρ S rs ds := by
  match rs, ds, h with
  | [], [], _ => trivial
  | _ :: _, _ :: _, ⟨h1, n1, h2, h3⟩ => exact ⟨h1.mono hn, n1, by omega, h3⟩
  | [], _ :: _, h => exact h.elim
  | _ :: _, [], h => exact h.elim
theorem truth_of {S : Cells} {d x : D} (h : V2 S d x) : truth S d = truV x := by
  unfold truth truV truth
  rw [h.val, val_nr h.nr]
theorem tr_sim {α β : Type} {n b : Nat} {ρ0 ρv : VE} {ρ : Env} {S : Cells} {x : VR} {d : D} {st : Bool} {f : Bool → V α} {q : R β} {P : α → β → VE → Cells → Prop} (hr : Rel b ρv ρ S) (h : RepO st n ρ0 ρ S x d)
    (k : ∀ t, truth S d = some t → SimE n b ρv ρ S (f t) q P) : SimE n b ρv ρ S (V.tr x ρv f) q P :=
  .res fun y hy => .of fun t ht => k t ((truth_of (h.v2 hr hy)).trans ht)

theorem SimE.both {n b : Nat} {ρ0 ρv : VE} {ρ : Env} {S : Cells} {x y : VR} {d e : D} {f : D → D → V VR} {g : D → D → R D} {P : VR → D → VE → Cells → Prop} (hr : Rel b ρv ρ S) (hx : RepO true n ρ0 ρ S x d) (hy : RepO true n ρ0 ρ S y e)
    (k : ∀ x' y', rsv ρv x = some x' → rsv ρv y = some y' → SimE n b ρv ρ S (f x' y') (g x' y') P) : SimE n b ρv ρ S (V.res x ρv fun x => V.res y ρv fun y => f x y) (both d e S g) P := by
  refine .res fun x' h1 => .res fun y' h2 => ?_
  unfold VS.both
  rw [(hx.v2 hr h1).val, (hy.v2 hr h2).val]
  exact k _ _ h1 h2
theorem SimE.one {n b : Nat} {ρ0 ρv : VE} {ρ : Env} {S : Cells} {x : VR} {d : D} {f : D → V VR} {g : D → R D} {P : VR → D → VE → Cells → Prop} (hr : Rel b ρv ρ S) (hx : RepO true n ρ0 ρ S x d)
    (k : ∀ x', rsv ρv x = some x' → SimE n b ρv ρ S (f x') (g x') P) : SimE n b ρv ρ S (V.res x ρv f) (one d S g) P := by
  refine .res fun x' h1 => ?_
  unfold VS.one
  rw [(hx.v2 hr h1).val]
  exact k _ h1

/-- a comprehension's turns -/
theorem turns_sim {f : D → VE → V (List D)} {g : D → Cells → R (List D)} {n b : Nat} {ρ : Env} : ∀ {xs : List D} {ρv : VE} {S : Cells},
    (∀ x ρv S, Rel b ρv ρ S → S.length = n → SimE n b ρv ρ S (f x ρv) (g x S) (fun ys zs _ S' => zs = ys ∧ S'.length = n)) → Rel b ρv ρ S → S.length = n →
    SimE n b ρv ρ S (turnsV f xs ρv) (turns g xs S) (fun ys zs _ S' => zs = ys ∧ S'.length = n)
  | [], ρv, S, h, hr, hn => .ok hr (by omega) ⟨rfl, hn⟩
  | x :: xs, ρv, S, h, hr, hn => by
    refine .bind (h x ρv S hr hn) fun ys zs ρ1 S1 st p => ?_
    obtain ⟨rfl, hn1⟩ := p
    refine .bind (turns_sim h st.rel hn1) fun ys' zs' ρ2 S2 st2 p => ?_
    obtain ⟨rfl, hn2⟩ := p
    exact .ok st2.rel (by omega) ⟨rfl, hn2⟩
theorem comp_sim {f : D → VE → V (List D)} {g : D → Cells → R (List D)} {n b : Nat} {ρv : VE} {ρ : Env} {S : Cells} {vi : V WalkedV} {ri : R Walked} (hr : Rel b ρv ρ S) (hS : S.length = n)
    (hi : SimE n b ρv ρ S vi ri (fun w w' ρv' S' => w'.1 = w.1 ∧ S'.length = n ∧ Held ρv ρ ρv' w.2 w'.2))
    (h : ∀ x ρv S, Rel b ρv ρ S → S.length = n → SimE n b ρv ρ S (f x ρv) (g x S) (fun ys zs _ S' => zs = ys ∧ S'.length = n)) :
    SimE n b ρv ρ S (vi.bind fun wk ρ => (turnsV f wk.1 ρ).bind fun ys ρ => endV wk ys ρ) (ri.bind fun wk S' => comp n wk g S') (fun a d _ S' => RepE n ρv ρ S' a d) := by
  cases vi with
  | no => trivial
  | exn x ρ1 => obtain ⟨S1, rfl, st⟩ := hi; exact ⟨S1, rfl, st⟩
  | ok w ρ1 =>
    obtain ⟨w', S1, rfl, st, e1, l1, hh⟩ := hi
    show SimE _ _ _ _ _ ((turnsV f w.1 ρ1).bind _) (comp n w' g S1) _
    unfold comp
    rw [e1]
    have q := turns_sim (xs := w.1) h st.rel l1
    cases ht : turnsV f w.1 ρ1 with
    | no => trivial
    | exn x ρ2 => rw [ht] at q; obtain ⟨S2, e, st2⟩ := q; rw [e]; exact ⟨S2, rfl, st.trans st2⟩
    | ok ys ρ2 =>
      rw [ht] at q
      obtain ⟨zs, S2, e, st2, rfl, l2⟩ := q
      rw [e]
      show SimE _ _ _ _ _ (endV w zs ρ2) _ _
      unfold endV
      refine .of fun ρ3 hf => ?_
      obtain ⟨S3, e3, st3, l3⟩ := free_sim (st.trans st2) hh st2.sub hf
      show SimE _ _ _ _ _ _ (match free w'.2 S2 with | some S => _ | none => _) _
      rw [e3]
      dsimp only
      refine .need fun _ => ?_
      have e4 : S3.take n = S3 := List.take_of_length_le (by omega)
      rw [e4]
      refine ⟨.ref S3.length, S3 ++ [⟨.mu, .lst zs⟩], rfl, ⟨⟨st3.rel.len, by rw [List.length_append]; have := st3.rel.base; omega, st3.rel.v, fun {i p l d} q => ?_, st3.rel.inj⟩, st3.sub, fun m q1 q2 => ?_, by rw [List.length_append]; omega⟩, ?_⟩
      · obtain ⟨m, z1, z2, z3⟩ := st3.rel.own q
        exact ⟨m, z1, by rw [List.getElem?_append_left (lt_of_get z2)]; exact z2, z3⟩
      · rw [List.getElem?_append_left (by omega)]; exact st3.fr m q1 q2
      · have : S3.length = n := by omega
        exact ⟨by rw [this], by rw [List.length_append]; simp [this], by rw [← this]; exact List.getElem?_concat_length, rfl⟩
/-- what an item gives -/
theorem elt_sim {elt : Ex} (ih : IHe Φv Φ elt) {b : Nat} {ρv : VE} {ρ : Env} {S : Cells} (hr : Rel b ρv ρ S) :
    SimE S.length b ρv ρ S (((evV Φv elt ρv).bind fun r ρ => frzV r ρ).only) ((evE Φ elt ρ S).bind frz) (fun x y _ _ => y = x) := by
  have c := Ctx.start hr
  have q : SimE S.length b ρv ρ S ((evV Φv elt ρv).bind fun r ρ => frzV r ρ) ((evE Φ elt ρ S).bind frz) (fun x y _ _ => y = x) := by
    refine .bind (op ih c) fun x d ρ1 S1 st p => ?_
    have c1 := c.step st
    exact (frz_sim c1.hr c1.hb c1.hs c1.hn p.1.weak).imp fun _ _ _ _ _ z => z.1
  cases hv : ((evV Φv elt ρv).bind fun r ρ => frzV r ρ) with
  | ok a ρ1 => rw [hv] at q; exact q
  | exn x ρ1 => trivial
  | no => trivial
theorem turn_sim {elt : Ex} {ifs : Exs} {w : List Nat} {tg : Tg} (ih : IHe Φv Φ elt) (iht : IHt Φv Φ ifs) (hw : tgIn tg w = true) {b : Nat} {ρv : VE} {ρ : Env} {S : Cells} (hr : Rel b ρv ρ S) (x : D) :
    SimE S.length b ρv ρ S (V.of (asgV tg x (wipeV ρv w)) fun ρ2 => ((evTsV Φv ifs ρ2).only).bind fun t ρ3 =>
      V.cond t ((((evV Φv elt ρ3).bind fun r ρ => frzV r ρ).only).bind fun d ρ4 => .ok [d] (resto ρv ρ4 w)) (.ok [] (resto ρv ρ3 w)))
      (match asg tg x (wipeE ρ w) with
        | some ρ => ((evTs Φ ifs ρ S).only).bind fun t S1 => if t then keep S.length ((evE Φ elt ρ (S1.take S.length)).bind frz) else .ok [] (S1.take S.length)
        | none => .stuck) (fun ys zs _ S' => zs = ys ∧ S'.length = S.length) := by
  refine .of fun ρ2 h2 => ?_
  obtain ⟨ρ', e, hr2, hb2, fin⟩ := scope_sim hr (Nat.le_refl _) hw h2
  rw [e]
  dsimp only
  have q := iht _ _ _ _ hr2
  cases ht : evTsV Φv ifs ρ2 with
  | no => trivial
  | exn y ρ3 => trivial
  | ok t ρ3 =>
    rw [ht] at q
    obtain ⟨t', S3, e3, st3, rfl⟩ := q
    rw [e3]
    have st3' := st3.take hr2.bd hr2.base
    have l3 : (S3.take S.length).length = S.length := by rw [List.length_take]; have := st3.len; omega
    cases t' with
    | false =>
      show SimE _ _ _ _ _ (.ok [] (resto ρv ρ3 w)) (.ok [] (S3.take S.length)) _
      exact ⟨[], _, rfl, fin _ _ st3' l3 st3', rfl, l3⟩
    | true =>
      show SimE _ _ _ _ _ ((((evV Φv elt ρ3).bind fun r ρ => frzV r ρ).only).bind fun d ρ4 => .ok [d] (resto ρv ρ4 w)) (keep S.length ((evE Φ elt ρ' (S3.take S.length)).bind frz)) _
      have q := elt_sim ih st3'.rel
      rw [l3] at q
      cases hv : ((evV Φv elt ρ3).bind fun r ρ => frzV r ρ).only with
      | no => trivial
      | exn y ρ4 =>
        cases hz : ((evV Φv elt ρ3).bind fun r ρ => frzV r ρ) <;> rw [hz] at hv <;> cases hv
      | ok d ρ4 =>
        rw [hv] at q
        obtain ⟨d', S4, e4, st4, rfl⟩ := q
        rw [e4]
        have st := st3'.trans st4
        have st' := st.take hr2.bd hr2.base
        have l4 : (S4.take S.length).length = S.length := by rw [List.length_take]; have := st.len; omega
        exact ⟨[d'], _, rfl, fin _ _ st' l4 st', rfl, l4⟩
theorem inner_sim {tv : V (List D)} {tr : R (List D)} {n b : Nat} {ρv ρ2 ρ4 : VE} {ρ ρ' : Env} {S S4 : Cells} {o o' : Option Nat} {w : List Nat} (hr2 : Rel b ρ2 ρ' S) (hS : S.length = n)
    (q : SimE n b ρ4 ρ' S4 tv tr (fun ys zs _ S' => zs = ys ∧ S'.length = n)) (st : StE n b ρ2 ρ4 ρ' S S4) (hh : Held ρ2 ρ' ρ4 o o')
    (fin : ∀ ρ3 S3, StE n b ρ2 ρ3 ρ' S S3 → S3.length = S.length → StE S.length b ρ2 ρ3 ρ' S S3 → StE n b ρv (resto ρv ρ3 w) ρ S S3) :
    SimE n b ρv ρ S (tv.only.bind fun ys ρ9 => V.of (freeV o ρ9) fun ρ10 => .ok ys (resto ρv ρ10 w))
      (tr.bind fun ys S3 => (match free o' S3 with | some S4 => .ok ys (S4.take n) | none => .stuck)) (fun ys zs _ S' => zs = ys ∧ S'.length = n) := by
  cases tv with
  | no => trivial
  | exn y ρ9 => trivial
  | ok ys ρ9 =>
    obtain ⟨zs, S9, rfl, st9, rfl, l9⟩ := q
    show SimE _ _ _ _ _ (V.of (freeV o ρ9) fun ρ10 => .ok zs (resto ρv ρ10 w)) (match free o' S9 with | some S4 => .ok zs (S4.take n) | none => .stuck) _
    refine .of fun ρ10 hf => ?_
    obtain ⟨S10, e10, st10, l10⟩ := free_sim (st.trans st9) hh st9.sub hf
    rw [e10]
    dsimp only
    have e4 : S10.take n = S10 := List.take_of_length_le (by omega)
    rw [e4]
    exact ⟨zs, S10, rfl, fin _ _ st10 (by omega) (by rw [hS]; exact st10), rfl, by omega⟩
theorem turn2_sim {elt : Ex} {ifs ifs1 : Exs} {w w1 : List Nat} {tg tg1 : Tg} {it1 : It} (ih : IHe Φv Φ elt) (iht : IHt Φv Φ ifs) (iht1 : IHt Φv Φ ifs1) (ihi : IHi Φv Φ it1) (hw : tgIn tg w = true) (hw1 : tgIn tg1 w1 = true) {b : Nat} {ρv : VE} {ρ : Env} {S : Cells} (hr : Rel b ρv ρ S) (x : D) :
    SimE S.length b ρv ρ S (V.of (asgV tg x (wipeV ρv w)) fun ρ2 => ((evTsV Φv ifs ρ2).only).bind fun t ρ3 =>
      V.cond t (((evIV Φv it1 ρ3).only).bind fun wk1 ρ4 => (turnsV (fun x ρ5 => V.of (asgV tg1 x (wipeV ρ5 w1)) fun ρ6 => ((evTsV Φv ifs1 ρ6).only).bind fun t ρ7 =>
          V.cond t ((((evV Φv elt ρ7).bind fun r ρ => frzV r ρ).only).bind fun d ρ8 => .ok [d] (resto ρ5 ρ8 w1)) (.ok [] (resto ρ5 ρ7 w1))) wk1.1 ρ4).only.bind fun ys ρ9 => V.of (freeV wk1.2 ρ9) fun ρ10 => .ok ys (resto ρv ρ10 w))
        (.ok [] (resto ρv ρ3 w)))
      (match asg tg x (wipeE ρ w) with
        | some ρ => ((evTs Φ ifs ρ S).only).bind fun t S1 => if t then ((evI Φ it1 ρ (S1.take S.length)).only).bind fun wk1 S2 => (turns (fun x S => match asg tg1 x (wipeE ρ w1) with
            | some ρ => ((evTs Φ ifs1 ρ S).only).bind fun t S1 => if t then keep S.length ((evE Φ elt ρ (S1.take S.length)).bind frz) else .ok [] (S1.take S.length)
            | none => .stuck) wk1.1 S2).bind fun ys S3 => (match free wk1.2 S3 with | some S4 => .ok ys (S4.take S.length) | none => .stuck)
          else .ok [] (S1.take S.length)
        | none => .stuck) (fun ys zs _ S' => zs = ys ∧ S'.length = S.length) := by
  refine .of fun ρ2 h2 => ?_
  obtain ⟨ρ', e, hr2, hb2, fin⟩ := scope_sim hr (Nat.le_refl _) hw h2
  rw [e]
  dsimp only
  have q := iht _ _ _ _ hr2
  cases ht : evTsV Φv ifs ρ2 with
  | no => trivial
  | exn y ρ3 => trivial
  | ok t ρ3 =>
    rw [ht] at q
    obtain ⟨t', S3, e3, st3, rfl⟩ := q
    rw [e3]
    have st3' := st3.take hr2.bd hr2.base
    have l3 : (S3.take S.length).length = S.length := by rw [List.length_take]; have := st3.len; omega
    cases t' with
    | false =>
      show SimE _ _ _ _ _ (.ok [] (resto ρv ρ3 w)) (.ok [] (S3.take S.length)) _
      exact ⟨[], _, rfl, fin _ _ st3' l3 st3', rfl, l3⟩
    | true =>
      show SimE _ _ _ _ _ (((evIV Φv it1 ρ3).only).bind fun wk1 ρ4 => (turnsV (fun x ρ5 => V.of (asgV tg1 x (wipeV ρ5 w1)) fun ρ6 => ((evTsV Φv ifs1 ρ6).only).bind fun t ρ7 =>
          V.cond t ((((evV Φv elt ρ7).bind fun r ρ => frzV r ρ).only).bind fun d ρ8 => .ok [d] (resto ρ5 ρ8 w1)) (.ok [] (resto ρ5 ρ7 w1))) wk1.1 ρ4).only.bind fun ys ρ9 => V.of (freeV wk1.2 ρ9) fun ρ10 => .ok ys (resto ρv ρ10 w)) (R.bind (evI Φ it1 ρ' (S3.take S.length)).only _) _
      have q := ihi _ _ _ _ st3'.rel
      rw [l3] at q
      cases hv : evIV Φv it1 ρ3 with
      | no => trivial
      | exn y ρ4 => trivial
      | ok wk ρ4 =>
        rw [hv] at q
        obtain ⟨wk', S4, e4, st4, w4, l4, hh⟩ := q
        rw [e4]
        show SimE _ _ _ _ _ ((turnsV (fun x ρ5 => V.of (asgV tg1 x (wipeV ρ5 w1)) fun ρ6 => ((evTsV Φv ifs1 ρ6).only).bind fun t ρ7 =>
          V.cond t ((((evV Φv elt ρ7).bind fun r ρ => frzV r ρ).only).bind fun d ρ8 => .ok [d] (resto ρ5 ρ8 w1)) (.ok [] (resto ρ5 ρ7 w1))) wk.1 ρ4).only.bind fun ys ρ9 => V.of (freeV wk.2 ρ9) fun ρ10 => .ok ys (resto ρv ρ10 w)) (R.bind (turns _ wk'.1 S4) _) _
        rw [w4]
        have q := turns_sim (xs := wk.1) (n := S.length) (fun x ρv S' hr' hl => by
          exact ((turn_sim ih iht1 hw1 hr' x).mono (by omega)).imp fun _ _ _ _ _ p => ⟨p.1, p.2.trans hl⟩) st4.rel (by omega)
        have l4' : S4.length = S.length := by omega
        exact inner_sim hr2 rfl (by exact q) (st3'.trans st4) (hh.back st3'.sub) fin
end
end VS

/-! VV, part I: every expression. -/
namespace VS
open PySem

section
variable {Φv : CallV} {Φ : CallF} (hΦ : SimC Φv Φ)
theorem vals_nr {n : Nat} {ρ0 : VE} {ρ : Env} {S : Cells} : ∀ {rs : List VR} {ds xs : List D}, AllO n ρ0 ρ S rs ds → valsV rs = some xs → allNr xs
  | [], [], xs, _, e => by cases e; exact fun _ h => nomatch h
  | .v x :: rs, d :: ds, xs, h, e => by
    unfold valsV at e
    cases h2 : valsV rs with
    | none => rw [h2] at e; cases e
    | some ys =>
      rw [h2] at e; cases e
      intro z hz
      rcases List.mem_cons.mp hz with rfl | hz
      · exact h.1.2
      · exact vals_nr h.2 h2 z hz
  | .new _ :: _, _ :: _, _, _, e => by cases e
  | .loc _ :: _, _ :: _, _, _, e => by cases e
  | [], _ :: _, _, h, _ => h.elim
  | _ :: _, [], _, h, _ => h.elim
theorem repL_v {n : Nat} {ρ0 : VE} {ρ : Env} {S : Cells} : ∀ {xs : List D}, allNr xs → RepL n ρ0 ρ S (xs.map .v) xs
  | [], _ => trivial
  | x :: xs, h => ⟨⟨rfl, h x (by simp)⟩, n, Nat.le_refl _, (fun _ _ e => nomatch e), repL_v fun y hy => h y (by simp [hy])⟩

theorem tr_eq {β : Type} {r : VR} {ρ : VE} {f : Bool → V β} : V.tr r ρ f = V.of ((rsv ρ r).bind truV) f := by
  unfold V.tr V.res
  cases rsv ρ r <;> rfl
include hΦ
mutual
theorem simE : ∀ e : Ex, IHe Φv Φ e
  | .k d => by
    intro b ρv ρ S hr
    rw [evV, evE]
    unfold vl
    split
    · rename_i h; exact .ok hr (Nat.le_refl _) ⟨rfl, h, rfl⟩
    · trivial
  | .v i => by
    intro b ρv ρ S hr
    rw [evV, evE]
    unfold lookV look
    cases hi : ρv[i]? with
    | none => trivial
    | some s =>
      cases s with
      | no => trivial
      | v d =>
        obtain ⟨h1, h2⟩ := hr.v hi
        rw [h1]
        exact .ok hr (Nat.le_refl _) ⟨rfl, h2, rfl⟩
      | own p l d =>
        obtain ⟨m, h1, h2, _⟩ := hr.own hi
        rw [h1]
        exact .ok hr (Nat.le_refl _) ⟨m, rfl, h1, ⟨i, p, l, d, hi, h1⟩, rfl⟩
  | .g x => by
    intro b ρv ρ S hr
    rw [evV, evE]
    exact .ok hr (Nat.le_refl _) ⟨rfl, rfl, rfl⟩
  | .gc x d => by
    intro b ρv ρ S hr
    rw [evV, evE]
    unfold vl
    split
    · rename_i h; exact .ok hr (Nat.le_refl _) ⟨rfl, h, rfl⟩
    · trivial
  | .dnew => by
    intro b ρv ρ S hr
    rw [evV, evE]
    have := new_sim (n := S.length) (ρ0 := ρv) (c := .dic [] []) hr hr.bd (Nat.le_refl _) rfl
    obtain ⟨c', S', e, st, _⟩ := this
    cases e
    exact ⟨_, _, rfl, st, rfl, by simp, List.getElem?_concat_length, rfl⟩
  | .tup es => by
    intro b ρv ρ S hr
    rw [evV, evE]
    refine .norm hr (.bind (ops (simEs es) (.start hr)) fun rs ds ρ1 S1 st p => ?_)
    have c := (Ctx.start hr).step st
    refine .bind (frzs_sim c.hr c.hb c.hs c.hn ((p.1.mono (Nat.le_refl _)).allO (Nat.le_refl _))) fun xs ys ρ2 S2 st2 p => ?_
    subst p
    exact .need fun _ => .ok st2.rel st2.len ⟨rfl, rfl⟩
  | .lst es => by
    intro b ρv ρ S hr
    rw [evV, evE]
    refine .norm hr (.bind (ops (simEs es) (.start hr)) fun rs ds ρ1 S1 st p => ?_)
    have c := (Ctx.start hr).step st
    refine .bind (frzs_sim c.hr c.hb c.hs c.hn (p.1.allO (Nat.le_refl _))) fun xs ys ρ2 S2 st2 p => ?_
    subst p
    have c2 := c.step st2
    exact .need fun _ => new_sim c2.hr c2.hb c2.hn rfl
  | .bin o a e => by
    intro b ρv ρ S hr
    rw [evV, evE]
    refine .norm hr (.bind (op (simE a) (.start hr)) fun x d ρ1 S1 st p => ?_)
    have c := (Ctx.start hr).step st
    refine .bind (op (simE e) c) fun y d2 ρ2 S2 st2 q => ?_
    have c2 := c.step st2
    exact .both c2.hr (p.1.step q.2 (Nat.le_refl _) c.hs) q.1 fun x' y' _ _ => ofR_sim uni_bin c2.hr c2.hb c2.hn
  | .neg a => by
    intro b ρv ρ S hr
    rw [evV, evE]
    refine .bind (simE a _ _ _ _ hr) fun x d ρ1 S1 st p => ?_
    cases x with
    | v x =>
      obtain ⟨rfl, h2, h3⟩ := p
      cases d with
      | int i => exact .ok st.rel (by omega) ⟨rfl, rfl, h3⟩
      | _ => trivial
    | _ => trivial
  | .cmp o a e => by
    intro b ρv ρ S hr
    rw [evV, evE]
    refine .norm hr (.bind (op (simE a) (.start hr)) fun x d ρ1 S1 st p => ?_)
    have c := (Ctx.start hr).step st
    refine .bind (op (simE e) c) fun y d2 ρ2 S2 st2 q => ?_
    have c2 := c.step st2
    exact .both c2.hr (p.1.step q.2 (Nat.le_refl _) c.hs) q.1 fun x' y' _ _ => bV_sim c2.hr c2.hn
  | .chain o o2 a e f => by
    intro b ρv ρ S hr
    rw [evV, evE]
    refine .norm hr (.bind (op (simE a) (.start hr)) fun x d ρ1 S1 st p => ?_)
    have c := (Ctx.start hr).step st
    refine .bind (op (simE e) c) fun y d2 ρ2 S2 st2 q => ?_
    have c2 := c.step st2
    refine .both c2.hr (p.1.step q.2 (Nat.le_refl _) c.hs) q.1 fun x' y' _ _ => ?_
    refine .of fun t ht => ?_
    rw [ht]
    cases t with
    | false => exact .ok c2.hr c2.hn ⟨rfl, rfl⟩
    | true =>
      refine .bind (op (simE f) c2) fun z d3 ρ3 S3 st3 r => ?_
      have c3 := c2.step st3
      exact .both c3.hr (q.1.step r.2 (Nat.le_refl _) c2.hs) r.1 fun x' y' _ _ => bV_sim c3.hr c3.hn
  | .and a e => by
    intro b ρv ρ S hr
    rw [evV, evE]
    refine .bind (op (simE a) (.start hr)) fun x d ρ1 S1 st p => ?_
    have c := (Ctx.start hr).step st
    refine tr_sim c.hr p.1 fun t ht => ?_
    unfold truthR
    rw [ht]
    cases t with
    | true =>
      have st' := StE.cut c.hr (c.hb.sub c.hs) c.hbn c.hn
      have l1 : (S1.take S.length).length = S.length := by rw [List.length_take]; have := c.hn; omega
      have q := simE e _ _ _ _ st'.rel
      rw [l1] at q
      refine .pre st' (q.imp fun a d ρ2 S2 st2 h => ?_)
      cases a with
      | v _ => exact h
      | new _ => exact h
      | loc i => obtain ⟨m, h1, h2, h3, h4⟩ := h; exact ⟨m, h1, h2, own_sub c.hs h3, h4⟩
    | false =>
      obtain ⟨c', S'', e, h4, h5, h6⟩ := norm_ok p.1 hr.bd c.hn
      exact ⟨c', S'', e, (StE.refl c.hr c.hn).alike (c.hb.sub c.hs) c.hbn h4 h5, h6⟩
  | .or a e => by
    intro b ρv ρ S hr
    rw [evV, evE]
    refine .bind (op (simE a) (.start hr)) fun x d ρ1 S1 st p => ?_
    have c := (Ctx.start hr).step st
    refine tr_sim c.hr p.1 fun t ht => ?_
    unfold truthR
    rw [ht]
    cases t with
    | false =>
      have st' := StE.cut c.hr (c.hb.sub c.hs) c.hbn c.hn
      have l1 : (S1.take S.length).length = S.length := by rw [List.length_take]; have := c.hn; omega
      have q := simE e _ _ _ _ st'.rel
      rw [l1] at q
      refine .pre st' (q.imp fun a d ρ2 S2 st2 h => ?_)
      cases a with
      | v _ => exact h
      | new _ => exact h
      | loc i => obtain ⟨m, h1, h2, h3, h4⟩ := h; exact ⟨m, h1, h2, own_sub c.hs h3, h4⟩
    | true =>
      obtain ⟨c', S'', e, h4, h5, h6⟩ := norm_ok p.1 hr.bd c.hn
      exact ⟨c', S'', e, (StE.refl c.hr c.hn).alike (c.hb.sub c.hs) c.hbn h4 h5, h6⟩
  | .not a => by
    intro b ρv ρ S hr
    rw [evV, evE]
    refine .norm hr (.bind (op (simE a) (.start hr)) fun x d ρ1 S1 st p => ?_)
    have c := (Ctx.start hr).step st
    refine tr_sim c.hr p.1 fun t ht => ?_
    unfold truthR
    rw [ht]
    exact .ok c.hr c.hn ⟨rfl, rfl⟩
  | .ite t a e => by
    intro b ρv ρ S hr
    rw [evV, evE]
    have q : SimE S.length b ρv ρ S ((evV Φv t ρv).bind fun x ρ => V.tr x ρ fun t => .ok t ρ) (norm S.length ((evE Φ t ρ S).bind fun x S => truthR x S fun t => .ok (.bl t) S)) (fun t d _ S' => d = .bl t ∧ S'.length = S.length) := by
      have z : SimE S.length b ρv ρ S ((evV Φv t ρv).bind fun x ρ => V.tr x ρ fun t => .ok (.v (.bl t)) ρ) (norm S.length ((evE Φ t ρ S).bind fun x S => truthR x S fun t => .ok (.bl t) S)) (fun a d _ S' => RepE S.length ρv ρ S' a d) := by
        refine .norm hr (.bind (op (simE t) (.start hr)) fun x d ρ1 S1 st p => ?_)
        have c := (Ctx.start hr).step st
        refine tr_sim c.hr p.1 fun t ht => ?_
        unfold truthR
        rw [ht]
        exact .ok c.hr c.hn ⟨rfl, rfl⟩
      revert z
      generalize norm S.length _ = r
      cases evV Φv t ρv with
      | no => exact fun z => z
      | exn y ρ1 => exact fun z => z
      | ok x ρ1 =>
        show SimE _ _ _ _ _ (V.tr x ρ1 _) _ _ → SimE _ _ _ _ _ (V.tr x ρ1 _) _ _
        rw [tr_eq, tr_eq]
        cases (rsv ρ1 x).bind truV with
        | none => exact fun z => z
        | some t =>
          rintro ⟨d, S', h1, h2, h3, h4, h5⟩
          exact ⟨d, S', h1, h2, h3, h5⟩
    have e1 : ((evV Φv t ρv).bind fun x ρ => V.tr x ρ fun t => V.cond t (evV Φv a ρ) (evV Φv e ρ)) = ((evV Φv t ρv).bind fun x ρ => V.tr x ρ fun t => .ok t ρ).bind fun t ρ => V.cond t (evV Φv a ρ) (evV Φv e ρ) := by
      cases evV Φv t ρv with
      | no => rfl
      | exn y ρ1 => rfl
      | ok x ρ1 =>
        show V.tr x ρ1 _ = V.bind (V.tr x ρ1 _) _
        rw [tr_eq, tr_eq]
        cases (rsv ρ1 x).bind truV <;> rfl
    rw [e1]
    refine .bind q fun t d ρ1 S1 st p => ?_
    obtain ⟨rfl, l1⟩ := p
    have fix : ∀ {e : Ex}, IHe Φv Φ e → SimE S.length b ρ1 ρ S1 (evV Φv e ρ1) (evE Φ e ρ S1) (fun a d _ S' => RepE S.length ρv ρ S' a d) := by
      intro e ih
      have q := ih _ _ _ _ st.rel
      rw [l1] at q
      refine q.imp fun a d ρ2 S2 st2 h => ?_
      cases a with
      | v _ => exact h
      | new _ => exact h
      | loc i => obtain ⟨m, h1, h2, h3, h4⟩ := h; exact ⟨m, h1, h2, own_sub st.sub h3, h4⟩
    cases t with
    | true => exact fix (simE a)
    | false => exact fix (simE e)
  | .ix a e => by
    intro b ρv ρ S hr
    rw [evV, evE]
    refine .norm hr (.bind (op (simE a) (.start hr)) fun x d ρ1 S1 st p => ?_)
    have c := (Ctx.start hr).step st
    refine .bind (op (simE e) c) fun y d2 ρ2 S2 st2 q => ?_
    have c2 := c.step st2
    exact .both c2.hr (p.1.step q.2 (Nat.le_refl _) c.hs) q.1 fun x' y' _ _ => ofR_sim uni_ix c2.hr c2.hb c2.hn
  | .int1 a => by
    intro b ρv ρ S hr
    rw [evV, evE]
    refine .bind (simE a _ _ _ _ hr) fun x d ρ1 S1 st p => ?_
    cases x with
    | v x =>
      obtain ⟨rfl, h2, h3⟩ := p
      cases d with
      | int i => exact .ok st.rel (by omega) ⟨rfl, rfl, h3⟩
      | _ => trivial
    | _ => trivial
  | .sl a lo hi => by
    intro b ρv ρ S hr
    rw [evV, evE]
    refine .norm hr (.bind (op (simE a) (.start hr)) fun x d ρ1 S1 st p => ?_)
    have c := (Ctx.start hr).step st
    refine .bind (op (simE lo) c) fun y d2 ρ2 S2 st2 q => ?_
    have c2 := c.step st2
    refine .bind (op (simE hi) c2) fun z d3 ρ3 S3 st3 r => ?_
    have c3 := c2.step st3
    refine .one c3.hr ((p.1.step q.2 (Nat.le_refl _) c.hs).step r.2 (Nat.le_refl _) c2.hs) fun x' _ => ?_
    cases y with
    | v y =>
      cases z with
      | v z => rw [q.1.1, r.1.1]; exact ofR_sim uni_sl c3.hr c3.hb c3.hn
      | _ => trivial
    | _ => trivial
  | .isi a t => by
    intro b ρv ρ S hr
    rw [evV, evE]
    refine .norm hr (.bind (op (simE a) (.start hr)) fun x d ρ1 S1 st p => ?_)
    have c := (Ctx.start hr).step st
    exact .one c.hr p.1 fun x' _ => bV_sim c.hr c.hn
  | .call f es => by
    intro b ρv ρ S hr
    rw [evV, evE]
    refine .norm hr (.bind (ops (simEs es) (.start hr)) fun rs ds ρ1 S1 st p => ?_)
    have c := (Ctx.start hr).step st
    exact call_sim hΦ c.hr c.hb c.hs c.hn p.1
  | .callv f es => by
    intro b ρv ρ S hr
    rw [evV, evE]
    refine .norm hr (.bind (op (simE f) (.start hr)) fun x d ρ1 S1 st p => ?_)
    have c := (Ctx.start hr).step st
    cases x with
    | v x =>
      cases p.1.1
      cases d with
      | glo f =>
        refine .bind (ops (simEs es) c) fun rs ds ρ2 S2 st2 p => ?_
        have c2 := c.step st2
        exact call_sim hΦ c2.hr c2.hb c2.hs c2.hn (p.1.mono c.hn)
      | _ => trivial
    | _ => trivial
  | .callk f pm es => by
    intro b ρv ρ S hr
    rw [evV, evE]
    refine .norm hr (.bind (ops (simEs es) (.start hr)) fun rs ds ρ1 S1 st p => ?_)
    have c := (Ctx.start hr).step st
    refine .of fun xs hx => ?_
    have hA := p.1.allO (Nat.le_refl _)
    cases hA.vals hx
    have nr := vals_nr hA hx
    have e1 : (pm.map fun i => VR.v (ds.getD i .non)) = (pm.map fun i => ds.getD i .non).map .v := by rw [List.map_map] <;> rfl
    rw [e1]
    refine call_sim hΦ c.hr c.hb c.hs c.hn (repL_v fun x hx => ?_)
    obtain ⟨i, _, rfl⟩ := List.mem_map.mp hx
    rw [List.getD_eq_getElem?_getD]
    cases hi : ds[i]? with
    | none => rfl
    | some y => exact nr y (List.mem_of_getElem? hi)
  | .fz a => by
    intro b ρv ρ S hr
    rw [evV, evE]
    refine .norm hr (.bind (op (simE a) (.start hr)) fun x d ρ1 S1 st p => ?_)
    have c := (Ctx.start hr).step st
    have q := frz_sim c.hr c.hb c.hs c.hn p.1.weak
    refine .bindL q fun y z ρ2 S2 st2 r => ?_
    obtain ⟨rfl, r2, _⟩ := r
    exact vl_sim st2.rel st2.len
  | .maxd a e => by
    intro b ρv ρ S hr
    rw [evV, evE]
    refine .norm hr (.bind (op (simE a) (.start hr)) fun x d ρ1 S1 st p => ?_)
    have c := (Ctx.start hr).step st
    refine .bind (op (simE e) c) fun y d2 ρ2 S2 st2 q => ?_
    have c2 := c.step st2
    refine .one c2.hr (p.1.step q.2 (Nat.le_refl _) c.hs) fun x' _ => ?_
    cases x' with
    | lst xs =>
      cases y with
      | v y =>
        cases q.1.1
        cases d2 with
        | int i =>
          refine .of fun is hi => ?_
          dsimp only
          rw [hi]
          exact .ok c2.hr c2.hn ⟨rfl, rfl⟩
        | _ => trivial
      | _ => trivial
    | _ => trivial
  | .sset a => by
    intro b ρv ρ S hr
    rw [evV, evE]
    refine .norm hr (.bind (op (simE a) (.start hr)) fun x d ρ1 S1 st p => ?_)
    have c := (Ctx.start hr).step st
    refine .one c.hr p.1 fun x' _ => ?_
    cases x' with
    | lst xs =>
      refine .of fun is hi => ?_
      dsimp only
      rw [hi]
      exact .need fun _ => new_sim c.hr c.hb c.hn rfl
    | _ => trivial
  | .disp ks vs => by
    intro b ρv ρ S hr
    rw [evV, evE]
    refine .norm hr (.bind (ops (simEs vs) (.start hr)) fun rs ds ρ1 S1 st p => ?_)
    have c := (Ctx.start hr).step st
    refine .bind (frzs_sim c.hr c.hb c.hs c.hn (p.1.allO (Nat.le_refl _))) fun xs ys ρ2 S2 st2 p => ?_
    subst p
    have c2 := c.step st2
    exact .need fun _ => new_sim c2.hr c2.hb c2.hn rfl
  | .items a => by
    intro b ρv ρ S hr
    rw [evV, evE]
    refine .norm hr (.bind (op (simE a) (.start hr)) fun x d ρ1 S1 st p => ?_)
    have c := (Ctx.start hr).step st
    refine .one c.hr p.1 fun x' _ => ?_
    cases x' with
    | dic ks vs => exact new_sim c.hr c.hb c.hn rfl
    | _ => trivial
  | .rvs a => by
    intro b ρv ρ S hr
    rw [evV, evE]
    refine .norm hr (.bind (op (simE a) (.start hr)) fun x d ρ1 S1 st p => ?_)
    have c := (Ctx.start hr).step st
    refine .one c.hr p.1 fun x' _ => ?_
    cases x' with
    | lst xs => exact new_sim c.hr c.hb c.hn rfl
    | _ => trivial
  | .blt o es => by
    intro b ρv ρ S hr
    rw [evV, evE]
    refine .norm hr (.bind (ops (simEs es) (.start hr)) fun rs ds ρ1 S1 st p => ?_)
    have c := (Ctx.start hr).step st
    refine .of fun xs hx => ?_
    have v := (p.1.allO (Nat.le_refl _)).allv c.hr hx
    rw [blt_res o v]
    exact ofR_sim (uni_blt v.nr) c.hr c.hb c.hn
  | .mth m o es => by
    intro b ρv ρ S hr
    rw [evV, evE]
    refine .norm hr (.bind (op (simE o) (.start hr)) fun x d ρ1 S1 st p => ?_)
    have c := (Ctx.start hr).step st
    cases hx : rsv ρ1 x with
    | none =>
      have : mthK m none = false := by cases m <;> rfl
      rw [this]; trivial
    | some y =>
      rw [(p.1.v2 c.hr hx).val]
      refine .need fun _ => ?_
      refine .bind (ops (simEs es) c) fun rs ds ρ2 S2 st2 q => ?_
      have c2 := c.step st2
      exact mth_sim c2.hr c2.hb c2.hs c2.hn (p.1.step q.2 (Nat.le_refl _) c.hs) (q.1.allO c.hn)
  | .lc elt w tg it ifs => by
    intro b ρv ρ S hr
    rw [evV, evE]
    cases hw : tgIn tg w with
    | false => trivial
    | true =>
      refine comp_sim hr rfl (simIt it _ _ _ _ hr) fun x ρ1 S1 hr1 hl => ?_
      exact ((turn_sim (simE elt) (simTs ifs) hw hr1 x).mono (by omega)).imp fun _ _ _ _ _ p => ⟨p.1, p.2.trans hl⟩
  | .lc2 elt w w1 tg it ifs tg1 it1 ifs1 => by
    intro b ρv ρ S hr
    rw [evV, evE]
    cases hw : tgIn tg w with
    | false => trivial
    | true =>
      cases hw1 : tgIn tg1 w1 with
      | false => trivial
      | true =>
        refine comp_sim hr rfl (simIt it _ _ _ _ hr) fun x ρ1 S1 hr1 hl => ?_
        exact ((turn2_sim (simE elt) (simTs ifs) (simTs ifs1) (simIt it1) hw hw1 hr1 x).mono (by omega)).imp fun _ _ _ _ _ p => ⟨p.1, p.2.trans hl⟩
theorem simEs : ∀ es : Exs, IHs Φv Φ es
  | .nil => by
    intro b ρv ρ S hr
    rw [evVs, evEs]
    exact .ok hr (Nat.le_refl _) trivial
  | .cons e es => by
    intro b ρv ρ S hr
    rw [evVs, evEs]
    refine .bind (op (simE e) (.start hr)) fun x d ρ1 S1 st p => ?_
    have c := (Ctx.start hr).step st
    refine .bind (ops (simEs es) c) fun rs ds ρ2 S2 st2 q => ?_
    have c2 := c.step st2
    refine .ok c2.hr c2.hn ⟨p.1.step q.2 (Nat.le_refl _) c.hs, S1.length, c.hn, fun y m h1 h2 => ?_, q.1⟩
    subst h1; subst h2
    obtain ⟨m', l, h1, h2, _⟩ := p.1
    cases h1
    exact lt_of_get h2
theorem simTs : ∀ es : Exs, IHt Φv Φ es
  | .nil => by
    intro b ρv ρ S hr
    rw [evTsV, evTs]
    exact .ok hr (Nat.le_refl _) rfl
  | .cons e es => by
    intro b ρv ρ S hr
    rw [evTsV, evTs]
    refine .bind (op (simE e) (.start hr)) fun x d ρ1 S1 st p => ?_
    have c := (Ctx.start hr).step st
    refine tr_sim c.hr p.1 fun t ht => ?_
    rw [ht]
    cases t with
    | true => exact ((simTs es _ _ _ _ c.hr).mono c.hn)
    | false => exact .ok c.hr c.hn rfl
theorem simIt : ∀ it : It, IHi Φv Φ it
  | .seq e => by
    intro b ρv ρ S hr
    rw [evIV, evI]
    refine .bind (op (simE e) (.start hr)) fun x d ρ1 S1 st p => ?_
    have c := (Ctx.start hr).step st
    exact (hold_sim c.hr c.hb c.hs c.hbn c.hn p.1).imp fun _ _ _ _ _ z => ⟨z.1, z.2.1, z.2.2.back st.sub⟩
  | .enum e => by
    intro b ρv ρ S hr
    rw [evIV, evI]
    refine .bind (op (simE e) (.start hr)) fun x d ρ1 S1 st p => ?_
    have c := (Ctx.start hr).step st
    refine .bind (holdL_sim c.hr c.hb c.hs c.hbn c.hn p.1) fun w w' ρ2 S2 st2 z => ?_
    refine .ok st2.rel st2.len ⟨?_, z.2.1, z.2.2.back st.sub⟩
    show enumD w'.1 = enumD w.1
    rw [z.1]
  | .rev e => by
    intro b ρv ρ S hr
    rw [evIV, evI]
    refine .bind (op (simE e) (.start hr)) fun x d ρ1 S1 st p => ?_
    have c := (Ctx.start hr).step st
    refine .bind (holdL_sim c.hr c.hb c.hs c.hbn c.hn p.1) fun w w' ρ2 S2 st2 z => ?_
    refine .ok st2.rel st2.len ⟨?_, z.2.1, z.2.2.back st.sub⟩
    show w'.1.reverse = w.1.reverse
    rw [z.1]
  | .zip _ _ => by intro b ρv ρ S hr; rw [evIV]; trivial
  | .rng1 a => by
    intro b ρv ρ S hr
    rw [evIV, evI]
    refine .bind (op (simE a) (.start hr)) fun x d ρ1 S1 st p => ?_
    have c := (Ctx.start hr).step st
    cases x with
    | v x =>
      cases p.1.1
      cases d with
      | int i =>
        have st' := StE.cut c.hr (c.hb.sub c.hs) c.hbn c.hn
        exact .need fun _ => ⟨_, _, rfl, st', rfl, by rw [List.length_take]; have := c.hn; omega, rfl⟩
      | _ => trivial
    | _ => trivial
  | .rng2 a e => by
    intro b ρv ρ S hr
    rw [evIV, evI]
    refine .bind (op (simE a) (.start hr)) fun x d ρ1 S1 st p => ?_
    have c := (Ctx.start hr).step st
    refine .bind (op (simE e) c) fun y d2 ρ2 S2 st2 q => ?_
    have c2 := c.step st2
    cases x with
    | v x =>
      cases y with
      | v y =>
        cases p.1.1
        cases q.1.1
        cases d with
        | int i =>
          cases d2 with
          | int j =>
            have st' := StE.cut c2.hr (c2.hb.sub c2.hs) c2.hbn c2.hn
            exact .need fun _ => ⟨_, _, rfl, st', rfl, by rw [List.length_take]; have := c2.hn; omega, rfl⟩
          | _ => trivial
        | _ => trivial
      | _ => cases x <;> trivial
    | _ => trivial
  | .rng3 a e f => by
    intro b ρv ρ S hr
    rw [evIV, evI]
    refine .bind (op (simE a) (.start hr)) fun x d ρ1 S1 st p => ?_
    have c := (Ctx.start hr).step st
    refine .bind (op (simE e) c) fun y d2 ρ2 S2 st2 q => ?_
    have c2 := c.step st2
    refine .bind (op (simE f) c2) fun z d3 ρ3 S3 st3 r => ?_
    have c3 := c2.step st3
    split
    · rename_i i j k
      cases p.1.1
      cases q.1.1
      cases r.1.1
      have st' := StE.cut c3.hr (c3.hb.sub c3.hs) c3.hbn c3.hn
      exact .need fun _ => ⟨_, _, rfl, st', rfl, by rw [List.length_take]; have := c3.hn; omega, rfl⟩
    · trivial
end
end
end VS

/-! VV, part J: statements. -/
namespace VS
open PySem

theorem len_of_none {a b : VE} (h : ∀ i : Nat, a[i]? = none ↔ b[i]? = none) : a.length = b.length := by
  have h1 := (h a.length).mp (List.getElem?_eq_none (Nat.le_refl _))
  have h2 := (h b.length).mpr (List.getElem?_eq_none (Nat.le_refl _))
  rw [List.getElem?_eq_none_iff] at h1 h2
  omega
structure StS (b : Nat) (ρv : VE) (ρ : Env) (S : Cells) (ρv' : VE) (ρ' : Env) (S' : Cells) : Prop where
  rel : Rel b ρv' ρ' S'
  keep : ∀ {i : Nat} {p : Bool} {l : Lk} {d : D}, ρv[i]? = some (.own p l d) → (p = true ∨ l = .lk) → ρ'[i]? = ρ[i]? ∧ ∃ l' d', ρv'[i]? = some (.own p l' d') ∧ (l = .lk → l' = .lk)
  par : ∀ {i : Nat} {l : Lk} {d : D}, ρv'[i]? = some (.own true l d) → ∃ l' d', ρv[i]? = some (.own true l' d')
  fr : ∀ m : Nat, m < b → ¬ Own ρv ρ m → S'[m]? = S[m]?
  len : ρv'.length = ρv.length
section
variable {b : Nat} {ρv ρv1 ρv2 : VE} {ρ ρ1 ρ2 : Env} {S S1 S2 : Cells}
theorem StS.refl (hr : Rel b ρv ρ S) : StS b ρv ρ S ρv ρ S := ⟨hr, fun h _ => ⟨rfl, _, _, h, id⟩, fun h => ⟨_, _, h⟩, fun _ _ _ => rfl, rfl⟩
theorem StS.trans (h : StS b ρv ρ S ρv1 ρ1 S1) (g : StS b ρv1 ρ1 S1 ρv2 ρ2 S2) : StS b ρv ρ S ρv2 ρ2 S2 := by
  refine ⟨g.rel, fun {i p l d} q z => ?_, fun {i l d} q => ?_, fun m q1 q2 => (g.fr m q1 fun o => q2 ?_).trans (h.fr m q1 q2), g.len.trans h.len⟩
  · obtain ⟨h1, l', d', h2, h3⟩ := h.keep q z
    obtain ⟨g1, l2, d2, g2, g3⟩ := g.keep h2 (z.imp id h3)
    exact ⟨g1.trans h1, l2, d2, g2, fun w => g3 (h3 w)⟩
  · obtain ⟨l', d', q⟩ := g.par q
    exact h.par q
  · obtain ⟨i, p, l, d, o1, o2⟩ := o
    obtain ⟨k, z1, _, z3, z4, _⟩ := h.rel.own o1
    rw [o2] at z1; cases z1
    cases p with
    | false => have := z4 rfl; omega
    | true =>
      obtain ⟨l', d', w⟩ := h.par o1
      obtain ⟨y, _⟩ := h.keep w (.inl rfl)
      exact ⟨i, true, l', d', w, by rw [← y]; exact o2⟩
theorem StS.ofE {n : Nat} (st : StE n b ρv ρv1 ρ S S1) (h : b ≤ n) : StS b ρv ρ S ρv1 ρ S1 := by
  refine ⟨st.rel, fun {i p l d} q z => ⟨rfl, ?_⟩, fun {i l d} q => ?_, fun m q1 q2 => st.fr m (by omega) q2, len_of_none fun i => ?_⟩
  · have w := st.sub i
    rw [q] at w
    rcases w with w | ⟨p', l', d', w1, ⟨l2, d2, w2, w3⟩ | ⟨w2, w3, w4⟩⟩
    · exact ⟨l, d, w, id⟩
    · cases w1; exact ⟨l2, d2, w2, w3⟩
    · cases w1
      rcases z with z | z
      · rw [z] at w3; cases w3
      · exact absurd z w4
  · have w := st.sub i
    rw [q] at w
    exact w.own
  · rcases st.sub i with w | ⟨p', l', d', w1, ⟨l2, d2, w2, w3⟩ | ⟨w2, w3, w4⟩⟩
    · rw [w]
    · rw [w1, w2]; exact ⟨nofun, nofun⟩
    · rw [w1, w2]; exact ⟨nofun, nofun⟩
def SlNo (ρv : VE) (is : List Nat) : Prop := ∀ i ∈ is, Putable ρv[i]?
theorem Putable.no {s : Option Sl} (h : Putable s) {p : Bool} {l : Lk} {d : D} (e : s = some (.own p l d)) (z : p = true ∨ l = .lk) : False := by
  rcases h with h | ⟨x, h⟩ | ⟨x, h⟩
  · rw [h] at e; cases e
  · rw [h] at e; cases e
  · rw [h] at e; cases e
    rcases z with z | z <;> cases z
theorem StS.ofCh {is : List Nat} (hr : Rel b ρv1 ρ1 S) (c : Ch is ρv ρ ρv1 ρ1) : StS b ρv ρ S ρv1 ρ1 S := by
  refine ⟨hr, fun {i p l d} q z => ?_, fun {i l d} q => ?_, fun _ _ _ => rfl, len_of_none fun i => ?_⟩
  · by_cases h : i ∈ is
    · exact (((c i).2 h).2.no q z).elim
    · obtain ⟨c1, c2⟩ := (c i).1 h
      exact ⟨c2, l, d, c1.trans q, id⟩
  · by_cases h : i ∈ is
    · obtain ⟨⟨x, y⟩, _⟩ := (c i).2 h; rw [y] at q; cases q
    · exact ⟨l, d, ((c i).1 h).1.symm.trans q⟩
  · by_cases h : i ∈ is
    · obtain ⟨⟨x, y⟩, z⟩ := (c i).2 h
      rw [y]
      rcases z with z | ⟨_, z⟩ | ⟨_, z⟩ <;> rw [z] <;> exact ⟨nofun, nofun⟩
    · rw [((c i).1 h).1]
theorem StS.setv {i : Nat} {d : D} (hr : Rel b ρv ρ S) (h : Putable ρv[i]?) (hd : d.nr = true) : StS b ρv ρ S (ρv.set i (.v d)) (ρ.set i (some d)) S := by
  have e : putD i d ρv = some (ρv.set i (.v d)) := by
    unfold putD putSl
    rw [if_pos hd]
    rcases h with h | ⟨x, h⟩ | ⟨x, h⟩ <;> rw [h]
  obtain ⟨h1, h2⟩ := putD_sim hr e
  exact .ofCh h1 h2
theorem StS.setnew {i m : Nat} {d : D} (hr : Rel b ρv ρ S) (h : Putable ρv[i]?) (hd : isLD d = true) (hm : S[m]? = some ⟨.mu, d⟩) (hb : b ≤ m) (ho : ¬ Own ρv ρ m) : StS b ρv ρ S (ρv.set i (.own false .mu d)) (ρ.set i (some (.ref m))) S := by
  have il := h.lt
  have il' : i < ρ.length := by rw [← hr.len]; exact il
  refine ⟨hr.setnew il hd hm hb ho, fun {j p l e} q z => ?_, fun {j l e} q => ?_, fun _ _ _ => rfl, List.length_set⟩
  · by_cases c : i = j
    · subst c; exact (h.no q z).elim
    · rw [env_get_set il', if_neg c, ve_get_set il, if_neg c]; exact ⟨rfl, l, e, q, id⟩
  · rw [ve_get_set il] at q
    by_cases c : i = j
    · rw [if_pos c] at q; cases q
    · rw [if_neg c] at q; exact ⟨l, e, q⟩

def RepS (b : Nat) (ρv : VE) (ρ : Env) (S : Cells) (r : VR) (d : D) : Prop :=
  match r with
  | .v x => d = x ∧ x.nr = true
  | .new x => ∃ m, d = .ref m ∧ S[m]? = some ⟨.mu, x⟩ ∧ b ≤ m ∧ ¬ Own ρv ρ m ∧ isLD x = true
  | .loc i => ∃ m, d = .ref m ∧ ρ[i]? = some (some (.ref m))
def SimS (b : Nat) (ρv : VE) (ρ : Env) (S : Cells) (v : FV) (r : FR) : Prop :=
  match v with
  | .next ρv' => ∃ ρ' S', r = .next ρ' S' ∧ StS b ρv ρ S ρv' ρ' S'
  | .ret a ρv' => ∃ d ρ' S', r = .ret d S' ∧ StS b ρv ρ S ρv' ρ' S' ∧ RepS b ρv' ρ' S' a d
  | .brk ρv' => ∃ ρ' S', r = .brk ρ' S' ∧ StS b ρv ρ S ρv' ρ' S'
  | .cont ρv' => ∃ ρ' S', r = .cont ρ' S' ∧ StS b ρv ρ S ρv' ρ' S'
  | .exn x ρv' => ∃ ρ' S', r = .exn x ρ' S' ∧ StS b ρv ρ S ρv' ρ' S'
  | .no => True
theorem SimS.pre {v : FV} {r : FR} (h : StS b ρv ρ S ρv1 ρ1 S1) (g : SimS b ρv1 ρ1 S1 v r) : SimS b ρv ρ S v r := by
  cases v with
  | next _ => obtain ⟨ρ', S', e, st⟩ := g; exact ⟨ρ', S', e, h.trans st⟩
  | ret _ _ => obtain ⟨d, ρ', S', e, st, z⟩ := g; exact ⟨d, ρ', S', e, h.trans st, z⟩
  | brk _ => obtain ⟨ρ', S', e, st⟩ := g; exact ⟨ρ', S', e, h.trans st⟩
  | cont _ => obtain ⟨ρ', S', e, st⟩ := g; exact ⟨ρ', S', e, h.trans st⟩
  | exn _ _ => obtain ⟨ρ', S', e, st⟩ := g; exact ⟨ρ', S', e, h.trans st⟩
  | no => trivial
theorem SimS.toF {α β : Type} {n : Nat} {v : V α} {r : R β} {P : α → β → VE → Cells → Prop} {f : α → VE → FV} {g : β → Cells → FR} (h : SimE n b ρv ρ S v r P) (hb : b ≤ n)
    (k : ∀ a c ρv' S', StE n b ρv ρv' ρ S S' → P a c ρv' S' → SimS b ρv' ρ S' (f a ρv') (g c S')) : SimS b ρv ρ S (v.toF f) (r.toF ρ g) := by
  cases v with
  | ok a ρ' => obtain ⟨c, S', rfl, h2, h3⟩ := h; exact .pre (.ofE h2 hb) (k _ _ _ _ h2 h3)
  | exn x ρ' => obtain ⟨S', rfl, h2⟩ := h; exact ⟨ρ, S', rfl, .ofE h2 hb⟩
  | no => trivial
theorem SimS.of {α : Type} {o : Option α} {f : α → FV} {r : FR} (h : ∀ a, o = some a → SimS b ρv ρ S (f a) r) : SimS b ρv ρ S (FV.of o f) r := by
  cases o with
  | some a => exact h a rfl
  | none => trivial
theorem SimS.next (h : StS b ρv ρ S ρv1 ρ1 S1) : SimS b ρv ρ S (.next ρv1) (.next ρ1 S1) := ⟨_, _, rfl, h⟩
theorem putable_of {i : Nat} {s : Sl} (h : putSl i s ρv = some ρv1) : Putable ρv[i]? := (putSl_ok h).1

/-- a loop's turns -/
theorem for_sim {f : D → VE → FV} {g : D → Env → Cells → FR} (h : ∀ x ρv ρ S, Rel b ρv ρ S → SimS b ρv ρ S (f x ρv) (g x ρ S)) : ∀ (xs : List D) (ρv : VE) (ρ : Env) (S : Cells), Rel b ρv ρ S → SimS b ρv ρ S (forTV f xs ρv) (forT g xs ρ S)
  | [], ρv, ρ, S, hr => .next (.refl hr)
  | x :: xs, ρv, ρ, S, hr => by
    have q := h x ρv ρ S hr
    unfold forTV forT
    cases hv : f x ρv with
    | no => trivial
    | next ρ1 => rw [hv] at q; obtain ⟨ρ', S', e, st⟩ := q; rw [e]; exact .pre st (for_sim h xs _ _ _ st.rel)
    | cont ρ1 => rw [hv] at q; obtain ⟨ρ', S', e, st⟩ := q; rw [e]; exact .pre st (for_sim h xs _ _ _ st.rel)
    | brk ρ1 => rw [hv] at q; obtain ⟨ρ', S', e, st⟩ := q; rw [e]; exact ⟨_, _, rfl, st⟩
    | ret a ρ1 => rw [hv] at q; obtain ⟨d, ρ', S', e, st, z⟩ := q; rw [e]; exact ⟨_, _, _, rfl, st, z⟩
    | exn x ρ1 => rw [hv] at q; obtain ⟨ρ', S', e, st⟩ := q; rw [e]; exact ⟨_, _, rfl, st⟩
theorem freeS {n : Nat} {o o' : Option Nat} {ρv3 : VE} (stE : StE n b ρv ρv1 ρ S S1) (hn : b ≤ n) (hh : Held ρv ρ ρv1 o o') (st : StS b ρv1 ρ S1 ρv2 ρ2 S2) (e : freeV o ρv2 = some ρv3) :
    ∃ S3, free o' S2 = some S3 ∧ StS b ρv ρ S ρv3 ρ2 S3 ∧ ∀ r d, RepS b ρv2 ρ2 S2 r d → RepS b ρv3 ρ2 S3 r d := by
  have tot := (StS.ofE stE hn).trans st
  cases o with
  | none => cases e; cases hh; exact ⟨S2, rfl, tot, fun _ _ h => h⟩
  | some i =>
    obtain ⟨m, p, xs, l0, d0, rfl, h2, h3, h4, h5⟩ := hh
    obtain ⟨k1, l', d', k2, k3⟩ := st.keep h3 (.inr rfl)
    cases k3 rfl
    unfold freeV at e
    dsimp only at e
    rw [k2] at e
    cases e
    have il := ve_lt k2
    have h2' : ρ2[i]? = some (some (.ref m)) := k1.trans h2
    obtain ⟨k, q1, q2, q3, q4, q5⟩ := st.rel.own k2
    rw [h2'] at q1; cases q1
    refine ⟨S2.set m ⟨.mu, d'⟩, by unfold free; dsimp only; rw [q2], ⟨st.rel.put k2 h2' q5, fun {j p2 l2 d2} q z => ?_, fun {j l2 d2} q => ?_, fun k hk ho => ?_, List.length_set.trans tot.len⟩, fun r d h => ?_⟩
    · by_cases c : i = j
      · subst c
        rw [h4] at q; cases q
        exact ⟨k1, .mu, d', by rw [ve_get_set il, if_pos rfl], fun z => absurd z h5⟩
      · obtain ⟨t1, l3, d3, t2, t3⟩ := tot.keep q z
        exact ⟨t1, l3, d3, by rw [ve_get_set il, if_neg c]; exact t2, t3⟩
    · rw [ve_get_set il] at q
      by_cases c : i = j
      · subst c; rw [if_pos rfl] at q; cases q; exact ⟨_, _, h4⟩
      · rw [if_neg c] at q; exact tot.par q
    · rw [List.getElem?_set_ne]
      · exact tot.fr k hk ho
      · intro z; subst z; exact ho ⟨i, _, _, _, h4, h2⟩
    · have OS : ∀ {m' : Nat}, Own (ρv2.set i (.own p .mu d')) ρ2 m' → Own ρv2 ρ2 m' := by
        rintro m' ⟨j, p2, l2, d2, o1, o2⟩
        rw [ve_get_set il] at o1
        by_cases c : i = j
        · subst c; exact ⟨i, p, .lk, d', k2, o2⟩
        · rw [if_neg c] at o1; exact ⟨j, p2, l2, d2, o1, o2⟩
      cases r with
      | v x => exact h
      | new x =>
        obtain ⟨m', r1, r2, r3, r4, r5⟩ := h
        refine ⟨m', r1, ?_, r3, fun o => r4 (OS o), r5⟩
        rw [List.getElem?_set_ne]
        · exact r2
        · intro z; subst z; exact r4 ⟨i, p, .lk, d', k2, h2'⟩
      | loc j => exact h
theorem forE_sim {n : Nat} {o o' : Option Nat} {fv : FV} {fr : FR} (stE : StE n b ρv ρv1 ρ S S1) (hn : b ≤ n) (hh : Held ρv ρ ρv1 o o') (h : SimS b ρv1 ρ S1 fv fr) : SimS b ρv ρ S (forEV o fv) (forE o' fr) := by
  cases fv with
  | no => trivial
  | cont _ => trivial
  | next ρ2 =>
    obtain ⟨ρ', S', rfl, st⟩ := h
    refine .of fun ρ3 e => ?_
    obtain ⟨S3, e3, st3, _⟩ := freeS stE hn hh st e
    exact ⟨ρ', S3, by unfold forE; dsimp only; rw [e3], st3⟩
  | brk ρ2 =>
    obtain ⟨ρ', S', rfl, st⟩ := h
    refine .of fun ρ3 e => ?_
    obtain ⟨S3, e3, st3, _⟩ := freeS stE hn hh st e
    exact ⟨ρ', S3, by unfold forE; dsimp only; rw [e3], st3⟩
  | ret a ρ2 =>
    obtain ⟨d, ρ', S', rfl, st, z⟩ := h
    refine .of fun ρ3 e => ?_
    obtain ⟨S3, e3, st3, z3⟩ := freeS stE hn hh st e
    exact ⟨d, ρ', S3, by unfold forE; dsimp only; rw [e3], st3, z3 _ _ z⟩
  | exn x ρ2 =>
    obtain ⟨ρ', S', rfl, st⟩ := h
    refine .of fun ρ3 e => ?_
    obtain ⟨S3, e3, st3, _⟩ := freeS stE hn hh st e
    exact ⟨ρ', S3, by unfold forE; dsimp only; rw [e3], st3⟩
theorem asgs_app : ∀ {is js : List Nat} {xs ys : List D} {ρ ρ1 : Env}, asgs is xs ρ = some ρ1 → asgs (is ++ js) (xs ++ ys) ρ = asgs js ys ρ1
  | [], js, [], ys, ρ, ρ1, h => by cases h; rfl
  | i :: is, js, x :: xs, ys, ρ, ρ1, h => asgs_app (is := is) h
  | [], _, _ :: _, _, _, _, h => by cases h
  | _ :: _, _, [], _, _, _, h => by cases h
theorem Rel.app {c : Cell} (h : Rel b ρv ρ S) : Rel b ρv ρ (S ++ [c]) := by
  refine ⟨h.len, by rw [List.length_append]; have := h.base; omega, h.v, fun {i p l d} q => ?_, h.inj⟩
  obtain ⟨k, z1, z2, z3⟩ := h.own q
  exact ⟨k, z1, by rw [List.getElem?_append_left (lt_of_get z2)]; exact z2, z3⟩
theorem StS.app {c : Cell} (h : Rel b ρv ρ S) : StS b ρv ρ S ρv ρ (S ++ [c]) :=
  ⟨h.app, fun h _ => ⟨rfl, _, _, h, id⟩, fun h => ⟨_, _, h⟩, fun m q _ => List.getElem?_append_left (by have := h.base; omega), rfl⟩
theorem star_sim {is : List Nat} {k : Nat} {r : VR} {d : D} {st : Bool} {n : Nat} {ρ0 : VE} (hr : Rel b ρv ρ S) (h : RepO st n ρ0 ρ S r d) :
    SimS b ρv ρ S (starR is k r ρv) (match val S d with
      | some v => match seqOf v with
        | some ds => if is.length ≤ ds.length + 1 then
            match asgs is (ds.take k ++ [.ref S.length] ++ ds.drop (ds.length - (is.length - 1 - k))) ρ with
            | some ρ => .next ρ (S ++ [⟨.mu, .lst ((ds.drop k).take (ds.length - (is.length - 1)))⟩])
            | none => .stuck
          else .stuck
        | none => .stuck
      | none => .stuck) := by
  unfold starR
  refine .of fun x hx => .of fun ds hds => ?_
  rw [(h.v2 hr hx).val]
  dsimp only
  rw [hds]
  dsimp only
  cases hc : decide (is.length ≤ ds.length + 1) && decide (k < is.length) with
  | false => trivial
  | true =>
    rw [Bool.and_eq_true, decide_eq_true_eq, decide_eq_true_eq] at hc
    rw [if_pos hc.1]
    refine .of fun ρ1 h1 => .of fun ρ2 h2 => .of fun ρ3 h3 => ?_
    have hr0 : Rel b ρv ρ (S ++ [⟨.mu, .lst ((ds.drop k).take (ds.length - (is.length - 1)))⟩]) := hr.app
    obtain ⟨e1, a1, r1, c1⟩ := asgs_sim hr0 h1
    obtain ⟨p2, rfl⟩ := putSl_ok h2
    have no : ¬ Own ρ1 e1 S.length := fun ⟨i, p, l, d, o1, o2⟩ => by
      by_cases z : i ∈ is.take k
      · obtain ⟨⟨y, w⟩, _⟩ := (c1 i).2 z; rw [w] at o1; cases o1
      · obtain ⟨w1, w2⟩ := (c1 i).1 z
        rw [w1] at o1; rw [w2] at o2
        have := hr.bd _ ⟨i, p, l, d, o1, o2⟩
        omega
    have s2 := StS.setnew r1 p2 rfl List.getElem?_concat_length hr.base no
    obtain ⟨e3, a3, r3, c3⟩ := asgs_sim s2.rel h3
    have split : is = is.take k ++ (is.getD k 0 :: is.drop (k + 1)) := by
      have : is.getD k 0 = is[k]'hc.2 := by simp [hc.2]
      rw [this, ← List.drop_eq_getElem_cons hc.2, List.take_append_drop]
    have ea : asgs is (ds.take k ++ [.ref S.length] ++ ds.drop (ds.length - (is.length - 1 - k))) ρ = some e3 := by
      conv => lhs; arg 1; rw [split]
      rw [List.append_assoc, asgs_app a1]
      exact a3
    rw [ea]
    exact .next ((StS.app hr).trans ((StS.ofCh r1 c1).trans (s2.trans (StS.ofCh r3 c3))))
end
end VS

/-! VV, part K: every statement, every call. -/
namespace VS
open PySem

section
variable {Φv : CallV} {Φ : CallF} (hΦ : SimC Φv Φ) (W : Nat)
include hΦ
theorem test_sim (e : Ex) {b : Nat} {ρv : VE} {ρ : Env} {S : Cells} (hr : Rel b ρv ρ S) : SimE S.length b ρv ρ S (evTV Φv e ρv) (evT Φ e ρ S) (fun t d _ S' => d = .bl t ∧ S'.length = S.length) := by
  have z : SimE S.length b ρv ρ S ((evV Φv e ρv).bind fun x ρ => V.tr x ρ fun t => .ok (.v (.bl t)) ρ) (norm S.length ((evE Φ e ρ S).bind fun x S => truthR x S fun t => .ok (.bl t) S)) (fun a d _ S' => RepE S.length ρv ρ S' a d) := by
    refine .norm hr (.bind (op (simE hΦ e) (.start hr)) fun x d ρ1 S1 st p => ?_)
    have c := (Ctx.start hr).step st
    refine tr_sim c.hr p.1 fun t ht => ?_
    unfold truthR
    rw [ht]
    exact .ok c.hr c.hn ⟨rfl, rfl⟩
  unfold evTV evT
  revert z
  generalize norm S.length _ = r
  cases evV Φv e ρv with
  | no => exact fun z => z
  | exn y ρ1 => exact fun z => z
  | ok x ρ1 =>
    show SimE _ _ _ _ _ (V.tr x ρ1 _) _ _ → SimE _ _ _ _ _ (V.tr x ρ1 _) _ _
    rw [tr_eq, tr_eq]
    cases (rsv ρ1 x).bind truV with
    | none => exact fun z => z
    | some t =>
      rintro ⟨d, S', h1, h2, h3, h4, h5⟩
      exact ⟨d, S', h1, h2, h3, h5⟩
theorem while_sim (t : Ex) {bv : VE → FV} {bc : Env → Cells → FR} {b : Nat} (h : ∀ ρv ρ S, Rel b ρv ρ S → SimS b ρv ρ S (bv ρv) (bc ρ S)) : ∀ (n : Nat) (ρv : VE) (ρ : Env) (S : Cells), Rel b ρv ρ S → SimS b ρv ρ S (whileTV (evTV Φv t) bv n ρv) (whileT (evT Φ t) bc n ρ S)
  | 0, _, _, _, _ => trivial
  | n + 1, ρv, ρ, S, hr => by
    unfold whileTV whileT
    refine .toF (test_sim hΦ t hr) hr.base fun c d ρ1 S1 st p => ?_
    obtain ⟨rfl, _⟩ := p
    cases c with
    | false => exact .next (.refl st.rel)
    | true =>
      have q := h ρ1 ρ S1 st.rel
      show SimS _ _ _ _ (match bv ρ1 with | .next ρ => _ | .cont ρ => _ | .brk ρ => _ | r => _) (match bc ρ S1 with | .next ρ S => _ | .cont ρ S => _ | .brk ρ S => _ | r => _)
      cases hv : bv ρ1 with
      | no => trivial
      | next ρ2 => rw [hv] at q; obtain ⟨ρ', S', e, st⟩ := q; rw [e]; exact .pre st (while_sim t h n _ _ _ st.rel)
      | cont ρ2 => rw [hv] at q; obtain ⟨ρ', S', e, st⟩ := q; rw [e]; exact .pre st (while_sim t h n _ _ _ st.rel)
      | brk ρ2 => rw [hv] at q; obtain ⟨ρ', S', e, st⟩ := q; rw [e]; exact .next st
      | ret a ρ2 => rw [hv] at q; obtain ⟨d, ρ', S', e, st, z⟩ := q; rw [e]; exact ⟨_, _, _, rfl, st, z⟩
      | exn x ρ2 => rw [hv] at q; obtain ⟨ρ', S', e, st⟩ := q; rw [e]; exact ⟨_, _, rfl, st⟩
mutual
theorem simS : ∀ (s : Sx) (b : Nat) (ρv : VE) (ρ : Env) (S : Cells), Rel b ρv ρ S → SimS b ρv ρ S (evVS Φv W s ρv) (evS Φ W s ρ S)
  | .expr e, b, ρv, ρ, S, hr => by
    rw [evVS, evS]
    refine .toF (simE hΦ e _ _ _ _ hr) hr.base fun a d ρ1 S1 st p => ?_
    have c := (Ctx.start hr).step st
    exact .next (.ofE (.cut c.hr (c.hb.sub c.hs) c.hbn c.hn) c.hbn)
  | .ret e, b, ρv, ρ, S, hr => by
    rw [evVS, evS]
    refine .toF (simE hΦ e _ _ _ _ hr) hr.base fun a d ρ1 S1 st p => ?_
    have c := (Ctx.start hr).step st
    refine ⟨d, ρ, S1, rfl, .refl c.hr, ?_⟩
    cases a with
    | v x => exact ⟨p.1, p.2.1⟩
    | new x => exact ⟨S.length, p.1, p.2.2.1, hr.base, (fun o => by have := c.hb.sub c.hs _ o; omega), p.2.2.2⟩
    | loc i => obtain ⟨m, h1, h2, _⟩ := p; exact ⟨m, h1, h2⟩
  | .retN, b, ρv, ρ, S, hr => by
    rw [evVS, evS]
    exact ⟨.non, ρ, S, rfl, .refl hr, rfl, rfl⟩
  | .set i e, b, ρv, ρ, S, hr => by
    rw [evVS, evS]
    refine .toF (simE hΦ e _ _ _ _ hr) hr.base fun a d ρ1 S1 st p => ?_
    have c := (Ctx.start hr).step st
    cases a with
    | v x =>
      refine .of fun ρ2 h => ?_
      obtain ⟨h1, rfl⟩ := putSl_ok h
      rw [p.1]
      exact .next (.setv c.hr h1 p.2.1)
    | new x =>
      refine .of fun ρ2 h => ?_
      obtain ⟨h1, rfl⟩ := putSl_ok h
      rw [p.1]
      exact .next (.setnew c.hr h1 p.2.2.2 p.2.2.1 hr.base fun o => by have := c.hb.sub c.hs _ o; omega)
    | loc i => trivial
  | .unp is e, b, ρv, ρ, S, hr => by
    rw [evVS, evS]
    refine .toF (simE hΦ e _ _ _ _ hr) hr.base fun a d ρ1 S1 st p => ?_
    have c := (Ctx.start hr).step st
    cases a with
    | v x =>
      obtain ⟨rfl, _⟩ := p
      cases d with
      | tup ds =>
        refine .of fun ρ2 h => ?_
        obtain ⟨e1, a1, r1, c1⟩ := asgs_sim c.hr h
        dsimp only
        rw [a1]
        exact .next (.ofCh r1 c1)
      | _ => trivial
    | _ => trivial
  | .star is k e, b, ρv, ρ, S, hr => by
    rw [evVS, evS]
    refine .toF (simE hΦ e _ _ _ _ hr) hr.base fun a d ρ1 S1 st p => ?_
    have c := (Ctx.start hr).step st
    exact star_sim c.hr (p.op hr.bd)
  | .seti o i e, b, ρv, ρ, S, hr => by
    rw [evVS, evS]
    refine .toF (P := fun a d _ S' => RepE S.length ρv ρ S' a d) (.norm hr (.bind (op (simE hΦ e) (.start hr)) fun x d ρ1 S1 st p => ?_)) hr.base fun a d ρ1 S1 st p => .next (.refl st.rel)
    have c := (Ctx.start hr).step st
    refine .bind (op (simE hΦ o) c) fun y d2 ρ2 S2 st2 q => ?_
    have c2 := c.step st2
    refine .bind (op (simE hΦ i) c2) fun z d3 ρ3 S3 st3 r => ?_
    have c3 := c2.step st3
    exact seti_sim c3.hr c3.hb c3.hs c3.hn (q.1.step r.2 (Nat.le_refl _) c2.hs) r.1 ((p.1.step q.2 (Nat.le_refl _) c.hs).step r.2 (Nat.le_refl _) c2.hs)
  | .aug i o e, b, ρv, ρ, S, hr => by
    rw [evVS, evS]
    have q := simE hΦ (.v i) b ρv ρ S hr
    rw [evV, evE] at q
    refine .toF q hr.base fun a d ρ1 S1 st p => ?_
    cases a with
    | v x =>
      obtain ⟨rfl, _⟩ := p
      cases d with
      | int m =>
        refine .toF (simE hΦ e _ _ _ _ st.rel) st.rel.base fun a d ρ2 S2 st2 p => ?_
        cases a with
        | v y =>
          obtain ⟨rfl, _⟩ := p
          refine .of fun z hz => .of fun ρ3 h => ?_
          rw [hz]
          obtain ⟨h1, rfl⟩ := putSl_ok h
          exact .next (.setv st2.rel h1 rfl)
        | _ => trivial
      | _ => trivial
    | _ => trivial
  | .ite t x y, b, ρv, ρ, S, hr => by
    rw [evVS, evS]
    refine .toF (test_sim hΦ t hr) hr.base fun c d ρ1 S1 st p => ?_
    obtain ⟨rfl, _⟩ := p
    cases c with
    | true => exact simSs x b ρ1 ρ S1 st.rel
    | false => exact simSs y b ρ1 ρ S1 st.rel
  | .for tg it x, b, ρv, ρ, S, hr => by
    rw [evVS, evS]
    have q := simIt hΦ it b ρv ρ S hr
    cases hv : evIV Φv it ρv with
    | no => trivial
    | exn y ρ1 => rw [hv] at q; obtain ⟨S', e, st⟩ := q; rw [e]; exact ⟨ρ, S', rfl, .ofE st hr.base⟩
    | ok w ρ1 =>
      rw [hv] at q
      obtain ⟨w', S1, e, st, p1, p2, p3⟩ := q
      rw [e]
      show SimS _ _ _ _ (forEV w.2 _) (forE w'.2 (forT _ w'.1 ρ S1))
      rw [p1]
      refine forE_sim st hr.base p3 (for_sim (fun y ρv ρ S hr => ?_) w.1 ρ1 ρ S1 st.rel)
      refine .of fun ρ2 h => ?_
      obtain ⟨e1, a1, r1, c1⟩ := asg_sim hr h
      rw [a1]
      exact .pre (.ofCh r1 c1) (simSs x b ρ2 e1 S r1)
  | .while t x, b, ρv, ρ, S, hr => by
    rw [evVS, evS]
    exact while_sim hΦ t (fun ρv ρ S hr => simSs x b ρv ρ S hr) W ρv ρ S hr
  | .pass, b, ρv, ρ, S, hr => by rw [evVS, evS]; exact .next (.refl hr)
  | .cont, b, ρv, ρ, S, hr => by rw [evVS, evS]; exact ⟨ρ, S, rfl, .refl hr⟩
  | .brk, b, ρv, ρ, S, hr => by rw [evVS, evS]; exact ⟨ρ, S, rfl, .refl hr⟩
  | .never, b, ρv, ρ, S, hr => by rw [evVS]; trivial
theorem simSs : ∀ (s : Sxs) (b : Nat) (ρv : VE) (ρ : Env) (S : Cells), Rel b ρv ρ S → SimS b ρv ρ S (evVSs Φv W s ρv) (evSs Φ W s ρ S)
  | .nil, b, ρv, ρ, S, hr => by rw [evVSs, evSs]; exact .next (.refl hr)
  | .cons s ss, b, ρv, ρ, S, hr => by
    rw [evVSs, evSs]
    have q := simS s b ρv ρ S hr
    cases hv : evVS Φv W s ρv with
    | no => trivial
    | next ρ1 => rw [hv] at q; obtain ⟨ρ', S', e, st⟩ := q; rw [e]; exact .pre st (simSs ss _ _ _ _ st.rel)
    | cont ρ2 => rw [hv] at q; obtain ⟨ρ', S', e, st⟩ := q; rw [e]; exact ⟨_, _, rfl, st⟩
    | brk ρ2 => rw [hv] at q; obtain ⟨ρ', S', e, st⟩ := q; rw [e]; exact ⟨_, _, rfl, st⟩
    | ret a ρ2 => rw [hv] at q; obtain ⟨d, ρ', S', e, st, z⟩ := q; rw [e]; exact ⟨_, _, _, rfl, st, z⟩
    | exn x ρ2 => rw [hv] at q; obtain ⟨ρ', S', e, st⟩ := q; rw [e]; exact ⟨_, _, rfl, st⟩
end
end

/-! ### calls -/
theorem relP_len {S : Cells} : ∀ {sls : List Sl} {ds : List D}, RelP S sls ds → sls.length = ds.length
  | [], [], _ => rfl
  | .v _ :: _, _ :: _, h => by rw [List.length_cons, List.length_cons, relP_len h.2.2]
  | .own _ _ _ :: _, _ :: _, h => by rw [List.length_cons, List.length_cons, relP_len h.2.2]
  | .no :: _, _ :: _, h => h.elim
  | [], _ :: _, h => h.elim
  | .v _ :: _, [], h => h.elim
  | .own _ _ _ :: _, [], h => h.elim
  | .no :: _, [], h => h.elim
theorem relP_get {S : Cells} : ∀ {sls : List Sl} {ds : List D} {i : Nat} {s : Sl}, RelP S sls ds → sls[i]? = some s → ∃ d, ds[i]? = some d ∧
    ((∃ x, s = .v x ∧ d = x ∧ x.nr = true) ∨ ∃ l x m, s = .own true l x ∧ d = .ref m ∧ S[m]? = some ⟨l, x⟩ ∧ isLD x = true ∧ m ∈ parRefs sls ds)
  | [], _, _, _, _, e => by cases e
  | .v x :: sls, d :: ds, 0, s, h, e => by cases e; exact ⟨d, rfl, .inl ⟨x, rfl, h.1, h.2.1⟩⟩
  | .own p l x :: sls, d :: ds, 0, s, h, e => by
    cases e
    obtain ⟨rfl, ⟨m, rfl, h2, h3⟩, h4⟩ := h
    exact ⟨.ref m, rfl, .inr ⟨l, x, m, rfl, rfl, h2, h3, by simp [parRefs]⟩⟩
  | .v x :: sls, d :: ds, i + 1, s, h, e => by
    obtain ⟨d', h1, h2⟩ := relP_get h.2.2 (i := i) (by simpa using e)
    exact ⟨d', by simpa using h1, h2⟩
  | .own p l x :: sls, d :: ds, i + 1, s, h, e => by
    obtain ⟨rfl, ⟨m, rfl, h2, h3⟩, h4⟩ := h
    obtain ⟨d', h1, h2⟩ := relP_get h4 (i := i) (by simpa using e)
    refine ⟨d', by simpa using h1, h2.imp id ?_⟩
    rintro ⟨l', x', m', a1, a2, a3, a4, a5⟩
    exact ⟨l', x', m', a1, a2, a3, a4, by simp [parRefs, a5]⟩
  | .no :: _, _ :: _, _, _, h, _ => h.elim
  | .v _ :: _, [], _, _, h, _ => h.elim
  | .own _ _ _ :: _, [], _, _, h, _ => h.elim
  | .no :: _, [], _, _, h, _ => h.elim
theorem relP_inj {S : Cells} : ∀ {sls : List Sl} {ds : List D} {i j : Nat} {p p' : Bool} {l l' : Lk} {x x' : D} {m : Nat}, RelP S sls ds → (parRefs sls ds).Nodup → sls[i]? = some (.own p l x) → sls[j]? = some (.own p' l' x') → ds[i]? = some (.ref m) → ds[j]? = some (.ref m) → i = j
  | [], _, _, _, _, _, _, _, _, _, _, _, _, e, _, _, _ => by cases e
  | .v _ :: sls, d :: ds, 0, _, _, _, _, _, _, _, _, _, _, e, _, _, _ => by cases e
  | .v _ :: sls, d :: ds, _ + 1, 0, _, _, _, _, _, _, _, _, _, _, e, _, _ => by cases e
  | .v _ :: sls, d :: ds, i + 1, j + 1, p, p', l, l', x, x', m, h, hn, e1, e2, e3, e4 => by
    rw [relP_inj (i := i) (j := j) h.2.2 hn (by simpa using e1) (by simpa using e2) (by simpa using e3) (by simpa using e4)]
  | .own _ _ _ :: sls, d :: ds, 0, 0, _, _, _, _, _, _, _, _, _, _, _, _, _ => rfl
  | .own _ _ _ :: sls, d :: ds, i + 1, 0, p, p', l, l', x, x', m, h, hn, e1, e2, e3, e4 => by
    cases e4
    obtain ⟨d', a1, a2⟩ := relP_get h.2.2 (i := i) (by simpa using e1)
    have a3 : ds[i]? = some (.ref m) := by simpa using e3
    rw [a3] at a1; cases a1
    rcases a2 with ⟨y, z, _⟩ | ⟨_, _, m', z1, z2, _, _, z3⟩
    · cases z
    · cases z2; exact absurd z3 (List.nodup_cons.mp hn).1
  | .own _ _ _ :: sls, d :: ds, 0, j + 1, p, p', l, l', x, x', m, h, hn, e1, e2, e3, e4 => by
    cases e3
    obtain ⟨d', a1, a2⟩ := relP_get h.2.2 (i := j) (by simpa using e2)
    have a3 : ds[j]? = some (.ref m) := by simpa using e4
    rw [a3] at a1; cases a1
    rcases a2 with ⟨y, z, _⟩ | ⟨_, _, m', z1, z2, _, _, z3⟩
    · cases z
    · cases z2; exact absurd z3 (List.nodup_cons.mp hn).1
  | .own _ _ _ :: sls, d :: ds, i + 1, j + 1, p, p', l, l', x, x', m, h, hn, e1, e2, e3, e4 => by
    have hn' : (parRefs sls ds).Nodup := by
      obtain ⟨_, ⟨m', rfl, _⟩, _⟩ := h
      exact (List.nodup_cons.mp hn).2
    rw [relP_inj (i := i) (j := j) h.2.2 hn' (by simpa using e1) (by simpa using e2) (by simpa using e3) (by simpa using e4)]
  | .no :: _, _ :: _, _, _, _, _, _, _, _, _, _, h, _, _, _, _, _ => h.elim
  | .v _ :: _, [], _, _, _, _, _, _, _, _, _, h, _, _, _, _, _ => h.elim
  | .own _ _ _ :: _, [], _, _, _, _, _, _, _, _, _, h, _, _, _, _, _ => h.elim
  | .no :: _, [], _, _, _, _, _, _, _, _, _, h, _, _, _, _, _ => h.elim
theorem post_ok {S S' : Cells} : ∀ {sls : List Sl} {ds : List D} {qs : List Sl}, RelP S sls ds → qs.length = sls.length →
    (∀ (i : Nat) l d, qs[i]? = some (.own true l d) → ∃ l' d', sls[i]? = some (.own true l' d')) →
    (∀ (i : Nat) l d m, sls[i]? = some (.own true l d) → ds[i]? = some (.ref m) → ∃ l' d', qs[i]? = some (.own true l' d') ∧ S'[m]? = some ⟨l', d'⟩ ∧ (l = .lk → l' = .lk) ∧ isLD d' = true) →
    PostP S' sls ds (qs.filter isPar)
  | [], [], [], _, _, _, _ => trivial
  | .v x :: sls, d :: ds, q :: qs, h, hl, h1, h2 => by
    have : isPar q = false := by
      cases q with
      | no => rfl
      | v _ => rfl
      | own p l y =>
        cases p with
        | false => rfl
        | true => obtain ⟨_, _, z⟩ := h1 0 l y rfl; cases z
    rw [List.filter_cons_of_neg (by rw [this]; exact Bool.false_ne_true)]
    exact post_ok (sls := sls) (ds := ds) h.2.2 (by simpa using hl) (fun i l d e => by simpa using h1 (i + 1) l d (by simpa using e)) (fun i l d m e1 e2 => by simpa using h2 (i + 1) l d m (by simpa using e1) (by simpa using e2))
  | .own p l x :: sls, d :: ds, q :: qs, h, hl, h1, h2 => by
    obtain ⟨rfl, ⟨m, rfl, h3, h4⟩, h5⟩ := h
    obtain ⟨l', d', a1, a2, a3, a4⟩ := h2 0 l x m rfl rfl
    cases a1
    rw [List.filter_cons_of_pos (by rfl)]
    exact ⟨rfl, a2, a3, a4, post_ok h5 (by simpa using hl) (fun i l d e => by simpa using h1 (i + 1) l d (by simpa using e)) (fun i l d m e1 e2 => by simpa using h2 (i + 1) l d m (by simpa using e1) (by simpa using e2))⟩
  | .no :: _, _ :: _, _, h, _, _, _ => h.elim
  | .v _ :: _, [], _, h, _, _, _ => h.elim
  | .own _ _ _ :: _, [], _, h, _, _, _ => h.elim
  | .no :: _, [], _, h, _, _, _ => h.elim
  | [], _ :: _, _, h, _, _, _ => h.elim
  | [], [], _ :: _, _, h, _, _ => by cases h
  | _ :: _, _ :: _, [], _, h, _, _ => by cases h
theorem StS.len2 {b : Nat} {ρv ρv' : VE} {ρ ρ' : Env} {S S' : Cells} (h : StS b ρv ρ S ρv' ρ' S') : b ≤ S'.length := h.rel.base
end VS

/-! VV, part L: calls at every depth; the law. -/
namespace VS
open PySem

theorem get_pre {sls : List Sl} {m i : Nat} {s : Sl} (h : (sls ++ List.replicate m Sl.no)[i]? = some s) (hs : s ≠ .no) : sls[i]? = some s := by
  by_cases c : i < sls.length
  · rw [List.getElem?_append_left c] at h; exact h
  · rw [List.getElem?_append_right (by omega), List.getElem?_replicate] at h
    split at h
    · cases h; exact absurd rfl hs
    · cases h
theorem start_rel {sls : List Sl} {ds : List D} {S : Cells} {m : Nat} (h : RelP S sls ds) (hn : (parRefs sls ds).Nodup) : Rel S.length (sls ++ List.replicate m .no) (ds.map some ++ List.replicate m none) S := by
  have hl := relP_len h
  have dl : ∀ {i : Nat} {d : D}, ds[i]? = some d → (ds.map some ++ List.replicate m none)[i]? = some (some d) := by
    intro i d e
    have hi : i < ds.length := (List.getElem?_eq_some_iff.mp e).1
    rw [List.getElem?_append_left (by rw [List.length_map]; exact hi), List.getElem?_map, e] <;> rfl
  have un : ∀ {i : Nat} {d : D}, (ds.map some ++ List.replicate m none)[i]? = some (some d) → ds[i]? = some d := by
    intro i d e
    by_cases c : i < ds.length
    · rw [List.getElem?_append_left (by rw [List.length_map]; exact c), List.getElem?_map] at e
      cases q : ds[i]? with
      | none => rw [q] at e; cases e
      | some y => rw [q] at e; cases e; rfl
    · rw [List.getElem?_append_right (by rw [List.length_map]; omega), List.getElem?_replicate] at e
      split at e <;> cases e
  refine ⟨by simp [hl], Nat.le_refl _, fun {i d} q => ?_, fun {i p l d} q => ?_, fun {i j p p' l l' d d' k} q1 q2 q3 q4 => ?_⟩
  · obtain ⟨y, h1, h2⟩ := relP_get h (get_pre q nofun)
    rcases h2 with ⟨x, a1, a2, a3⟩ | ⟨_, _, _, a1, _⟩
    · cases a1; subst a2; exact ⟨dl h1, a3⟩
    · cases a1
  · obtain ⟨y, h1, h2⟩ := relP_get h (get_pre q nofun)
    rcases h2 with ⟨x, a1, a2, a3⟩ | ⟨l', x, k, a1, a2, a3, a4, a5⟩
    · cases a1
    · cases a1; subst a2; exact ⟨k, dl h1, a3, fun _ => lt_of_get a3, nofun, a4⟩
  · exact relP_inj h hn (get_pre q1 nofun) (get_pre q2 nofun) (un q3) (un q4)
theorem fin_post {sls : List Sl} {ds : List D} {S S' : Cells} {m : Nat} {ρv' : VE} {ρ' : Env} (h : RelP S sls ds) (st : StS S.length (sls ++ List.replicate m .no) (ds.map some ++ List.replicate m none) S ρv' ρ' S') (hl : ρv'.length = sls.length + m) :
    PostP S' sls ds (pars sls.length ρv') ∧ ∀ k : Nat, k < S.length → k ∉ parRefs sls ds → S'[k]? = S[k]? := by
  have gt : ∀ {i : Nat} {s : Sl}, (ρv'.take sls.length)[i]? = some s → i < sls.length ∧ ρv'[i]? = some s := by
    intro i s e
    have hi : i < sls.length := by
      have := (List.getElem?_eq_some_iff.mp e).1
      rw [List.length_take] at this; omega
    rw [List.getElem?_take_of_lt hi] at e
    exact ⟨hi, e⟩
  have gp : ∀ {i : Nat} {s : Sl}, sls[i]? = some s → (sls ++ List.replicate m Sl.no)[i]? = some s := by
    intro i s e
    rw [List.getElem?_append_left (List.getElem?_eq_some_iff.mp e).1]; exact e
  have gd : ∀ {i : Nat} {d : D}, ds[i]? = some d → (ds.map some ++ List.replicate m none)[i]? = some (some d) := by
    intro i d e
    rw [List.getElem?_append_left (by rw [List.length_map]; exact (List.getElem?_eq_some_iff.mp e).1), List.getElem?_map, e] <;> rfl
  refine ⟨post_ok h (by rw [List.length_take]; omega) (fun i l d e => ?_) (fun i l d k e1 e2 => ?_), fun k hk ho => st.fr k hk fun o => ho ?_⟩
  · obtain ⟨hi, e⟩ := gt e
    obtain ⟨l', d', z⟩ := st.par e
    exact ⟨l', d', get_pre z nofun⟩
  · obtain ⟨z1, l', d', z2, z3⟩ := st.keep (gp e1) (.inl rfl)
    rw [gd e2] at z1
    obtain ⟨k', y1, y2, _, _, y5⟩ := st.rel.own z2
    rw [z1] at y1; cases y1
    exact ⟨l', d', by rw [List.getElem?_take_of_lt (List.getElem?_eq_some_iff.mp e1).1]; exact z2, y2, z3, y5⟩
  · obtain ⟨i, p, l, d, o1, o2⟩ := o
    obtain ⟨y, h1, h2⟩ := relP_get h (get_pre o1 nofun)
    rcases h2 with ⟨x, a1, _⟩ | ⟨l', x, k', a1, a2, a3, a4, a5⟩
    · cases a1
    · subst a2
      rw [gd h1] at o2
      cases o2
      exact a5
theorem post_take {S S' : Cells} {n : Nat} (hS : S'.take n = S.take n) : ∀ {sls : List Sl} {ds : List D} {qs : List Sl}, (∀ m ∈ parRefs sls ds, m < n) → PostP S sls ds qs → PostP S' sls ds qs
  | [], [], [], _, _ => trivial
  | .v x :: sls, d :: ds, qs, h, hp => post_take hS (sls := sls) (ds := ds) h hp
  | .own p l x :: sls, .ref m :: ds, .own p' l' d' :: qs, h, hp => ⟨hp.1, (get_of_take hS (h m (by simp [parRefs]))).trans hp.2.1, hp.2.2.1, hp.2.2.2.1, post_take hS (fun k hk => h k (by simp [parRefs, hk])) hp.2.2.2.2⟩
  | .own _ _ _ :: _, .ref _ :: _, [], _, hp => hp.elim
  | .own _ _ _ :: _, .ref _ :: _, .no :: _, _, hp => hp.elim
  | .own _ _ _ :: _, .ref _ :: _, .v _ :: _, _, hp => hp.elim
  | .own _ _ _ :: _, .non :: _, _, _, hp | .own _ _ _ :: _, .bl _ :: _, _, _, hp | .own _ _ _ :: _, .int _ :: _, _, _, hp | .own _ _ _ :: _, .str _ :: _, _, _, hp | .own _ _ _ :: _, .tup _ :: _, _, _, hp | .own _ _ _ :: _, .lst _ :: _, _, _, hp | .own _ _ _ :: _, .dic _ _ :: _, _, _, hp | .own _ _ _ :: _, .glo _ :: _, _, _, hp | .own _ _ _ :: _, .ty _ :: _, _, _, hp | .own _ _ _ :: _, .scr _ :: _, _, _, hp => hp.elim
  | .no :: _, _, _, _, hp => by cases hp
  | [], [], _ :: _, _, hp => hp.elim
  | [], _ :: _, _, _, hp => by cases hp
  | .v _ :: _, [], _, _, hp => by cases hp
  | .own _ _ _ :: _, [], _, _, hp => by cases hp
theorem refs_lt {S : Cells} : ∀ {sls : List Sl} {ds : List D}, RelP S sls ds → ∀ m ∈ parRefs sls ds, m < S.length
  | [], [], _, m, h => nomatch h
  | .v _ :: sls, _ :: ds, hp, m, h => refs_lt (sls := sls) (ds := ds) hp.2.2 m h
  | .own _ _ _ :: sls, _ :: ds, hp, m, h => by
    obtain ⟨_, ⟨k, rfl, h2, _⟩, h4⟩ := hp
    rcases List.mem_cons.mp h with rfl | h
    · exact lt_of_get h2
    · exact refs_lt h4 m h
  | .no :: _, _ :: _, h, _, _ => h.elim
  | [], _ :: _, h, _, _ => h.elim
  | .v _ :: _, [], h, _, _ => h.elim
  | .own _ _ _ :: _, [], h, _, _ => h.elim
  | .no :: _, [], h, _, _ => h.elim
theorem simC (prog : Str → Option Fn) (W : Nat) : ∀ k : Nat, SimC (callV prog W k) (callF prog W k)
  | 0 => fun _ _ _ _ _ _ => trivial
  | k + 1 => by
    intro f sls ds S h hn
    unfold callV callF
    cases prog f with
    | none => trivial
    | some fn =>
      dsimp only
      have hl := relP_len h
      by_cases c : sls.length = fn.np
      · rw [if_pos c, if_pos (by omega)]
        have hr := start_rel (m := fn.ns - fn.np) h hn
        have q := simSs (simC prog W k) W fn.body S.length _ _ S hr
        have tk : ∀ S' : Cells, (S'.take S.length).take S.length = S'.take S.length := fun S' => by rw [List.take_take, Nat.min_self]
        have pc : ∀ {S' S'' : Cells} {ρv' : VE} {ρ' : Env}, StS S.length (sls ++ List.replicate (fn.ns - fn.np) .no) (ds.map some ++ List.replicate (fn.ns - fn.np) none) S ρv' ρ' S' → S''.take S.length = S'.take S.length →
            PostP S'' sls ds (pars fn.np ρv') ∧ ∀ k : Nat, k < S.length → k ∉ parRefs sls ds → S''[k]? = S[k]? := by
          intro S' S'' ρv' ρ' st e
          obtain ⟨a1, a2⟩ := fin_post h st (by rw [st.len, List.length_append, List.length_replicate])
          rw [c] at a1
          exact ⟨post_take e (refs_lt h) a1, fun k h1 h2 => (get_of_take e h1).trans (a2 k h1 h2)⟩
        cases hv : evVSs (callV prog W k) W fn.body (sls ++ List.replicate (fn.ns - fn.np) .no) with
        | no => trivial
        | brk _ => trivial
        | cont _ => trivial
        | next ρv' =>
          rw [hv] at q
          obtain ⟨ρ', S', e, st⟩ := q
          rw [e]
          obtain ⟨a1, a2⟩ := pc st (tk S')
          exact ⟨.non, S'.take S.length, rfl, a1, a2, rfl, rfl, by rw [List.length_take]; have := st.len2; omega⟩
        | exn x ρv' =>
          rw [hv] at q
          obtain ⟨ρ', S', e, st⟩ := q
          rw [e]
          obtain ⟨a1, a2⟩ := pc st (tk S')
          exact ⟨S'.take S.length, rfl, a1, a2, by rw [List.length_take]; have := st.len2; omega⟩
        | ret r ρv' =>
          rw [hv] at q
          obtain ⟨d, ρ', S', e, st, z⟩ := q
          rw [e]
          have hb := st.len2
          have ln : (S'.take S.length).length = S.length := by rw [List.length_take]; omega
          have newc : ∀ {m : Nat} {x : D}, S'[m]? = some ⟨.mu, x⟩ → S.length ≤ m → isLD x = true → SimC1 sls ds S (.ok (.new x) (pars fn.np ρv')) (norm S.length (.ok (.ref m) S')) := by
            intro m x h1 h2 h3
            have e1 : norm S.length (R.ok (.ref m) S') = .ok (.ref S.length) (S'.take S.length ++ [⟨.mu, x⟩]) := by
              show (if m < S.length then _ else _) = _
              rw [if_neg (by omega), h1]
            rw [e1]
            obtain ⟨a1, a2⟩ := pc (S'' := S'.take S.length ++ [⟨.mu, x⟩]) st (by rw [List.take_append_of_le_length (by omega)]; exact tk S')
            refine ⟨_, _, rfl, a1, a2, rfl, by rw [List.length_append, ln] <;> rfl, ?_, h3⟩
            rw [List.getElem?_append_right (by omega), ln, Nat.sub_self] <;> rfl
          cases r with
          | v x =>
            obtain ⟨rfl, h2⟩ := z
            obtain ⟨a1, a2⟩ := pc st (tk S')
            refine ⟨d, S'.take S.length, ?_, a1, a2, rfl, h2, ln⟩
            show norm S.length (.ok d S') = _
            cases d <;> first | rfl | exact absurd h2 Bool.false_ne_true
          | new x =>
            obtain ⟨m, rfl, h2, h3, _, h5⟩ := z
            exact newc h2 h3 h5
          | loc i =>
            obtain ⟨m, rfl, h2⟩ := z
            show SimC1 _ _ _ (match ρv'[i]? with | some (.own false .mu d) => .ok (.new d) (pars fn.np ρv') | _ => .no) _
            cases hi : ρv'[i]? with
            | none => trivial
            | some s =>
              cases s with
              | no => trivial
              | v _ => trivial
              | own p l x =>
                cases p with
                | true => trivial
                | false =>
                  cases l with
                  | lk => trivial
                  | fz => trivial
                  | mu =>
                    obtain ⟨k', y1, y2, _, y4, y5⟩ := st.rel.own hi
                    rw [h2] at y1; cases y1
                    exact newc y2 (y4 rfl) y5
      · rw [if_neg c]; trivial
/-- the law's own call -/
theorem law_v {prog : Str → Option Fn} {W k : Nat} {x : Str} {ns : List Int} {sl : List Sl} (h : callV prog W k x [.v (.scr ns)] = .ok (.v (.bl true)) sl) : ∃ S, callF prog W k x [.scr ns] [] = .ok (.bl true) S := by
  have q := simC prog W k x [.v (.scr ns)] [.scr ns] [] ⟨rfl, rfl, trivial⟩ List.nodup_nil
  rw [h] at q
  obtain ⟨d, S', e, _, _, rfl, _⟩ := q
  exact ⟨S', e⟩
end VS

/-! VV, part X: reckoning. -/
namespace VS
open PySem

theorem call_defV {T : Txt} (ok : okTxt T = true) {d : DefT} (hd : d ∈ T.ds) {k W : Nat} {sls : List Sl} (hl : sls.length = d.fn.np) :
    callV T.prog W (k + 1) d.x sls = retV d.fn.np (evVSs (callV T.prog W k) W d.fn.body (sls ++ List.replicate (d.fn.ns - d.fn.np) .no)) := by
  have e : T.prog d.x = some d.fn := by unfold Txt.prog; rw [T.find_of ok hd] <;> rfl
  rw [callV, e]
  exact if_pos hl

section
variable {α β : Type}








end
--VV
section
variable {α β : Type} {ρ : VE}
theorem v_bind {a : α} {f : α → VE → V β} : (V.ok a ρ).bind f = f a ρ := rfl
theorem v_of {a : α} {f : α → V β} : V.of (some a) f = f a := rfl
theorem v_need {r : V α} : V.need true r = r := rfl
theorem v_ct {r s : V α} : V.cond true r s = r := rfl
theorem v_cf {r s : V α} : V.cond false r s = s := rfl
theorem v_only {a : α} : (V.ok a ρ).only = .ok a ρ := rfl
theorem v_toF {a : α} {f : α → VE → FV} : (V.ok a ρ).toF f = f a ρ := rfl
theorem f_thn {f : VE → FV} : (FV.next ρ).thn f = f ρ := rfl
theorem f_thr {r : VR} {f : VE → FV} : (FV.ret r ρ).thn f = .ret r ρ := rfl
theorem f_thb {f : VE → FV} : (FV.brk ρ).thn f = .brk ρ := rfl
theorem f_thc {f : VE → FV} : (FV.cont ρ).thn f = .cont ρ := rfl
theorem f_of {a : α} {f : α → FV} : FV.of (some a) f = f a := rfl
theorem f_ct {r s : FV} : FV.cond true r s = r := rfl
theorem f_cf {r s : FV} : FV.cond false r s = s := rfl
-- slots
def slD : Option Sl → Option D | some (.own _ _ d) => some d | _ => none
theorem rs_v {d : D} : rsv ρ (.v d) = some d := rfl
theorem rs_n {d : D} : rsv ρ (.new d) = some d := rfl
theorem rs_l {i : Nat} : rsv ρ (.loc i) = slD ρ[i]? := by unfold rsv slD; rfl
theorem sl_o {p : Bool} {l : Lk} {d : D} : slD (some (.own p l d)) = some d := rfl
theorem v_res {r : VR} {f : D → V β} : V.res r ρ f = V.of (rsv ρ r) f := rfl
theorem v_tr {r : VR} {f : Bool → V β} : V.tr r ρ f = V.of (rsv ρ r) fun d => V.of (truV d) f := rfl
theorem rl_n : resL ρ [] = some [] := rfl
def resC : Option D → Option (List D) → Option (List D) | some d, some ds => some (d :: ds) | _, _ => none
theorem rl_c {r : VR} {rs : List VR} : resL ρ (r :: rs) = resC (rsv ρ r) (resL ρ rs) := rfl
theorem rl_k {d : D} {ds : List D} : resC (some d) (some ds) = some (d :: ds) := rfl
theorem g_0 {a : α} {l : List α} : (a :: l)[0]? = some a := rfl
theorem g_s {a : α} {l : List α} {i : Nat} : (a :: l)[i + 1]? = l[i]? := rfl
theorem st_0 {a b : α} {l : List α} : (a :: l).set 0 b = b :: l := rfl
theorem st_s {a b : α} {l : List α} {i : Nat} : (a :: l).set (i + 1) b = a :: l.set i b := rfl
def lookC (i : Nat) (ρ : VE) : Option Sl → V VR | some (.v d) => .ok (.v d) ρ | some (.own _ _ _) => .ok (.loc i) ρ | _ => .no
theorem lk_e {i : Nat} : lookV ρ i = lookC i ρ ρ[i]? := by unfold lookV lookC; rfl
theorem lk_v {i : Nat} {d : D} : lookC i ρ (some (.v d)) = .ok (.v d) ρ := rfl
theorem lk_o {i : Nat} {p : Bool} {l : Lk} {d : D} : lookC i ρ (some (.own p l d)) = .ok (.loc i) ρ := rfl
def frzC (i : Nat) (ρ : VE) : Option Sl → V D | some (.own false .mu d) => .ok d (ρ.set i .no) | _ => .no
theorem fz_v {d : D} : frzV (.v d) ρ = .ok d ρ := rfl
theorem fz_n {d : D} : frzV (.new d) ρ = .ok d ρ := rfl
theorem fz_l {i : Nat} : frzV (.loc i) ρ = frzC i ρ ρ[i]? := by unfold frzV frzC; rfl
theorem fz_o {i : Nat} {d : D} : frzC i ρ (some (.own false .mu d)) = .ok d (ρ.set i .no) := rfl
theorem fs_n : frzVs [] ρ = .ok [] ρ := rfl
theorem fs_c {r : VR} {rs : List VR} : frzVs (r :: rs) ρ = (frzV r ρ).bind fun d ρ => (frzVs rs ρ).bind fun ds ρ => .ok (d :: ds) ρ := rfl
-- what comes
theorem vl_int {i : Int} : vl (.int i) ρ = .ok (.v (.int i)) ρ := rfl
theorem vl_str {i : Str} : vl (.str i) ρ = .ok (.v (.str i)) ρ := rfl
theorem vl_bl {i : Bool} : vl (.bl i) ρ = .ok (.v (.bl i)) ρ := rfl
theorem vl_tup {i : List D} : vl (.tup i) ρ = .ok (.v (.tup i)) ρ := rfl
theorem vl_lst {i : List D} : vl (.lst i) ρ = .ok (.v (.lst i)) ρ := rfl
theorem vl_dic {i : List L2.Key} {j : List D} : vl (.dic i j) ρ = .ok (.v (.dic i j)) ρ := rfl
theorem vl_non : vl .non ρ = .ok (.v .non) ρ := rfl
theorem vl_glo {i : Str} : vl (.glo i) ρ = .ok (.v (.glo i)) ρ := rfl
theorem bv_s {b : Bool} : bV (some b) ρ = .ok (.v (.bl b)) ρ := rfl
theorem or_ok {d : D} : ofR (.ok d []) ρ = vl d ρ := by
  cases d <;> first | rfl | skip
  rename_i n
  cases n <;> rfl
theorem or_nl {xs : List D} : ofR (newL xs []) ρ = .ok (.new (.lst xs)) ρ := rfl
theorem or_nd {ks : List L2.Key} {vs : List D} : ofR (newD ks vs []) ρ = .ok (.new (.dic ks vs)) ρ := rfl
theorem or_n {c : Bool} {r : R D} : ofR (R.need c r) ρ = V.need c (ofR r ρ) := by cases c <;> rfl
theorem tv_bl {b : Bool} : truV (.bl b) = some b := rfl
theorem tv_int {b : Int} : truV (.int b) = some (b != 0) := rfl
theorem tv_non : truV .non = some false := rfl
theorem tv_lst {b : List D} : truV (.lst b) = some (!b.isEmpty) := rfl
theorem tv_tup {b : List D} : truV (.tup b) = some (!b.isEmpty) := rfl
-- arguments
def argC : Option Sl → Option Sl | some (.own _ l d) => some (.own true l d) | _ => none
theorem ag_v {d : D} : argSl ρ (.v d) = some (.v d) := rfl
theorem ag_n {d : D} : argSl ρ (.new d) = some (.own true .mu d) := rfl
theorem ag_l {i : Nat} : argSl ρ (.loc i) = argC ρ[i]? := by unfold argSl argC; rfl
theorem ag_o {p : Bool} {l : Lk} {d : D} : argC (some (.own p l d)) = some (.own true l d) := rfl
def agsC : Option Sl → Option (List Sl) → Option (List Sl) | some d, some ds => some (d :: ds) | _, _ => none
theorem as_n : argSls ρ [] = some [] := rfl
theorem as_c {r : VR} {rs : List VR} : argSls ρ (r :: rs) = agsC (argSl ρ r) (argSls ρ rs) := rfl
theorem as_k {d : Sl} {ds : List Sl} : agsC (some d) (some ds) = some (d :: ds) := rfl
theorem nd_n : ndl [] = true := rfl
theorem nd_v {d : D} {rs : List VR} : ndl (.v d :: rs) = ndl rs := rfl
theorem nd_w {d : D} {rs : List VR} : ndl (.new d :: rs) = ndl rs := rfl
theorem nd_l {i : Nat} {rs : List VR} : ndl (.loc i :: rs) = (!locIn i rs && ndl rs) := rfl
theorem li_n {i : Nat} : locIn i [] = false := rfl
theorem li_v {i : Nat} {d : D} {rs : List VR} : locIn i (.v d :: rs) = locIn i rs := rfl
theorem li_w {i : Nat} {d : D} {rs : List VR} : locIn i (.new d :: rs) = locIn i rs := rfl
theorem li_l {i j : Nat} {rs : List VR} : locIn i (.loc j :: rs) = (i == j || locIn i rs) := rfl
def putC (i : Nat) (l : Lk) (d : D) (rs : List VR) (sl : List Sl) (ρ : VE) : Option Sl → Option VE | some (.own p _ _) => putBack rs sl (ρ.set i (.own p l d)) | _ => none
theorem pb_n : putBack [] [] ρ = some ρ := rfl
theorem pb_v {d : D} {rs : List VR} {sl : List Sl} : putBack (.v d :: rs) sl ρ = putBack rs sl ρ := by cases sl <;> rfl
theorem pb_w {d : D} {rs : List VR} {s : Sl} {sl : List Sl} : putBack (.new d :: rs) (s :: sl) ρ = putBack rs sl ρ := rfl
theorem pb_l {i : Nat} {rs : List VR} {p : Bool} {l : Lk} {d : D} {sl : List Sl} : putBack (.loc i :: rs) (.own p l d :: sl) ρ = putC i l d rs sl ρ ρ[i]? := by unfold putC; rw [putBack] <;> rfl
theorem pb_o {i : Nat} {l l' : Lk} {d d' : D} {rs : List VR} {sl : List Sl} {p : Bool} : putC i l d rs sl ρ (some (.own p l' d')) = putBack rs sl (ρ.set i (.own p l d)) := rfl
theorem bk_o {rs : List VR} {r : VR} {sl : List Sl} : backV rs ρ (.ok r sl) = V.of (putBack rs sl ρ) fun ρ => .ok r ρ := rfl
theorem cl_r {Φ : CallV} {f : Str} {rs : List VR} : callR Φ f rs ρ = V.need (ndl rs) (V.of (argSls ρ rs) fun sls => backV rs ρ (Φ f sls)) := rfl
-- targets
def putSC (i : Nat) (s : Sl) (ρ : VE) : Option Sl → Option VE | some .no => some (ρ.set i s) | some (.v _) => some (ρ.set i s) | some (.own false .mu _) => some (ρ.set i s) | _ => none
theorem ps_e {i : Nat} {s : Sl} : putSl i s ρ = putSC i s ρ ρ[i]? := by unfold putSl putSC; rfl
theorem ps_n {i : Nat} {s : Sl} : putSC i s ρ (some .no) = some (ρ.set i s) := rfl
theorem ps_v {i : Nat} {s : Sl} {d : D} : putSC i s ρ (some (.v d)) = some (ρ.set i s) := rfl
theorem ps_o {i : Nat} {s : Sl} {d : D} : putSC i s ρ (some (.own false .mu d)) = some (ρ.set i s) := rfl
def nrO (d : D) (o : Option VE) : Option VE := if d.nr = true then o else none
theorem pd_e {i : Nat} {d : D} : putD i d ρ = nrO d (putSl i (.v d) ρ) := rfl
theorem no_int {i : Int} {o : Option VE} : nrO (.int i) o = o := rfl
theorem no_str {i : Str} {o : Option VE} : nrO (.str i) o = o := rfl
theorem no_bl {i : Bool} {o : Option VE} : nrO (.bl i) o = o := rfl
theorem no_tup {i : List D} {o : Option VE} : nrO (.tup i) o = o := rfl
theorem no_lst {i : List D} {o : Option VE} : nrO (.lst i) o = o := rfl
theorem no_dic {i : List L2.Key} {j : List D} {o : Option VE} : nrO (.dic i j) o = o := rfl
theorem no_non {o : Option VE} : nrO .non o = o := rfl
theorem no_glo {i : Str} {o : Option VE} : nrO (.glo i) o = o := rfl
def asC (is : List Nat) (ds : List D) : Option VE → Option VE | some ρ => asgsV is ds ρ | none => none
theorem av_n : asgsV [] [] ρ = some ρ := rfl
theorem av_c {i : Nat} {is : List Nat} {d : D} {ds : List D} : asgsV (i :: is) (d :: ds) ρ = asC is ds (putD i d ρ) := by rw [asgsV]; unfold asC; rfl
theorem av_k {is : List Nat} {ds : List D} : asC is ds (some ρ) = asgsV is ds ρ := rfl
theorem ag1 {i : Nat} {d : D} : asgV (.v i) d ρ = putD i d ρ := rfl
theorem ag2 {is : List Nat} {ds : List D} : asgV (.tup is) (.tup ds) ρ = asgsV is ds ρ := rfl
theorem wp_n : wipeV ρ [] = ρ := rfl
theorem wp_c {v : Nat} {vs : List Nat} : wipeV ρ (v :: vs) = (wipeV ρ vs).set v .no := rfl
theorem ro_n {ρ0 : VE} : resto ρ0 ρ [] = ρ := rfl
theorem ro_c {ρ0 : VE} {v : Nat} {vs : List Nat} : resto ρ0 ρ (v :: vs) = (resto ρ0 ρ vs).set v (ρ0.getD v .no) := rfl
theorem gd_0 {a b : α} {l : List α} : (a :: l).getD 0 b = a := rfl
theorem gd_s {a b : α} {l : List α} {i : Nat} : (a :: l).getD (i + 1) b = l.getD i b := rfl
theorem mn_n {i : Nat} : memN i [] = false := rfl
theorem mn_c {i j : Nat} {r : List Nat} : memN i (j :: r) = (i == j || memN i r) := rfl
theorem ti_v {i : Nat} {w : List Nat} : tgIn (.v i) w = memN i w := rfl
theorem ti_t {i : List Nat} {w : List Nat} : tgIn (.tup i) w = i.all fun i => memN i w := rfl
-- walks
def holdC (i : Nat) (ρ : VE) : Option Sl → V WalkedV | some (.own p .mu (.lst xs)) => .ok (xs, some i) (ρ.set i (.own p .lk (.lst xs))) | some (.own _ .lk (.lst xs)) => .ok (xs, none) ρ | _ => .no
theorem tn_0 {f : D → VE → V (List D)} : turnsV f [] ρ = .ok [] ρ := rfl
theorem tn_1 {f : D → VE → V (List D)} {x : D} : turnsV f [x] ρ = f x ρ := by
  show (f x ρ).bind _ = _
  cases f x ρ with
  | ok a ρ => show V.ok (a ++ []) ρ = _; rw [List.append_nil]
  | exn _ _ => rfl
  | no => rfl
theorem hv_l {xs : List D} : holdV (.v (.lst xs)) ρ = .ok (xs, none) ρ := rfl
theorem hv_t {xs : List D} : holdV (.v (.tup xs)) ρ = .ok (xs, none) ρ := rfl
theorem hv_s {s : Str} : holdV (.v (.str s)) ρ = .ok (s.cps.toList.map fun c => D.str ⟨#[c]⟩, none) ρ := rfl
theorem hv_n {xs : List D} : holdV (.new (.lst xs)) ρ = .ok (xs, none) ρ := rfl
theorem hv_o {i : Nat} : holdV (.loc i) ρ = holdC i ρ ρ[i]? := by unfold holdV holdC; rfl
theorem hc_m {i : Nat} {p : Bool} {xs : List D} : holdC i ρ (some (.own p .mu (.lst xs))) = .ok (xs, some i) (ρ.set i (.own p .lk (.lst xs))) := rfl
theorem hc_l {i : Nat} {p : Bool} {xs : List D} : holdC i ρ (some (.own p .lk (.lst xs))) = .ok (xs, none) ρ := rfl
theorem hl_l {xs : List D} : holdVL (.v (.lst xs)) ρ = .ok (xs, none) ρ := rfl
theorem hl_n {xs : List D} : holdVL (.new (.lst xs)) ρ = .ok (xs, none) ρ := rfl
theorem hl_o {i : Nat} : holdVL (.loc i) ρ = holdC i ρ ρ[i]? := by unfold holdVL; exact hv_o
def freeC (i : Nat) (ρ : VE) : Option Sl → Option VE | some (.own p .lk d) => some (ρ.set i (.own p .mu d)) | _ => none
theorem fr_n : freeV none ρ = some ρ := rfl
theorem fr_s {i : Nat} : freeV (some i) ρ = freeC i ρ ρ[i]? := by unfold freeV freeC; rfl
theorem fr_o {i : Nat} {p : Bool} {d : D} : freeC i ρ (some (.own p .lk d)) = some (ρ.set i (.own p .mu d)) := rfl
theorem ed_v {xs : List D} {o : Option Nat} {ys : List D} : endV (xs, o) ys ρ = V.of (freeV o ρ) fun ρ => V.need (decide (ys.length ≤ line)) (.ok (.new (.lst ys)) ρ) := rfl
-- changes
def growC (i : Nat) (ρ : VE) (ok : List D → Bool) (g : List D → List D) (o : List D → D) : Option Sl → V VR | some (.own p .mu (.lst xs)) => V.need (ok xs) (vl (o xs) (ρ.set i (.own p .mu (.lst (g xs))))) | _ => .no
theorem gw_l {i : Nat} {ok : List D → Bool} {g : List D → List D} {o : List D → D} : growV (.loc i) ρ ok g o = growC i ρ ok g o ρ[i]? := by unfold growV growC; rfl
theorem gw_o {i : Nat} {ok : List D → Bool} {g : List D → List D} {o : List D → D} {p : Bool} {xs : List D} : growC i ρ ok g o (some (.own p .mu (.lst xs))) = V.need (ok xs) (vl (o xs) (ρ.set i (.own p .mu (.lst (g xs))))) := rfl
theorem mt_a {o x : VR} : mthVV .append o [x] ρ = (frzV x ρ).bind fun x ρ => growV o ρ (fun xs => decide (xs.length + 1 ≤ line)) (fun xs => xs ++ [x]) (fun _ => .non) := rfl
theorem mt_p {o : VR} : mthVV .pop0 o [.v (.int 0)] ρ = growV o ρ (fun xs => !xs.isEmpty) List.tail (fun xs => xs.headD .non) := rfl
theorem mt_r {o : VR} : mthVV .reverse o [] ρ = growV o ρ (fun _ => true) List.reverse (fun _ => .non) := rfl
theorem mt_j {o : VR} {rs : List VR} : mthVV .join o rs ρ = V.of (rsv ρ o) fun o => V.of (resL ρ rs) fun ds => ofR (mthV .join o ds []) ρ := rfl
theorem mt_i {o : VR} {rs : List VR} : mthVV .index o rs ρ = V.of (rsv ρ o) fun o => V.of (valsV rs) fun ds => ofR (mthV .index o ds []) ρ := rfl
theorem mt_1 {o : VR} {rs : List VR} : mthVV .get1 o rs ρ = V.of (rsv ρ o) fun o => V.of (valsV rs) fun ds => ofR (mthV .get1 o ds []) ρ := rfl
theorem mt_2 {o : VR} {rs : List VR} : mthVV .get2 o rs ρ = V.of (rsv ρ o) fun o => V.of (valsV rs) fun ds => ofR (mthV .get2 o ds []) ρ := rfl
def extC (o : VR) (ρ : VE) : D → V VR | .lst ys => growV o ρ (fun xs => decide (xs.length + ys.length ≤ line)) (fun xs => xs ++ ys) (fun _ => .non) | _ => .no
theorem mt_e {o x : VR} : mthVV .extend o [x] ρ = V.of (rsv ρ x) (extC o ρ) := by show V.of _ _ = _; congr 1
theorem ex_l {o : VR} {ys : List D} : extC o ρ (.lst ys) = growV o ρ (fun xs => decide (xs.length + ys.length ≤ line)) (fun xs => xs ++ ys) (fun _ => .non) := rfl
theorem mk_j {s : Str} : mthK .join (some (.str s)) = true := rfl
theorem mk_1 {a : List L2.Key} {b : List D} : mthK .get1 (some (.dic a b)) = true := rfl
theorem mk_2 {a : List L2.Key} {b : List D} : mthK .get2 (some (.dic a b)) = true := rfl
theorem mk_a {a : List D} : mthK .append (some (.lst a)) = true := rfl
theorem mk_e {a : List D} : mthK .extend (some (.lst a)) = true := rfl
theorem mk_p {a : List D} : mthK .pop0 (some (.lst a)) = true := rfl
theorem mk_r {a : List D} : mthK .reverse (some (.lst a)) = true := rfl
theorem mk_i {a : List D} : mthK .index (some (.lst a)) = true := rfl
theorem vs_n : valsV [] = some [] := rfl
theorem vs_c {d : D} {rs : List VR} : valsV (.v d :: rs) = (valsV rs).map (d :: ·) := rfl
theorem om_s {f : α → β} {a : α} : (some a).map f = some (f a) := rfl
def setC (j : Nat) (i : VR) (x : D) (ρ : VE) : Option Sl → V VR
  | some (.own p .mu (.lst xs)) => match i with
    | .v (.int n) => V.of (atN xs.length n) fun k => .ok (.v .non) (ρ.set j (.own p .mu (.lst (xs.set k x))))
    | _ => .no
  | some (.own p .mu (.dic ks vs)) => match i with
    | .v i => V.of (keyOf i) fun k => V.need (decide (ks.length < line)) (.ok (.v .non) (ρ.set j (.own p .mu (.dic (dputK ks k) (dputV ks vs k x)))))
    | _ => .no
  | _ => .no
theorem sv_e {j : Nat} {i x : VR} : setVV (.loc j) i x ρ = (frzV x ρ).bind fun x ρ => setC j i x ρ ρ[j]? := by
  unfold setVV
  cases frzV x ρ with
  | ok x ρ => show (match ρ[j]? with | _ => _) = setC j i x ρ ρ[j]?; unfold setC; rfl
  | exn _ _ => rfl
  | no => rfl
theorem sv_l {j : Nat} {n : Int} {x : D} {p : Bool} {xs : List D} : setC j (.v (.int n)) x ρ (some (.own p .mu (.lst xs))) = V.of (atN xs.length n) fun k => .ok (.v .non) (ρ.set j (.own p .mu (.lst (xs.set k x)))) := rfl
theorem sv_d {j : Nat} {i : D} {x : D} {p : Bool} {ks : List L2.Key} {vs : List D} : setC j (.v i) x ρ (some (.own p .mu (.dic ks vs))) = V.of (keyOf i) fun k => V.need (decide (ks.length < line)) (.ok (.v .non) (ρ.set j (.own p .mu (.dic (dputK ks k) (dputV ks vs k x))))) := rfl
theorem ky_s {s : Str} : keyOf (.str s) = some (.inr s) := rfl
theorem ky_i {s : Int} : keyOf (.int s) = some (.inl s) := rfl
theorem sr_v {i : Nat} {d : D} : setR i (.v d) ρ = FV.of (putSl i (.v d) ρ) .next := rfl
theorem sr_n {i : Nat} {d : D} : setR i (.new d) ρ = FV.of (putSl i (.own false .mu d) ρ) .next := rfl
-- what a call tells
theorem rt_n {n : Nat} : retV n (.next ρ) = .ok (.v .non) (pars n ρ) := rfl
theorem rt_v {n : Nat} {d : D} : retV n (.ret (.v d) ρ) = .ok (.v d) (pars n ρ) := rfl
theorem rt_w {n : Nat} {d : D} : retV n (.ret (.new d) ρ) = .ok (.new d) (pars n ρ) := rfl
def retC (n : Nat) (ρ : VE) : Option Sl → V VR | some (.own false .mu d) => .ok (.new d) (pars n ρ) | _ => .no
theorem rt_l {n i : Nat} : retV n (.ret (.loc i) ρ) = retC n ρ ρ[i]? := by unfold retV retC; rfl
theorem rt_o {n : Nat} {d : D} : retC n ρ (some (.own false .mu d)) = .ok (.new d) (pars n ρ) := rfl
theorem pr_0 : pars 0 ρ = [] := rfl
theorem pr_v {n : Nat} {d : D} : pars (n + 1) (.v d :: ρ) = pars n ρ := rfl
theorem pr_n {n : Nat} : pars (n + 1) (.no :: ρ) = pars n ρ := rfl
theorem pr_o {n : Nat} {l : Lk} {d : D} : pars (n + 1) (.own true l d :: ρ) = .own true l d :: pars n ρ := rfl
theorem pr_f {n : Nat} {l : Lk} {d : D} : pars (n + 1) (.own false l d :: ρ) = pars n ρ := rfl
end
section
variable {Φ : CallV} {W : Nat} {ρ : VE}
theorem e_k {d : D} : evV Φ (.k d) ρ = vl d ρ := by rw [evV]
theorem e_v {i : Nat} : evV Φ (.v i) ρ = lookC i ρ ρ[i]? := by rw [evV, lk_e]
theorem e_g {x : Str} : evV Φ (.g x) ρ = .ok (.v (.glo x)) ρ := by rw [evV]
theorem e_tup {es : Exs} : evV Φ (.tup es) ρ = (evVs Φ es ρ).bind fun rs ρ => (frzVs rs ρ).bind fun ds ρ => V.need (decide (ds.length ≤ line)) (.ok (.v (.tup ds)) ρ) := by rw [evV]
theorem e_lst {es : Exs} : evV Φ (.lst es) ρ = (evVs Φ es ρ).bind fun rs ρ => (frzVs rs ρ).bind fun ds ρ => V.need (decide (ds.length ≤ line)) (.ok (.new (.lst ds)) ρ) := by rw [evV]
theorem e_bin {op : Bop} {a b : Ex} : evV Φ (.bin op a b) ρ = (evV Φ a ρ).bind fun x ρ => (evV Φ b ρ).bind fun y ρ => V.of (rsv ρ x) fun x => V.of (rsv ρ y) fun y => ofR (binV op x y []) ρ := by rw [evV] <;> rfl
def negC : VR → VE → V VR := fun x ρ => match x with | .v (.int i) => .ok (.v (.int (-i))) ρ | _ => .no
theorem e_neg {a : Ex} : evV Φ (.neg a) ρ = (evV Φ a ρ).bind negC := by rw [evV] <;> rfl
theorem ng_i {i : Int} : negC (.v (.int i)) ρ = .ok (.v (.int (-i))) ρ := rfl
theorem e_cmp {op : Cop} {a b : Ex} : evV Φ (.cmp op a b) ρ = (evV Φ a ρ).bind fun x ρ => (evV Φ b ρ).bind fun y ρ => V.of (rsv ρ x) fun x => V.of (rsv ρ y) fun y => bV (cmpV op x y) ρ := by rw [evV] <;> rfl
theorem e_chain {o p : Cop} {a b c : Ex} : evV Φ (.chain o p a b c) ρ = (evV Φ a ρ).bind fun x ρ => (evV Φ b ρ).bind fun y ρ => V.of (rsv ρ x) fun x' => V.of (rsv ρ y) fun y' => V.of (cmpV o x' y') fun t =>
    V.cond t ((evV Φ c ρ).bind fun z ρ => V.of (rsv ρ y) fun y => V.of (rsv ρ z) fun z => bV (cmpV p y z) ρ) (.ok (.v (.bl false)) ρ) := by rw [evV] <;> rfl
theorem e_and {a b : Ex} : evV Φ (.and a b) ρ = (evV Φ a ρ).bind fun x ρ => V.of (rsv ρ x) fun d => V.of (truV d) fun t => V.cond t (evV Φ b ρ) (.ok x ρ) := by rw [evV] <;> rfl
theorem e_or {a b : Ex} : evV Φ (.or a b) ρ = (evV Φ a ρ).bind fun x ρ => V.of (rsv ρ x) fun d => V.of (truV d) fun t => V.cond t (.ok x ρ) (evV Φ b ρ) := by rw [evV] <;> rfl
theorem e_not {a : Ex} : evV Φ (.not a) ρ = (evV Φ a ρ).bind fun x ρ => V.of (rsv ρ x) fun d => V.of (truV d) fun t => .ok (.v (.bl (!t))) ρ := by rw [evV] <;> rfl
theorem e_ite {t a b : Ex} : evV Φ (.ite t a b) ρ = (evV Φ t ρ).bind fun x ρ => V.of (rsv ρ x) fun d => V.of (truV d) fun t => V.cond t (evV Φ a ρ) (evV Φ b ρ) := by rw [evV] <;> rfl
def intC : VR → VE → V VR := fun x ρ => match x with | .v (.int i) => .ok (.v (.int i)) ρ | _ => .no
theorem e_int1 {a : Ex} : evV Φ (.int1 a) ρ = (evV Φ a ρ).bind intC := by rw [evV] <;> rfl
theorem in_i {i : Int} : intC (.v (.int i)) ρ = .ok (.v (.int i)) ρ := rfl
theorem e_ix {a b : Ex} : evV Φ (.ix a b) ρ = (evV Φ a ρ).bind fun x ρ => (evV Φ b ρ).bind fun y ρ => V.of (rsv ρ x) fun x => V.of (rsv ρ y) fun y => ofR (ixV x y []) ρ := by rw [evV] <;> rfl
def slC (x : D) (ρ : VE) : VR → VR → V VR | .v l, .v h => ofR (slV x l h []) ρ | _, _ => .no
theorem e_sl {a lo hi : Ex} : evV Φ (.sl a lo hi) ρ = (evV Φ a ρ).bind fun x ρ => (evV Φ lo ρ).bind fun l ρ => (evV Φ hi ρ).bind fun h ρ => V.of (rsv ρ x) fun x => slC x ρ l h := by rw [evV] <;> rfl
theorem sc_v {x l h : D} : slC x ρ (.v l) (.v h) = ofR (slV x l h []) ρ := rfl
theorem e_isi {a : Ex} {t : String} : evV Φ (.isi a t) ρ = (evV Φ a ρ).bind fun x ρ => V.of (rsv ρ x) fun x => bV (isiV t x) ρ := by rw [evV] <;> rfl
theorem e_call {f : Str} {es : Exs} : evV Φ (.call f es) ρ = (evVs Φ es ρ).bind fun rs ρ => callR Φ f rs ρ := by rw [evV]
def gloC (Φ : CallV) (es : Exs) : VR → VE → V VR := fun g ρ => match g with | .v (.glo f) => (evVs Φ es ρ).bind fun rs ρ => callR Φ f rs ρ | _ => .no
theorem e_callv {f : Ex} {es : Exs} : evV Φ (.callv f es) ρ = (evV Φ f ρ).bind (gloC Φ es) := by rw [evV] <;> rfl
theorem gl_c {es : Exs} {f : Str} : gloC Φ es (.v (.glo f)) ρ = (evVs Φ es ρ).bind fun rs ρ => callR Φ f rs ρ := rfl
theorem e_callk {f : Str} {pm : List Nat} {es : Exs} : evV Φ (.callk f pm es) ρ = (evVs Φ es ρ).bind fun rs ρ => V.of (valsV rs) fun ds => callR Φ f (pm.map fun i => .v (ds.getD i .non)) ρ := by rw [evV]
theorem e_fz {a : Ex} : evV Φ (.fz a) ρ = (evV Φ a ρ).bind fun x ρ => (frzV x ρ).bind fun d ρ => vl d ρ := by rw [evV]
theorem e_gc {x : Str} {d : D} : evV Φ (.gc x d) ρ = vl d ρ := by rw [evV]
def maxC (ρ : VE) : D → VR → V VR | .lst xs, .v (.int d) => V.of (intsD xs) fun is => .ok (.v (.int (maxD d is))) ρ | _, _ => .no
theorem e_maxd {a d : Ex} : evV Φ (.maxd a d) ρ = (evV Φ a ρ).bind fun x ρ => (evV Φ d ρ).bind fun y ρ => V.of (rsv ρ x) fun x => maxC ρ x y := by rw [evV] <;> rfl
theorem mx_c {xs : List D} {d : Int} : maxC ρ (.lst xs) (.v (.int d)) = V.of (intsD xs) fun is => .ok (.v (.int (maxD d is))) ρ := rfl
def ssC (ρ : VE) : D → V VR | .lst xs => V.of (strsD xs) fun ss => V.need (decide (ss.length < 4000)) (.ok (.new (.lst ((sortS (dedS ss)).map .str))) ρ) | _ => .no
theorem e_sset {a : Ex} : evV Φ (.sset a) ρ = (evV Φ a ρ).bind fun x ρ => V.of (rsv ρ x) (ssC ρ) := by rw [evV] <;> rfl
theorem ss_c {xs : List D} : ssC ρ (.lst xs) = V.of (strsD xs) fun ss => V.need (decide (ss.length < 4000)) (.ok (.new (.lst ((sortS (dedS ss)).map .str))) ρ) := rfl
theorem e_dnew : evV Φ .dnew ρ = .ok (.new (.dic [] [])) ρ := by rw [evV]
theorem e_disp {ks : List L2.Key} {vs : Exs} : evV Φ (.disp ks vs) ρ = (evVs Φ vs ρ).bind fun rs ρ => (frzVs rs ρ).bind fun ds ρ =>
    V.need (decide (ks.length = ds.length) && decide (ks.length ≤ 15)) (.ok (.new (.dic (dputs [] [] (ks.zip ds)).1 (dputs [] [] (ks.zip ds)).2)) ρ) := by rw [evV]
def itC (ρ : VE) : D → V VR | .dic ks vs => .ok (.new (.lst (itemsD ks vs))) ρ | _ => .no
theorem e_items {a : Ex} : evV Φ (.items a) ρ = (evV Φ a ρ).bind fun x ρ => V.of (rsv ρ x) (itC ρ) := by rw [evV] <;> rfl
theorem it_d {ks : List L2.Key} {vs : List D} : itC ρ (.dic ks vs) = .ok (.new (.lst (itemsD ks vs))) ρ := rfl
def rvC (ρ : VE) : D → V VR | .lst xs => .ok (.new (.lst xs.reverse)) ρ | _ => .no
theorem e_rvs {a : Ex} : evV Φ (.rvs a) ρ = (evV Φ a ρ).bind fun x ρ => V.of (rsv ρ x) (rvC ρ) := by rw [evV] <;> rfl
theorem rv_l {xs : List D} : rvC ρ (.lst xs) = .ok (.new (.lst xs.reverse)) ρ := rfl
theorem e_blt {b : Blt} {es : Exs} : evV Φ (.blt b es) ρ = (evVs Φ es ρ).bind fun rs ρ => V.of (resL ρ rs) fun ds => ofR (bltV b ds []) ρ := by rw [evV]
theorem e_mth {m : Mth} {o : Ex} {es : Exs} : evV Φ (.mth m o es) ρ = (evV Φ o ρ).bind fun x ρ => V.need (mthK m (rsv ρ x)) ((evVs Φ es ρ).bind fun rs ρ => mthVV m x rs ρ) := by rw [evV]
def lcT (Φ : CallV) (elt : Ex) (w : List Nat) (tg : Tg) (ifs : Exs) (x : D) (ρ1 : VE) : V (List D) := V.of (asgV tg x (wipeV ρ1 w)) fun ρ2 => ((evTsV Φ ifs ρ2).only).bind fun t ρ3 =>
      V.cond t ((((evV Φ elt ρ3).bind fun r ρ => frzV r ρ).only).bind fun d ρ4 => .ok [d] (resto ρ1 ρ4 w)) (.ok [] (resto ρ1 ρ3 w))
theorem e_lc {elt : Ex} {w : List Nat} {tg : Tg} {it : It} {ifs : Exs} : evV Φ (.lc elt w tg it ifs) ρ = V.need (tgIn tg w) ((evIV Φ it ρ).bind fun wk ρ => (turnsV (lcT Φ elt w tg ifs) wk.1 ρ).bind fun ys ρ => endV wk ys ρ) := by rw [evV] <;> rfl
def lc2T (Φ : CallV) (elt : Ex) (w w1 : List Nat) (tg : Tg) (ifs : Exs) (tg1 : Tg) (it1 : It) (ifs1 : Exs) (x : D) (ρ1 : VE) : V (List D) := V.of (asgV tg x (wipeV ρ1 w)) fun ρ2 => ((evTsV Φ ifs ρ2).only).bind fun t ρ3 =>
      V.cond t (((evIV Φ it1 ρ3).only).bind fun wk1 ρ4 => (turnsV (lcT Φ elt w1 tg1 ifs1) wk1.1 ρ4).only.bind fun ys ρ9 => V.of (freeV wk1.2 ρ9) fun ρ10 => .ok ys (resto ρ1 ρ10 w))
        (.ok [] (resto ρ1 ρ3 w))
theorem e_lc2 {elt : Ex} {w w1 : List Nat} {tg tg1 : Tg} {it it1 : It} {ifs ifs1 : Exs} : evV Φ (.lc2 elt w w1 tg it ifs tg1 it1 ifs1) ρ = V.need (tgIn tg w && tgIn tg1 w1) ((evIV Φ it ρ).bind fun wk ρ => (turnsV (lc2T Φ elt w w1 tg ifs tg1 it1 ifs1) wk.1 ρ).bind fun ys ρ => endV wk ys ρ) := by rw [evV] <;> rfl
theorem e_nil : evVs Φ .nil ρ = .ok [] ρ := by rw [evVs]
theorem e_cons {e : Ex} {es : Exs} : evVs Φ (.cons e es) ρ = (evV Φ e ρ).bind fun r ρ => (evVs Φ es ρ).bind fun rs ρ => .ok (r :: rs) ρ := by rw [evVs]
theorem t_nil : evTsV Φ .nil ρ = .ok true ρ := by rw [evTsV]
theorem t_cons {e : Ex} {es : Exs} : evTsV Φ (.cons e es) ρ = (evV Φ e ρ).bind fun r ρ => V.of (rsv ρ r) fun d => V.of (truV d) fun t => V.cond t (evTsV Φ es ρ) (.ok false ρ) := by rw [evTsV] <;> rfl
theorem i_seq {e : Ex} : evIV Φ (.seq e) ρ = (evV Φ e ρ).bind fun r ρ => holdV r ρ := by rw [evIV]
def rg1C : VR → VE → V WalkedV := fun d ρ => match d with | .v (.int n) => V.need (decide (n < 4611686018427387904) && decide (-4611686018427387904 ≤ n)) (.ok (rngD 0 n.toNat, none) ρ) | _ => .no
theorem i_rng1 {a : Ex} : evIV Φ (.rng1 a) ρ = (evV Φ a ρ).bind rg1C := by rw [evIV] <;> rfl
theorem rg_1 {n : Int} : rg1C (.v (.int n)) ρ = V.need (decide (n < 4611686018427387904) && decide (-4611686018427387904 ≤ n)) (.ok (rngD 0 n.toNat, none) ρ) := rfl
def rg2C : VR → VR → VE → V WalkedV := fun d e ρ => match d, e with | .v (.int m), .v (.int n) => V.need (decide (n < 4611686018427387904) && decide (-4611686018427387904 ≤ n) && decide (m < 4611686018427387904) && decide (-4611686018427387904 ≤ m)) (.ok (rngD m (n - m).toNat, none) ρ) | _, _ => .no
theorem i_rng2 {a b : Ex} : evIV Φ (.rng2 a b) ρ = (evV Φ a ρ).bind fun d ρ => (evV Φ b ρ).bind fun e ρ => rg2C d e ρ := by rw [evIV] <;> rfl
theorem rg_2 {m n : Int} : rg2C (.v (.int m)) (.v (.int n)) ρ = V.need (decide (n < 4611686018427387904) && decide (-4611686018427387904 ≤ n) && decide (m < 4611686018427387904) && decide (-4611686018427387904 ≤ m)) (.ok (rngD m (n - m).toNat, none) ρ) := rfl
theorem i_enum {e : Ex} : evIV Φ (.enum e) ρ = (evV Φ e ρ).bind fun r ρ => (holdVL r ρ).bind fun w ρ => .ok (enumD w.1, w.2) ρ := by rw [evIV]
theorem i_rev {e : Ex} : evIV Φ (.rev e) ρ = (evV Φ e ρ).bind fun r ρ => (holdVL r ρ).bind fun w ρ => .ok (w.1.reverse, w.2) ρ := by rw [evIV]
theorem s_expr {e : Ex} : evVS Φ W (.expr e) ρ = (evV Φ e ρ).toF fun _ ρ => .next ρ := by rw [evVS]
theorem s_ret {e : Ex} : evVS Φ W (.ret e) ρ = (evV Φ e ρ).toF fun r ρ => .ret r ρ := by rw [evVS]
theorem s_retN : evVS Φ W .retN ρ = .ret (.v .non) ρ := by rw [evVS]
theorem s_set {i : Nat} {e : Ex} : evVS Φ W (.set i e) ρ = (evV Φ e ρ).toF fun r ρ => setR i r ρ := by rw [evVS]
def unpC (is : List Nat) : VR → VE → FV := fun r ρ => match r with | .v (.tup ds) => FV.of (asgsV is ds ρ) .next | _ => .no
theorem s_unp {is : List Nat} {e : Ex} : evVS Φ W (.unp is e) ρ = (evV Φ e ρ).toF (unpC is) := by rw [evVS] <;> rfl
theorem un_t {is : List Nat} {ds : List D} : unpC is (.v (.tup ds)) ρ = FV.of (asgsV is ds ρ) .next := rfl
theorem s_star {is : List Nat} {k : Nat} {e : Ex} : evVS Φ W (.star is k e) ρ = (evV Φ e ρ).toF fun r ρ => starR is k r ρ := by rw [evVS]
theorem s_seti {o i e : Ex} : evVS Φ W (.seti o i e) ρ = ((evV Φ e ρ).bind fun x ρ => (evV Φ o ρ).bind fun o ρ => (evV Φ i ρ).bind fun i ρ => setVV o i x ρ).toF fun _ ρ => .next ρ := by rw [evVS]
def aug2 (i : Nat) (op : Bop) (m : Int) : VR → VE → FV := fun y ρ => match y with | .v y => FV.of (augV op m y) fun z => FV.of (putSl i (.v (.int z)) ρ) .next | _ => .no
def augC (Φ : CallV) (i : Nat) (op : Bop) (e : Ex) : VR → VE → FV := fun x ρ => match x with | .v (.int m) => (evV Φ e ρ).toF (aug2 i op m) | _ => .no
theorem s_aug {i : Nat} {op : Bop} {e : Ex} : evVS Φ W (.aug i op e) ρ = (lookC i ρ ρ[i]?).toF (augC Φ i op e) := by
  rw [evVS, lk_e] <;> rfl
theorem au_1 {i : Nat} {op : Bop} {e : Ex} {m : Int} : augC Φ i op e (.v (.int m)) ρ = (evV Φ e ρ).toF (aug2 i op m) := rfl
theorem au_2 {i : Nat} {op : Bop} {m : Int} {y : D} : aug2 i op m (.v y) ρ = FV.of (augV op m y) fun z => FV.of (putSl i (.v (.int z)) ρ) .next := rfl
theorem au_a {m n : Int} : augV .add m (.int n) = some (m + n) := rfl
theorem au_s {m n : Int} : augV .sub m (.int n) = some (m - n) := rfl
theorem s_ite {t : Ex} {a b : Sxs} : evVS Φ W (.ite t a b) ρ = (evTV Φ t ρ).toF fun c ρ => FV.cond c (evVSs Φ W a ρ) (evVSs Φ W b ρ) := by rw [evVS]
theorem t_e {e : Ex} : evTV Φ e ρ = (evV Φ e ρ).bind fun x ρ => V.of (rsv ρ x) fun d => V.of (truV d) fun t => .ok t ρ := rfl
def forB (Φ : CallV) (W : Nat) (tg : Tg) (b : Sxs) (x : D) (ρ : VE) : FV := FV.of (asgV tg x ρ) fun ρ => evVSs Φ W b ρ
theorem s_for {tg : Tg} {it : It} {b : Sxs} : evVS Φ W (.for tg it b) ρ = (evIV Φ it ρ).toF fun w ρ => forEV w.2 (forTV (forB Φ W tg b) w.1 ρ) := by rw [evVS] <;> rfl
theorem s_while {t : Ex} {b : Sxs} : evVS Φ W (.while t b) ρ = whileTV (evTV Φ t) (evVSs Φ W b) W ρ := by rw [evVS]
theorem s_pass : evVS Φ W .pass ρ = .next ρ := by rw [evVS]
theorem s_cont : evVS Φ W .cont ρ = .cont ρ := by rw [evVS]
theorem s_brk : evVS Φ W .brk ρ = .brk ρ := by rw [evVS]
theorem s_nil : evVSs Φ W .nil ρ = .next ρ := by rw [evVSs]
theorem s_cons {s : Sx} {ss : Sxs} : evVSs Φ W (.cons s ss) ρ = (evVS Φ W s ρ).thn fun ρ => evVSs Φ W ss ρ := by rw [evVSs]
theorem fe_n : forEV none (.next ρ) = .next ρ := rfl
theorem fe_b : forEV none (.brk ρ) = .next ρ := rfl
theorem fe_r {r : VR} : forEV none (.ret r ρ) = .ret r ρ := rfl
theorem fe_s {i : Nat} : forEV (some i) (.next ρ) = FV.of (freeC i ρ ρ[i]?) .next := by show FV.of (freeV (some i) ρ) .next = _; rw [fr_s]
end
section
variable {ρ : VE}
theorem o_add {i j : Int} : ofR (binV .add (.int i) (.int j) []) ρ = .ok (.v (.int (i + j))) ρ := rfl
theorem o_sub {i j : Int} : ofR (binV .sub (.int i) (.int j) []) ρ = .ok (.v (.int (i - j))) ρ := rfl
theorem o_mul {i j : Int} : ofR (binV .mul (.int i) (.int j) []) ρ = V.need (mulOk i j) (.ok (.v (.int (i * j))) ρ) := or_n
theorem o_fd {i j : Int} : ofR (binV .fdiv (.int i) (.int j) []) ρ = V.need (divOk j) (.ok (.v (.int (i / j))) ρ) := or_n
theorem o_mod {i j : Int} : ofR (binV .mod (.int i) (.int j) []) ρ = V.need (decide (0 < j)) (.ok (.v (.int (i % j))) ρ) := or_n
theorem o_pow {i j : Int} : ofR (binV .pow (.int i) (.int j) []) ρ = V.need (powOk i j) (.ok (.v (.int (i ^ j.toNat))) ρ) := or_n
theorem o_cat {a b : Str} : ofR (binV .add (.str a) (.str b) []) ρ = V.need (decide (a.length + b.length ≤ line)) (.ok (.v (.str (a ++ b))) ρ) := or_n
theorem o_lst {a b : List D} : ofR (binV .add (.lst a) (.lst b) []) ρ = V.need (decide (a.length + b.length ≤ line)) (.ok (.new (.lst (a ++ b))) ρ) := or_n
theorem o_tup {a b : List D} : ofR (binV .add (.tup a) (.tup b) []) ρ = V.need (decide (a.length + b.length ≤ line)) (.ok (.v (.tup (a ++ b))) ρ) := or_n
theorem c_lt {i j : Int} : cmpV .lt (.int i) (.int j) = some (decide (i < j)) := rfl
theorem c_le {i j : Int} : cmpV .le (.int i) (.int j) = some (decide (i ≤ j)) := rfl
theorem c_gt {i j : Int} : cmpV .gt (.int i) (.int j) = some (decide (j < i)) := rfl
theorem c_ge {i j : Int} : cmpV .ge (.int i) (.int j) = some (decide (j ≤ i)) := rfl
theorem c_es {s t : Str} : cmpV .eq (.str s) (.str t) = some (s == t) := rfl
theorem c_ns {s t : Str} : cmpV .ne (.str s) (.str t) = some (!(s == t)) := rfl
theorem c_ei {s t : Int} : cmpV .eq (.int s) (.int t) = some (s == t) := rfl
theorem c_ni {s t : Int} : cmpV .ne (.int s) (.int t) = some (!(s == t)) := rfl
theorem c_eb {s t : Bool} : cmpV .eq (.bl s) (.bl t) = some (s == t) := rfl
theorem c_nb {s t : Bool} : cmpV .ne (.bl s) (.bl t) = some (!(s == t)) := rfl
theorem c_nt {x y : D} : cmpV .notin x y = (inV x y).map (!·) := rfl
theorem c_in {x y : D} : cmpV .isin x y = inV x y := rfl
theorem at_0 {m : Nat} : atN (m + 1) 0 = some 0 := by unfold atN; rw [if_pos (by decide), if_pos (by simp)] <;> rfl
theorem at_1 {m : Nat} : atN (m + 1 + 1) 1 = some 1 := by unfold atN; rw [if_pos (by decide), if_pos (by simp)] <;> rfl
theorem at_2 {m : Nat} : atN (m + 1 + 1 + 1) 2 = some 2 := by unfold atN; rw [if_pos (by decide), if_pos (by simp)] <;> rfl
theorem at_3 {m : Nat} : atN (m + 1 + 1 + 1 + 1) 3 = some 3 := by unfold atN; rw [if_pos (by decide), if_pos (by simp)] <;> rfl
theorem xt_0 {a : D} {r : List D} : ofR (ixV (.tup (a :: r)) (.int 0) []) ρ = vl a ρ := by rw [← or_ok]; simp [ixV, at_0]
theorem xt_1 {a b : D} {r : List D} : ofR (ixV (.tup (a :: b :: r)) (.int 1) []) ρ = vl b ρ := by rw [← or_ok]; simp [ixV, at_1]
theorem xt_2 {a b c : D} {r : List D} : ofR (ixV (.tup (a :: b :: c :: r)) (.int 2) []) ρ = vl c ρ := by rw [← or_ok]; simp [ixV, at_2]
theorem xt_3 {a b c d : D} {r : List D} : ofR (ixV (.tup (a :: b :: c :: d :: r)) (.int 3) []) ρ = vl d ρ := by rw [← or_ok]; simp [ixV, at_3]
theorem xl_0 {a : D} {r : List D} : ofR (ixV (.lst (a :: r)) (.int 0) []) ρ = vl a ρ := by rw [← or_ok]; simp [ixV, at_0]
theorem xl_1 {a b : D} {r : List D} : ofR (ixV (.lst (a :: b :: r)) (.int 1) []) ρ = vl b ρ := by rw [← or_ok]; simp [ixV, at_1]
theorem xl_2 {a b c : D} {r : List D} : ofR (ixV (.lst (a :: b :: c :: r)) (.int 2) []) ρ = vl c ρ := by rw [← or_ok]; simp [ixV, at_2]
theorem xl_3 {a b c d : D} {r : List D} : ofR (ixV (.lst (a :: b :: c :: d :: r)) (.int 3) []) ρ = vl d ρ := by rw [← or_ok]; simp [ixV, at_3]
theorem n_ll {xs : List D} : ofR (bltV .len [.lst xs] []) ρ = .ok (.v (.int xs.length)) ρ := rfl
theorem n_lt {xs : List D} : ofR (bltV .len [.tup xs] []) ρ = .ok (.v (.int xs.length)) ρ := rfl
theorem n_ld {xs : List L2.Key} {vs : List D} : ofR (bltV .len [.dic xs vs] []) ρ = .ok (.v (.int xs.length)) ρ := rfl
theorem n_tl {xs : List D} : ofR (bltV .tuple [.lst xs] []) ρ = .ok (.v (.tup xs)) ρ := rfl
theorem n_tt {xs : List D} : ofR (bltV .tuple [.tup xs] []) ρ = .ok (.v (.tup xs)) ρ := rfl
theorem n_dl {xs : List D} : ofR (bltV .list [.lst xs] []) ρ = .ok (.new (.lst xs)) ρ := rfl
theorem n_dt {xs : List D} : ofR (bltV .list [.tup xs] []) ρ = .ok (.new (.lst xs)) ρ := rfl
theorem n_ab {i : Int} : ofR (bltV .abs [.int i] []) ρ = .ok (.v (.int (if i < 0 then -i else i))) ρ := rfl
theorem n_ib {b : Bool} : ofR (bltV .int [.bl b] []) ρ = .ok (.v (.int (if b then 1 else 0))) ρ := rfl
theorem n_ii {b : Int} : ofR (bltV .int [.int b] []) ρ = .ok (.v (.int b)) ρ := rfl
theorem n_dd {ks : List L2.Key} {vs : List D} : ofR (bltV .dict [.dic ks vs] []) ρ = .ok (.new (.dic ks vs)) ρ := rfl
theorem n_rt {xs : List D} : ofR (bltV .repr [.tup xs] []) ρ = V.need (D.tup xs).rp (.ok (.v (.str (D.tup xs).py.shown)) ρ) := or_n
theorem n_rl {xs : List D} : ofR (bltV .repr [.lst xs] []) ρ = V.need (D.lst xs).rp (.ok (.v (.str (D.lst xs).py.shown)) ρ) := or_n
theorem n_g1 {ks : List L2.Key} {vs : List D} {s : Str} : ofR (mthV .get1 (.dic ks vs) [.str s] []) ρ = vl ((dget ks vs (.inr s)).getD .non) ρ := or_ok
theorem n_g2 {ks : List L2.Key} {vs : List D} {s : Str} {d : D} : ofR (mthV .get2 (.dic ks vs) [.str s, d] []) ρ = vl ((dget ks vs (.inr s)).getD d) ρ := or_ok
theorem q_0 {r : V VR} : V.need (decide (([] : List D).length ≤ line)) r = r := rfl
theorem q_1 {a : D} {r : V VR} : V.need (decide ([a].length ≤ line)) r = r := rfl
theorem q_2 {a b : D} {r : V VR} : V.need (decide ([a, b].length ≤ line)) r = r := rfl
theorem q_3 {a b c : D} {r : V VR} : V.need (decide ([a, b, c].length ≤ line)) r = r := rfl
theorem q_4 {a b c d : D} {r : V VR} : V.need (decide ([a, b, c, d].length ≤ line)) r = r := rfl
theorem q_5 {a b c d e : D} {r : V VR} : V.need (decide ([a, b, c, d, e].length ≤ line)) r = r := rfl
theorem q_6 {a b c d e f : D} {r : V VR} : V.need (decide ([a, b, c, d, e, f].length ≤ line)) r = r := rfl
theorem q_7 {a b c d e f g : D} {r : V VR} : V.need (decide ([a, b, c, d, e, f, g].length ≤ line)) r = r := rfl
theorem q_8 {a b c d e f g h : D} {r : V VR} : V.need (decide ([a, b, c, d, e, f, g, h].length ≤ line)) r = r := rfl
theorem al_0 {a : D} {r : List D} : atN (a :: r).length 0 = some 0 := at_0
theorem al_1 {a b : D} {r : List D} : atN (a :: b :: r).length 1 = some 1 := at_1
theorem al_2 {a b c : D} {r : List D} : atN (a :: b :: c :: r).length 2 = some 2 := at_2
theorem al_3 {a b c d : D} {r : List D} : atN (a :: b :: c :: d :: r).length 3 = some 3 := at_3
theorem ift {α : Type} {a b : α} : (if true = true then a else b) = a := rfl
theorem ifT {α : Type} {a b : α} {h : Decidable True} : (@ite α True h a b) = a := if_pos trivial
theorem ifF {α : Type} {a b : α} {h : Decidable False} : (@ite α False h a b) = b := if_neg id
theorem ifx {α : Type} {a b : α} : (if false = true then a else b) = b := rfl
theorem is_l {xs : List D} : isiV "list" (.lst xs) = some true := by simp [isiV, tyOf]
theorem pw_a : powOk 10 18 = true := by decide
theorem pw_b : (10 : Int) ^ Int.toNat 18 = 1000000000000000000 := rfl
theorem pw_c : powOk 10 8 = true := by decide
theorem pw_d : (10 : Int) ^ Int.toNat 8 = 100000000 := rfl
end
--END
end VS

/-! VV, part Y: turns by an invariant; the law's pen. -/
namespace VS
open PySem

theorem bits_le {i : Int} {n : Nat} (h : i.natAbs < 2 ^ n) : Builtin.Int.intBits i ≤ n := by
  unfold Builtin.Int.intBits
  split
  · omega
  · rename_i hz
    have hz : i ≠ 0 := by simpa using hz
    have h0 : i.natAbs ≠ 0 := by omega
    have := (Nat.log2_lt h0).mpr h
    omega
theorem mul_r {i j : Int} (h : j.natAbs < 18446744073709551616) : mulOk i j = true := by
  have : Builtin.Int.intBits j ≤ 64 := bits_le (by simpa using h)
  unfold mulOk
  simp [this]
theorem mul_l {i j : Int} (h : i.natAbs < 18446744073709551616) : mulOk i j = true := by
  have : Builtin.Int.intBits i ≤ 64 := bits_le (by simpa using h)
  unfold mulOk
  simp [this]
theorem pow_ok {i j : Int} (h0 : 0 ≤ j) (hj : j ≤ 100) (h : i.natAbs < 2 ^ 1000) : powOk i j = true := by
  have : Builtin.Int.intBits i ≤ 1000 := bits_le h
  unfold powOk
  have e : (Builtin.Int.intBits i : Int) * j ≤ 134217728 := by
    have h1 : (Builtin.Int.intBits i : Int) ≤ 1000 := by omega
    have h2 : (Builtin.Int.intBits i : Int) * j ≤ 1000 * 100 := Int.mul_le_mul h1 hj h0 (by omega)
    omega
  simp [h0, e]
theorem div_ok {j : Int} (h : 0 < j) (hb : j < 18446744073709551616) : divOk j = true := by
  unfold divOk
  have h0 : j.natAbs ≠ 0 := by omega
  have : j.natAbs.log2 < 9000 := Nat.lt_trans ((Nat.log2_lt h0).mpr (show j.natAbs < 2 ^ 64 by omega)) (by decide)
  simp [h, this]


/-! ### turns -/
theorem turns_inv {f : D → VE → V (List D)} (I : Nat → List D → VE → Prop) : ∀ {xs : List D} {ρ : VE} {ys0 : List D} {i0 : Nat}, I i0 ys0 ρ →
    (∀ i x ys ρ, xs[i]? = some x → I (i0 + i) ys ρ → ∃ zs ρ', f x ρ = .ok zs ρ' ∧ I (i0 + i + 1) (ys ++ zs) ρ') → ∃ ys ρ', turnsV f xs ρ = .ok ys ρ' ∧ I (i0 + xs.length) (ys0 ++ ys) ρ'
  | [], ρ, ys0, i0, h0, _ => ⟨[], ρ, rfl, by simpa using h0⟩
  | x :: xs, ρ, ys0, i0, h0, hs => by
    obtain ⟨zs, ρ1, e1, h1⟩ := hs 0 x ys0 ρ rfl h0
    obtain ⟨ws, ρ2, e2, h2⟩ := turns_inv (xs := xs) I h1 fun i y ys ρ hy hI => by
      have := hs (i + 1) y ys ρ hy (by rw [show i0 + (i + 1) = i0 + 0 + 1 + i by omega]; exact hI)
      rw [show i0 + (i + 1) + 1 = i0 + 0 + 1 + i + 1 by omega] at this
      exact this
    refine ⟨zs ++ ws, ρ2, ?_, ?_⟩
    · show (f x ρ).bind _ = _
      rw [e1]
      show (turnsV f xs ρ1).bind _ = _
      rw [e2] <;> rfl
    · rw [List.length_cons, show i0 + (xs.length + 1) = i0 + 0 + 1 + xs.length by omega, ← List.append_assoc]
      exact h2
/-- turns that change nothing -/
theorem turns_map {α : Type} {f : D → VE → V (List D)} {ρ : VE} (g : α → D) (h : α → List D) : ∀ {xs : List α}, (∀ x ∈ xs, f (g x) ρ = .ok (h x) ρ) → turnsV f (xs.map g) ρ = .ok (xs.flatMap h) ρ
  | [], _ => rfl
  | x :: xs, hf => by
    show (f (g x) ρ).bind _ = _
    rw [hf x List.mem_cons_self]
    show (turnsV f (xs.map g) ρ).bind _ = _
    rw [turns_map g h fun y hy => hf y (List.mem_cons_of_mem _ hy)]
    rfl
theorem turns_one {α : Type} {f : D → VE → V (List D)} {ρ : VE} (g h : α → D) {xs : List α} (hf : ∀ x ∈ xs, f (g x) ρ = .ok [h x] ρ) : turnsV f (xs.map g) ρ = .ok (xs.map h) ρ := by
  rw [turns_map g (fun x => [h x]) hf]
  congr 1
  induction xs with
  | nil => rfl
  | cons x xs ih => rw [List.flatMap_cons, ih fun y hy => hf y (List.mem_cons_of_mem _ hy)] <;> rfl
theorem for_inv {f : D → VE → FV} (I : Nat → VE → Prop) : ∀ {xs : List D} {ρ : VE} {i0 : Nat}, I i0 ρ →
    (∀ i x ρ, xs[i]? = some x → I (i0 + i) ρ → ∃ ρ', (f x ρ = .next ρ' ∨ f x ρ = .cont ρ') ∧ I (i0 + i + 1) ρ') → ∃ ρ', forTV f xs ρ = .next ρ' ∧ I (i0 + xs.length) ρ'
  | [], ρ, i0, h0, _ => ⟨ρ, rfl, by simpa using h0⟩
  | x :: xs, ρ, i0, h0, hs => by
    obtain ⟨ρ1, e1, h1⟩ := hs 0 x ρ rfl h0
    obtain ⟨ρ2, e2, h2⟩ := for_inv (xs := xs) I h1 fun i y ρ hy hI => by
      have := hs (i + 1) y ρ hy (by rw [show i0 + (i + 1) = i0 + 0 + 1 + i by omega]; exact hI)
      rw [show i0 + (i + 1) + 1 = i0 + 0 + 1 + i + 1 by omega] at this
      exact this
    refine ⟨ρ2, ?_, ?_⟩
    · rcases e1 with e1 | e1 <;> (show (match f x ρ with | .next ρ => _ | .cont ρ => _ | .brk ρ => _ | r => _) = _; rw [e1]; exact e2)
    · rw [List.length_cons, show i0 + (xs.length + 1) = i0 + 0 + 1 + xs.length by omega]
      exact h2
/-- a for over data told by a list -/
theorem for_map {α : Type} {f : D → VE → FV} {g : α → D} (I : List α → VE → Prop) {xs : List α} {ρ : VE} (h0 : I [] ρ)
    (hs : ∀ pre x post ρ, xs = pre ++ x :: post → I pre ρ → ∃ ρ', (f (g x) ρ = .next ρ' ∨ f (g x) ρ = .cont ρ') ∧ I (pre ++ [x]) ρ') : ∃ ρ', forTV f (xs.map g) ρ = .next ρ' ∧ I xs ρ' := by
  have q := for_inv (f := f) (fun i ρ => I (xs.take i) ρ) (xs := xs.map g) (ρ := ρ) (i0 := 0) (by simpa using h0) (fun i x ρ hx hI => by
    rw [List.getElem?_map] at hx
    cases hy : xs[i]? with
    | none => rw [hy] at hx; cases hx
    | some y =>
      rw [hy] at hx; cases hx
      have hi := (List.getElem?_eq_some_iff.mp hy).1
      have he := (List.getElem?_eq_some_iff.mp hy).2
      rw [Nat.zero_add] at hI ⊢
      have sp : xs = xs.take i ++ y :: xs.drop (i + 1) := by
        rw [← he, ← List.drop_eq_getElem_cons hi, List.take_append_drop]
      obtain ⟨ρ', e1, e2⟩ := hs _ _ _ ρ sp hI
      refine ⟨ρ', e1, ?_⟩
      rw [List.take_add_one, hy]
      exact e2)
  obtain ⟨ρ', e1, e2⟩ := q
  rw [List.length_map, Nat.zero_add, List.take_length] at e2
  exact ⟨ρ', e1, e2⟩
/-- a while by a measure -/
theorem while_inv {t : VE → V Bool} {b : VE → FV} (I : Nat → VE → Prop) (Q : VE → Prop)
    (hs : ∀ m ρ, I m ρ → (∃ ρ1, t ρ = .ok false ρ1 ∧ Q ρ1) ∨ (∃ ρ1, t ρ = .ok true ρ1 ∧ ∃ ρ' m', b ρ1 = .next ρ' ∧ m' < m ∧ I m' ρ')) :
    ∀ {n m : Nat} {ρ : VE}, m < n → I m ρ → ∃ ρ', whileTV t b n ρ = .next ρ' ∧ Q ρ'
  | 0, m, ρ, h, _ => absurd h (Nat.not_lt_zero _)
  | n + 1, m, ρ, h, hI => by
    rcases hs m ρ hI with ⟨ρ1, e1, q⟩ | ⟨ρ1, e1, ρ', m', e2, hm, hI'⟩
    · refine ⟨ρ1, ?_, q⟩
      unfold whileTV
      rw [e1] <;> rfl
    · obtain ⟨ρ2, e3, q⟩ := while_inv I Q hs (n := n) (m := m') (by omega) hI'
      refine ⟨ρ2, ?_, q⟩
      unfold whileTV
      rw [e1]
      show (match b ρ1 with | .next ρ => _ | .cont ρ => _ | .brk ρ => _ | r => _) = _
      rw [e2]; exact e3
theorem rngD_len {lo : Int} {n : Nat} : (rngD lo n).length = n := by simp [rngD]
theorem rngD_get {lo : Int} {n i : Nat} {x : D} (h : (rngD lo n)[i]? = some x) : i < n ∧ x = .int (lo + i) := by
  have hi : i < n := by
    have := (List.getElem?_eq_some_iff.mp h).1
    rwa [rngD_len] at this
  refine ⟨hi, ?_⟩
  simp only [rngD, List.getElem?_map, List.getElem?_range hi, Option.map_some] at h
  exact (Option.some.inj h).symm
theorem need_rng {m : Int} (h0 : 0 ≤ m) (h1 : m < 1000000) {α : Type} (r : V α) : V.need (decide (m < 4611686018427387904) && decide (-4611686018427387904 ≤ m)) r = r := by
  rw [decide_eq_true (by omega), decide_eq_true (by omega)] <;> rfl
theorem need_len {α β : Type} {xs : List α} (h : xs.length ≤ 1000000) (r : V β) : V.need (decide (xs.length ≤ line)) r = r := by
  rw [decide_eq_true (by unfold line; omega)] <;> rfl
theorem need_cat {α β : Type} {xs ys : List α} (h : xs.length + ys.length ≤ 1000000) (r : V β) : V.need (decide (xs.length + ys.length ≤ line)) r = r := by
  rw [decide_eq_true (by unfold line; omega)] <;> rfl
theorem need_app {α β : Type} {xs : List α} (h : xs.length ≤ 1000000) (r : V β) : V.need (decide (xs.length + 1 ≤ line)) r = r := by
  rw [decide_eq_true (by unfold line; omega)] <;> rfl
theorem vl_nr {d : D} {ρ : VE} (h : d.nr = true) : vl d ρ = .ok (.v d) ρ := by unfold vl; rw [if_pos h]
theorem no_nr {d : D} {o : Option VE} (h : d.nr = true) : nrO d o = o := by unfold nrO; rw [if_pos h]
theorem xl_at {ρ : VE} {xs : List D} {i : Int} {d : D} (h0 : 0 ≤ i) (h : xs[i.toNat]? = some d) : ofR (ixV (.lst xs) (.int i) []) ρ = vl d ρ := by
  have hl := (List.getElem?_eq_some_iff.mp h).1
  have he := (List.getElem?_eq_some_iff.mp h).2
  rw [← or_ok]; simp [ixV, atN, h0, hl, he]
theorem xt_at {ρ : VE} {xs : List D} {i : Int} {d : D} (h0 : 0 ≤ i) (h : xs[i.toNat]? = some d) : ofR (ixV (.tup xs) (.int i) []) ρ = vl d ρ := by
  have hl := (List.getElem?_eq_some_iff.mp h).1
  have he := (List.getElem?_eq_some_iff.mp h).2
  rw [← or_ok]; simp [ixV, atN, h0, hl, he]

/-! ### the pen -/
/-- a pen with so many takes at most behind it -/
def Pn (d : D) (a : Nat) : Prop := ∃ (cs : List Int) (at_ left : Int), d = .lst [.lst (cs.map .int), .int at_, .int left] ∧ 0 ≤ at_ ∧ at_ ≤ a ∧ 0 ≤ left ∧ cs.length ≤ 63
theorem Pn.mono {d : D} {a b : Nat} (h : Pn d a) (hab : a ≤ b) : Pn d b := by
  obtain ⟨cs, at_, left, e, h1, h2, h3⟩ := h
  exact ⟨cs, at_, left, e, h1, by omega, h3⟩

def bTail : Sxs := (.cons (.ite (.and (.cmp .lt (.v 3) (.blt .len (.cons (.ix (.v 0) (.k (.int 0))) .nil))) (.cmp .ge (.blt .abs (.cons (.v 4) .nil)) (.bin .pow (.k (.int 10)) (.k (.int 18)))))
    (.cons (.set 5 (.bin .add (.bin .mul (.k (.int 2)) (.bin .sub (.blt .abs (.cons (.v 4) .nil)) (.bin .pow (.k (.int 10)) (.k (.int 18))))) (.blt .int (.cons (.cmp .lt (.v 4) (.k (.int 0))) .nil))))
    (.cons (.seti (.v 0) (.k (.int 2)) (.bin .fdiv (.v 5) (.v 1)))
    (.cons (.ret (.bin .mod (.v 5) (.v 1)))
    .nil)))
    .nil)
    (.cons (.set 6 (.bin .mod (.bin .pow (.bin .add (.bin .add (.bin .add (.bin .mod (.v 4) (.k (.int 2147483629))) (.bin .mul (.k (.int 40709)) (.v 3))) (.bin .mul (.bin .mul (.k (.int 7919)) (.v 3)) (.v 3))) (.k (.int 31))) (.k (.int 5))) (.k (.int 2147483647))))
    (.cons (.set 6 (.bin .mod (.bin .pow (.bin .add (.bin .add (.bin .mul (.v 6) (.k (.int 48271))) (.bin .mul (.k (.int 69621)) (.v 3))) (.k (.int 11))) (.k (.int 3))) (.k (.int 2147483587))))
    (.cons (.ite (.cmp .gt (.v 1) (.bin .pow (.k (.int 10)) (.k (.int 8))))
    (.cons (.set 6 (.bin .pow (.bin .add (.v 6) (.k (.int 17))) (.k (.int 7))))
    .nil)
    .nil)
    (.cons (.ret (.bin .mod (.bin .fdiv (.v 6) (.k (.int 7))) (.v 1)))
    .nil)))))
def bTake : Sxs := (.cons (.ite (.cmp .gt (.ix (.v 0) (.k (.int 2))) (.k (.int 0)))
    (.cons (.set 2 (.bin .mod (.ix (.v 0) (.k (.int 2))) (.v 1)))
    (.cons (.seti (.v 0) (.k (.int 2)) (.bin .fdiv (.ix (.v 0) (.k (.int 2))) (.v 1)))
    (.cons (.ret (.v 2))
    .nil)))
    .nil)
    (.cons (.set 3 (.ix (.v 0) (.k (.int 1))))
    (.cons (.seti (.v 0) (.k (.int 1)) (.bin .add (.v 3) (.k (.int 1))))
    (.cons (.set 4 (.bin .add (.bin .mul (.k (.int 41)) (.v 3)) (.k (.int 13))))
    (.cons (.ite (.cmp .ne (.ix (.v 0) (.k (.int 0))) (.fz (.lst .nil)))
    (.cons (.set 4 (.ix (.ix (.v 0) (.k (.int 0))) (.bin .mod (.v 3) (.blt .len (.cons (.ix (.v 0) (.k (.int 0))) .nil)))))
    .nil)
    .nil)
    bTail)))))
theorem ints_dats : ∀ cs : List Int, D.dats (cs.map .int) = true
  | [] => rfl
  | _ :: r => by show (true && D.dats (r.map .int)) = true; rw [ints_dats r] <;> rfl
theorem ints_deps : ∀ cs : List Int, D.deps (cs.map .int) = 0
  | [] => rfl
  | _ :: r => by show max 0 (D.deps (r.map .int)) = 0; rw [ints_deps r] <;> rfl
theorem ne_nil {cs : List Int} : cmpV .ne (.lst (cs.map .int)) (.lst []) = some (!cs.isEmpty) := by
  show (eqV _ _).map _ = _
  unfold eqV
  have e1 : D.dat (.lst (cs.map .int)) = true := ints_dats cs
  have e2 : D.dep (.lst (cs.map .int)) ≤ 64 := by show D.deps (cs.map .int) + 1 ≤ 64; rw [ints_deps]; decide
  have e3 : D.dat (.lst []) = true := rfl
  rw [if_neg (by simp [D.flat]), if_pos (by simp [e1, e2, e3])]
  cases cs with
  | nil => rfl
  | cons _ _ => rfl


theorem need_d {c : Prop} [Decidable c] {α : Type} {r : V α} (h : c) : V.need (decide c) r = r := by rw [decide_eq_true h] <;> rfl
theorem need_b {c : Bool} {α : Type} {r : V α} (h : c = true) : V.need c r = r := by rw [h] <;> rfl
theorem tail_ok {Φ : CallV} {W : Nat} {a : Nat} {cs : List Int} {at_ at2 left cell upto : Int} (h0 : 0 ≤ at_) (h2 : at2 = at_ + 1) (h1 : at_ ≤ a) (hl : 0 ≤ left) (hc : cs.length ≤ 63)
    (ha : a < 1152921504606846976) (hu : 0 < upto) (hu2 : upto ≤ 100000000) :
    ∃ r c, retV 2 (evVSs Φ W bTail [.own true .mu (.lst [.lst (cs.map .int), .int at2, .int left]), .v (.int upto), .no, .v (.int at_), .v (.int cell), .no, .no]) = .ok (.v (.int r)) [.own true .mu c] ∧ 0 ≤ r ∧ r < upto ∧ Pn c (a + 1) := by
  have hdiv : divOk upto = true := div_ok hu (by omega)
  have pen : ∀ {left2 : Int}, 0 ≤ left2 → Pn (.lst [.lst (cs.map .int), .int at2, .int left2]) (a + 1) := fun {left2} q3 => ⟨cs, at2, left2, rfl, by omega, by omega, q3, hc⟩
  by_cases great : at_ < (cs.map D.int).length ∧ 1000000000000000000 ≤ (if cell < 0 then -cell else cell)
  · obtain ⟨c1, c2⟩ := great
    have e2 : mulOk 2 ((if cell < 0 then -cell else cell) - 1000000000000000000) = true := mul_l (by decide)
    refine ⟨_, _, ?_, Int.emod_nonneg (2 * ((if cell < 0 then -cell else cell) - 1000000000000000000) + (if decide (cell < 0) then 1 else 0)) (by omega), Int.emod_lt_of_pos _ hu, pen (left2 := (2 * ((if cell < 0 then -cell else cell) - 1000000000000000000) + (if decide (cell < 0) then 1 else 0)) / upto) (Int.ediv_nonneg (by
      have : (0 : Int) ≤ if decide (cell < 0) = true then 1 else 0 := by split <;> omega
      omega) (by omega))⟩
    simp only [bTail, v_bind, v_of, v_need, v_ct, v_cf, v_only, v_toF, f_thn, f_thr, f_thb, f_thc, f_of, f_ct, f_cf, rs_v, rs_n, rs_l, sl_o, rl_n, rl_c, rl_k, g_0, g_s, st_0, st_s, lk_v, lk_o, fz_v, fz_n, fz_l, fz_o, fs_n, fs_c, vl_int, vl_str, vl_bl, vl_tup, vl_lst, vl_dic, vl_non, vl_glo, bv_s, or_ok, or_nl, or_nd, tv_bl, tv_int, tv_non, tv_lst, tv_tup, ag_v, ag_n, ag_l, ag_o, as_n, as_c, as_k, nd_n, nd_v, nd_w, nd_l, li_n, li_v, li_w, li_l, pb_n, pb_v, pb_w, pb_l, pb_o, bk_o, cl_r, ps_e, ps_n, ps_v, ps_o, pd_e, no_int, no_str, no_bl, no_tup, no_lst, no_dic, no_non, no_glo, av_n, av_c, av_k, ag1, ag2, wp_n, wp_c, ro_n, ro_c, gd_0, gd_s, mn_n, mn_c, ti_v, ti_t, tn_0, tn_1, hv_l, hv_t, hv_s, hv_n, hv_o, hc_m, hc_l, hl_l, hl_n, hl_o, fr_n, fr_s, fr_o, ed_v, gw_l, gw_o, mt_a, mt_p, mt_r, mt_j, mt_i, mt_1, mt_2, mt_e, ex_l, mk_j, mk_1, mk_2, mk_a, mk_e, mk_p, mk_r, mk_i, vs_n, vs_c, om_s, sv_e, sv_l, sv_d, ky_s, ky_i, sr_v, sr_n, rt_n, rt_v, rt_w, rt_l, rt_o, pr_0, pr_v, pr_n, pr_o, pr_f, e_k, e_v, e_g, e_tup, e_lst, e_bin, e_neg, ng_i, e_cmp, e_chain, e_and, e_or, e_not, e_ite, e_int1, in_i, e_ix, e_sl, sc_v, e_isi, e_call, e_callv, gl_c, e_callk, e_fz, e_gc, e_maxd, mx_c, e_sset, ss_c, e_dnew, e_disp, e_items, it_d, e_rvs, rv_l, e_blt, e_mth, e_lc, e_lc2, e_nil, e_cons, t_nil, t_cons, i_seq, i_rng1, rg_1, i_rng2, rg_2, i_enum, i_rev, s_expr, s_ret, s_retN, s_set, s_unp, un_t, s_star, s_seti, s_aug, au_1, au_2, au_a, au_s, s_ite, t_e, s_for, s_while, s_pass, s_cont, s_brk, s_nil, s_cons, fe_n, fe_b, fe_r, fe_s, o_add, o_sub, o_cat, o_lst, o_tup, c_lt, c_le, c_gt, c_ge, c_es, c_ns, c_ei, c_ni, c_eb, c_nb, c_nt, c_in, xt_0, xt_1, xt_2, xt_3, xl_0, xl_1, xl_2, xl_3, n_ll, n_lt, n_ld, n_tl, n_tt, n_dl, n_dt, n_ab, n_ib, n_ii, n_dd, n_rt, n_rl, n_g1, n_g2, q_0, q_1, q_2, q_3, q_4, q_5, q_6, q_7, q_8, al_0, al_1, al_2, al_3, ift, ifT, ifF, ifx, is_l, pw_a, pw_b, pw_c, pw_d, o_mul, o_fd, o_mod, o_pow, List.map_cons, List.map_nil, List.replicate, List.cons_append, List.nil_append, Bool.not_true, Bool.not_false, Bool.and_true, Bool.true_and, Bool.and_false, Bool.false_and, Bool.or_false, Bool.false_or, Bool.or_true, Bool.true_or, Nat.reduceBEq, Nat.reduceSub, List.all_cons, List.all_nil, need_d hu, need_b hdiv, at_2, decide_eq_true c1, decide_eq_true c2, need_b e2]
  · have q0 : 0 ≤ cell % 2147483629 := Int.emod_nonneg _ (by decide)
    have q1 : cell % 2147483629 < 2147483629 := Int.emod_lt_of_pos _ (by decide)
    have q2 : at_ < 1152921504606846976 := by omega
    have q3 : 7919 * at_ * at_ ≤ 7919 * 1152921504606846976 * 1152921504606846976 := Int.mul_le_mul (by omega) (by omega) h0 (by decide)
    have q4 : 0 ≤ 7919 * at_ * at_ := Int.mul_nonneg (by omega) h0
    generalize hq : 7919 * at_ * at_ = sq at q3 q4
    have n1 : (cell % 2147483629 + 40709 * at_ + 7919 * at_ * at_ + 31).natAbs < 2 ^ 1000 := by
      rw [hq]
      exact Nat.lt_of_lt_of_le (m := 2 ^ 140) (by omega) (Nat.pow_le_pow_right (by decide) (by decide))
    have k1 := mul_l (i := 40709) (j := at_) (by decide)
    have k2 := mul_l (i := 7919) (j := at_) (by decide)
    have k3 := mul_r (i := 7919 * at_) (j := at_) (by omega)
    have k4 := pow_ok (i := cell % 2147483629 + 40709 * at_ + 7919 * at_ * at_ + 31) (j := 5) (by decide) (by decide) n1
    generalize hx1 : (cell % 2147483629 + 40709 * at_ + 7919 * at_ * at_ + 31) ^ (5 : Int).toNat = x1
    have k5 := mul_r (i := x1 % 2147483647) (j := 48271) (by decide)
    have k6 := mul_l (i := 69621) (j := at_) (by decide)
    have n2 : (x1 % 2147483647 * 48271 + 69621 * at_ + 11).natAbs < 2 ^ 1000 := by
      have q5 : 0 ≤ x1 % 2147483647 := Int.emod_nonneg _ (by decide)
      have q6 : x1 % 2147483647 < 2147483647 := Int.emod_lt_of_pos _ (by decide)
      exact Nat.lt_of_lt_of_le (m := 2 ^ 140) (by omega) (Nat.pow_le_pow_right (by decide) (by decide))
    have k7 := pow_ok (i := x1 % 2147483647 * 48271 + 69621 * at_ + 11) (j := 3) (by decide) (by decide) n2
    generalize hx2 : (x1 % 2147483647 * 48271 + 69621 * at_ + 11) ^ (3 : Int).toNat = x2
    have d1 : divOk 7 = true := by decide
    have c3 : decide (100000000 < upto) = false := decide_eq_false (by omega)
    refine ⟨x2 % 2147483587 / 7 % upto, _, ?_, Int.emod_nonneg _ (by omega), Int.emod_lt_of_pos _ hu, pen hl⟩
    have m1 : decide ((0 : Int) < 2147483629) = true := by decide
    have m2 : decide ((0 : Int) < 2147483647) = true := by decide
    have m3 : decide ((0 : Int) < 2147483587) = true := by decide
    by_cases c1 : at_ < (cs.map D.int).length
    · have c2 : decide (1000000000000000000 ≤ (if cell < 0 then -cell else cell)) = false := decide_eq_false fun z => great ⟨c1, z⟩
      simp only [bTail, v_bind, v_of, v_need, v_ct, v_cf, v_only, v_toF, f_thn, f_thr, f_thb, f_thc, f_of, f_ct, f_cf, rs_v, rs_n, rs_l, sl_o, rl_n, rl_c, rl_k, g_0, g_s, st_0, st_s, lk_v, lk_o, fz_v, fz_n, fz_l, fz_o, fs_n, fs_c, vl_int, vl_str, vl_bl, vl_tup, vl_lst, vl_dic, vl_non, vl_glo, bv_s, or_ok, or_nl, or_nd, tv_bl, tv_int, tv_non, tv_lst, tv_tup, ag_v, ag_n, ag_l, ag_o, as_n, as_c, as_k, nd_n, nd_v, nd_w, nd_l, li_n, li_v, li_w, li_l, pb_n, pb_v, pb_w, pb_l, pb_o, bk_o, cl_r, ps_e, ps_n, ps_v, ps_o, pd_e, no_int, no_str, no_bl, no_tup, no_lst, no_dic, no_non, no_glo, av_n, av_c, av_k, ag1, ag2, wp_n, wp_c, ro_n, ro_c, gd_0, gd_s, mn_n, mn_c, ti_v, ti_t, tn_0, tn_1, hv_l, hv_t, hv_s, hv_n, hv_o, hc_m, hc_l, hl_l, hl_n, hl_o, fr_n, fr_s, fr_o, ed_v, gw_l, gw_o, mt_a, mt_p, mt_r, mt_j, mt_i, mt_1, mt_2, mt_e, ex_l, mk_j, mk_1, mk_2, mk_a, mk_e, mk_p, mk_r, mk_i, vs_n, vs_c, om_s, sv_e, sv_l, sv_d, ky_s, ky_i, sr_v, sr_n, rt_n, rt_v, rt_w, rt_l, rt_o, pr_0, pr_v, pr_n, pr_o, pr_f, e_k, e_v, e_g, e_tup, e_lst, e_bin, e_neg, ng_i, e_cmp, e_chain, e_and, e_or, e_not, e_ite, e_int1, in_i, e_ix, e_sl, sc_v, e_isi, e_call, e_callv, gl_c, e_callk, e_fz, e_gc, e_maxd, mx_c, e_sset, ss_c, e_dnew, e_disp, e_items, it_d, e_rvs, rv_l, e_blt, e_mth, e_lc, e_lc2, e_nil, e_cons, t_nil, t_cons, i_seq, i_rng1, rg_1, i_rng2, rg_2, i_enum, i_rev, s_expr, s_ret, s_retN, s_set, s_unp, un_t, s_star, s_seti, s_aug, au_1, au_2, au_a, au_s, s_ite, t_e, s_for, s_while, s_pass, s_cont, s_brk, s_nil, s_cons, fe_n, fe_b, fe_r, fe_s, o_add, o_sub, o_cat, o_lst, o_tup, c_lt, c_le, c_gt, c_ge, c_es, c_ns, c_ei, c_ni, c_eb, c_nb, c_nt, c_in, xt_0, xt_1, xt_2, xt_3, xl_0, xl_1, xl_2, xl_3, n_ll, n_lt, n_ld, n_tl, n_tt, n_dl, n_dt, n_ab, n_ib, n_ii, n_dd, n_rt, n_rl, n_g1, n_g2, q_0, q_1, q_2, q_3, q_4, q_5, q_6, q_7, q_8, al_0, al_1, al_2, al_3, ift, ifT, ifF, ifx, is_l, pw_a, pw_b, pw_c, pw_d, o_mul, o_fd, o_mod, o_pow, List.map_cons, List.map_nil, List.replicate, List.cons_append, List.nil_append, Bool.not_true, Bool.not_false, Bool.and_true, Bool.true_and, Bool.and_false, Bool.false_and, Bool.or_false, Bool.false_or, Bool.or_true, Bool.true_or, Nat.reduceBEq, Nat.reduceSub, List.all_cons, List.all_nil, need_d hu, hdiv, decide_eq_true c1, c2, c3, k1, k2, k3, k4, k5, k6, k7, m1, m2, m3, d1, hx1, hx2]
    · simp only [bTail, v_bind, v_of, v_need, v_ct, v_cf, v_only, v_toF, f_thn, f_thr, f_thb, f_thc, f_of, f_ct, f_cf, rs_v, rs_n, rs_l, sl_o, rl_n, rl_c, rl_k, g_0, g_s, st_0, st_s, lk_v, lk_o, fz_v, fz_n, fz_l, fz_o, fs_n, fs_c, vl_int, vl_str, vl_bl, vl_tup, vl_lst, vl_dic, vl_non, vl_glo, bv_s, or_ok, or_nl, or_nd, tv_bl, tv_int, tv_non, tv_lst, tv_tup, ag_v, ag_n, ag_l, ag_o, as_n, as_c, as_k, nd_n, nd_v, nd_w, nd_l, li_n, li_v, li_w, li_l, pb_n, pb_v, pb_w, pb_l, pb_o, bk_o, cl_r, ps_e, ps_n, ps_v, ps_o, pd_e, no_int, no_str, no_bl, no_tup, no_lst, no_dic, no_non, no_glo, av_n, av_c, av_k, ag1, ag2, wp_n, wp_c, ro_n, ro_c, gd_0, gd_s, mn_n, mn_c, ti_v, ti_t, tn_0, tn_1, hv_l, hv_t, hv_s, hv_n, hv_o, hc_m, hc_l, hl_l, hl_n, hl_o, fr_n, fr_s, fr_o, ed_v, gw_l, gw_o, mt_a, mt_p, mt_r, mt_j, mt_i, mt_1, mt_2, mt_e, ex_l, mk_j, mk_1, mk_2, mk_a, mk_e, mk_p, mk_r, mk_i, vs_n, vs_c, om_s, sv_e, sv_l, sv_d, ky_s, ky_i, sr_v, sr_n, rt_n, rt_v, rt_w, rt_l, rt_o, pr_0, pr_v, pr_n, pr_o, pr_f, e_k, e_v, e_g, e_tup, e_lst, e_bin, e_neg, ng_i, e_cmp, e_chain, e_and, e_or, e_not, e_ite, e_int1, in_i, e_ix, e_sl, sc_v, e_isi, e_call, e_callv, gl_c, e_callk, e_fz, e_gc, e_maxd, mx_c, e_sset, ss_c, e_dnew, e_disp, e_items, it_d, e_rvs, rv_l, e_blt, e_mth, e_lc, e_lc2, e_nil, e_cons, t_nil, t_cons, i_seq, i_rng1, rg_1, i_rng2, rg_2, i_enum, i_rev, s_expr, s_ret, s_retN, s_set, s_unp, un_t, s_star, s_seti, s_aug, au_1, au_2, au_a, au_s, s_ite, t_e, s_for, s_while, s_pass, s_cont, s_brk, s_nil, s_cons, fe_n, fe_b, fe_r, fe_s, o_add, o_sub, o_cat, o_lst, o_tup, c_lt, c_le, c_gt, c_ge, c_es, c_ns, c_ei, c_ni, c_eb, c_nb, c_nt, c_in, xt_0, xt_1, xt_2, xt_3, xl_0, xl_1, xl_2, xl_3, n_ll, n_lt, n_ld, n_tl, n_tt, n_dl, n_dt, n_ab, n_ib, n_ii, n_dd, n_rt, n_rl, n_g1, n_g2, q_0, q_1, q_2, q_3, q_4, q_5, q_6, q_7, q_8, al_0, al_1, al_2, al_3, ift, ifT, ifF, ifx, is_l, pw_a, pw_b, pw_c, pw_d, o_mul, o_fd, o_mod, o_pow, List.map_cons, List.map_nil, List.replicate, List.cons_append, List.nil_append, Bool.not_true, Bool.not_false, Bool.and_true, Bool.true_and, Bool.and_false, Bool.false_and, Bool.or_false, Bool.false_or, Bool.or_true, Bool.true_or, Nat.reduceBEq, Nat.reduceSub, List.all_cons, List.all_nil, need_d hu, hdiv, decide_eq_false c1, c3, k1, k2, k3, k4, k5, k6, k7, m1, m2, m3, d1, hx1, hx2]
theorem take_ok {T : Txt} (ok : okTxt T = true) {d : DefT} (hd : d ∈ T.ds) (hx : d.x = "_law_take") (hf : d.fn = ⟨2, 7, bTake⟩) {k W : Nat} {p : D} {a : Nat} {upto : Int} (hP : Pn p a) (ha : a < 1152921504606846976) (hu : 0 < upto) (hu2 : upto ≤ 100000000) :
    ∃ r c, callV T.prog W (k + 1) "_law_take" [.own true .mu p, .v (.int upto)] = .ok (.v (.int r)) [.own true .mu c] ∧ 0 ≤ r ∧ r < upto ∧ Pn c (a + 1) := by
  obtain ⟨cs, at_, left, rfl, h0, h1, hl, hc⟩ := hP
  have e := call_defV (T := T) ok hd (k := k) (W := W) (sls := [.own true .mu (.lst [.lst (cs.map .int), .int at_, .int left]), .v (.int upto)]) (by rw [hf] <;> rfl)
  rw [hx, hf] at e
  have hdiv : divOk upto = true := div_ok hu (by omega)
  rw [e]
  by_cases c : 0 < left
  · refine ⟨left % upto, _, ?_, Int.emod_nonneg _ (by omega), Int.emod_lt_of_pos _ hu, ⟨cs, at_, left / upto, rfl, h0, by omega, Int.ediv_nonneg hl (by omega), hc⟩⟩
    simp only [bTake, v_bind, v_of, v_need, v_ct, v_cf, v_only, v_toF, f_thn, f_thr, f_thb, f_thc, f_of, f_ct, f_cf, rs_v, rs_n, rs_l, sl_o, rl_n, rl_c, rl_k, g_0, g_s, st_0, st_s, lk_v, lk_o, fz_v, fz_n, fz_l, fz_o, fs_n, fs_c, vl_int, vl_str, vl_bl, vl_tup, vl_lst, vl_dic, vl_non, vl_glo, bv_s, or_ok, or_nl, or_nd, tv_bl, tv_int, tv_non, tv_lst, tv_tup, ag_v, ag_n, ag_l, ag_o, as_n, as_c, as_k, nd_n, nd_v, nd_w, nd_l, li_n, li_v, li_w, li_l, pb_n, pb_v, pb_w, pb_l, pb_o, bk_o, cl_r, ps_e, ps_n, ps_v, ps_o, pd_e, no_int, no_str, no_bl, no_tup, no_lst, no_dic, no_non, no_glo, av_n, av_c, av_k, ag1, ag2, wp_n, wp_c, ro_n, ro_c, gd_0, gd_s, mn_n, mn_c, ti_v, ti_t, tn_0, tn_1, hv_l, hv_t, hv_s, hv_n, hv_o, hc_m, hc_l, hl_l, hl_n, hl_o, fr_n, fr_s, fr_o, ed_v, gw_l, gw_o, mt_a, mt_p, mt_r, mt_j, mt_i, mt_1, mt_2, mt_e, ex_l, mk_j, mk_1, mk_2, mk_a, mk_e, mk_p, mk_r, mk_i, vs_n, vs_c, om_s, sv_e, sv_l, sv_d, ky_s, ky_i, sr_v, sr_n, rt_n, rt_v, rt_w, rt_l, rt_o, pr_0, pr_v, pr_n, pr_o, pr_f, e_k, e_v, e_g, e_tup, e_lst, e_bin, e_neg, ng_i, e_cmp, e_chain, e_and, e_or, e_not, e_ite, e_int1, in_i, e_ix, e_sl, sc_v, e_isi, e_call, e_callv, gl_c, e_callk, e_fz, e_gc, e_maxd, mx_c, e_sset, ss_c, e_dnew, e_disp, e_items, it_d, e_rvs, rv_l, e_blt, e_mth, e_lc, e_lc2, e_nil, e_cons, t_nil, t_cons, i_seq, i_rng1, rg_1, i_rng2, rg_2, i_enum, i_rev, s_expr, s_ret, s_retN, s_set, s_unp, un_t, s_star, s_seti, s_aug, au_1, au_2, au_a, au_s, s_ite, t_e, s_for, s_while, s_pass, s_cont, s_brk, s_nil, s_cons, fe_n, fe_b, fe_r, fe_s, o_add, o_sub, o_cat, o_lst, o_tup, c_lt, c_le, c_gt, c_ge, c_es, c_ns, c_ei, c_ni, c_eb, c_nb, c_nt, c_in, xt_0, xt_1, xt_2, xt_3, xl_0, xl_1, xl_2, xl_3, n_ll, n_lt, n_ld, n_tl, n_tt, n_dl, n_dt, n_ab, n_ib, n_ii, n_dd, n_rt, n_rl, n_g1, n_g2, q_0, q_1, q_2, q_3, q_4, q_5, q_6, q_7, q_8, al_0, al_1, al_2, al_3, ift, ifT, ifF, ifx, is_l, pw_a, pw_b, pw_c, pw_d, o_mul, o_fd, o_mod, o_pow, List.map_cons, List.map_nil, List.replicate, List.cons_append, List.nil_append, Bool.not_true, Bool.not_false, Bool.and_true, Bool.true_and, Bool.and_false, Bool.false_and, Bool.or_false, Bool.false_or, Bool.or_true, Bool.true_or, Nat.reduceBEq, Nat.reduceSub, List.all_cons, List.all_nil, need_d hu, need_b hdiv, at_2, decide_eq_true c]
  · have c' : decide (0 < left) = false := decide_eq_false c
    have k1 := mul_l (i := 41) (j := at_) (by decide)
    have fin := fun cell => tail_ok (Φ := callV T.prog W k) (W := W) (cell := cell) (upto := upto) h0 rfl h1 hl hc ha hu hu2
    cases cs with
    | nil =>
      obtain ⟨r, c, e1, e2⟩ := fin (41 * at_ + 13)
      refine ⟨r, c, ?_, e2⟩
      have en := ne_nil (cs := [])
      simp only [List.map_nil, List.isEmpty_nil, Bool.not_true] at en
      rw [← e1]
      simp only [bTake, v_bind, v_of, v_need, v_ct, v_cf, v_only, v_toF, f_thn, f_thr, f_thb, f_thc, f_of, f_ct, f_cf, rs_v, rs_n, rs_l, sl_o, rl_n, rl_c, rl_k, g_0, g_s, st_0, st_s, lk_v, lk_o, fz_v, fz_n, fz_l, fz_o, fs_n, fs_c, vl_int, vl_str, vl_bl, vl_tup, vl_lst, vl_dic, vl_non, vl_glo, bv_s, or_ok, or_nl, or_nd, tv_bl, tv_int, tv_non, tv_lst, tv_tup, ag_v, ag_n, ag_l, ag_o, as_n, as_c, as_k, nd_n, nd_v, nd_w, nd_l, li_n, li_v, li_w, li_l, pb_n, pb_v, pb_w, pb_l, pb_o, bk_o, cl_r, ps_e, ps_n, ps_v, ps_o, pd_e, no_int, no_str, no_bl, no_tup, no_lst, no_dic, no_non, no_glo, av_n, av_c, av_k, ag1, ag2, wp_n, wp_c, ro_n, ro_c, gd_0, gd_s, mn_n, mn_c, ti_v, ti_t, tn_0, tn_1, hv_l, hv_t, hv_s, hv_n, hv_o, hc_m, hc_l, hl_l, hl_n, hl_o, fr_n, fr_s, fr_o, ed_v, gw_l, gw_o, mt_a, mt_p, mt_r, mt_j, mt_i, mt_1, mt_2, mt_e, ex_l, mk_j, mk_1, mk_2, mk_a, mk_e, mk_p, mk_r, mk_i, vs_n, vs_c, om_s, sv_e, sv_l, sv_d, ky_s, ky_i, sr_v, sr_n, rt_n, rt_v, rt_w, rt_l, rt_o, pr_0, pr_v, pr_n, pr_o, pr_f, e_k, e_v, e_g, e_tup, e_lst, e_bin, e_neg, ng_i, e_cmp, e_chain, e_and, e_or, e_not, e_ite, e_int1, in_i, e_ix, e_sl, sc_v, e_isi, e_call, e_callv, gl_c, e_callk, e_fz, e_gc, e_maxd, mx_c, e_sset, ss_c, e_dnew, e_disp, e_items, it_d, e_rvs, rv_l, e_blt, e_mth, e_lc, e_lc2, e_nil, e_cons, t_nil, t_cons, i_seq, i_rng1, rg_1, i_rng2, rg_2, i_enum, i_rev, s_expr, s_ret, s_retN, s_set, s_unp, un_t, s_star, s_seti, s_aug, au_1, au_2, au_a, au_s, s_ite, t_e, s_for, s_while, s_pass, s_cont, s_brk, s_nil, s_cons, fe_n, fe_b, fe_r, fe_s, o_add, o_sub, o_cat, o_lst, o_tup, c_lt, c_le, c_gt, c_ge, c_es, c_ns, c_ei, c_ni, c_eb, c_nb, c_nt, c_in, xt_0, xt_1, xt_2, xt_3, xl_0, xl_1, xl_2, xl_3, n_ll, n_lt, n_ld, n_tl, n_tt, n_dl, n_dt, n_ab, n_ib, n_ii, n_dd, n_rt, n_rl, n_g1, n_g2, q_0, q_1, q_2, q_3, q_4, q_5, q_6, q_7, q_8, al_0, al_1, al_2, al_3, ift, ifT, ifF, ifx, is_l, pw_a, pw_b, pw_c, pw_d, o_mul, o_fd, o_mod, o_pow, List.map_cons, List.map_nil, List.replicate, List.cons_append, List.nil_append, Bool.not_true, Bool.not_false, Bool.and_true, Bool.true_and, Bool.and_false, Bool.false_and, Bool.or_false, Bool.false_or, Bool.or_true, Bool.true_or, Nat.reduceBEq, Nat.reduceSub, List.all_cons, List.all_nil, c', at_1, k1, en]
    | cons z zs =>
      have hlen : 0 < (((z :: zs).map D.int).length : Int) := by simp
      have q0 := Int.emod_nonneg at_ (b := (((z :: zs).map D.int).length : Int)) (by omega)
      have q1 := Int.emod_lt_of_pos at_ hlen
      have hi : (at_ % (((z :: zs).map D.int).length : Int)).toNat < (z :: zs).length := by simp only [List.length_map] at q0 q1 ⊢; omega
      have hg : ((z :: zs).map D.int)[(at_ % (((z :: zs).map D.int).length : Int)).toNat]? = some (.int ((z :: zs)[(at_ % (((z :: zs).map D.int).length : Int)).toNat]'hi)) := by rw [List.getElem?_map, List.getElem?_eq_getElem hi] <;> rfl
      generalize (z :: zs)[(at_ % (((z :: zs).map D.int).length : Int)).toNat]'hi = cell at hg
      obtain ⟨r, c, e1, e2⟩ := fin cell
      refine ⟨r, c, ?_, e2⟩
      have en := ne_nil (cs := z :: zs)
      have hix := fun ρ => xl_at (ρ := ρ) q0 hg
      generalize hxs : (z :: zs).map D.int = xs at *
      simp only [List.isEmpty_cons, Bool.not_false] at en
      rw [← e1]
      simp only [bTake, v_bind, v_of, v_need, v_ct, v_cf, v_only, v_toF, f_thn, f_thr, f_thb, f_thc, f_of, f_ct, f_cf, rs_v, rs_n, rs_l, sl_o, rl_n, rl_c, rl_k, g_0, g_s, st_0, st_s, lk_v, lk_o, fz_v, fz_n, fz_l, fz_o, fs_n, fs_c, vl_int, vl_str, vl_bl, vl_tup, vl_lst, vl_dic, vl_non, vl_glo, bv_s, or_ok, or_nl, or_nd, tv_bl, tv_int, tv_non, tv_lst, tv_tup, ag_v, ag_n, ag_l, ag_o, as_n, as_c, as_k, nd_n, nd_v, nd_w, nd_l, li_n, li_v, li_w, li_l, pb_n, pb_v, pb_w, pb_l, pb_o, bk_o, cl_r, ps_e, ps_n, ps_v, ps_o, pd_e, no_int, no_str, no_bl, no_tup, no_lst, no_dic, no_non, no_glo, av_n, av_c, av_k, ag1, ag2, wp_n, wp_c, ro_n, ro_c, gd_0, gd_s, mn_n, mn_c, ti_v, ti_t, tn_0, tn_1, hv_l, hv_t, hv_s, hv_n, hv_o, hc_m, hc_l, hl_l, hl_n, hl_o, fr_n, fr_s, fr_o, ed_v, gw_l, gw_o, mt_a, mt_p, mt_r, mt_j, mt_i, mt_1, mt_2, mt_e, ex_l, mk_j, mk_1, mk_2, mk_a, mk_e, mk_p, mk_r, mk_i, vs_n, vs_c, om_s, sv_e, sv_l, sv_d, ky_s, ky_i, sr_v, sr_n, rt_n, rt_v, rt_w, rt_l, rt_o, pr_0, pr_v, pr_n, pr_o, pr_f, e_k, e_v, e_g, e_tup, e_lst, e_bin, e_neg, ng_i, e_cmp, e_chain, e_and, e_or, e_not, e_ite, e_int1, in_i, e_ix, e_sl, sc_v, e_isi, e_call, e_callv, gl_c, e_callk, e_fz, e_gc, e_maxd, mx_c, e_sset, ss_c, e_dnew, e_disp, e_items, it_d, e_rvs, rv_l, e_blt, e_mth, e_lc, e_lc2, e_nil, e_cons, t_nil, t_cons, i_seq, i_rng1, rg_1, i_rng2, rg_2, i_enum, i_rev, s_expr, s_ret, s_retN, s_set, s_unp, un_t, s_star, s_seti, s_aug, au_1, au_2, au_a, au_s, s_ite, t_e, s_for, s_while, s_pass, s_cont, s_brk, s_nil, s_cons, fe_n, fe_b, fe_r, fe_s, o_add, o_sub, o_cat, o_lst, o_tup, c_lt, c_le, c_gt, c_ge, c_es, c_ns, c_ei, c_ni, c_eb, c_nb, c_nt, c_in, xt_0, xt_1, xt_2, xt_3, xl_0, xl_1, xl_2, xl_3, n_ll, n_lt, n_ld, n_tl, n_tt, n_dl, n_dt, n_ab, n_ib, n_ii, n_dd, n_rt, n_rl, n_g1, n_g2, q_0, q_1, q_2, q_3, q_4, q_5, q_6, q_7, q_8, al_0, al_1, al_2, al_3, ift, ifT, ifF, ifx, is_l, pw_a, pw_b, pw_c, pw_d, o_mul, o_fd, o_mod, o_pow, List.map_cons, List.map_nil, List.replicate, List.cons_append, List.nil_append, Bool.not_true, Bool.not_false, Bool.and_true, Bool.true_and, Bool.and_false, Bool.false_and, Bool.or_false, Bool.false_or, Bool.or_true, Bool.true_or, Nat.reduceBEq, Nat.reduceSub, List.all_cons, List.all_nil, c', at_1, k1, en, need_d hlen, hix]
end VS

/-! VV, part Z: words, texts that are told, terms. -/
namespace VS
open PySem

/-! ### words -/
/-- a text of at most so many plain signs -/
def Wd (n : Nat) (s : Str) : Prop := s.cps.size ≤ n ∧ ∀ c ∈ s.cps.toList, c < 128
instance (n : Nat) (s : Str) : Decidable (Wd n s) := by unfold Wd; infer_instance
theorem Wd.mono {n m : Nat} {s : Str} (h : Wd n s) (hm : n ≤ m) : Wd m s := ⟨Nat.le_trans h.1 hm, h.2⟩
theorem Wd.app {n m : Nat} {s t : Str} (h : Wd n s) (h2 : Wd m t) : Wd (n + m) (s ++ t) := by
  obtain ⟨x⟩ := s
  obtain ⟨y⟩ := t
  refine ⟨?_, fun c hc => ?_⟩
  · show (x ++ y).size ≤ n + m
    rw [Array.size_append]
    exact Nat.add_le_add h.1 h2.1
  · have hc : c ∈ (x ++ y).toList := hc
    rw [Array.toList_append, List.mem_append] at hc
    exact hc.elim (h.2 c) (h2.2 c)
theorem Wd.strOk {n : Nat} {s : Str} (h : Wd n s) : PyData.strOk s = true := by
  unfold PyData.strOk
  rw [Array.all_eq_true_iff_forall_mem]
  intro c hc
  have := h.2 c (Array.mem_toList_iff.mpr hc)
  simp; omega
theorem Wd.cut {n : Nat} {s : Str} (h : Wd n s) (i j : Nat) : Wd n ⟨(VS.cut s.cps.toList i j).toArray⟩ := by
  refine ⟨?_, fun c hc => ?_⟩
  · show (VS.cut s.cps.toList i j).toArray.size ≤ n
    unfold VS.cut
    have := h.1
    simp only [List.size_toArray, List.length_take, List.length_drop, Array.length_toList]
    omega
  · have hc : c ∈ VS.cut s.cps.toList i j := by simpa using hc
    unfold VS.cut at hc
    exact h.2 c (List.mem_of_mem_drop (List.mem_of_mem_take hc))
theorem Wd.one {c : Nat} (h : c < 128) : Wd 1 ⟨#[c]⟩ := ⟨Nat.le_refl _, fun d hd => by
  have : d = c := by simpa using hd
  rw [this]; exact h⟩
theorem wd_glue {n : Nat} {g : Str} (hg : g.cps = #[]) : ∀ {ws : List Str} {acc : Array Nat} {m : Nat}, (∀ w ∈ ws, Wd n w) → Wd m ⟨acc⟩ → Wd (m + n * ws.length) ⟨ws.foldl (fun acc p => acc ++ g.cps ++ p.cps) acc⟩
  | [], acc, m, _, h => by simpa using h
  | w :: ws, acc, m, hw, h => by
    have h1 : Wd (m + n) ⟨acc ++ g.cps ++ w.cps⟩ := by
      rw [hg, Array.append_empty]
      exact h.app (hw w List.mem_cons_self)
    have := wd_glue hg (ws := ws) (acc := acc ++ g.cps ++ w.cps) (fun v hv => hw v (List.mem_cons_of_mem _ hv)) h1
    rw [List.length_cons, Nat.mul_succ, show m + (n * ws.length + n) = m + n + n * ws.length by omega]
    exact this
theorem wd_join {n : Nat} {g : Str} (hg : g.cps = #[]) {ws : List Str} (hw : ∀ w ∈ ws, Wd n w) : Wd (n * ws.length) (Txt.join g ws) := by
  cases ws with
  | nil => exact ⟨by show (0 : Nat) ≤ _; omega, fun c hc => by cases hc⟩
  | cons w ws =>
    have := wd_glue hg (ws := ws) (acc := w.cps) (m := n) (fun v hv => hw v (List.mem_cons_of_mem _ hv)) (hw w List.mem_cons_self)
    rw [List.length_cons, Nat.mul_succ, Nat.add_comm]
    exact this
theorem strs_of : ∀ ws : List Str, strsD (ws.map .str) = some ws
  | [] => rfl
  | w :: ws => by show (strsD (ws.map .str)).map (w :: ·) = _; rw [strs_of ws] <;> rfl
theorem sum_le {n : Nat} : ∀ {ws : List Str}, (∀ w ∈ ws, Wd n w) → (ws.map (·.length)).sum ≤ n * ws.length
  | [], _ => by simp
  | w :: ws, h => by
    have h1 := (h w List.mem_cons_self).1
    have h2 := sum_le (ws := ws) fun v hv => h v (List.mem_cons_of_mem _ hv)
    rw [List.map_cons, List.sum_cons, List.length_cons, Nat.mul_succ]
    have : w.length = w.cps.size := rfl
    omega
theorem jn_ok {ρ : VE} {g : Str} (hg : g.cps = #[]) {ws : List Str} (hw : ∀ w ∈ ws, Wd 1 w) (hl : ws.length ≤ 1000) : ofR (mthV .join (.str g) [.lst (ws.map .str)] []) ρ = .ok (.v (.str (Txt.join g ws))) ρ := by
  have h1 := sum_le hw
  have h2 : g.length = 0 := by show g.cps.size = 0; rw [hg] <;> rfl
  show ofR (match strsD (ws.map .str) with | some ss => _ | none => _) ρ = _
  rw [strs_of]
  show ofR (R.need (decide ((ws.map (·.length)).sum + ws.length * g.length ≤ line)) _) ρ = _
  rw [decide_eq_true (by rw [h2]; unfold line; omega)]
  rfl
theorem cut_map {α β : Type} (f : α → β) (xs : List α) (i j : Nat) : cut (xs.map f) i j = (cut xs i j).map f := by unfold cut; rw [← List.map_drop, ← List.map_take]
theorem cut_mem {α : Type} {xs : List α} {i j : Nat} {x : α} (h : x ∈ cut xs i j) : x ∈ xs := by unfold cut at h; exact List.mem_of_mem_drop (List.mem_of_mem_take h)
theorem cut_len {α : Type} {xs : List α} {i j : Nat} : (cut xs i j).length = min (j - i) (xs.length - i) := by unfold cut; simp
theorem bnd_int {n d : Nat} {v : Int} (h : 0 ≤ v) : bnd n d (.int v) = some (min v.toNat n) := by
  show some (if v < 0 then _ else _) = _
  rw [if_neg (by omega)]
theorem bnd_non {n d : Nat} : bnd n d .non = some d := rfl
/-- the sign at a place -/
theorem ix_str {ρ : VE} {n : Nat} {s : Str} (h : Wd n s) (hn : n ≤ 1000000) {i : Int} (h0 : 0 ≤ i) (h1 : i < s.cps.size) : ∃ t, ofR (ixV (.str s) (.int i) []) ρ = .ok (.v (.str t)) ρ ∧ Wd 1 t := by
  have hl : i.toNat < s.cps.toList.length := by rw [Array.length_toList]; omega
  refine ⟨⟨#[s.cps.toList[i.toNat]]⟩, ?_, Wd.one (h.2 _ (List.getElem_mem hl))⟩
  show ofR (R.need (decide (s.length ≤ line)) _) ρ = _
  rw [decide_eq_true (by have := h.1; show s.cps.size ≤ line; unfold line; omega)]
  unfold atN
  rw [if_pos h0, if_pos hl]
  dsimp only [R.need]
  rw [if_pos rfl, List.getElem?_eq_getElem hl]
  rfl
theorem sl_str {ρ : VE} {n : Nat} {s : Str} (h : Wd n s) (hn : n ≤ 1000000) {lo hi : D} {i j : Nat} (h1 : bnd s.cps.toList.length 0 lo = some i) (h2 : bnd s.cps.toList.length s.cps.toList.length hi = some j) :
    ∃ t, ofR (slV (.str s) lo hi []) ρ = .ok (.v (.str t)) ρ ∧ Wd n t ∧ t = ⟨(cut s.cps.toList i j).toArray⟩ := by
  refine ⟨_, ?_, h.cut i j, rfl⟩
  show ofR (R.need (decide (s.length ≤ line)) _) ρ = _
  rw [decide_eq_true (by have := h.1; show s.cps.size ≤ line; unfold line; omega), h1, h2]
  rfl
theorem cat_str {ρ : VE} {n m : Nat} {s t : Str} (h : Wd n s) (h2 : Wd m t) (hn : n + m ≤ 1000000) {α : Type} (r : V α) : V.need (decide (s.length + t.length ≤ line)) r = r := by
  rw [decide_eq_true (by have := h.1; have := h2.1; show s.cps.size + t.cps.size ≤ line; unfold line; omega)]
  rfl
theorem len_str {ρ : VE} {n : Nat} {s : Str} (h : Wd n s) (hn : n ≤ 1000000) : ofR (bltV .len [.str s] []) ρ = .ok (.v (.int s.cps.size)) ρ := by
  show ofR (R.need (decide (s.length ≤ line)) (R.ok (D.int s.length) [])) ρ = _
  rw [decide_eq_true (by have := h.1; show s.cps.size ≤ line; unfold line; omega)]
  rfl
theorem sl_lst {ρ : VE} {xs : List D} {lo hi : D} {i j : Nat} (h1 : bnd xs.length 0 lo = some i) (h2 : bnd xs.length xs.length hi = some j) : ofR (slV (.lst xs) lo hi []) ρ = .ok (.new (.lst (cut xs i j))) ρ := by
  show ofR (match bnd xs.length 0 lo, bnd xs.length xs.length hi with | some i, some j => _ | _, _ => _) ρ = _
  rw [h1, h2] <;> rfl
theorem sl_tup {ρ : VE} {xs : List D} {lo hi : D} {i j : Nat} (h1 : bnd xs.length 0 lo = some i) (h2 : bnd xs.length xs.length hi = some j) : ofR (slV (.tup xs) lo hi []) ρ = .ok (.v (.tup (cut xs i j))) ρ := by
  show ofR (match bnd xs.length 0 lo, bnd xs.length xs.length hi with | some i, some j => _ | _, _ => _) ρ = _
  rw [h1, h2] <;> rfl

/-- texts that are told: plain data without numbers -/
structure Sm (d : D) : Prop where
  dat : d.dat = true
  sh : d.py.showable = true
  nos : PyData.intsShort 13 d.py = true
structure Sms (ds : List D) : Prop where
  dat : D.dats ds = true
  sh : PyData.showableAll (D.pys ds) = true
  nos : PyData.intsShortAll 13 (D.pys ds) = true
theorem Sms.nil : Sms [] := ⟨rfl, rfl, rfl⟩
theorem Sms.cons {d : D} {ds : List D} (h : Sm d) (h2 : Sms ds) : Sms (d :: ds) :=
  ⟨by show (d.dat && D.dats ds) = true; rw [h.dat, h2.dat] <;> rfl, by show (d.py.showable && PyData.showableAll (D.pys ds)) = true; rw [h.sh, h2.sh] <;> rfl,
    by show (PyData.intsShort 13 d.py && PyData.intsShortAll 13 (D.pys ds)) = true; rw [h.nos, h2.nos] <;> rfl⟩
theorem Sm.tup {ds : List D} (h : Sms ds) : Sm (.tup ds) := ⟨h.dat, h.sh, h.nos⟩
theorem Sm.lst {ds : List D} (h : Sms ds) : Sm (.lst ds) := ⟨h.dat, h.sh, h.nos⟩
theorem Sm.str {s : Str} (h : PyData.strOk s = true) : Sm (.str s) := ⟨h, rfl, rfl⟩
theorem Sm.wd {n : Nat} {s : Str} (h : Wd n s) : Sm (.str s) := .str h.strOk
theorem Sms.of {ds : List D} (h : ∀ d ∈ ds, Sm d) : Sms ds := by
  induction ds with
  | nil => exact .nil
  | cons d ds ih => exact .cons (h d List.mem_cons_self) (ih fun e he => h e (List.mem_cons_of_mem _ he))
/-- how much text -/
def D.wt (d : D) : Nat := d.py.weight
def D.wts (ds : List D) : Nat := PyData.weightAll (D.pys ds)
theorem wts_nil : D.wts [] = 0 := rfl
theorem wts_cons {d : D} {ds : List D} : D.wts (d :: ds) = d.wt + 1 + D.wts ds := rfl
theorem wt_tup {ds : List D} : (D.tup ds).wt = D.wts ds := rfl
theorem wt_lst {ds : List D} : (D.lst ds).wt = D.wts ds := rfl
theorem wt_str {s : Str} : (D.str s).wt = s.cps.size := rfl
theorem dep_str {s : Str} : (D.str s).dep = 0 := rfl
theorem dep_tup {ds : List D} : (D.tup ds).dep = D.deps ds + 1 := rfl
theorem dep_lst {ds : List D} : (D.lst ds).dep = D.deps ds + 1 := rfl
theorem deps_cons {d : D} {ds : List D} : D.deps (d :: ds) = max d.dep (D.deps ds) := rfl
theorem deps_nil : D.deps [] = 0 := rfl
theorem rp_of {d : D} (h : Sm d) (h1 : d.dep ≤ 64) (h2 : d.wt ≤ 1048576) : d.rp = true := by
  have lay : PyData.layable0 d.py = true := by
    show (PyData.canLay0 d.py && decide (PyData.depth d.py ≤ 64) && decide (PyData.weight d.py ≤ 2 ^ 20)) = true
    rw [lay_py d h.dat, dep_py, decide_eq_true h1, decide_eq_true (show PyData.weight d.py ≤ 2 ^ 20 from h2)]
    rfl
  have := PyData.shown_fits_of_layable0 (B := 13) (by decide) (by decide) lay h.nos
  unfold D.rp
  rw [h.dat, h.sh, decide_eq_true h1, decide_eq_true (show d.py.shown.length ≤ line by rw [line_eq]; exact this)]
  rfl
/-! ### terms, patterns -/
inductive Tm where
  | hole (s : Str)
  | name (s : Str)
  | of (w : Str) (ts : List Tm)
  | bind (w n : Str) (t : Tm)
mutual
def Tm.d : Tm → D
  | .hole s => .tup [.str "hole", .str s]
  | .name s => .tup [.str "name", .str s]
  | .of w ts => .tup [.str "of", .str w, .tup (Tm.ds ts)]
  | .bind w n t => .tup [.str "bind", .str w, .str n, t.d]
def Tm.ds : List Tm → List D
  | [] => []
  | t :: ts => t.d :: Tm.ds ts
end
mutual
/-- its parts -/
def Tm.n : Tm → Nat
  | .hole _ => 1
  | .name _ => 1
  | .of _ ts => 1 + Tm.ns ts
  | .bind _ _ t => 1 + t.n
def Tm.ns : List Tm → Nat
  | [] => 0
  | t :: ts => t.n + Tm.ns ts
end
mutual
/-- its depth -/
def Tm.h : Tm → Nat
  | .hole _ => 1
  | .name _ => 1
  | .of _ ts => 1 + Tm.hs ts
  | .bind _ _ t => 1 + t.h
def Tm.hs : List Tm → Nat
  | [] => 0
  | t :: ts => max t.h (Tm.hs ts)
end
mutual
/-- words of at most so many plain signs -/
def Tm.ok (m : Nat) : Tm → Prop
  | .hole s => Wd m s
  | .name s => Wd m s
  | .of w ts => Wd m w ∧ Tm.oks m ts
  | .bind w n t => Wd m w ∧ Wd m n ∧ t.ok m
def Tm.oks (m : Nat) : List Tm → Prop
  | [] => True
  | t :: ts => t.ok m ∧ Tm.oks m ts
end
theorem ds_map : ∀ ts : List Tm, Tm.ds ts = ts.map Tm.d
  | [] => rfl
  | t :: ts => by rw [Tm.ds, ds_map ts] <;> rfl
theorem oks_iff {m : Nat} : ∀ {ts : List Tm}, Tm.oks m ts ↔ ∀ t ∈ ts, t.ok m
  | [] => by simp [Tm.oks]
  | t :: ts => by simp [Tm.oks, oks_iff (ts := ts)]
theorem ns_app : ∀ ts us : List Tm, Tm.ns (ts ++ us) = Tm.ns ts + Tm.ns us
  | [], us => by simp [Tm.ns]
  | t :: ts, us => by rw [List.cons_append, Tm.ns, Tm.ns, ns_app ts us]; omega
theorem hs_app : ∀ ts us : List Tm, Tm.hs (ts ++ us) = max (Tm.hs ts) (Tm.hs us)
  | [], us => by simp [Tm.hs]
  | t :: ts, us => by rw [List.cons_append, Tm.hs, Tm.hs, hs_app ts us]; omega
theorem n_pos : ∀ t : Tm, 1 ≤ t.n
  | .hole _ => by rw [Tm.n]; omega
  | .name _ => by rw [Tm.n]; omega
  | .of _ _ => by rw [Tm.n]; omega
  | .bind _ _ _ => by rw [Tm.n]; omega
mutual
theorem tm_sm {m : Nat} : ∀ {t : Tm}, t.ok m → Sm t.d
  | .hole s, h => by rw [Tm.d]; rw [Tm.ok] at h; exact .tup (.cons (.str (by decide +kernel)) (.cons (.wd h) .nil))
  | .name s, h => by rw [Tm.d]; rw [Tm.ok] at h; exact .tup (.cons (.str (by decide +kernel)) (.cons (.wd h) .nil))
  | .of w ts, h => by rw [Tm.d]; rw [Tm.ok] at h; exact .tup (.cons (.str (by decide +kernel)) (.cons (.wd h.1) (.cons (.tup (tms_sm h.2)) .nil)))
  | .bind w n t, h => by rw [Tm.d]; rw [Tm.ok] at h; exact .tup (.cons (.str (by decide +kernel)) (.cons (.wd h.1) (.cons (.wd h.2.1) (.cons (tm_sm h.2.2) .nil))))
theorem tms_sm {m : Nat} : ∀ {ts : List Tm}, Tm.oks m ts → Sms (Tm.ds ts)
  | [], _ => by rw [Tm.ds]; exact .nil
  | t :: ts, h => by rw [Tm.ds]; rw [Tm.oks] at h; exact .cons (tm_sm h.1) (tms_sm h.2)
end
mutual
theorem tm_dep : ∀ t : Tm, t.d.dep ≤ 2 * t.h
  | .hole s => by rw [Tm.d, Tm.h]; simp [dep_tup, deps_cons, deps_nil, dep_str]
  | .name s => by rw [Tm.d, Tm.h]; simp [dep_tup, deps_cons, deps_nil, dep_str]
  | .of w ts => by
    have := tms_dep ts
    rw [Tm.d, Tm.h]; simp only [dep_tup, deps_cons, deps_nil, dep_str]; omega
  | .bind w n t => by
    have := tm_dep t
    rw [Tm.d, Tm.h]; simp only [dep_tup, deps_cons, deps_nil, dep_str]; omega
theorem tms_dep : ∀ ts : List Tm, D.deps (Tm.ds ts) ≤ 2 * Tm.hs ts
  | [] => by rw [Tm.ds]; simp [deps_nil]
  | t :: ts => by
    have := tm_dep t
    have := tms_dep ts
    rw [Tm.ds, Tm.hs]; simp only [deps_cons]; omega
end
mutual
theorem tm_wt {m : Nat} : ∀ {t : Tm}, t.ok m → t.d.wt + 1 ≤ (2 * m + 20) * t.n
  | .hole s, h => by
    rw [Tm.ok] at h
    have := h.1
    rw [Tm.d, Tm.n]; simp only [wt_tup, wts_cons, wts_nil, wt_str, show (Str.ofString "hole").cps.size = 4 by decide +kernel]; omega
  | .name s, h => by
    rw [Tm.ok] at h
    have := h.1
    rw [Tm.d, Tm.n]; simp only [wt_tup, wts_cons, wts_nil, wt_str, show (Str.ofString "name").cps.size = 4 by decide +kernel]; omega
  | .of w ts, h => by
    rw [Tm.ok] at h
    have := h.1.1
    have := tms_wt h.2
    rw [Tm.d, Tm.n, Nat.mul_add]; simp only [wt_tup, wts_cons, wts_nil, wt_str, show (Str.ofString "of").cps.size = 2 by decide +kernel]; omega
  | .bind w n t, h => by
    rw [Tm.ok] at h
    have := h.1.1
    have := h.2.1.1
    have := tm_wt h.2.2
    rw [Tm.d, Tm.n, Nat.mul_add]; simp only [wt_tup, wts_cons, wts_nil, wt_str, show (Str.ofString "bind").cps.size = 4 by decide +kernel]; omega
theorem tms_wt {m : Nat} : ∀ {ts : List Tm}, Tm.oks m ts → D.wts (Tm.ds ts) ≤ (2 * m + 20) * Tm.ns ts
  | [], _ => by rw [Tm.ds]; simp [wts_nil]
  | t :: ts, h => by
    rw [Tm.oks] at h
    have := tm_wt h.1
    have := tms_wt h.2
    rw [Tm.ds, Tm.ns, Nat.mul_add]; simp only [wts_cons]; omega
end

/-! ### ways down -/
def Tm.kids : Tm → List Tm
  | .hole _ => []
  | .name _ => []
  | .of _ ts => ts
  | .bind _ _ t => [t]
def Tm.bn : Tm → List Str
  | .bind _ n _ => [n]
  | _ => []
theorem kids_ns : ∀ t : Tm, t.n = 1 + Tm.ns t.kids
  | .hole _ => by rw [Tm.n, Tm.kids, Tm.ns]
  | .name _ => by rw [Tm.n, Tm.kids, Tm.ns]
  | .of _ ts => by rw [Tm.n, Tm.kids]
  | .bind _ _ t => by rw [Tm.n, Tm.kids, Tm.ns, Tm.ns, Nat.add_zero]
theorem kids_h : ∀ (t : Tm), t.h = 1 + Tm.hs t.kids
  | .hole _ => by rw [Tm.h, Tm.kids, Tm.hs]
  | .name _ => by rw [Tm.h, Tm.kids, Tm.hs]
  | .of _ ts => by rw [Tm.h, Tm.kids]
  | .bind _ _ t => by rw [Tm.h, Tm.kids, Tm.hs, Tm.hs]; omega
theorem kids_ok {m : Nat} : ∀ {t : Tm}, t.ok m → Tm.oks m t.kids
  | .hole _, _ => by rw [Tm.kids, Tm.oks]; trivial
  | .name _, _ => by rw [Tm.kids, Tm.oks]; trivial
  | .of _ ts, h => by rw [Tm.ok] at h; exact h.2
  | .bind _ _ t, h => by rw [Tm.ok] at h; rw [Tm.kids, Tm.oks, Tm.oks]; exact ⟨h.2.2, trivial⟩
theorem bn_ok {m : Nat} : ∀ {t : Tm}, t.ok m → ∀ w ∈ t.bn, Wd m w
  | .hole _, _, w, h => by cases h
  | .name _, _, w, h => by cases h
  | .of _ ts, _, w, h => by cases h
  | .bind _ n t, h, w, hw => by rw [Tm.ok] at h; rw [Tm.bn, List.mem_singleton] at hw; rw [hw]; exact h.2.1
theorem ns_mem {t : Tm} : ∀ {ts : List Tm}, t ∈ ts → t.n ≤ Tm.ns ts
  | [], h => by cases h
  | u :: ts, h => by
    rw [Tm.ns]
    rcases List.mem_cons.mp h with rfl | h
    · omega
    · have := ns_mem h; omega
theorem hs_mem {t : Tm} : ∀ {ts : List Tm}, t ∈ ts → t.h ≤ Tm.hs ts
  | [], h => by cases h
  | u :: ts, h => by
    rw [Tm.hs]
    rcases List.mem_cons.mp h with rfl | h
    · omega
    · have := hs_mem h; omega

theorem tm_nr : ∀ t : Tm, t.d.nr = true
  | .hole _ | .name _ | .of _ _ | .bind _ _ _ => by rw [Tm.d] <;> rfl
theorem vl_tm {t : Tm} {ρ : VE} : vl t.d ρ = .ok (.v t.d) ρ := vl_nr (tm_nr t)
theorem no_tm {t : Tm} {o : Option VE} : nrO t.d o = o := no_nr (tm_nr t)
theorem s_hole : (Str.ofString "hole" == Str.ofString "hole") = true := by decide +kernel
/-- the words of kinds apart -/
theorem s_ho : (Str.ofString "hole" == Str.ofString "of") = false := by decide +kernel
theorem s_hb : (Str.ofString "hole" == Str.ofString "bind") = false := by decide +kernel
theorem s_hn : (Str.ofString "hole" == Str.ofString "name") = false := by decide +kernel
theorem s_hh : (Str.ofString "hole" == Str.ofString "hole") = true := by decide +kernel
theorem s_no : (Str.ofString "name" == Str.ofString "of") = false := by decide +kernel
theorem s_nb : (Str.ofString "name" == Str.ofString "bind") = false := by decide +kernel
theorem s_nn : (Str.ofString "name" == Str.ofString "name") = true := by decide +kernel
theorem s_nh : (Str.ofString "name" == Str.ofString "hole") = false := by decide +kernel
theorem s_oo : (Str.ofString "of" == Str.ofString "of") = true := by decide +kernel
theorem s_ob : (Str.ofString "of" == Str.ofString "bind") = false := by decide +kernel
theorem s_on : (Str.ofString "of" == Str.ofString "name") = false := by decide +kernel
theorem s_oh : (Str.ofString "of" == Str.ofString "hole") = false := by decide +kernel
theorem s_bo : (Str.ofString "bind" == Str.ofString "of") = false := by decide +kernel
theorem s_bb : (Str.ofString "bind" == Str.ofString "bind") = true := by decide +kernel
theorem s_bn : (Str.ofString "bind" == Str.ofString "name") = false := by decide +kernel
theorem s_bh : (Str.ofString "bind" == Str.ofString "hole") = false := by decide +kernel
/-! ### small letters -/
structure Low (n : Nat) (s : Str) : Prop where
  le : s.cps.size ≤ n
  pos : 1 ≤ s.cps.size
  low : ∀ c ∈ s.cps.toList, 97 ≤ c ∧ c ≤ 122
theorem Low.mono {n m : Nat} {s : Str} (h : Low n s) (hm : n ≤ m) : Low m s := ⟨Nat.le_trans h.le hm, h.pos, h.low⟩
theorem Low.wd {n : Nat} {s : Str} (h : Low n s) : Wd n s := ⟨h.le, fun c hc => by have := h.low c hc; omega⟩
theorem Low.one {c : Nat} (h : 97 ≤ c ∧ c ≤ 122) : Low 1 ⟨#[c]⟩ := ⟨Nat.le_refl _, Nat.le_refl _, fun d hd => by
  have : d = c := by simpa using hd
  rw [this]; exact h⟩
theorem glue_cps {g : Str} (hg : g.cps = #[]) : ∀ (ws : List Str) (acc : Array Nat), (ws.foldl (fun acc p => acc ++ g.cps ++ p.cps) acc).toList = acc.toList ++ ws.flatMap fun w => w.cps.toList
  | [], acc => by simp
  | w :: ws, acc => by rw [List.foldl_cons, glue_cps hg ws, hg, Array.append_empty, Array.toList_append, List.flatMap_cons, List.append_assoc]
theorem join_cps {g : Str} (hg : g.cps = #[]) (ws : List Str) : (Txt.join g ws).cps.toList = ws.flatMap fun w => w.cps.toList := by
  cases ws with
  | nil => rfl
  | cons w ws => rw [List.flatMap_cons]; exact glue_cps hg ws w.cps
theorem flat_len {ws : List Str} (h : ∀ w ∈ ws, Low 1 w) : (ws.flatMap fun w => w.cps.toList).length = ws.length := by
  induction ws with
  | nil => rfl
  | cons w ws ih =>
    rw [List.flatMap_cons, List.length_append, ih fun v hv => h v (List.mem_cons_of_mem _ hv), List.length_cons, Array.length_toList]
    have := h w List.mem_cons_self
    have := this.le
    have := (h w List.mem_cons_self).pos
    omega
theorem low_join {g : Str} (hg : g.cps = #[]) {ws : List Str} (h : ∀ w ∈ ws, Low 1 w) (h1 : 1 ≤ ws.length) : Low ws.length (Txt.join g ws) := by
  have e := join_cps hg ws
  have l := flat_len h
  have sz : (Txt.join g ws).cps.size = ws.length := by rw [← Array.length_toList, e, l]
  refine ⟨by omega, by omega, fun c hc => ?_⟩
  rw [e] at hc
  obtain ⟨w, hw, hc⟩ := List.mem_flatMap.mp hc
  exact (h w hw).low c hc
/-- the sign at a place, told -/
theorem ix_ch {ρ : VE} {n : Nat} {s : Str} (h : Wd n s) (hn : n ≤ 1000000) {i : Int} (h0 : 0 ≤ i) (h1 : i < s.cps.size) : ∃ c ∈ s.cps.toList, ofR (ixV (.str s) (.int i) []) ρ = .ok (.v (.str ⟨#[c]⟩)) ρ := by
  have hl : i.toNat < s.cps.toList.length := by rw [Array.length_toList]; omega
  refine ⟨s.cps.toList[i.toNat], List.getElem_mem hl, ?_⟩
  show ofR (R.need (decide (s.length ≤ line)) _) ρ = _
  rw [decide_eq_true (by have := h.1; show s.cps.size ≤ line; unfold line; omega)]
  unfold atN
  rw [if_pos h0, if_pos hl]
  dsimp only [R.need]
  rw [if_pos rfl, List.getElem?_eq_getElem hl]
  rfl
theorem abc_low : Wd 3 (Str.ofString "abc") ∧ (Str.ofString "abc").cps.size = 3 ∧ ∀ c ∈ (Str.ofString "abc").cps.toList, 97 ≤ c ∧ c ≤ 122 := by decide +kernel
theorem abz_low : Wd 26 (Str.ofString "abcdefghijklmnopqrstuvwxyz") ∧ (Str.ofString "abcdefghijklmnopqrstuvwxyz").cps.size = 26 ∧ ∀ c ∈ (Str.ofString "abcdefghijklmnopqrstuvwxyz").cps.toList, 97 ≤ c ∧ c ≤ 122 := by decide +kernel
theorem abc_at {i : Int} (h0 : 0 ≤ i) (h1 : i < 3) : ∃ w : Str, (∀ ρ, ofR (ixV (.str (Str.ofString "abc")) (.int i) []) ρ = .ok (.v (.str w)) ρ) ∧ Low 6 w := by
  have hl : i.toNat < (Str.ofString "abc").cps.toList.length := by rw [Array.length_toList, abc_low.2.1]; omega
  refine ⟨⟨#[(Str.ofString "abc").cps.toList[i.toNat]]⟩, fun ρ => ?_, (Low.one (abc_low.2.2 _ (List.getElem_mem hl))).mono (by decide)⟩
  show ofR (R.need (decide ((Str.ofString "abc").length ≤ line)) _) ρ = _
  rw [decide_eq_true (by show (Str.ofString "abc").cps.size ≤ line; rw [abc_low.2.1]; decide)]
  unfold atN
  rw [if_pos h0, if_pos hl]
  dsimp only [R.need]
  rw [if_pos rfl, List.getElem?_eq_getElem hl]
  rfl
theorem abz_at {i : Int} (h0 : 0 ≤ i) (h1 : i < 26) : ∃ w : Str, (∀ ρ, ofR (ixV (.str (Str.ofString "abcdefghijklmnopqrstuvwxyz")) (.int i) []) ρ = .ok (.v (.str w)) ρ) ∧ Low 1 w := by
  have hl : i.toNat < (Str.ofString "abcdefghijklmnopqrstuvwxyz").cps.toList.length := by rw [Array.length_toList, abz_low.2.1]; omega
  refine ⟨⟨#[(Str.ofString "abcdefghijklmnopqrstuvwxyz").cps.toList[i.toNat]]⟩, fun ρ => ?_, Low.one (abz_low.2.2 _ (List.getElem_mem hl))⟩
  show ofR (R.need (decide ((Str.ofString "abcdefghijklmnopqrstuvwxyz").length ≤ line)) _) ρ = _
  rw [decide_eq_true (by show (Str.ofString "abcdefghijklmnopqrstuvwxyz").cps.size ≤ line; rw [abz_low.2.1]; decide)]
  unfold atN
  rw [if_pos h0, if_pos hl]
  dsimp only [R.need]
  rw [if_pos rfl, List.getElem?_eq_getElem hl]
  rfl
mutual
/-- words of small letters -/
def Tm.low (m : Nat) : Tm → Prop
  | .hole s => Low m s
  | .name s => Low m s
  | .of w ts => Low m w ∧ Tm.lows m ts
  | .bind w n t => Low m w ∧ Low m n ∧ t.low m
def Tm.lows (m : Nat) : List Tm → Prop
  | [] => True
  | t :: ts => t.low m ∧ Tm.lows m ts
end
mutual
/-- no hole -/
def Tm.full : Tm → Prop
  | .hole _ => False
  | .name _ => True
  | .of _ ts => Tm.fulls ts
  | .bind _ _ t => t.full
def Tm.fulls : List Tm → Prop
  | [] => True
  | t :: ts => t.full ∧ Tm.fulls ts
end
mutual
theorem low_ok {m : Nat} : ∀ {t : Tm}, t.low m → t.ok m
  | .hole s, h => by rw [Tm.low] at h; rw [Tm.ok]; exact h.wd
  | .name s, h => by rw [Tm.low] at h; rw [Tm.ok]; exact h.wd
  | .of w ts, h => by rw [Tm.low] at h; rw [Tm.ok]; exact ⟨h.1.wd, lows_ok h.2⟩
  | .bind w n t, h => by rw [Tm.low] at h; rw [Tm.ok]; exact ⟨h.1.wd, h.2.1.wd, low_ok h.2.2⟩
theorem lows_ok {m : Nat} : ∀ {ts : List Tm}, Tm.lows m ts → Tm.oks m ts
  | [], _ => by rw [Tm.oks]; trivial
  | t :: ts, h => by rw [Tm.lows] at h; rw [Tm.oks]; exact ⟨low_ok h.1, lows_ok h.2⟩
end
theorem lows_app {m : Nat} : ∀ {ts us : List Tm}, Tm.lows m (ts ++ us) ↔ Tm.lows m ts ∧ Tm.lows m us
  | [], us => by simp [Tm.lows]
  | t :: ts, us => by simp only [List.cons_append, Tm.lows, lows_app (ts := ts), and_assoc]
theorem fulls_app : ∀ {ts us : List Tm}, Tm.fulls (ts ++ us) ↔ Tm.fulls ts ∧ Tm.fulls us
  | [], us => by simp [Tm.fulls]
  | t :: ts, us => by simp only [List.cons_append, Tm.fulls, fulls_app (ts := ts), and_assoc]

/-! ### slots that may be set; lists of texts -/
def Pt (s : Sl) : Prop := ∀ i s' ρ, putSC i s' ρ (some s) = some (ρ.set i s')
theorem pt_n : Pt .no := fun _ _ _ => rfl
theorem pt_v {d : D} : Pt (.v d) := fun _ _ _ => rfl
theorem pt_o {d : D} : Pt (.own false .mu d) := fun _ _ _ => rfl
theorem strs_dats : ∀ {ws : List Str}, (∀ w ∈ ws, PyData.strOk w = true) → D.dats (ws.map .str) = true
  | [], _ => rfl
  | w :: ws, h => by show (PyData.strOk w && D.dats (ws.map .str)) = true; rw [h w List.mem_cons_self, strs_dats fun v hv => h v (List.mem_cons_of_mem _ hv)] <;> rfl
theorem strs_deps : ∀ ws : List Str, D.deps (ws.map .str) = 0
  | [] => rfl
  | w :: ws => by show max 0 (D.deps (ws.map .str)) = 0; rw [strs_deps ws] <;> rfl
def eqSs : List Str → List Str → Bool
  | [], [] => true
  | x :: xs, y :: ys => x == y && eqSs xs ys
  | _, _ => false
theorem eqDs_str : ∀ xs ys : List Str, eqDs (xs.map .str) (ys.map .str) = eqSs xs ys
  | [], [] => rfl
  | [], _ :: _ => rfl
  | _ :: _, [] => rfl
  | x :: xs, y :: ys => by show (x == y && eqDs (xs.map .str) (ys.map .str)) = _; rw [eqDs_str xs ys] <;> rfl
theorem eqSs_refl : ∀ xs : List Str, eqSs xs xs = true
  | [] => rfl
  | x :: xs => by rw [eqSs, eqSs_refl xs]; simp
theorem eq_strs {xs ys : List Str} (hx : ∀ w ∈ xs, PyData.strOk w = true) (hy : ∀ w ∈ ys, PyData.strOk w = true) : eqV (.lst (xs.map .str)) (.lst (ys.map .str)) = some (eqSs xs ys) := by
  have e1 : D.dat (.lst (xs.map .str)) = true := strs_dats hx
  have e2 : D.dat (.lst (ys.map .str)) = true := strs_dats hy
  have e3 : D.dep (.lst (xs.map .str)) ≤ 64 := by show D.deps (xs.map .str) + 1 ≤ 64; rw [strs_deps]; decide
  unfold eqV
  rw [if_neg (by simp [D.flat]), if_pos (by simp [e1, e2, e3])]
  exact congrArg some (eqDs_str xs ys)
theorem ne_strs {xs : List Str} (hx : ∀ w ∈ xs, PyData.strOk w = true) : cmpV .ne (.lst (xs.map .str)) (.lst (xs.map .str)) = some false := by
  show (eqV _ _).map _ = _
  rw [eq_strs hx hx, eqSs_refl] <;> rfl
theorem ins_mem {x w : Str} : ∀ {l : List Str}, w ∈ insS x l → w = x ∨ w ∈ l
  | [], h => by rw [insS] at h; simpa using h
  | y :: l, h => by
    rw [insS] at h
    split at h
    · simpa using h
    · rcases List.mem_cons.mp h with h | h
      · exact .inr (by simp [h])
      · rcases ins_mem h with h | h
        · exact .inl h
        · exact .inr (by simp [h])
theorem sort_mem {w : Str} : ∀ {l : List Str}, w ∈ sortS l → w ∈ l
  | [], h => by rw [sortS] at h; exact h
  | x :: l, h => by
    rw [sortS] at h
    rcases ins_mem h with h | h
    · simp [h]
    · exact List.mem_cons_of_mem _ (sort_mem h)
theorem ins_len {x : Str} : ∀ {l : List Str}, (insS x l).length = l.length + 1
  | [] => rfl
  | y :: l => by
    rw [insS]
    split
    · rfl
    · rw [List.length_cons, ins_len, List.length_cons]
theorem sort_len : ∀ {l : List Str}, (sortS l).length = l.length
  | [] => rfl
  | x :: l => by rw [sortS, ins_len, sort_len, List.length_cons]
/-- what is told of a term -/
theorem repr_tm {t : Tm} {ρ : VE} (h : t.d.rp = true) : ofR (bltV .repr [t.d] []) ρ = .ok (.v (.str t.d.py.shown)) ρ := by
  cases t <;> (rw [Tm.d] at h ⊢; rw [n_rt, h] <;> rfl)
theorem tm_rp {t : Tm} {m : Nat} (h : t.ok m) (h1 : t.h ≤ 32) (h2 : (2 * m + 20) * t.n ≤ 1048576) : t.d.rp = true := by
  have a := tm_dep t
  have b := tm_wt h
  exact rp_of (tm_sm h) (by omega) (by omega)
theorem ded_sub {w : Str} : ∀ {xs acc : List Str}, w ∈ xs.foldl addS acc → w ∈ acc ∨ w ∈ xs
  | [], acc, h => .inl h
  | x :: xs, acc, h => by
    rw [List.foldl_cons] at h
    rcases ded_sub h with h | h
    · unfold addS at h
      split at h
      · exact .inl h
      · rcases List.mem_cons.mp h with h | h
        · exact .inr (by simp [h])
        · exact .inl h
    · exact .inr (List.mem_cons_of_mem _ h)
theorem ded_mem {w : Str} {xs : List Str} (h : w ∈ dedS xs) : w ∈ xs := by
  rcases ded_sub h with h | h
  · cases h
  · exact h
theorem ded_len : ∀ (xs acc : List Str), (xs.foldl addS acc).length ≤ acc.length + xs.length
  | [], acc => by simp
  | x :: xs, acc => by
    rw [List.foldl_cons]
    have := ded_len xs (addS acc x)
    have : (addS acc x).length ≤ acc.length + 1 := by unfold addS; split <;> simp
    simp only [List.length_cons]; omega
/-- the rising list of words, each once -/
def rising (xs : List Str) : List Str := sortS (dedS xs)
theorem rising_mem {w : Str} {xs : List Str} (h : w ∈ rising xs) : w ∈ xs := ded_mem (sort_mem h)
theorem rising_len (xs : List Str) : (rising xs).length ≤ xs.length := by
  unfold rising
  rw [sort_len]
  have := ded_len xs []
  unfold dedS
  simpa using this
theorem sset_ok {ρ : VE} {xs : List Str} (h : xs.length ≤ 3000) : ssC ρ (.lst (xs.map .str)) = .ok (.new (.lst ((rising xs).map .str))) ρ := by
  rw [ss_c, strs_of]
  show V.need (decide (xs.length < 4000)) _ = _
  rw [decide_eq_true (by omega)] <;> rfl
end VS

namespace Own
open PySem
def top (i : Nat) : PySem.Stmt := PySem.Challenge.pw_likebeneath_k02_free_names_and_holes.main.body.getD i (.Pass ⟨0, 0, 0, 0⟩)
def b_parts_of : VS.Sxs := (.cons (.ite (.cmp .eq (.ix (.v 0) (.k (.int 0))) (.k (.str "of")))
    (.cons (.ret (.ix (.v 0) (.k (.int 2))))
    .nil)
    .nil)
    (.cons (.ite (.cmp .eq (.ix (.v 0) (.k (.int 0))) (.k (.str "bind")))
    (.cons (.ret (.tup (.cons (.ix (.v 0) (.k (.int 3))) .nil)))
    .nil)
    .nil)
    (.cons (.ret (.tup .nil))
    .nil)))
def d_parts_of : VS.DefT := ⟨"parts_of", ⟨1, 1, b_parts_of⟩, top 1, ["pattern"], ["pattern"]⟩
def i_standing_0 : VS.It := (.seq (.call "standing" (.cons (.v 3) (.cons (.v 1) (.cons (.v 2) .nil)))))
def c_standing_0 : VS.Ex := (.v 4)
def b_standing : VS.Sxs := (.cons (.ite (.cmp .eq (.ix (.v 0) (.k (.int 0))) (.v 1))
    (.cons (.ret (.fz (.bin .mul (.fz (.lst (.cons (.ix (.v 0) (.k (.int 1))) .nil))) (.blt .int (.cons (.cmp .notin (.ix (.v 0) (.k (.int 1))) (.v 2)) .nil)))))
    .nil)
    .nil)
    (.cons (.ite (.and (.cmp .eq (.ix (.v 0) (.k (.int 0))) (.k (.str "bind"))) (.cmp .eq (.v 1) (.k (.str "name"))))
    (.cons (.set 2 (.fz (.bin .add (.v 2) (.fz (.lst (.cons (.ix (.v 0) (.k (.int 2))) .nil))))))
    .nil)
    .nil)
    (.cons (.ret (.fz (.lc2 c_standing_0 [3, 4] [4] (.v 3) (.seq (.call "parts_of" (.cons (.v 0) .nil))) .nil (.v 4) i_standing_0 .nil)))
    .nil)))
def d_standing : VS.DefT := ⟨"standing", ⟨3, 5, b_standing⟩, top 2, ["pattern", "kind", "bound", "part", "word"], ["pattern", "kind", "bound"]⟩
def b_free_names : VS.Sxs := (.cons (.ret (.sset (.call "standing" (.cons (.v 0) (.cons (.k (.str "name")) (.cons (.fz (.lst .nil)) .nil))))))
    .nil)
def d_free_names : VS.DefT := ⟨"free_names", ⟨1, 1, b_free_names⟩, top 3, ["pattern"], ["pattern"]⟩
def b_holes : VS.Sxs := (.cons (.ret (.sset (.call "standing" (.cons (.v 0) (.cons (.k (.str "hole")) (.cons (.fz (.lst .nil)) .nil))))))
    .nil)
def d_holes : VS.DefT := ⟨"holes", ⟨1, 1, b_holes⟩, top 4, ["pattern"], ["pattern"]⟩
def c__law_pen_0 : VS.Ex := (.v 1)
def b__law_pen : VS.Sxs := (.cons (.ret (.lst (.cons (.fz (.lc c__law_pen_0 [1] (.v 1) (.seq (.fz (.sl (.v 0) (.k .non) (.int1 (.k (.int 63)))))) .nil)) (.cons (.k (.int 0)) (.cons (.k (.int 0)) .nil)))))
    .nil)
def d__law_pen : VS.DefT := ⟨"_law_pen", ⟨1, 2, b__law_pen⟩, top 6, ["_law_script", "_law_cell"], ["_law_script"]⟩
def b__law_take_i11 : VS.Sxs := (.cons (.set 5 (.bin .add (.bin .mul (.k (.int 2)) (.bin .sub (.blt .abs (.cons (.v 4) .nil)) (.bin .pow (.k (.int 10)) (.k (.int 18))))) (.blt .int (.cons (.cmp .lt (.v 4) (.k (.int 0))) .nil))))
    (.cons (.seti (.v 0) (.k (.int 2)) (.bin .fdiv (.v 5) (.v 1)))
    (.cons (.ret (.bin .mod (.v 5) (.v 1)))
    .nil)))
def b__law_take_i2 : VS.Sxs := (.cons (.set 2 (.bin .mod (.ix (.v 0) (.k (.int 2))) (.v 1)))
    (.cons (.seti (.v 0) (.k (.int 2)) (.bin .fdiv (.ix (.v 0) (.k (.int 2))) (.v 1)))
    (.cons (.ret (.v 2))
    .nil)))
def b__law_take : VS.Sxs := (.cons (.ite (.cmp .gt (.ix (.v 0) (.k (.int 2))) (.k (.int 0)))
    b__law_take_i2
    .nil)
    (.cons (.set 3 (.ix (.v 0) (.k (.int 1))))
    (.cons (.seti (.v 0) (.k (.int 1)) (.bin .add (.v 3) (.k (.int 1))))
    (.cons (.set 4 (.bin .add (.bin .mul (.k (.int 41)) (.v 3)) (.k (.int 13))))
    (.cons (.ite (.cmp .ne (.ix (.v 0) (.k (.int 0))) (.fz (.lst .nil)))
    (.cons (.set 4 (.ix (.ix (.v 0) (.k (.int 0))) (.bin .mod (.v 3) (.blt .len (.cons (.ix (.v 0) (.k (.int 0))) .nil)))))
    .nil)
    .nil)
    (.cons (.ite (.and (.cmp .lt (.v 3) (.blt .len (.cons (.ix (.v 0) (.k (.int 0))) .nil))) (.cmp .ge (.blt .abs (.cons (.v 4) .nil)) (.bin .pow (.k (.int 10)) (.k (.int 18)))))
    b__law_take_i11
    .nil)
    (.cons (.set 6 (.bin .mod (.bin .pow (.bin .add (.bin .add (.bin .add (.bin .mod (.v 4) (.k (.int 2147483629))) (.bin .mul (.k (.int 40709)) (.v 3))) (.bin .mul (.bin .mul (.k (.int 7919)) (.v 3)) (.v 3))) (.k (.int 31))) (.k (.int 5))) (.k (.int 2147483647))))
    (.cons (.set 6 (.bin .mod (.bin .pow (.bin .add (.bin .add (.bin .mul (.v 6) (.k (.int 48271))) (.bin .mul (.k (.int 69621)) (.v 3))) (.k (.int 11))) (.k (.int 3))) (.k (.int 2147483587))))
    (.cons (.ite (.cmp .gt (.v 1) (.bin .pow (.k (.int 10)) (.k (.int 8))))
    (.cons (.set 6 (.bin .pow (.bin .add (.v 6) (.k (.int 17))) (.k (.int 7))))
    .nil)
    .nil)
    (.cons (.ret (.bin .mod (.bin .fdiv (.v 6) (.k (.int 7))) (.v 1)))
    .nil))))))))))
def d__law_take : VS.DefT := ⟨"_law_take", ⟨2, 7, b__law_take⟩, top 7, ["_law_pen_here", "_law_upto", "_law_found", "_law_at", "_law_cell", "_law_great", "_law_number"], ["_law_pen_here", "_law_upto"]⟩
def c__law_word_0 : VS.Ex := (.ix (.v 1) (.call "_law_take" (.cons (.v 0) (.cons (.k (.int 26)) .nil))))
def b__law_word : VS.Sxs := (.cons (.set 1 (.k (.str "abcdefghijklmnopqrstuvwxyz")))
    (.cons (.set 2 (.call "_law_take" (.cons (.v 0) (.cons (.k (.int 4)) .nil))))
    (.cons (.ite (.cmp .lt (.v 2) (.k (.int 2)))
    (.cons (.ret (.ix (.k (.str "abc")) (.call "_law_take" (.cons (.v 0) (.cons (.k (.int 3)) .nil)))))
    .nil)
    .nil)
    (.cons (.ite (.cmp .eq (.v 2) (.k (.int 2)))
    (.cons (.ret (.ix (.v 1) (.call "_law_take" (.cons (.v 0) (.cons (.k (.int 26)) .nil)))))
    .nil)
    .nil)
    (.cons (.ret (.mth .join (.k (.str "")) (.cons (.fz (.lc c__law_word_0 [3] (.v 3) (.rng1 (.bin .add (.k (.int 1)) (.call "_law_take" (.cons (.v 0) (.cons (.k (.int 6)) .nil))))) .nil)) .nil)))
    .nil)))))
def d__law_word : VS.DefT := ⟨"_law_word", ⟨1, 4, b__law_word⟩, top 8, ["_law_pen_here", "_law_abc", "_law_way", "_law_k"], ["_law_pen_here"]⟩
def b__law_term_f11 : VS.Sxs := (.cons (.ite (.cmp .gt (.ix (.v 2) (.k (.int 0))) (.k (.int 0)))
    (.cons (.expr (.mth .append (.v 5) (.cons (.call "_law_term" (.cons (.v 0) (.cons (.bin .sub (.v 1) (.k (.int 1))) (.cons (.v 2) (.cons (.v 3) .nil))))) .nil)))
    .nil)
    .nil)
    .nil)
def b__law_term_i4 : VS.Sxs := (.cons (.ite (.and (.v 3) (.cmp .eq (.call "_law_take" (.cons (.v 0) (.cons (.k (.int 2)) .nil))) (.k (.int 0))))
    (.cons (.ret (.tup (.cons (.k (.str "hole")) (.cons (.call "_law_word" (.cons (.v 0) .nil)) .nil))))
    .nil)
    .nil)
    (.cons (.ret (.ix (.fz (.lst (.cons (.tup (.cons (.k (.str "name")) (.cons (.call "_law_word" (.cons (.v 0) .nil)) .nil))) (.cons (.tup (.cons (.k (.str "name")) (.cons (.call "_law_word" (.cons (.v 0) .nil)) .nil))) (.cons (.tup (.cons (.k (.str "of")) (.cons (.call "_law_word" (.cons (.v 0) .nil)) (.cons (.tup .nil) .nil)))) .nil))))) (.call "_law_take" (.cons (.v 0) (.cons (.k (.int 3)) .nil)))))
    .nil))
def b__law_term : VS.Sxs := (.cons (.seti (.v 2) (.k (.int 0)) (.bin .sub (.ix (.v 2) (.k (.int 0))) (.k (.int 1))))
    (.cons (.set 4 (.call "_law_take" (.cons (.v 0) (.cons (.k (.int 8)) .nil))))
    (.cons (.ite (.or (.cmp .lt (.v 1) (.k (.int 2))) (.or (.cmp .lt (.ix (.v 2) (.k (.int 0))) (.k (.int 1))) (.cmp .eq (.v 4) (.k (.int 0)))))
    b__law_term_i4
    .nil)
    (.cons (.ite (.cmp .lt (.v 4) (.k (.int 4)))
    (.cons (.ret (.tup (.cons (.k (.str "bind")) (.cons (.call "_law_word" (.cons (.v 0) .nil)) (.cons (.call "_law_word" (.cons (.v 0) .nil)) (.cons (.call "_law_term" (.cons (.v 0) (.cons (.bin .sub (.v 1) (.k (.int 1))) (.cons (.v 2) (.cons (.v 3) .nil))))) .nil))))))
    .nil)
    .nil)
    (.cons (.set 5 (.lst .nil))
    (.cons (.for (.v 6) (.rng1 (.bin .add (.k (.int 1)) (.call "_law_take" (.cons (.v 0) (.cons (.k (.int 4)) .nil)))))
    b__law_term_f11)
    (.cons (.ret (.tup (.cons (.k (.str "of")) (.cons (.call "_law_word" (.cons (.v 0) .nil)) (.cons (.blt .tuple (.cons (.fz (.v 5)) .nil)) .nil)))))
    .nil)))))))
def d__law_term : VS.DefT := ⟨"_law_term", ⟨4, 7, b__law_term⟩, top 9, ["_law_pen_here", "_law_deep", "_law_room", "_law_gaps", "_law_way", "_law_found", "_law_k"], ["_law_pen_here", "_law_deep", "_law_room", "_law_gaps"]⟩
def b__law_within : VS.Sxs := (.cons (.ite (.cmp .eq (.ix (.v 0) (.k (.int 0))) (.k (.str "of")))
    (.cons (.ret (.fz (.blt .list (.cons (.ix (.v 0) (.k (.int 2))) .nil))))
    .nil)
    .nil)
    (.cons (.ite (.cmp .eq (.ix (.v 0) (.k (.int 0))) (.k (.str "bind")))
    (.cons (.ret (.fz (.lst (.cons (.ix (.v 0) (.k (.int 3))) .nil))))
    .nil)
    .nil)
    (.cons (.ret (.fz (.lst .nil)))
    .nil)))
def d__law_within : VS.DefT := ⟨"_law_within", ⟨1, 1, b__law_within⟩, top 10, ["_law_thing"], ["_law_thing"]⟩
def b__law_words_f7 : VS.Sxs := (.cons (.set 3 (.fz (.bin .add (.v 3) (.call "_law_words" (.cons (.v 4) (.cons (.v 1) (.cons (.v 2) .nil)))))))
    .nil)
def b__law_words : VS.Sxs := (.cons (.ite (.and (.cmp .eq (.ix (.v 0) (.k (.int 0))) (.v 1)) (.cmp .notin (.ix (.v 0) (.k (.int 1))) (.v 2)))
    (.cons (.ret (.fz (.lst (.cons (.ix (.v 0) (.k (.int 1))) .nil))))
    .nil)
    .nil)
    (.cons (.ite (.and (.cmp .eq (.ix (.v 0) (.k (.int 0))) (.k (.str "bind"))) (.cmp .eq (.v 1) (.k (.str "name"))))
    (.cons (.set 2 (.fz (.bin .add (.v 2) (.fz (.lst (.cons (.ix (.v 0) (.k (.int 2))) .nil))))))
    .nil)
    .nil)
    (.cons (.set 3 (.fz (.lst .nil)))
    (.cons (.for (.v 4) (.seq (.call "_law_within" (.cons (.v 0) .nil)))
    b__law_words_f7)
    (.cons (.ret (.v 3))
    .nil)))))
def d__law_words : VS.DefT := ⟨"_law_words", ⟨3, 5, b__law_words⟩, top 11, ["_law_thing", "_law_kind", "_law_bound", "_law_found", "_law_part"], ["_law_thing", "_law_kind", "_law_bound"]⟩
def b_law_f7 : VS.Sxs := (.cons (.set 7 (.fz (.sset (.call "_law_words" (.cons (.v 3) (.cons (.v 6) (.cons (.fz (.lst .nil)) .nil)))))))
    (.cons (.set 8 (.callv (.ix (.fz (.lst (.cons (.g "free_names") (.cons (.g "holes") .nil)))) (.blt .int (.cons (.cmp .eq (.v 6) (.k (.str "hole"))) .nil))) (.cons (.v 3) .nil)))
    (.cons (.ite (.or (.not (.isi (.v 8) "list")) (.cmp .ne (.v 8) (.v 7)))
    (.cons (.ret (.k (.bl false)))
    .nil)
    .nil)
    (.cons (.expr (.mth .append (.v 8) (.cons (.k (.str "zz")) .nil)))
    .nil))))
def b_law_f6 : VS.Sxs := (.cons (.for (.v 6) (.seq (.fz (.lst (.cons (.k (.str "name")) (.cons (.k (.str "hole")) .nil)))))
    b_law_f7)
    .nil)
def b_law_f3 : VS.Sxs := (.cons (.set 3 (.call "_law_term" (.cons (.v 1) (.cons (.bin .add (.k (.int 1)) (.call "_law_take" (.cons (.v 1) (.cons (.k (.int 9)) .nil)))) (.cons (.lst (.cons (.call "_law_take" (.cons (.v 1) (.cons (.k (.int 30)) .nil))) .nil)) (.cons (.cmp .gt (.call "_law_take" (.cons (.v 1) (.cons (.k (.int 3)) .nil))) (.k (.int 0))) .nil))))))
    (.cons (.set 4 (.blt .repr (.cons (.v 3) .nil)))
    (.cons (.for (.v 5) (.rng1 (.k (.int 2)))
    b_law_f6)
    (.cons (.ite (.or (.cmp .ne (.fz (.callk "free_names" [0] (.cons (.v 3) .nil))) (.fz (.sset (.call "_law_words" (.cons (.v 3) (.cons (.k (.str "name")) (.cons (.fz (.lst .nil)) .nil))))))) (.cmp .ne (.blt .repr (.cons (.v 3) .nil)) (.v 4)))
    (.cons (.ret (.k (.bl false)))
    .nil)
    .nil)
    .nil))))
def b_law : VS.Sxs := (.cons (.set 1 (.call "_law_pen" (.cons (.v 0) .nil)))
    (.cons (.for (.v 2) (.rng1 (.k (.int 10)))
    b_law_f3)
    (.cons (.ret (.k (.bl true)))
    .nil)))
def d_law : VS.DefT := ⟨"law", ⟨1, 9, b_law⟩, top 12, ["_law_script", "_law_pen_here", "_law_k", "_law_thing", "_law_kept", "_law_turn", "_law_kind", "_law_due", "_law_found"], ["_law_script"]⟩
def T : VS.Txt := ⟨[d_parts_of, d_standing, d_free_names, d_holes, d__law_pen, d__law_take, d__law_word, d__law_term, d__law_within, d__law_words, d_law], ["abs", "int", "isinstance", "len", "list", "range", "repr", "set", "sorted", "tuple"], [("free_names", ["pattern"], [0])], []⟩
theorem ok : VS.okTxt T = true := by decide +kernel
end Own

namespace Own
open PySem VS

abbrev big : Nat := 1000000000000000000
theorem tk {k W : Nat} {p : D} {a : Nat} {upto : Int} (hP : Pn p a) (ha : a < big) (hu : 0 < upto) (hu2 : upto ≤ 100000000) :
    ∃ r c, callV T.prog W (k + 1) "_law_take" [.own true .mu p, .v (.int upto)] = .ok (.v (.int r)) [.own true .mu c] ∧ 0 ≤ r ∧ r < upto ∧ Pn c (a + 1) :=
  take_ok ok (d := d__law_take) (by unfold T; simp) rfl rfl hP (Nat.lt_trans ha (by decide)) hu hu2
theorem word_ok {k W : Nat} {p : D} {a : Nat} (hP : Pn p a) (ha : a + 20 < big) : ∃ w c, callV T.prog W (k + 2) "_law_word" [.own true .mu p] = .ok (.v (.str w)) [.own true .mu c] ∧ Pn c (a + 20) ∧ Low 6 w := by
  have e := call_defV (T := T) ok (d := d__law_word) (by unfold T; simp) (k := k + 1) (W := W) (sls := [.own true .mu p]) rfl
  rw [show d__law_word.x = "_law_word" from rfl] at e
  rw [e]
  obtain ⟨r1, p1, e1, q1, q1', P1⟩ := tk (k := k) (W := W) (upto := 4) hP (by omega) (by decide) (by decide)
  obtain ⟨r2, p2, e2, q2, q2', P2⟩ := tk (k := k) (W := W) (upto := 3) P1 (by omega) (by decide) (by decide)
  obtain ⟨r3, p3, e3, q3, q3', P3⟩ := tk (k := k) (W := W) (upto := 26) P1 (by omega) (by decide) (by decide)
  obtain ⟨r4, p4, e4, q4, q4', P4⟩ := tk (k := k) (W := W) (upto := 6) P1 (by omega) (by decide) (by decide)
  by_cases c1 : r1 < 2
  · obtain ⟨x, e5, w⟩ := abc_at q2 q2'
    refine ⟨_, _, ?_, P2.mono (by omega), w⟩
    simp only [d__law_word, b__law_word, v_bind, v_of, v_need, v_ct, v_cf, v_only, v_toF, f_thn, f_thr, f_thb, f_thc, f_of, f_ct, f_cf, rs_v, rs_n, rs_l, sl_o, rl_n, rl_c, rl_k, g_0, g_s, st_0, st_s, lk_v, lk_o, fz_v, fz_n, fz_l, fz_o, fs_n, fs_c, vl_int, vl_str, vl_bl, vl_tup, vl_lst, vl_dic, vl_non, vl_glo, bv_s, or_ok, or_nl, or_nd, tv_bl, tv_int, tv_non, tv_lst, tv_tup, ag_v, ag_n, ag_l, ag_o, as_n, as_c, as_k, nd_n, nd_v, nd_w, nd_l, li_n, li_v, li_w, li_l, pb_n, pb_v, pb_w, pb_l, pb_o, bk_o, cl_r, ps_e, ps_n, ps_v, ps_o, pd_e, no_int, no_str, no_bl, no_tup, no_lst, no_dic, no_non, no_glo, av_n, av_c, av_k, ag1, ag2, wp_n, wp_c, ro_n, ro_c, gd_0, gd_s, mn_n, mn_c, ti_v, ti_t, tn_0, tn_1, hv_l, hv_t, hv_s, hv_n, hv_o, hc_m, hc_l, hl_l, hl_n, hl_o, fr_n, fr_s, fr_o, ed_v, gw_l, gw_o, mt_a, mt_p, mt_r, mt_j, mt_i, mt_1, mt_2, mt_e, ex_l, mk_j, mk_1, mk_2, mk_a, mk_e, mk_p, mk_r, mk_i, vs_n, vs_c, om_s, sv_e, sv_l, sv_d, ky_s, ky_i, sr_v, sr_n, rt_n, rt_v, rt_w, rt_l, rt_o, pr_0, pr_v, pr_n, pr_o, pr_f, e_k, e_v, e_g, e_tup, e_lst, e_bin, e_neg, ng_i, e_cmp, e_chain, e_and, e_or, e_not, e_ite, e_int1, in_i, e_ix, e_sl, sc_v, e_isi, e_call, e_callv, gl_c, e_callk, e_fz, e_gc, e_maxd, mx_c, e_sset, ss_c, e_dnew, e_disp, e_items, it_d, e_rvs, rv_l, e_blt, e_mth, e_lc, e_lc2, e_nil, e_cons, t_nil, t_cons, i_seq, i_rng1, rg_1, i_rng2, rg_2, i_enum, i_rev, s_expr, s_ret, s_retN, s_set, s_unp, un_t, s_star, s_seti, s_aug, au_1, au_2, au_a, au_s, s_ite, t_e, s_for, s_while, s_pass, s_cont, s_brk, s_nil, s_cons, fe_n, fe_b, fe_r, fe_s, o_add, o_sub, o_cat, o_lst, o_tup, c_lt, c_le, c_gt, c_ge, c_es, c_ns, c_ei, c_ni, c_eb, c_nb, c_nt, c_in, xt_0, xt_1, xt_2, xt_3, xl_0, xl_1, xl_2, xl_3, n_ll, n_lt, n_ld, n_tl, n_tt, n_dl, n_dt, n_ab, n_ib, n_ii, n_dd, n_rt, n_rl, n_g1, n_g2, q_0, q_1, q_2, q_3, q_4, q_5, q_6, q_7, q_8, al_0, al_1, al_2, al_3, ift, ifT, ifF, ifx, is_l, pw_a, pw_b, pw_c, pw_d, o_mul, o_fd, o_mod, o_pow, List.map_cons, List.map_nil, List.replicate, List.cons_append, List.nil_append, Bool.not_true, Bool.not_false, Bool.and_true, Bool.true_and, Bool.and_false, Bool.false_and, Bool.or_false, Bool.false_or, Bool.or_true, Bool.true_or, Nat.reduceBEq, Nat.reduceSub, List.all_cons, List.all_nil, e1, e2, e5, decide_eq_true c1]
  · by_cases c2 : r1 = 2
    · obtain ⟨x, e5, w⟩ := abz_at q3 q3'
      refine ⟨_, _, ?_, P3.mono (by omega), w.mono (by decide)⟩
      subst c2
      have c3 : ((2 : Int) == 2) = true := rfl
      simp only [d__law_word, b__law_word, v_bind, v_of, v_need, v_ct, v_cf, v_only, v_toF, f_thn, f_thr, f_thb, f_thc, f_of, f_ct, f_cf, rs_v, rs_n, rs_l, sl_o, rl_n, rl_c, rl_k, g_0, g_s, st_0, st_s, lk_v, lk_o, fz_v, fz_n, fz_l, fz_o, fs_n, fs_c, vl_int, vl_str, vl_bl, vl_tup, vl_lst, vl_dic, vl_non, vl_glo, bv_s, or_ok, or_nl, or_nd, tv_bl, tv_int, tv_non, tv_lst, tv_tup, ag_v, ag_n, ag_l, ag_o, as_n, as_c, as_k, nd_n, nd_v, nd_w, nd_l, li_n, li_v, li_w, li_l, pb_n, pb_v, pb_w, pb_l, pb_o, bk_o, cl_r, ps_e, ps_n, ps_v, ps_o, pd_e, no_int, no_str, no_bl, no_tup, no_lst, no_dic, no_non, no_glo, av_n, av_c, av_k, ag1, ag2, wp_n, wp_c, ro_n, ro_c, gd_0, gd_s, mn_n, mn_c, ti_v, ti_t, tn_0, tn_1, hv_l, hv_t, hv_s, hv_n, hv_o, hc_m, hc_l, hl_l, hl_n, hl_o, fr_n, fr_s, fr_o, ed_v, gw_l, gw_o, mt_a, mt_p, mt_r, mt_j, mt_i, mt_1, mt_2, mt_e, ex_l, mk_j, mk_1, mk_2, mk_a, mk_e, mk_p, mk_r, mk_i, vs_n, vs_c, om_s, sv_e, sv_l, sv_d, ky_s, ky_i, sr_v, sr_n, rt_n, rt_v, rt_w, rt_l, rt_o, pr_0, pr_v, pr_n, pr_o, pr_f, e_k, e_v, e_g, e_tup, e_lst, e_bin, e_neg, ng_i, e_cmp, e_chain, e_and, e_or, e_not, e_ite, e_int1, in_i, e_ix, e_sl, sc_v, e_isi, e_call, e_callv, gl_c, e_callk, e_fz, e_gc, e_maxd, mx_c, e_sset, ss_c, e_dnew, e_disp, e_items, it_d, e_rvs, rv_l, e_blt, e_mth, e_lc, e_lc2, e_nil, e_cons, t_nil, t_cons, i_seq, i_rng1, rg_1, i_rng2, rg_2, i_enum, i_rev, s_expr, s_ret, s_retN, s_set, s_unp, un_t, s_star, s_seti, s_aug, au_1, au_2, au_a, au_s, s_ite, t_e, s_for, s_while, s_pass, s_cont, s_brk, s_nil, s_cons, fe_n, fe_b, fe_r, fe_s, o_add, o_sub, o_cat, o_lst, o_tup, c_lt, c_le, c_gt, c_ge, c_es, c_ns, c_ei, c_ni, c_eb, c_nb, c_nt, c_in, xt_0, xt_1, xt_2, xt_3, xl_0, xl_1, xl_2, xl_3, n_ll, n_lt, n_ld, n_tl, n_tt, n_dl, n_dt, n_ab, n_ib, n_ii, n_dd, n_rt, n_rl, n_g1, n_g2, q_0, q_1, q_2, q_3, q_4, q_5, q_6, q_7, q_8, al_0, al_1, al_2, al_3, ift, ifT, ifF, ifx, is_l, pw_a, pw_b, pw_c, pw_d, o_mul, o_fd, o_mod, o_pow, List.map_cons, List.map_nil, List.replicate, List.cons_append, List.nil_append, Bool.not_true, Bool.not_false, Bool.and_true, Bool.true_and, Bool.and_false, Bool.false_and, Bool.or_false, Bool.false_or, Bool.or_true, Bool.true_or, Nat.reduceBEq, Nat.reduceSub, List.all_cons, List.all_nil, e1, e3, e5, decide_eq_false c1, c3]
    · have c3 : (r1 == (2 : Int)) = false := by simpa using c2
      have n1 := fun r => need_rng (m := 1 + r4) (by omega) (by omega) (α := WalkedV) r
      obtain ⟨ys, ρ', ey, ws, c, h1, h2, h3, h4, h5⟩ := turns_inv (f := lcT (callV T.prog W (k + 1)) c__law_word_0 [3] (.v 3) .nil)
        (fun i ys ρ => ∃ (ws : List Str) (c : D), ys = ws.map .str ∧ ρ = [.own true .mu c, .v (.str "abcdefghijklmnopqrstuvwxyz"), .v (.int r1), .no] ∧ Pn c (a + 1 + 1 + i) ∧ ws.length = i ∧ ∀ w ∈ ws, Low 1 w)
        (xs := rngD 0 (1 + r4).toNat) (ρ := [.own true .mu p4, .v (.str "abcdefghijklmnopqrstuvwxyz"), .v (.int r1), .no]) (ys0 := []) (i0 := 0) ⟨[], p4, rfl, rfl, P4, rfl, fun _ h => nomatch h⟩ (by
        rintro i x ys ρ hx ⟨ws, c, rfl, rfl, h3, h4, h5⟩
        obtain ⟨hi, rfl⟩ := rngD_get hx
        obtain ⟨r5, p5, e5, q5, q5', P5⟩ := tk (k := k) (W := W) (upto := 26) h3 (by omega) (by decide) (by decide)
        obtain ⟨x, e6, w⟩ := abz_at q5 q5'
        refine ⟨[.str x], _, ?_, ws ++ [x], p5, by simp, rfl, P5, by simp [h4], fun w hw => ?_⟩
        · simp only [lcT, c__law_word_0, v_bind, v_of, v_need, v_ct, v_cf, v_only, v_toF, f_thn, f_thr, f_thb, f_thc, f_of, f_ct, f_cf, rs_v, rs_n, rs_l, sl_o, rl_n, rl_c, rl_k, g_0, g_s, st_0, st_s, lk_v, lk_o, fz_v, fz_n, fz_l, fz_o, fs_n, fs_c, vl_int, vl_str, vl_bl, vl_tup, vl_lst, vl_dic, vl_non, vl_glo, bv_s, or_ok, or_nl, or_nd, tv_bl, tv_int, tv_non, tv_lst, tv_tup, ag_v, ag_n, ag_l, ag_o, as_n, as_c, as_k, nd_n, nd_v, nd_w, nd_l, li_n, li_v, li_w, li_l, pb_n, pb_v, pb_w, pb_l, pb_o, bk_o, cl_r, ps_e, ps_n, ps_v, ps_o, pd_e, no_int, no_str, no_bl, no_tup, no_lst, no_dic, no_non, no_glo, av_n, av_c, av_k, ag1, ag2, wp_n, wp_c, ro_n, ro_c, gd_0, gd_s, mn_n, mn_c, ti_v, ti_t, tn_0, tn_1, hv_l, hv_t, hv_s, hv_n, hv_o, hc_m, hc_l, hl_l, hl_n, hl_o, fr_n, fr_s, fr_o, ed_v, gw_l, gw_o, mt_a, mt_p, mt_r, mt_j, mt_i, mt_1, mt_2, mt_e, ex_l, mk_j, mk_1, mk_2, mk_a, mk_e, mk_p, mk_r, mk_i, vs_n, vs_c, om_s, sv_e, sv_l, sv_d, ky_s, ky_i, sr_v, sr_n, rt_n, rt_v, rt_w, rt_l, rt_o, pr_0, pr_v, pr_n, pr_o, pr_f, e_k, e_v, e_g, e_tup, e_lst, e_bin, e_neg, ng_i, e_cmp, e_chain, e_and, e_or, e_not, e_ite, e_int1, in_i, e_ix, e_sl, sc_v, e_isi, e_call, e_callv, gl_c, e_callk, e_fz, e_gc, e_maxd, mx_c, e_sset, ss_c, e_dnew, e_disp, e_items, it_d, e_rvs, rv_l, e_blt, e_mth, e_lc, e_lc2, e_nil, e_cons, t_nil, t_cons, i_seq, i_rng1, rg_1, i_rng2, rg_2, i_enum, i_rev, s_expr, s_ret, s_retN, s_set, s_unp, un_t, s_star, s_seti, s_aug, au_1, au_2, au_a, au_s, s_ite, t_e, s_for, s_while, s_pass, s_cont, s_brk, s_nil, s_cons, fe_n, fe_b, fe_r, fe_s, o_add, o_sub, o_cat, o_lst, o_tup, c_lt, c_le, c_gt, c_ge, c_es, c_ns, c_ei, c_ni, c_eb, c_nb, c_nt, c_in, xt_0, xt_1, xt_2, xt_3, xl_0, xl_1, xl_2, xl_3, n_ll, n_lt, n_ld, n_tl, n_tt, n_dl, n_dt, n_ab, n_ib, n_ii, n_dd, n_rt, n_rl, n_g1, n_g2, q_0, q_1, q_2, q_3, q_4, q_5, q_6, q_7, q_8, al_0, al_1, al_2, al_3, ift, ifT, ifF, ifx, is_l, pw_a, pw_b, pw_c, pw_d, o_mul, o_fd, o_mod, o_pow, List.map_cons, List.map_nil, List.replicate, List.cons_append, List.nil_append, Bool.not_true, Bool.not_false, Bool.and_true, Bool.true_and, Bool.and_false, Bool.false_and, Bool.or_false, Bool.false_or, Bool.or_true, Bool.true_or, Nat.reduceBEq, Nat.reduceSub, List.all_cons, List.all_nil, e5, e6]
        · rcases List.mem_append.mp hw with z | z
          · exact h5 w z
          · rw [List.mem_singleton] at z; rw [z]; assumption)
      rw [rngD_len, Nat.zero_add] at h3 h4
      rw [List.nil_append] at h1
      have jn := fun ρ => jn_ok (ρ := ρ) (g := "") (by decide) (fun w hw => (h5 w hw).wd) (show ws.length ≤ 1000 by omega)
      have lw := low_join (g := "") (by decide) h5 (by omega)
      have nl := fun r => need_len (xs := ws.map D.str) (by rw [List.length_map]; omega) (β := VR) r
      refine ⟨_, c, ?_, h3.mono (by omega), lw.mono (by omega)⟩
      simp only [d__law_word, b__law_word, v_bind, v_of, v_need, v_ct, v_cf, v_only, v_toF, f_thn, f_thr, f_thb, f_thc, f_of, f_ct, f_cf, rs_v, rs_n, rs_l, sl_o, rl_n, rl_c, rl_k, g_0, g_s, st_0, st_s, lk_v, lk_o, fz_v, fz_n, fz_l, fz_o, fs_n, fs_c, vl_int, vl_str, vl_bl, vl_tup, vl_lst, vl_dic, vl_non, vl_glo, bv_s, or_ok, or_nl, or_nd, tv_bl, tv_int, tv_non, tv_lst, tv_tup, ag_v, ag_n, ag_l, ag_o, as_n, as_c, as_k, nd_n, nd_v, nd_w, nd_l, li_n, li_v, li_w, li_l, pb_n, pb_v, pb_w, pb_l, pb_o, bk_o, cl_r, ps_e, ps_n, ps_v, ps_o, pd_e, no_int, no_str, no_bl, no_tup, no_lst, no_dic, no_non, no_glo, av_n, av_c, av_k, ag1, ag2, wp_n, wp_c, ro_n, ro_c, gd_0, gd_s, mn_n, mn_c, ti_v, ti_t, tn_0, tn_1, hv_l, hv_t, hv_s, hv_n, hv_o, hc_m, hc_l, hl_l, hl_n, hl_o, fr_n, fr_s, fr_o, ed_v, gw_l, gw_o, mt_a, mt_p, mt_r, mt_j, mt_i, mt_1, mt_2, mt_e, ex_l, mk_j, mk_1, mk_2, mk_a, mk_e, mk_p, mk_r, mk_i, vs_n, vs_c, om_s, sv_e, sv_l, sv_d, ky_s, ky_i, sr_v, sr_n, rt_n, rt_v, rt_w, rt_l, rt_o, pr_0, pr_v, pr_n, pr_o, pr_f, e_k, e_v, e_g, e_tup, e_lst, e_bin, e_neg, ng_i, e_cmp, e_chain, e_and, e_or, e_not, e_ite, e_int1, in_i, e_ix, e_sl, sc_v, e_isi, e_call, e_callv, gl_c, e_callk, e_fz, e_gc, e_maxd, mx_c, e_sset, ss_c, e_dnew, e_disp, e_items, it_d, e_rvs, rv_l, e_blt, e_mth, e_lc, e_lc2, e_nil, e_cons, t_nil, t_cons, i_seq, i_rng1, rg_1, i_rng2, rg_2, i_enum, i_rev, s_expr, s_ret, s_retN, s_set, s_unp, un_t, s_star, s_seti, s_aug, au_1, au_2, au_a, au_s, s_ite, t_e, s_for, s_while, s_pass, s_cont, s_brk, s_nil, s_cons, fe_n, fe_b, fe_r, fe_s, o_add, o_sub, o_cat, o_lst, o_tup, c_lt, c_le, c_gt, c_ge, c_es, c_ns, c_ei, c_ni, c_eb, c_nb, c_nt, c_in, xt_0, xt_1, xt_2, xt_3, xl_0, xl_1, xl_2, xl_3, n_ll, n_lt, n_ld, n_tl, n_tt, n_dl, n_dt, n_ab, n_ib, n_ii, n_dd, n_rt, n_rl, n_g1, n_g2, q_0, q_1, q_2, q_3, q_4, q_5, q_6, q_7, q_8, al_0, al_1, al_2, al_3, ift, ifT, ifF, ifx, is_l, pw_a, pw_b, pw_c, pw_d, o_mul, o_fd, o_mod, o_pow, List.map_cons, List.map_nil, List.replicate, List.cons_append, List.nil_append, Bool.not_true, Bool.not_false, Bool.and_true, Bool.true_and, Bool.and_false, Bool.false_and, Bool.or_false, Bool.false_or, Bool.or_true, Bool.true_or, Nat.reduceBEq, Nat.reduceSub, List.all_cons, List.all_nil, e1, e4, decide_eq_false c1, c3, n1, ey, h1, h2, nl, jn]

/-! ### terms drawn -/
/-- the ways on: how deep, which room is left -/
def TermOk (k W : Nat) (deep : Int) (gaps : Bool) (p : D) (a : Nat) (r : Int) : Prop :=
  ∃ (t : Tm) (c : D) (r' : Int), callV T.prog W k "_law_term" [.own true .mu p, .v (.int deep), .own true .mu (.lst [.int r]), .v (.bl gaps)] = .ok (.v t.d) [.own true .mu c, .own true .mu (.lst [.int r'])] ∧
    t.low 6 ∧ (t.h : Int) ≤ max 1 deep ∧ r - r' = t.n ∧ (1 ≤ r → 0 ≤ r') ∧ Pn c (a + 100 * t.n) ∧ (gaps = false → t.full) ∧ (t.n : Int) ≤ max 1 r
theorem leaf_ok {k W : Nat} {p : D} {a : Nat} {deep r way : Int} {gaps : Bool} (hP : Pn p a) (ha : a + 90 < big) :
    ∃ t c, evVSs (callV T.prog W (k + 2)) W b__law_term_i4 [.own true .mu p, .v (.int deep), .own true .mu (.lst [.int r]), .v (.bl gaps), .v (.int way), .no, .no] = .ret (.v (Tm.d t)) [.own true .mu c, .v (.int deep), .own true .mu (.lst [.int r]), .v (.bl gaps), .v (.int way), .no, .no] ∧
      t.low 6 ∧ t.n = 1 ∧ t.h = 1 ∧ Pn c (a + 90) ∧ (gaps = false → t.full) := by
  have pick : ∀ (p : D) (a' : Nat), Pn p a' → a' ≤ a + 1 → ∃ w1 w2 w3 c1 c2 c3 c4 n, callV T.prog W (k + 2) "_law_word" [.own true .mu p] = .ok (.v (.str w1)) [.own true .mu c1] ∧ callV T.prog W (k + 2) "_law_word" [.own true .mu c1] = .ok (.v (.str w2)) [.own true .mu c2] ∧
      callV T.prog W (k + 2) "_law_word" [.own true .mu c2] = .ok (.v (.str w3)) [.own true .mu c3] ∧ callV T.prog W (k + 2) "_law_take" [.own true .mu c3, .v (.int 3)] = .ok (.v (.int n)) [.own true .mu c4] ∧ Low 6 w1 ∧ Low 6 w2 ∧ Low 6 w3 ∧ (n = 0 ∨ n = 1 ∨ n = 2) ∧ Pn c4 (a + 90) := by
    intro p a' hP ha'
    obtain ⟨w1, p1, e1, P1, L1⟩ := word_ok (k := k) (W := W) hP (by omega)
    obtain ⟨w2, p2, e2, P2, L2⟩ := word_ok (k := k) (W := W) P1 (by omega)
    obtain ⟨w3, p3, e3, P3, L3⟩ := word_ok (k := k) (W := W) P2 (by omega)
    obtain ⟨n, p4, e4, q4, q4', P4⟩ := tk (k := k + 1) (W := W) (upto := 3) P3 (by omega) (by decide) (by decide)
    exact ⟨w1, w2, w3, p1, p2, p3, p4, n, e1, e2, e3, e4, L1, L2, L3, by omega, P4.mono (by omega)⟩
  cases gaps with
  | false =>
    obtain ⟨w1, w2, w3, c1, c2, c3, c4, n, e1, e2, e3, e4, L1, L2, L3, hn, P4⟩ := pick p a hP (by omega)
    rcases hn with rfl | rfl | rfl
    · refine ⟨.name w1, c4, ?_, by rw [Tm.low]; exact L1, by rw [Tm.n], by rw [Tm.h], P4, fun _ => by rw [Tm.full]; trivial⟩
      simp only [b__law_term_i4, v_bind, v_of, v_need, v_ct, v_cf, v_only, v_toF, f_thn, f_thr, f_thb, f_thc, f_of, f_ct, f_cf, rs_v, rs_n, rs_l, sl_o, rl_n, rl_c, rl_k, g_0, g_s, st_0, st_s, lk_v, lk_o, fz_v, fz_n, fz_l, fz_o, fs_n, fs_c, vl_int, vl_str, vl_bl, vl_tup, vl_lst, vl_dic, vl_non, vl_glo, bv_s, or_ok, or_nl, or_nd, tv_bl, tv_int, tv_non, tv_lst, tv_tup, ag_v, ag_n, ag_l, ag_o, as_n, as_c, as_k, nd_n, nd_v, nd_w, nd_l, li_n, li_v, li_w, li_l, pb_n, pb_v, pb_w, pb_l, pb_o, bk_o, cl_r, ps_e, ps_n, ps_v, ps_o, pd_e, no_int, no_str, no_bl, no_tup, no_lst, no_dic, no_non, no_glo, av_n, av_c, av_k, ag1, ag2, wp_n, wp_c, ro_n, ro_c, gd_0, gd_s, mn_n, mn_c, ti_v, ti_t, tn_0, tn_1, hv_l, hv_t, hv_s, hv_n, hv_o, hc_m, hc_l, hl_l, hl_n, hl_o, fr_n, fr_s, fr_o, ed_v, gw_l, gw_o, mt_a, mt_p, mt_r, mt_j, mt_i, mt_1, mt_2, mt_e, ex_l, mk_j, mk_1, mk_2, mk_a, mk_e, mk_p, mk_r, mk_i, vs_n, vs_c, om_s, sv_e, sv_l, sv_d, ky_s, ky_i, sr_v, sr_n, rt_n, rt_v, rt_w, rt_l, rt_o, pr_0, pr_v, pr_n, pr_o, pr_f, e_k, e_v, e_g, e_tup, e_lst, e_bin, e_neg, ng_i, e_cmp, e_chain, e_and, e_or, e_not, e_ite, e_int1, in_i, e_ix, e_sl, sc_v, e_isi, e_call, e_callv, gl_c, e_callk, e_fz, e_gc, e_maxd, mx_c, e_sset, ss_c, e_dnew, e_disp, e_items, it_d, e_rvs, rv_l, e_blt, e_mth, e_lc, e_lc2, e_nil, e_cons, t_nil, t_cons, i_seq, i_rng1, rg_1, i_rng2, rg_2, i_enum, i_rev, s_expr, s_ret, s_retN, s_set, s_unp, un_t, s_star, s_seti, s_aug, au_1, au_2, au_a, au_s, s_ite, t_e, s_for, s_while, s_pass, s_cont, s_brk, s_nil, s_cons, fe_n, fe_b, fe_r, fe_s, o_add, o_sub, o_cat, o_lst, o_tup, c_lt, c_le, c_gt, c_ge, c_es, c_ns, c_ei, c_ni, c_eb, c_nb, c_nt, c_in, xt_0, xt_1, xt_2, xt_3, xl_0, xl_1, xl_2, xl_3, n_ll, n_lt, n_ld, n_tl, n_tt, n_dl, n_dt, n_ab, n_ib, n_ii, n_dd, n_rt, n_rl, n_g1, n_g2, q_0, q_1, q_2, q_3, q_4, q_5, q_6, q_7, q_8, al_0, al_1, al_2, al_3, ift, ifT, ifF, ifx, is_l, pw_a, pw_b, pw_c, pw_d, o_mul, o_fd, o_mod, o_pow, List.map_cons, List.map_nil, List.replicate, List.cons_append, List.nil_append, Bool.not_true, Bool.not_false, Bool.and_true, Bool.true_and, Bool.and_false, Bool.false_and, Bool.or_false, Bool.false_or, Bool.or_true, Bool.true_or, Nat.reduceBEq, Nat.reduceSub, List.all_cons, List.all_nil, e1, e2, e3, e4, Tm.d]
    · refine ⟨.name w2, c4, ?_, by rw [Tm.low]; exact L2, by rw [Tm.n], by rw [Tm.h], P4, fun _ => by rw [Tm.full]; trivial⟩
      simp only [b__law_term_i4, v_bind, v_of, v_need, v_ct, v_cf, v_only, v_toF, f_thn, f_thr, f_thb, f_thc, f_of, f_ct, f_cf, rs_v, rs_n, rs_l, sl_o, rl_n, rl_c, rl_k, g_0, g_s, st_0, st_s, lk_v, lk_o, fz_v, fz_n, fz_l, fz_o, fs_n, fs_c, vl_int, vl_str, vl_bl, vl_tup, vl_lst, vl_dic, vl_non, vl_glo, bv_s, or_ok, or_nl, or_nd, tv_bl, tv_int, tv_non, tv_lst, tv_tup, ag_v, ag_n, ag_l, ag_o, as_n, as_c, as_k, nd_n, nd_v, nd_w, nd_l, li_n, li_v, li_w, li_l, pb_n, pb_v, pb_w, pb_l, pb_o, bk_o, cl_r, ps_e, ps_n, ps_v, ps_o, pd_e, no_int, no_str, no_bl, no_tup, no_lst, no_dic, no_non, no_glo, av_n, av_c, av_k, ag1, ag2, wp_n, wp_c, ro_n, ro_c, gd_0, gd_s, mn_n, mn_c, ti_v, ti_t, tn_0, tn_1, hv_l, hv_t, hv_s, hv_n, hv_o, hc_m, hc_l, hl_l, hl_n, hl_o, fr_n, fr_s, fr_o, ed_v, gw_l, gw_o, mt_a, mt_p, mt_r, mt_j, mt_i, mt_1, mt_2, mt_e, ex_l, mk_j, mk_1, mk_2, mk_a, mk_e, mk_p, mk_r, mk_i, vs_n, vs_c, om_s, sv_e, sv_l, sv_d, ky_s, ky_i, sr_v, sr_n, rt_n, rt_v, rt_w, rt_l, rt_o, pr_0, pr_v, pr_n, pr_o, pr_f, e_k, e_v, e_g, e_tup, e_lst, e_bin, e_neg, ng_i, e_cmp, e_chain, e_and, e_or, e_not, e_ite, e_int1, in_i, e_ix, e_sl, sc_v, e_isi, e_call, e_callv, gl_c, e_callk, e_fz, e_gc, e_maxd, mx_c, e_sset, ss_c, e_dnew, e_disp, e_items, it_d, e_rvs, rv_l, e_blt, e_mth, e_lc, e_lc2, e_nil, e_cons, t_nil, t_cons, i_seq, i_rng1, rg_1, i_rng2, rg_2, i_enum, i_rev, s_expr, s_ret, s_retN, s_set, s_unp, un_t, s_star, s_seti, s_aug, au_1, au_2, au_a, au_s, s_ite, t_e, s_for, s_while, s_pass, s_cont, s_brk, s_nil, s_cons, fe_n, fe_b, fe_r, fe_s, o_add, o_sub, o_cat, o_lst, o_tup, c_lt, c_le, c_gt, c_ge, c_es, c_ns, c_ei, c_ni, c_eb, c_nb, c_nt, c_in, xt_0, xt_1, xt_2, xt_3, xl_0, xl_1, xl_2, xl_3, n_ll, n_lt, n_ld, n_tl, n_tt, n_dl, n_dt, n_ab, n_ib, n_ii, n_dd, n_rt, n_rl, n_g1, n_g2, q_0, q_1, q_2, q_3, q_4, q_5, q_6, q_7, q_8, al_0, al_1, al_2, al_3, ift, ifT, ifF, ifx, is_l, pw_a, pw_b, pw_c, pw_d, o_mul, o_fd, o_mod, o_pow, List.map_cons, List.map_nil, List.replicate, List.cons_append, List.nil_append, Bool.not_true, Bool.not_false, Bool.and_true, Bool.true_and, Bool.and_false, Bool.false_and, Bool.or_false, Bool.false_or, Bool.or_true, Bool.true_or, Nat.reduceBEq, Nat.reduceSub, List.all_cons, List.all_nil, e1, e2, e3, e4, Tm.d]
    · refine ⟨.of w3 [], c4, ?_, by rw [Tm.low, Tm.lows]; exact ⟨L3, trivial⟩, by rw [Tm.n, Tm.ns], by rw [Tm.h, Tm.hs], P4, fun _ => by rw [Tm.full, Tm.fulls]; trivial⟩
      simp only [b__law_term_i4, v_bind, v_of, v_need, v_ct, v_cf, v_only, v_toF, f_thn, f_thr, f_thb, f_thc, f_of, f_ct, f_cf, rs_v, rs_n, rs_l, sl_o, rl_n, rl_c, rl_k, g_0, g_s, st_0, st_s, lk_v, lk_o, fz_v, fz_n, fz_l, fz_o, fs_n, fs_c, vl_int, vl_str, vl_bl, vl_tup, vl_lst, vl_dic, vl_non, vl_glo, bv_s, or_ok, or_nl, or_nd, tv_bl, tv_int, tv_non, tv_lst, tv_tup, ag_v, ag_n, ag_l, ag_o, as_n, as_c, as_k, nd_n, nd_v, nd_w, nd_l, li_n, li_v, li_w, li_l, pb_n, pb_v, pb_w, pb_l, pb_o, bk_o, cl_r, ps_e, ps_n, ps_v, ps_o, pd_e, no_int, no_str, no_bl, no_tup, no_lst, no_dic, no_non, no_glo, av_n, av_c, av_k, ag1, ag2, wp_n, wp_c, ro_n, ro_c, gd_0, gd_s, mn_n, mn_c, ti_v, ti_t, tn_0, tn_1, hv_l, hv_t, hv_s, hv_n, hv_o, hc_m, hc_l, hl_l, hl_n, hl_o, fr_n, fr_s, fr_o, ed_v, gw_l, gw_o, mt_a, mt_p, mt_r, mt_j, mt_i, mt_1, mt_2, mt_e, ex_l, mk_j, mk_1, mk_2, mk_a, mk_e, mk_p, mk_r, mk_i, vs_n, vs_c, om_s, sv_e, sv_l, sv_d, ky_s, ky_i, sr_v, sr_n, rt_n, rt_v, rt_w, rt_l, rt_o, pr_0, pr_v, pr_n, pr_o, pr_f, e_k, e_v, e_g, e_tup, e_lst, e_bin, e_neg, ng_i, e_cmp, e_chain, e_and, e_or, e_not, e_ite, e_int1, in_i, e_ix, e_sl, sc_v, e_isi, e_call, e_callv, gl_c, e_callk, e_fz, e_gc, e_maxd, mx_c, e_sset, ss_c, e_dnew, e_disp, e_items, it_d, e_rvs, rv_l, e_blt, e_mth, e_lc, e_lc2, e_nil, e_cons, t_nil, t_cons, i_seq, i_rng1, rg_1, i_rng2, rg_2, i_enum, i_rev, s_expr, s_ret, s_retN, s_set, s_unp, un_t, s_star, s_seti, s_aug, au_1, au_2, au_a, au_s, s_ite, t_e, s_for, s_while, s_pass, s_cont, s_brk, s_nil, s_cons, fe_n, fe_b, fe_r, fe_s, o_add, o_sub, o_cat, o_lst, o_tup, c_lt, c_le, c_gt, c_ge, c_es, c_ns, c_ei, c_ni, c_eb, c_nb, c_nt, c_in, xt_0, xt_1, xt_2, xt_3, xl_0, xl_1, xl_2, xl_3, n_ll, n_lt, n_ld, n_tl, n_tt, n_dl, n_dt, n_ab, n_ib, n_ii, n_dd, n_rt, n_rl, n_g1, n_g2, q_0, q_1, q_2, q_3, q_4, q_5, q_6, q_7, q_8, al_0, al_1, al_2, al_3, ift, ifT, ifF, ifx, is_l, pw_a, pw_b, pw_c, pw_d, o_mul, o_fd, o_mod, o_pow, List.map_cons, List.map_nil, List.replicate, List.cons_append, List.nil_append, Bool.not_true, Bool.not_false, Bool.and_true, Bool.true_and, Bool.and_false, Bool.false_and, Bool.or_false, Bool.false_or, Bool.or_true, Bool.true_or, Nat.reduceBEq, Nat.reduceSub, List.all_cons, List.all_nil, e1, e2, e3, e4, Tm.d, Tm.ds]
  | true =>
    obtain ⟨r2, p2, f2, q2, q2', P2⟩ := tk (k := k + 1) (W := W) (upto := 2) hP (by omega) (by decide) (by decide)
    by_cases c : r2 = 0
    · subst c
      obtain ⟨w, p3, e3, P3, L3⟩ := word_ok (k := k) (W := W) P2 (by omega)
      have z : ((0 : Int) == 0) = true := rfl
      refine ⟨.hole w, p3, ?_, by rw [Tm.low]; exact L3, by rw [Tm.n], by rw [Tm.h], P3.mono (by omega), nofun⟩
      simp only [b__law_term_i4, v_bind, v_of, v_need, v_ct, v_cf, v_only, v_toF, f_thn, f_thr, f_thb, f_thc, f_of, f_ct, f_cf, rs_v, rs_n, rs_l, sl_o, rl_n, rl_c, rl_k, g_0, g_s, st_0, st_s, lk_v, lk_o, fz_v, fz_n, fz_l, fz_o, fs_n, fs_c, vl_int, vl_str, vl_bl, vl_tup, vl_lst, vl_dic, vl_non, vl_glo, bv_s, or_ok, or_nl, or_nd, tv_bl, tv_int, tv_non, tv_lst, tv_tup, ag_v, ag_n, ag_l, ag_o, as_n, as_c, as_k, nd_n, nd_v, nd_w, nd_l, li_n, li_v, li_w, li_l, pb_n, pb_v, pb_w, pb_l, pb_o, bk_o, cl_r, ps_e, ps_n, ps_v, ps_o, pd_e, no_int, no_str, no_bl, no_tup, no_lst, no_dic, no_non, no_glo, av_n, av_c, av_k, ag1, ag2, wp_n, wp_c, ro_n, ro_c, gd_0, gd_s, mn_n, mn_c, ti_v, ti_t, tn_0, tn_1, hv_l, hv_t, hv_s, hv_n, hv_o, hc_m, hc_l, hl_l, hl_n, hl_o, fr_n, fr_s, fr_o, ed_v, gw_l, gw_o, mt_a, mt_p, mt_r, mt_j, mt_i, mt_1, mt_2, mt_e, ex_l, mk_j, mk_1, mk_2, mk_a, mk_e, mk_p, mk_r, mk_i, vs_n, vs_c, om_s, sv_e, sv_l, sv_d, ky_s, ky_i, sr_v, sr_n, rt_n, rt_v, rt_w, rt_l, rt_o, pr_0, pr_v, pr_n, pr_o, pr_f, e_k, e_v, e_g, e_tup, e_lst, e_bin, e_neg, ng_i, e_cmp, e_chain, e_and, e_or, e_not, e_ite, e_int1, in_i, e_ix, e_sl, sc_v, e_isi, e_call, e_callv, gl_c, e_callk, e_fz, e_gc, e_maxd, mx_c, e_sset, ss_c, e_dnew, e_disp, e_items, it_d, e_rvs, rv_l, e_blt, e_mth, e_lc, e_lc2, e_nil, e_cons, t_nil, t_cons, i_seq, i_rng1, rg_1, i_rng2, rg_2, i_enum, i_rev, s_expr, s_ret, s_retN, s_set, s_unp, un_t, s_star, s_seti, s_aug, au_1, au_2, au_a, au_s, s_ite, t_e, s_for, s_while, s_pass, s_cont, s_brk, s_nil, s_cons, fe_n, fe_b, fe_r, fe_s, o_add, o_sub, o_cat, o_lst, o_tup, c_lt, c_le, c_gt, c_ge, c_es, c_ns, c_ei, c_ni, c_eb, c_nb, c_nt, c_in, xt_0, xt_1, xt_2, xt_3, xl_0, xl_1, xl_2, xl_3, n_ll, n_lt, n_ld, n_tl, n_tt, n_dl, n_dt, n_ab, n_ib, n_ii, n_dd, n_rt, n_rl, n_g1, n_g2, q_0, q_1, q_2, q_3, q_4, q_5, q_6, q_7, q_8, al_0, al_1, al_2, al_3, ift, ifT, ifF, ifx, is_l, pw_a, pw_b, pw_c, pw_d, o_mul, o_fd, o_mod, o_pow, List.map_cons, List.map_nil, List.replicate, List.cons_append, List.nil_append, Bool.not_true, Bool.not_false, Bool.and_true, Bool.true_and, Bool.and_false, Bool.false_and, Bool.or_false, Bool.false_or, Bool.or_true, Bool.true_or, Nat.reduceBEq, Nat.reduceSub, List.all_cons, List.all_nil, f2, e3, z, Tm.d]
    · have z : (r2 == (0 : Int)) = false := by simpa using c
      obtain ⟨w1, w2, w3, c1, c2, c3, c4, n, e1, e2, e3, e4, L1, L2, L3, hn, P4⟩ := pick p2 (a + 1) P2 (by omega)
      rcases hn with rfl | rfl | rfl
      · refine ⟨.name w1, c4, ?_, by rw [Tm.low]; exact L1, by rw [Tm.n], by rw [Tm.h], P4, nofun⟩
        simp only [b__law_term_i4, v_bind, v_of, v_need, v_ct, v_cf, v_only, v_toF, f_thn, f_thr, f_thb, f_thc, f_of, f_ct, f_cf, rs_v, rs_n, rs_l, sl_o, rl_n, rl_c, rl_k, g_0, g_s, st_0, st_s, lk_v, lk_o, fz_v, fz_n, fz_l, fz_o, fs_n, fs_c, vl_int, vl_str, vl_bl, vl_tup, vl_lst, vl_dic, vl_non, vl_glo, bv_s, or_ok, or_nl, or_nd, tv_bl, tv_int, tv_non, tv_lst, tv_tup, ag_v, ag_n, ag_l, ag_o, as_n, as_c, as_k, nd_n, nd_v, nd_w, nd_l, li_n, li_v, li_w, li_l, pb_n, pb_v, pb_w, pb_l, pb_o, bk_o, cl_r, ps_e, ps_n, ps_v, ps_o, pd_e, no_int, no_str, no_bl, no_tup, no_lst, no_dic, no_non, no_glo, av_n, av_c, av_k, ag1, ag2, wp_n, wp_c, ro_n, ro_c, gd_0, gd_s, mn_n, mn_c, ti_v, ti_t, tn_0, tn_1, hv_l, hv_t, hv_s, hv_n, hv_o, hc_m, hc_l, hl_l, hl_n, hl_o, fr_n, fr_s, fr_o, ed_v, gw_l, gw_o, mt_a, mt_p, mt_r, mt_j, mt_i, mt_1, mt_2, mt_e, ex_l, mk_j, mk_1, mk_2, mk_a, mk_e, mk_p, mk_r, mk_i, vs_n, vs_c, om_s, sv_e, sv_l, sv_d, ky_s, ky_i, sr_v, sr_n, rt_n, rt_v, rt_w, rt_l, rt_o, pr_0, pr_v, pr_n, pr_o, pr_f, e_k, e_v, e_g, e_tup, e_lst, e_bin, e_neg, ng_i, e_cmp, e_chain, e_and, e_or, e_not, e_ite, e_int1, in_i, e_ix, e_sl, sc_v, e_isi, e_call, e_callv, gl_c, e_callk, e_fz, e_gc, e_maxd, mx_c, e_sset, ss_c, e_dnew, e_disp, e_items, it_d, e_rvs, rv_l, e_blt, e_mth, e_lc, e_lc2, e_nil, e_cons, t_nil, t_cons, i_seq, i_rng1, rg_1, i_rng2, rg_2, i_enum, i_rev, s_expr, s_ret, s_retN, s_set, s_unp, un_t, s_star, s_seti, s_aug, au_1, au_2, au_a, au_s, s_ite, t_e, s_for, s_while, s_pass, s_cont, s_brk, s_nil, s_cons, fe_n, fe_b, fe_r, fe_s, o_add, o_sub, o_cat, o_lst, o_tup, c_lt, c_le, c_gt, c_ge, c_es, c_ns, c_ei, c_ni, c_eb, c_nb, c_nt, c_in, xt_0, xt_1, xt_2, xt_3, xl_0, xl_1, xl_2, xl_3, n_ll, n_lt, n_ld, n_tl, n_tt, n_dl, n_dt, n_ab, n_ib, n_ii, n_dd, n_rt, n_rl, n_g1, n_g2, q_0, q_1, q_2, q_3, q_4, q_5, q_6, q_7, q_8, al_0, al_1, al_2, al_3, ift, ifT, ifF, ifx, is_l, pw_a, pw_b, pw_c, pw_d, o_mul, o_fd, o_mod, o_pow, List.map_cons, List.map_nil, List.replicate, List.cons_append, List.nil_append, Bool.not_true, Bool.not_false, Bool.and_true, Bool.true_and, Bool.and_false, Bool.false_and, Bool.or_false, Bool.false_or, Bool.or_true, Bool.true_or, Nat.reduceBEq, Nat.reduceSub, List.all_cons, List.all_nil, f2, z, e1, e2, e3, e4, Tm.d]
      · refine ⟨.name w2, c4, ?_, by rw [Tm.low]; exact L2, by rw [Tm.n], by rw [Tm.h], P4, nofun⟩
        simp only [b__law_term_i4, v_bind, v_of, v_need, v_ct, v_cf, v_only, v_toF, f_thn, f_thr, f_thb, f_thc, f_of, f_ct, f_cf, rs_v, rs_n, rs_l, sl_o, rl_n, rl_c, rl_k, g_0, g_s, st_0, st_s, lk_v, lk_o, fz_v, fz_n, fz_l, fz_o, fs_n, fs_c, vl_int, vl_str, vl_bl, vl_tup, vl_lst, vl_dic, vl_non, vl_glo, bv_s, or_ok, or_nl, or_nd, tv_bl, tv_int, tv_non, tv_lst, tv_tup, ag_v, ag_n, ag_l, ag_o, as_n, as_c, as_k, nd_n, nd_v, nd_w, nd_l, li_n, li_v, li_w, li_l, pb_n, pb_v, pb_w, pb_l, pb_o, bk_o, cl_r, ps_e, ps_n, ps_v, ps_o, pd_e, no_int, no_str, no_bl, no_tup, no_lst, no_dic, no_non, no_glo, av_n, av_c, av_k, ag1, ag2, wp_n, wp_c, ro_n, ro_c, gd_0, gd_s, mn_n, mn_c, ti_v, ti_t, tn_0, tn_1, hv_l, hv_t, hv_s, hv_n, hv_o, hc_m, hc_l, hl_l, hl_n, hl_o, fr_n, fr_s, fr_o, ed_v, gw_l, gw_o, mt_a, mt_p, mt_r, mt_j, mt_i, mt_1, mt_2, mt_e, ex_l, mk_j, mk_1, mk_2, mk_a, mk_e, mk_p, mk_r, mk_i, vs_n, vs_c, om_s, sv_e, sv_l, sv_d, ky_s, ky_i, sr_v, sr_n, rt_n, rt_v, rt_w, rt_l, rt_o, pr_0, pr_v, pr_n, pr_o, pr_f, e_k, e_v, e_g, e_tup, e_lst, e_bin, e_neg, ng_i, e_cmp, e_chain, e_and, e_or, e_not, e_ite, e_int1, in_i, e_ix, e_sl, sc_v, e_isi, e_call, e_callv, gl_c, e_callk, e_fz, e_gc, e_maxd, mx_c, e_sset, ss_c, e_dnew, e_disp, e_items, it_d, e_rvs, rv_l, e_blt, e_mth, e_lc, e_lc2, e_nil, e_cons, t_nil, t_cons, i_seq, i_rng1, rg_1, i_rng2, rg_2, i_enum, i_rev, s_expr, s_ret, s_retN, s_set, s_unp, un_t, s_star, s_seti, s_aug, au_1, au_2, au_a, au_s, s_ite, t_e, s_for, s_while, s_pass, s_cont, s_brk, s_nil, s_cons, fe_n, fe_b, fe_r, fe_s, o_add, o_sub, o_cat, o_lst, o_tup, c_lt, c_le, c_gt, c_ge, c_es, c_ns, c_ei, c_ni, c_eb, c_nb, c_nt, c_in, xt_0, xt_1, xt_2, xt_3, xl_0, xl_1, xl_2, xl_3, n_ll, n_lt, n_ld, n_tl, n_tt, n_dl, n_dt, n_ab, n_ib, n_ii, n_dd, n_rt, n_rl, n_g1, n_g2, q_0, q_1, q_2, q_3, q_4, q_5, q_6, q_7, q_8, al_0, al_1, al_2, al_3, ift, ifT, ifF, ifx, is_l, pw_a, pw_b, pw_c, pw_d, o_mul, o_fd, o_mod, o_pow, List.map_cons, List.map_nil, List.replicate, List.cons_append, List.nil_append, Bool.not_true, Bool.not_false, Bool.and_true, Bool.true_and, Bool.and_false, Bool.false_and, Bool.or_false, Bool.false_or, Bool.or_true, Bool.true_or, Nat.reduceBEq, Nat.reduceSub, List.all_cons, List.all_nil, f2, z, e1, e2, e3, e4, Tm.d]
      · refine ⟨.of w3 [], c4, ?_, by rw [Tm.low, Tm.lows]; exact ⟨L3, trivial⟩, by rw [Tm.n, Tm.ns], by rw [Tm.h, Tm.hs], P4, nofun⟩
        simp only [b__law_term_i4, v_bind, v_of, v_need, v_ct, v_cf, v_only, v_toF, f_thn, f_thr, f_thb, f_thc, f_of, f_ct, f_cf, rs_v, rs_n, rs_l, sl_o, rl_n, rl_c, rl_k, g_0, g_s, st_0, st_s, lk_v, lk_o, fz_v, fz_n, fz_l, fz_o, fs_n, fs_c, vl_int, vl_str, vl_bl, vl_tup, vl_lst, vl_dic, vl_non, vl_glo, bv_s, or_ok, or_nl, or_nd, tv_bl, tv_int, tv_non, tv_lst, tv_tup, ag_v, ag_n, ag_l, ag_o, as_n, as_c, as_k, nd_n, nd_v, nd_w, nd_l, li_n, li_v, li_w, li_l, pb_n, pb_v, pb_w, pb_l, pb_o, bk_o, cl_r, ps_e, ps_n, ps_v, ps_o, pd_e, no_int, no_str, no_bl, no_tup, no_lst, no_dic, no_non, no_glo, av_n, av_c, av_k, ag1, ag2, wp_n, wp_c, ro_n, ro_c, gd_0, gd_s, mn_n, mn_c, ti_v, ti_t, tn_0, tn_1, hv_l, hv_t, hv_s, hv_n, hv_o, hc_m, hc_l, hl_l, hl_n, hl_o, fr_n, fr_s, fr_o, ed_v, gw_l, gw_o, mt_a, mt_p, mt_r, mt_j, mt_i, mt_1, mt_2, mt_e, ex_l, mk_j, mk_1, mk_2, mk_a, mk_e, mk_p, mk_r, mk_i, vs_n, vs_c, om_s, sv_e, sv_l, sv_d, ky_s, ky_i, sr_v, sr_n, rt_n, rt_v, rt_w, rt_l, rt_o, pr_0, pr_v, pr_n, pr_o, pr_f, e_k, e_v, e_g, e_tup, e_lst, e_bin, e_neg, ng_i, e_cmp, e_chain, e_and, e_or, e_not, e_ite, e_int1, in_i, e_ix, e_sl, sc_v, e_isi, e_call, e_callv, gl_c, e_callk, e_fz, e_gc, e_maxd, mx_c, e_sset, ss_c, e_dnew, e_disp, e_items, it_d, e_rvs, rv_l, e_blt, e_mth, e_lc, e_lc2, e_nil, e_cons, t_nil, t_cons, i_seq, i_rng1, rg_1, i_rng2, rg_2, i_enum, i_rev, s_expr, s_ret, s_retN, s_set, s_unp, un_t, s_star, s_seti, s_aug, au_1, au_2, au_a, au_s, s_ite, t_e, s_for, s_while, s_pass, s_cont, s_brk, s_nil, s_cons, fe_n, fe_b, fe_r, fe_s, o_add, o_sub, o_cat, o_lst, o_tup, c_lt, c_le, c_gt, c_ge, c_es, c_ns, c_ei, c_ni, c_eb, c_nb, c_nt, c_in, xt_0, xt_1, xt_2, xt_3, xl_0, xl_1, xl_2, xl_3, n_ll, n_lt, n_ld, n_tl, n_tt, n_dl, n_dt, n_ab, n_ib, n_ii, n_dd, n_rt, n_rl, n_g1, n_g2, q_0, q_1, q_2, q_3, q_4, q_5, q_6, q_7, q_8, al_0, al_1, al_2, al_3, ift, ifT, ifF, ifx, is_l, pw_a, pw_b, pw_c, pw_d, o_mul, o_fd, o_mod, o_pow, List.map_cons, List.map_nil, List.replicate, List.cons_append, List.nil_append, Bool.not_true, Bool.not_false, Bool.and_true, Bool.true_and, Bool.and_false, Bool.false_and, Bool.or_false, Bool.false_or, Bool.or_true, Bool.true_or, Nat.reduceBEq, Nat.reduceSub, List.all_cons, List.all_nil, f2, z, e1, e2, e3, e4, Tm.d, Tm.ds]
theorem term_ok {W : Nat} {gaps : Bool} : ∀ (n k : Nat) (deep : Int) (p : D) (a : Nat) (r : Int), deep ≤ n + 1 → n + 3 ≤ k → Pn p a → a + 100 * r.toNat + 200 < big → TermOk k W deep gaps p a r := by
  intro n
  induction n with
  | zero =>
    intro k deep p a r hd hk hP ha
    obtain ⟨k, rfl⟩ : ∃ k2, k = k2 + 3 := ⟨k - 3, by omega⟩
    obtain ⟨way, p1, e1, q1, q1', P1⟩ := tk (k := k + 1) (W := W) (upto := 8) hP (by omega) (by decide) (by decide)
    obtain ⟨t, c, e2, h1, h2, h3, h4, h5⟩ := leaf_ok (k := k) (W := W) (deep := deep) (r := r - 1) (way := way) (gaps := gaps) P1 (by omega)
    have e : callV T.prog W (k + 3) "_law_term" _ = _ := call_defV (T := T) ok (d := d__law_term) (by unfold T; simp) (k := k + 2) (W := W) (sls := [.own true .mu p, .v (.int deep), .own true .mu (.lst [.int r]), .v (.bl gaps)]) rfl
    refine ⟨t, c, r - 1, ?_, h1, by omega, by omega, by omega, h4.mono (by omega), h5, by omega⟩
    rw [e]
    simp only [d__law_term, b__law_term, v_bind, v_of, v_need, v_ct, v_cf, v_only, v_toF, f_thn, f_thr, f_thb, f_thc, f_of, f_ct, f_cf, rs_v, rs_n, rs_l, sl_o, rl_n, rl_c, rl_k, g_0, g_s, st_0, st_s, lk_v, lk_o, fz_v, fz_n, fz_l, fz_o, fs_n, fs_c, vl_int, vl_str, vl_bl, vl_tup, vl_lst, vl_dic, vl_non, vl_glo, bv_s, or_ok, or_nl, or_nd, tv_bl, tv_int, tv_non, tv_lst, tv_tup, ag_v, ag_n, ag_l, ag_o, as_n, as_c, as_k, nd_n, nd_v, nd_w, nd_l, li_n, li_v, li_w, li_l, pb_n, pb_v, pb_w, pb_l, pb_o, bk_o, cl_r, ps_e, ps_n, ps_v, ps_o, pd_e, no_int, no_str, no_bl, no_tup, no_lst, no_dic, no_non, no_glo, av_n, av_c, av_k, ag1, ag2, wp_n, wp_c, ro_n, ro_c, gd_0, gd_s, mn_n, mn_c, ti_v, ti_t, tn_0, tn_1, hv_l, hv_t, hv_s, hv_n, hv_o, hc_m, hc_l, hl_l, hl_n, hl_o, fr_n, fr_s, fr_o, ed_v, gw_l, gw_o, mt_a, mt_p, mt_r, mt_j, mt_i, mt_1, mt_2, mt_e, ex_l, mk_j, mk_1, mk_2, mk_a, mk_e, mk_p, mk_r, mk_i, vs_n, vs_c, om_s, sv_e, sv_l, sv_d, ky_s, ky_i, sr_v, sr_n, rt_n, rt_v, rt_w, rt_l, rt_o, pr_0, pr_v, pr_n, pr_o, pr_f, e_k, e_v, e_g, e_tup, e_lst, e_bin, e_neg, ng_i, e_cmp, e_chain, e_and, e_or, e_not, e_ite, e_int1, in_i, e_ix, e_sl, sc_v, e_isi, e_call, e_callv, gl_c, e_callk, e_fz, e_gc, e_maxd, mx_c, e_sset, ss_c, e_dnew, e_disp, e_items, it_d, e_rvs, rv_l, e_blt, e_mth, e_lc, e_lc2, e_nil, e_cons, t_nil, t_cons, i_seq, i_rng1, rg_1, i_rng2, rg_2, i_enum, i_rev, s_expr, s_ret, s_retN, s_set, s_unp, un_t, s_star, s_seti, s_aug, au_1, au_2, au_a, au_s, s_ite, t_e, s_for, s_while, s_pass, s_cont, s_brk, s_nil, s_cons, fe_n, fe_b, fe_r, fe_s, o_add, o_sub, o_cat, o_lst, o_tup, c_lt, c_le, c_gt, c_ge, c_es, c_ns, c_ei, c_ni, c_eb, c_nb, c_nt, c_in, xt_0, xt_1, xt_2, xt_3, xl_0, xl_1, xl_2, xl_3, n_ll, n_lt, n_ld, n_tl, n_tt, n_dl, n_dt, n_ab, n_ib, n_ii, n_dd, n_rt, n_rl, n_g1, n_g2, q_0, q_1, q_2, q_3, q_4, q_5, q_6, q_7, q_8, al_0, al_1, al_2, al_3, ift, ifT, ifF, ifx, is_l, pw_a, pw_b, pw_c, pw_d, o_mul, o_fd, o_mod, o_pow, List.map_cons, List.map_nil, List.replicate, List.cons_append, List.nil_append, Bool.not_true, Bool.not_false, Bool.and_true, Bool.true_and, Bool.and_false, Bool.false_and, Bool.or_false, Bool.false_or, Bool.or_true, Bool.true_or, Nat.reduceBEq, Nat.reduceSub, List.all_cons, List.all_nil, e1, decide_eq_true (show deep < 2 by omega), e2, List.set]
  | succ n ih =>
    intro k deep p a r hd hk hP ha
    obtain ⟨k, rfl⟩ : ∃ k2, k = k2 + 3 := ⟨k - 3, by omega⟩
    obtain ⟨way, p1, e1, q1, q1', P1⟩ := tk (k := k + 1) (W := W) (upto := 8) hP (by omega) (by decide) (by decide)
    have e : callV T.prog W (k + 3) "_law_term" _ = _ := call_defV (T := T) ok (d := d__law_term) (by unfold T; simp) (k := k + 2) (W := W) (sls := [.own true .mu p, .v (.int deep), .own true .mu (.lst [.int r]), .v (.bl gaps)]) rfl
    by_cases lf : deep < 2 ∨ r - 1 < 1 ∨ way = 0
    · obtain ⟨t, c, e2, h1, h2, h3, h4, h5⟩ := leaf_ok (k := k) (W := W) (deep := deep) (r := r - 1) (way := way) (gaps := gaps) P1 (by omega)
      refine ⟨t, c, r - 1, ?_, h1, by omega, by omega, by omega, h4.mono (by omega), h5, by omega⟩
      rw [e]
      by_cases c1 : deep < 2
      · simp only [d__law_term, b__law_term, v_bind, v_of, v_need, v_ct, v_cf, v_only, v_toF, f_thn, f_thr, f_thb, f_thc, f_of, f_ct, f_cf, rs_v, rs_n, rs_l, sl_o, rl_n, rl_c, rl_k, g_0, g_s, st_0, st_s, lk_v, lk_o, fz_v, fz_n, fz_l, fz_o, fs_n, fs_c, vl_int, vl_str, vl_bl, vl_tup, vl_lst, vl_dic, vl_non, vl_glo, bv_s, or_ok, or_nl, or_nd, tv_bl, tv_int, tv_non, tv_lst, tv_tup, ag_v, ag_n, ag_l, ag_o, as_n, as_c, as_k, nd_n, nd_v, nd_w, nd_l, li_n, li_v, li_w, li_l, pb_n, pb_v, pb_w, pb_l, pb_o, bk_o, cl_r, ps_e, ps_n, ps_v, ps_o, pd_e, no_int, no_str, no_bl, no_tup, no_lst, no_dic, no_non, no_glo, av_n, av_c, av_k, ag1, ag2, wp_n, wp_c, ro_n, ro_c, gd_0, gd_s, mn_n, mn_c, ti_v, ti_t, tn_0, tn_1, hv_l, hv_t, hv_s, hv_n, hv_o, hc_m, hc_l, hl_l, hl_n, hl_o, fr_n, fr_s, fr_o, ed_v, gw_l, gw_o, mt_a, mt_p, mt_r, mt_j, mt_i, mt_1, mt_2, mt_e, ex_l, mk_j, mk_1, mk_2, mk_a, mk_e, mk_p, mk_r, mk_i, vs_n, vs_c, om_s, sv_e, sv_l, sv_d, ky_s, ky_i, sr_v, sr_n, rt_n, rt_v, rt_w, rt_l, rt_o, pr_0, pr_v, pr_n, pr_o, pr_f, e_k, e_v, e_g, e_tup, e_lst, e_bin, e_neg, ng_i, e_cmp, e_chain, e_and, e_or, e_not, e_ite, e_int1, in_i, e_ix, e_sl, sc_v, e_isi, e_call, e_callv, gl_c, e_callk, e_fz, e_gc, e_maxd, mx_c, e_sset, ss_c, e_dnew, e_disp, e_items, it_d, e_rvs, rv_l, e_blt, e_mth, e_lc, e_lc2, e_nil, e_cons, t_nil, t_cons, i_seq, i_rng1, rg_1, i_rng2, rg_2, i_enum, i_rev, s_expr, s_ret, s_retN, s_set, s_unp, un_t, s_star, s_seti, s_aug, au_1, au_2, au_a, au_s, s_ite, t_e, s_for, s_while, s_pass, s_cont, s_brk, s_nil, s_cons, fe_n, fe_b, fe_r, fe_s, o_add, o_sub, o_cat, o_lst, o_tup, c_lt, c_le, c_gt, c_ge, c_es, c_ns, c_ei, c_ni, c_eb, c_nb, c_nt, c_in, xt_0, xt_1, xt_2, xt_3, xl_0, xl_1, xl_2, xl_3, n_ll, n_lt, n_ld, n_tl, n_tt, n_dl, n_dt, n_ab, n_ib, n_ii, n_dd, n_rt, n_rl, n_g1, n_g2, q_0, q_1, q_2, q_3, q_4, q_5, q_6, q_7, q_8, al_0, al_1, al_2, al_3, ift, ifT, ifF, ifx, is_l, pw_a, pw_b, pw_c, pw_d, o_mul, o_fd, o_mod, o_pow, List.map_cons, List.map_nil, List.replicate, List.cons_append, List.nil_append, Bool.not_true, Bool.not_false, Bool.and_true, Bool.true_and, Bool.and_false, Bool.false_and, Bool.or_false, Bool.false_or, Bool.or_true, Bool.true_or, Nat.reduceBEq, Nat.reduceSub, List.all_cons, List.all_nil, e1, decide_eq_true c1, e2, List.set]
      · by_cases c2 : r - 1 < 1
        · simp only [d__law_term, b__law_term, v_bind, v_of, v_need, v_ct, v_cf, v_only, v_toF, f_thn, f_thr, f_thb, f_thc, f_of, f_ct, f_cf, rs_v, rs_n, rs_l, sl_o, rl_n, rl_c, rl_k, g_0, g_s, st_0, st_s, lk_v, lk_o, fz_v, fz_n, fz_l, fz_o, fs_n, fs_c, vl_int, vl_str, vl_bl, vl_tup, vl_lst, vl_dic, vl_non, vl_glo, bv_s, or_ok, or_nl, or_nd, tv_bl, tv_int, tv_non, tv_lst, tv_tup, ag_v, ag_n, ag_l, ag_o, as_n, as_c, as_k, nd_n, nd_v, nd_w, nd_l, li_n, li_v, li_w, li_l, pb_n, pb_v, pb_w, pb_l, pb_o, bk_o, cl_r, ps_e, ps_n, ps_v, ps_o, pd_e, no_int, no_str, no_bl, no_tup, no_lst, no_dic, no_non, no_glo, av_n, av_c, av_k, ag1, ag2, wp_n, wp_c, ro_n, ro_c, gd_0, gd_s, mn_n, mn_c, ti_v, ti_t, tn_0, tn_1, hv_l, hv_t, hv_s, hv_n, hv_o, hc_m, hc_l, hl_l, hl_n, hl_o, fr_n, fr_s, fr_o, ed_v, gw_l, gw_o, mt_a, mt_p, mt_r, mt_j, mt_i, mt_1, mt_2, mt_e, ex_l, mk_j, mk_1, mk_2, mk_a, mk_e, mk_p, mk_r, mk_i, vs_n, vs_c, om_s, sv_e, sv_l, sv_d, ky_s, ky_i, sr_v, sr_n, rt_n, rt_v, rt_w, rt_l, rt_o, pr_0, pr_v, pr_n, pr_o, pr_f, e_k, e_v, e_g, e_tup, e_lst, e_bin, e_neg, ng_i, e_cmp, e_chain, e_and, e_or, e_not, e_ite, e_int1, in_i, e_ix, e_sl, sc_v, e_isi, e_call, e_callv, gl_c, e_callk, e_fz, e_gc, e_maxd, mx_c, e_sset, ss_c, e_dnew, e_disp, e_items, it_d, e_rvs, rv_l, e_blt, e_mth, e_lc, e_lc2, e_nil, e_cons, t_nil, t_cons, i_seq, i_rng1, rg_1, i_rng2, rg_2, i_enum, i_rev, s_expr, s_ret, s_retN, s_set, s_unp, un_t, s_star, s_seti, s_aug, au_1, au_2, au_a, au_s, s_ite, t_e, s_for, s_while, s_pass, s_cont, s_brk, s_nil, s_cons, fe_n, fe_b, fe_r, fe_s, o_add, o_sub, o_cat, o_lst, o_tup, c_lt, c_le, c_gt, c_ge, c_es, c_ns, c_ei, c_ni, c_eb, c_nb, c_nt, c_in, xt_0, xt_1, xt_2, xt_3, xl_0, xl_1, xl_2, xl_3, n_ll, n_lt, n_ld, n_tl, n_tt, n_dl, n_dt, n_ab, n_ib, n_ii, n_dd, n_rt, n_rl, n_g1, n_g2, q_0, q_1, q_2, q_3, q_4, q_5, q_6, q_7, q_8, al_0, al_1, al_2, al_3, ift, ifT, ifF, ifx, is_l, pw_a, pw_b, pw_c, pw_d, o_mul, o_fd, o_mod, o_pow, List.map_cons, List.map_nil, List.replicate, List.cons_append, List.nil_append, Bool.not_true, Bool.not_false, Bool.and_true, Bool.true_and, Bool.and_false, Bool.false_and, Bool.or_false, Bool.false_or, Bool.or_true, Bool.true_or, Nat.reduceBEq, Nat.reduceSub, List.all_cons, List.all_nil, e1, decide_eq_false c1, decide_eq_true c2, e2, List.set]
        · have c3 : (way == (0 : Int)) = true := by rcases lf with z | z | z <;> first | exact absurd z c1 | exact absurd z c2 | simp [z]
          simp only [d__law_term, b__law_term, v_bind, v_of, v_need, v_ct, v_cf, v_only, v_toF, f_thn, f_thr, f_thb, f_thc, f_of, f_ct, f_cf, rs_v, rs_n, rs_l, sl_o, rl_n, rl_c, rl_k, g_0, g_s, st_0, st_s, lk_v, lk_o, fz_v, fz_n, fz_l, fz_o, fs_n, fs_c, vl_int, vl_str, vl_bl, vl_tup, vl_lst, vl_dic, vl_non, vl_glo, bv_s, or_ok, or_nl, or_nd, tv_bl, tv_int, tv_non, tv_lst, tv_tup, ag_v, ag_n, ag_l, ag_o, as_n, as_c, as_k, nd_n, nd_v, nd_w, nd_l, li_n, li_v, li_w, li_l, pb_n, pb_v, pb_w, pb_l, pb_o, bk_o, cl_r, ps_e, ps_n, ps_v, ps_o, pd_e, no_int, no_str, no_bl, no_tup, no_lst, no_dic, no_non, no_glo, av_n, av_c, av_k, ag1, ag2, wp_n, wp_c, ro_n, ro_c, gd_0, gd_s, mn_n, mn_c, ti_v, ti_t, tn_0, tn_1, hv_l, hv_t, hv_s, hv_n, hv_o, hc_m, hc_l, hl_l, hl_n, hl_o, fr_n, fr_s, fr_o, ed_v, gw_l, gw_o, mt_a, mt_p, mt_r, mt_j, mt_i, mt_1, mt_2, mt_e, ex_l, mk_j, mk_1, mk_2, mk_a, mk_e, mk_p, mk_r, mk_i, vs_n, vs_c, om_s, sv_e, sv_l, sv_d, ky_s, ky_i, sr_v, sr_n, rt_n, rt_v, rt_w, rt_l, rt_o, pr_0, pr_v, pr_n, pr_o, pr_f, e_k, e_v, e_g, e_tup, e_lst, e_bin, e_neg, ng_i, e_cmp, e_chain, e_and, e_or, e_not, e_ite, e_int1, in_i, e_ix, e_sl, sc_v, e_isi, e_call, e_callv, gl_c, e_callk, e_fz, e_gc, e_maxd, mx_c, e_sset, ss_c, e_dnew, e_disp, e_items, it_d, e_rvs, rv_l, e_blt, e_mth, e_lc, e_lc2, e_nil, e_cons, t_nil, t_cons, i_seq, i_rng1, rg_1, i_rng2, rg_2, i_enum, i_rev, s_expr, s_ret, s_retN, s_set, s_unp, un_t, s_star, s_seti, s_aug, au_1, au_2, au_a, au_s, s_ite, t_e, s_for, s_while, s_pass, s_cont, s_brk, s_nil, s_cons, fe_n, fe_b, fe_r, fe_s, o_add, o_sub, o_cat, o_lst, o_tup, c_lt, c_le, c_gt, c_ge, c_es, c_ns, c_ei, c_ni, c_eb, c_nb, c_nt, c_in, xt_0, xt_1, xt_2, xt_3, xl_0, xl_1, xl_2, xl_3, n_ll, n_lt, n_ld, n_tl, n_tt, n_dl, n_dt, n_ab, n_ib, n_ii, n_dd, n_rt, n_rl, n_g1, n_g2, q_0, q_1, q_2, q_3, q_4, q_5, q_6, q_7, q_8, al_0, al_1, al_2, al_3, ift, ifT, ifF, ifx, is_l, pw_a, pw_b, pw_c, pw_d, o_mul, o_fd, o_mod, o_pow, List.map_cons, List.map_nil, List.replicate, List.cons_append, List.nil_append, Bool.not_true, Bool.not_false, Bool.and_true, Bool.true_and, Bool.and_false, Bool.false_and, Bool.or_false, Bool.false_or, Bool.or_true, Bool.true_or, Nat.reduceBEq, Nat.reduceSub, List.all_cons, List.all_nil, e1, decide_eq_false c1, decide_eq_false c2, c3, e2, List.set]
    · have c1 : ¬ deep < 2 := fun z => lf (.inl z)
      have c2 : ¬ r - 1 < 1 := fun z => lf (.inr (.inl z))
      have c3 : (way == (0 : Int)) = false := by simpa using fun z => lf (.inr (.inr z))
      by_cases c4 : way < 4
      · obtain ⟨w1, p2, e2, P2, L1⟩ := word_ok (k := k) (W := W) P1 (by omega)
        obtain ⟨w2, p3, e3, P3, L2⟩ := word_ok (k := k) (W := W) P2 (by omega)
        obtain ⟨t, c, r', e4, h1, h2, h3, h4, h5, h6, h8⟩ := ih (k + 2) (deep - 1) p3 _ (r - 1) (by omega) (by omega) P3 (by omega)
        refine ⟨.bind w1 w2 t, c, r', ?_, by rw [Tm.low]; exact ⟨L1, L2, h1⟩, by rw [Tm.h]; omega, by rw [Tm.n]; omega, by omega, h5.mono (by rw [Tm.n]; omega), (fun z => by rw [Tm.full]; exact h6 z), by rw [Tm.n]; omega⟩
        rw [e]
        simp only [d__law_term, b__law_term, v_bind, v_of, v_need, v_ct, v_cf, v_only, v_toF, f_thn, f_thr, f_thb, f_thc, f_of, f_ct, f_cf, rs_v, rs_n, rs_l, sl_o, rl_n, rl_c, rl_k, g_0, g_s, st_0, st_s, lk_v, lk_o, fz_v, fz_n, fz_l, fz_o, fs_n, fs_c, vl_int, vl_str, vl_bl, vl_tup, vl_lst, vl_dic, vl_non, vl_glo, bv_s, or_ok, or_nl, or_nd, tv_bl, tv_int, tv_non, tv_lst, tv_tup, ag_v, ag_n, ag_l, ag_o, as_n, as_c, as_k, nd_n, nd_v, nd_w, nd_l, li_n, li_v, li_w, li_l, pb_n, pb_v, pb_w, pb_l, pb_o, bk_o, cl_r, ps_e, ps_n, ps_v, ps_o, pd_e, no_int, no_str, no_bl, no_tup, no_lst, no_dic, no_non, no_glo, av_n, av_c, av_k, ag1, ag2, wp_n, wp_c, ro_n, ro_c, gd_0, gd_s, mn_n, mn_c, ti_v, ti_t, tn_0, tn_1, hv_l, hv_t, hv_s, hv_n, hv_o, hc_m, hc_l, hl_l, hl_n, hl_o, fr_n, fr_s, fr_o, ed_v, gw_l, gw_o, mt_a, mt_p, mt_r, mt_j, mt_i, mt_1, mt_2, mt_e, ex_l, mk_j, mk_1, mk_2, mk_a, mk_e, mk_p, mk_r, mk_i, vs_n, vs_c, om_s, sv_e, sv_l, sv_d, ky_s, ky_i, sr_v, sr_n, rt_n, rt_v, rt_w, rt_l, rt_o, pr_0, pr_v, pr_n, pr_o, pr_f, e_k, e_v, e_g, e_tup, e_lst, e_bin, e_neg, ng_i, e_cmp, e_chain, e_and, e_or, e_not, e_ite, e_int1, in_i, e_ix, e_sl, sc_v, e_isi, e_call, e_callv, gl_c, e_callk, e_fz, e_gc, e_maxd, mx_c, e_sset, ss_c, e_dnew, e_disp, e_items, it_d, e_rvs, rv_l, e_blt, e_mth, e_lc, e_lc2, e_nil, e_cons, t_nil, t_cons, i_seq, i_rng1, rg_1, i_rng2, rg_2, i_enum, i_rev, s_expr, s_ret, s_retN, s_set, s_unp, un_t, s_star, s_seti, s_aug, au_1, au_2, au_a, au_s, s_ite, t_e, s_for, s_while, s_pass, s_cont, s_brk, s_nil, s_cons, fe_n, fe_b, fe_r, fe_s, o_add, o_sub, o_cat, o_lst, o_tup, c_lt, c_le, c_gt, c_ge, c_es, c_ns, c_ei, c_ni, c_eb, c_nb, c_nt, c_in, xt_0, xt_1, xt_2, xt_3, xl_0, xl_1, xl_2, xl_3, n_ll, n_lt, n_ld, n_tl, n_tt, n_dl, n_dt, n_ab, n_ib, n_ii, n_dd, n_rt, n_rl, n_g1, n_g2, q_0, q_1, q_2, q_3, q_4, q_5, q_6, q_7, q_8, al_0, al_1, al_2, al_3, ift, ifT, ifF, ifx, is_l, pw_a, pw_b, pw_c, pw_d, o_mul, o_fd, o_mod, o_pow, List.map_cons, List.map_nil, List.replicate, List.cons_append, List.nil_append, Bool.not_true, Bool.not_false, Bool.and_true, Bool.true_and, Bool.and_false, Bool.false_and, Bool.or_false, Bool.false_or, Bool.or_true, Bool.true_or, Nat.reduceBEq, Nat.reduceSub, List.all_cons, List.all_nil, e1, decide_eq_false c1, decide_eq_false c2, c3, decide_eq_true c4, e2, e3, e4, List.set, Tm.d, fz_v]
      · obtain ⟨cnt, p2, e2, q2, q2', P2⟩ := tk (k := k + 1) (W := W) (upto := 4) P1 (by omega) (by decide) (by decide)
        have n1 := fun r => need_rng (m := 1 + cnt) (by omega) (by omega) (α := WalkedV) r
        obtain ⟨ρ', ey, ts, c, r', s, rfl, hs, h1, h2, h3, h4, h5, h6, h7⟩ := for_inv (f := forB (callV T.prog W (k + 2)) W (.v 6) b__law_term_f11)
          (fun i ρ => ∃ (ts : List Tm) (c : D) (r' : Int) (s : Sl), ρ = [.own true .mu c, .v (.int deep), .own true .mu (.lst [.int r']), .v (.bl gaps), .v (.int way), .own false .mu (.lst (Tm.ds ts)), s] ∧ (s = .no ∨ ∃ j, s = .v (.int j)) ∧
            Tm.lows 6 ts ∧ (Tm.hs ts : Int) ≤ max 1 (deep - 1) ∧ r - 1 - r' = Tm.ns ts ∧ 0 ≤ r' ∧ Pn c (a + 2 + 100 * Tm.ns ts) ∧ (gaps = false → Tm.fulls ts) ∧ ts.length ≤ i)
          (xs := rngD 0 (1 + cnt).toNat) (ρ := [.own true .mu p2, .v (.int deep), .own true .mu (.lst [.int (r - 1)]), .v (.bl gaps), .v (.int way), .own false .mu (.lst []), .no]) (i0 := 0)
          ⟨[], p2, r - 1, .no, by rw [Tm.ds], .inl rfl, by rw [Tm.lows]; trivial, by rw [Tm.hs]; omega, by rw [Tm.ns]; omega, by omega, by rw [Tm.ns]; exact P2, fun _ => by rw [Tm.fulls]; trivial, Nat.le_refl _⟩ (by
          rintro i x ρ hx ⟨ts, c, r', s, rfl, hs, h1, h2, h3, h4, h5, h6, h7⟩
          obtain ⟨hi, rfl⟩ := rngD_get hx
          by_cases c5 : 0 < r'
          · obtain ⟨t, c', r2, e4, g1, g2, g3, g4, g5, g6, _⟩ := ih (k + 2) (deep - 1) c _ r' (by omega) (by omega) h5 (by omega)
            refine ⟨_, .inl ?_, ts ++ [t], c', r2, .v (.int (0 + i)), rfl, .inr ⟨_, rfl⟩, lows_app.mpr ⟨h1, by rw [Tm.lows, Tm.lows]; exact ⟨g1, trivial⟩⟩, by rw [hs_app, Tm.hs, Tm.hs]; omega, by rw [ns_app, Tm.ns, Tm.ns]; omega, g4 (by omega), g5.mono (by rw [ns_app, Tm.ns, Tm.ns]; omega), fun z => fulls_app.mpr ⟨h6 z, by rw [Tm.fulls, Tm.fulls]; exact ⟨g6 z, trivial⟩⟩, by simp; omega⟩
            have na := fun r => need_app (xs := ts.map Tm.d) (by rw [List.length_map]; omega) (β := VR) r
            rcases hs with rfl | ⟨j, rfl⟩ <;> simp only [forB, b__law_term_f11, v_bind, v_of, v_need, v_ct, v_cf, v_only, v_toF, f_thn, f_thr, f_thb, f_thc, f_of, f_ct, f_cf, rs_v, rs_n, rs_l, sl_o, rl_n, rl_c, rl_k, g_0, g_s, st_0, st_s, lk_v, lk_o, fz_v, fz_n, fz_l, fz_o, fs_n, fs_c, vl_int, vl_str, vl_bl, vl_tup, vl_lst, vl_dic, vl_non, vl_glo, bv_s, or_ok, or_nl, or_nd, tv_bl, tv_int, tv_non, tv_lst, tv_tup, ag_v, ag_n, ag_l, ag_o, as_n, as_c, as_k, nd_n, nd_v, nd_w, nd_l, li_n, li_v, li_w, li_l, pb_n, pb_v, pb_w, pb_l, pb_o, bk_o, cl_r, ps_e, ps_n, ps_v, ps_o, pd_e, no_int, no_str, no_bl, no_tup, no_lst, no_dic, no_non, no_glo, av_n, av_c, av_k, ag1, ag2, wp_n, wp_c, ro_n, ro_c, gd_0, gd_s, mn_n, mn_c, ti_v, ti_t, tn_0, tn_1, hv_l, hv_t, hv_s, hv_n, hv_o, hc_m, hc_l, hl_l, hl_n, hl_o, fr_n, fr_s, fr_o, ed_v, gw_l, gw_o, mt_a, mt_p, mt_r, mt_j, mt_i, mt_1, mt_2, mt_e, ex_l, mk_j, mk_1, mk_2, mk_a, mk_e, mk_p, mk_r, mk_i, vs_n, vs_c, om_s, sv_e, sv_l, sv_d, ky_s, ky_i, sr_v, sr_n, rt_n, rt_v, rt_w, rt_l, rt_o, pr_0, pr_v, pr_n, pr_o, pr_f, e_k, e_v, e_g, e_tup, e_lst, e_bin, e_neg, ng_i, e_cmp, e_chain, e_and, e_or, e_not, e_ite, e_int1, in_i, e_ix, e_sl, sc_v, e_isi, e_call, e_callv, gl_c, e_callk, e_fz, e_gc, e_maxd, mx_c, e_sset, ss_c, e_dnew, e_disp, e_items, it_d, e_rvs, rv_l, e_blt, e_mth, e_lc, e_lc2, e_nil, e_cons, t_nil, t_cons, i_seq, i_rng1, rg_1, i_rng2, rg_2, i_enum, i_rev, s_expr, s_ret, s_retN, s_set, s_unp, un_t, s_star, s_seti, s_aug, au_1, au_2, au_a, au_s, s_ite, t_e, s_for, s_while, s_pass, s_cont, s_brk, s_nil, s_cons, fe_n, fe_b, fe_r, fe_s, o_add, o_sub, o_cat, o_lst, o_tup, c_lt, c_le, c_gt, c_ge, c_es, c_ns, c_ei, c_ni, c_eb, c_nb, c_nt, c_in, xt_0, xt_1, xt_2, xt_3, xl_0, xl_1, xl_2, xl_3, n_ll, n_lt, n_ld, n_tl, n_tt, n_dl, n_dt, n_ab, n_ib, n_ii, n_dd, n_rt, n_rl, n_g1, n_g2, q_0, q_1, q_2, q_3, q_4, q_5, q_6, q_7, q_8, al_0, al_1, al_2, al_3, ift, ifT, ifF, ifx, is_l, pw_a, pw_b, pw_c, pw_d, o_mul, o_fd, o_mod, o_pow, List.map_cons, List.map_nil, List.replicate, List.cons_append, List.nil_append, Bool.not_true, Bool.not_false, Bool.and_true, Bool.true_and, Bool.and_false, Bool.false_and, Bool.or_false, Bool.false_or, Bool.or_true, Bool.true_or, Nat.reduceBEq, Nat.reduceSub, List.all_cons, List.all_nil, decide_eq_true c5, e4, na, ds_map, List.map_append]
          · refine ⟨_, .inl ?_, ts, c, r', .v (.int (0 + i)), rfl, .inr ⟨_, rfl⟩, h1, h2, h3, h4, h5, h6, by omega⟩
            rcases hs with rfl | ⟨j, rfl⟩ <;> simp only [forB, b__law_term_f11, v_bind, v_of, v_need, v_ct, v_cf, v_only, v_toF, f_thn, f_thr, f_thb, f_thc, f_of, f_ct, f_cf, rs_v, rs_n, rs_l, sl_o, rl_n, rl_c, rl_k, g_0, g_s, st_0, st_s, lk_v, lk_o, fz_v, fz_n, fz_l, fz_o, fs_n, fs_c, vl_int, vl_str, vl_bl, vl_tup, vl_lst, vl_dic, vl_non, vl_glo, bv_s, or_ok, or_nl, or_nd, tv_bl, tv_int, tv_non, tv_lst, tv_tup, ag_v, ag_n, ag_l, ag_o, as_n, as_c, as_k, nd_n, nd_v, nd_w, nd_l, li_n, li_v, li_w, li_l, pb_n, pb_v, pb_w, pb_l, pb_o, bk_o, cl_r, ps_e, ps_n, ps_v, ps_o, pd_e, no_int, no_str, no_bl, no_tup, no_lst, no_dic, no_non, no_glo, av_n, av_c, av_k, ag1, ag2, wp_n, wp_c, ro_n, ro_c, gd_0, gd_s, mn_n, mn_c, ti_v, ti_t, tn_0, tn_1, hv_l, hv_t, hv_s, hv_n, hv_o, hc_m, hc_l, hl_l, hl_n, hl_o, fr_n, fr_s, fr_o, ed_v, gw_l, gw_o, mt_a, mt_p, mt_r, mt_j, mt_i, mt_1, mt_2, mt_e, ex_l, mk_j, mk_1, mk_2, mk_a, mk_e, mk_p, mk_r, mk_i, vs_n, vs_c, om_s, sv_e, sv_l, sv_d, ky_s, ky_i, sr_v, sr_n, rt_n, rt_v, rt_w, rt_l, rt_o, pr_0, pr_v, pr_n, pr_o, pr_f, e_k, e_v, e_g, e_tup, e_lst, e_bin, e_neg, ng_i, e_cmp, e_chain, e_and, e_or, e_not, e_ite, e_int1, in_i, e_ix, e_sl, sc_v, e_isi, e_call, e_callv, gl_c, e_callk, e_fz, e_gc, e_maxd, mx_c, e_sset, ss_c, e_dnew, e_disp, e_items, it_d, e_rvs, rv_l, e_blt, e_mth, e_lc, e_lc2, e_nil, e_cons, t_nil, t_cons, i_seq, i_rng1, rg_1, i_rng2, rg_2, i_enum, i_rev, s_expr, s_ret, s_retN, s_set, s_unp, un_t, s_star, s_seti, s_aug, au_1, au_2, au_a, au_s, s_ite, t_e, s_for, s_while, s_pass, s_cont, s_brk, s_nil, s_cons, fe_n, fe_b, fe_r, fe_s, o_add, o_sub, o_cat, o_lst, o_tup, c_lt, c_le, c_gt, c_ge, c_es, c_ns, c_ei, c_ni, c_eb, c_nb, c_nt, c_in, xt_0, xt_1, xt_2, xt_3, xl_0, xl_1, xl_2, xl_3, n_ll, n_lt, n_ld, n_tl, n_tt, n_dl, n_dt, n_ab, n_ib, n_ii, n_dd, n_rt, n_rl, n_g1, n_g2, q_0, q_1, q_2, q_3, q_4, q_5, q_6, q_7, q_8, al_0, al_1, al_2, al_3, ift, ifT, ifF, ifx, is_l, pw_a, pw_b, pw_c, pw_d, o_mul, o_fd, o_mod, o_pow, List.map_cons, List.map_nil, List.replicate, List.cons_append, List.nil_append, Bool.not_true, Bool.not_false, Bool.and_true, Bool.true_and, Bool.and_false, Bool.false_and, Bool.or_false, Bool.false_or, Bool.or_true, Bool.true_or, Nat.reduceBEq, Nat.reduceSub, List.all_cons, List.all_nil, decide_eq_false c5])
        rw [rngD_len] at h7
        obtain ⟨w, p3, e5, P3, L⟩ := word_ok (k := k) (W := W) h5 (by omega)
        refine ⟨.of w ts, p3, r', ?_, by rw [Tm.low]; exact ⟨L, h1⟩, by rw [Tm.h]; omega, by rw [Tm.n]; omega, fun _ => h4, P3.mono (by rw [Tm.n]; omega), (fun z => by rw [Tm.full]; exact h6 z), by rw [Tm.n]; omega⟩
        rw [e]
        simp only [d__law_term, b__law_term, v_bind, v_of, v_need, v_ct, v_cf, v_only, v_toF, f_thn, f_thr, f_thb, f_thc, f_of, f_ct, f_cf, rs_v, rs_n, rs_l, sl_o, rl_n, rl_c, rl_k, g_0, g_s, st_0, st_s, lk_v, lk_o, fz_v, fz_n, fz_l, fz_o, fs_n, fs_c, vl_int, vl_str, vl_bl, vl_tup, vl_lst, vl_dic, vl_non, vl_glo, bv_s, or_ok, or_nl, or_nd, tv_bl, tv_int, tv_non, tv_lst, tv_tup, ag_v, ag_n, ag_l, ag_o, as_n, as_c, as_k, nd_n, nd_v, nd_w, nd_l, li_n, li_v, li_w, li_l, pb_n, pb_v, pb_w, pb_l, pb_o, bk_o, cl_r, ps_e, ps_n, ps_v, ps_o, pd_e, no_int, no_str, no_bl, no_tup, no_lst, no_dic, no_non, no_glo, av_n, av_c, av_k, ag1, ag2, wp_n, wp_c, ro_n, ro_c, gd_0, gd_s, mn_n, mn_c, ti_v, ti_t, tn_0, tn_1, hv_l, hv_t, hv_s, hv_n, hv_o, hc_m, hc_l, hl_l, hl_n, hl_o, fr_n, fr_s, fr_o, ed_v, gw_l, gw_o, mt_a, mt_p, mt_r, mt_j, mt_i, mt_1, mt_2, mt_e, ex_l, mk_j, mk_1, mk_2, mk_a, mk_e, mk_p, mk_r, mk_i, vs_n, vs_c, om_s, sv_e, sv_l, sv_d, ky_s, ky_i, sr_v, sr_n, rt_n, rt_v, rt_w, rt_l, rt_o, pr_0, pr_v, pr_n, pr_o, pr_f, e_k, e_v, e_g, e_tup, e_lst, e_bin, e_neg, ng_i, e_cmp, e_chain, e_and, e_or, e_not, e_ite, e_int1, in_i, e_ix, e_sl, sc_v, e_isi, e_call, e_callv, gl_c, e_callk, e_fz, e_gc, e_maxd, mx_c, e_sset, ss_c, e_dnew, e_disp, e_items, it_d, e_rvs, rv_l, e_blt, e_mth, e_lc, e_lc2, e_nil, e_cons, t_nil, t_cons, i_seq, i_rng1, rg_1, i_rng2, rg_2, i_enum, i_rev, s_expr, s_ret, s_retN, s_set, s_unp, un_t, s_star, s_seti, s_aug, au_1, au_2, au_a, au_s, s_ite, t_e, s_for, s_while, s_pass, s_cont, s_brk, s_nil, s_cons, fe_n, fe_b, fe_r, fe_s, o_add, o_sub, o_cat, o_lst, o_tup, c_lt, c_le, c_gt, c_ge, c_es, c_ns, c_ei, c_ni, c_eb, c_nb, c_nt, c_in, xt_0, xt_1, xt_2, xt_3, xl_0, xl_1, xl_2, xl_3, n_ll, n_lt, n_ld, n_tl, n_tt, n_dl, n_dt, n_ab, n_ib, n_ii, n_dd, n_rt, n_rl, n_g1, n_g2, q_0, q_1, q_2, q_3, q_4, q_5, q_6, q_7, q_8, al_0, al_1, al_2, al_3, ift, ifT, ifF, ifx, is_l, pw_a, pw_b, pw_c, pw_d, o_mul, o_fd, o_mod, o_pow, List.map_cons, List.map_nil, List.replicate, List.cons_append, List.nil_append, Bool.not_true, Bool.not_false, Bool.and_true, Bool.true_and, Bool.and_false, Bool.false_and, Bool.or_false, Bool.false_or, Bool.or_true, Bool.true_or, Nat.reduceBEq, Nat.reduceSub, List.all_cons, List.all_nil, e1, decide_eq_false c1, decide_eq_false c2, c3, decide_eq_false c4, e2, n1, ey, e5, List.set, Tm.d]

/-! ### the pen made -/
theorem pen_ok {k W : Nat} {ns : List Int} (h : ns.length ≤ 63) : callV T.prog W (k + 1) "_law_pen" [.v (.scr ns)] = .ok (.new (.lst [.lst (ns.map .int), .int 0, .int 0])) [] := by
  have e : callV T.prog W (k + 1) "_law_pen" _ = _ := call_defV (T := T) ok (d := d__law_pen) (by unfold T; simp) (k := k) (W := W) (sls := [.v (.scr ns)]) rfl
  rw [e]
  have t1 : turnsV (lcT (callV T.prog W k) c__law_pen_0 [1] (.v 1) .nil) (ns.map .int) [.v (.scr ns), .no] = .ok (ns.map .int) [.v (.scr ns), .no] :=
    turns_one D.int D.int fun x _ => by simp only [lcT, c__law_pen_0, v_bind, v_of, v_need, v_ct, v_cf, v_only, v_toF, f_thn, f_thr, f_thb, f_thc, f_of, f_ct, f_cf, rs_v, rs_n, rs_l, sl_o, rl_n, rl_c, rl_k, g_0, g_s, st_0, st_s, lk_v, lk_o, fz_v, fz_n, fz_l, fz_o, fs_n, fs_c, vl_int, vl_str, vl_bl, vl_tup, vl_lst, vl_dic, vl_non, vl_glo, bv_s, or_ok, or_nl, or_nd, tv_bl, tv_int, tv_non, tv_lst, tv_tup, ag_v, ag_n, ag_l, ag_o, as_n, as_c, as_k, nd_n, nd_v, nd_w, nd_l, li_n, li_v, li_w, li_l, pb_n, pb_v, pb_w, pb_l, pb_o, bk_o, cl_r, ps_e, ps_n, ps_v, ps_o, pd_e, no_int, no_str, no_bl, no_tup, no_lst, no_dic, no_non, no_glo, av_n, av_c, av_k, ag1, ag2, wp_n, wp_c, ro_n, ro_c, gd_0, gd_s, mn_n, mn_c, ti_v, ti_t, tn_0, tn_1, hv_l, hv_t, hv_s, hv_n, hv_o, hc_m, hc_l, hl_l, hl_n, hl_o, fr_n, fr_s, fr_o, ed_v, gw_l, gw_o, mt_a, mt_p, mt_r, mt_j, mt_i, mt_1, mt_2, mt_e, ex_l, mk_j, mk_1, mk_2, mk_a, mk_e, mk_p, mk_r, mk_i, vs_n, vs_c, om_s, sv_e, sv_l, sv_d, ky_s, ky_i, sr_v, sr_n, rt_n, rt_v, rt_w, rt_l, rt_o, pr_0, pr_v, pr_n, pr_o, pr_f, e_k, e_v, e_g, e_tup, e_lst, e_bin, e_neg, ng_i, e_cmp, e_chain, e_and, e_or, e_not, e_ite, e_int1, in_i, e_ix, e_sl, sc_v, e_isi, e_call, e_callv, gl_c, e_callk, e_fz, e_gc, e_maxd, mx_c, e_sset, ss_c, e_dnew, e_disp, e_items, it_d, e_rvs, rv_l, e_blt, e_mth, e_lc, e_lc2, e_nil, e_cons, t_nil, t_cons, i_seq, i_rng1, rg_1, i_rng2, rg_2, i_enum, i_rev, s_expr, s_ret, s_retN, s_set, s_unp, un_t, s_star, s_seti, s_aug, au_1, au_2, au_a, au_s, s_ite, t_e, s_for, s_while, s_pass, s_cont, s_brk, s_nil, s_cons, fe_n, fe_b, fe_r, fe_s, o_add, o_sub, o_cat, o_lst, o_tup, c_lt, c_le, c_gt, c_ge, c_es, c_ns, c_ei, c_ni, c_eb, c_nb, c_nt, c_in, xt_0, xt_1, xt_2, xt_3, xl_0, xl_1, xl_2, xl_3, n_ll, n_lt, n_ld, n_tl, n_tt, n_dl, n_dt, n_ab, n_ib, n_ii, n_dd, n_rt, n_rl, n_g1, n_g2, q_0, q_1, q_2, q_3, q_4, q_5, q_6, q_7, q_8, al_0, al_1, al_2, al_3, ift, ifT, ifF, ifx, is_l, pw_a, pw_b, pw_c, pw_d, o_mul, o_fd, o_mod, o_pow, List.map_cons, List.map_nil, List.replicate, List.cons_append, List.nil_append, Bool.not_true, Bool.not_false, Bool.and_true, Bool.true_and, Bool.and_false, Bool.false_and, Bool.or_false, Bool.false_or, Bool.or_true, Bool.true_or, Nat.reduceBEq, Nat.reduceSub, List.all_cons, List.all_nil]
  have s1 : ∀ ρ, ofR (slV (.scr ns) .non (.int 63) []) ρ = .ok (.new (.lst (ns.map .int))) ρ := by
    intro ρ
    have b2 : bnd ns.length ns.length (.int 63) = some (min 63 ns.length) := rfl
    show ofR (match bnd ns.length 0 .non, bnd ns.length ns.length (.int 63) with | some i, some j => newL (cut (ns.map D.int) i j) [] | _, _ => R.stuck) ρ = _
    rw [b2]
    show ofR (newL (cut (ns.map D.int) 0 (min 63 ns.length)) []) ρ = _
    have : cut (ns.map D.int) 0 (min 63 ns.length) = ns.map D.int := by
      unfold cut
      rw [List.drop_zero, List.take_of_length_le (by rw [List.length_map]; omega)]
    rw [this] <;> rfl
  have nl := fun r => need_len (xs := ns.map D.int) (by rw [List.length_map]; omega) (β := VR) r
  simp only [d__law_pen, b__law_pen, v_bind, v_of, v_need, v_ct, v_cf, v_only, v_toF, f_thn, f_thr, f_thb, f_thc, f_of, f_ct, f_cf, rs_v, rs_n, rs_l, sl_o, rl_n, rl_c, rl_k, g_0, g_s, st_0, st_s, lk_v, lk_o, fz_v, fz_n, fz_l, fz_o, fs_n, fs_c, vl_int, vl_str, vl_bl, vl_tup, vl_lst, vl_dic, vl_non, vl_glo, bv_s, or_ok, or_nl, or_nd, tv_bl, tv_int, tv_non, tv_lst, tv_tup, ag_v, ag_n, ag_l, ag_o, as_n, as_c, as_k, nd_n, nd_v, nd_w, nd_l, li_n, li_v, li_w, li_l, pb_n, pb_v, pb_w, pb_l, pb_o, bk_o, cl_r, ps_e, ps_n, ps_v, ps_o, pd_e, no_int, no_str, no_bl, no_tup, no_lst, no_dic, no_non, no_glo, av_n, av_c, av_k, ag1, ag2, wp_n, wp_c, ro_n, ro_c, gd_0, gd_s, mn_n, mn_c, ti_v, ti_t, tn_0, tn_1, hv_l, hv_t, hv_s, hv_n, hv_o, hc_m, hc_l, hl_l, hl_n, hl_o, fr_n, fr_s, fr_o, ed_v, gw_l, gw_o, mt_a, mt_p, mt_r, mt_j, mt_i, mt_1, mt_2, mt_e, ex_l, mk_j, mk_1, mk_2, mk_a, mk_e, mk_p, mk_r, mk_i, vs_n, vs_c, om_s, sv_e, sv_l, sv_d, ky_s, ky_i, sr_v, sr_n, rt_n, rt_v, rt_w, rt_l, rt_o, pr_0, pr_v, pr_n, pr_o, pr_f, e_k, e_v, e_g, e_tup, e_lst, e_bin, e_neg, ng_i, e_cmp, e_chain, e_and, e_or, e_not, e_ite, e_int1, in_i, e_ix, e_sl, sc_v, e_isi, e_call, e_callv, gl_c, e_callk, e_fz, e_gc, e_maxd, mx_c, e_sset, ss_c, e_dnew, e_disp, e_items, it_d, e_rvs, rv_l, e_blt, e_mth, e_lc, e_lc2, e_nil, e_cons, t_nil, t_cons, i_seq, i_rng1, rg_1, i_rng2, rg_2, i_enum, i_rev, s_expr, s_ret, s_retN, s_set, s_unp, un_t, s_star, s_seti, s_aug, au_1, au_2, au_a, au_s, s_ite, t_e, s_for, s_while, s_pass, s_cont, s_brk, s_nil, s_cons, fe_n, fe_b, fe_r, fe_s, o_add, o_sub, o_cat, o_lst, o_tup, c_lt, c_le, c_gt, c_ge, c_es, c_ns, c_ei, c_ni, c_eb, c_nb, c_nt, c_in, xt_0, xt_1, xt_2, xt_3, xl_0, xl_1, xl_2, xl_3, n_ll, n_lt, n_ld, n_tl, n_tt, n_dl, n_dt, n_ab, n_ib, n_ii, n_dd, n_rt, n_rl, n_g1, n_g2, q_0, q_1, q_2, q_3, q_4, q_5, q_6, q_7, q_8, al_0, al_1, al_2, al_3, ift, ifT, ifF, ifx, is_l, pw_a, pw_b, pw_c, pw_d, o_mul, o_fd, o_mod, o_pow, List.map_cons, List.map_nil, List.replicate, List.cons_append, List.nil_append, Bool.not_true, Bool.not_false, Bool.and_true, Bool.true_and, Bool.and_false, Bool.false_and, Bool.or_false, Bool.false_or, Bool.or_true, Bool.true_or, Nat.reduceBEq, Nat.reduceSub, List.all_cons, List.all_nil, s1, t1, nl]
theorem pen_pn {ns : List Int} (h : ns.length ≤ 63) : Pn (.lst [.lst (ns.map .int), .int 0, .int 0]) 0 := ⟨ns, 0, 0, rfl, by decide, by decide, by decide, h⟩

/-! ### the words that stand in a term -/
def has (s : Str) (ws : List Str) : Bool := ws.any (· == s)
mutual
def stand (nm : Bool) (bd : List Str) : Tm → List Str
  | .hole s => if nm then [] else (if has s bd then [] else [s])
  | .name s => if nm then (if has s bd then [] else [s]) else []
  | .of _ ts => stands nm bd ts
  | .bind _ n t => stand nm (if nm then bd ++ [n] else bd) t
def stands (nm : Bool) (bd : List Str) : List Tm → List Str
  | [] => []
  | t :: ts => stand nm bd t ++ stands nm bd ts
end
theorem stands_flat {nm : Bool} {bd : List Str} : ∀ ts : List Tm, stands nm bd ts = ts.flatMap (stand nm bd)
  | [] => by rw [stands] <;> rfl
  | t :: ts => by rw [stands, stands_flat ts] <;> rfl
def kd (nm : Bool) : Str := if nm then "name" else "hole"
theorem any_map {s : Str} : ∀ ws : List Str, (ws.map D.str).any (fun z => eqD z (.str s)) = has s ws
  | [] => rfl
  | w :: ws => by rw [List.map_cons, List.any_cons, any_map ws] <;> rfl
theorem flat_map : ∀ ws : List Str, (ws.map D.str).all D.flat = true
  | [] => rfl
  | w :: ws => by rw [List.map_cons, List.all_cons, flat_map ws] <;> rfl
theorem in_strs {s : Str} {ws : List Str} : inV (.str s) (.lst (ws.map .str)) = some (has s ws) := by
  show (if (D.str s).flat && (ws.map D.str).all D.flat then some _ else _) = _
  rw [flat_map, any_map] <;> rfl
theorem o_rep {x : D} {b : Bool} {ρ : VE} : ofR (binV .mul (.lst [x]) (.int (if b then 1 else 0)) []) ρ = .ok (.new (.lst (if b then [x] else []))) ρ := by cases b <;> rfl
mutual
theorem stand_le {nm : Bool} : ∀ (t : Tm) (bd : List Str), (stand nm bd t).length ≤ t.n
  | .hole s, bd => by rw [stand, Tm.n]; split <;> (try split) <;> simp
  | .name s, bd => by rw [stand, Tm.n]; split <;> (try split) <;> simp
  | .of w ts, bd => by have := stands_le (nm := nm) ts bd; rw [stand, Tm.n]; omega
  | .bind w n t, bd => by have := stand_le (nm := nm) t (if nm then bd ++ [n] else bd); rw [stand, Tm.n]; omega
theorem stands_le {nm : Bool} : ∀ (ts : List Tm) (bd : List Str), (stands nm bd ts).length ≤ Tm.ns ts
  | [], bd => by rw [stands]; simp
  | t :: ts, bd => by have := stand_le (nm := nm) t bd; have := stands_le (nm := nm) ts bd; rw [stands, Tm.ns, List.length_append]; omega
end
section
variable {W : Nat}
theorem parts_ok {k : Nat} {t : Tm} : callV T.prog W (k + 1) "parts_of" [.v t.d] = .ok (.v (.tup (t.kids.map Tm.d))) [] := by
  have e : callV T.prog W (k + 1) "parts_of" _ = _ := call_defV (T := T) ok (d := d_parts_of) (by unfold T; simp) (k := k) (W := W) (sls := [.v t.d]) rfl
  rw [e]
  cases t with
  | hole s => simp only [d_parts_of, b_parts_of, Tm.d, Tm.kids, v_bind, v_of, v_need, v_ct, v_cf, v_only, v_toF, f_thn, f_thr, f_thb, f_thc, f_of, f_ct, f_cf, rs_v, rs_n, rs_l, sl_o, rl_n, rl_c, rl_k, g_0, g_s, st_0, st_s, lk_v, lk_o, fz_v, fz_n, fz_l, fz_o, fs_n, fs_c, vl_int, vl_str, vl_bl, vl_tup, vl_lst, vl_dic, vl_non, vl_glo, bv_s, or_ok, or_nl, or_nd, tv_bl, tv_int, tv_non, tv_lst, tv_tup, ag_v, ag_n, ag_l, ag_o, as_n, as_c, as_k, nd_n, nd_v, nd_w, nd_l, li_n, li_v, li_w, li_l, pb_n, pb_v, pb_w, pb_l, pb_o, bk_o, cl_r, ps_e, ps_n, ps_v, ps_o, pd_e, no_int, no_str, no_bl, no_tup, no_lst, no_dic, no_non, no_glo, av_n, av_c, av_k, ag1, ag2, wp_n, wp_c, ro_n, ro_c, gd_0, gd_s, mn_n, mn_c, ti_v, ti_t, tn_0, tn_1, hv_l, hv_t, hv_s, hv_n, hv_o, hc_m, hc_l, hl_l, hl_n, hl_o, fr_n, fr_s, fr_o, ed_v, gw_l, gw_o, mt_a, mt_p, mt_r, mt_j, mt_i, mt_1, mt_2, mt_e, ex_l, mk_j, mk_1, mk_2, mk_a, mk_e, mk_p, mk_r, mk_i, vs_n, vs_c, om_s, sv_e, sv_l, sv_d, ky_s, ky_i, sr_v, sr_n, rt_n, rt_v, rt_w, rt_l, rt_o, pr_0, pr_v, pr_n, pr_o, pr_f, e_k, e_v, e_g, e_tup, e_lst, e_bin, e_neg, ng_i, e_cmp, e_chain, e_and, e_or, e_not, e_ite, e_int1, in_i, e_ix, e_sl, sc_v, e_isi, e_call, e_callv, gl_c, e_callk, e_fz, e_gc, e_maxd, mx_c, e_sset, ss_c, e_dnew, e_disp, e_items, it_d, e_rvs, rv_l, e_blt, e_mth, e_lc, e_lc2, e_nil, e_cons, t_nil, t_cons, i_seq, i_rng1, rg_1, i_rng2, rg_2, i_enum, i_rev, s_expr, s_ret, s_retN, s_set, s_unp, un_t, s_star, s_seti, s_aug, au_1, au_2, au_a, au_s, s_ite, t_e, s_for, s_while, s_pass, s_cont, s_brk, s_nil, s_cons, fe_n, fe_b, fe_r, fe_s, o_add, o_sub, o_cat, o_lst, o_tup, c_lt, c_le, c_gt, c_ge, c_es, c_ns, c_ei, c_ni, c_eb, c_nb, c_nt, c_in, xt_0, xt_1, xt_2, xt_3, xl_0, xl_1, xl_2, xl_3, n_ll, n_lt, n_ld, n_tl, n_tt, n_dl, n_dt, n_ab, n_ib, n_ii, n_dd, n_rt, n_rl, n_g1, n_g2, q_0, q_1, q_2, q_3, q_4, q_5, q_6, q_7, q_8, al_0, al_1, al_2, al_3, ift, ifT, ifF, ifx, is_l, pw_a, pw_b, pw_c, pw_d, o_mul, o_fd, o_mod, o_pow, List.map_cons, List.map_nil, List.replicate, List.cons_append, List.nil_append, Bool.not_true, Bool.not_false, Bool.and_true, Bool.true_and, Bool.and_false, Bool.false_and, Bool.or_false, Bool.false_or, Bool.or_true, Bool.true_or, Nat.reduceBEq, Nat.reduceSub, List.all_cons, List.all_nil, s_ho, s_hb]
  | name s => simp only [d_parts_of, b_parts_of, Tm.d, Tm.kids, v_bind, v_of, v_need, v_ct, v_cf, v_only, v_toF, f_thn, f_thr, f_thb, f_thc, f_of, f_ct, f_cf, rs_v, rs_n, rs_l, sl_o, rl_n, rl_c, rl_k, g_0, g_s, st_0, st_s, lk_v, lk_o, fz_v, fz_n, fz_l, fz_o, fs_n, fs_c, vl_int, vl_str, vl_bl, vl_tup, vl_lst, vl_dic, vl_non, vl_glo, bv_s, or_ok, or_nl, or_nd, tv_bl, tv_int, tv_non, tv_lst, tv_tup, ag_v, ag_n, ag_l, ag_o, as_n, as_c, as_k, nd_n, nd_v, nd_w, nd_l, li_n, li_v, li_w, li_l, pb_n, pb_v, pb_w, pb_l, pb_o, bk_o, cl_r, ps_e, ps_n, ps_v, ps_o, pd_e, no_int, no_str, no_bl, no_tup, no_lst, no_dic, no_non, no_glo, av_n, av_c, av_k, ag1, ag2, wp_n, wp_c, ro_n, ro_c, gd_0, gd_s, mn_n, mn_c, ti_v, ti_t, tn_0, tn_1, hv_l, hv_t, hv_s, hv_n, hv_o, hc_m, hc_l, hl_l, hl_n, hl_o, fr_n, fr_s, fr_o, ed_v, gw_l, gw_o, mt_a, mt_p, mt_r, mt_j, mt_i, mt_1, mt_2, mt_e, ex_l, mk_j, mk_1, mk_2, mk_a, mk_e, mk_p, mk_r, mk_i, vs_n, vs_c, om_s, sv_e, sv_l, sv_d, ky_s, ky_i, sr_v, sr_n, rt_n, rt_v, rt_w, rt_l, rt_o, pr_0, pr_v, pr_n, pr_o, pr_f, e_k, e_v, e_g, e_tup, e_lst, e_bin, e_neg, ng_i, e_cmp, e_chain, e_and, e_or, e_not, e_ite, e_int1, in_i, e_ix, e_sl, sc_v, e_isi, e_call, e_callv, gl_c, e_callk, e_fz, e_gc, e_maxd, mx_c, e_sset, ss_c, e_dnew, e_disp, e_items, it_d, e_rvs, rv_l, e_blt, e_mth, e_lc, e_lc2, e_nil, e_cons, t_nil, t_cons, i_seq, i_rng1, rg_1, i_rng2, rg_2, i_enum, i_rev, s_expr, s_ret, s_retN, s_set, s_unp, un_t, s_star, s_seti, s_aug, au_1, au_2, au_a, au_s, s_ite, t_e, s_for, s_while, s_pass, s_cont, s_brk, s_nil, s_cons, fe_n, fe_b, fe_r, fe_s, o_add, o_sub, o_cat, o_lst, o_tup, c_lt, c_le, c_gt, c_ge, c_es, c_ns, c_ei, c_ni, c_eb, c_nb, c_nt, c_in, xt_0, xt_1, xt_2, xt_3, xl_0, xl_1, xl_2, xl_3, n_ll, n_lt, n_ld, n_tl, n_tt, n_dl, n_dt, n_ab, n_ib, n_ii, n_dd, n_rt, n_rl, n_g1, n_g2, q_0, q_1, q_2, q_3, q_4, q_5, q_6, q_7, q_8, al_0, al_1, al_2, al_3, ift, ifT, ifF, ifx, is_l, pw_a, pw_b, pw_c, pw_d, o_mul, o_fd, o_mod, o_pow, List.map_cons, List.map_nil, List.replicate, List.cons_append, List.nil_append, Bool.not_true, Bool.not_false, Bool.and_true, Bool.true_and, Bool.and_false, Bool.false_and, Bool.or_false, Bool.false_or, Bool.or_true, Bool.true_or, Nat.reduceBEq, Nat.reduceSub, List.all_cons, List.all_nil, s_no, s_nb]
  | of w ts => simp only [d_parts_of, b_parts_of, Tm.d, Tm.kids, v_bind, v_of, v_need, v_ct, v_cf, v_only, v_toF, f_thn, f_thr, f_thb, f_thc, f_of, f_ct, f_cf, rs_v, rs_n, rs_l, sl_o, rl_n, rl_c, rl_k, g_0, g_s, st_0, st_s, lk_v, lk_o, fz_v, fz_n, fz_l, fz_o, fs_n, fs_c, vl_int, vl_str, vl_bl, vl_tup, vl_lst, vl_dic, vl_non, vl_glo, bv_s, or_ok, or_nl, or_nd, tv_bl, tv_int, tv_non, tv_lst, tv_tup, ag_v, ag_n, ag_l, ag_o, as_n, as_c, as_k, nd_n, nd_v, nd_w, nd_l, li_n, li_v, li_w, li_l, pb_n, pb_v, pb_w, pb_l, pb_o, bk_o, cl_r, ps_e, ps_n, ps_v, ps_o, pd_e, no_int, no_str, no_bl, no_tup, no_lst, no_dic, no_non, no_glo, av_n, av_c, av_k, ag1, ag2, wp_n, wp_c, ro_n, ro_c, gd_0, gd_s, mn_n, mn_c, ti_v, ti_t, tn_0, tn_1, hv_l, hv_t, hv_s, hv_n, hv_o, hc_m, hc_l, hl_l, hl_n, hl_o, fr_n, fr_s, fr_o, ed_v, gw_l, gw_o, mt_a, mt_p, mt_r, mt_j, mt_i, mt_1, mt_2, mt_e, ex_l, mk_j, mk_1, mk_2, mk_a, mk_e, mk_p, mk_r, mk_i, vs_n, vs_c, om_s, sv_e, sv_l, sv_d, ky_s, ky_i, sr_v, sr_n, rt_n, rt_v, rt_w, rt_l, rt_o, pr_0, pr_v, pr_n, pr_o, pr_f, e_k, e_v, e_g, e_tup, e_lst, e_bin, e_neg, ng_i, e_cmp, e_chain, e_and, e_or, e_not, e_ite, e_int1, in_i, e_ix, e_sl, sc_v, e_isi, e_call, e_callv, gl_c, e_callk, e_fz, e_gc, e_maxd, mx_c, e_sset, ss_c, e_dnew, e_disp, e_items, it_d, e_rvs, rv_l, e_blt, e_mth, e_lc, e_lc2, e_nil, e_cons, t_nil, t_cons, i_seq, i_rng1, rg_1, i_rng2, rg_2, i_enum, i_rev, s_expr, s_ret, s_retN, s_set, s_unp, un_t, s_star, s_seti, s_aug, au_1, au_2, au_a, au_s, s_ite, t_e, s_for, s_while, s_pass, s_cont, s_brk, s_nil, s_cons, fe_n, fe_b, fe_r, fe_s, o_add, o_sub, o_cat, o_lst, o_tup, c_lt, c_le, c_gt, c_ge, c_es, c_ns, c_ei, c_ni, c_eb, c_nb, c_nt, c_in, xt_0, xt_1, xt_2, xt_3, xl_0, xl_1, xl_2, xl_3, n_ll, n_lt, n_ld, n_tl, n_tt, n_dl, n_dt, n_ab, n_ib, n_ii, n_dd, n_rt, n_rl, n_g1, n_g2, q_0, q_1, q_2, q_3, q_4, q_5, q_6, q_7, q_8, al_0, al_1, al_2, al_3, ift, ifT, ifF, ifx, is_l, pw_a, pw_b, pw_c, pw_d, o_mul, o_fd, o_mod, o_pow, List.map_cons, List.map_nil, List.replicate, List.cons_append, List.nil_append, Bool.not_true, Bool.not_false, Bool.and_true, Bool.true_and, Bool.and_false, Bool.false_and, Bool.or_false, Bool.false_or, Bool.or_true, Bool.true_or, Nat.reduceBEq, Nat.reduceSub, List.all_cons, List.all_nil, s_oo, ds_map]
  | bind w n t => simp only [d_parts_of, b_parts_of, Tm.d, Tm.kids, v_bind, v_of, v_need, v_ct, v_cf, v_only, v_toF, f_thn, f_thr, f_thb, f_thc, f_of, f_ct, f_cf, rs_v, rs_n, rs_l, sl_o, rl_n, rl_c, rl_k, g_0, g_s, st_0, st_s, lk_v, lk_o, fz_v, fz_n, fz_l, fz_o, fs_n, fs_c, vl_int, vl_str, vl_bl, vl_tup, vl_lst, vl_dic, vl_non, vl_glo, bv_s, or_ok, or_nl, or_nd, tv_bl, tv_int, tv_non, tv_lst, tv_tup, ag_v, ag_n, ag_l, ag_o, as_n, as_c, as_k, nd_n, nd_v, nd_w, nd_l, li_n, li_v, li_w, li_l, pb_n, pb_v, pb_w, pb_l, pb_o, bk_o, cl_r, ps_e, ps_n, ps_v, ps_o, pd_e, no_int, no_str, no_bl, no_tup, no_lst, no_dic, no_non, no_glo, av_n, av_c, av_k, ag1, ag2, wp_n, wp_c, ro_n, ro_c, gd_0, gd_s, mn_n, mn_c, ti_v, ti_t, tn_0, tn_1, hv_l, hv_t, hv_s, hv_n, hv_o, hc_m, hc_l, hl_l, hl_n, hl_o, fr_n, fr_s, fr_o, ed_v, gw_l, gw_o, mt_a, mt_p, mt_r, mt_j, mt_i, mt_1, mt_2, mt_e, ex_l, mk_j, mk_1, mk_2, mk_a, mk_e, mk_p, mk_r, mk_i, vs_n, vs_c, om_s, sv_e, sv_l, sv_d, ky_s, ky_i, sr_v, sr_n, rt_n, rt_v, rt_w, rt_l, rt_o, pr_0, pr_v, pr_n, pr_o, pr_f, e_k, e_v, e_g, e_tup, e_lst, e_bin, e_neg, ng_i, e_cmp, e_chain, e_and, e_or, e_not, e_ite, e_int1, in_i, e_ix, e_sl, sc_v, e_isi, e_call, e_callv, gl_c, e_callk, e_fz, e_gc, e_maxd, mx_c, e_sset, ss_c, e_dnew, e_disp, e_items, it_d, e_rvs, rv_l, e_blt, e_mth, e_lc, e_lc2, e_nil, e_cons, t_nil, t_cons, i_seq, i_rng1, rg_1, i_rng2, rg_2, i_enum, i_rev, s_expr, s_ret, s_retN, s_set, s_unp, un_t, s_star, s_seti, s_aug, au_1, au_2, au_a, au_s, s_ite, t_e, s_for, s_while, s_pass, s_cont, s_brk, s_nil, s_cons, fe_n, fe_b, fe_r, fe_s, o_add, o_sub, o_cat, o_lst, o_tup, c_lt, c_le, c_gt, c_ge, c_es, c_ns, c_ei, c_ni, c_eb, c_nb, c_nt, c_in, xt_0, xt_1, xt_2, xt_3, xl_0, xl_1, xl_2, xl_3, n_ll, n_lt, n_ld, n_tl, n_tt, n_dl, n_dt, n_ab, n_ib, n_ii, n_dd, n_rt, n_rl, n_g1, n_g2, q_0, q_1, q_2, q_3, q_4, q_5, q_6, q_7, q_8, al_0, al_1, al_2, al_3, ift, ifT, ifF, ifx, is_l, pw_a, pw_b, pw_c, pw_d, o_mul, o_fd, o_mod, o_pow, List.map_cons, List.map_nil, List.replicate, List.cons_append, List.nil_append, Bool.not_true, Bool.not_false, Bool.and_true, Bool.true_and, Bool.and_false, Bool.false_and, Bool.or_false, Bool.false_or, Bool.or_true, Bool.true_or, Nat.reduceBEq, Nat.reduceSub, List.all_cons, List.all_nil, s_bo, s_bb, vl_tm]
theorem within_ok {k : Nat} {t : Tm} : callV T.prog W (k + 1) "_law_within" [.v t.d] = .ok (.v (.lst (t.kids.map Tm.d))) [] := by
  have e : callV T.prog W (k + 1) "_law_within" _ = _ := call_defV (T := T) ok (d := d__law_within) (by unfold T; simp) (k := k) (W := W) (sls := [.v t.d]) rfl
  rw [e]
  cases t with
  | hole s => simp only [d__law_within, b__law_within, Tm.d, Tm.kids, v_bind, v_of, v_need, v_ct, v_cf, v_only, v_toF, f_thn, f_thr, f_thb, f_thc, f_of, f_ct, f_cf, rs_v, rs_n, rs_l, sl_o, rl_n, rl_c, rl_k, g_0, g_s, st_0, st_s, lk_v, lk_o, fz_v, fz_n, fz_l, fz_o, fs_n, fs_c, vl_int, vl_str, vl_bl, vl_tup, vl_lst, vl_dic, vl_non, vl_glo, bv_s, or_ok, or_nl, or_nd, tv_bl, tv_int, tv_non, tv_lst, tv_tup, ag_v, ag_n, ag_l, ag_o, as_n, as_c, as_k, nd_n, nd_v, nd_w, nd_l, li_n, li_v, li_w, li_l, pb_n, pb_v, pb_w, pb_l, pb_o, bk_o, cl_r, ps_e, ps_n, ps_v, ps_o, pd_e, no_int, no_str, no_bl, no_tup, no_lst, no_dic, no_non, no_glo, av_n, av_c, av_k, ag1, ag2, wp_n, wp_c, ro_n, ro_c, gd_0, gd_s, mn_n, mn_c, ti_v, ti_t, tn_0, tn_1, hv_l, hv_t, hv_s, hv_n, hv_o, hc_m, hc_l, hl_l, hl_n, hl_o, fr_n, fr_s, fr_o, ed_v, gw_l, gw_o, mt_a, mt_p, mt_r, mt_j, mt_i, mt_1, mt_2, mt_e, ex_l, mk_j, mk_1, mk_2, mk_a, mk_e, mk_p, mk_r, mk_i, vs_n, vs_c, om_s, sv_e, sv_l, sv_d, ky_s, ky_i, sr_v, sr_n, rt_n, rt_v, rt_w, rt_l, rt_o, pr_0, pr_v, pr_n, pr_o, pr_f, e_k, e_v, e_g, e_tup, e_lst, e_bin, e_neg, ng_i, e_cmp, e_chain, e_and, e_or, e_not, e_ite, e_int1, in_i, e_ix, e_sl, sc_v, e_isi, e_call, e_callv, gl_c, e_callk, e_fz, e_gc, e_maxd, mx_c, e_sset, ss_c, e_dnew, e_disp, e_items, it_d, e_rvs, rv_l, e_blt, e_mth, e_lc, e_lc2, e_nil, e_cons, t_nil, t_cons, i_seq, i_rng1, rg_1, i_rng2, rg_2, i_enum, i_rev, s_expr, s_ret, s_retN, s_set, s_unp, un_t, s_star, s_seti, s_aug, au_1, au_2, au_a, au_s, s_ite, t_e, s_for, s_while, s_pass, s_cont, s_brk, s_nil, s_cons, fe_n, fe_b, fe_r, fe_s, o_add, o_sub, o_cat, o_lst, o_tup, c_lt, c_le, c_gt, c_ge, c_es, c_ns, c_ei, c_ni, c_eb, c_nb, c_nt, c_in, xt_0, xt_1, xt_2, xt_3, xl_0, xl_1, xl_2, xl_3, n_ll, n_lt, n_ld, n_tl, n_tt, n_dl, n_dt, n_ab, n_ib, n_ii, n_dd, n_rt, n_rl, n_g1, n_g2, q_0, q_1, q_2, q_3, q_4, q_5, q_6, q_7, q_8, al_0, al_1, al_2, al_3, ift, ifT, ifF, ifx, is_l, pw_a, pw_b, pw_c, pw_d, o_mul, o_fd, o_mod, o_pow, List.map_cons, List.map_nil, List.replicate, List.cons_append, List.nil_append, Bool.not_true, Bool.not_false, Bool.and_true, Bool.true_and, Bool.and_false, Bool.false_and, Bool.or_false, Bool.false_or, Bool.or_true, Bool.true_or, Nat.reduceBEq, Nat.reduceSub, List.all_cons, List.all_nil, s_ho, s_hb]
  | name s => simp only [d__law_within, b__law_within, Tm.d, Tm.kids, v_bind, v_of, v_need, v_ct, v_cf, v_only, v_toF, f_thn, f_thr, f_thb, f_thc, f_of, f_ct, f_cf, rs_v, rs_n, rs_l, sl_o, rl_n, rl_c, rl_k, g_0, g_s, st_0, st_s, lk_v, lk_o, fz_v, fz_n, fz_l, fz_o, fs_n, fs_c, vl_int, vl_str, vl_bl, vl_tup, vl_lst, vl_dic, vl_non, vl_glo, bv_s, or_ok, or_nl, or_nd, tv_bl, tv_int, tv_non, tv_lst, tv_tup, ag_v, ag_n, ag_l, ag_o, as_n, as_c, as_k, nd_n, nd_v, nd_w, nd_l, li_n, li_v, li_w, li_l, pb_n, pb_v, pb_w, pb_l, pb_o, bk_o, cl_r, ps_e, ps_n, ps_v, ps_o, pd_e, no_int, no_str, no_bl, no_tup, no_lst, no_dic, no_non, no_glo, av_n, av_c, av_k, ag1, ag2, wp_n, wp_c, ro_n, ro_c, gd_0, gd_s, mn_n, mn_c, ti_v, ti_t, tn_0, tn_1, hv_l, hv_t, hv_s, hv_n, hv_o, hc_m, hc_l, hl_l, hl_n, hl_o, fr_n, fr_s, fr_o, ed_v, gw_l, gw_o, mt_a, mt_p, mt_r, mt_j, mt_i, mt_1, mt_2, mt_e, ex_l, mk_j, mk_1, mk_2, mk_a, mk_e, mk_p, mk_r, mk_i, vs_n, vs_c, om_s, sv_e, sv_l, sv_d, ky_s, ky_i, sr_v, sr_n, rt_n, rt_v, rt_w, rt_l, rt_o, pr_0, pr_v, pr_n, pr_o, pr_f, e_k, e_v, e_g, e_tup, e_lst, e_bin, e_neg, ng_i, e_cmp, e_chain, e_and, e_or, e_not, e_ite, e_int1, in_i, e_ix, e_sl, sc_v, e_isi, e_call, e_callv, gl_c, e_callk, e_fz, e_gc, e_maxd, mx_c, e_sset, ss_c, e_dnew, e_disp, e_items, it_d, e_rvs, rv_l, e_blt, e_mth, e_lc, e_lc2, e_nil, e_cons, t_nil, t_cons, i_seq, i_rng1, rg_1, i_rng2, rg_2, i_enum, i_rev, s_expr, s_ret, s_retN, s_set, s_unp, un_t, s_star, s_seti, s_aug, au_1, au_2, au_a, au_s, s_ite, t_e, s_for, s_while, s_pass, s_cont, s_brk, s_nil, s_cons, fe_n, fe_b, fe_r, fe_s, o_add, o_sub, o_cat, o_lst, o_tup, c_lt, c_le, c_gt, c_ge, c_es, c_ns, c_ei, c_ni, c_eb, c_nb, c_nt, c_in, xt_0, xt_1, xt_2, xt_3, xl_0, xl_1, xl_2, xl_3, n_ll, n_lt, n_ld, n_tl, n_tt, n_dl, n_dt, n_ab, n_ib, n_ii, n_dd, n_rt, n_rl, n_g1, n_g2, q_0, q_1, q_2, q_3, q_4, q_5, q_6, q_7, q_8, al_0, al_1, al_2, al_3, ift, ifT, ifF, ifx, is_l, pw_a, pw_b, pw_c, pw_d, o_mul, o_fd, o_mod, o_pow, List.map_cons, List.map_nil, List.replicate, List.cons_append, List.nil_append, Bool.not_true, Bool.not_false, Bool.and_true, Bool.true_and, Bool.and_false, Bool.false_and, Bool.or_false, Bool.false_or, Bool.or_true, Bool.true_or, Nat.reduceBEq, Nat.reduceSub, List.all_cons, List.all_nil, s_no, s_nb]
  | of w ts => simp only [d__law_within, b__law_within, Tm.d, Tm.kids, v_bind, v_of, v_need, v_ct, v_cf, v_only, v_toF, f_thn, f_thr, f_thb, f_thc, f_of, f_ct, f_cf, rs_v, rs_n, rs_l, sl_o, rl_n, rl_c, rl_k, g_0, g_s, st_0, st_s, lk_v, lk_o, fz_v, fz_n, fz_l, fz_o, fs_n, fs_c, vl_int, vl_str, vl_bl, vl_tup, vl_lst, vl_dic, vl_non, vl_glo, bv_s, or_ok, or_nl, or_nd, tv_bl, tv_int, tv_non, tv_lst, tv_tup, ag_v, ag_n, ag_l, ag_o, as_n, as_c, as_k, nd_n, nd_v, nd_w, nd_l, li_n, li_v, li_w, li_l, pb_n, pb_v, pb_w, pb_l, pb_o, bk_o, cl_r, ps_e, ps_n, ps_v, ps_o, pd_e, no_int, no_str, no_bl, no_tup, no_lst, no_dic, no_non, no_glo, av_n, av_c, av_k, ag1, ag2, wp_n, wp_c, ro_n, ro_c, gd_0, gd_s, mn_n, mn_c, ti_v, ti_t, tn_0, tn_1, hv_l, hv_t, hv_s, hv_n, hv_o, hc_m, hc_l, hl_l, hl_n, hl_o, fr_n, fr_s, fr_o, ed_v, gw_l, gw_o, mt_a, mt_p, mt_r, mt_j, mt_i, mt_1, mt_2, mt_e, ex_l, mk_j, mk_1, mk_2, mk_a, mk_e, mk_p, mk_r, mk_i, vs_n, vs_c, om_s, sv_e, sv_l, sv_d, ky_s, ky_i, sr_v, sr_n, rt_n, rt_v, rt_w, rt_l, rt_o, pr_0, pr_v, pr_n, pr_o, pr_f, e_k, e_v, e_g, e_tup, e_lst, e_bin, e_neg, ng_i, e_cmp, e_chain, e_and, e_or, e_not, e_ite, e_int1, in_i, e_ix, e_sl, sc_v, e_isi, e_call, e_callv, gl_c, e_callk, e_fz, e_gc, e_maxd, mx_c, e_sset, ss_c, e_dnew, e_disp, e_items, it_d, e_rvs, rv_l, e_blt, e_mth, e_lc, e_lc2, e_nil, e_cons, t_nil, t_cons, i_seq, i_rng1, rg_1, i_rng2, rg_2, i_enum, i_rev, s_expr, s_ret, s_retN, s_set, s_unp, un_t, s_star, s_seti, s_aug, au_1, au_2, au_a, au_s, s_ite, t_e, s_for, s_while, s_pass, s_cont, s_brk, s_nil, s_cons, fe_n, fe_b, fe_r, fe_s, o_add, o_sub, o_cat, o_lst, o_tup, c_lt, c_le, c_gt, c_ge, c_es, c_ns, c_ei, c_ni, c_eb, c_nb, c_nt, c_in, xt_0, xt_1, xt_2, xt_3, xl_0, xl_1, xl_2, xl_3, n_ll, n_lt, n_ld, n_tl, n_tt, n_dl, n_dt, n_ab, n_ib, n_ii, n_dd, n_rt, n_rl, n_g1, n_g2, q_0, q_1, q_2, q_3, q_4, q_5, q_6, q_7, q_8, al_0, al_1, al_2, al_3, ift, ifT, ifF, ifx, is_l, pw_a, pw_b, pw_c, pw_d, o_mul, o_fd, o_mod, o_pow, List.map_cons, List.map_nil, List.replicate, List.cons_append, List.nil_append, Bool.not_true, Bool.not_false, Bool.and_true, Bool.true_and, Bool.and_false, Bool.false_and, Bool.or_false, Bool.false_or, Bool.or_true, Bool.true_or, Nat.reduceBEq, Nat.reduceSub, List.all_cons, List.all_nil, s_oo, ds_map]
  | bind w n t => simp only [d__law_within, b__law_within, Tm.d, Tm.kids, v_bind, v_of, v_need, v_ct, v_cf, v_only, v_toF, f_thn, f_thr, f_thb, f_thc, f_of, f_ct, f_cf, rs_v, rs_n, rs_l, sl_o, rl_n, rl_c, rl_k, g_0, g_s, st_0, st_s, lk_v, lk_o, fz_v, fz_n, fz_l, fz_o, fs_n, fs_c, vl_int, vl_str, vl_bl, vl_tup, vl_lst, vl_dic, vl_non, vl_glo, bv_s, or_ok, or_nl, or_nd, tv_bl, tv_int, tv_non, tv_lst, tv_tup, ag_v, ag_n, ag_l, ag_o, as_n, as_c, as_k, nd_n, nd_v, nd_w, nd_l, li_n, li_v, li_w, li_l, pb_n, pb_v, pb_w, pb_l, pb_o, bk_o, cl_r, ps_e, ps_n, ps_v, ps_o, pd_e, no_int, no_str, no_bl, no_tup, no_lst, no_dic, no_non, no_glo, av_n, av_c, av_k, ag1, ag2, wp_n, wp_c, ro_n, ro_c, gd_0, gd_s, mn_n, mn_c, ti_v, ti_t, tn_0, tn_1, hv_l, hv_t, hv_s, hv_n, hv_o, hc_m, hc_l, hl_l, hl_n, hl_o, fr_n, fr_s, fr_o, ed_v, gw_l, gw_o, mt_a, mt_p, mt_r, mt_j, mt_i, mt_1, mt_2, mt_e, ex_l, mk_j, mk_1, mk_2, mk_a, mk_e, mk_p, mk_r, mk_i, vs_n, vs_c, om_s, sv_e, sv_l, sv_d, ky_s, ky_i, sr_v, sr_n, rt_n, rt_v, rt_w, rt_l, rt_o, pr_0, pr_v, pr_n, pr_o, pr_f, e_k, e_v, e_g, e_tup, e_lst, e_bin, e_neg, ng_i, e_cmp, e_chain, e_and, e_or, e_not, e_ite, e_int1, in_i, e_ix, e_sl, sc_v, e_isi, e_call, e_callv, gl_c, e_callk, e_fz, e_gc, e_maxd, mx_c, e_sset, ss_c, e_dnew, e_disp, e_items, it_d, e_rvs, rv_l, e_blt, e_mth, e_lc, e_lc2, e_nil, e_cons, t_nil, t_cons, i_seq, i_rng1, rg_1, i_rng2, rg_2, i_enum, i_rev, s_expr, s_ret, s_retN, s_set, s_unp, un_t, s_star, s_seti, s_aug, au_1, au_2, au_a, au_s, s_ite, t_e, s_for, s_while, s_pass, s_cont, s_brk, s_nil, s_cons, fe_n, fe_b, fe_r, fe_s, o_add, o_sub, o_cat, o_lst, o_tup, c_lt, c_le, c_gt, c_ge, c_es, c_ns, c_ei, c_ni, c_eb, c_nb, c_nt, c_in, xt_0, xt_1, xt_2, xt_3, xl_0, xl_1, xl_2, xl_3, n_ll, n_lt, n_ld, n_tl, n_tt, n_dl, n_dt, n_ab, n_ib, n_ii, n_dd, n_rt, n_rl, n_g1, n_g2, q_0, q_1, q_2, q_3, q_4, q_5, q_6, q_7, q_8, al_0, al_1, al_2, al_3, ift, ifT, ifF, ifx, is_l, pw_a, pw_b, pw_c, pw_d, o_mul, o_fd, o_mod, o_pow, List.map_cons, List.map_nil, List.replicate, List.cons_append, List.nil_append, Bool.not_true, Bool.not_false, Bool.and_true, Bool.true_and, Bool.and_false, Bool.false_and, Bool.or_false, Bool.false_or, Bool.or_true, Bool.true_or, Nat.reduceBEq, Nat.reduceSub, List.all_cons, List.all_nil, s_bo, s_bb, vl_tm]
theorem inner_ok {Φ : CallV} {ws : List Str} {a b c d : Sl} : turnsV (lcT Φ c_standing_0 [4] (.v 4) .nil) (ws.map .str) [a, b, c, d, .no] = .ok (ws.map .str) [a, b, c, d, .no] :=
  turns_one D.str D.str fun x _ => by simp only [lcT, c_standing_0, v_bind, v_of, v_need, v_ct, v_cf, v_only, v_toF, f_thn, f_thr, f_thb, f_thc, f_of, f_ct, f_cf, rs_v, rs_n, rs_l, sl_o, rl_n, rl_c, rl_k, g_0, g_s, st_0, st_s, lk_v, lk_o, fz_v, fz_n, fz_l, fz_o, fs_n, fs_c, vl_int, vl_str, vl_bl, vl_tup, vl_lst, vl_dic, vl_non, vl_glo, bv_s, or_ok, or_nl, or_nd, tv_bl, tv_int, tv_non, tv_lst, tv_tup, ag_v, ag_n, ag_l, ag_o, as_n, as_c, as_k, nd_n, nd_v, nd_w, nd_l, li_n, li_v, li_w, li_l, pb_n, pb_v, pb_w, pb_l, pb_o, bk_o, cl_r, ps_e, ps_n, ps_v, ps_o, pd_e, no_int, no_str, no_bl, no_tup, no_lst, no_dic, no_non, no_glo, av_n, av_c, av_k, ag1, ag2, wp_n, wp_c, ro_n, ro_c, gd_0, gd_s, mn_n, mn_c, ti_v, ti_t, tn_0, tn_1, hv_l, hv_t, hv_s, hv_n, hv_o, hc_m, hc_l, hl_l, hl_n, hl_o, fr_n, fr_s, fr_o, ed_v, gw_l, gw_o, mt_a, mt_p, mt_r, mt_j, mt_i, mt_1, mt_2, mt_e, ex_l, mk_j, mk_1, mk_2, mk_a, mk_e, mk_p, mk_r, mk_i, vs_n, vs_c, om_s, sv_e, sv_l, sv_d, ky_s, ky_i, sr_v, sr_n, rt_n, rt_v, rt_w, rt_l, rt_o, pr_0, pr_v, pr_n, pr_o, pr_f, e_k, e_v, e_g, e_tup, e_lst, e_bin, e_neg, ng_i, e_cmp, e_chain, e_and, e_or, e_not, e_ite, e_int1, in_i, e_ix, e_sl, sc_v, e_isi, e_call, e_callv, gl_c, e_callk, e_fz, e_gc, e_maxd, mx_c, e_sset, ss_c, e_dnew, e_disp, e_items, it_d, e_rvs, rv_l, e_blt, e_mth, e_lc, e_lc2, e_nil, e_cons, t_nil, t_cons, i_seq, i_rng1, rg_1, i_rng2, rg_2, i_enum, i_rev, s_expr, s_ret, s_retN, s_set, s_unp, un_t, s_star, s_seti, s_aug, au_1, au_2, au_a, au_s, s_ite, t_e, s_for, s_while, s_pass, s_cont, s_brk, s_nil, s_cons, fe_n, fe_b, fe_r, fe_s, o_add, o_sub, o_cat, o_lst, o_tup, c_lt, c_le, c_gt, c_ge, c_es, c_ns, c_ei, c_ni, c_eb, c_nb, c_nt, c_in, xt_0, xt_1, xt_2, xt_3, xl_0, xl_1, xl_2, xl_3, n_ll, n_lt, n_ld, n_tl, n_tt, n_dl, n_dt, n_ab, n_ib, n_ii, n_dd, n_rt, n_rl, n_g1, n_g2, q_0, q_1, q_2, q_3, q_4, q_5, q_6, q_7, q_8, al_0, al_1, al_2, al_3, ift, ifT, ifF, ifx, is_l, pw_a, pw_b, pw_c, pw_d, o_mul, o_fd, o_mod, o_pow, List.map_cons, List.map_nil, List.replicate, List.cons_append, List.nil_append, Bool.not_true, Bool.not_false, Bool.and_true, Bool.true_and, Bool.and_false, Bool.false_and, Bool.or_false, Bool.false_or, Bool.or_true, Bool.true_or, Nat.reduceBEq, Nat.reduceSub, List.all_cons, List.all_nil]
theorem standing_ok {nm : Bool} : ∀ (h k : Nat) (t : Tm) (bd : List Str), t.h ≤ h → h ≤ k → t.n ≤ 1000 → bd.length + h ≤ 1000 →
    callV T.prog W (k + 1) "standing" [.v t.d, .v (.str (kd nm)), .v (.lst (bd.map .str))] = .ok (.v (.lst ((stand nm bd t).map .str))) [] := by
  intro h
  induction h with
  | zero => intro k t bd h1; cases t <;> rw [Tm.h] at h1 <;> omega
  | succ h ih =>
    intro k t bd h1 hk hn hb
    obtain ⟨k, rfl⟩ : ∃ k2, k = k2 + 1 := ⟨k - 1, by omega⟩
    have e : callV T.prog W (k + 1 + 1) "standing" _ = _ := call_defV (T := T) ok (d := d_standing) (by unfold T; simp) (k := k + 1) (W := W) (sls := [.v t.d, .v (.str (kd nm)), .v (.lst (bd.map .str))]) rfl
    rw [e]
    -- the parts, one by one
    have turn : ∀ (u : D) (bd : List Str) (x : Tm), x.h ≤ h → x.n ≤ 1000 → bd.length + h ≤ 1000 → lc2T (callV T.prog W (k + 1)) c_standing_0 [3, 4] [4] (.v 3) .nil (.v 4) i_standing_0 .nil x.d [.v u, .v (.str (kd nm)), .v (.lst (bd.map .str)), .no, .no] = .ok ((stand nm bd x).map .str) [.v u, .v (.str (kd nm)), .v (.lst (bd.map .str)), .no, .no] := by
      intro u bd x g1 g2 g3
      have := ih k x bd g1 (by omega) g2 g3
      simp only [lc2T, i_standing_0, v_bind, v_of, v_need, v_ct, v_cf, v_only, v_toF, f_thn, f_thr, f_thb, f_thc, f_of, f_ct, f_cf, rs_v, rs_n, rs_l, sl_o, rl_n, rl_c, rl_k, g_0, g_s, st_0, st_s, lk_v, lk_o, fz_v, fz_n, fz_l, fz_o, fs_n, fs_c, vl_int, vl_str, vl_bl, vl_tup, vl_lst, vl_dic, vl_non, vl_glo, bv_s, or_ok, or_nl, or_nd, tv_bl, tv_int, tv_non, tv_lst, tv_tup, ag_v, ag_n, ag_l, ag_o, as_n, as_c, as_k, nd_n, nd_v, nd_w, nd_l, li_n, li_v, li_w, li_l, pb_n, pb_v, pb_w, pb_l, pb_o, bk_o, cl_r, ps_e, ps_n, ps_v, ps_o, pd_e, no_int, no_str, no_bl, no_tup, no_lst, no_dic, no_non, no_glo, av_n, av_c, av_k, ag1, ag2, wp_n, wp_c, ro_n, ro_c, gd_0, gd_s, mn_n, mn_c, ti_v, ti_t, tn_0, tn_1, hv_l, hv_t, hv_s, hv_n, hv_o, hc_m, hc_l, hl_l, hl_n, hl_o, fr_n, fr_s, fr_o, ed_v, gw_l, gw_o, mt_a, mt_p, mt_r, mt_j, mt_i, mt_1, mt_2, mt_e, ex_l, mk_j, mk_1, mk_2, mk_a, mk_e, mk_p, mk_r, mk_i, vs_n, vs_c, om_s, sv_e, sv_l, sv_d, ky_s, ky_i, sr_v, sr_n, rt_n, rt_v, rt_w, rt_l, rt_o, pr_0, pr_v, pr_n, pr_o, pr_f, e_k, e_v, e_g, e_tup, e_lst, e_bin, e_neg, ng_i, e_cmp, e_chain, e_and, e_or, e_not, e_ite, e_int1, in_i, e_ix, e_sl, sc_v, e_isi, e_call, e_callv, gl_c, e_callk, e_fz, e_gc, e_maxd, mx_c, e_sset, ss_c, e_dnew, e_disp, e_items, it_d, e_rvs, rv_l, e_blt, e_mth, e_lc, e_lc2, e_nil, e_cons, t_nil, t_cons, i_seq, i_rng1, rg_1, i_rng2, rg_2, i_enum, i_rev, s_expr, s_ret, s_retN, s_set, s_unp, un_t, s_star, s_seti, s_aug, au_1, au_2, au_a, au_s, s_ite, t_e, s_for, s_while, s_pass, s_cont, s_brk, s_nil, s_cons, fe_n, fe_b, fe_r, fe_s, o_add, o_sub, o_cat, o_lst, o_tup, c_lt, c_le, c_gt, c_ge, c_es, c_ns, c_ei, c_ni, c_eb, c_nb, c_nt, c_in, xt_0, xt_1, xt_2, xt_3, xl_0, xl_1, xl_2, xl_3, n_ll, n_lt, n_ld, n_tl, n_tt, n_dl, n_dt, n_ab, n_ib, n_ii, n_dd, n_rt, n_rl, n_g1, n_g2, q_0, q_1, q_2, q_3, q_4, q_5, q_6, q_7, q_8, al_0, al_1, al_2, al_3, ift, ifT, ifF, ifx, is_l, pw_a, pw_b, pw_c, pw_d, o_mul, o_fd, o_mod, o_pow, List.map_cons, List.map_nil, List.replicate, List.cons_append, List.nil_append, Bool.not_true, Bool.not_false, Bool.and_true, Bool.true_and, Bool.and_false, Bool.false_and, Bool.or_false, Bool.false_or, Bool.or_true, Bool.true_or, Nat.reduceBEq, Nat.reduceSub, List.all_cons, List.all_nil, no_tm, this, inner_ok]
    have all : ∀ (u : D) (bd : List Str) (xs : List Tm), Tm.hs xs ≤ h → Tm.ns xs ≤ 1000 → bd.length + h ≤ 1000 → turnsV (lc2T (callV T.prog W (k + 1)) c_standing_0 [3, 4] [4] (.v 3) .nil (.v 4) i_standing_0 .nil) (xs.map Tm.d) [.v u, .v (.str (kd nm)), .v (.lst (bd.map .str)), .no, .no] = .ok ((stands nm bd xs).map .str) [.v u, .v (.str (kd nm)), .v (.lst (bd.map .str)), .no, .no] := by
      intro u bd xs g1 g2 g3
      rw [turns_map Tm.d (fun x => (stand nm bd x).map .str) fun x hx => turn u bd x (Nat.le_trans (hs_mem hx) g1) (Nat.le_trans (ns_mem hx) g2) g3, stands_flat, List.map_flatMap]
    have pt := parts_ok (W := W) (k := k) (t := t)
    have nl : ∀ (xs : List Tm) (bd : List Str), Tm.ns xs ≤ 1000 → ∀ r : V VR, V.need (decide (((stands nm bd xs).map D.str).length ≤ line)) r = r := fun xs bd h r => need_len (by have := stands_le (nm := nm) xs bd; rw [List.length_map]; omega) r
    cases t with
    | hole s =>
      cases nm with
      | true =>
        simp only [Tm.d, Tm.kids, kd, if_pos, List.map_nil] at pt ⊢
        simp only [d_standing, b_standing, stand, v_bind, v_of, v_need, v_ct, v_cf, v_only, v_toF, f_thn, f_thr, f_thb, f_thc, f_of, f_ct, f_cf, rs_v, rs_n, rs_l, sl_o, rl_n, rl_c, rl_k, g_0, g_s, st_0, st_s, lk_v, lk_o, fz_v, fz_n, fz_l, fz_o, fs_n, fs_c, vl_int, vl_str, vl_bl, vl_tup, vl_lst, vl_dic, vl_non, vl_glo, bv_s, or_ok, or_nl, or_nd, tv_bl, tv_int, tv_non, tv_lst, tv_tup, ag_v, ag_n, ag_l, ag_o, as_n, as_c, as_k, nd_n, nd_v, nd_w, nd_l, li_n, li_v, li_w, li_l, pb_n, pb_v, pb_w, pb_l, pb_o, bk_o, cl_r, ps_e, ps_n, ps_v, ps_o, pd_e, no_int, no_str, no_bl, no_tup, no_lst, no_dic, no_non, no_glo, av_n, av_c, av_k, ag1, ag2, wp_n, wp_c, ro_n, ro_c, gd_0, gd_s, mn_n, mn_c, ti_v, ti_t, tn_0, tn_1, hv_l, hv_t, hv_s, hv_n, hv_o, hc_m, hc_l, hl_l, hl_n, hl_o, fr_n, fr_s, fr_o, ed_v, gw_l, gw_o, mt_a, mt_p, mt_r, mt_j, mt_i, mt_1, mt_2, mt_e, ex_l, mk_j, mk_1, mk_2, mk_a, mk_e, mk_p, mk_r, mk_i, vs_n, vs_c, om_s, sv_e, sv_l, sv_d, ky_s, ky_i, sr_v, sr_n, rt_n, rt_v, rt_w, rt_l, rt_o, pr_0, pr_v, pr_n, pr_o, pr_f, e_k, e_v, e_g, e_tup, e_lst, e_bin, e_neg, ng_i, e_cmp, e_chain, e_and, e_or, e_not, e_ite, e_int1, in_i, e_ix, e_sl, sc_v, e_isi, e_call, e_callv, gl_c, e_callk, e_fz, e_gc, e_maxd, mx_c, e_sset, ss_c, e_dnew, e_disp, e_items, it_d, e_rvs, rv_l, e_blt, e_mth, e_lc, e_lc2, e_nil, e_cons, t_nil, t_cons, i_seq, i_rng1, rg_1, i_rng2, rg_2, i_enum, i_rev, s_expr, s_ret, s_retN, s_set, s_unp, un_t, s_star, s_seti, s_aug, au_1, au_2, au_a, au_s, s_ite, t_e, s_for, s_while, s_pass, s_cont, s_brk, s_nil, s_cons, fe_n, fe_b, fe_r, fe_s, o_add, o_sub, o_cat, o_lst, o_tup, c_lt, c_le, c_gt, c_ge, c_es, c_ns, c_ei, c_ni, c_eb, c_nb, c_nt, c_in, xt_0, xt_1, xt_2, xt_3, xl_0, xl_1, xl_2, xl_3, n_ll, n_lt, n_ld, n_tl, n_tt, n_dl, n_dt, n_ab, n_ib, n_ii, n_dd, n_rt, n_rl, n_g1, n_g2, q_0, q_1, q_2, q_3, q_4, q_5, q_6, q_7, q_8, al_0, al_1, al_2, al_3, ift, ifT, ifF, ifx, is_l, pw_a, pw_b, pw_c, pw_d, o_mul, o_fd, o_mod, o_pow, List.map_cons, List.map_nil, List.replicate, List.cons_append, List.nil_append, Bool.not_true, Bool.not_false, Bool.and_true, Bool.true_and, Bool.and_false, Bool.false_and, Bool.or_false, Bool.false_or, Bool.or_true, Bool.true_or, Nat.reduceBEq, Nat.reduceSub, List.all_cons, List.all_nil, s_hn, s_hb, pt, if_pos]
      | false =>
        have : kd false = Str.ofString "hole" := rfl
        simp only [Tm.d, this, d_standing, b_standing, stand, v_bind, v_of, v_need, v_ct, v_cf, v_only, v_toF, f_thn, f_thr, f_thb, f_thc, f_of, f_ct, f_cf, rs_v, rs_n, rs_l, sl_o, rl_n, rl_c, rl_k, g_0, g_s, st_0, st_s, lk_v, lk_o, fz_v, fz_n, fz_l, fz_o, fs_n, fs_c, vl_int, vl_str, vl_bl, vl_tup, vl_lst, vl_dic, vl_non, vl_glo, bv_s, or_ok, or_nl, or_nd, tv_bl, tv_int, tv_non, tv_lst, tv_tup, ag_v, ag_n, ag_l, ag_o, as_n, as_c, as_k, nd_n, nd_v, nd_w, nd_l, li_n, li_v, li_w, li_l, pb_n, pb_v, pb_w, pb_l, pb_o, bk_o, cl_r, ps_e, ps_n, ps_v, ps_o, pd_e, no_int, no_str, no_bl, no_tup, no_lst, no_dic, no_non, no_glo, av_n, av_c, av_k, ag1, ag2, wp_n, wp_c, ro_n, ro_c, gd_0, gd_s, mn_n, mn_c, ti_v, ti_t, tn_0, tn_1, hv_l, hv_t, hv_s, hv_n, hv_o, hc_m, hc_l, hl_l, hl_n, hl_o, fr_n, fr_s, fr_o, ed_v, gw_l, gw_o, mt_a, mt_p, mt_r, mt_j, mt_i, mt_1, mt_2, mt_e, ex_l, mk_j, mk_1, mk_2, mk_a, mk_e, mk_p, mk_r, mk_i, vs_n, vs_c, om_s, sv_e, sv_l, sv_d, ky_s, ky_i, sr_v, sr_n, rt_n, rt_v, rt_w, rt_l, rt_o, pr_0, pr_v, pr_n, pr_o, pr_f, e_k, e_v, e_g, e_tup, e_lst, e_bin, e_neg, ng_i, e_cmp, e_chain, e_and, e_or, e_not, e_ite, e_int1, in_i, e_ix, e_sl, sc_v, e_isi, e_call, e_callv, gl_c, e_callk, e_fz, e_gc, e_maxd, mx_c, e_sset, ss_c, e_dnew, e_disp, e_items, it_d, e_rvs, rv_l, e_blt, e_mth, e_lc, e_lc2, e_nil, e_cons, t_nil, t_cons, i_seq, i_rng1, rg_1, i_rng2, rg_2, i_enum, i_rev, s_expr, s_ret, s_retN, s_set, s_unp, un_t, s_star, s_seti, s_aug, au_1, au_2, au_a, au_s, s_ite, t_e, s_for, s_while, s_pass, s_cont, s_brk, s_nil, s_cons, fe_n, fe_b, fe_r, fe_s, o_add, o_sub, o_cat, o_lst, o_tup, c_lt, c_le, c_gt, c_ge, c_es, c_ns, c_ei, c_ni, c_eb, c_nb, c_nt, c_in, xt_0, xt_1, xt_2, xt_3, xl_0, xl_1, xl_2, xl_3, n_ll, n_lt, n_ld, n_tl, n_tt, n_dl, n_dt, n_ab, n_ib, n_ii, n_dd, n_rt, n_rl, n_g1, n_g2, q_0, q_1, q_2, q_3, q_4, q_5, q_6, q_7, q_8, al_0, al_1, al_2, al_3, ift, ifT, ifF, ifx, is_l, pw_a, pw_b, pw_c, pw_d, o_mul, o_fd, o_mod, o_pow, List.map_cons, List.map_nil, List.replicate, List.cons_append, List.nil_append, Bool.not_true, Bool.not_false, Bool.and_true, Bool.true_and, Bool.and_false, Bool.false_and, Bool.or_false, Bool.false_or, Bool.or_true, Bool.true_or, Nat.reduceBEq, Nat.reduceSub, List.all_cons, List.all_nil, s_hh, c_nt, in_strs, o_rep]
        cases has s bd <;> rfl
    | name s =>
      cases nm with
      | true =>
        simp only [Tm.d, kd, if_pos, d_standing, b_standing, stand, v_bind, v_of, v_need, v_ct, v_cf, v_only, v_toF, f_thn, f_thr, f_thb, f_thc, f_of, f_ct, f_cf, rs_v, rs_n, rs_l, sl_o, rl_n, rl_c, rl_k, g_0, g_s, st_0, st_s, lk_v, lk_o, fz_v, fz_n, fz_l, fz_o, fs_n, fs_c, vl_int, vl_str, vl_bl, vl_tup, vl_lst, vl_dic, vl_non, vl_glo, bv_s, or_ok, or_nl, or_nd, tv_bl, tv_int, tv_non, tv_lst, tv_tup, ag_v, ag_n, ag_l, ag_o, as_n, as_c, as_k, nd_n, nd_v, nd_w, nd_l, li_n, li_v, li_w, li_l, pb_n, pb_v, pb_w, pb_l, pb_o, bk_o, cl_r, ps_e, ps_n, ps_v, ps_o, pd_e, no_int, no_str, no_bl, no_tup, no_lst, no_dic, no_non, no_glo, av_n, av_c, av_k, ag1, ag2, wp_n, wp_c, ro_n, ro_c, gd_0, gd_s, mn_n, mn_c, ti_v, ti_t, tn_0, tn_1, hv_l, hv_t, hv_s, hv_n, hv_o, hc_m, hc_l, hl_l, hl_n, hl_o, fr_n, fr_s, fr_o, ed_v, gw_l, gw_o, mt_a, mt_p, mt_r, mt_j, mt_i, mt_1, mt_2, mt_e, ex_l, mk_j, mk_1, mk_2, mk_a, mk_e, mk_p, mk_r, mk_i, vs_n, vs_c, om_s, sv_e, sv_l, sv_d, ky_s, ky_i, sr_v, sr_n, rt_n, rt_v, rt_w, rt_l, rt_o, pr_0, pr_v, pr_n, pr_o, pr_f, e_k, e_v, e_g, e_tup, e_lst, e_bin, e_neg, ng_i, e_cmp, e_chain, e_and, e_or, e_not, e_ite, e_int1, in_i, e_ix, e_sl, sc_v, e_isi, e_call, e_callv, gl_c, e_callk, e_fz, e_gc, e_maxd, mx_c, e_sset, ss_c, e_dnew, e_disp, e_items, it_d, e_rvs, rv_l, e_blt, e_mth, e_lc, e_lc2, e_nil, e_cons, t_nil, t_cons, i_seq, i_rng1, rg_1, i_rng2, rg_2, i_enum, i_rev, s_expr, s_ret, s_retN, s_set, s_unp, un_t, s_star, s_seti, s_aug, au_1, au_2, au_a, au_s, s_ite, t_e, s_for, s_while, s_pass, s_cont, s_brk, s_nil, s_cons, fe_n, fe_b, fe_r, fe_s, o_add, o_sub, o_cat, o_lst, o_tup, c_lt, c_le, c_gt, c_ge, c_es, c_ns, c_ei, c_ni, c_eb, c_nb, c_nt, c_in, xt_0, xt_1, xt_2, xt_3, xl_0, xl_1, xl_2, xl_3, n_ll, n_lt, n_ld, n_tl, n_tt, n_dl, n_dt, n_ab, n_ib, n_ii, n_dd, n_rt, n_rl, n_g1, n_g2, q_0, q_1, q_2, q_3, q_4, q_5, q_6, q_7, q_8, al_0, al_1, al_2, al_3, ift, ifT, ifF, ifx, is_l, pw_a, pw_b, pw_c, pw_d, o_mul, o_fd, o_mod, o_pow, List.map_cons, List.map_nil, List.replicate, List.cons_append, List.nil_append, Bool.not_true, Bool.not_false, Bool.and_true, Bool.true_and, Bool.and_false, Bool.false_and, Bool.or_false, Bool.false_or, Bool.or_true, Bool.true_or, Nat.reduceBEq, Nat.reduceSub, List.all_cons, List.all_nil, s_nn, c_nt, in_strs, o_rep]
        cases has s bd <;> rfl
      | false =>
        have : kd false = Str.ofString "hole" := rfl
        simp only [Tm.d, Tm.kids, this, List.map_nil] at pt ⊢
        simp only [d_standing, b_standing, stand, v_bind, v_of, v_need, v_ct, v_cf, v_only, v_toF, f_thn, f_thr, f_thb, f_thc, f_of, f_ct, f_cf, rs_v, rs_n, rs_l, sl_o, rl_n, rl_c, rl_k, g_0, g_s, st_0, st_s, lk_v, lk_o, fz_v, fz_n, fz_l, fz_o, fs_n, fs_c, vl_int, vl_str, vl_bl, vl_tup, vl_lst, vl_dic, vl_non, vl_glo, bv_s, or_ok, or_nl, or_nd, tv_bl, tv_int, tv_non, tv_lst, tv_tup, ag_v, ag_n, ag_l, ag_o, as_n, as_c, as_k, nd_n, nd_v, nd_w, nd_l, li_n, li_v, li_w, li_l, pb_n, pb_v, pb_w, pb_l, pb_o, bk_o, cl_r, ps_e, ps_n, ps_v, ps_o, pd_e, no_int, no_str, no_bl, no_tup, no_lst, no_dic, no_non, no_glo, av_n, av_c, av_k, ag1, ag2, wp_n, wp_c, ro_n, ro_c, gd_0, gd_s, mn_n, mn_c, ti_v, ti_t, tn_0, tn_1, hv_l, hv_t, hv_s, hv_n, hv_o, hc_m, hc_l, hl_l, hl_n, hl_o, fr_n, fr_s, fr_o, ed_v, gw_l, gw_o, mt_a, mt_p, mt_r, mt_j, mt_i, mt_1, mt_2, mt_e, ex_l, mk_j, mk_1, mk_2, mk_a, mk_e, mk_p, mk_r, mk_i, vs_n, vs_c, om_s, sv_e, sv_l, sv_d, ky_s, ky_i, sr_v, sr_n, rt_n, rt_v, rt_w, rt_l, rt_o, pr_0, pr_v, pr_n, pr_o, pr_f, e_k, e_v, e_g, e_tup, e_lst, e_bin, e_neg, ng_i, e_cmp, e_chain, e_and, e_or, e_not, e_ite, e_int1, in_i, e_ix, e_sl, sc_v, e_isi, e_call, e_callv, gl_c, e_callk, e_fz, e_gc, e_maxd, mx_c, e_sset, ss_c, e_dnew, e_disp, e_items, it_d, e_rvs, rv_l, e_blt, e_mth, e_lc, e_lc2, e_nil, e_cons, t_nil, t_cons, i_seq, i_rng1, rg_1, i_rng2, rg_2, i_enum, i_rev, s_expr, s_ret, s_retN, s_set, s_unp, un_t, s_star, s_seti, s_aug, au_1, au_2, au_a, au_s, s_ite, t_e, s_for, s_while, s_pass, s_cont, s_brk, s_nil, s_cons, fe_n, fe_b, fe_r, fe_s, o_add, o_sub, o_cat, o_lst, o_tup, c_lt, c_le, c_gt, c_ge, c_es, c_ns, c_ei, c_ni, c_eb, c_nb, c_nt, c_in, xt_0, xt_1, xt_2, xt_3, xl_0, xl_1, xl_2, xl_3, n_ll, n_lt, n_ld, n_tl, n_tt, n_dl, n_dt, n_ab, n_ib, n_ii, n_dd, n_rt, n_rl, n_g1, n_g2, q_0, q_1, q_2, q_3, q_4, q_5, q_6, q_7, q_8, al_0, al_1, al_2, al_3, ift, ifT, ifF, ifx, is_l, pw_a, pw_b, pw_c, pw_d, o_mul, o_fd, o_mod, o_pow, List.map_cons, List.map_nil, List.replicate, List.cons_append, List.nil_append, Bool.not_true, Bool.not_false, Bool.and_true, Bool.true_and, Bool.and_false, Bool.false_and, Bool.or_false, Bool.false_or, Bool.or_true, Bool.true_or, Nat.reduceBEq, Nat.reduceSub, List.all_cons, List.all_nil, s_nh, s_nb, pt]
        try rfl
    | of w ts =>
      have a1 := all (Tm.d (.of w ts)) bd ts (by rw [Tm.h] at h1; omega) (by rw [Tm.n] at hn; omega) (by omega)
      have nl := nl ts bd (by rw [Tm.n] at hn; omega)
      cases nm with
      | true =>
        simp only [Tm.d, Tm.kids, kd, if_pos] at pt a1 ⊢
        simp only [d_standing, b_standing, stand, v_bind, v_of, v_need, v_ct, v_cf, v_only, v_toF, f_thn, f_thr, f_thb, f_thc, f_of, f_ct, f_cf, rs_v, rs_n, rs_l, sl_o, rl_n, rl_c, rl_k, g_0, g_s, st_0, st_s, lk_v, lk_o, fz_v, fz_n, fz_l, fz_o, fs_n, fs_c, vl_int, vl_str, vl_bl, vl_tup, vl_lst, vl_dic, vl_non, vl_glo, bv_s, or_ok, or_nl, or_nd, tv_bl, tv_int, tv_non, tv_lst, tv_tup, ag_v, ag_n, ag_l, ag_o, as_n, as_c, as_k, nd_n, nd_v, nd_w, nd_l, li_n, li_v, li_w, li_l, pb_n, pb_v, pb_w, pb_l, pb_o, bk_o, cl_r, ps_e, ps_n, ps_v, ps_o, pd_e, no_int, no_str, no_bl, no_tup, no_lst, no_dic, no_non, no_glo, av_n, av_c, av_k, ag1, ag2, wp_n, wp_c, ro_n, ro_c, gd_0, gd_s, mn_n, mn_c, ti_v, ti_t, tn_0, tn_1, hv_l, hv_t, hv_s, hv_n, hv_o, hc_m, hc_l, hl_l, hl_n, hl_o, fr_n, fr_s, fr_o, ed_v, gw_l, gw_o, mt_a, mt_p, mt_r, mt_j, mt_i, mt_1, mt_2, mt_e, ex_l, mk_j, mk_1, mk_2, mk_a, mk_e, mk_p, mk_r, mk_i, vs_n, vs_c, om_s, sv_e, sv_l, sv_d, ky_s, ky_i, sr_v, sr_n, rt_n, rt_v, rt_w, rt_l, rt_o, pr_0, pr_v, pr_n, pr_o, pr_f, e_k, e_v, e_g, e_tup, e_lst, e_bin, e_neg, ng_i, e_cmp, e_chain, e_and, e_or, e_not, e_ite, e_int1, in_i, e_ix, e_sl, sc_v, e_isi, e_call, e_callv, gl_c, e_callk, e_fz, e_gc, e_maxd, mx_c, e_sset, ss_c, e_dnew, e_disp, e_items, it_d, e_rvs, rv_l, e_blt, e_mth, e_lc, e_lc2, e_nil, e_cons, t_nil, t_cons, i_seq, i_rng1, rg_1, i_rng2, rg_2, i_enum, i_rev, s_expr, s_ret, s_retN, s_set, s_unp, un_t, s_star, s_seti, s_aug, au_1, au_2, au_a, au_s, s_ite, t_e, s_for, s_while, s_pass, s_cont, s_brk, s_nil, s_cons, fe_n, fe_b, fe_r, fe_s, o_add, o_sub, o_cat, o_lst, o_tup, c_lt, c_le, c_gt, c_ge, c_es, c_ns, c_ei, c_ni, c_eb, c_nb, c_nt, c_in, xt_0, xt_1, xt_2, xt_3, xl_0, xl_1, xl_2, xl_3, n_ll, n_lt, n_ld, n_tl, n_tt, n_dl, n_dt, n_ab, n_ib, n_ii, n_dd, n_rt, n_rl, n_g1, n_g2, q_0, q_1, q_2, q_3, q_4, q_5, q_6, q_7, q_8, al_0, al_1, al_2, al_3, ift, ifT, ifF, ifx, is_l, pw_a, pw_b, pw_c, pw_d, o_mul, o_fd, o_mod, o_pow, List.map_cons, List.map_nil, List.replicate, List.cons_append, List.nil_append, Bool.not_true, Bool.not_false, Bool.and_true, Bool.true_and, Bool.and_false, Bool.false_and, Bool.or_false, Bool.false_or, Bool.or_true, Bool.true_or, Nat.reduceBEq, Nat.reduceSub, List.all_cons, List.all_nil, s_on, s_ob, pt, a1, nl]
      | false =>
        have : kd false = Str.ofString "hole" := rfl
        simp only [Tm.d, Tm.kids, this] at pt a1 ⊢
        simp only [d_standing, b_standing, stand, v_bind, v_of, v_need, v_ct, v_cf, v_only, v_toF, f_thn, f_thr, f_thb, f_thc, f_of, f_ct, f_cf, rs_v, rs_n, rs_l, sl_o, rl_n, rl_c, rl_k, g_0, g_s, st_0, st_s, lk_v, lk_o, fz_v, fz_n, fz_l, fz_o, fs_n, fs_c, vl_int, vl_str, vl_bl, vl_tup, vl_lst, vl_dic, vl_non, vl_glo, bv_s, or_ok, or_nl, or_nd, tv_bl, tv_int, tv_non, tv_lst, tv_tup, ag_v, ag_n, ag_l, ag_o, as_n, as_c, as_k, nd_n, nd_v, nd_w, nd_l, li_n, li_v, li_w, li_l, pb_n, pb_v, pb_w, pb_l, pb_o, bk_o, cl_r, ps_e, ps_n, ps_v, ps_o, pd_e, no_int, no_str, no_bl, no_tup, no_lst, no_dic, no_non, no_glo, av_n, av_c, av_k, ag1, ag2, wp_n, wp_c, ro_n, ro_c, gd_0, gd_s, mn_n, mn_c, ti_v, ti_t, tn_0, tn_1, hv_l, hv_t, hv_s, hv_n, hv_o, hc_m, hc_l, hl_l, hl_n, hl_o, fr_n, fr_s, fr_o, ed_v, gw_l, gw_o, mt_a, mt_p, mt_r, mt_j, mt_i, mt_1, mt_2, mt_e, ex_l, mk_j, mk_1, mk_2, mk_a, mk_e, mk_p, mk_r, mk_i, vs_n, vs_c, om_s, sv_e, sv_l, sv_d, ky_s, ky_i, sr_v, sr_n, rt_n, rt_v, rt_w, rt_l, rt_o, pr_0, pr_v, pr_n, pr_o, pr_f, e_k, e_v, e_g, e_tup, e_lst, e_bin, e_neg, ng_i, e_cmp, e_chain, e_and, e_or, e_not, e_ite, e_int1, in_i, e_ix, e_sl, sc_v, e_isi, e_call, e_callv, gl_c, e_callk, e_fz, e_gc, e_maxd, mx_c, e_sset, ss_c, e_dnew, e_disp, e_items, it_d, e_rvs, rv_l, e_blt, e_mth, e_lc, e_lc2, e_nil, e_cons, t_nil, t_cons, i_seq, i_rng1, rg_1, i_rng2, rg_2, i_enum, i_rev, s_expr, s_ret, s_retN, s_set, s_unp, un_t, s_star, s_seti, s_aug, au_1, au_2, au_a, au_s, s_ite, t_e, s_for, s_while, s_pass, s_cont, s_brk, s_nil, s_cons, fe_n, fe_b, fe_r, fe_s, o_add, o_sub, o_cat, o_lst, o_tup, c_lt, c_le, c_gt, c_ge, c_es, c_ns, c_ei, c_ni, c_eb, c_nb, c_nt, c_in, xt_0, xt_1, xt_2, xt_3, xl_0, xl_1, xl_2, xl_3, n_ll, n_lt, n_ld, n_tl, n_tt, n_dl, n_dt, n_ab, n_ib, n_ii, n_dd, n_rt, n_rl, n_g1, n_g2, q_0, q_1, q_2, q_3, q_4, q_5, q_6, q_7, q_8, al_0, al_1, al_2, al_3, ift, ifT, ifF, ifx, is_l, pw_a, pw_b, pw_c, pw_d, o_mul, o_fd, o_mod, o_pow, List.map_cons, List.map_nil, List.replicate, List.cons_append, List.nil_append, Bool.not_true, Bool.not_false, Bool.and_true, Bool.true_and, Bool.and_false, Bool.false_and, Bool.or_false, Bool.false_or, Bool.or_true, Bool.true_or, Nat.reduceBEq, Nat.reduceSub, List.all_cons, List.all_nil, s_oh, s_ob, pt, a1, nl]
    | bind w n t =>
      have a1 := fun bd h => turn (Tm.d (.bind w n t)) bd t (by rw [Tm.h] at h1; omega) (by rw [Tm.n] at hn; omega) h
      have nl := fun bd => need_len (xs := (stand nm bd t).map D.str) (by have := stand_le (nm := nm) t bd; rw [Tm.n] at hn; rw [List.length_map]; omega) (β := VR)
      have nc := fun r => need_cat (xs := bd.map D.str) (ys := [D.str n]) (by simp; omega) (β := VR) r
      cases nm with
      | true =>
        have a2 := a1 (bd ++ [n]) (by simp; omega)
        simp only [Tm.d, Tm.kids, kd, if_pos, List.map_append, List.map_cons, List.map_nil] at pt a2 ⊢
        simp only [d_standing, b_standing, stand, v_bind, v_of, v_need, v_ct, v_cf, v_only, v_toF, f_thn, f_thr, f_thb, f_thc, f_of, f_ct, f_cf, rs_v, rs_n, rs_l, sl_o, rl_n, rl_c, rl_k, g_0, g_s, st_0, st_s, lk_v, lk_o, fz_v, fz_n, fz_l, fz_o, fs_n, fs_c, vl_int, vl_str, vl_bl, vl_tup, vl_lst, vl_dic, vl_non, vl_glo, bv_s, or_ok, or_nl, or_nd, tv_bl, tv_int, tv_non, tv_lst, tv_tup, ag_v, ag_n, ag_l, ag_o, as_n, as_c, as_k, nd_n, nd_v, nd_w, nd_l, li_n, li_v, li_w, li_l, pb_n, pb_v, pb_w, pb_l, pb_o, bk_o, cl_r, ps_e, ps_n, ps_v, ps_o, pd_e, no_int, no_str, no_bl, no_tup, no_lst, no_dic, no_non, no_glo, av_n, av_c, av_k, ag1, ag2, wp_n, wp_c, ro_n, ro_c, gd_0, gd_s, mn_n, mn_c, ti_v, ti_t, tn_0, tn_1, hv_l, hv_t, hv_s, hv_n, hv_o, hc_m, hc_l, hl_l, hl_n, hl_o, fr_n, fr_s, fr_o, ed_v, gw_l, gw_o, mt_a, mt_p, mt_r, mt_j, mt_i, mt_1, mt_2, mt_e, ex_l, mk_j, mk_1, mk_2, mk_a, mk_e, mk_p, mk_r, mk_i, vs_n, vs_c, om_s, sv_e, sv_l, sv_d, ky_s, ky_i, sr_v, sr_n, rt_n, rt_v, rt_w, rt_l, rt_o, pr_0, pr_v, pr_n, pr_o, pr_f, e_k, e_v, e_g, e_tup, e_lst, e_bin, e_neg, ng_i, e_cmp, e_chain, e_and, e_or, e_not, e_ite, e_int1, in_i, e_ix, e_sl, sc_v, e_isi, e_call, e_callv, gl_c, e_callk, e_fz, e_gc, e_maxd, mx_c, e_sset, ss_c, e_dnew, e_disp, e_items, it_d, e_rvs, rv_l, e_blt, e_mth, e_lc, e_lc2, e_nil, e_cons, t_nil, t_cons, i_seq, i_rng1, rg_1, i_rng2, rg_2, i_enum, i_rev, s_expr, s_ret, s_retN, s_set, s_unp, un_t, s_star, s_seti, s_aug, au_1, au_2, au_a, au_s, s_ite, t_e, s_for, s_while, s_pass, s_cont, s_brk, s_nil, s_cons, fe_n, fe_b, fe_r, fe_s, o_add, o_sub, o_cat, o_lst, o_tup, c_lt, c_le, c_gt, c_ge, c_es, c_ns, c_ei, c_ni, c_eb, c_nb, c_nt, c_in, xt_0, xt_1, xt_2, xt_3, xl_0, xl_1, xl_2, xl_3, n_ll, n_lt, n_ld, n_tl, n_tt, n_dl, n_dt, n_ab, n_ib, n_ii, n_dd, n_rt, n_rl, n_g1, n_g2, q_0, q_1, q_2, q_3, q_4, q_5, q_6, q_7, q_8, al_0, al_1, al_2, al_3, ift, ifT, ifF, ifx, is_l, pw_a, pw_b, pw_c, pw_d, o_mul, o_fd, o_mod, o_pow, List.map_cons, List.map_nil, List.replicate, List.cons_append, List.nil_append, Bool.not_true, Bool.not_false, Bool.and_true, Bool.true_and, Bool.and_false, Bool.false_and, Bool.or_false, Bool.false_or, Bool.or_true, Bool.true_or, Nat.reduceBEq, Nat.reduceSub, List.all_cons, List.all_nil, s_bn, s_bb, s_nn, pt, nc, a2, nl, if_pos]
      | false =>
        have : kd false = Str.ofString "hole" := rfl
        have a2 := a1 bd (by omega)
        simp only [Tm.d, Tm.kids, this, List.map_cons, List.map_nil] at pt a2 ⊢
        simp only [d_standing, b_standing, stand, v_bind, v_of, v_need, v_ct, v_cf, v_only, v_toF, f_thn, f_thr, f_thb, f_thc, f_of, f_ct, f_cf, rs_v, rs_n, rs_l, sl_o, rl_n, rl_c, rl_k, g_0, g_s, st_0, st_s, lk_v, lk_o, fz_v, fz_n, fz_l, fz_o, fs_n, fs_c, vl_int, vl_str, vl_bl, vl_tup, vl_lst, vl_dic, vl_non, vl_glo, bv_s, or_ok, or_nl, or_nd, tv_bl, tv_int, tv_non, tv_lst, tv_tup, ag_v, ag_n, ag_l, ag_o, as_n, as_c, as_k, nd_n, nd_v, nd_w, nd_l, li_n, li_v, li_w, li_l, pb_n, pb_v, pb_w, pb_l, pb_o, bk_o, cl_r, ps_e, ps_n, ps_v, ps_o, pd_e, no_int, no_str, no_bl, no_tup, no_lst, no_dic, no_non, no_glo, av_n, av_c, av_k, ag1, ag2, wp_n, wp_c, ro_n, ro_c, gd_0, gd_s, mn_n, mn_c, ti_v, ti_t, tn_0, tn_1, hv_l, hv_t, hv_s, hv_n, hv_o, hc_m, hc_l, hl_l, hl_n, hl_o, fr_n, fr_s, fr_o, ed_v, gw_l, gw_o, mt_a, mt_p, mt_r, mt_j, mt_i, mt_1, mt_2, mt_e, ex_l, mk_j, mk_1, mk_2, mk_a, mk_e, mk_p, mk_r, mk_i, vs_n, vs_c, om_s, sv_e, sv_l, sv_d, ky_s, ky_i, sr_v, sr_n, rt_n, rt_v, rt_w, rt_l, rt_o, pr_0, pr_v, pr_n, pr_o, pr_f, e_k, e_v, e_g, e_tup, e_lst, e_bin, e_neg, ng_i, e_cmp, e_chain, e_and, e_or, e_not, e_ite, e_int1, in_i, e_ix, e_sl, sc_v, e_isi, e_call, e_callv, gl_c, e_callk, e_fz, e_gc, e_maxd, mx_c, e_sset, ss_c, e_dnew, e_disp, e_items, it_d, e_rvs, rv_l, e_blt, e_mth, e_lc, e_lc2, e_nil, e_cons, t_nil, t_cons, i_seq, i_rng1, rg_1, i_rng2, rg_2, i_enum, i_rev, s_expr, s_ret, s_retN, s_set, s_unp, un_t, s_star, s_seti, s_aug, au_1, au_2, au_a, au_s, s_ite, t_e, s_for, s_while, s_pass, s_cont, s_brk, s_nil, s_cons, fe_n, fe_b, fe_r, fe_s, o_add, o_sub, o_cat, o_lst, o_tup, c_lt, c_le, c_gt, c_ge, c_es, c_ns, c_ei, c_ni, c_eb, c_nb, c_nt, c_in, xt_0, xt_1, xt_2, xt_3, xl_0, xl_1, xl_2, xl_3, n_ll, n_lt, n_ld, n_tl, n_tt, n_dl, n_dt, n_ab, n_ib, n_ii, n_dd, n_rt, n_rl, n_g1, n_g2, q_0, q_1, q_2, q_3, q_4, q_5, q_6, q_7, q_8, al_0, al_1, al_2, al_3, ift, ifT, ifF, ifx, is_l, pw_a, pw_b, pw_c, pw_d, o_mul, o_fd, o_mod, o_pow, List.map_cons, List.map_nil, List.replicate, List.cons_append, List.nil_append, Bool.not_true, Bool.not_false, Bool.and_true, Bool.true_and, Bool.and_false, Bool.false_and, Bool.or_false, Bool.false_or, Bool.or_true, Bool.true_or, Nat.reduceBEq, Nat.reduceSub, List.all_cons, List.all_nil, s_bh, s_bb, s_hn, pt, a2, nl]
        try rfl
mutual
theorem stand_mem {nm : Bool} {w : Str} {m : Nat} : ∀ (t : Tm) (bd : List Str), t.ok m → w ∈ stand nm bd t → Wd m w
  | .hole s, bd, h, hw => by rw [stand] at hw; rw [Tm.ok] at h; split at hw <;> (try split at hw) <;> simp at hw; rw [hw]; exact h
  | .name s, bd, h, hw => by rw [stand] at hw; rw [Tm.ok] at h; split at hw <;> (try split at hw) <;> simp at hw; rw [hw]; exact h
  | .of w ts, bd, h, hw => by rw [stand] at hw; rw [Tm.ok] at h; exact stands_mem ts bd h.2 hw
  | .bind w n t, bd, h, hw => by rw [stand] at hw; rw [Tm.ok] at h; exact stand_mem t _ h.2.2 hw
theorem stands_mem {nm : Bool} {w : Str} {m : Nat} : ∀ (ts : List Tm) (bd : List Str), Tm.oks m ts → w ∈ stands nm bd ts → Wd m w
  | [], bd, h, hw => by rw [stands] at hw; cases hw
  | t :: ts, bd, h, hw => by
    rw [stands] at hw; rw [Tm.oks] at h
    rcases List.mem_append.mp hw with hw | hw
    · exact stand_mem t bd h.1 hw
    · exact stands_mem ts bd h.2 hw
end
def due (nm : Bool) (t : Tm) : List Str := rising (stand nm [] t)
theorem free_ok {k : Nat} {t : Tm} (h : t.h ≤ k) (hk : k ≤ 900) (hn : t.n ≤ 1000) : callV T.prog W (k + 2) "free_names" [.v t.d] = .ok (.new (.lst ((due true t).map .str))) [] := by
  have e : callV T.prog W (k + 2) "free_names" _ = _ := call_defV (T := T) ok (d := d_free_names) (by unfold T; simp) (k := k + 1) (W := W) (sls := [.v t.d]) rfl
  rw [e]
  have s1 := standing_ok (W := W) (nm := true) k k t [] h (Nat.le_refl _) hn (by simp; omega)
  have l := stand_le (nm := true) t []
  simp only [kd, if_pos, List.map_nil] at s1
  simp only [d_free_names, b_free_names, v_bind, v_of, v_need, v_ct, v_cf, v_only, v_toF, f_thn, f_thr, f_thb, f_thc, f_of, f_ct, f_cf, rs_v, rs_n, rs_l, sl_o, rl_n, rl_c, rl_k, g_0, g_s, st_0, st_s, lk_v, lk_o, fz_v, fz_n, fz_l, fz_o, fs_n, fs_c, vl_int, vl_str, vl_bl, vl_tup, vl_lst, vl_dic, vl_non, vl_glo, bv_s, or_ok, or_nl, or_nd, tv_bl, tv_int, tv_non, tv_lst, tv_tup, ag_v, ag_n, ag_l, ag_o, as_n, as_c, as_k, nd_n, nd_v, nd_w, nd_l, li_n, li_v, li_w, li_l, pb_n, pb_v, pb_w, pb_l, pb_o, bk_o, cl_r, ps_e, ps_n, ps_v, ps_o, pd_e, no_int, no_str, no_bl, no_tup, no_lst, no_dic, no_non, no_glo, av_n, av_c, av_k, ag1, ag2, wp_n, wp_c, ro_n, ro_c, gd_0, gd_s, mn_n, mn_c, ti_v, ti_t, tn_0, tn_1, hv_l, hv_t, hv_s, hv_n, hv_o, hc_m, hc_l, hl_l, hl_n, hl_o, fr_n, fr_s, fr_o, ed_v, gw_l, gw_o, mt_a, mt_p, mt_r, mt_j, mt_i, mt_1, mt_2, mt_e, ex_l, mk_j, mk_1, mk_2, mk_a, mk_e, mk_p, mk_r, mk_i, vs_n, vs_c, om_s, sv_e, sv_l, sv_d, ky_s, ky_i, sr_v, sr_n, rt_n, rt_v, rt_w, rt_l, rt_o, pr_0, pr_v, pr_n, pr_o, pr_f, e_k, e_v, e_g, e_tup, e_lst, e_bin, e_neg, ng_i, e_cmp, e_chain, e_and, e_or, e_not, e_ite, e_int1, in_i, e_ix, e_sl, sc_v, e_isi, e_call, e_callv, gl_c, e_callk, e_fz, e_gc, e_maxd, mx_c, e_sset, ss_c, e_dnew, e_disp, e_items, it_d, e_rvs, rv_l, e_blt, e_mth, e_lc, e_lc2, e_nil, e_cons, t_nil, t_cons, i_seq, i_rng1, rg_1, i_rng2, rg_2, i_enum, i_rev, s_expr, s_ret, s_retN, s_set, s_unp, un_t, s_star, s_seti, s_aug, au_1, au_2, au_a, au_s, s_ite, t_e, s_for, s_while, s_pass, s_cont, s_brk, s_nil, s_cons, fe_n, fe_b, fe_r, fe_s, o_add, o_sub, o_cat, o_lst, o_tup, c_lt, c_le, c_gt, c_ge, c_es, c_ns, c_ei, c_ni, c_eb, c_nb, c_nt, c_in, xt_0, xt_1, xt_2, xt_3, xl_0, xl_1, xl_2, xl_3, n_ll, n_lt, n_ld, n_tl, n_tt, n_dl, n_dt, n_ab, n_ib, n_ii, n_dd, n_rt, n_rl, n_g1, n_g2, q_0, q_1, q_2, q_3, q_4, q_5, q_6, q_7, q_8, al_0, al_1, al_2, al_3, ift, ifT, ifF, ifx, is_l, pw_a, pw_b, pw_c, pw_d, o_mul, o_fd, o_mod, o_pow, List.map_cons, List.map_nil, List.replicate, List.cons_append, List.nil_append, Bool.not_true, Bool.not_false, Bool.and_true, Bool.true_and, Bool.and_false, Bool.false_and, Bool.or_false, Bool.false_or, Bool.or_true, Bool.true_or, Nat.reduceBEq, Nat.reduceSub, List.all_cons, List.all_nil, s1, sset_ok (show (stand true [] t).length ≤ 3000 by omega)]
  try rfl
theorem holes_ok {k : Nat} {t : Tm} (h : t.h ≤ k) (hk : k ≤ 900) (hn : t.n ≤ 1000) : callV T.prog W (k + 2) "holes" [.v t.d] = .ok (.new (.lst ((due false t).map .str))) [] := by
  have e : callV T.prog W (k + 2) "holes" _ = _ := call_defV (T := T) ok (d := d_holes) (by unfold T; simp) (k := k + 1) (W := W) (sls := [.v t.d]) rfl
  rw [e]
  have s1 := standing_ok (W := W) (nm := false) k k t [] h (Nat.le_refl _) hn (by simp; omega)
  have l := stand_le (nm := false) t []
  have : kd false = Str.ofString "hole" := rfl
  simp only [this, List.map_nil] at s1
  simp only [d_holes, b_holes, v_bind, v_of, v_need, v_ct, v_cf, v_only, v_toF, f_thn, f_thr, f_thb, f_thc, f_of, f_ct, f_cf, rs_v, rs_n, rs_l, sl_o, rl_n, rl_c, rl_k, g_0, g_s, st_0, st_s, lk_v, lk_o, fz_v, fz_n, fz_l, fz_o, fs_n, fs_c, vl_int, vl_str, vl_bl, vl_tup, vl_lst, vl_dic, vl_non, vl_glo, bv_s, or_ok, or_nl, or_nd, tv_bl, tv_int, tv_non, tv_lst, tv_tup, ag_v, ag_n, ag_l, ag_o, as_n, as_c, as_k, nd_n, nd_v, nd_w, nd_l, li_n, li_v, li_w, li_l, pb_n, pb_v, pb_w, pb_l, pb_o, bk_o, cl_r, ps_e, ps_n, ps_v, ps_o, pd_e, no_int, no_str, no_bl, no_tup, no_lst, no_dic, no_non, no_glo, av_n, av_c, av_k, ag1, ag2, wp_n, wp_c, ro_n, ro_c, gd_0, gd_s, mn_n, mn_c, ti_v, ti_t, tn_0, tn_1, hv_l, hv_t, hv_s, hv_n, hv_o, hc_m, hc_l, hl_l, hl_n, hl_o, fr_n, fr_s, fr_o, ed_v, gw_l, gw_o, mt_a, mt_p, mt_r, mt_j, mt_i, mt_1, mt_2, mt_e, ex_l, mk_j, mk_1, mk_2, mk_a, mk_e, mk_p, mk_r, mk_i, vs_n, vs_c, om_s, sv_e, sv_l, sv_d, ky_s, ky_i, sr_v, sr_n, rt_n, rt_v, rt_w, rt_l, rt_o, pr_0, pr_v, pr_n, pr_o, pr_f, e_k, e_v, e_g, e_tup, e_lst, e_bin, e_neg, ng_i, e_cmp, e_chain, e_and, e_or, e_not, e_ite, e_int1, in_i, e_ix, e_sl, sc_v, e_isi, e_call, e_callv, gl_c, e_callk, e_fz, e_gc, e_maxd, mx_c, e_sset, ss_c, e_dnew, e_disp, e_items, it_d, e_rvs, rv_l, e_blt, e_mth, e_lc, e_lc2, e_nil, e_cons, t_nil, t_cons, i_seq, i_rng1, rg_1, i_rng2, rg_2, i_enum, i_rev, s_expr, s_ret, s_retN, s_set, s_unp, un_t, s_star, s_seti, s_aug, au_1, au_2, au_a, au_s, s_ite, t_e, s_for, s_while, s_pass, s_cont, s_brk, s_nil, s_cons, fe_n, fe_b, fe_r, fe_s, o_add, o_sub, o_cat, o_lst, o_tup, c_lt, c_le, c_gt, c_ge, c_es, c_ns, c_ei, c_ni, c_eb, c_nb, c_nt, c_in, xt_0, xt_1, xt_2, xt_3, xl_0, xl_1, xl_2, xl_3, n_ll, n_lt, n_ld, n_tl, n_tt, n_dl, n_dt, n_ab, n_ib, n_ii, n_dd, n_rt, n_rl, n_g1, n_g2, q_0, q_1, q_2, q_3, q_4, q_5, q_6, q_7, q_8, al_0, al_1, al_2, al_3, ift, ifT, ifF, ifx, is_l, pw_a, pw_b, pw_c, pw_d, o_mul, o_fd, o_mod, o_pow, List.map_cons, List.map_nil, List.replicate, List.cons_append, List.nil_append, Bool.not_true, Bool.not_false, Bool.and_true, Bool.true_and, Bool.and_false, Bool.false_and, Bool.or_false, Bool.false_or, Bool.or_true, Bool.true_or, Nat.reduceBEq, Nat.reduceSub, List.all_cons, List.all_nil, s1, sset_ok (show (stand false [] t).length ≤ 3000 by omega)]
  try rfl
theorem words_ok {nm : Bool} : ∀ (h k : Nat) (t : Tm) (bd : List Str), t.h ≤ h → h ≤ k → t.n ≤ 1000 → bd.length + h ≤ 1000 →
    callV T.prog W (k + 1) "_law_words" [.v t.d, .v (.str (kd nm)), .v (.lst (bd.map .str))] = .ok (.v (.lst ((stand nm bd t).map .str))) [] := by
  intro h
  induction h with
  | zero => intro k t bd h1; cases t <;> rw [Tm.h] at h1 <;> omega
  | succ h ih =>
    intro k t bd h1 hk hn hb
    obtain ⟨k, rfl⟩ : ∃ k2, k = k2 + 1 := ⟨k - 1, by omega⟩
    have e : callV T.prog W (k + 1 + 1) "_law_words" _ = _ := call_defV (T := T) ok (d := d__law_words) (by unfold T; simp) (k := k + 1) (W := W) (sls := [.v t.d, .v (.str (kd nm)), .v (.lst (bd.map .str))]) rfl
    rw [e]
    have all : ∀ (u : D) (bd : List Str) (xs : List Tm), Tm.hs xs ≤ h → Tm.ns xs ≤ 1000 → bd.length + h ≤ 1000 → ∃ s, forTV (forB (callV T.prog W (k + 1)) W (.v 4) b__law_words_f7) (xs.map Tm.d) [.v u, .v (.str (kd nm)), .v (.lst (bd.map .str)), .v (.lst []), .no] = .next [.v u, .v (.str (kd nm)), .v (.lst (bd.map .str)), .v (.lst ((stands nm bd xs).map .str)), s] := by
      intro u bd xs g1 g2 g3
      obtain ⟨ρ', e1, s, _, rfl⟩ := for_map (f := forB (callV T.prog W (k + 1)) W (.v 4) b__law_words_f7) (g := Tm.d) (xs := xs) (fun pre ρ => ∃ s, Pt s ∧ ρ = [.v u, .v (.str (kd nm)), .v (.lst (bd.map .str)), .v (.lst ((stands nm bd pre).map .str)), s]) ⟨.no, pt_n, by rw [stands, List.map_nil]⟩ (by
        rintro pre x post ρ rfl ⟨s, hs, rfl⟩
        rw [hs_app, Tm.hs] at g1
        rw [ns_app, Tm.ns] at g2
        have i1 := ih k x bd (by omega) (by omega) (by omega) (by omega)
        have l1 := stands_le (nm := nm) pre bd
        have l2 := stand_le (nm := nm) x bd
        have nc := fun r => need_cat (xs := (stands nm bd pre).map D.str) (ys := (stand nm bd x).map D.str) (by rw [List.length_map, List.length_map]; omega) (β := VR) r
        refine ⟨_, .inl ?_, .v x.d, pt_v, rfl⟩
        have sp : (stands nm bd (pre ++ [x])).map D.str = (stands nm bd pre).map D.str ++ (stand nm bd x).map D.str := by
          rw [stands_flat, stands_flat, List.flatMap_append, List.map_append]; simp
        rw [sp]
        simp only [forB, b__law_words_f7, v_bind, v_of, v_need, v_ct, v_cf, v_only, v_toF, f_thn, f_thr, f_thb, f_thc, f_of, f_ct, f_cf, rs_v, rs_n, rs_l, sl_o, rl_n, rl_c, rl_k, g_0, g_s, st_0, st_s, lk_v, lk_o, fz_v, fz_n, fz_l, fz_o, fs_n, fs_c, vl_int, vl_str, vl_bl, vl_tup, vl_lst, vl_dic, vl_non, vl_glo, bv_s, or_ok, or_nl, or_nd, tv_bl, tv_int, tv_non, tv_lst, tv_tup, ag_v, ag_n, ag_l, ag_o, as_n, as_c, as_k, nd_n, nd_v, nd_w, nd_l, li_n, li_v, li_w, li_l, pb_n, pb_v, pb_w, pb_l, pb_o, bk_o, cl_r, ps_e, ps_n, ps_v, ps_o, pd_e, no_int, no_str, no_bl, no_tup, no_lst, no_dic, no_non, no_glo, av_n, av_c, av_k, ag1, ag2, wp_n, wp_c, ro_n, ro_c, gd_0, gd_s, mn_n, mn_c, ti_v, ti_t, tn_0, tn_1, hv_l, hv_t, hv_s, hv_n, hv_o, hc_m, hc_l, hl_l, hl_n, hl_o, fr_n, fr_s, fr_o, ed_v, gw_l, gw_o, mt_a, mt_p, mt_r, mt_j, mt_i, mt_1, mt_2, mt_e, ex_l, mk_j, mk_1, mk_2, mk_a, mk_e, mk_p, mk_r, mk_i, vs_n, vs_c, om_s, sv_e, sv_l, sv_d, ky_s, ky_i, sr_v, sr_n, rt_n, rt_v, rt_w, rt_l, rt_o, pr_0, pr_v, pr_n, pr_o, pr_f, e_k, e_v, e_g, e_tup, e_lst, e_bin, e_neg, ng_i, e_cmp, e_chain, e_and, e_or, e_not, e_ite, e_int1, in_i, e_ix, e_sl, sc_v, e_isi, e_call, e_callv, gl_c, e_callk, e_fz, e_gc, e_maxd, mx_c, e_sset, ss_c, e_dnew, e_disp, e_items, it_d, e_rvs, rv_l, e_blt, e_mth, e_lc, e_lc2, e_nil, e_cons, t_nil, t_cons, i_seq, i_rng1, rg_1, i_rng2, rg_2, i_enum, i_rev, s_expr, s_ret, s_retN, s_set, s_unp, un_t, s_star, s_seti, s_aug, au_1, au_2, au_a, au_s, s_ite, t_e, s_for, s_while, s_pass, s_cont, s_brk, s_nil, s_cons, fe_n, fe_b, fe_r, fe_s, o_add, o_sub, o_cat, o_lst, o_tup, c_lt, c_le, c_gt, c_ge, c_es, c_ns, c_ei, c_ni, c_eb, c_nb, c_nt, c_in, xt_0, xt_1, xt_2, xt_3, xl_0, xl_1, xl_2, xl_3, n_ll, n_lt, n_ld, n_tl, n_tt, n_dl, n_dt, n_ab, n_ib, n_ii, n_dd, n_rt, n_rl, n_g1, n_g2, q_0, q_1, q_2, q_3, q_4, q_5, q_6, q_7, q_8, al_0, al_1, al_2, al_3, ift, ifT, ifF, ifx, is_l, pw_a, pw_b, pw_c, pw_d, o_mul, o_fd, o_mod, o_pow, List.map_cons, List.map_nil, List.replicate, List.cons_append, List.nil_append, Bool.not_true, Bool.not_false, Bool.and_true, Bool.true_and, Bool.and_false, Bool.false_and, Bool.or_false, Bool.false_or, Bool.or_true, Bool.true_or, Nat.reduceBEq, Nat.reduceSub, List.all_cons, List.all_nil, no_tm, hs _ _ _, i1, nc])
      exact ⟨s, e1⟩
    have wn := within_ok (W := W) (k := k) (t := t)
    cases t with
    | hole s =>
      cases nm with
      | true =>
        simp only [Tm.d, Tm.kids, kd, if_pos, List.map_nil] at wn ⊢
        simp only [d__law_words, b__law_words, stand, v_bind, v_of, v_need, v_ct, v_cf, v_only, v_toF, f_thn, f_thr, f_thb, f_thc, f_of, f_ct, f_cf, rs_v, rs_n, rs_l, sl_o, rl_n, rl_c, rl_k, g_0, g_s, st_0, st_s, lk_v, lk_o, fz_v, fz_n, fz_l, fz_o, fs_n, fs_c, vl_int, vl_str, vl_bl, vl_tup, vl_lst, vl_dic, vl_non, vl_glo, bv_s, or_ok, or_nl, or_nd, tv_bl, tv_int, tv_non, tv_lst, tv_tup, ag_v, ag_n, ag_l, ag_o, as_n, as_c, as_k, nd_n, nd_v, nd_w, nd_l, li_n, li_v, li_w, li_l, pb_n, pb_v, pb_w, pb_l, pb_o, bk_o, cl_r, ps_e, ps_n, ps_v, ps_o, pd_e, no_int, no_str, no_bl, no_tup, no_lst, no_dic, no_non, no_glo, av_n, av_c, av_k, ag1, ag2, wp_n, wp_c, ro_n, ro_c, gd_0, gd_s, mn_n, mn_c, ti_v, ti_t, tn_0, tn_1, hv_l, hv_t, hv_s, hv_n, hv_o, hc_m, hc_l, hl_l, hl_n, hl_o, fr_n, fr_s, fr_o, ed_v, gw_l, gw_o, mt_a, mt_p, mt_r, mt_j, mt_i, mt_1, mt_2, mt_e, ex_l, mk_j, mk_1, mk_2, mk_a, mk_e, mk_p, mk_r, mk_i, vs_n, vs_c, om_s, sv_e, sv_l, sv_d, ky_s, ky_i, sr_v, sr_n, rt_n, rt_v, rt_w, rt_l, rt_o, pr_0, pr_v, pr_n, pr_o, pr_f, e_k, e_v, e_g, e_tup, e_lst, e_bin, e_neg, ng_i, e_cmp, e_chain, e_and, e_or, e_not, e_ite, e_int1, in_i, e_ix, e_sl, sc_v, e_isi, e_call, e_callv, gl_c, e_callk, e_fz, e_gc, e_maxd, mx_c, e_sset, ss_c, e_dnew, e_disp, e_items, it_d, e_rvs, rv_l, e_blt, e_mth, e_lc, e_lc2, e_nil, e_cons, t_nil, t_cons, i_seq, i_rng1, rg_1, i_rng2, rg_2, i_enum, i_rev, s_expr, s_ret, s_retN, s_set, s_unp, un_t, s_star, s_seti, s_aug, au_1, au_2, au_a, au_s, s_ite, t_e, s_for, s_while, s_pass, s_cont, s_brk, s_nil, s_cons, fe_n, fe_b, fe_r, fe_s, o_add, o_sub, o_cat, o_lst, o_tup, c_lt, c_le, c_gt, c_ge, c_es, c_ns, c_ei, c_ni, c_eb, c_nb, c_nt, c_in, xt_0, xt_1, xt_2, xt_3, xl_0, xl_1, xl_2, xl_3, n_ll, n_lt, n_ld, n_tl, n_tt, n_dl, n_dt, n_ab, n_ib, n_ii, n_dd, n_rt, n_rl, n_g1, n_g2, q_0, q_1, q_2, q_3, q_4, q_5, q_6, q_7, q_8, al_0, al_1, al_2, al_3, ift, ifT, ifF, ifx, is_l, pw_a, pw_b, pw_c, pw_d, o_mul, o_fd, o_mod, o_pow, List.map_cons, List.map_nil, List.replicate, List.cons_append, List.nil_append, Bool.not_true, Bool.not_false, Bool.and_true, Bool.true_and, Bool.and_false, Bool.false_and, Bool.or_false, Bool.false_or, Bool.or_true, Bool.true_or, Nat.reduceBEq, Nat.reduceSub, List.all_cons, List.all_nil, s_hn, s_hb, wn, if_pos, forTV]
      | false =>
        have : kd false = Str.ofString "hole" := rfl
        simp only [Tm.d, Tm.kids, this, List.map_nil] at wn ⊢
        cases hh : has s bd <;> simp only [d__law_words, b__law_words, stand, v_bind, v_of, v_need, v_ct, v_cf, v_only, v_toF, f_thn, f_thr, f_thb, f_thc, f_of, f_ct, f_cf, rs_v, rs_n, rs_l, sl_o, rl_n, rl_c, rl_k, g_0, g_s, st_0, st_s, lk_v, lk_o, fz_v, fz_n, fz_l, fz_o, fs_n, fs_c, vl_int, vl_str, vl_bl, vl_tup, vl_lst, vl_dic, vl_non, vl_glo, bv_s, or_ok, or_nl, or_nd, tv_bl, tv_int, tv_non, tv_lst, tv_tup, ag_v, ag_n, ag_l, ag_o, as_n, as_c, as_k, nd_n, nd_v, nd_w, nd_l, li_n, li_v, li_w, li_l, pb_n, pb_v, pb_w, pb_l, pb_o, bk_o, cl_r, ps_e, ps_n, ps_v, ps_o, pd_e, no_int, no_str, no_bl, no_tup, no_lst, no_dic, no_non, no_glo, av_n, av_c, av_k, ag1, ag2, wp_n, wp_c, ro_n, ro_c, gd_0, gd_s, mn_n, mn_c, ti_v, ti_t, tn_0, tn_1, hv_l, hv_t, hv_s, hv_n, hv_o, hc_m, hc_l, hl_l, hl_n, hl_o, fr_n, fr_s, fr_o, ed_v, gw_l, gw_o, mt_a, mt_p, mt_r, mt_j, mt_i, mt_1, mt_2, mt_e, ex_l, mk_j, mk_1, mk_2, mk_a, mk_e, mk_p, mk_r, mk_i, vs_n, vs_c, om_s, sv_e, sv_l, sv_d, ky_s, ky_i, sr_v, sr_n, rt_n, rt_v, rt_w, rt_l, rt_o, pr_0, pr_v, pr_n, pr_o, pr_f, e_k, e_v, e_g, e_tup, e_lst, e_bin, e_neg, ng_i, e_cmp, e_chain, e_and, e_or, e_not, e_ite, e_int1, in_i, e_ix, e_sl, sc_v, e_isi, e_call, e_callv, gl_c, e_callk, e_fz, e_gc, e_maxd, mx_c, e_sset, ss_c, e_dnew, e_disp, e_items, it_d, e_rvs, rv_l, e_blt, e_mth, e_lc, e_lc2, e_nil, e_cons, t_nil, t_cons, i_seq, i_rng1, rg_1, i_rng2, rg_2, i_enum, i_rev, s_expr, s_ret, s_retN, s_set, s_unp, un_t, s_star, s_seti, s_aug, au_1, au_2, au_a, au_s, s_ite, t_e, s_for, s_while, s_pass, s_cont, s_brk, s_nil, s_cons, fe_n, fe_b, fe_r, fe_s, o_add, o_sub, o_cat, o_lst, o_tup, c_lt, c_le, c_gt, c_ge, c_es, c_ns, c_ei, c_ni, c_eb, c_nb, c_nt, c_in, xt_0, xt_1, xt_2, xt_3, xl_0, xl_1, xl_2, xl_3, n_ll, n_lt, n_ld, n_tl, n_tt, n_dl, n_dt, n_ab, n_ib, n_ii, n_dd, n_rt, n_rl, n_g1, n_g2, q_0, q_1, q_2, q_3, q_4, q_5, q_6, q_7, q_8, al_0, al_1, al_2, al_3, ift, ifT, ifF, ifx, is_l, pw_a, pw_b, pw_c, pw_d, o_mul, o_fd, o_mod, o_pow, List.map_cons, List.map_nil, List.replicate, List.cons_append, List.nil_append, Bool.not_true, Bool.not_false, Bool.and_true, Bool.true_and, Bool.and_false, Bool.false_and, Bool.or_false, Bool.false_or, Bool.or_true, Bool.true_or, Nat.reduceBEq, Nat.reduceSub, List.all_cons, List.all_nil, s_hh, s_hb, c_nt, in_strs, hh, wn, forTV] <;> rfl
    | name s =>
      cases nm with
      | true =>
        simp only [Tm.d, Tm.kids, kd, if_pos, List.map_nil] at wn ⊢
        cases hh : has s bd <;> simp only [d__law_words, b__law_words, stand, v_bind, v_of, v_need, v_ct, v_cf, v_only, v_toF, f_thn, f_thr, f_thb, f_thc, f_of, f_ct, f_cf, rs_v, rs_n, rs_l, sl_o, rl_n, rl_c, rl_k, g_0, g_s, st_0, st_s, lk_v, lk_o, fz_v, fz_n, fz_l, fz_o, fs_n, fs_c, vl_int, vl_str, vl_bl, vl_tup, vl_lst, vl_dic, vl_non, vl_glo, bv_s, or_ok, or_nl, or_nd, tv_bl, tv_int, tv_non, tv_lst, tv_tup, ag_v, ag_n, ag_l, ag_o, as_n, as_c, as_k, nd_n, nd_v, nd_w, nd_l, li_n, li_v, li_w, li_l, pb_n, pb_v, pb_w, pb_l, pb_o, bk_o, cl_r, ps_e, ps_n, ps_v, ps_o, pd_e, no_int, no_str, no_bl, no_tup, no_lst, no_dic, no_non, no_glo, av_n, av_c, av_k, ag1, ag2, wp_n, wp_c, ro_n, ro_c, gd_0, gd_s, mn_n, mn_c, ti_v, ti_t, tn_0, tn_1, hv_l, hv_t, hv_s, hv_n, hv_o, hc_m, hc_l, hl_l, hl_n, hl_o, fr_n, fr_s, fr_o, ed_v, gw_l, gw_o, mt_a, mt_p, mt_r, mt_j, mt_i, mt_1, mt_2, mt_e, ex_l, mk_j, mk_1, mk_2, mk_a, mk_e, mk_p, mk_r, mk_i, vs_n, vs_c, om_s, sv_e, sv_l, sv_d, ky_s, ky_i, sr_v, sr_n, rt_n, rt_v, rt_w, rt_l, rt_o, pr_0, pr_v, pr_n, pr_o, pr_f, e_k, e_v, e_g, e_tup, e_lst, e_bin, e_neg, ng_i, e_cmp, e_chain, e_and, e_or, e_not, e_ite, e_int1, in_i, e_ix, e_sl, sc_v, e_isi, e_call, e_callv, gl_c, e_callk, e_fz, e_gc, e_maxd, mx_c, e_sset, ss_c, e_dnew, e_disp, e_items, it_d, e_rvs, rv_l, e_blt, e_mth, e_lc, e_lc2, e_nil, e_cons, t_nil, t_cons, i_seq, i_rng1, rg_1, i_rng2, rg_2, i_enum, i_rev, s_expr, s_ret, s_retN, s_set, s_unp, un_t, s_star, s_seti, s_aug, au_1, au_2, au_a, au_s, s_ite, t_e, s_for, s_while, s_pass, s_cont, s_brk, s_nil, s_cons, fe_n, fe_b, fe_r, fe_s, o_add, o_sub, o_cat, o_lst, o_tup, c_lt, c_le, c_gt, c_ge, c_es, c_ns, c_ei, c_ni, c_eb, c_nb, c_nt, c_in, xt_0, xt_1, xt_2, xt_3, xl_0, xl_1, xl_2, xl_3, n_ll, n_lt, n_ld, n_tl, n_tt, n_dl, n_dt, n_ab, n_ib, n_ii, n_dd, n_rt, n_rl, n_g1, n_g2, q_0, q_1, q_2, q_3, q_4, q_5, q_6, q_7, q_8, al_0, al_1, al_2, al_3, ift, ifT, ifF, ifx, is_l, pw_a, pw_b, pw_c, pw_d, o_mul, o_fd, o_mod, o_pow, List.map_cons, List.map_nil, List.replicate, List.cons_append, List.nil_append, Bool.not_true, Bool.not_false, Bool.and_true, Bool.true_and, Bool.and_false, Bool.false_and, Bool.or_false, Bool.false_or, Bool.or_true, Bool.true_or, Nat.reduceBEq, Nat.reduceSub, List.all_cons, List.all_nil, s_nn, s_nb, c_nt, in_strs, hh, wn, forTV] <;> rfl
      | false =>
        have : kd false = Str.ofString "hole" := rfl
        simp only [Tm.d, Tm.kids, this, List.map_nil] at wn ⊢
        simp only [d__law_words, b__law_words, stand, v_bind, v_of, v_need, v_ct, v_cf, v_only, v_toF, f_thn, f_thr, f_thb, f_thc, f_of, f_ct, f_cf, rs_v, rs_n, rs_l, sl_o, rl_n, rl_c, rl_k, g_0, g_s, st_0, st_s, lk_v, lk_o, fz_v, fz_n, fz_l, fz_o, fs_n, fs_c, vl_int, vl_str, vl_bl, vl_tup, vl_lst, vl_dic, vl_non, vl_glo, bv_s, or_ok, or_nl, or_nd, tv_bl, tv_int, tv_non, tv_lst, tv_tup, ag_v, ag_n, ag_l, ag_o, as_n, as_c, as_k, nd_n, nd_v, nd_w, nd_l, li_n, li_v, li_w, li_l, pb_n, pb_v, pb_w, pb_l, pb_o, bk_o, cl_r, ps_e, ps_n, ps_v, ps_o, pd_e, no_int, no_str, no_bl, no_tup, no_lst, no_dic, no_non, no_glo, av_n, av_c, av_k, ag1, ag2, wp_n, wp_c, ro_n, ro_c, gd_0, gd_s, mn_n, mn_c, ti_v, ti_t, tn_0, tn_1, hv_l, hv_t, hv_s, hv_n, hv_o, hc_m, hc_l, hl_l, hl_n, hl_o, fr_n, fr_s, fr_o, ed_v, gw_l, gw_o, mt_a, mt_p, mt_r, mt_j, mt_i, mt_1, mt_2, mt_e, ex_l, mk_j, mk_1, mk_2, mk_a, mk_e, mk_p, mk_r, mk_i, vs_n, vs_c, om_s, sv_e, sv_l, sv_d, ky_s, ky_i, sr_v, sr_n, rt_n, rt_v, rt_w, rt_l, rt_o, pr_0, pr_v, pr_n, pr_o, pr_f, e_k, e_v, e_g, e_tup, e_lst, e_bin, e_neg, ng_i, e_cmp, e_chain, e_and, e_or, e_not, e_ite, e_int1, in_i, e_ix, e_sl, sc_v, e_isi, e_call, e_callv, gl_c, e_callk, e_fz, e_gc, e_maxd, mx_c, e_sset, ss_c, e_dnew, e_disp, e_items, it_d, e_rvs, rv_l, e_blt, e_mth, e_lc, e_lc2, e_nil, e_cons, t_nil, t_cons, i_seq, i_rng1, rg_1, i_rng2, rg_2, i_enum, i_rev, s_expr, s_ret, s_retN, s_set, s_unp, un_t, s_star, s_seti, s_aug, au_1, au_2, au_a, au_s, s_ite, t_e, s_for, s_while, s_pass, s_cont, s_brk, s_nil, s_cons, fe_n, fe_b, fe_r, fe_s, o_add, o_sub, o_cat, o_lst, o_tup, c_lt, c_le, c_gt, c_ge, c_es, c_ns, c_ei, c_ni, c_eb, c_nb, c_nt, c_in, xt_0, xt_1, xt_2, xt_3, xl_0, xl_1, xl_2, xl_3, n_ll, n_lt, n_ld, n_tl, n_tt, n_dl, n_dt, n_ab, n_ib, n_ii, n_dd, n_rt, n_rl, n_g1, n_g2, q_0, q_1, q_2, q_3, q_4, q_5, q_6, q_7, q_8, al_0, al_1, al_2, al_3, ift, ifT, ifF, ifx, is_l, pw_a, pw_b, pw_c, pw_d, o_mul, o_fd, o_mod, o_pow, List.map_cons, List.map_nil, List.replicate, List.cons_append, List.nil_append, Bool.not_true, Bool.not_false, Bool.and_true, Bool.true_and, Bool.and_false, Bool.false_and, Bool.or_false, Bool.false_or, Bool.or_true, Bool.true_or, Nat.reduceBEq, Nat.reduceSub, List.all_cons, List.all_nil, s_nh, s_nb, wn, forTV]
        try rfl
    | of w ts =>
      obtain ⟨s, a1⟩ := all (Tm.d (.of w ts)) bd ts (by rw [Tm.h] at h1; omega) (by rw [Tm.n] at hn; omega) (by omega)
      cases nm with
      | true =>
        simp only [Tm.d, Tm.kids, kd, if_pos] at wn a1 ⊢
        simp only [d__law_words, b__law_words, stand, v_bind, v_of, v_need, v_ct, v_cf, v_only, v_toF, f_thn, f_thr, f_thb, f_thc, f_of, f_ct, f_cf, rs_v, rs_n, rs_l, sl_o, rl_n, rl_c, rl_k, g_0, g_s, st_0, st_s, lk_v, lk_o, fz_v, fz_n, fz_l, fz_o, fs_n, fs_c, vl_int, vl_str, vl_bl, vl_tup, vl_lst, vl_dic, vl_non, vl_glo, bv_s, or_ok, or_nl, or_nd, tv_bl, tv_int, tv_non, tv_lst, tv_tup, ag_v, ag_n, ag_l, ag_o, as_n, as_c, as_k, nd_n, nd_v, nd_w, nd_l, li_n, li_v, li_w, li_l, pb_n, pb_v, pb_w, pb_l, pb_o, bk_o, cl_r, ps_e, ps_n, ps_v, ps_o, pd_e, no_int, no_str, no_bl, no_tup, no_lst, no_dic, no_non, no_glo, av_n, av_c, av_k, ag1, ag2, wp_n, wp_c, ro_n, ro_c, gd_0, gd_s, mn_n, mn_c, ti_v, ti_t, tn_0, tn_1, hv_l, hv_t, hv_s, hv_n, hv_o, hc_m, hc_l, hl_l, hl_n, hl_o, fr_n, fr_s, fr_o, ed_v, gw_l, gw_o, mt_a, mt_p, mt_r, mt_j, mt_i, mt_1, mt_2, mt_e, ex_l, mk_j, mk_1, mk_2, mk_a, mk_e, mk_p, mk_r, mk_i, vs_n, vs_c, om_s, sv_e, sv_l, sv_d, ky_s, ky_i, sr_v, sr_n, rt_n, rt_v, rt_w, rt_l, rt_o, pr_0, pr_v, pr_n, pr_o, pr_f, e_k, e_v, e_g, e_tup, e_lst, e_bin, e_neg, ng_i, e_cmp, e_chain, e_and, e_or, e_not, e_ite, e_int1, in_i, e_ix, e_sl, sc_v, e_isi, e_call, e_callv, gl_c, e_callk, e_fz, e_gc, e_maxd, mx_c, e_sset, ss_c, e_dnew, e_disp, e_items, it_d, e_rvs, rv_l, e_blt, e_mth, e_lc, e_lc2, e_nil, e_cons, t_nil, t_cons, i_seq, i_rng1, rg_1, i_rng2, rg_2, i_enum, i_rev, s_expr, s_ret, s_retN, s_set, s_unp, un_t, s_star, s_seti, s_aug, au_1, au_2, au_a, au_s, s_ite, t_e, s_for, s_while, s_pass, s_cont, s_brk, s_nil, s_cons, fe_n, fe_b, fe_r, fe_s, o_add, o_sub, o_cat, o_lst, o_tup, c_lt, c_le, c_gt, c_ge, c_es, c_ns, c_ei, c_ni, c_eb, c_nb, c_nt, c_in, xt_0, xt_1, xt_2, xt_3, xl_0, xl_1, xl_2, xl_3, n_ll, n_lt, n_ld, n_tl, n_tt, n_dl, n_dt, n_ab, n_ib, n_ii, n_dd, n_rt, n_rl, n_g1, n_g2, q_0, q_1, q_2, q_3, q_4, q_5, q_6, q_7, q_8, al_0, al_1, al_2, al_3, ift, ifT, ifF, ifx, is_l, pw_a, pw_b, pw_c, pw_d, o_mul, o_fd, o_mod, o_pow, List.map_cons, List.map_nil, List.replicate, List.cons_append, List.nil_append, Bool.not_true, Bool.not_false, Bool.and_true, Bool.true_and, Bool.and_false, Bool.false_and, Bool.or_false, Bool.false_or, Bool.or_true, Bool.true_or, Nat.reduceBEq, Nat.reduceSub, List.all_cons, List.all_nil, s_on, s_ob, wn, a1]
      | false =>
        have : kd false = Str.ofString "hole" := rfl
        simp only [Tm.d, Tm.kids, this] at wn a1 ⊢
        simp only [d__law_words, b__law_words, stand, v_bind, v_of, v_need, v_ct, v_cf, v_only, v_toF, f_thn, f_thr, f_thb, f_thc, f_of, f_ct, f_cf, rs_v, rs_n, rs_l, sl_o, rl_n, rl_c, rl_k, g_0, g_s, st_0, st_s, lk_v, lk_o, fz_v, fz_n, fz_l, fz_o, fs_n, fs_c, vl_int, vl_str, vl_bl, vl_tup, vl_lst, vl_dic, vl_non, vl_glo, bv_s, or_ok, or_nl, or_nd, tv_bl, tv_int, tv_non, tv_lst, tv_tup, ag_v, ag_n, ag_l, ag_o, as_n, as_c, as_k, nd_n, nd_v, nd_w, nd_l, li_n, li_v, li_w, li_l, pb_n, pb_v, pb_w, pb_l, pb_o, bk_o, cl_r, ps_e, ps_n, ps_v, ps_o, pd_e, no_int, no_str, no_bl, no_tup, no_lst, no_dic, no_non, no_glo, av_n, av_c, av_k, ag1, ag2, wp_n, wp_c, ro_n, ro_c, gd_0, gd_s, mn_n, mn_c, ti_v, ti_t, tn_0, tn_1, hv_l, hv_t, hv_s, hv_n, hv_o, hc_m, hc_l, hl_l, hl_n, hl_o, fr_n, fr_s, fr_o, ed_v, gw_l, gw_o, mt_a, mt_p, mt_r, mt_j, mt_i, mt_1, mt_2, mt_e, ex_l, mk_j, mk_1, mk_2, mk_a, mk_e, mk_p, mk_r, mk_i, vs_n, vs_c, om_s, sv_e, sv_l, sv_d, ky_s, ky_i, sr_v, sr_n, rt_n, rt_v, rt_w, rt_l, rt_o, pr_0, pr_v, pr_n, pr_o, pr_f, e_k, e_v, e_g, e_tup, e_lst, e_bin, e_neg, ng_i, e_cmp, e_chain, e_and, e_or, e_not, e_ite, e_int1, in_i, e_ix, e_sl, sc_v, e_isi, e_call, e_callv, gl_c, e_callk, e_fz, e_gc, e_maxd, mx_c, e_sset, ss_c, e_dnew, e_disp, e_items, it_d, e_rvs, rv_l, e_blt, e_mth, e_lc, e_lc2, e_nil, e_cons, t_nil, t_cons, i_seq, i_rng1, rg_1, i_rng2, rg_2, i_enum, i_rev, s_expr, s_ret, s_retN, s_set, s_unp, un_t, s_star, s_seti, s_aug, au_1, au_2, au_a, au_s, s_ite, t_e, s_for, s_while, s_pass, s_cont, s_brk, s_nil, s_cons, fe_n, fe_b, fe_r, fe_s, o_add, o_sub, o_cat, o_lst, o_tup, c_lt, c_le, c_gt, c_ge, c_es, c_ns, c_ei, c_ni, c_eb, c_nb, c_nt, c_in, xt_0, xt_1, xt_2, xt_3, xl_0, xl_1, xl_2, xl_3, n_ll, n_lt, n_ld, n_tl, n_tt, n_dl, n_dt, n_ab, n_ib, n_ii, n_dd, n_rt, n_rl, n_g1, n_g2, q_0, q_1, q_2, q_3, q_4, q_5, q_6, q_7, q_8, al_0, al_1, al_2, al_3, ift, ifT, ifF, ifx, is_l, pw_a, pw_b, pw_c, pw_d, o_mul, o_fd, o_mod, o_pow, List.map_cons, List.map_nil, List.replicate, List.cons_append, List.nil_append, Bool.not_true, Bool.not_false, Bool.and_true, Bool.true_and, Bool.and_false, Bool.false_and, Bool.or_false, Bool.false_or, Bool.or_true, Bool.true_or, Nat.reduceBEq, Nat.reduceSub, List.all_cons, List.all_nil, s_oh, s_ob, wn, a1]
    | bind w n t =>
      have a1 := fun bd h => all (Tm.d (.bind w n t)) bd [t] (by rw [Tm.h] at h1; rw [Tm.hs, Tm.hs]; omega) (by rw [Tm.n] at hn; rw [Tm.ns, Tm.ns]; omega) h
      have nc := fun r => need_cat (xs := bd.map D.str) (ys := [D.str n]) (by simp; omega) (β := VR) r
      cases nm with
      | true =>
        obtain ⟨s, a2⟩ := a1 (bd ++ [n]) (by simp; omega)
        simp only [Tm.d, Tm.kids, kd, if_pos, List.map_append, List.map_cons, List.map_nil, stands, List.append_nil] at wn a2 ⊢
        simp only [d__law_words, b__law_words, stand, v_bind, v_of, v_need, v_ct, v_cf, v_only, v_toF, f_thn, f_thr, f_thb, f_thc, f_of, f_ct, f_cf, rs_v, rs_n, rs_l, sl_o, rl_n, rl_c, rl_k, g_0, g_s, st_0, st_s, lk_v, lk_o, fz_v, fz_n, fz_l, fz_o, fs_n, fs_c, vl_int, vl_str, vl_bl, vl_tup, vl_lst, vl_dic, vl_non, vl_glo, bv_s, or_ok, or_nl, or_nd, tv_bl, tv_int, tv_non, tv_lst, tv_tup, ag_v, ag_n, ag_l, ag_o, as_n, as_c, as_k, nd_n, nd_v, nd_w, nd_l, li_n, li_v, li_w, li_l, pb_n, pb_v, pb_w, pb_l, pb_o, bk_o, cl_r, ps_e, ps_n, ps_v, ps_o, pd_e, no_int, no_str, no_bl, no_tup, no_lst, no_dic, no_non, no_glo, av_n, av_c, av_k, ag1, ag2, wp_n, wp_c, ro_n, ro_c, gd_0, gd_s, mn_n, mn_c, ti_v, ti_t, tn_0, tn_1, hv_l, hv_t, hv_s, hv_n, hv_o, hc_m, hc_l, hl_l, hl_n, hl_o, fr_n, fr_s, fr_o, ed_v, gw_l, gw_o, mt_a, mt_p, mt_r, mt_j, mt_i, mt_1, mt_2, mt_e, ex_l, mk_j, mk_1, mk_2, mk_a, mk_e, mk_p, mk_r, mk_i, vs_n, vs_c, om_s, sv_e, sv_l, sv_d, ky_s, ky_i, sr_v, sr_n, rt_n, rt_v, rt_w, rt_l, rt_o, pr_0, pr_v, pr_n, pr_o, pr_f, e_k, e_v, e_g, e_tup, e_lst, e_bin, e_neg, ng_i, e_cmp, e_chain, e_and, e_or, e_not, e_ite, e_int1, in_i, e_ix, e_sl, sc_v, e_isi, e_call, e_callv, gl_c, e_callk, e_fz, e_gc, e_maxd, mx_c, e_sset, ss_c, e_dnew, e_disp, e_items, it_d, e_rvs, rv_l, e_blt, e_mth, e_lc, e_lc2, e_nil, e_cons, t_nil, t_cons, i_seq, i_rng1, rg_1, i_rng2, rg_2, i_enum, i_rev, s_expr, s_ret, s_retN, s_set, s_unp, un_t, s_star, s_seti, s_aug, au_1, au_2, au_a, au_s, s_ite, t_e, s_for, s_while, s_pass, s_cont, s_brk, s_nil, s_cons, fe_n, fe_b, fe_r, fe_s, o_add, o_sub, o_cat, o_lst, o_tup, c_lt, c_le, c_gt, c_ge, c_es, c_ns, c_ei, c_ni, c_eb, c_nb, c_nt, c_in, xt_0, xt_1, xt_2, xt_3, xl_0, xl_1, xl_2, xl_3, n_ll, n_lt, n_ld, n_tl, n_tt, n_dl, n_dt, n_ab, n_ib, n_ii, n_dd, n_rt, n_rl, n_g1, n_g2, q_0, q_1, q_2, q_3, q_4, q_5, q_6, q_7, q_8, al_0, al_1, al_2, al_3, ift, ifT, ifF, ifx, is_l, pw_a, pw_b, pw_c, pw_d, o_mul, o_fd, o_mod, o_pow, List.map_cons, List.map_nil, List.replicate, List.cons_append, List.nil_append, Bool.not_true, Bool.not_false, Bool.and_true, Bool.true_and, Bool.and_false, Bool.false_and, Bool.or_false, Bool.false_or, Bool.or_true, Bool.true_or, Nat.reduceBEq, Nat.reduceSub, List.all_cons, List.all_nil, s_bn, s_bb, s_nn, wn, nc, a2, if_pos]
      | false =>
        have : kd false = Str.ofString "hole" := rfl
        obtain ⟨s, a2⟩ := a1 bd (by omega)
        simp only [Tm.d, Tm.kids, this, List.map_cons, List.map_nil, stands, List.append_nil] at wn a2 ⊢
        simp only [d__law_words, b__law_words, stand, v_bind, v_of, v_need, v_ct, v_cf, v_only, v_toF, f_thn, f_thr, f_thb, f_thc, f_of, f_ct, f_cf, rs_v, rs_n, rs_l, sl_o, rl_n, rl_c, rl_k, g_0, g_s, st_0, st_s, lk_v, lk_o, fz_v, fz_n, fz_l, fz_o, fs_n, fs_c, vl_int, vl_str, vl_bl, vl_tup, vl_lst, vl_dic, vl_non, vl_glo, bv_s, or_ok, or_nl, or_nd, tv_bl, tv_int, tv_non, tv_lst, tv_tup, ag_v, ag_n, ag_l, ag_o, as_n, as_c, as_k, nd_n, nd_v, nd_w, nd_l, li_n, li_v, li_w, li_l, pb_n, pb_v, pb_w, pb_l, pb_o, bk_o, cl_r, ps_e, ps_n, ps_v, ps_o, pd_e, no_int, no_str, no_bl, no_tup, no_lst, no_dic, no_non, no_glo, av_n, av_c, av_k, ag1, ag2, wp_n, wp_c, ro_n, ro_c, gd_0, gd_s, mn_n, mn_c, ti_v, ti_t, tn_0, tn_1, hv_l, hv_t, hv_s, hv_n, hv_o, hc_m, hc_l, hl_l, hl_n, hl_o, fr_n, fr_s, fr_o, ed_v, gw_l, gw_o, mt_a, mt_p, mt_r, mt_j, mt_i, mt_1, mt_2, mt_e, ex_l, mk_j, mk_1, mk_2, mk_a, mk_e, mk_p, mk_r, mk_i, vs_n, vs_c, om_s, sv_e, sv_l, sv_d, ky_s, ky_i, sr_v, sr_n, rt_n, rt_v, rt_w, rt_l, rt_o, pr_0, pr_v, pr_n, pr_o, pr_f, e_k, e_v, e_g, e_tup, e_lst, e_bin, e_neg, ng_i, e_cmp, e_chain, e_and, e_or, e_not, e_ite, e_int1, in_i, e_ix, e_sl, sc_v, e_isi, e_call, e_callv, gl_c, e_callk, e_fz, e_gc, e_maxd, mx_c, e_sset, ss_c, e_dnew, e_disp, e_items, it_d, e_rvs, rv_l, e_blt, e_mth, e_lc, e_lc2, e_nil, e_cons, t_nil, t_cons, i_seq, i_rng1, rg_1, i_rng2, rg_2, i_enum, i_rev, s_expr, s_ret, s_retN, s_set, s_unp, un_t, s_star, s_seti, s_aug, au_1, au_2, au_a, au_s, s_ite, t_e, s_for, s_while, s_pass, s_cont, s_brk, s_nil, s_cons, fe_n, fe_b, fe_r, fe_s, o_add, o_sub, o_cat, o_lst, o_tup, c_lt, c_le, c_gt, c_ge, c_es, c_ns, c_ei, c_ni, c_eb, c_nb, c_nt, c_in, xt_0, xt_1, xt_2, xt_3, xl_0, xl_1, xl_2, xl_3, n_ll, n_lt, n_ld, n_tl, n_tt, n_dl, n_dt, n_ab, n_ib, n_ii, n_dd, n_rt, n_rl, n_g1, n_g2, q_0, q_1, q_2, q_3, q_4, q_5, q_6, q_7, q_8, al_0, al_1, al_2, al_3, ift, ifT, ifF, ifx, is_l, pw_a, pw_b, pw_c, pw_d, o_mul, o_fd, o_mod, o_pow, List.map_cons, List.map_nil, List.replicate, List.cons_append, List.nil_append, Bool.not_true, Bool.not_false, Bool.and_true, Bool.true_and, Bool.and_false, Bool.false_and, Bool.or_false, Bool.false_or, Bool.or_true, Bool.true_or, Nat.reduceBEq, Nat.reduceSub, List.all_cons, List.all_nil, s_bh, s_bb, s_hn, wn, a2]
        try rfl
end

/-! ### the law -/
section
variable {W : Nat}
theorem due_ok {nm : Bool} {t : Tm} (h : t.ok 6) : ∀ w ∈ due nm t, PyData.strOk w = true := fun w hw => (stand_mem t [] h (rising_mem hw)).strOk
theorem due_len {nm : Bool} (t : Tm) : (due nm t).length ≤ t.n := Nat.le_trans (rising_len _) (stand_le t [])
/-- a turn of names and holes -/
theorem f7_ok {nm : Bool} {t : Tm} {a b c d e s7 s8 s6 : Sl} (h : t.ok 6) (hh : t.h ≤ 11) (hn : t.n ≤ 1000) (p6 : Pt s6) (p7 : Pt s7) (p8 : Pt s8) :
    ∃ u7 u8, Pt u7 ∧ Pt u8 ∧ forB (callV T.prog W 20) W (.v 6) b_law_f7 (.str (kd nm)) [a, b, c, .v t.d, d, e, s6, s7, s8] = .next [a, b, c, .v t.d, d, e, .v (.str (kd nm)), u7, u8] := by
  have w1 := words_ok (W := W) (nm := nm) 11 19 t [] hh (by decide) hn (by decide)
  have l := stand_le (nm := nm) t []
  have l2 := due_len (nm := nm) t
  have na := fun r => need_app (xs := (due nm t).map D.str) (by rw [List.length_map]; omega) (β := VR) r
  have ne := ne_strs (due_ok (nm := nm) h)
  have hd : rising (stand nm [] t) = due nm t := rfl
  have ss := fun ρ => sset_ok (ρ := ρ) (show (stand nm [] t).length ≤ 3000 by omega)
  rw [hd] at ss
  refine ⟨.v (.lst ((due nm t).map .str)), .own false .mu (.lst ((due nm t).map .str ++ [.str "zz"])), pt_v, pt_o, ?_⟩
  cases nm with
  | true =>
    have f1 := free_ok (W := W) (k := 18) (t := t) (by omega) (by decide) hn
    simp only [kd, if_pos, List.map_nil] at w1 ⊢
    simp only [forB, b_law_f7, v_bind, v_of, v_need, v_ct, v_cf, v_only, v_toF, f_thn, f_thr, f_thb, f_thc, f_of, f_ct, f_cf, rs_v, rs_n, rs_l, sl_o, rl_n, rl_c, rl_k, g_0, g_s, st_0, st_s, lk_v, lk_o, fz_v, fz_n, fz_l, fz_o, fs_n, fs_c, vl_int, vl_str, vl_bl, vl_tup, vl_lst, vl_dic, vl_non, vl_glo, bv_s, or_ok, or_nl, or_nd, tv_bl, tv_int, tv_non, tv_lst, tv_tup, ag_v, ag_n, ag_l, ag_o, as_n, as_c, as_k, nd_n, nd_v, nd_w, nd_l, li_n, li_v, li_w, li_l, pb_n, pb_v, pb_w, pb_l, pb_o, bk_o, cl_r, ps_e, ps_n, ps_v, ps_o, pd_e, no_int, no_str, no_bl, no_tup, no_lst, no_dic, no_non, no_glo, av_n, av_c, av_k, ag1, ag2, wp_n, wp_c, ro_n, ro_c, gd_0, gd_s, mn_n, mn_c, ti_v, ti_t, tn_0, tn_1, hv_l, hv_t, hv_s, hv_n, hv_o, hc_m, hc_l, hl_l, hl_n, hl_o, fr_n, fr_s, fr_o, ed_v, gw_l, gw_o, mt_a, mt_p, mt_r, mt_j, mt_i, mt_1, mt_2, mt_e, ex_l, mk_j, mk_1, mk_2, mk_a, mk_e, mk_p, mk_r, mk_i, vs_n, vs_c, om_s, sv_e, sv_l, sv_d, ky_s, ky_i, sr_v, sr_n, rt_n, rt_v, rt_w, rt_l, rt_o, pr_0, pr_v, pr_n, pr_o, pr_f, e_k, e_v, e_g, e_tup, e_lst, e_bin, e_neg, ng_i, e_cmp, e_chain, e_and, e_or, e_not, e_ite, e_int1, in_i, e_ix, e_sl, sc_v, e_isi, e_call, e_callv, gl_c, e_callk, e_fz, e_gc, e_maxd, mx_c, e_sset, ss_c, e_dnew, e_disp, e_items, it_d, e_rvs, rv_l, e_blt, e_mth, e_lc, e_lc2, e_nil, e_cons, t_nil, t_cons, i_seq, i_rng1, rg_1, i_rng2, rg_2, i_enum, i_rev, s_expr, s_ret, s_retN, s_set, s_unp, un_t, s_star, s_seti, s_aug, au_1, au_2, au_a, au_s, s_ite, t_e, s_for, s_while, s_pass, s_cont, s_brk, s_nil, s_cons, fe_n, fe_b, fe_r, fe_s, o_add, o_sub, o_cat, o_lst, o_tup, c_lt, c_le, c_gt, c_ge, c_es, c_ns, c_ei, c_ni, c_eb, c_nb, c_nt, c_in, xt_0, xt_1, xt_2, xt_3, xl_0, xl_1, xl_2, xl_3, n_ll, n_lt, n_ld, n_tl, n_tt, n_dl, n_dt, n_ab, n_ib, n_ii, n_dd, n_rt, n_rl, n_g1, n_g2, q_0, q_1, q_2, q_3, q_4, q_5, q_6, q_7, q_8, al_0, al_1, al_2, al_3, ift, ifT, ifF, ifx, is_l, pw_a, pw_b, pw_c, pw_d, o_mul, o_fd, o_mod, o_pow, List.map_cons, List.map_nil, List.replicate, List.cons_append, List.nil_append, Bool.not_true, Bool.not_false, Bool.and_true, Bool.true_and, Bool.and_false, Bool.false_and, Bool.or_false, Bool.false_or, Bool.or_true, Bool.true_or, Nat.reduceBEq, Nat.reduceSub, List.all_cons, List.all_nil, p6 _ _ _, p7 _ _ _, p8 _ _ _, w1, ss, s_nh, f1, ne, na]
  | false =>
    have f1 := holes_ok (W := W) (k := 18) (t := t) (by omega) (by decide) hn
    have : kd false = Str.ofString "hole" := rfl
    simp only [this, List.map_nil] at w1 ⊢
    simp only [forB, b_law_f7, v_bind, v_of, v_need, v_ct, v_cf, v_only, v_toF, f_thn, f_thr, f_thb, f_thc, f_of, f_ct, f_cf, rs_v, rs_n, rs_l, sl_o, rl_n, rl_c, rl_k, g_0, g_s, st_0, st_s, lk_v, lk_o, fz_v, fz_n, fz_l, fz_o, fs_n, fs_c, vl_int, vl_str, vl_bl, vl_tup, vl_lst, vl_dic, vl_non, vl_glo, bv_s, or_ok, or_nl, or_nd, tv_bl, tv_int, tv_non, tv_lst, tv_tup, ag_v, ag_n, ag_l, ag_o, as_n, as_c, as_k, nd_n, nd_v, nd_w, nd_l, li_n, li_v, li_w, li_l, pb_n, pb_v, pb_w, pb_l, pb_o, bk_o, cl_r, ps_e, ps_n, ps_v, ps_o, pd_e, no_int, no_str, no_bl, no_tup, no_lst, no_dic, no_non, no_glo, av_n, av_c, av_k, ag1, ag2, wp_n, wp_c, ro_n, ro_c, gd_0, gd_s, mn_n, mn_c, ti_v, ti_t, tn_0, tn_1, hv_l, hv_t, hv_s, hv_n, hv_o, hc_m, hc_l, hl_l, hl_n, hl_o, fr_n, fr_s, fr_o, ed_v, gw_l, gw_o, mt_a, mt_p, mt_r, mt_j, mt_i, mt_1, mt_2, mt_e, ex_l, mk_j, mk_1, mk_2, mk_a, mk_e, mk_p, mk_r, mk_i, vs_n, vs_c, om_s, sv_e, sv_l, sv_d, ky_s, ky_i, sr_v, sr_n, rt_n, rt_v, rt_w, rt_l, rt_o, pr_0, pr_v, pr_n, pr_o, pr_f, e_k, e_v, e_g, e_tup, e_lst, e_bin, e_neg, ng_i, e_cmp, e_chain, e_and, e_or, e_not, e_ite, e_int1, in_i, e_ix, e_sl, sc_v, e_isi, e_call, e_callv, gl_c, e_callk, e_fz, e_gc, e_maxd, mx_c, e_sset, ss_c, e_dnew, e_disp, e_items, it_d, e_rvs, rv_l, e_blt, e_mth, e_lc, e_lc2, e_nil, e_cons, t_nil, t_cons, i_seq, i_rng1, rg_1, i_rng2, rg_2, i_enum, i_rev, s_expr, s_ret, s_retN, s_set, s_unp, un_t, s_star, s_seti, s_aug, au_1, au_2, au_a, au_s, s_ite, t_e, s_for, s_while, s_pass, s_cont, s_brk, s_nil, s_cons, fe_n, fe_b, fe_r, fe_s, o_add, o_sub, o_cat, o_lst, o_tup, c_lt, c_le, c_gt, c_ge, c_es, c_ns, c_ei, c_ni, c_eb, c_nb, c_nt, c_in, xt_0, xt_1, xt_2, xt_3, xl_0, xl_1, xl_2, xl_3, n_ll, n_lt, n_ld, n_tl, n_tt, n_dl, n_dt, n_ab, n_ib, n_ii, n_dd, n_rt, n_rl, n_g1, n_g2, q_0, q_1, q_2, q_3, q_4, q_5, q_6, q_7, q_8, al_0, al_1, al_2, al_3, ift, ifT, ifF, ifx, is_l, pw_a, pw_b, pw_c, pw_d, o_mul, o_fd, o_mod, o_pow, List.map_cons, List.map_nil, List.replicate, List.cons_append, List.nil_append, Bool.not_true, Bool.not_false, Bool.and_true, Bool.true_and, Bool.and_false, Bool.false_and, Bool.or_false, Bool.false_or, Bool.or_true, Bool.true_or, Nat.reduceBEq, Nat.reduceSub, List.all_cons, List.all_nil, p6 _ _ _, p7 _ _ _, p8 _ _ _, w1, ss, s_hh, f1, ne, na]
theorem f6_ok {t : Tm} {a b c d s5 s7 s8 s6 : Sl} {x : Int} (h : t.ok 6) (hh : t.h ≤ 11) (hn : t.n ≤ 1000) (p5 : Pt s5) (p6 : Pt s6) (p7 : Pt s7) (p8 : Pt s8) :
    ∃ u6 u7 u8, Pt u6 ∧ Pt u7 ∧ Pt u8 ∧ forB (callV T.prog W 20) W (.v 5) b_law_f6 (.int x) [a, b, c, .v t.d, d, s5, s6, s7, s8] = .next [a, b, c, .v t.d, d, .v (.int x), u6, u7, u8] := by
  obtain ⟨ρ', e1, s6', s7', s8', q6, q7, q8, rfl⟩ := for_map (f := forB (callV T.prog W 20) W (.v 6) b_law_f7) (g := fun nm => D.str (kd nm)) (xs := [true, false]) (fun pre ρ => ∃ s6 s7 s8, Pt s6 ∧ Pt s7 ∧ Pt s8 ∧ ρ = [a, b, c, .v t.d, d, .v (.int x), s6, s7, s8]) ⟨s6, s7, s8, p6, p7, p8, rfl⟩ (by
    rintro pre nm post ρ _ ⟨s6, s7, s8, p6, p7, p8, rfl⟩
    obtain ⟨s7', s8', q7, q8, e⟩ := f7_ok (W := W) (nm := nm) (a := a) (b := b) (c := c) (d := d) (e := .v (.int x)) h hh hn p6 p7 p8
    exact ⟨_, .inl e, .v (.str (kd nm)), s7', s8', pt_v, q7, q8, rfl⟩)
  refine ⟨s6', s7', s8', q6, q7, q8, ?_⟩
  have k1 : kd true = Str.ofString "name" := rfl
  have k2 : kd false = Str.ofString "hole" := rfl
  simp only [List.map_cons, List.map_nil, k1, k2] at e1
  simp only [forB, b_law_f6, v_bind, v_of, v_need, v_ct, v_cf, v_only, v_toF, f_thn, f_thr, f_thb, f_thc, f_of, f_ct, f_cf, rs_v, rs_n, rs_l, sl_o, rl_n, rl_c, rl_k, g_0, g_s, st_0, st_s, lk_v, lk_o, fz_v, fz_n, fz_l, fz_o, fs_n, fs_c, vl_int, vl_str, vl_bl, vl_tup, vl_lst, vl_dic, vl_non, vl_glo, bv_s, or_ok, or_nl, or_nd, tv_bl, tv_int, tv_non, tv_lst, tv_tup, ag_v, ag_n, ag_l, ag_o, as_n, as_c, as_k, nd_n, nd_v, nd_w, nd_l, li_n, li_v, li_w, li_l, pb_n, pb_v, pb_w, pb_l, pb_o, bk_o, cl_r, ps_e, ps_n, ps_v, ps_o, pd_e, no_int, no_str, no_bl, no_tup, no_lst, no_dic, no_non, no_glo, av_n, av_c, av_k, ag1, ag2, wp_n, wp_c, ro_n, ro_c, gd_0, gd_s, mn_n, mn_c, ti_v, ti_t, tn_0, tn_1, hv_l, hv_t, hv_s, hv_n, hv_o, hc_m, hc_l, hl_l, hl_n, hl_o, fr_n, fr_s, fr_o, ed_v, gw_l, gw_o, mt_a, mt_p, mt_r, mt_j, mt_i, mt_1, mt_2, mt_e, ex_l, mk_j, mk_1, mk_2, mk_a, mk_e, mk_p, mk_r, mk_i, vs_n, vs_c, om_s, sv_e, sv_l, sv_d, ky_s, ky_i, sr_v, sr_n, rt_n, rt_v, rt_w, rt_l, rt_o, pr_0, pr_v, pr_n, pr_o, pr_f, e_k, e_v, e_g, e_tup, e_lst, e_bin, e_neg, ng_i, e_cmp, e_chain, e_and, e_or, e_not, e_ite, e_int1, in_i, e_ix, e_sl, sc_v, e_isi, e_call, e_callv, gl_c, e_callk, e_fz, e_gc, e_maxd, mx_c, e_sset, ss_c, e_dnew, e_disp, e_items, it_d, e_rvs, rv_l, e_blt, e_mth, e_lc, e_lc2, e_nil, e_cons, t_nil, t_cons, i_seq, i_rng1, rg_1, i_rng2, rg_2, i_enum, i_rev, s_expr, s_ret, s_retN, s_set, s_unp, un_t, s_star, s_seti, s_aug, au_1, au_2, au_a, au_s, s_ite, t_e, s_for, s_while, s_pass, s_cont, s_brk, s_nil, s_cons, fe_n, fe_b, fe_r, fe_s, o_add, o_sub, o_cat, o_lst, o_tup, c_lt, c_le, c_gt, c_ge, c_es, c_ns, c_ei, c_ni, c_eb, c_nb, c_nt, c_in, xt_0, xt_1, xt_2, xt_3, xl_0, xl_1, xl_2, xl_3, n_ll, n_lt, n_ld, n_tl, n_tt, n_dl, n_dt, n_ab, n_ib, n_ii, n_dd, n_rt, n_rl, n_g1, n_g2, q_0, q_1, q_2, q_3, q_4, q_5, q_6, q_7, q_8, al_0, al_1, al_2, al_3, ift, ifT, ifF, ifx, is_l, pw_a, pw_b, pw_c, pw_d, o_mul, o_fd, o_mod, o_pow, List.map_cons, List.map_nil, List.replicate, List.cons_append, List.nil_append, Bool.not_true, Bool.not_false, Bool.and_true, Bool.true_and, Bool.and_false, Bool.false_and, Bool.or_false, Bool.false_or, Bool.or_true, Bool.true_or, Nat.reduceBEq, Nat.reduceSub, List.all_cons, List.all_nil, p5 _ _ _, e1]
theorem law_true (ns : List Int) (hl : ns.length ≤ 63) : callV T.prog W 21 "law" [.v (.scr ns)] = .ok (.v (.bl true)) [] := by
  have e : callV T.prog W 21 "law" _ = _ := call_defV (T := T) ok (d := d_law) (by unfold T; simp) (k := 20) (W := W) (sls := [.v (.scr ns)]) rfl
  rw [e]
  have pk := pen_ok (k := 19) (W := W) hl
  have n1 := fun r => need_rng (m := 10) (by decide) (by decide) (α := WalkedV) r
  have n2 := fun r => need_rng (m := 2) (by decide) (by decide) (α := WalkedV) r
  obtain ⟨ρ', ey, p, s2, s3, s4, s5, s6, s7, s8, hp, _, rfl⟩ := for_inv (f := forB (callV T.prog W 20) W (.v 2) b_law_f3)
    (fun i ρ => ∃ (p : D) (s2 s3 s4 s5 s6 s7 s8 : Sl), Pn p (i * 10000) ∧ (Pt s2 ∧ Pt s3 ∧ Pt s4 ∧ Pt s5 ∧ Pt s6 ∧ Pt s7 ∧ Pt s8) ∧ ρ = [.v (.scr ns), .own false .mu p, s2, s3, s4, s5, s6, s7, s8])
    (xs := rngD 0 (Int.toNat 10)) (ρ := [.v (.scr ns), .own false .mu (.lst [.lst (ns.map .int), .int 0, .int 0]), .no, .no, .no, .no, .no, .no, .no]) (i0 := 0)
    ⟨_, .no, .no, .no, .no, .no, .no, .no, (pen_pn hl), ⟨pt_n, pt_n, pt_n, pt_n, pt_n, pt_n, pt_n⟩, rfl⟩ (by
    rintro i x ρ hx ⟨p, s2, s3, s4, s5, s6, s7, s8, hp, ⟨p2, p3, p4, p5, p6, p7, p8⟩, rfl⟩
    obtain ⟨hi, rfl⟩ := rngD_get hx
    have hi : i < 10 := hi
    obtain ⟨r1, c1, e1, q1, q1', P1⟩ := tk (k := 19) (W := W) (upto := 9) hp (by unfold big; omega) (by decide) (by decide)
    obtain ⟨r2, c2, e2, q2, q2', P2⟩ := tk (k := 19) (W := W) (upto := 30) P1 (by unfold big; omega) (by decide) (by decide)
    obtain ⟨r3, c3, e3, q3, q3', P3⟩ := tk (k := 19) (W := W) (upto := 3) P2 (by unfold big; omega) (by decide) (by decide)
    obtain ⟨t, c4, r', e4, h1, h2, h3, h4, h5, h6, h8⟩ := term_ok (W := W) (gaps := decide (0 < r3)) 9 20 (1 + r1) c3 _ r2 (by omega) (by decide) P3 (by unfold big; omega)
    have hn : t.n ≤ 31 := by omega
    have hh : t.h ≤ 11 := by omega
    have tok := low_ok h1
    have rp := fun ρ => repr_tm (ρ := ρ) (tm_rp tok (by omega) (by omega))
    obtain ⟨ρ', ez, s5', s6', s7', s8', t5, t6, t7, t8, rfl⟩ := for_inv (f := forB (callV T.prog W 20) W (.v 5) b_law_f6)
      (fun j ρ => ∃ s5 s6 s7 s8, Pt s5 ∧ Pt s6 ∧ Pt s7 ∧ Pt s8 ∧ ρ = [.v (.scr ns), .own false .mu c4, .v (.int (0 + i)), .v t.d, .v (.str t.d.py.shown), s5, s6, s7, s8])
      (xs := rngD 0 (Int.toNat 2)) (ρ := [.v (.scr ns), .own false .mu c4, .v (.int (0 + i)), .v t.d, .v (.str t.d.py.shown), s5, s6, s7, s8]) (i0 := 0)
      ⟨s5, s6, s7, s8, p5, p6, p7, p8, rfl⟩ (by
      rintro j x ρ hx ⟨s5, s6, s7, s8, p5, p6, p7, p8, rfl⟩
      obtain ⟨hj, rfl⟩ := rngD_get hx
      obtain ⟨s6', s7', s8', t6, t7, t8, e⟩ := f6_ok (W := W) (a := .v (.scr ns)) (b := .own false .mu c4) (c := .v (.int (0 + i))) (d := .v (.str t.d.py.shown)) (x := 0 + j) tok hh (by omega) p5 p6 p7 p8
      exact ⟨_, .inl e, _, s6', s7', s8', pt_v, t6, t7, t8, rfl⟩)
    have w1 := words_ok (W := W) (nm := true) 11 19 t [] hh (by decide) (by omega) (by decide)
    have f1 := free_ok (W := W) (k := 18) (t := t) (by omega) (by decide) (by omega)
    simp only [kd, if_pos, List.map_nil] at w1
    have ne := ne_strs (due_ok (nm := true) tok)
    have l := stand_le (nm := true) t []
    have hd : rising (stand true [] t) = due true t := rfl
    have ss := fun ρ => sset_ok (ρ := ρ) (show (stand true [] t).length ≤ 3000 by omega)
    rw [hd] at ss
    refine ⟨_, .inl ?_, c4, .v (.int (0 + i)), .v t.d, .v (.str t.d.py.shown), s5', s6', s7', s8', h5.mono (by omega), ⟨pt_v, pt_v, pt_v, t5, t6, t7, t8⟩, rfl⟩
    simp only [forB, b_law_f3, v_bind, v_of, v_need, v_ct, v_cf, v_only, v_toF, f_thn, f_thr, f_thb, f_thc, f_of, f_ct, f_cf, rs_v, rs_n, rs_l, sl_o, rl_n, rl_c, rl_k, g_0, g_s, st_0, st_s, lk_v, lk_o, fz_v, fz_n, fz_l, fz_o, fs_n, fs_c, vl_int, vl_str, vl_bl, vl_tup, vl_lst, vl_dic, vl_non, vl_glo, bv_s, or_ok, or_nl, or_nd, tv_bl, tv_int, tv_non, tv_lst, tv_tup, ag_v, ag_n, ag_l, ag_o, as_n, as_c, as_k, nd_n, nd_v, nd_w, nd_l, li_n, li_v, li_w, li_l, pb_n, pb_v, pb_w, pb_l, pb_o, bk_o, cl_r, ps_e, ps_n, ps_v, ps_o, pd_e, no_int, no_str, no_bl, no_tup, no_lst, no_dic, no_non, no_glo, av_n, av_c, av_k, ag1, ag2, wp_n, wp_c, ro_n, ro_c, gd_0, gd_s, mn_n, mn_c, ti_v, ti_t, tn_0, tn_1, hv_l, hv_t, hv_s, hv_n, hv_o, hc_m, hc_l, hl_l, hl_n, hl_o, fr_n, fr_s, fr_o, ed_v, gw_l, gw_o, mt_a, mt_p, mt_r, mt_j, mt_i, mt_1, mt_2, mt_e, ex_l, mk_j, mk_1, mk_2, mk_a, mk_e, mk_p, mk_r, mk_i, vs_n, vs_c, om_s, sv_e, sv_l, sv_d, ky_s, ky_i, sr_v, sr_n, rt_n, rt_v, rt_w, rt_l, rt_o, pr_0, pr_v, pr_n, pr_o, pr_f, e_k, e_v, e_g, e_tup, e_lst, e_bin, e_neg, ng_i, e_cmp, e_chain, e_and, e_or, e_not, e_ite, e_int1, in_i, e_ix, e_sl, sc_v, e_isi, e_call, e_callv, gl_c, e_callk, e_fz, e_gc, e_maxd, mx_c, e_sset, ss_c, e_dnew, e_disp, e_items, it_d, e_rvs, rv_l, e_blt, e_mth, e_lc, e_lc2, e_nil, e_cons, t_nil, t_cons, i_seq, i_rng1, rg_1, i_rng2, rg_2, i_enum, i_rev, s_expr, s_ret, s_retN, s_set, s_unp, un_t, s_star, s_seti, s_aug, au_1, au_2, au_a, au_s, s_ite, t_e, s_for, s_while, s_pass, s_cont, s_brk, s_nil, s_cons, fe_n, fe_b, fe_r, fe_s, o_add, o_sub, o_cat, o_lst, o_tup, c_lt, c_le, c_gt, c_ge, c_es, c_ns, c_ei, c_ni, c_eb, c_nb, c_nt, c_in, xt_0, xt_1, xt_2, xt_3, xl_0, xl_1, xl_2, xl_3, n_ll, n_lt, n_ld, n_tl, n_tt, n_dl, n_dt, n_ab, n_ib, n_ii, n_dd, n_rt, n_rl, n_g1, n_g2, q_0, q_1, q_2, q_3, q_4, q_5, q_6, q_7, q_8, al_0, al_1, al_2, al_3, ift, ifT, ifF, ifx, is_l, pw_a, pw_b, pw_c, pw_d, o_mul, o_fd, o_mod, o_pow, List.map_cons, List.map_nil, List.replicate, List.cons_append, List.nil_append, Bool.not_true, Bool.not_false, Bool.and_true, Bool.true_and, Bool.and_false, Bool.false_and, Bool.or_false, Bool.false_or, Bool.or_true, Bool.true_or, Nat.reduceBEq, Nat.reduceSub, List.all_cons, List.all_nil, p2 _ _ _, p3 _ _ _, p4 _ _ _, e1, e2, e3, e4, rp, n2, vl_tm, ez, f1, w1, ss, ne, beq_self_eq_true])
  simp only [d_law, b_law, v_bind, v_of, v_need, v_ct, v_cf, v_only, v_toF, f_thn, f_thr, f_thb, f_thc, f_of, f_ct, f_cf, rs_v, rs_n, rs_l, sl_o, rl_n, rl_c, rl_k, g_0, g_s, st_0, st_s, lk_v, lk_o, fz_v, fz_n, fz_l, fz_o, fs_n, fs_c, vl_int, vl_str, vl_bl, vl_tup, vl_lst, vl_dic, vl_non, vl_glo, bv_s, or_ok, or_nl, or_nd, tv_bl, tv_int, tv_non, tv_lst, tv_tup, ag_v, ag_n, ag_l, ag_o, as_n, as_c, as_k, nd_n, nd_v, nd_w, nd_l, li_n, li_v, li_w, li_l, pb_n, pb_v, pb_w, pb_l, pb_o, bk_o, cl_r, ps_e, ps_n, ps_v, ps_o, pd_e, no_int, no_str, no_bl, no_tup, no_lst, no_dic, no_non, no_glo, av_n, av_c, av_k, ag1, ag2, wp_n, wp_c, ro_n, ro_c, gd_0, gd_s, mn_n, mn_c, ti_v, ti_t, tn_0, tn_1, hv_l, hv_t, hv_s, hv_n, hv_o, hc_m, hc_l, hl_l, hl_n, hl_o, fr_n, fr_s, fr_o, ed_v, gw_l, gw_o, mt_a, mt_p, mt_r, mt_j, mt_i, mt_1, mt_2, mt_e, ex_l, mk_j, mk_1, mk_2, mk_a, mk_e, mk_p, mk_r, mk_i, vs_n, vs_c, om_s, sv_e, sv_l, sv_d, ky_s, ky_i, sr_v, sr_n, rt_n, rt_v, rt_w, rt_l, rt_o, pr_0, pr_v, pr_n, pr_o, pr_f, e_k, e_v, e_g, e_tup, e_lst, e_bin, e_neg, ng_i, e_cmp, e_chain, e_and, e_or, e_not, e_ite, e_int1, in_i, e_ix, e_sl, sc_v, e_isi, e_call, e_callv, gl_c, e_callk, e_fz, e_gc, e_maxd, mx_c, e_sset, ss_c, e_dnew, e_disp, e_items, it_d, e_rvs, rv_l, e_blt, e_mth, e_lc, e_lc2, e_nil, e_cons, t_nil, t_cons, i_seq, i_rng1, rg_1, i_rng2, rg_2, i_enum, i_rev, s_expr, s_ret, s_retN, s_set, s_unp, un_t, s_star, s_seti, s_aug, au_1, au_2, au_a, au_s, s_ite, t_e, s_for, s_while, s_pass, s_cont, s_brk, s_nil, s_cons, fe_n, fe_b, fe_r, fe_s, o_add, o_sub, o_cat, o_lst, o_tup, c_lt, c_le, c_gt, c_ge, c_es, c_ns, c_ei, c_ni, c_eb, c_nb, c_nt, c_in, xt_0, xt_1, xt_2, xt_3, xl_0, xl_1, xl_2, xl_3, n_ll, n_lt, n_ld, n_tl, n_tt, n_dl, n_dt, n_ab, n_ib, n_ii, n_dd, n_rt, n_rl, n_g1, n_g2, q_0, q_1, q_2, q_3, q_4, q_5, q_6, q_7, q_8, al_0, al_1, al_2, al_3, ift, ifT, ifF, ifx, is_l, pw_a, pw_b, pw_c, pw_d, o_mul, o_fd, o_mod, o_pow, List.map_cons, List.map_nil, List.replicate, List.cons_append, List.nil_append, Bool.not_true, Bool.not_false, Bool.and_true, Bool.true_and, Bool.and_false, Bool.false_and, Bool.or_false, Bool.false_or, Bool.or_true, Bool.true_or, Nat.reduceBEq, Nat.reduceSub, List.all_cons, List.all_nil, pk, n1, ey]
end
end Own

namespace Own
open PySem L2 PyProof.Rows
theorem facts {K : PySem.W.Frag} {h : Heap} {mg : Str → Option Value} (X : K.In h) (G : h.Ns mainGlobals mg)
    {f0 : Addr} {o0 r0 : Option Addr} {s0 : Array (Option Value)} {c0 v0 e0 p0 k0 t0 : Value}
    {f1 : Addr} {o1 r1 : Option Addr} {s1 : Array (Option Value)} {c1 v1 e1 p1 k1 t1 : Value}
    {f2 : Addr} {o2 r2 : Option Addr} {s2 : Array (Option Value)} {c2 v2 e2 p2 k2 t2 : Value}
    {f3 : Addr} {o3 r3 : Option Addr} {s3 : Array (Option Value)} {c3 v3 e3 p3 k3 t3 : Value}
    {f4 : Addr} {o4 r4 : Option Addr} {s4 : Array (Option Value)} {c4 v4 e4 p4 k4 t4 : Value}
    {f5 : Addr} {o5 r5 : Option Addr} {s5 : Array (Option Value)} {c5 v5 e5 p5 k5 t5 : Value}
    {f6 : Addr} {o6 r6 : Option Addr} {s6 : Array (Option Value)} {c6 v6 e6 p6 k6 t6 : Value}
    {f7 : Addr} {o7 r7 : Option Addr} {s7 : Array (Option Value)} {c7 v7 e7 p7 k7 t7 : Value}
    {f8 : Addr} {o8 r8 : Option Addr} {s8 : Array (Option Value)} {c8 v8 e8 p8 k8 t8 : Value}
    {f9 : Addr} {o9 r9 : Option Addr} {s9 : Array (Option Value)} {c9 v9 e9 p9 k9 t9 : Value}
    {f10 : Addr} {o10 r10 : Option Addr} {s10 : Array (Option Value)} {c10 v10 e10 p10 k10 t10 : Value}
    (xa0 : PySem.W.nsIn K mainGlobals "parts_of" = some (some (.ref f0))) (xl0 : K.lookup f0 = some ⟨c0, o0, .func (PySem.W.fnOf "parts_of" "parts_of" (L2.defArgs d_parts_of.st) (L2.defBody d_parts_of.st) (L2.defScope d_parts_of.st) .none v0 e0 p0 r0 k0 t0), s0⟩) (xc0 : PySem.W.codeIn K k0 "parts_of" = true) (xk0 : PySem.W.keepIn K (.ref f0) = true)
    (xa1 : PySem.W.nsIn K mainGlobals "standing" = some (some (.ref f1))) (xl1 : K.lookup f1 = some ⟨c1, o1, .func (PySem.W.fnOf "standing" "standing" (L2.defArgs d_standing.st) (L2.defBody d_standing.st) (L2.defScope d_standing.st) .none v1 e1 p1 r1 k1 t1), s1⟩) (xc1 : PySem.W.codeIn K k1 "standing" = true) (xk1 : PySem.W.keepIn K (.ref f1) = true)
    (xa2 : PySem.W.nsIn K mainGlobals "free_names" = some (some (.ref f2))) (xl2 : K.lookup f2 = some ⟨c2, o2, .func (PySem.W.fnOf "free_names" "free_names" (L2.defArgs d_free_names.st) (L2.defBody d_free_names.st) (L2.defScope d_free_names.st) .none v2 e2 p2 r2 k2 t2), s2⟩) (xc2 : PySem.W.codeIn K k2 "free_names" = true) (xk2 : PySem.W.keepIn K (.ref f2) = true)
    (xa3 : PySem.W.nsIn K mainGlobals "holes" = some (some (.ref f3))) (xl3 : K.lookup f3 = some ⟨c3, o3, .func (PySem.W.fnOf "holes" "holes" (L2.defArgs d_holes.st) (L2.defBody d_holes.st) (L2.defScope d_holes.st) .none v3 e3 p3 r3 k3 t3), s3⟩) (xc3 : PySem.W.codeIn K k3 "holes" = true) (xk3 : PySem.W.keepIn K (.ref f3) = true)
    (xa4 : PySem.W.nsIn K mainGlobals "_law_pen" = some (some (.ref f4))) (xl4 : K.lookup f4 = some ⟨c4, o4, .func (PySem.W.fnOf "_law_pen" "_law_pen" (L2.defArgs d__law_pen.st) (L2.defBody d__law_pen.st) (L2.defScope d__law_pen.st) .none v4 e4 p4 r4 k4 t4), s4⟩) (xc4 : PySem.W.codeIn K k4 "_law_pen" = true) (xk4 : PySem.W.keepIn K (.ref f4) = true)
    (xa5 : PySem.W.nsIn K mainGlobals "_law_take" = some (some (.ref f5))) (xl5 : K.lookup f5 = some ⟨c5, o5, .func (PySem.W.fnOf "_law_take" "_law_take" (L2.defArgs d__law_take.st) (L2.defBody d__law_take.st) (L2.defScope d__law_take.st) .none v5 e5 p5 r5 k5 t5), s5⟩) (xc5 : PySem.W.codeIn K k5 "_law_take" = true) (xk5 : PySem.W.keepIn K (.ref f5) = true)
    (xa6 : PySem.W.nsIn K mainGlobals "_law_word" = some (some (.ref f6))) (xl6 : K.lookup f6 = some ⟨c6, o6, .func (PySem.W.fnOf "_law_word" "_law_word" (L2.defArgs d__law_word.st) (L2.defBody d__law_word.st) (L2.defScope d__law_word.st) .none v6 e6 p6 r6 k6 t6), s6⟩) (xc6 : PySem.W.codeIn K k6 "_law_word" = true) (xk6 : PySem.W.keepIn K (.ref f6) = true)
    (xa7 : PySem.W.nsIn K mainGlobals "_law_term" = some (some (.ref f7))) (xl7 : K.lookup f7 = some ⟨c7, o7, .func (PySem.W.fnOf "_law_term" "_law_term" (L2.defArgs d__law_term.st) (L2.defBody d__law_term.st) (L2.defScope d__law_term.st) .none v7 e7 p7 r7 k7 t7), s7⟩) (xc7 : PySem.W.codeIn K k7 "_law_term" = true) (xk7 : PySem.W.keepIn K (.ref f7) = true)
    (xa8 : PySem.W.nsIn K mainGlobals "_law_within" = some (some (.ref f8))) (xl8 : K.lookup f8 = some ⟨c8, o8, .func (PySem.W.fnOf "_law_within" "_law_within" (L2.defArgs d__law_within.st) (L2.defBody d__law_within.st) (L2.defScope d__law_within.st) .none v8 e8 p8 r8 k8 t8), s8⟩) (xc8 : PySem.W.codeIn K k8 "_law_within" = true) (xk8 : PySem.W.keepIn K (.ref f8) = true)
    (xa9 : PySem.W.nsIn K mainGlobals "_law_words" = some (some (.ref f9))) (xl9 : K.lookup f9 = some ⟨c9, o9, .func (PySem.W.fnOf "_law_words" "_law_words" (L2.defArgs d__law_words.st) (L2.defBody d__law_words.st) (L2.defScope d__law_words.st) .none v9 e9 p9 r9 k9 t9), s9⟩) (xc9 : PySem.W.codeIn K k9 "_law_words" = true) (xk9 : PySem.W.keepIn K (.ref f9) = true)
    (xa10 : PySem.W.nsIn K mainGlobals "law" = some (some (.ref f10))) (xl10 : K.lookup f10 = some ⟨c10, o10, .func (PySem.W.fnOf "law" "law" (L2.defArgs d_law.st) (L2.defBody d_law.st) (L2.defScope d_law.st) .none v10 e10 p10 r10 k10 t10), s10⟩) (xc10 : PySem.W.codeIn K k10 "law" = true) (xk10 : PySem.W.keepIn K (.ref f10) = true)
    (xz0 : PySem.W.nsIn K mainGlobals "abs" = some none)
    (xz1 : PySem.W.nsIn K mainGlobals "int" = some none)
    (xz2 : PySem.W.nsIn K mainGlobals "isinstance" = some none)
    (xz3 : PySem.W.nsIn K mainGlobals "len" = some none)
    (xz4 : PySem.W.nsIn K mainGlobals "list" = some none)
    (xz5 : PySem.W.nsIn K mainGlobals "range" = some none)
    (xz6 : PySem.W.nsIn K mainGlobals "repr" = some none)
    (xz7 : PySem.W.nsIn K mainGlobals "set" = some none)
    (xz8 : PySem.W.nsIn K mainGlobals "sorted" = some none)
    (xz9 : PySem.W.nsIn K mainGlobals "tuple" = some none)
    : (∀ D ∈ T.ds, VS.Stands K mg T D) ∧ (∀ x ∈ T.bs, mg x = none) ∧ ∀ p ∈ T.cs, ∃ v u, VS.cstV p.2 = some v ∧ mg p.1 = some u ∧ RelV v u := by
  refine ⟨?_, ?_, ?_⟩
  · intro D hD
    simp only [T, List.mem_cons, List.not_mem_nil, or_false] at hD
    rcases hD with rfl | rfl | rfl | rfl | rfl | rfl | rfl | rfl | rfl | rfl | rfl
    · refine VS.stand_of (PySem.W.mg_of X G xa0) (L2.fun_mk (st := d_parts_of.st) xl0 xc0 xk0) (fun _ _ _ _ _ _ us hl => match us, hl with | [_], _ => rfl) ?_
      intro p hp hx
      simp only [T, List.mem_cons, List.not_mem_nil, or_false] at hp
      rcases hp with rfl
      · exact absurd hx (by decide +kernel)
    · refine VS.stand_of (PySem.W.mg_of X G xa1) (L2.fun_mk (st := d_standing.st) xl1 xc1 xk1) (fun _ _ _ _ _ _ us hl => match us, hl with | [_, _, _], _ => rfl) ?_
      intro p hp hx
      simp only [T, List.mem_cons, List.not_mem_nil, or_false] at hp
      rcases hp with rfl
      · exact absurd hx (by decide +kernel)
    · refine VS.stand_of (PySem.W.mg_of X G xa2) (L2.fun_mk (st := d_free_names.st) xl2 xc2 xk2) (fun _ _ _ _ _ _ us hl => match us, hl with | [_], _ => rfl) ?_
      intro p hp hx
      simp only [T, List.mem_cons, List.not_mem_nil, or_false] at hp
      rcases hp with rfl
      · intro _ _ _ _ _ _ us hl
        match us, hl with | [_], _ => rfl
    · refine VS.stand_of (PySem.W.mg_of X G xa3) (L2.fun_mk (st := d_holes.st) xl3 xc3 xk3) (fun _ _ _ _ _ _ us hl => match us, hl with | [_], _ => rfl) ?_
      intro p hp hx
      simp only [T, List.mem_cons, List.not_mem_nil, or_false] at hp
      rcases hp with rfl
      · exact absurd hx (by decide +kernel)
    · refine VS.stand_of (PySem.W.mg_of X G xa4) (L2.fun_mk (st := d__law_pen.st) xl4 xc4 xk4) (fun _ _ _ _ _ _ us hl => match us, hl with | [_], _ => rfl) ?_
      intro p hp hx
      simp only [T, List.mem_cons, List.not_mem_nil, or_false] at hp
      rcases hp with rfl
      · exact absurd hx (by decide +kernel)
    · refine VS.stand_of (PySem.W.mg_of X G xa5) (L2.fun_mk (st := d__law_take.st) xl5 xc5 xk5) (fun _ _ _ _ _ _ us hl => match us, hl with | [_, _], _ => rfl) ?_
      intro p hp hx
      simp only [T, List.mem_cons, List.not_mem_nil, or_false] at hp
      rcases hp with rfl
      · exact absurd hx (by decide +kernel)
    · refine VS.stand_of (PySem.W.mg_of X G xa6) (L2.fun_mk (st := d__law_word.st) xl6 xc6 xk6) (fun _ _ _ _ _ _ us hl => match us, hl with | [_], _ => rfl) ?_
      intro p hp hx
      simp only [T, List.mem_cons, List.not_mem_nil, or_false] at hp
      rcases hp with rfl
      · exact absurd hx (by decide +kernel)
    · refine VS.stand_of (PySem.W.mg_of X G xa7) (L2.fun_mk (st := d__law_term.st) xl7 xc7 xk7) (fun _ _ _ _ _ _ us hl => match us, hl with | [_, _, _, _], _ => rfl) ?_
      intro p hp hx
      simp only [T, List.mem_cons, List.not_mem_nil, or_false] at hp
      rcases hp with rfl
      · exact absurd hx (by decide +kernel)
    · refine VS.stand_of (PySem.W.mg_of X G xa8) (L2.fun_mk (st := d__law_within.st) xl8 xc8 xk8) (fun _ _ _ _ _ _ us hl => match us, hl with | [_], _ => rfl) ?_
      intro p hp hx
      simp only [T, List.mem_cons, List.not_mem_nil, or_false] at hp
      rcases hp with rfl
      · exact absurd hx (by decide +kernel)
    · refine VS.stand_of (PySem.W.mg_of X G xa9) (L2.fun_mk (st := d__law_words.st) xl9 xc9 xk9) (fun _ _ _ _ _ _ us hl => match us, hl with | [_, _, _], _ => rfl) ?_
      intro p hp hx
      simp only [T, List.mem_cons, List.not_mem_nil, or_false] at hp
      rcases hp with rfl
      · exact absurd hx (by decide +kernel)
    · refine VS.stand_of (PySem.W.mg_of X G xa10) (L2.fun_mk (st := d_law.st) xl10 xc10 xk10) (fun _ _ _ _ _ _ us hl => match us, hl with | [_], _ => rfl) ?_
      intro p hp hx
      simp only [T, List.mem_cons, List.not_mem_nil, or_false] at hp
      rcases hp with rfl
      · exact absurd hx (by decide +kernel)
  · intro x hx
    simp only [T, List.mem_cons, List.not_mem_nil, or_false] at hx
    rcases hx with rfl | rfl | rfl | rfl | rfl | rfl | rfl | rfl | rfl | rfl
    · exact PySem.W.mg_none_of X G xz0
    · exact PySem.W.mg_none_of X G xz1
    · exact PySem.W.mg_none_of X G xz2
    · exact PySem.W.mg_none_of X G xz3
    · exact PySem.W.mg_none_of X G xz4
    · exact PySem.W.mg_none_of X G xz5
    · exact PySem.W.mg_none_of X G xz6
    · exact PySem.W.mg_none_of X G xz7
    · exact PySem.W.mg_none_of X G xz8
    · exact PySem.W.mg_none_of X G xz9
  · intro p hp
    simp only [T, List.mem_cons, List.not_mem_nil, or_false] at hp
theorem walk {l : PySem.W.OpenLaw} {q : Program} {loose : List Str} {XP : (Str → Option Value) → Heap → Prop} {YP : World → Heap → Prop} {d : DefRec} {K : Params → PySem.W.Frag} (hn : l.most = some 63) (hdf : d.params.defaults = []) (hx : ("law" : Str) = d.name)
    (hY : ∀ (w : World) (h : Heap), YP w h → (K w.params).In h)
    (hs : ∀ (w : World) (mg : Str → Option Value) (h : Heap), (K w.params).In h → h.Ns mainGlobals mg → (∀ D ∈ T.ds, VS.Stands (K w.params) mg T D) ∧ (∀ x ∈ T.bs, mg x = none) ∧ ∀ p ∈ T.cs, ∃ v u, VS.cstV p.2 = some v ∧ mg p.1 = some u ∧ RelV v u) :
    PySem.W.WalkO q loose XP YP l.row.toRowW d [] (fun f vs => PySem.call f vs) :=
  VS.walk_g (k := 21) (W := 1) (T := T) (D := d_law) (x := "_law_script") hn hdf ⟨rfl, by decide, by decide⟩ hY ok (by unfold T; simp) rfl hx hs (fun K f fd F s u => by
    obtain ⟨oc, od, kV, doc, pm, an, cd, ct, osl, rfl, e1, e2⟩ := F.ex
    exact .of_eq rfl) (fun ns hl _ => VS.law_v (law_true (W := 1) ns hl))
end Own
open PySem PySem.W PyProof.Rows
set_option maxRecDepth 100000 in
set_option maxHeartbeats 0 in
theorem PySem.Challenge.cw_likebeneath_k02_free_names_and_holes_holds : PySem.Challenge.rw_likebeneath_k02_free_names_and_holes.Holds := by
  w_on; o_law; k_head; (case hw => w_witness2)
  k_fill
  refine Own.walk (l := PySem.Challenge.rw_likebeneath_k02_free_names_and_holes) rfl rfl rfl (fun w h Y => PySem.W.kIn_of Y) ?F
  case F =>
    intro w mg h KX G
    refine' Own.facts KX G ?xa0 ?xl0 ?xc0 ?xk0 ?xa1 ?xl1 ?xc1 ?xk1 ?xa2 ?xl2 ?xc2 ?xk2 ?xa3 ?xl3 ?xc3 ?xk3 ?xa4 ?xl4 ?xc4 ?xk4 ?xa5 ?xl5 ?xc5 ?xk5 ?xa6 ?xl6 ?xc6 ?xk6 ?xa7 ?xl7 ?xc7 ?xk7 ?xa8 ?xl8 ?xc8 ?xk8 ?xa9 ?xl9 ?xc9 ?xk9 ?xa10 ?xl10 ?xc10 ?xk10 ?xz0 ?xz1 ?xz2 ?xz3 ?xz4 ?xz5 ?xz6 ?xz7 ?xz8 ?xz9
    (case xa0 => k_is)
    (case xl0 => k_is)
    (case xc0 => k_is)
    (case xk0 => k_is)
    (case xa1 => k_is)
    (case xl1 => k_is)
    (case xc1 => k_is)
    (case xk1 => k_is)
    (case xa2 => k_is)
    (case xl2 => k_is)
    (case xc2 => k_is)
    (case xk2 => k_is)
    (case xa3 => k_is)
    (case xl3 => k_is)
    (case xc3 => k_is)
    (case xk3 => k_is)
    (case xa4 => k_is)
    (case xl4 => k_is)
    (case xc4 => k_is)
    (case xk4 => k_is)
    (case xa5 => k_is)
    (case xl5 => k_is)
    (case xc5 => k_is)
    (case xk5 => k_is)
    (case xa6 => k_is)
    (case xl6 => k_is)
    (case xc6 => k_is)
    (case xk6 => k_is)
    (case xa7 => k_is)
    (case xl7 => k_is)
    (case xc7 => k_is)
    (case xk7 => k_is)
    (case xa8 => k_is)
    (case xl8 => k_is)
    (case xc8 => k_is)
    (case xk8 => k_is)
    (case xa9 => k_is)
    (case xl9 => k_is)
    (case xc9 => k_is)
    (case xk9 => k_is)
    (case xa10 => k_is)
    (case xl10 => k_is)
    (case xc10 => k_is)
    (case xk10 => k_is)
    (case xz0 => k_is)
    (case xz1 => k_is)
    (case xz2 => k_is)
    (case xz3 => k_is)
    (case xz4 => k_is)
    (case xz5 => k_is)
    (case xz6 => k_is)
    (case xz7 => k_is)
    (case xz8 => k_is)
    (case xz9 => k_is)
