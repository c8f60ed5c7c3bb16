import PyProof.Rows.All
import HandS.Conv
import PyProof.WalkLemmas
import PyProof.RulesTry
import PyProof.ZipIter
import PyProof.CallType
import PyProof.Walk
import HandS.RepeatKit
import Wide.All
import OpenK.AllK
import Wide.FinOn
import HandS.ForMost
import HandS.Deep
import HandS.TupAny
import HandS.TupMul
import HandS.TupLen
import HandS.NoneIn
import HandS.IsInst
import HandS.Flow
import HandS.Zip
import HandS.Wide
import HandS.Steps
import KE.SortData
import KE.LtData
import KE.DataEq
import KE.DataFind
import KE.KTupSum
import KE.DataMinMax
import HandS.SortKw
import HandS.More
import HandS.DictEq
import HandS.ListItems
import HandS.DictTup
import KE.DataCmp
import HandS.Style
import HandS.Gcd
import HandS.Rev
import KE.GoesEnum
import KE.KDictPairs
import HandS.DictComp
import HandS.TupSets
import KE.KMathGC
import KE.KRevSl
import HandS.SetFor
import HandS.Strs
import HandS.Small
import PySem.Challenge.RW_craftlands_k21_rules_with_few_marks
set_option Elab.async false
set_option linter.all false
set_option maxRecDepth 100000
namespace Pf
/-- all choices of k of a list, in their order -/
def subL {α : Type} : Nat → List α → List (List α)
  | 0, _ => [[]]
  | _ + 1, [] => []
  | k + 1, x :: xs => (subL k xs).map (x :: ·) ++ subL (k + 1) xs
theorem subL_map {α β : Type} (f : α → β) : ∀ (k : Nat) (xs : List α), subL k (xs.map f) = (subL k xs).map (·.map f)
  | 0, _ => by simp [subL]
  | _ + 1, [] => by simp [subL]
  | k + 1, x :: xs => by
    simp [subL, subL_map f k xs, subL_map f (k + 1) xs]
theorem subL_none {α : Type} : ∀ (k : Nat) (xs : List α), xs.length < k → subL k xs = []
  | 0, _, h => by omega
  | _ + 1, [], h => rfl
  | k + 1, x :: xs, h => by
    simp at h
    simp [subL, subL_none k xs (by omega), subL_none (k + 1) xs (by omega)]
theorem subL_sub {α : Type} : ∀ (k : Nat) (xs : List α) (s : List α), s ∈ subL k xs → s.length = k ∧ ∀ x ∈ s, x ∈ xs
  | 0, _, s, h => by
    simp [subL] at h
    subst h
    simp
  | _ + 1, [], s, h => by simp [subL] at h
  | k + 1, x :: xs, s, h => by
    simp only [subL, List.mem_append, List.mem_map] at h
    rcases h with ⟨t, ht, rfl⟩ | h
    · obtain ⟨h1, h2⟩ := subL_sub k xs t ht
      refine ⟨by simp [h1], fun y hy => ?_⟩
      rcases List.mem_cons.mp hy with z | z
      · simp [z]
      · simp [h2 y z]
    · obtain ⟨h1, h2⟩ := subL_sub (k + 1) xs s h
      exact ⟨h1, fun y hy => by simp [h2 y hy]⟩
def nextC (n : Nat) (idx : List Nat) : Option (List Nat) :=
  match (List.range idx.length).reverse.find? fun i => idx.getD i 0 != i + n - idx.length with
  | none => none
  | some i => some (idx.take i ++ (List.range (idx.length - i)).map (idx.getD i 0 + 1 + ·))
/-- the same, from the left -/
def nxt (n : Nat) : List Nat → Option (List Nat)
  | [] => none
  | x :: xs => match nxt n xs with
    | some ys => some (x :: ys)
    | none => if x = n - (xs.length + 1) then none else some ((List.range (xs.length + 1)).map (x + 1 + ·))
theorem nextC_eq (n : Nat) : ∀ idx : List Nat, idx.length ≤ n → nextC n idx = nxt n idx
  | [], _ => rfl
  | x :: xs, hn => by
    simp at hn
    have ih := nextC_eq n xs (by omega)
    unfold nxt
    rw [← ih]
    unfold nextC
    rw [List.length_cons, List.range_succ_eq_map, List.reverse_cons, List.find?_append, ← List.map_reverse, List.find?_map]
    have e : ((fun i => (x :: xs).getD i 0 != i + n - (xs.length + 1)) ∘ Nat.succ) = fun i => xs.getD i 0 != i + n - xs.length := by
      funext i
      simp only [Function.comp]
      rw [show (x :: xs).getD (Nat.succ i) 0 = xs.getD i 0 from by simp]
      rw [show Nat.succ i + n - (xs.length + 1) = i + n - xs.length from by omega]
    rw [e]
    cases hf : List.find? (fun i => xs.getD i 0 != i + n - xs.length) (List.range xs.length).reverse with
    | some i => simp
    | none =>
      simp
      by_cases hx : x = n - (xs.length + 1)
      · rw [if_pos hx]
        simp [hx]
      · rw [if_neg hx]
        simp [hx, List.range_succ_eq_map]
/-- each one followed by the next; the last by e -/
def Ch (n : Nat) : List (List Nat) → Option (List Nat) → Prop
  | [], _ => False
  | [x], e => nxt n x = e
  | x :: y :: L, e => nxt n x = some y ∧ Ch n (y :: L) e
theorem Ch.app {n : Nat} {b : List Nat} {B : List (List Nat)} {e : Option (List Nat)} : ∀ {A : List (List Nat)}, Ch n A (some b) → Ch n (b :: B) e → Ch n (A ++ b :: B) e
  | [], h, _ => h.elim
  | [x], h, h2 => ⟨h, h2⟩
  | x :: y :: L, h, h2 => ⟨h.1, Ch.app (A := y :: L) h.2 h2⟩
theorem Ch.cons {n lo k : Nat} {e : Option (List Nat)} (he : ∀ x : List Nat, x.length = k → nxt n x = none → nxt n (lo :: x) = e) : ∀ {A : List (List Nat)}, (∀ x ∈ A, x.length = k) → Ch n A none → Ch n (A.map (lo :: ·)) e
  | [], _, h => h.elim
  | [x], hl, h => he x (hl x (by simp)) h
  | x :: y :: L, hl, h => ⟨by show nxt n (lo :: x) = _; unfold nxt; rw [h.1], Ch.cons (A := y :: L) he (fun a ha => hl a (by simp [ha])) h.2⟩
theorem rng_up (lo m : Nat) : (List.range (m + 1)).map (lo + ·) = lo :: (List.range m).map (lo + 1 + ·) := by
  rw [List.range_succ_eq_map, List.map_cons, List.map_map]
  congr 1
  exact List.map_congr_left fun x _ => by simp only [Function.comp]; omega
theorem ch_sub (n : Nat) : ∀ (m lo k : Nat), lo + m = n → k ≤ m → (∃ L, subL k ((List.range m).map (lo + ·)) = ((List.range k).map (lo + ·)) :: L) ∧ Ch n (subL k ((List.range m).map (lo + ·))) none
  | m, lo, 0, _, _ => ⟨⟨[], by simp [subL]⟩, by simp [subL]; rfl⟩
  | 0, _, k + 1, _, h => by omega
  | m + 1, lo, k + 1, hn, hk => by
    rw [rng_up lo m, rng_up lo k]
    obtain ⟨⟨A, hA⟩, cA⟩ := ch_sub n m (lo + 1) k (by omega) (by omega)
    have lA : ∀ x ∈ subL k ((List.range m).map (lo + 1 + ·)), x.length = k := fun x hx => (subL_sub _ _ _ hx).1
    simp only [subL]
    refine ⟨⟨A.map (lo :: ·) ++ subL (k + 1) ((List.range m).map (lo + 1 + ·)), by rw [hA]; rfl⟩, ?_⟩
    by_cases hm : k + 1 ≤ m
    · obtain ⟨⟨B, hB⟩, cB⟩ := ch_sub n m (lo + 1) (k + 1) (by omega) hm
      rw [hB] at cB ⊢
      refine Ch.app (Ch.cons (fun x hx hn' => ?_) lA cA) cB
      unfold nxt
      rw [hn', hx]
      show (if lo = n - (k + 1) then _ else _) = _
      rw [if_neg (by omega)]
    · rw [subL_none (k + 1) _ (by simp; omega), List.append_nil]
      refine Ch.cons (fun x hx hn' => ?_) lA cA
      unfold nxt
      rw [hn', hx]
      show (if lo = n - (k + 1) then _ else _) = _
      rw [if_pos (by omega)]
theorem Ch.get {n : Nat} {e : Option (List Nat)} : ∀ {L : List (List Nat)} {i : Nat} {x : List Nat}, Ch n L e → L[i]? = some x → nxt n x = if i + 1 < L.length then L[i + 1]? else e
  | [], _, _, h, _ => h.elim
  | [x], 0, _, h, e1 => by
    simp at e1
    subst e1
    have h' : nxt n x = e := h
    simpa using h'
  | [x], i + 1, _, h, e1 => by simp at e1
  | x :: y :: L, 0, _, h, e1 => by
    simp at e1
    subst e1
    simpa using h.1
  | x :: y :: L, i + 1, z, h, e1 => by
    have := Ch.get (L := y :: L) (i := i) (x := z) h.2 (by simpa using e1)
    simpa using this
/-- all choices of k of the numbers below n -/
def idxL (n k : Nat) : List (List Nat) := subL k (List.range n)
theorem idx0 {n k : Nat} (h : k ≤ n) : (idxL n k)[0]? = some (List.range k) := by
  obtain ⟨⟨L, hL⟩, _⟩ := ch_sub n n 0 k (by omega) h
  have e : ∀ m, (List.range m).map (0 + ·) = List.range m := fun m => by simp
  rw [e, e] at hL
  unfold idxL
  rw [hL]
  rfl
theorem idx_len {n k : Nat} {x : List Nat} (h : x ∈ idxL n k) : x.length = k ∧ ∀ i ∈ x, i < n := by
  obtain ⟨h1, h2⟩ := subL_sub _ _ _ h
  exact ⟨h1, fun i hi => List.mem_range.mp (h2 i hi)⟩
theorem idx_next {n k i : Nat} {x : List Nat} (h : k ≤ n) (hx : (idxL n k)[i]? = some x) : nextC n x = (idxL n k)[i + 1]? := by
  obtain ⟨_, c⟩ := ch_sub n n 0 k (by omega) h
  have e : ∀ m, (List.range m).map (0 + ·) = List.range m := fun m => by simp
  rw [e] at c
  have hm := List.mem_of_getElem? hx
  rw [nextC_eq n x (by rw [(idx_len hm).1]; exact h), Ch.get c hx]
  split
  · rfl
  · rw [List.getElem?_eq_none (by unfold idxL; omega)]
theorem idx_none {n k : Nat} (h : n < k) : idxL n k = [] := subL_none _ _ (by simpa using h)
theorem idx_map {α : Type} (xs : List α) (d : α) (k : Nat) : (idxL xs.length k).map (fun x => x.map fun i => xs.getD i d) = subL k xs := by
  unfold idxL
  rw [← subL_map]
  congr 1
  refine List.ext_getElem (by simp) fun i h1 h2 => ?_
  simp at h1
  simp [h1]
end Pf

set_option maxHeartbeats 2000000
namespace Pf
open PySem PySem.Spec
open Sem (wp)
theorem mro_cb : mroOf (.type "itertools.combinations") = pure [.type "itertools.combinations", .type "object"] := by
  rw [mroOf_type]
  kernel_rfl
theorem new_cb : typeLookup (.type "itertools.combinations") "__new__" = pure (some (.builtin "itertools.combinations.__new__")) := by
  rw [typeLookup_type, builtinLookup_eq_fast]
  kernel_rfl
theorem sub_cb : isSubtype (.type "itertools.combinations") (.type "itertools.combinations") = pure true := by
  rw [isSubtype_type]
  kernel_rfl
theorem sinit_cb : PySem.Slot "itertools.combinations" "__init__" "object.__init__" := by
  refine PySem.Slot.of (owner := "object") (n := "__init__") ?_ (by decide +kernel) (by decide +kernel) (by decide +kernel) ?_ ?_
  · rw [typeLookup_type, builtinLookup_eq_fast]; kernel_rfl
  · first | exact .inl (by decide +kernel) | exact .inr (by decide +kernel)
  · rw [isSubtype_type]; kernel_rfl
theorem called_cb : TypeCalled "itertools.combinations" "itertools.combinations.__new__" "object.__init__" :=
  ⟨by decide +kernel, by decide +kernel, ⟨_, _, mro_cb⟩, madeBy_type mro_cb new_cb (by decide +kernel), by decide +kernel, sub_cb, sinit_cb⟩
theorem tcall_cb (a b : Value) : checkTypeCall "itertools.combinations" ⟨[a, b], []⟩ = pure () := by kernel_rfl
theorem ncall_cb (a b : Value) : checkBuiltinCall "itertools.combinations.__new__" ⟨[.type "itertools.combinations", a, b], []⟩ = pure () := by kernel_rfl
theorem enew_cb : entryFor table "itertools.combinations.__new__" = some Builtin.«itertools.combinations.__new__» := entryFor_of_tree (by kernel_rfl)
theorem siter_cb : PySem.Slot "itertools.combinations" "__iter__" "itertools.combinations.__iter__" := by
  refine PySem.Slot.of (owner := "itertools.combinations") (n := "__iter__") ?_ (by decide +kernel) (by decide +kernel) (by decide +kernel) ?_ sub_cb
  · rw [typeLookup_type, builtinLookup_eq_fast]; kernel_rfl
  · first | exact .inl (by decide +kernel) | exact .inr (by decide +kernel)
theorem snext_cb : PySem.Slot "itertools.combinations" "__next__" "itertools.combinations.__next__" := by
  refine PySem.Slot.of (owner := "itertools.combinations") (n := "__next__") ?_ (by decide +kernel) (by decide +kernel) (by decide +kernel) ?_ sub_cb
  · rw [typeLookup_type, builtinLookup_eq_fast]; kernel_rfl
  · first | exact .inl (by decide +kernel) | exact .inr (by decide +kernel)
theorem eiter_cb : entryFor table "itertools.combinations.__iter__" = some Builtin.«dict_keyiterator.__iter__» := by
  refine entryFor_alias (id' := "dict_keyiterator.__iter__") (by kernel_rfl) ?_ (by decide +kernel) (by kernel_rfl)
  first | rfl | decide +kernel | (unfold String.splitOn; simp +decide [String.splitOnAux])
theorem enext_cb : entryFor table "itertools.combinations.__next__" = some Builtin.«itertools.combinations.__next__» := entryFor_of_tree (by kernel_rfl)
theorem owner_cb : Manifest.owners.lookup (String.ofList ['s', 'n', 'o', 'i', 't', 'a', 'n', 'i', 'b', 'm', 'o', 'c', '.', 's', 'l', 'o', 'o', 't', 'r', 'e', 't', 'i'].reverse) = some Manifest.sig_itertools_combinations := by kernel_rfl
theorem aiter_cb (a : Value) : argsOk "itertools.combinations.__iter__" ⟨[a], []⟩ := by
  unfold argsOk
  rw [signature?_of (id := "itertools.combinations.__iter__") (n := ['_', '_', 'r', 'e', 't', 'i', '_', '_']) (o := ['s', 'n', 'o', 'i', 't', 'a', 'n', 'i', 'b', 'm', 'o', 'c', '.', 's', 'l', 'o', 'o', 't', 'r', 'e', 't', 'i']) (by kernel_rfl) owner_cb]
  kernel_rfl
theorem anext_cb (a : Value) : argsOk "itertools.combinations.__next__" ⟨[a], []⟩ := by
  unfold argsOk
  rw [signature?_of (id := "itertools.combinations.__next__") (n := ['_', '_', 't', 'x', 'e', 'n', '_', '_']) (o := ['s', 'n', 'o', 'i', 't', 'a', 'n', 'i', 'b', 'm', 'o', 'c', '.', 's', 'l', 'o', 'o', 't', 'r', 'e', 't', 'i']) (by kernel_rfl) owner_cb]
  kernel_rfl
theorem nodict_cb : typeHasDict (.type "itertools.combinations") = false := by decide +kernel
abbrev fieldsC (T : Addr) (mode : Int) (res : Value) (idx : List Nat) : List Value := [.ref T, rawInt mode, res] ++ idx.map fun (i : Nat) => rawInt i
abbrev IsComb (h : Heap) (c T : Addr) (mode : Int) (res : Value) (idx : List Nat) : Prop := h.get? c = some { cls := .type "itertools.combinations", dict := none, data := .fields (fieldsC T mode res idx).toArray, slots := #[] }

/-- as the model has it -/
def pickC (pool : Value) (indices : List Nat) : Sem Value := do
  let items ← Builtin.Itertools.itPoolItems pool
  newTuple (indices.map fun i => items.getD i .none)
section
variable {prog : Program} {w : World} {A : Around} {E : Value → Shared → Prop} {s : Shared}
theorem pick_cb {T : Addr} {o : Obj} {items : Array Value} {n : Nat} {idx : List Nat} {Q : Value → Shared → Prop} (ho : s.heap.get? T = some o) (hd : o.data = .seq items n) (hl : idx.length ≤ 1000)
    (h : Q (.ref s.heap.objs.size) { s with heap := s.heap.push { cls := .type "tuple", data := .seq (idx.map fun i => items.getD i .none).toArray } }) : wpAny (model prog w) A (pickC (.ref T) idx) Q E s := by
  refine wpAny_bind (wpAny_bind (wpAny_seqItems ho hd (wpAny_pure ?_)))
  exact wpAny_newTuple h (by rw [List.length_map]; unfold sizeLine; omega)
theorem iter_cb {c T : Addr} {mode : Int} {res : Value} {idx : List Nat} {Q : Value → Shared → Prop} (hc : IsComb s.heap c T mode res idx) (h : Q (.ref c) s) : wpAny (model prog w) A (pyIter (.ref c)) Q E s := by
  have hT : s.TypeIs (.ref c) "itertools.combinations" := ⟨_, hc, rfl⟩
  refine wpAny_pyIter_slot hT siter_cb (wpAny_call_entry siter_cb hT eiter_cb ?_ (aiter_cb _))
  show wpAny _ _ (ret (.ref c)) _ _ s
  exact wpAny_pure ⟨_, rfl, "itertools.combinations", _, hT, snext_cb.lookup, h⟩
/-- what comes when all is handed out -/
theorem stop_cb {X : Type} {Q : X → Shared → Prop} (hh : A.handled = none) (hQ : ∀ e h', CpRep.StopE e h' → (∀ b o, s.heap.get? b = some o → h'.get? b = some o) → E e { s with heap := h' }) :
    wpAny (model prog w) A (Builtin.Itertools.itStop : Sem X) Q E s := by
  show wpAny _ _ (newExc (.type "StopIteration") [] >>= _) _ _ _
  refine wpAny_bind ?_
  simp only [newExc, newTuple]
  refine wpAny_bind (wpAny_newObj_type ?_ (by size_fits))
  refine wpAny_bind (m := firstArgMember _ _) (wpAny_of_eq (a := Value.none) (by first | rfl | (simp only [firstArgMember]; rfl)) ?_)
  refine wpAny_newObj_type ?_ (by size_fits)
  simp only [raiseNew]
  refine wpAny_bind (wpAny_handled ?_)
  first | rw [show A.in1.handled = none from hh] | rw [hh]
  refine wpAny_bind (wpAny_pure (wpAny_throw ?_))
  exact hQ _ _ ⟨_, _, _, rfl, Heap.get?_push_size _ rfl, rfl, rfl, rfl⟩ fun b o q => Heap.get?_push_of_some _ (Heap.get?_push_of_some _ q)
theorem nums_cb (idx : List Nat) : (idx.map fun (i : Nat) => rawInt i).map (fun v : Value => match v with | .int n _ => n.toNat | _ => 0) = idx := by
  rw [List.map_map]
  conv => rhs; rw [← List.map_id idx]
  exact List.map_congr_left fun i _ => rfl
theorem numbers_cb {c T : Addr} {mode : Int} {res : Value} {idx : List Nat} {Q : List Nat → Shared → Prop} (hc : IsComb s.heap c T mode res idx) (h : Q idx s) : wpAny (model prog w) A (Builtin.Itertools.itNumbersFrom (.ref c) 3) Q E s := by
  show wpAny _ _ (load c >>= _) _ _ s
  refine wpAny_bind (wpAny_load hc ?_)
  show wpAny _ _ (pure ((idx.map fun (i : Nat) => rawInt i).map (fun v : Value => match v with | .int n _ => n.toNat | _ => 0))) _ _ s
  rw [nums_cb]
  exact wpAny_pure h
/-- the tuple is handed out -/
theorem hand_cb {c T : Addr} {mode : Int} {res : Value} {idx : List Nat} {o : Obj} {items : Array Value} {n : Nat} {Q : Fin → Shared → Prop} (hc : IsComb s.heap c T mode res idx) (ho : s.heap.get? T = some o) (hd : o.data = .seq items n) (hl : idx.length ≤ 1000)
    (hQ : ∀ h', IsComb h' c T mode (.ref s.heap.objs.size) idx → h'.get? s.heap.objs.size = some { cls := .type "tuple", data := .seq (idx.map fun i => items.getD i .none).toArray } → (∀ b o, b ≠ c → s.heap.get? b = some o → h'.get? b = some o) → Q (.done (.ret (.ref s.heap.objs.size))) { s with heap := h' }) :
    wpAny (model prog w) A (pickC (.ref T) idx >>= fun result => field (.ref c) 2 >>= fun before => setField (.ref c) 2 result >>= fun _ => letGo [before] [result] >>= fun _ => ret result) Q E s := by
  have hlt : c < s.heap.objs.size := Heap.lt_size hc
  refine wpAny_bind (pick_cb ho hd hl ?_)
  have hc2 : IsComb (s.heap.push { cls := .type "tuple", data := .seq (idx.map fun i => items.getD i .none).toArray }) c T mode res idx := Heap.get?_push_of_some _ hc
  refine wpAny_bind (wpAny_field hc2 rfl (x := res) rfl ?_)
  refine wpAny_bind (wpAny_setField hc2 rfl (by simp) ?_)
  refine wpAny_bind (wpAny_letGo (wpAny_pure ?_))
  refine hQ _ (Heap.get?_update_self _ hc2 rfl) ?_ ?_
  · exact (Heap.get?_update_other _ _ (Nat.ne_of_lt hlt)).trans (Heap.get?_push_size _ rfl)
  · intro b o' hb q
    exact (Heap.get?_update_other _ _ (Ne.symm hb)).trans (Heap.get?_push_of_some _ q)
theorem next0_cb {c T : Addr} {res : Value} {idx : List Nat} {o : Obj} {items : Array Value} {n : Nat} {Q : Option Value → Shared → Prop} (hc : IsComb s.heap c T 0 res idx) (ho : s.heap.get? T = some o) (hd : o.data = .seq items n) (hcT : T ≠ c) (hl : idx.length ≤ 1000)
    (hQ : ∀ h', IsComb h' c T 1 (.ref s.heap.objs.size) idx → h'.get? s.heap.objs.size = some { cls := .type "tuple", data := .seq (idx.map fun i => items.getD i .none).toArray } → (∀ b o, b ≠ c → s.heap.get? b = some o → h'.get? b = some o) → Q (some (.ref s.heap.objs.size)) { s with heap := h' }) :
    wpAny (model prog w) A (callSpecial? (.ref c) "__next__") Q E s := by
  have hT : s.TypeIs (.ref c) "itertools.combinations" := ⟨_, hc, rfl⟩
  refine wpAny_callSpecial?_slot (name := Str.ofString "__next__") hT snext_cb (wpAny_call_entry snext_cb hT enext_cb ?_ (anext_cb _))
  have hlt : c < s.heap.objs.size := Heap.lt_size hc
  show wpAny _ _ (field (.ref c) 0 >>= _) _ _ s
  refine wpAny_bind (wpAny_field hc rfl (x := .ref T) rfl ?_)
  refine wpAny_bind (numbers_cb hc ?_)
  show wpAny _ _ ((field (.ref c) 1 >>= _) >>= _) _ _ s
  refine wpAny_bind (wpAny_bind (wpAny_field hc rfl (x := rawInt 0) rfl (wpAny_pure ?_)))
  show wpAny _ _ (setField (.ref c) 1 (rawInt 1) >>= _) _ _ s
  refine wpAny_bind (wpAny_setField hc rfl (by simp) ?_)
  have hc2 : IsComb (s.heap.update c (Obj.mapFields fun x => x.setIfInBounds 1 (rawInt 1))) c T 1 res idx := Heap.get?_update_self _ hc rfl
  have ho2 : (s.heap.update c (Obj.mapFields fun x => x.setIfInBounds 1 (rawInt 1))).get? T = some o := (Heap.get?_update_other _ _ hcT.symm).trans ho
  have hsz : (s.heap.update c (Obj.mapFields fun x => x.setIfInBounds 1 (rawInt 1))).objs.size = s.heap.objs.size := by simp [Heap.update]
  refine hand_cb (s := { s with heap := s.heap.update c (Obj.mapFields fun x => x.setIfInBounds 1 (rawInt 1)) }) hc2 ho2 hd hl fun h' c3 t3 k3 => ?_
  rw [hsz] at c3 t3
  refine ⟨_, rfl, ?_⟩
  show _
  simp only [hsz]
  exact hQ h' c3 t3 fun b o' hb q => k3 b o' hb ((Heap.get?_update_other _ _ (Ne.symm hb)).trans q)
theorem set_cb {c T : Addr} {mode : Int} {res : Value} {idx idx' : List Nat} {Q : Unit → Shared → Prop} (hc : IsComb s.heap c T mode res idx) (hl : idx'.length ≤ 1000)
    (hQ : ∀ h', IsComb h' c T mode res idx' → h'.objs.size = s.heap.objs.size → (∀ b, b ≠ c → h'.get? b = s.heap.get? b) → Q () { s with heap := h' }) :
    wpAny (model prog w) A (Builtin.Itertools.itSetNumbersFrom (.ref c) 3 idx') Q E s := by
  show wpAny _ _ (updateFields c _) _ _ s
  refine wpAny_updateFields hc rfl ?_ ?_
  · refine hQ _ ?_ (by simp [Heap.update]) fun b hb => Heap.get?_update_other _ _ (Ne.symm hb)
    refine (Heap.get?_update_self _ hc rfl).trans ?_
    congr 1
    show Obj.mk _ _ _ _ = _
    congr 2
    apply Array.ext'
    simp
  · simp
    unfold sizeLine
    omega
theorem next1_cb {c T : Addr} {res : Value} {idx idx' : List Nat} {o : Obj} {items : Array Value} {n : Nat} {Q : Option Value → Shared → Prop} (hc : IsComb s.heap c T 1 res idx) (ho : s.heap.get? T = some o) (hd : o.data = .seq items n) (hcT : T ≠ c) (hn : nextC items.size idx = some idx') (hl : idx'.length ≤ 1000)
    (hQ : ∀ h', IsComb h' c T 1 (.ref s.heap.objs.size) idx' → h'.get? s.heap.objs.size = some { cls := .type "tuple", data := .seq (idx'.map fun i => items.getD i .none).toArray } → (∀ b o, b ≠ c → s.heap.get? b = some o → h'.get? b = some o) → Q (some (.ref s.heap.objs.size)) { s with heap := h' }) :
    wpAny (model prog w) A (callSpecial? (.ref c) "__next__") Q E s := by
  have hT : s.TypeIs (.ref c) "itertools.combinations" := ⟨_, hc, rfl⟩
  refine wpAny_callSpecial?_slot (name := Str.ofString "__next__") hT snext_cb (wpAny_call_entry snext_cb hT enext_cb ?_ (anext_cb _))
  have hlt : c < s.heap.objs.size := Heap.lt_size hc
  show wpAny _ _ (field (.ref c) 0 >>= _) _ _ s
  refine wpAny_bind (wpAny_field hc rfl (x := .ref T) rfl ?_)
  refine wpAny_bind (numbers_cb hc ?_)
  show wpAny _ _ ((field (.ref c) 1 >>= _) >>= _) _ _ s
  refine wpAny_bind (wpAny_bind (wpAny_field hc rfl (x := rawInt 1) rfl (wpAny_pure ?_)))
  show wpAny _ _ (Builtin.Itertools.itPoolItems (.ref T) >>= fun its => (match nextC its.size idx with | some next => (Builtin.Itertools.itSetNumbersFrom (.ref c) 3 next >>= fun _ => pickC (.ref T) next >>= fun result => field (.ref c) 2 >>= fun before => setField (.ref c) 2 result >>= fun _ => letGo [before] [result] >>= fun _ => ret result) | none => (setField (.ref c) 1 (rawInt 2) >>= fun _ => Builtin.Itertools.itStop))) _ _ s
  refine wpAny_bind (wpAny_bind (wpAny_seqItems ho hd (wpAny_pure ?_)))
  rw [hn]
  refine wpAny_bind (set_cb hc hl fun h2 hc2 hsz hk2 => ?_)
  refine hand_cb (s := { s with heap := h2 }) hc2 ((hk2 T hcT).trans ho) hd hl fun h' c3 t3 k3 => ?_
  simp only [hsz] at c3 t3 ⊢
  exact ⟨_, rfl, hQ h' c3 t3 fun b o' hb q => k3 b o' hb ((hk2 b hb).trans q)⟩
theorem end1_cb {c T : Addr} {res : Value} {idx : List Nat} {o : Obj} {items : Array Value} {n : Nat} {Q : Option Value → Shared → Prop} (hh : A.handled = none) (hc : IsComb s.heap c T 1 res idx) (ho : s.heap.get? T = some o) (hd : o.data = .seq items n) (hn : nextC items.size idx = none)
    (hQ : ∀ e h', CpRep.StopE e h' → (∀ b o, b ≠ c → s.heap.get? b = some o → h'.get? b = some o) → E e { s with heap := h' }) :
    wpAny (model prog w) A (callSpecial? (.ref c) "__next__") Q E s := by
  have hT : s.TypeIs (.ref c) "itertools.combinations" := ⟨_, hc, rfl⟩
  refine wpAny_callSpecial?_slot (name := Str.ofString "__next__") hT snext_cb (wpAny_call_entry snext_cb hT enext_cb ?_ (anext_cb _))
  show wpAny _ _ (field (.ref c) 0 >>= _) _ _ s
  refine wpAny_bind (wpAny_field hc rfl (x := .ref T) rfl ?_)
  refine wpAny_bind (numbers_cb hc ?_)
  show wpAny _ _ ((field (.ref c) 1 >>= _) >>= _) _ _ s
  refine wpAny_bind (wpAny_bind (wpAny_field hc rfl (x := rawInt 1) rfl (wpAny_pure ?_)))
  show wpAny _ _ (Builtin.Itertools.itPoolItems (.ref T) >>= fun its => (match nextC its.size idx with | some next => (Builtin.Itertools.itSetNumbersFrom (.ref c) 3 next >>= fun _ => pickC (.ref T) next >>= fun result => field (.ref c) 2 >>= fun before => setField (.ref c) 2 result >>= fun _ => letGo [before] [result] >>= fun _ => ret result) | none => (setField (.ref c) 1 (rawInt 2) >>= fun _ => Builtin.Itertools.itStop))) _ _ s
  refine wpAny_bind (wpAny_bind (wpAny_seqItems ho hd (wpAny_pure ?_)))
  rw [hn]
  refine wpAny_bind (wpAny_setField hc rfl (by simp) ?_)
  refine stop_cb hh fun e h' st hk => hQ e h' st fun b o' hb q => hk b o' ((Heap.get?_update_other _ _ (Ne.symm hb)).trans q)
theorem end2_cb {c T : Addr} {res : Value} {idx : List Nat} {Q : Option Value → Shared → Prop} (hh : A.handled = none) (hc : IsComb s.heap c T 2 res idx)
    (hQ : ∀ e h', CpRep.StopE e h' → (∀ b o, b ≠ c → s.heap.get? b = some o → h'.get? b = some o) → E e { s with heap := h' }) :
    wpAny (model prog w) A (callSpecial? (.ref c) "__next__") Q E s := by
  have hT : s.TypeIs (.ref c) "itertools.combinations" := ⟨_, hc, rfl⟩
  refine wpAny_callSpecial?_slot (name := Str.ofString "__next__") hT snext_cb (wpAny_call_entry snext_cb hT enext_cb ?_ (anext_cb _))
  show wpAny _ _ (field (.ref c) 0 >>= _) _ _ s
  refine wpAny_bind (wpAny_field hc rfl (x := .ref T) rfl ?_)
  refine wpAny_bind (numbers_cb hc ?_)
  show wpAny _ _ ((field (.ref c) 1 >>= _) >>= _) _ _ s
  refine wpAny_bind (wpAny_bind (wpAny_field hc rfl (x := rawInt 2) rfl (wpAny_pure ?_)))
  refine wpAny_bind (m := rule _) (wpAny_rule ?_)
  refine stop_cb hh fun e h' st hk => hQ e h' st fun b o' hb q => hk b o' q
/-- the record of a new one -/
abbrev recC (T : Addr) (n r : Nat) : Obj := { cls := .type "itertools.combinations", data := .fields (fieldsC T (if r > n then 2 else 0) .none (List.range r)).toArray }
theorem new_core {x : Value} {r : Nat} {t : Tok} {R : Fin → Shared → Prop} (hr : r ≤ 1000)
    (hC : wpAny (model prog w) A (collect x) (fun items s1 => items.length ≤ 1000 ∧ R (.done (.ret (.ref (s1.heap.objs.size + 1)))) { s1 with heap := (s1.heap.push { cls := .type "tuple", data := .seq items.toArray }).push (recC s1.heap.objs.size items.length r) }) E s) :
    wpAny (model prog w) A (Builtin.«itertools.combinations.__new__» ⟨[.type "itertools.combinations", x, .int r t], []⟩) R E s := by
  have hsub : isSubtype (.type "itertools.combinations") (.type ("itertools." ++ "combinations")) = pure true := by
    rw [show "itertools." ++ "combinations" = "itertools.combinations" from by decide +kernel]
    exact sub_cb
  have hd := nodict_cb
  have h0 : ¬ ((r : Int) < 0) := by omega
  have hm : ¬ (Builtin.Itertools.itTooMany r = true) := by
    unfold Builtin.Itertools.itTooMany
    simp
    omega
  have hn : ¬ ((decide ((r : Int) < -(2 ^ 63 : Int)) || decide ((r : Int) ≥ (2 ^ 63 : Int))) = true) := by
    rw [decide_eq_false (by omega), decide_eq_false (by omega)]
    decide
  repeat (first
      | (with_reducible refine wpAny_mono hC (fun items s1 hq => ?_) (fun _ _ z => z))
      | wp_step
      | (with_reducible refine wpAny_newTuple ?_ (Nat.le_trans hq.1 (by unfold sizeLine; omega)))
      | (with_reducible refine wpAny_of_eq (m := isSubtype _ _) hsub ?_)
      | simp only [List.head?_cons, Option.some_or, List.getElem?_cons_succ, List.getElem?_cons_zero, List.length_cons, List.length_nil, List.forIn_nil]
      | (refine wpAny_ite_false (decide_eq_false hn) ?_))
  show wpAny _ _ (newTuple items) _ _ _
  refine wpAny_newTuple ?_ (Nat.le_trans hq.1 (by unfold sizeLine; omega))
  refine wpAny_pure ?_
  refine wpAny_bind ?_
  have et : (r : Int).toNat = r := by omega
  simp only [et]
  unfold Builtin.Itertools.itNewRecord
  rw [hd, if_pos (by rfl)]
  refine wpAny_newObj_type ?_ ?_
  rotate_left
  · show Array.size _ ≤ _
    simp
    unfold sizeLine
    omega
  refine wpAny_pure ?_
  have hz : (s1.heap.push { cls := .type "tuple", data := .seq items.toArray }).objs.size = s1.heap.objs.size + 1 := by simp [Heap.push]
  show R (.done (.ret (.ref (s1.heap.push { cls := .type "tuple", data := .seq items.toArray }).objs.size))) _
  rw [hz]
  exact hq.2
end
theorem meets_seq {x : Addr} {o : Obj} {items : Array Value} {n r : Nat} {t : Tok} (hr : r ≤ 1000) (hl : items.size ≤ 1000) (hc : o.cls = .type "list" ∨ o.cls = .type "tuple") (hd : o.data = .seq items n) :
    Meets (Builtin.«itertools.combinations.__new__» ⟨[.type "itertools.combinations", .ref x, .int r t], []⟩)
      (fun _ R s => s.heap.get? x = some o ∧ ∀ h' : Heap, (∀ b o', s.heap.get? b = some o' → h'.get? b = some o') → R (.ok (.ret (.ref (h'.objs.size + 1)))) { s with heap := (h'.push { cls := .type "tuple", data := .seq items }).push (recC h'.objs.size items.size r) }) :=
  .of_wp fun prog w A R s h => by
    refine new_core hr ?_
    have e : items.toList.toArray = items := by simp
    have e2 : items.toList.length = items.size := by simp
    rcases hc with hc | hc
    · refine wpAny_collect_seq x (.inl rfl) h.1 hc hd (fun h' hk => ⟨by rw [e2]; exact hl, _, rfl, ?_⟩) (by unfold sizeLine; omega)
      rw [e, e2]
      exact h.2 h' hk
    · refine wpAny_collect_seq x (.inr rfl) h.1 hc hd (fun h' hk => ⟨by rw [e2]; exact hl, _, rfl, ?_⟩) (by unfold sizeLine; omega)
      rw [e, e2]
      exact h.2 h' hk
theorem meets_rng {x : Addr} {a b c : Int} {t0 u v : Tok} {n r : Nat} {t : Tok} (hr : r ≤ 1000) (hl : n ≤ 1000) (hsmall : Builtin.Range.small a b c = true) (hn : Builtin.Range.rangeSize a b c = n) :
    Meets (Builtin.«itertools.combinations.__new__» ⟨[.type "itertools.combinations", .ref x, .int r t], []⟩)
      (fun A R s => A.in1.handled = none ∧ IsRange s.heap x a b c t0 u v ∧ ∀ (h' : Heap) (tk : Nat) (acc : Array Value), (∀ b o', s.heap.get? b = some o' → h'.get? b = some o') → ItemsOf (fun i v => ∃ t, v = .int (a + i * c) t) acc n → R (.ok (.ret (.ref (h'.objs.size + 1)))) { s with heap := (h'.push { cls := .type "tuple", data := .seq acc }).push (recC h'.objs.size n r), toks := tk }) :=
  .of_wp fun prog w A R s h => by
    refine new_core hr ?_
    refine L2.collect_range h.1 h.2.1 hsmall hn (by omega) fun h' tk acc hk hi => ?_
    have e2 : acc.toList.length = n := by
      rw [Array.length_toList]
      exact hi.1
    refine ⟨by rw [e2]; exact hl, _, rfl, ?_⟩
    have e : acc.toList.toArray = acc := by simp
    rw [e, e2]
    exact h.2.2 h' tk acc hk hi
section
variable {prog : Program} {w : World} {A : Around} {E : Value → Shared → Prop} {s : Shared}
theorem call_cb_seq {x : Addr} {o : Obj} {items : Array Value} {n r : Nat} {t : Tok} {Q : Value → Shared → Prop} (hr : r ≤ 1000) (hl : items.size ≤ 1000) (ho : s.heap.get? x = some o) (hc : o.cls = .type "list" ∨ o.cls = .type "tuple") (hd : o.data = .seq items n)
    (h : ∀ (h' : Heap), (∀ b o', s.heap.get? b = some o' → h'.get? b = some o') → Q (.ref (h'.objs.size + 1)) { s with heap := (h'.push { cls := .type "tuple", data := .seq items }).push (recC h'.objs.size items.size r) }) :
    wpAny (model prog w) A (call (.type "itertools.combinations") [.ref x, .int r t]) Q E s := by
  refine callType_new called_cb (by decide +kernel) (tcall_cb _ _) (ncall_cb _ _) (fun obj => F.args_object_init_3 obj _ _) enew_cb (meets_seq hr hl hc hd) ⟨ho, fun h' hk => ⟨?_, h h' hk⟩⟩
  have hz : (h'.push { cls := .type "tuple", data := .seq items }).objs.size = h'.objs.size + 1 := by simp [Heap.push]
  exact ⟨_, by rw [← hz]; exact Heap.get?_push_size _ rfl, rfl⟩
theorem call_cb_rng {x : Addr} {a b c : Int} {t0 u v : Tok} {n r : Nat} {t : Tok} {Q : Value → Shared → Prop} (hh : A.handled = none) (hr : r ≤ 1000) (hl : n ≤ 1000) (hsmall : Builtin.Range.small a b c = true) (hn : Builtin.Range.rangeSize a b c = n) (hx : IsRange s.heap x a b c t0 u v)
    (h : ∀ (h' : Heap) (tk : Nat) (acc : Array Value), (∀ b o', s.heap.get? b = some o' → h'.get? b = some o') → ItemsOf (fun i v => ∃ t, v = .int (a + i * c) t) acc n → Q (.ref (h'.objs.size + 1)) { s with heap := (h'.push { cls := .type "tuple", data := .seq acc }).push (recC h'.objs.size n r), toks := tk }) :
    wpAny (model prog w) A (call (.type "itertools.combinations") [.ref x, .int r t]) Q E s := by
  refine callType_new called_cb (by decide +kernel) (tcall_cb _ _) (ncall_cb _ _) (fun obj => F.args_object_init_3 obj _ _) enew_cb (meets_rng hr hl hsmall hn) ⟨hh, hx, fun h' tk acc hk hi => ⟨?_, h h' tk acc hk hi⟩⟩
  have hz : (h'.push { cls := .type "tuple", data := .seq acc }).objs.size = h'.objs.size + 1 := by simp [Heap.push]
  exact ⟨_, by rw [← hz]; exact Heap.get?_push_size _ rfl, rfl⟩
theorem pn_item {it : Value} {Q : Option Value → Shared → Prop} (h : wpAny (model prog w) A (callSpecial? it "__next__") (fun r s1 => ∃ v, r = some v ∧ Q (some v) s1) (fun _ _ => False) s) : wpAny (model prog w) A (pyNext it) Q E s := by
  unfold pyNext
  refine wpAny_bind (wpAny_attempt (wpAny_mono h (fun r s1 z => ?_) fun _ _ z => z.elim))
  obtain ⟨v, rfl, q⟩ := z
  exact wpAny_pure q
theorem pn_end {it : Value} {Q : Option Value → Shared → Prop} (h : wpAny (model prog w) A (callSpecial? it "__next__") (fun _ _ => False) (fun e s1 => CpRep.StopE e s1.heap ∧ Q none s1) s) : wpAny (model prog w) A (pyNext it) Q E s := by
  unfold pyNext
  refine wpAny_bind (wpAny_attempt (wpAny_mono h (fun r s1 z => z.elim) fun e s1 z => ?_))
  obtain ⟨⟨a, o, vs, rfl, h1, h2, _⟩, q⟩ := z
  exact wpAny_bind (wpAny_isInstance (T := "StopIteration") (b := true) ⟨_, h1, h2⟩ isSubtype_stop (wpAny_pure q))
end
end Pf

namespace Pf
open PySem PySem.Spec PyProof.Rows L2

abbrev D := PyData
/-- how tuples are tracked: as they are (they may be a dict's keys), or locked with their object (dict(t) may read them) -/
class Mode where
  tm : Bool
def keyV : V → Bool
  | .int _ => true
  | .str _ => true
  | _ => false
/-- is the tuple tracked locked with its object? not, if it may be a dict's key and the mode is so -/
def lockT [Mode] (vs : List V) : Bool := Mode.tm || !vs.all keyV
theorem lock_key [Mode] {k : List Key} (m : Mode.tm = false) : lockT (k.map kV) = false := by
  have h : (k.map kV).all keyV = true := by
    rw [List.all_map, List.all_eq_true]
    intro x _
    cases x <;> rfl
  unfold lockT
  rw [m, h]
  rfl
def tupO [Mode] (o : Obj) (vs : List V) : HO := if lockT vs = true then .frz o (.tup vs) else .tup vs
def TupAt [Mode] (H : Hp) (a : Addr) (vs : List V) : Prop := if lockT vs = true then ∃ o, o.dict = none ∧ H a = some (.frz o (.tup vs)) else H a = some (.tup vs)
theorem TupAt.sqT [Mode] {K : PySem.W.Frag} {H : Hp} {a : Addr} {vs : List V} (h : TupAt H a vs) : SqT K H a vs := by
  unfold TupAt at h
  split at h
  · obtain ⟨o, _, h⟩ := h
    exact .inl (.inr ⟨o, h⟩)
  · exact .inl (.inl h)
theorem TupAt.new [Mode] {H : Hp} {a : Addr} {o : Obj} {vs : List V} (h : o.dict = none) : TupAt (upd H a (tupO o vs)) a vs := by
  unfold TupAt tupO
  split
  · exact ⟨o, h, upd_same⟩
  · exact upd_same
/-- the draw's token -/
def drw : D := .dict [(.none, .none)]

/-- where the draw and its script stand -/
structure Dr where
  a : Addr
  p : Addr
/-- a dict's key, as data -/
def keyD : Key → D
  | .inl i => .int i
  | .inr x => .str x
/-- a dict's data: keys are whole numbers and texts; keys are tuples of them -/
abbrev dictK (es : List (D × D)) : D := .dict ((.bool false, .none) :: es)
abbrev dictT (es : List (D × D)) : D := .dict ((.bool true, .none) :: es)
variable [Mode]
mutual
inductive Rep (K : PySem.W.Frag) (dr : Dr) (H : Hp) (B : Addr → Prop) : V → D → Prop
  | non : Rep K dr H B .non .none
  | bl (b : Bool) : Rep K dr H B (.bl b) (.bool b)
  | int (i : Int) : Rep K dr H B (.int i) (.int i)
  | str (x : Str) : Rep K dr H B (.str x) (.str x)
  | lst {a : Addr} {vs : List V} {ds : List D} : H a = some (.lst vs) → ¬ B a → Reps K dr H B vs ds → Rep K dr H B (.ref a) (.list ds)
  | tup {a : Addr} {vs : List V} {ds : List D} : TupAt H a vs → Reps K dr H B vs ds → Rep K dr H B (.ref a) (.tuple ds)
  | dic {a : Addr} {o : Obj} {kvs : List (Key × V)} {es : List (D × D)} : H a = some (.frz o (.dK kvs)) → RepK K dr H B kvs es → Rep K dr H B (.ref a) (.dict ((.bool false, .none) :: es))
  | diT {a : Addr} {o : Obj} {kvs : List (List Key × V)} {es : List (D × D)} : Mode.tm = false → H a = some (.frz o (.dT kvs)) → RepU K dr H B kvs es → Rep K dr H B (.ref a) (.dict ((.bool true, .none) :: es))
  | drw : Rep K dr H B (.ref dr.a) (.dict [(.none, .none)])
inductive Reps (K : PySem.W.Frag) (dr : Dr) (H : Hp) (B : Addr → Prop) : List V → List D → Prop
  | nil : Reps K dr H B [] []
  | cons {v : V} {vs : List V} {d : D} {ds : List D} : Rep K dr H B v d → Reps K dr H B vs ds → Reps K dr H B (v :: vs) (d :: ds)
inductive RepK (K : PySem.W.Frag) (dr : Dr) (H : Hp) (B : Addr → Prop) : List (Key × V) → List (D × D) → Prop
  | nil : RepK K dr H B [] []
  | cons {k : Key} {v : V} {vs : List (Key × V)} {d : D} {ds : List (D × D)} : Rep K dr H B v d → RepK K dr H B vs ds → RepK K dr H B ((k, v) :: vs) ((keyD k, d) :: ds)
inductive RepU (K : PySem.W.Frag) (dr : Dr) (H : Hp) (B : Addr → Prop) : List (List Key × V) → List (D × D) → Prop
  | nil : RepU K dr H B [] []
  | cons {k : List Key} {v : V} {vs : List (List Key × V)} {d : D} {ds : List (D × D)} : Rep K dr H B v d → RepU K dr H B vs ds → RepU K dr H B ((k, v) :: vs) ((.tuple (k.map keyD), d) :: ds)
end
/-- what a dict's object holds -/
inductive ConD (K : PySem.W.Frag) (dr : Dr) (H : Hp) (B : Addr → Prop) : HO → List (D × D) → Prop
  | k {kvs : List (Key × V)} {es : List (D × D)} : RepK K dr H B kvs es → ConD K dr H B (.dK kvs) ((.bool false, .none) :: es)
  | t {kvs : List (List Key × V)} {es : List (D × D)} : Mode.tm = false → RepU K dr H B kvs es → ConD K dr H B (.dT kvs) ((.bool true, .none) :: es)

/-- what is tracked outside W is as it was; tuples and locked things too -/
structure Kp (W : Addr → Prop) (H H' : Hp) : Prop where
  keep : ∀ b o, ¬ W b → H b = some o → H' b = some o
  tup : ∀ b xs, H b = some (.tup xs) → H' b = some (.tup xs)
  frz : ∀ b o u, H b = some (.frz o u) → H' b = some (.frz o u)
theorem Kp.refl {W : Addr → Prop} {H : Hp} : Kp W H H := ⟨fun _ _ _ h => h, fun _ _ h => h, fun _ _ _ h => h⟩
theorem Kp.trans {W : Addr → Prop} {H H1 H2 : Hp} (a : Kp W H H1) (b : Kp W H1 H2) : Kp W H H2 :=
  ⟨fun c o n h => b.keep c o n (a.keep c o n h), fun c xs h => b.tup c xs (a.tup c xs h), fun c o u h => b.frz c o u (a.frz c o u h)⟩
theorem Kp.of_same {W : Addr → Prop} {H H' : Hp} (h : Same H H') : Kp W H H' := ⟨fun b o _ e => h b o e, fun b xs e => h b _ e, fun b o u e => h b _ e⟩
theorem Kp.same {H H' : Hp} (h : Kp (fun _ => False) H H') : Same H H' := fun b o e => h.keep b o (fun z => z) e
theorem Kp.wide {W W' : Addr → Prop} {H H' : Hp} (h : Kp W H H') (w : ∀ b, W b → W' b) : Kp W' H H' := ⟨fun b o n e => h.keep b o (fun z => n (w b z)) e, h.tup, h.frz⟩
theorem same_new {H : Hp} {p : Addr} {o : HO} (n : H p = none) : Same H (upd H p o) := fun b u e => by
  rw [upd_ne (ne_of_none e n)]
  exact e
section
variable {K : PySem.W.Frag} {dr : Dr} {H H' : Hp} {W B B' : Addr → Prop}
theorem Kp.tupAt {a : Addr} {xs : List V} (k : Kp W H H') (h : TupAt H a xs) : TupAt H' a xs := by
  unfold TupAt at h ⊢
  split
  · rw [if_pos (by assumption)] at h
    obtain ⟨o, e, h⟩ := h
    exact ⟨o, e, k.frz _ _ _ h⟩
  · rw [if_neg (by assumption)] at h
    exact k.tup _ _ h
theorem Kp.sqT {a : Addr} {xs : List V} (k : Kp W H H') (h : SqT K H a xs) : SqT K H' a xs := by
  rcases h with (h | ⟨o, h⟩) | h
  · exact .inl (.inl (k.tup _ _ h))
  · exact .inl (.inr ⟨o, k.frz _ _ _ h⟩)
  · exact .inr h
theorem Kp.sqL {a : Addr} {xs : List V} (k : Kp W H H') (n : ¬ W a) (h : SqL K H a xs) : SqL K H' a xs := by
  rcases h with (h | ⟨o, h⟩) | h
  · exact .inl (.inl (k.keep _ _ n h))
  · exact .inl (.inr ⟨o, k.frz _ _ _ h⟩)
  · exact .inr h
mutual
theorem Rep.kp (k : Kp W H H') (w : ∀ b, W b → B b) : ∀ (d : D) (v : V), Rep K dr H B v d → Rep K dr H' B v d
  | _, _, .non => .non
  | _, _, .bl b => .bl b
  | _, _, .int i => .int i
  | _, _, .str x => .str x
  | _, _, .lst s n r => .lst (k.keep _ _ (fun z => n (w _ z)) s) n (Reps.kp k w _ _ r)
  | _, _, .tup s r => .tup (k.tupAt s) (Reps.kp k w _ _ r)
  | _, _, .dic s r => .dic (k.frz _ _ _ s) (RepK.kp k w _ _ r)
  | _, _, .diT m s r => .diT m (k.frz _ _ _ s) (RepU.kp k w _ _ r)
  | _, _, .drw => .drw
theorem Reps.kp (k : Kp W H H') (w : ∀ b, W b → B b) : ∀ (ds : List D) (vs : List V), Reps K dr H B vs ds → Reps K dr H' B vs ds
  | _, _, .nil => .nil
  | _, _, .cons r rs => .cons (Rep.kp k w _ _ r) (Reps.kp k w _ _ rs)
theorem RepK.kp (k : Kp W H H') (w : ∀ b, W b → B b) : ∀ (ds : List (D × D)) (vs : List (Key × V)), RepK K dr H B vs ds → RepK K dr H' B vs ds
  | _, _, .nil => .nil
  | _, _, .cons r rs => .cons (Rep.kp k w _ _ r) (RepK.kp k w _ _ rs)
theorem RepU.kp (k : Kp W H H') (w : ∀ b, W b → B b) : ∀ (ds : List (D × D)) (vs : List (List Key × V)), RepU K dr H B vs ds → RepU K dr H' B vs ds
  | _, _, .nil => .nil
  | _, _, .cons r rs => .cons (Rep.kp k w _ _ r) (RepU.kp k w _ _ rs)
end
mutual
theorem Rep.anti (w : ∀ b, B' b → B b ∨ H b = none) : ∀ (d : D) (v : V), Rep K dr H B v d → Rep K dr H B' v d
  | _, _, .non => .non
  | _, _, .bl b => .bl b
  | _, _, .int i => .int i
  | _, _, .str x => .str x
  | _, _, .lst s n r => .lst s (fun z => (w _ z).elim n fun q => by rw [s] at q; cases q) (Reps.anti w _ _ r)
  | _, _, .tup s r => .tup s (Reps.anti w _ _ r)
  | _, _, .dic s r => .dic s (RepK.anti w _ _ r)
  | _, _, .diT m s r => .diT m s (RepU.anti w _ _ r)
  | _, _, .drw => .drw
theorem Reps.anti (w : ∀ b, B' b → B b ∨ H b = none) : ∀ (ds : List D) (vs : List V), Reps K dr H B vs ds → Reps K dr H B' vs ds
  | _, _, .nil => .nil
  | _, _, .cons r rs => .cons (Rep.anti w _ _ r) (Reps.anti w _ _ rs)
theorem RepK.anti (w : ∀ b, B' b → B b ∨ H b = none) : ∀ (ds : List (D × D)) (vs : List (Key × V)), RepK K dr H B vs ds → RepK K dr H B' vs ds
  | _, _, .nil => .nil
  | _, _, .cons r rs => .cons (Rep.anti w _ _ r) (RepK.anti w _ _ rs)
theorem RepU.anti (w : ∀ b, B' b → B b ∨ H b = none) : ∀ (ds : List (D × D)) (vs : List (List Key × V)), RepU K dr H B vs ds → RepU K dr H B' vs ds
  | _, _, .nil => .nil
  | _, _, .cons r rs => .cons (Rep.anti w _ _ r) (RepU.anti w _ _ rs)
end
theorem ConD.kp (k : Kp W H H') (w : ∀ b, W b → B b) {u : HO} {ds : List (D × D)} (h : ConD K dr H B u ds) : ConD K dr H' B u ds := by
  cases h with
  | k r => exact .k (RepK.kp k w _ _ r)
  | t m r => exact .t m (RepU.kp k w _ _ r)
theorem ConD.anti (w : ∀ b, B' b → B b ∨ H b = none) {u : HO} {ds : List (D × D)} (h : ConD K dr H B u ds) : ConD K dr H B' u ds := by
  cases h with
  | k r => exact .k (RepK.anti w _ _ r)
  | t m r => exact .t m (RepU.anti w _ _ r)
/-- a free dict is locked -/
theorem Rep.dict {v : V} {ds : List (D × D)} (h : Rep K dr H B v (.dict ds)) : (v = .ref dr.a ∧ ds = [(.none, .none)]) ∨ ∃ a o u, v = .ref a ∧ H a = some (.frz o u) ∧ ConD K dr H B u ds := by
  cases h with
  | dic s r => exact .inr ⟨_, _, _, rfl, s, .k r⟩
  | diT m s r => exact .inr ⟨_, _, _, rfl, s, .t m r⟩
  | drw => exact .inl ⟨rfl, rfl⟩
theorem ConD.rep {a : Addr} {o : Obj} {u : HO} {ds : List (D × D)} (h : ConD K dr H B u ds) (s : H a = some (.frz o u)) : Rep K dr H B (.ref a) (.dict ds) := by
  cases h with
  | k r => exact .dic s r
  | t m r => exact .diT m s r
theorem Reps.length : ∀ {ds : List D} {vs : List V}, Reps K dr H B vs ds → vs.length = ds.length
  | [], _, h => by cases h; rfl
  | _ :: ds, _, h => by
    cases h with
    | cons _ rs => simp [Reps.length rs]
theorem Reps.get : ∀ {ds : List D} {vs : List V} {i : Nat} {d : D}, Reps K dr H B vs ds → ds[i]? = some d → ∃ v, vs[i]? = some v ∧ Rep K dr H B v d
  | [], _, _, _, _, e => by simp at e
  | _ :: ds, _, 0, _, h, e => by
    cases h with
    | cons r _ => simp at e; subst e; exact ⟨_, rfl, r⟩
  | _ :: ds, _, i + 1, _, h, e => by
    cases h with
    | cons _ rs =>
      obtain ⟨v, e1, r⟩ := Reps.get (i := i) rs (by simpa using e)
      exact ⟨v, by simpa using e1, r⟩
theorem Reps.getV : ∀ {ds : List D} {vs : List V} {i : Nat} {v : V}, Reps K dr H B vs ds → vs[i]? = some v → ∃ d, ds[i]? = some d ∧ Rep K dr H B v d
  | [], _, _, _, h, e => by cases h; simp at e
  | _ :: ds, _, 0, _, h, e => by
    cases h with
    | cons r _ => simp at e; subst e; exact ⟨_, rfl, r⟩
  | _ :: ds, _, i + 1, _, h, e => by
    cases h with
    | cons _ rs =>
      obtain ⟨v, e1, r⟩ := Reps.getV (i := i) rs (by simpa using e)
      exact ⟨v, by simpa using e1, r⟩
theorem Reps.append : ∀ {ds es : List D} {vs us : List V}, Reps K dr H B vs ds → Reps K dr H B us es → Reps K dr H B (vs ++ us) (ds ++ es)
  | [], _, _, _, h, q => by cases h; exact q
  | _ :: ds, _, _, _, h, q => by
    cases h with
    | cons r rs => exact .cons r (Reps.append rs q)
theorem Reps.drop : ∀ {ds : List D} {vs : List V} (n : Nat), Reps K dr H B vs ds → Reps K dr H B (vs.drop n) (ds.drop n)
  | _, _, 0, h => h
  | [], _, _ + 1, h => by cases h; exact .nil
  | _ :: ds, _, n + 1, h => by
    cases h with
    | cons _ rs => exact Reps.drop n rs
theorem Reps.take : ∀ {ds : List D} {vs : List V} (n : Nat), Reps K dr H B vs ds → Reps K dr H B (vs.take n) (ds.take n)
  | _, _, 0, h => .nil
  | [], _, _ + 1, h => by cases h; exact .nil
  | _ :: ds, _, n + 1, h => by
    cases h with
    | cons r rs => exact .cons r (Reps.take n rs)
theorem Reps.set : ∀ {ds : List D} {vs : List V} {d : D} {v : V} (n : Nat), Rep K dr H B v d → Reps K dr H B vs ds → Reps K dr H B (vs.set n v) (ds.set n d)
  | [], _, _, _, _, _, h => by cases h; exact .nil
  | _ :: ds, _, _, _, 0, q, h => by
    cases h with
    | cons _ rs => exact .cons q rs
  | _ :: ds, _, _, _, n + 1, q, h => by
    cases h with
    | cons r rs => exact .cons r (Reps.set n q rs)
theorem Reps.ints : ∀ {ns : List Int}, Reps K dr H B (ns.map V.int) (ns.map PyData.int)
  | [] => .nil
  | _ :: _ => .cons (.int _) Reps.ints
mutual
theorem Rep.dp : ∀ (d : D) (v : V), Rep K dr H B v d → d.plain = true → Dp K H v d
  | .none, _, h, _ => by cases h; exact .non
  | .bool b, _, h, _ => by cases h; exact .bl b
  | .int i, _, h, _ => by cases h; exact .int i
  | .str x, _, h, _ => by cases h; exact .str x
  | .list ds, _, h, p => by
    cases h with
    | lst s n r => exact .lst (SqL.of s) (Reps.dp ds _ r p)
  | .tuple ds, _, h, p => by
    cases h with
    | tup s r => exact .tup s.sqT (Reps.dp ds _ r p)
  | .dict _, _, h, p => by cases p
theorem Reps.dp : ∀ (ds : List D) (vs : List V), Reps K dr H B vs ds → PyData.plainAll ds = true → DpAll K H vs ds
  | [], _, h, _ => by cases h; exact .nil
  | d :: ds, _, h, p => by
    cases h with
    | cons r rs =>
      have p' : d.plain = true ∧ PyData.plainAll ds = true := by simpa [PyData.plainAll] using p
      exact .cons (Rep.dp d _ r p'.1) (Reps.dp ds _ rs p'.2)
end
end

/-- as Rep, but the outermost list, or dict, may be an owned one -/
def RepT (K : PySem.W.Frag) (dr : Dr) (H : Hp) (B : Addr → Prop) (v : V) (d : D) : Prop :=
  Rep K dr H B v d ∨ (∃ a vs ds, v = .ref a ∧ d = .list ds ∧ (H a = some (.lst vs) ∧ a ≠ dr.a ∧ a ≠ dr.p) ∧ Reps K dr H B vs ds) ∨
    ∃ a u ds, v = .ref a ∧ d = .dict ds ∧ (H a = some u ∧ a ≠ dr.a ∧ a ≠ dr.p) ∧ ConD K dr H B u ds
section
variable {K : PySem.W.Frag} {dr : Dr} {H H' : Hp} {W B B' : Addr → Prop} {v : V} {d : D} {ds : List D}
theorem RepT.list (h : RepT K dr H B v (.list ds)) : ∃ a vs, v = .ref a ∧ H a = some (.lst vs) ∧ Reps K dr H B vs ds := by
  rcases h with h | ⟨a, vs, ds', e1, e2, e3, r⟩ | ⟨_, _, _, _, e2, _⟩
  · cases h with
    | lst s _ r => exact ⟨_, _, rfl, s, r⟩
  · cases e2
    exact ⟨a, vs, e1, e3.1, r⟩
  · cases e2
theorem RepT.tupleH (h : RepT K dr H B v (.tuple ds)) : ∃ a vs, v = .ref a ∧ TupAt H a vs ∧ Reps K dr H B vs ds := by
  rcases h with h | ⟨a, vs, ds', e1, e2, e3, r⟩ | ⟨_, _, _, _, e2, _⟩
  · cases h with
    | tup s r => exact ⟨_, _, rfl, s, r⟩
  · cases e2
  · cases e2
theorem RepT.tuple (h : RepT K dr H B v (.tuple ds)) : ∃ a vs, v = .ref a ∧ SqT K H a vs ∧ Reps K dr H B vs ds := by
  obtain ⟨a, vs, e, s, r⟩ := h.tupleH
  exact ⟨a, vs, e, s.sqT, r⟩
theorem RepT.int {i : Int} (h : RepT K dr H B v (.int i)) : v = .int i := by
  rcases h with h | ⟨a, vs, ds', e1, e2, e3, r⟩ | ⟨_, _, _, _, e2, _⟩
  · cases h; rfl
  · cases e2
  · cases e2
theorem RepT.bool {i : Bool} (h : RepT K dr H B v (.bool i)) : v = .bl i := by
  rcases h with h | ⟨a, vs, ds', e1, e2, e3, r⟩ | ⟨_, _, _, _, e2, _⟩
  · cases h; rfl
  · cases e2
  · cases e2
theorem RepT.str {i : Str} (h : RepT K dr H B v (.str i)) : v = .str i := by
  rcases h with h | ⟨a, vs, ds', e1, e2, e3, r⟩ | ⟨_, _, _, _, e2, _⟩
  · cases h; rfl
  · cases e2
  · cases e2
/-- a dict, locked or owned -/
theorem RepT.dict {es : List (D × D)} (h : RepT K dr H B v (.dict es)) : (v = .ref dr.a ∧ es = [(.none, .none)]) ∨ ∃ a u, v = .ref a ∧ (H a = some u ∨ ∃ o, H a = some (.frz o u)) ∧ ConD K dr H B u es := by
  rcases h with h | ⟨a, vs, ds', e1, e2, e3, r⟩ | ⟨a, u, ds', e1, e2, e3, r⟩
  · rcases h.dict with q | ⟨a, o, u, e1, e2, r⟩
    · exact .inl q
    · exact .inr ⟨a, u, e1, .inr ⟨o, e2⟩, r⟩
  · cases e2
  · cases e2
    exact .inr ⟨a, u, e1, .inl e3.1, r⟩
theorem RepT.none_iff (h : RepT K dr H B v d) : v = .non ↔ d = .none := by
  rcases h with h | ⟨a, vs, ds', e1, e2, e3, r⟩ | ⟨a, vs, ds', e1, e2, e3, r⟩
  · cases h <;> simp
  · subst e1 e2; simp
  · subst e1 e2; simp
theorem RepT.dp (h : RepT K dr H B v d) (p : d.plain = true) : Dp K H v d := by
  rcases h with h | ⟨a, vs, ds', e1, e2, e3, r⟩ | ⟨a, vs, ds', e1, e2, e3, r⟩
  · exact Rep.dp d v h p
  · subst e1 e2
    exact .lst (SqL.of e3.1) (Reps.dp _ _ r p)
  · subst e1 e2
    cases p
theorem RepT.same (h : RepT K dr H B v d) (k : Same H H') : RepT K dr H' B v d := by
  rcases h with h | ⟨a, vs, ds', e1, e2, e3, r⟩ | ⟨a, vs, ds', e1, e2, e3, r⟩
  · exact .inl (Rep.kp (W := fun _ => False) (.of_same k) (fun _ z => z.elim) d v h)
  · exact .inr (.inl ⟨a, vs, ds', e1, e2, ⟨k _ _ e3.1, e3.2⟩, Reps.kp (W := fun _ => False) (.of_same k) (fun _ z => z.elim) _ _ r⟩)
  · exact .inr (.inr ⟨a, vs, ds', e1, e2, ⟨k _ _ e3.1, e3.2⟩, ConD.kp (W := fun _ => False) (.of_same k) (fun _ z => z.elim) r⟩)
theorem Rep.same (h : Rep K dr H B v d) (k : Same H H') : Rep K dr H' B v d := Rep.kp (W := fun _ => False) (.of_same k) (fun _ z => z.elim) d v h
theorem Reps.same {vs : List V} (h : Reps K dr H B vs ds) (k : Same H H') : Reps K dr H' B vs ds := Reps.kp (W := fun _ => False) (.of_same k) (fun _ z => z.elim) ds vs h
theorem ConD.same {u : HO} {es : List (D × D)} (h : ConD K dr H B u es) (k : Same H H') : ConD K dr H' B u es := ConD.kp (W := fun _ => False) (.of_same k) (fun _ z => z.elim) h
theorem RepT.kd (h : RepT K dr H B v d) (k : Kp (fun b => b = dr.a) H H') (hb : B dr.a) : RepT K dr H' B v d := by
  have w : ∀ b, b = dr.a → B b := fun b e => by subst e; exact hb
  rcases h with h | ⟨a, vs, ds', e1, e2, e3, r⟩ | ⟨a, vs, ds', e1, e2, e3, r⟩
  · exact .inl (Rep.kp k w d v h)
  · exact .inr (.inl ⟨a, vs, ds', e1, e2, ⟨k.keep _ _ e3.2.1 e3.1, e3.2⟩, Reps.kp k w _ _ r⟩)
  · exact .inr (.inr ⟨a, vs, ds', e1, e2, ⟨k.keep _ _ e3.2.1 e3.1, e3.2⟩, ConD.kp k w r⟩)
theorem Rep.low (h : Rep K dr H B v d) : RepT K dr H B v d := .inl h
end

structure DS where
  ns : List Int
  i : Nat
  x : Int
  y : Int
  hi : i ≤ ns.length
  hx : 0 ≤ x
  hy0 : 0 ≤ y
  hy1 : y < 2147483647
def DrawOk (K : PySem.W.Frag) (dr : Dr) (H : Hp) (st : DS) : Prop :=
  H dr.a = some (.lst [.ref dr.p, .int st.i, .int st.x, .int st.y]) ∧ H dr.p = some (.lst (st.ns.map V.int)) ∧ dr.p ≠ dr.a
theorem DrawOk.same {K : PySem.W.Frag} {dr : Dr} {H H' : Hp} {st : DS} (h : DrawOk K dr H st) (k : Same H H') : DrawOk K dr H' st := ⟨k _ _ h.1, k _ _ h.2.1, h.2.2⟩

inductive Slot where
  | no
  | sh (d : D)
  | ow (d : D)
  | le (d : D)
/-- what is owned by a name -/
def Own (K : PySem.W.Frag) (dr : Dr) (H : Hp) (B : Addr → Prop) (a : Addr) : D → Prop
  | .list ds => ∃ vs, H a = some (.lst vs) ∧ Reps K dr H B vs ds
  | .dict ds => ∃ u, H a = some u ∧ ConD K dr H B u ds
  | _ => False
def Ows (ρ : List Slot) (σ : L2.St) (b : Addr) : Prop := ∃ (i : Nat) (d : D), ρ[i]? = some (.ow d) ∧ σ[i]? = some (some (.ref b))
/-- what a free value may not lead to -/
def BB (B0 : Addr → Prop) (ρ : List Slot) (σ : L2.St) (b : Addr) : Prop := B0 b ∨ Ows ρ σ b
/-- what may have been written -/
def Wr (dr : Dr) (ρ : List Slot) (σ : L2.St) (b : Addr) : Prop := b = dr.a ∨ Ows ρ σ b
structure Sim (K : PySem.W.Frag) (dr : Dr) (B0 : Addr → Prop) (H : Hp) (ρ : List Slot) (σ : L2.St) (st : DS) : Prop where
  drw : DrawOk K dr H st
  bdr : B0 dr.a
  bsp : B0 dr.p
  alo : ∀ b, B0 b → H b ≠ none
  sh : ∀ (i : Nat) (d : D), ρ[i]? = some (.sh d) → ∃ v, σ[i]? = some (some v) ∧ Rep K dr H (BB B0 ρ σ) v d
  ow : ∀ (i : Nat) (d : D), ρ[i]? = some (.ow d) → ∃ a, σ[i]? = some (some (.ref a)) ∧ ¬ B0 a ∧ Own K dr H (BB B0 ρ σ) a d
  le : ∀ (i : Nat) (d : D), ρ[i]? = some (.le d) → ∃ a, σ[i]? = some (some (.ref a)) ∧ B0 a ∧ (a ≠ dr.a ∧ a ≠ dr.p) ∧ Own K dr H (BB B0 ρ σ) a d
  sep : ∀ (i j : Nat) (d e : D) (a : Addr), ρ[i]? = some (.ow d) → ρ[j]? = some (.ow e) → σ[i]? = some (some (.ref a)) → σ[j]? = some (some (.ref a)) → i = j
  len : ρ.length = σ.length
/-- an expression's run: what was there stays, but the draw may have moved on -/
abbrev KD (dr : Dr) (H H' : Hp) : Prop := Kp (fun b => b = dr.a) H H'
section
variable {K : PySem.W.Frag} {dr : Dr} {B0 : Addr → Prop} {H H' : Hp} {ρ : List Slot} {σ : L2.St} {st st' : DS}
theorem Own.kp {B W : Addr → Prop} {a : Addr} {d : D} (k : Kp W H H') (w : ∀ b, W b → B b) (n : ¬ W a) (h : Own K dr H B a d) : Own K dr H' B a d := by
  cases d <;> first
    | exact h.elim
    | (obtain ⟨vs, e, r⟩ := h; exact ⟨vs, k.keep _ _ n e, Reps.kp k w _ _ r⟩)
    | (obtain ⟨vs, e, r⟩ := h; exact ⟨vs, k.keep _ _ n e, ConD.kp k w r⟩)
theorem Sim.bd (S : Sim K dr B0 H ρ σ st) : ∀ b, b = dr.a → BB B0 ρ σ b := fun b e => by subst e; exact .inl S.bdr
theorem Sim.kd (S : Sim K dr B0 H ρ σ st) (k : KD dr H H') (h : DrawOk K dr H' st') : Sim K dr B0 H' ρ σ st' where
  drw := h
  bdr := S.bdr
  bsp := S.bsp
  alo := fun b hb e => by
    by_cases hd : b = dr.a
    · subst hd
      rw [h.1] at e
      cases e
    · cases q : H b with
      | none => exact S.alo b hb q
      | some o =>
        rw [k.keep b o hd q] at e
        cases e
  sh := fun i d e => by
    obtain ⟨v, e1, r⟩ := S.sh i d e
    exact ⟨v, e1, Rep.kp k S.bd d v r⟩
  ow := fun i d e => by
    obtain ⟨a, e1, n, o⟩ := S.ow i d e
    exact ⟨a, e1, n, o.kp k S.bd (fun z => n (by rw [z]; exact S.bdr))⟩
  le := fun i d e => by
    obtain ⟨a, e1, n, nd, o⟩ := S.le i d e
    exact ⟨a, e1, n, nd, o.kp k S.bd nd.1⟩
  sep := S.sep
  len := S.len
theorem Sim.same (S : Sim K dr B0 H ρ σ st) (k : Same H H') : Sim K dr B0 H' ρ σ st := S.kd (.of_same k) (S.drw.same k)
/-- nothing blocked is new -/
theorem Sim.fresh (S : Sim K dr B0 H ρ σ st) {p : Addr} (n : H p = none) : ¬ BB B0 ρ σ p := fun h => by
  rcases h with h | ⟨i, d, e1, e2⟩
  · exact S.alo p h n
  · obtain ⟨a, e3, _, o⟩ := S.ow i d e1
    rw [e2] at e3
    cases e3
    cases d <;> first
      | exact o.elim
      | (obtain ⟨vs, e, _⟩ := o; rw [n] at e; cases e)
end
end Pf

namespace Pf
open PySem PySem.Spec PyProof.Rows L2
variable [Mode]

inductive Bi where
  | len | tuple | list | sorted | all | any | sum | min | max | abs | int
  deriving DecidableEq
inductive Ty where
  | list | tuple | bool | str | int | dict
  deriving DecidableEq
def Bi.name : Bi → Str
  | .len => "len" | .tuple => "tuple" | .list => "list" | .sorted => "sorted" | .all => "all" | .any => "any" | .sum => "sum" | .min => "min" | .max => "max" | .abs => "abs" | .int => "int"
def Ty.name : Ty → Str
  | .list => "list" | .tuple => "tuple" | .bool => "bool" | .str => "str" | .int => "int" | .dict => "dict"
/-- the global names: of functions; of constants; of the library -/
structure Nm where
  fs : List Str
  cs : List Str
  lib : List Str
/-- the library's names -/
def LibOk (lib : List Str) (mg : Str → Option Value) : Prop := (("gcd" : Str) ∈ lib → mg "gcd" = some (.builtin "math.gcd")) ∧ (("lcm" : Str) ∈ lib → mg "lcm" = some (.builtin "math.lcm")) ∧ (("combinations" : Str) ∈ lib → mg "combinations" = some (.type "itertools.combinations")) ∧ (("permutations" : Str) ∈ lib → mg "permutations" = some (.type "itertools.permutations"))
/-- a target: a name, or a tuple of targets -/
inductive Tg where
  | nm (i : Nat)
  | tp (ts : List Tg)
mutual
inductive Ex where
  | non | bl (b : Bool) | int (i : Int) | str (x : Str)
  | var (i : Nat)
  | bin (op : Operator) (a b : Ex)
  | neg (a : Ex) | nt (a : Ex)
  | cmp (op : CmpOp) (a b : Ex)
  | isN (yes : Bool) (a : Ex)
  | isB (yes c : Bool) (a : Ex)
  | chn (o1 o2 : CmpOp) (a b c : Ex)
  | bop (an : Bool) (es : Exs)
  | ife (c a b : Ex)
  | tup (es : Exs) | lst (es : Exs)
  | ix (a b : Ex)
  | sl (a : Ex) (lo hi : Exs)
  | lc (elt : Ex) (tg : Tg) (it : It) (ifs : Exs)
  | call (j : Nat) (es : Exs)
  | gl (j : Nat)
  | gcd (a b : Ex)
  | lcm (a b : Ex)
  | rvs (a : Ex)
  | cnt (a b : Ex)
  | lrg (es : Exs)
  | srev (a : Ex)
  | si (a : Ex)
  | mnd (i : Int) (a : Ex)
  | lkb (i : Nat) (b : Bi) (es : Exs)
  | lkc (i j : Nat) (es : Exs)
  | sset (a : Ex)
  | lset (a : Ex)
  | bi (b : Bi) (es : Exs)
  | isi (e : Ex) (ts : List Ty)
  | get (a : Ex) (es : Exs)
  | dic (t : Bool)
  | dof (a : Ex)
  | dofT (a : Ex)
  | dsp (k v : Ex)
  | dc (k v : Ex) (tg : Tg) (it : It) (ifs : Exs)
inductive Exs where
  | nil
  | cons (e : Ex) (es : Exs)
inductive It where
  | seq (e : Ex) | rng (es : Exs) | enm (e : Ex) | zip (a b : Ex)
  | its (e : Ex) | vls (e : Ex)
  | rev (e : Ex)
  | cmb (a r : Ex)
  | cmr (es : Exs) (r : Ex)
end
mutual
inductive Sm where
  | set (i : Nat) (e : Ex)
  | setT (tg : Tg) (e : Ex)
  | par (is : List Nat) (es : Exs)
  | parN (is : List Nat) (es : Exs)
  | parD (is : List Nat) (es : Exs)
  | app (i : Nat) (e : Ex)
  | ext (i : Nat) (e : Ex)
  | put (i : Nat) (k e : Ex)
  | put2 (i : Nat) (k : Ex) (j : Nat) (l : Ex) (es : Exs)
  | setD (i : Nat) (e : Ex)
  | popS (j i : Nat)
  | popD (i : Nat) (k : Ex)
  | popV (j i : Nat) (k : Ex)
  | ret (e : Ex)
  | iff (c : Ex) (a b : Sms)
  | for_ (tg : Tg) (it : It) (body : Sms)
  | whl (c : Ex) (body : Sms)
  | brk | cnt | pas
inductive Sms where
  | nil
  | cons (s : Sm) (r : Sms)
  | shr (i : Nat) (r : Sms)
end

/-- walks that give pairs -/
def isPair : It → Bool
  | .enm _ => true
  | .zip _ _ => true
  | .its _ => true
  | _ => false
inductive PTr where
  | n (k : Nat) (ps : List Pos) (ts : List PTr)
  | c (sc : Scope) (ps : List Pos) (ts : List PTr)
def p0 : Pos := ⟨0, 0, 0, 0⟩
def PTr.k : PTr → Nat
  | .n k _ _ => k
  | .c _ _ _ => 0
def PTr.p (t : PTr) (i : Nat) : Pos := match t with
  | .n _ ps _ => ps.getD i p0
  | .c _ ps _ => ps.getD i p0
def PTr.ts : PTr → List PTr
  | .n _ _ ts => ts
  | .c _ _ ts => ts
def PTr.s (t : PTr) (i : Nat) : PTr := t.ts.getD i (.n 0 [] [])
def PTr.sc : PTr → Scope
  | .n _ _ _ => { kind := .function, names := [], isGenerator := false, isCoroutine := false }
  | .c sc _ _ => sc
def hdT (ts : List PTr) : PTr := ts.headD (.n 0 [] [])
mutual
def toTg (N : List Str) : Tg → PTr → Expr
  | .nm i, t => .Name (N.getD i Str.empty) (t.p 0)
  | .tp ts, t => .Tuple (toTgs N ts t.ts) t.k (t.p 0)
def toTgs (N : List Str) : List Tg → List PTr → List Expr
  | [], _ => []
  | g :: gs, ts => toTg N g (hdT ts) :: toTgs N gs ts.tail
end
def tyNames : List Ty → List PTr → List Expr
  | [], _ => []
  | y :: ys, ts => .Name y.name ((hdT ts).p 0) :: tyNames ys ts.tail
def tyE (ys : List Ty) (t : PTr) : Expr := match ys with
  | [y] => .Name y.name (t.p 0)
  | ys => .Tuple (tyNames ys t.ts) t.k (t.p 0)
mutual
def toE (N : List Str) (G : Nm) : Ex → PTr → Expr
  | .non, t => .Constant .none t.k (t.p 0)
  | .bl b, t => .Constant (.bool b) t.k (t.p 0)
  | .int i, t => .Constant (.int i) t.k (t.p 0)
  | .str x, t => .Constant (.str x) t.k (t.p 0)
  | .var i, t => .Name (N.getD i Str.empty) (t.p 0)
  | .bin op a b, t => .BinOp (toE N G a (t.s 0)) op (toE N G b (t.s 1)) (t.p 0)
  | .neg a, t => .UnaryOp .USub (toE N G a (t.s 0)) (t.p 0)
  | .nt a, t => .UnaryOp .Not (toE N G a (t.s 0)) (t.p 0)
  | .cmp op a b, t => .Compare (toE N G a (t.s 0)) [op] [toE N G b (t.s 1)] (t.p 0)
  | .isN yes a, t => .Compare (toE N G a (t.s 0)) [if yes then .Is else .IsNot] [.Constant .none t.k (t.p 1)] (t.p 0)
  | .isB yes b a, t => .Compare (toE N G a (t.s 0)) [if yes then .Is else .IsNot] [.Constant (.bool b) t.k (t.p 1)] (t.p 0)
  | .chn o1 o2 a b c, t => .Compare (toE N G a (t.s 0)) [o1, o2] [toE N G b (t.s 1), toE N G c (t.s 2)] (t.p 0)
  | .bop an es, t => .BoolOp (if an then .And else .Or) (toEs N G es t.ts) (t.p 0)
  | .ife c a b, t => .IfExp (toE N G c (t.s 0)) (toE N G a (t.s 1)) (toE N G b (t.s 2)) (t.p 0)
  | .tup es, t => .Tuple (toEs N G es t.ts) t.k (t.p 0)
  | .lst es, t => .List (toEs N G es t.ts) (t.p 0)
  | .ix a b, t => .Subscript (toE N G a (t.s 0)) (toE N G b (t.s 1)) (t.p 0)
  | .sl a lo hi, t => .Subscript (toE N G a (t.s 0)) (.Slice (toO N G lo (t.s 1)) (toO N G hi (t.s 2)) none (t.p 1)) (t.p 0)
  | .lc elt tg it ifs, t => .ListComp (toE N G elt (t.s 0)) [⟨toTg N tg (t.s 1), toIt N G it (t.s 2), toEs N G ifs (t.s 3).ts, 0⟩] t.sc (t.p 0)
  | .call j es, t => .Call (.Name (G.fs.getD j Str.empty) (t.p 1)) (toEs N G es t.ts) [] (t.p 0)
  | .gl j, t => .Name (G.cs.getD j Str.empty) (t.p 0)
  | .gcd a b, t => .Call (.Name "gcd" (t.p 1)) [toE N G a (t.s 0), toE N G b (t.s 1)] [] (t.p 0)
  | .lcm a b, t => .Call (.Name "lcm" (t.p 1)) [toE N G a (t.s 0), toE N G b (t.s 1)] [] (t.p 0)
  | .rvs a, t => .Subscript (toE N G a (t.s 0)) (.Slice none none (some (.UnaryOp .USub (.Constant (.int 1) t.k (t.p 1)) (t.p 2))) (t.p 3)) (t.p 0)
  | .cnt a b, t => .Call (.Attribute (toE N G a (t.s 0)) "count" (t.p 1)) [toE N G b (t.s 1)] [] (t.p 0)
  | .lrg es, t => .Call (.Name "list" (t.p 1)) [.Call (.Name "range" (t.p 3)) (toEs N G es t.ts) [] (t.p 2)] [] (t.p 0)
  | .srev a, t => .Call (.Name "sorted" (t.p 1)) [toE N G a (t.s 0)] [⟨some "reverse", .Constant (.bool true) t.k (t.p 3), t.p 2⟩] (t.p 0)
  | .mnd i a, t => .Call (.Name "min" (t.p 1)) [toE N G a (t.s 0)] [⟨some "default", .Constant (.int i) t.k (t.p 3), t.p 2⟩] (t.p 0)
  | .lkb _ b es, t => .Call (.Name b.name (t.p 1)) (toEs N G es t.ts) [] (t.p 0)
  | .lkc _ j es, t => .Call (.Name (G.fs.getD j Str.empty) (t.p 1)) (toEs N G es t.ts) [] (t.p 0)
  | .si a, t => .Call (.Name "sorted" (t.p 1)) [.Call (.Attribute (toE N G a (t.s 0)) "items" (t.p 3)) [] [] (t.p 2)] [] (t.p 0)
  | .lset a, t => .Call (.Name "len" (t.p 1)) [.Call (.Name "set" (t.p 3)) [toE N G a (t.s 0)] [] (t.p 2)] [] (t.p 0)
  | .sset a, t => .Call (.Name "sorted" (t.p 1)) [.Call (.Name "set" (t.p 3)) [toE N G a (t.s 0)] [] (t.p 2)] [] (t.p 0)
  | .bi b es, t => .Call (.Name b.name (t.p 1)) (toEs N G es t.ts) [] (t.p 0)
  | .isi e ys, t => .Call (.Name "isinstance" (t.p 1)) [toE N G e (t.s 0), tyE ys (t.s 1)] [] (t.p 0)
  | .get a es, t => .Call (.Attribute (toE N G a (t.s 0)) "get" (t.p 1)) (toEs N G es (t.s 1).ts) [] (t.p 0)
  | .dic _, t => .Dict [] [] (t.p 0)
  | .dof a, t => .Call (.Name "dict" (t.p 1)) [toE N G a (t.s 0)] [] (t.p 0)
  | .dofT a, t => .Call (.Name "dict" (t.p 1)) [toE N G a (t.s 0)] [] (t.p 0)
  | .dsp k v, t => .Dict [some (toE N G k (t.s 0))] [toE N G v (t.s 1)] (t.p 0)
  | .dc k v tg it ifs, t => .DictComp (toE N G k (t.s 0)) (toE N G v (t.s 1)) [⟨toTg N tg (t.s 2), toIt N G it (t.s 3), toEs N G ifs (t.s 4).ts, 0⟩] t.sc (t.p 0)
def toEs (N : List Str) (G : Nm) : Exs → List PTr → List Expr
  | .nil, _ => []
  | .cons e es, ts => toE N G e (hdT ts) :: toEs N G es ts.tail
def toO (N : List Str) (G : Nm) : Exs → PTr → Option Expr
  | .nil, _ => none
  | .cons e _, t => some (toE N G e t)
def toIt (N : List Str) (G : Nm) : It → PTr → Expr
  | .seq e, t => toE N G e t
  | .rng es, t => .Call (.Name "range" (t.p 1)) (toEs N G es t.ts) [] (t.p 0)
  | .enm e, t => .Call (.Name "enumerate" (t.p 1)) [toE N G e (t.s 0)] [] (t.p 0)
  | .zip a b, t => .Call (.Name "zip" (t.p 1)) [toE N G a (t.s 0), toE N G b (t.s 1)] [] (t.p 0)
  | .its a, t => .Call (.Attribute (toE N G a (t.s 0)) "items" (t.p 1)) [] [] (t.p 0)
  | .vls a, t => .Call (.Attribute (toE N G a (t.s 0)) "values" (t.p 1)) [] [] (t.p 0)
  | .rev a, t => .Call (.Name "reversed" (t.p 1)) [toE N G a (t.s 0)] [] (t.p 0)
  | .cmb a r, t => .Call (.Name "combinations" (t.p 1)) [toE N G a (t.s 0), toE N G r (t.s 1)] [] (t.p 0)
  | .cmr es r, t => .Call (.Name "combinations" (t.p 1)) [.Call (.Name "range" (t.p 3)) (toEs N G es t.ts.tail) [] (t.p 2), toE N G r (t.s 0)] [] (t.p 0)
end
def names (N : List Str) : List Nat → List PTr → List Expr
  | [], _ => []
  | i :: is, ts => .Name (N.getD i Str.empty) ((hdT ts).p 0) :: names N is ts.tail
mutual
def toS (N : List Str) (G : Nm) : Sm → PTr → Stmt
  | .set i e, t => .Assign [.Name (N.getD i Str.empty) (t.p 1)] (toE N G e (t.s 0)) (t.p 0)
  | .setT tg e, t => .Assign [toTg N tg (t.s 0)] (toE N G e (t.s 1)) (t.p 0)
  | .par is es, t => .Assign [.Tuple (names N is (t.s 0).ts) (t.s 0).k ((t.s 0).p 0)] (.Tuple (toEs N G es (t.s 1).ts) (t.s 1).k ((t.s 1).p 0)) (t.p 0)
  | .parN is es, t => .Assign [.Tuple (names N is (t.s 0).ts) (t.s 0).k ((t.s 0).p 0)] (.Tuple (toEs N G es (t.s 1).ts) (t.s 1).k ((t.s 1).p 0)) (t.p 0)
  | .parD is es, t => .Assign [.Tuple (names N is (t.s 0).ts) (t.s 0).k ((t.s 0).p 0)] (.Tuple (toEs N G es (t.s 1).ts) (t.s 1).k ((t.s 1).p 0)) (t.p 0)
  | .app i e, t => .Expr (.Call (.Attribute (.Name (N.getD i Str.empty) (t.p 3)) "append" (t.p 2)) [toE N G e (t.s 0)] [] (t.p 1)) (t.p 0)
  | .ext i e, t => .Expr (.Call (.Attribute (.Name (N.getD i Str.empty) (t.p 3)) "extend" (t.p 2)) [toE N G e (t.s 0)] [] (t.p 1)) (t.p 0)
  | .put i k e, t => .Assign [.Subscript (.Name (N.getD i Str.empty) (t.p 2)) (toE N G k (t.s 0)) (t.p 1)] (toE N G e (t.s 1)) (t.p 0)
  | .put2 i k j l es, t => .Assign [.Tuple [.Subscript (.Name (N.getD i Str.empty) ((t.s 0).p 2)) (toE N G k (t.s 0 |>.s 0)) ((t.s 0).p 1), .Subscript (.Name (N.getD j Str.empty) ((t.s 1).p 2)) (toE N G l (t.s 1 |>.s 0)) ((t.s 1).p 1)] (t.s 0).k ((t.s 0).p 0)] (.Tuple (toEs N G es (t.s 2).ts) (t.s 2).k ((t.s 2).p 0)) (t.p 0)
  | .setD i e, t => .Assign [.Name (N.getD i Str.empty) (t.p 1)] (toE N G e (t.s 0)) (t.p 0)
  | .popS j i, t => .Assign [.Name (N.getD j Str.empty) (t.p 1)] (.Call (.Attribute (.Name (N.getD i Str.empty) (t.p 4)) "pop" (t.p 3)) [] [] (t.p 2)) (t.p 0)
  | .popD i k, t => .Expr (.Call (.Attribute (.Name (N.getD i Str.empty) (t.p 3)) "pop" (t.p 2)) [toE N G k (t.s 0)] [] (t.p 1)) (t.p 0)
  | .popV j i k, t => .Assign [.Name (N.getD j Str.empty) (t.p 1)] (.Call (.Attribute (.Name (N.getD i Str.empty) (t.p 4)) "pop" (t.p 3)) [toE N G k (t.s 0)] [] (t.p 2)) (t.p 0)
  | .ret e, t => .Return (some (toE N G e (t.s 0))) (t.p 0)
  | .iff c a b, t => .If (toE N G c (t.s 0)) (toSs N G a (t.s 1).ts) (toSs N G b (t.s 2).ts) (t.p 0)
  | .for_ tg it body, t => .For (toTg N tg (t.s 0)) (toIt N G it (t.s 1)) (toSs N G body (t.s 2).ts) [] (t.p 0)
  | .whl c body, t => .While (toE N G c (t.s 0)) (toSs N G body (t.s 1).ts) [] (t.p 0)
  | .brk, t => .Break (t.p 0)
  | .cnt, t => .Continue (t.p 0)
  | .pas, t => .Pass (t.p 0)
def toSs (N : List Str) (G : Nm) : Sms → List PTr → List Stmt
  | .nil, _ => []
  | .cons s r, ts => toS N G s (hdT ts) :: toSs N G r ts.tail
  | .shr _ r, ts => toSs N G r ts
end

def cap : Nat := 16777216
/-- no dict within, at most so deep -/
def okN : Nat → D → Bool
  | _, .none => true
  | _, .bool _ => true
  | _, .int _ => true
  | _, .str _ => true
  | n + 1, .list xs => xs.all (okN n)
  | n + 1, .tuple xs => xs.all (okN n)
  | 0, .list _ => false
  | 0, .tuple _ => false
  | _, .dict _ => false
def deep : Nat := 40
def keyOf : D → Option Key
  | .int i => some (.inl i)
  | .str x => some (.inr x)
  | _ => none
def keysOf : List D → Option (List Key)
  | [] => some []
  | d :: ds => (keyOf d).bind fun k => (keysOf ds).map (k :: ·)
def dfind (es : List (D × D)) (k : D) : Option D := (es.find? fun p => PyData.eqv p.1 k).map (·.2)
def dput (es : List (D × D)) (k v : D) : List (D × D) := if (es.any fun p => PyData.eqv p.1 k) = true then es.map (fun p => if PyData.eqv p.1 k = true then (p.1, v) else p) else es ++ [(k, v)]
def ddrop (es : List (D × D)) (k : D) : List (D × D) := es.filter fun p => !PyData.eqv p.1 k
/-- the key is of the dict's kind -/
def kindOk (t : Bool) (k : D) : Bool := match t, k with
  | false, d => (keyOf d).isSome
  | true, .tuple ds => (keysOf ds).isSome
  | _, _ => false
def dgetD : List (D × D) → D → Option (Option D)
  | (.bool t, .none) :: es, k => if kindOk t k = true then some (dfind es k) else none
  | _, _ => none
def smallI (i : Int) : Bool := decide (i.natAbs < 18446744073709551616)
def repS (x : Str) (n : Nat) : Str := ⟨(List.replicate n x.cps).foldl (· ++ ·) #[]⟩
def binD : Operator → D → D → Option D
  | .Add, .int i, .int j => some (.int (i + j))
  | .Add, .str x, .str y => if x.length + y.length ≤ cap then some (.str (x ++ y)) else none
  | .Add, .list xs, .list ys => if xs.length + ys.length ≤ cap then some (.list (xs ++ ys)) else none
  | .Add, .tuple xs, .tuple ys => if xs.length + ys.length ≤ cap then some (.tuple (xs ++ ys)) else none
  | .Sub, .int i, .int j => some (.int (i - j))
  | .Mult, .int i, .int j => if smallI i || smallI j then some (.int (i * j)) else none
  | .Mult, .list xs, .int k => if 0 ≤ k ∧ k.natAbs < 9223372036854775808 ∧ xs.length * k.toNat ≤ cap then some (.list (List.replicate k.toNat xs).flatten) else none
  | .Mult, .tuple (x :: xs), .int k => if 2 ≤ k ∧ k ≤ 1000 ∧ (x :: xs).length ≤ 1000 then some (.tuple (List.replicate k.toNat (x :: xs)).flatten) else none
  | .Mult, .str x, .int k => if 2 ≤ k ∧ k ≤ 1000 ∧ 1 ≤ x.length ∧ x.length ≤ 1000 ∧ (repS x k.toNat).length ≤ cap then some (.str (repS x k.toNat)) else none
  | .Mod, .int i, .int j => if 0 < j then some (.int (i % j)) else none
  | .FloorDiv, .int i, .int j => if 0 < j ∧ j.natAbs < 1073741824 then some (.int (i / j)) else none
  | .Pow, .int i, .int j => if 0 ≤ j ∧ j ≤ 1000000 ∧ smallI i = true then some (.int (i ^ j.toNat)) else none
  | _, _, _ => none
/-- neither None nor a truth value -/
def ordered : D → Bool
  | .none => false
  | .bool _ => false
  | _ => true
def ltG (x y : D) : Option Bool := if (PySem.W.alike x y && okN deep x && okN deep y && ordered x) = true then some (PySem.W.dataLt x y) else none
def ltD : D → D → Option Bool
  | .int i, .int j => some (decide (i < j))
  | x, y => ltG x y
/-- a text within a text -/
def occS (x y : Str) : Bool := !(Builtin.Str.occurrences y x 0 y.length 1).isEmpty
/-- == of dicts that hold whole numbers -/
def deqE (fs : List (D × D)) : List (D × D) → Bool
  | [] => true
  | p :: es => match dfind fs p.1 with
    | some d => PyData.eqv p.2 d && deqE fs es
    | none => false
def isInt : D → Bool
  | .int _ => true
  | _ => false
def deqD : D → D → Option Bool
  | .dict ((.bool false, .none) :: es), .dict ((.bool false, .none) :: fs) => if (es.all fun p => isInt p.2) = true ∧ (fs.all fun p => isInt p.2) = true then some (es.length == fs.length && deqE fs es) else none
  | _, _ => none
def cmpD : CmpOp → D → D → Option Bool
  | .Eq, x, y => if okN deep x = true ∧ okN deep y = true then some (PyData.eqv x y) else deqD x y
  | .NotEq, x, y => if okN deep x = true ∧ okN deep y = true then some (!PyData.eqv x y) else (deqD x y).map (!·)
  | .Lt, x, y => ltD x y
  | .Gt, x, y => ltD y x
  | .LtE, x, y => (ltD y x).map (!·)
  | .GtE, x, y => (ltD x y).map (!·)
  | .In, x, .list ys => if okN deep x = true ∧ okN deep (.list ys) = true then some (ys.any fun z => PyData.eqv z x) else none
  | .In, x, .tuple ys => if okN deep x = true ∧ okN deep (.tuple ys) = true then some (ys.any fun z => PyData.eqv z x) else none
  | .NotIn, x, .list ys => if okN deep x = true ∧ okN deep (.list ys) = true then some (!ys.any fun z => PyData.eqv z x) else none
  | .In, x, .dict es => (dgetD es x).map (·.isSome)
  | .NotIn, x, .dict es => (dgetD es x).map fun o => !o.isSome
  | .NotIn, x, .tuple ys => if okN deep x = true ∧ okN deep (.tuple ys) = true then some (!ys.any fun z => PyData.eqv z x) else none
  | .In, .str x, .str y => some (occS x y)
  | .NotIn, .str x, .str y => some (!occS x y)
  | _, _, _ => none
def truD : D → Option Bool
  | .none => some false
  | .bool b => some b
  | .int i => some (i != 0)
  | .str x => if x.length ≤ cap then some (x.length != 0) else none
  | .list xs => some (!xs.isEmpty)
  | .tuple xs => some (!xs.isEmpty)
  | .dict ((.bool false, .none) :: es) => some (!es.isEmpty)
  | .dict _ => none
def isiD : D → Ty → Option Bool
  | .dict _, _ => none
  | .none, _ => some false
  | .bool _, .bool => some true
  | .bool _, .int => some true
  | .int _, .int => some true
  | .str _, .str => some true
  | .list _, .list => some true
  | .tuple _, .tuple => some true
  | _, _ => some false
@[simp] def isiAny (d : D) : List Ty → Option Bool
  | [] => some false
  | y :: ys => (isiD d y).bind fun b => if b = true then some true else isiAny d ys
def ixD : D → D → Option D
  | .list xs, .int i => atI xs i
  | .tuple xs, .int i => atI xs i
  | .dict es, k => (dgetD es k).bind id
  | .str x, .int i => if x.length ≤ cap then (atI x.cps.toList i).map fun c => .str ⟨#[c]⟩ else none
  | _, _ => none
def cutD (xs : List D) (lo hi : Option Int) : List D := (xs.drop (HT.sIx xs.length 0 lo)).take (HT.sIx xs.length xs.length hi - HT.sIx xs.length 0 lo)
def slD : D → Option Int → Option Int → Option D
  | .list xs, lo, hi => some (.list (cutD xs lo hi))
  | .str x, lo, hi => if x.length ≤ cap then some (.str (cutS x lo hi)) else none
  | .tuple xs, lo, hi => some (.tuple (cutD xs lo hi))
  | _, _, _ => none
/-- whole numbers -/
@[simp] def intsD : List D → Option (List Int)
  | [] => some []
  | .int i :: r => (intsD r).map (i :: ·)
  | _ :: _ => none
@[simp] def boolsD : List D → Option (List Bool)
  | [] => some []
  | .bool i :: r => (boolsD r).map (i :: ·)
  | _ :: _ => none
def seqD : D → Option (List D)
  | .list xs => some xs
  | .tuple xs => some xs
  | _ => none
/-- what a for walks: a free dict's keys, too -/
def itrD (ow : Bool) : D → Option (List D)
  | .dict ((.bool _, .none) :: es) => if ow = true then none else some (es.map (·.1))
  | .list xs => some xs
  | .tuple xs => some xs
  | .str x => some (x.cps.toList.map fun c => .str ⟨#[c]⟩)
  | _ => none
def alikeL (xs : List D) : Bool := xs.all fun x => xs.all fun y => PySem.W.alike x y
def sortable (xs : List D) : Bool := (xs.all fun d => match d with | .tuple (_ :: _) => true | _ => false) || (xs.all fun d => match d with | .tuple _ => false | .none => false | _ => true)
def sortD (xs : List D) : List D := xs.mergeSort (PySem.W.dataLe false id)
/-- the first of the least -/
def leastD : D → List D → D
  | m, [] => m
  | m, x :: xs => leastD (if PySem.W.dataLt x m then x else m) xs
def mostD : D → List D → D
  | m, [] => m
  | m, x :: xs => mostD (if PySem.W.dataLt m x then x else m) xs
def orderedT : D → Bool
  | .none => false
  | .bool _ => false
  | .list _ => false
  | _ => true
def orderable (xs : List D) : Bool := alikeL xs && xs.all (okN deep) && xs.all orderedT
@[simp] def strsD : List D → Option (List Str)
  | [] => some []
  | .str x :: r => (strsD r).map (x :: ·)
  | _ => none
/-- sorted(d): the keys are all whole numbers, or all texts -/
def skD (ks : List D) : Option D := match intsD ks with
  | some ns => if ns.length < 64 then some (.list (sortD ks)) else none
  | none => match strsD ks with
    | some xs => if xs.length < 64 then some (.list (sortD ks)) else none
    | none => none
def biD : Bi → List D → Option D
  | .len, [.list xs] => some (.int xs.length)
  | .len, [.tuple xs] => some (.int xs.length)
  | .len, [.dict ((.bool false, .none) :: es)] => some (.int es.length)
  | .len, [.str x] => if x.length ≤ cap then some (.int x.length) else none
  | .tuple, [.list xs] => some (.tuple xs)
  | .tuple, [.tuple xs] => some (.tuple xs)
  | .list, [.list xs] => some (.list xs)
  | .list, [.tuple xs] => some (.list xs)
  | .sorted, [.list xs] => if alikeL xs && sortable xs && xs.all (okN deep) then some (.list (sortD xs)) else none
  | .sorted, [.tuple xs] => if alikeL xs && sortable xs && xs.all (okN deep) then some (.list (sortD xs)) else none
  | .sorted, [.dict ((.bool false, .none) :: es)] => skD (es.map (·.1))
  | .sorted, [.dict ((.bool true, .none) :: es)] => if alikeL (es.map (·.1)) && sortable (es.map (·.1)) && (es.map (·.1)).all (okN deep) then some (.list (sortD (es.map (·.1)))) else none
  | .all, [.list xs] => (boolsD xs).map fun bs => .bool (bs.all id)
  | .any, [.list xs] => (boolsD xs).map fun bs => .bool (bs.any id)
  | .sum, [.list xs] => (intsD xs).map fun ns => .int ns.sum
  | .sum, [.tuple xs] => (intsD xs).map fun ns => .int ns.sum
  | .min, [.int i, .int j] => some (.int (if j < i then j else i))
  | .max, [.int i, .int j] => some (.int (if j > i then j else i))
  | .min, [.list (x :: xs)] => if orderable (x :: xs) then some (leastD x xs) else none
  | .max, [.list (x :: xs)] => if orderable (x :: xs) then some (mostD x xs) else none
  | .min, [.tuple (x :: xs)] => if orderable (x :: xs) then some (leastD x xs) else none
  | .max, [.tuple (x :: xs)] => if orderable (x :: xs) then some (mostD x xs) else none
  | .min, [x, y] => if orderable [x, y] then some (leastD x [y]) else none
  | .max, [x, y] => if orderable [x, y] then some (mostD x [y]) else none
  | .abs, [.int i] => some (.int (if i < 0 then -i else i))
  | .int, [.int i] => some (.int i)
  | _, _ => none
def rngL (a b c : Int) : List D :=
  if c = 1 then (List.range (b - a).toNat).map fun i => .int (a + (i : Nat))
  else []
def rngOk (i : Int) : Bool := decide (i.natAbs < 4611686018427387904)
def rngD : List D → Option (List D)
  | [.int n] => if rngOk n then some ((List.range n.toNat).map fun i => .int (i : Nat)) else none
  | [.int a, .int b] => if rngOk a && rngOk b then some ((List.range (b - a).toNat).map fun i => .int (a + (i : Nat))) else none
  | [.int a, .int b, .int c] => if rngOk a && rngOk b && decide (c = -1) then some ((List.range (a - b).toNat).map fun i => .int (a + (i : Nat) * -1)) else none
  | _ => none
@[simp] def enumD (n : Nat) : List D → List D
  | [] => []
  | x :: xs => .tuple [.int n, x] :: enumD (n + 1) xs
@[simp] def zipD : List D → List D → List D
  | x :: xs, y :: ys => .tuple [x, y] :: zipD xs ys
  | _, _ => []
def zipS : D → D → Option (List D)
  | .list xs, .list ys => some (zipD xs ys)
  | .tuple xs, .tuple ys => some (zipD xs ys)
  | _, _ => none
/-- no list, no dict within -/
def flatN : Nat → D → Bool
  | _, .none => true
  | _, .bool _ => true
  | _, .int _ => true
  | _, .str _ => true
  | n + 1, .tuple xs => xs.all (flatN n)
  | _, _ => false

/-- min(xs, default=i) -/
def mndD (i : Int) : D → Option D
  | .list [] => some (.int i)
  | .list (x :: xs) => if orderable (x :: xs) then some (leastD x xs) else none
  | _ => none
/-- pairs of numbers -/
def prsD : List D → Option (List (Int × Int))
  | [] => some []
  | .tuple [.int a, .int b] :: r => (prsD r).map fun ts => (a, b) :: ts
  | _ => none
def dd {α : Type} [DecidableEq α] : List α → List α
  | [] => []
  | x :: l => if x ∈ l then dd l else x :: dd l
def cdB (a b : Int × Int) : Bool := decide (a.1 * 64 + a.2 ≤ b.1 * 64 + b.2)
def smallP (t : Int × Int) : Bool := decide (0 ≤ t.1) && decide (t.1 < 64) && decide (0 ≤ t.2) && decide (t.2 < 64)
def ssetL (ts : List (Int × Int)) : List (Int × Int) := (dd ts).mergeSort cdB
def ssetI (ns : List Int) : List Int := (dd ns).mergeSort fun a b => decide (a ≤ b)
def ssetQ (xs : List D) : Option D := match prsD xs with
  | some ts => if ts.length < 64 ∧ ts.all smallP = true then some (.list ((ssetL ts).map fun t => .tuple [.int t.1, .int t.2])) else none
  | none => (intsD xs).bind fun ns => if ns.length < 64 then some (.list ((ssetI ns).map .int)) else none
/-- sorted(set(xs)) -/
def ssetS (xs : List D) : Option D := match ssetQ xs with
  | some d => some d
  | none => (strsD xs).bind fun zs => if zs.length < 64 then some (.list (sortD ((dd zs).map .str))) else none
def ssetD : D → Option D
  | .list xs => ssetS xs
  | .tuple xs => ssetQ xs
  | _ => none
/-- len(set(xs)) -/
def lsetD : D → Option D
  | .list xs => match intsD xs with
    | some ns => if ns.length < 64 then some (.int (dd ns).length) else none
    | none => (strsD xs).bind fun zs => if zs.length < 64 then some (.int (dd zs).length) else none
  | .tuple xs => (intsD xs).bind fun ns => if ns.length < 64 then some (.int (dd ns).length) else none
  | _ => none
def srevD : D → Option D
  | .list xs => if alikeL xs && sortable xs && xs.all (okN deep) then some (.list (xs.mergeSort (PySem.W.dataLe true id))) else none
  | .tuple xs => if alikeL xs && sortable xs && xs.all (okN deep) then some (.list (xs.mergeSort (PySem.W.dataLe true id))) else none
  | _ => none
def gcdD : D → D → Option D
  | .int i, .int j => some (.int ((Nat.gcd i.natAbs j.natAbs : Nat) : Int))
  | _, _ => none
def lcmD : D → D → Option D
  | .int i, .int j => if smallI i && smallI j then some (.int ((Nat.lcm i.natAbs j.natAbs : Nat) : Int)) else none
  | _, _ => none
/-- x[::-1] -/
def rvsD : D → Option D
  | .list xs => some (.list xs.reverse)
  | .tuple xs => some (.tuple xs.reverse)
  | _ => none
def keyTD : D → Bool
  | .int _ => true
  | .str _ => true
  | _ => false
/-- is such a tuple tracked locked? -/
def lockD (xs : List D) : Bool := Mode.tm || !xs.all keyTD
/-- xs.count(x) -/
def cntD : D → D → Option D
  | .list xs, x => if okN deep (.list xs) = true ∧ okN deep x = true then some (.int (xs.countP fun z => PyData.eqv z x : Nat)) else none
  | .tuple xs, x => if lockD xs = true ∧ okN deep (.tuple xs) = true ∧ okN deep x = true then some (.int (xs.countP fun z => PyData.eqv z x : Nat)) else none
  | _, _ => none
/-- list(range(..)) -/
def lrgD (ds : List D) : Option D := (rngD ds).bind fun xs => if xs.length ≤ cap ∧ ds.length < 3 then some (.list xs) else none
/-- combinations(xs, k); combinations(range(..), k) -/
def cmbL (xs : List D) (k : Int) : Option (List D) := if 0 ≤ k ∧ k ≤ 1000 ∧ xs.length ≤ 1000 then some ((subL k.toNat xs).map .tuple) else none
def cmbD : D → D → Option (List D)
  | .list xs, .int k => cmbL xs k
  | .tuple xs, .int k => cmbL xs k
  | _, _ => none
def cmrD (ds : List D) (d : D) : Option (List D) := (lrgD ds).bind fun l => cmbD l d
/-- d.get(k), d.get(k, x) -/
def getD : D → List D → Option D
  | .dict es, [k] => (dgetD es k).map fun o => o.getD .none
  | .dict es, [k, x] => (dgetD es k).map fun o => o.getD x
  | _, _ => none
/-- pairs put in, one by one -/
def dputs : List (D × D) → List D → Option (List (D × D))
  | es, [] => some es
  | es, .tuple [k, v] :: r => if kindOk false k = true then dputs (dput es k v) r else none
  | _, _ :: _ => none
def dofD : D → Option D
  | .tuple xs => if lockD xs = true then (dputs [] xs).map fun es => .dict ((.bool false, .none) :: es) else none
  | .list xs => (dputs [] xs).map fun es => .dict ((.bool false, .none) :: es)
  | .dict ((.bool false, .none) :: es) => some (.dict ((.bool false, .none) :: es))
  | _ => none
/-- pairs put in, the keys are tuples -/
def dputsU : List (D × D) → List D → Option (List (D × D))
  | es, [] => some es
  | es, .tuple [k, v] :: r => if kindOk true k = true then dputsU (dput es k v) r else none
  | _, _ :: _ => none
def dofTD : D → Option D
  | .list xs => if Mode.tm = true then none else (dputsU [] xs).map fun es => .dict ((.bool true, .none) :: es)
  | _ => none
def itsD : D → Option (List D)
  | .dict ((.bool false, .none) :: es) => some (es.map fun p => .tuple [p.1, p.2])
  | _ => none
def vlsD : D → Option (List D)
  | .dict ((.bool false, .none) :: es) => some (es.map (·.2))
  | _ => none
def isNoneD : D → Bool
  | .none => true
  | _ => false

abbrev Fn := List D → DS → Option (D × DS)
/-- what the global names are: functions; constants -/
structure Gam where
  fs : List Fn
  cs : List D
mutual
@[simp] def bindT : Tg → D → List Slot → Option (List Slot)
  | .nm i, d, ρ => if i < ρ.length then some (ρ.set i (.sh d)) else none
  | .tp ts, .tuple ds, ρ => bindTs ts ds ρ
  | .tp ts, .list ds, ρ => bindTs ts ds ρ
  | .tp _, _, _ => none
@[simp] def bindTs : List Tg → List D → List Slot → Option (List Slot)
  | [], [], ρ => some ρ
  | g :: gs, d :: ds, ρ => (bindT g d ρ).bind (bindTs gs ds)
  | _, _, _ => none
end
mutual
@[simp] def Tg.slots : Tg → List Nat
  | .nm i => [i]
  | .tp ts => slotsL ts
@[simp] def slotsL : List Tg → List Nat
  | [] => []
  | g :: gs => g.slots ++ slotsL gs
end
@[simp] def wipeR (ρ : List Slot) : List Nat → List Slot
  | [] => ρ
  | v :: vs => (wipeR ρ vs).set v .no
@[simp] def getS (ρ : List Slot) (i : Nat) : Option D := match ρ[i]? with
  | some (.sh d) => some d
  | some (.ow d) => some d
  | some (.le d) => some d
  | _ => none
/-- within a comprehension what is owned outside is read alone -/
@[simp] def lend : Slot → Slot
  | .ow d => .le d
  | s => s
@[simp] def blkR (ρ : List Slot) (vs : List Nat) : List Slot := (wipeR ρ vs).map lend
def isOw (ρ : List Slot) : Ex → Bool
  | .var i => match ρ[i]? with
    | some (.ow _) => true
    | some (.le _) => true
    | _ => false
  | _ => false
@[simp] def anyOw (ρ : List Slot) : Exs → Bool
  | .nil => false
  | .cons e es => isOw ρ e || anyOw ρ es
/-- a dict that a name owns -/
def isOwD (ρ : List Slot) : Ex → Bool
  | .var i => match ρ[i]? with
    | some (.ow (.dict _)) => true
    | some (.le (.dict _)) => true
    | _ => false
  | _ => false
@[simp] def anyOwD (ρ : List Slot) : Exs → Bool
  | .nil => false
  | .cons e es => isOwD ρ e || anyOwD ρ es
def isOwI (ρ : List Slot) : It → Bool
  | .its e => isOw ρ e
  | .vls e => isOw ρ e
  | .rev e => isOw ρ e
  | .seq e => isOw ρ e
  | .rng _ => false
  | .enm e => isOw ρ e
  | .zip a b => isOw ρ a || isOw ρ b
  | .cmb _ _ => false
  | .cmr _ _ => false
/-- makes a new dict -/
def isMk : Ex → Bool
  | .dic _ => true
  | .dof _ => true
  | .dofT _ => true
  | .dsp _ _ => true
  | .dc _ _ _ _ _ => true
  | _ => false
/-- makes a new list where it gives a list -/
def isFr : Ex → Bool
  | .bin _ _ _ => true
  | .lst _ => true
  | .lc _ _ _ _ => true
  | .sl _ _ _ => true
  | .rvs _ => true
  | .lrg _ => true
  | .bi .list _ => true
  | .bi .sorted _ => true
  | .srev _ => true
  | .si _ => true
  | .sset _ => true
  | .lkb _ .list _ => true
  | .lkb _ .sorted _ => true
  | _ => false
def lcRun (elt : List Slot → DS → Option (D × DS)) (cnd : List Slot → DS → Option (Bool × DS)) (tg : Tg) (ρ : List Slot) : List D → DS → Option (List D × DS)
  | [], st => some ([], st)
  | x :: xs, st => (bindT tg x ρ).bind fun ρ1 => (cnd ρ1 st).bind fun q => if q.1 = true then (elt ρ1 q.2).bind fun r => (lcRun elt cnd tg ρ xs r.2).map fun z => (r.1 :: z.1, z.2) else lcRun elt cnd tg ρ xs q.2
/-- a dict, item by item -/
def dcRun (key val : List Slot → DS → Option (D × DS)) (cnd : List Slot → DS → Option (Bool × DS)) (tg : Tg) (ρ : List Slot) : List D → List (D × D) → DS → Option (List (D × D) × DS)
  | [], acc, st => some (acc, st)
  | x :: xs, acc, st => (bindT tg x ρ).bind fun ρ1 => (cnd ρ1 st).bind fun q => if q.1 = true then (key ρ1 q.2).bind fun a => (val ρ1 a.2).bind fun b => if kindOk false a.1 = true then dcRun key val cnd tg ρ xs (dput acc a.1 b.1) b.2 else none else dcRun key val cnd tg ρ xs acc q.2
mutual
def evE (Γ : Gam) : Ex → List Slot → DS → Option (D × DS)
  | .non, _, st => some (.none, st)
  | .bl b, _, st => some (.bool b, st)
  | .int i, _, st => some (.int i, st)
  | .str x, _, st => some (.str x, st)
  | .var i, ρ, st => (getS ρ i).map fun d => (d, st)
  | .bin op a b, ρ, st => (evE Γ a ρ st).bind fun x => (evE Γ b ρ x.2).bind fun y => (binD op x.1 y.1).map fun d => (d, y.2)
  | .neg a, ρ, st => (evE Γ a ρ st).bind fun x => match x.1 with
    | .int i => some (.int (-i), x.2)
    | _ => none
  | .nt a, ρ, st => (evE Γ a ρ st).bind fun x => (truD x.1).map fun b => (.bool (!b), x.2)
  | .cmp op a b, ρ, st => (evE Γ a ρ st).bind fun x => (evE Γ b ρ x.2).bind fun y => (cmpD op x.1 y.1).map fun d => (.bool d, y.2)
  | .isN yes a, ρ, st => (evE Γ a ρ st).map fun x => (.bool (isNoneD x.1 == yes), x.2)
  | .isB yes c a, ρ, st => (evE Γ a ρ st).bind fun x => match x.1 with
    | .bool d => some (.bool ((d == c) == yes), x.2)
    | _ => none
  | .chn o1 o2 a b c, ρ, st => (evE Γ a ρ st).bind fun x => (evE Γ b ρ x.2).bind fun y => (cmpD o1 x.1 y.1).bind fun q =>
    if q = true then (evE Γ c ρ y.2).bind fun z => (cmpD o2 y.1 z.1).map fun d => (.bool d, z.2) else some (.bool false, y.2)
  | .bop an es, ρ, st => evB Γ an es ρ st
  | .ife c a b, ρ, st => if isOw ρ a || isOw ρ b then none else (evE Γ c ρ st).bind fun x => (truD x.1).bind fun q => if q = true then evE Γ a ρ x.2 else evE Γ b ρ x.2
  | .tup es, ρ, st => if anyOw ρ es then none else (evEs Γ es ρ st).bind fun x => if x.1.length ≤ cap then some (.tuple x.1, x.2) else none
  | .lst es, ρ, st => if anyOw ρ es then none else (evEs Γ es ρ st).bind fun x => if x.1.length ≤ cap then some (.list x.1, x.2) else none
  | .ix a b, ρ, st => (evE Γ a ρ st).bind fun x => (evE Γ b ρ x.2).bind fun y => (ixD x.1 y.1).map fun d => (d, y.2)
  | .sl a lo hi, ρ, st => (evE Γ a ρ st).bind fun x => (evO Γ lo ρ x.2).bind fun y => (evO Γ hi ρ y.2).bind fun z => (slD x.1 y.1 z.1).map fun d => (d, z.2)
  | .lc elt tg it ifs, ρ, st => (evI Γ it ρ st).bind fun x => if isOw (blkR ρ tg.slots) elt = false ∧ x.1.length ≤ cap then
      (lcRun (fun ρ' s => evE Γ elt ρ' s) (fun ρ' s => evC Γ ifs ρ' s) tg (blkR ρ tg.slots) x.1 x.2).map fun z => (.list z.1, z.2) else none
  | .call j es, ρ, st => (evEs Γ es ρ st).bind fun x => match Γ.fs[j]? with
    | none => none
    | some F => if anyOwD ρ es = true then none else (F x.1 x.2).bind fun r => if anyOw ρ es = true ∧ flatN deep r.1 = false then none else some r
  | .gl j, _, st => (Γ.cs[j]?).map fun d => (d, st)
  | .gcd a b, ρ, st => (evE Γ a ρ st).bind fun x => (evE Γ b ρ x.2).bind fun y => (gcdD x.1 y.1).map fun d => (d, y.2)
  | .lcm a b, ρ, st => (evE Γ a ρ st).bind fun x => (evE Γ b ρ x.2).bind fun y => (lcmD x.1 y.1).map fun d => (d, y.2)
  | .rvs a, ρ, st => (evE Γ a ρ st).bind fun x => (rvsD x.1).map fun d => (d, x.2)
  | .cnt a b, ρ, st => (evE Γ a ρ st).bind fun x => (evE Γ b ρ x.2).bind fun y => (cntD x.1 y.1).map fun d => (d, y.2)
  | .lrg es, ρ, st => (evEs Γ es ρ st).bind fun x => (lrgD x.1).map fun d => (d, x.2)
  | .srev a, ρ, st => (evE Γ a ρ st).bind fun x => (srevD x.1).map fun d => (d, x.2)
  | .lset a, ρ, st => (evE Γ a ρ st).bind fun x => (lsetD x.1).map fun d => (d, x.2)
  | .sset a, ρ, st => (evE Γ a ρ st).bind fun x => (ssetD x.1).map fun d => (d, x.2)
  | .mnd i a, ρ, st => (evE Γ a ρ st).bind fun x => (mndD i x.1).map fun d => (d, x.2)
  | .lkb i b es, ρ, st => match ρ[i]? with
    | some (.ow (.dict ds)) => ((evEs Γ es (ρ.set i (.sh (.dict ds))) st).bind fun x => (biD b x.1).map fun d => (d, x.2)).bind fun x => if okN deep x.1 = true then some x else none
    | _ => none
  | .lkc i j es, ρ, st => match ρ[i]? with
    | some (.ow (.dict ds)) => ((evEs Γ es (ρ.set i (.sh (.dict ds))) st).bind fun x => match Γ.fs[j]? with
      | none => none
      | some F => if anyOwD (ρ.set i (.sh (.dict ds))) es = true then none else (F x.1 x.2).bind fun r => if anyOw (ρ.set i (.sh (.dict ds))) es = true ∧ flatN deep r.1 = false then none else some r).bind fun x => if okN deep x.1 = true then some x else none
    | _ => none
  | .si a, ρ, st => if isOw ρ a = true then none else (evE Γ a ρ st).bind fun x => (itsD x.1).bind fun ds => (biD .sorted [.list ds]).map fun d => (d, x.2)
  | .bi b es, ρ, st => (evEs Γ es ρ st).bind fun x => (biD b x.1).map fun d => (d, x.2)
  | .isi e ys, ρ, st => (evE Γ e ρ st).bind fun x => (isiAny x.1 ys).map fun b => (.bool b, x.2)
  | .get a es, ρ, st => if anyOw ρ es = true then none else (evE Γ a ρ st).bind fun x => (evEs Γ es ρ x.2).bind fun y => (getD x.1 y.1).map fun d => (d, y.2)
  | .dic t, _, st => if t = true ∧ Mode.tm = true then none else some (.dict [(.bool t, .none)], st)
  | .dof a, ρ, st => if isOw ρ a = true then none else (evE Γ a ρ st).bind fun x => (dofD x.1).map fun d => (d, x.2)
  | .dofT a, ρ, st => if isOw ρ a = true then none else (evE Γ a ρ st).bind fun x => (dofTD x.1).map fun d => (d, x.2)
  | .dsp k v, ρ, st => (evE Γ k ρ st).bind fun x => (evE Γ v ρ x.2).bind fun y => if isOw ρ v = false ∧ kindOk false x.1 = true then some (.dict [(.bool false, .none), (x.1, y.1)], y.2) else none
  | .dc k v tg it ifs, ρ, st => (evI Γ it ρ st).bind fun x => if isOw (blkR ρ tg.slots) v = false ∧ x.1.length ≤ cap then
      (dcRun (fun ρ' s => evE Γ k ρ' s) (fun ρ' s => evE Γ v ρ' s) (fun ρ' s => evC Γ ifs ρ' s) tg (blkR ρ tg.slots) x.1 [] x.2).map fun z => (.dict ((.bool false, .none) :: z.1), z.2) else none
def evEs (Γ : Gam) : Exs → List Slot → DS → Option (List D × DS)
  | .nil, _, st => some ([], st)
  | .cons e es, ρ, st => (evE Γ e ρ st).bind fun x => (evEs Γ es ρ x.2).map fun y => (x.1 :: y.1, y.2)
def evO (Γ : Gam) : Exs → List Slot → DS → Option (Option Int × DS)
  | .nil, _, st => some (none, st)
  | .cons e _, ρ, st => (evE Γ e ρ st).bind fun x => match x.1 with
    | .int i => some (some i, x.2)
    | _ => none
/-- and, or: the value that decides -/
def evB (Γ : Gam) (an : Bool) : Exs → List Slot → DS → Option (D × DS)
  | .nil, _, _ => none
  | .cons e .nil, ρ, st => if isOw ρ e then none else evE Γ e ρ st
  | .cons e (.cons e' es), ρ, st => if isOw ρ e then none else (evE Γ e ρ st).bind fun x => (truD x.1).bind fun q => if q = an then evB Γ an (.cons e' es) ρ x.2 else some x
/-- the tests of a comprehension -/
def evC (Γ : Gam) : Exs → List Slot → DS → Option (Bool × DS)
  | .nil, _, st => some (true, st)
  | .cons e .nil, ρ, st => (evE Γ e ρ st).bind fun x => (truD x.1).map fun b => (b, x.2)
  | .cons _ (.cons _ _), _, _ => none
def evI (Γ : Gam) : It → List Slot → DS → Option (List D × DS)
  | .seq e, ρ, st => (evE Γ e ρ st).bind fun x => (itrD (isOw ρ e) x.1).map fun d => (d, x.2)
  | .rng es, ρ, st => (evEs Γ es ρ st).bind fun x => (rngD x.1).map fun d => (d, x.2)
  | .enm e, ρ, st => (evE Γ e ρ st).bind fun x => (seqD x.1).map fun d => (enumD 0 d, x.2)
  | .zip a b, ρ, st => (evE Γ a ρ st).bind fun x => (evE Γ b ρ x.2).bind fun y => (zipS x.1 y.1).map fun e => (e, y.2)
  | .its a, ρ, st => if isOw ρ a = true then none else (evE Γ a ρ st).bind fun x => (itsD x.1).map fun d => (d, x.2)
  | .vls a, ρ, st => if isOw ρ a = true then none else (evE Γ a ρ st).bind fun x => (vlsD x.1).map fun d => (d, x.2)
  | .rev a, ρ, st => (evE Γ a ρ st).bind fun x => (seqD x.1).map fun d => (d.reverse, x.2)
  | .cmb a r, ρ, st => (evE Γ a ρ st).bind fun x => (evE Γ r ρ x.2).bind fun y => (cmbD x.1 y.1).map fun d => (d, y.2)
  | .cmr es r, ρ, st => (evEs Γ es ρ st).bind fun x => (evE Γ r ρ x.2).bind fun y => (cmrD x.1 y.1).map fun d => (d, y.2)
end
inductive Out where
  | nx (ρ : List Slot) (st : DS)
  | rt (d : D) (st : DS)
  | bk (ρ : List Slot) (st : DS)
  | ct (ρ : List Slot) (st : DS)
/-- what a name gets: a new list is its own -/
def slotOf (fr : Bool) (d : D) : Slot := match fr, d with
  | true, .list ds => .ow (.list ds)
  | _, d => .sh d
@[simp] def parSet (ρ : List Slot) : List Nat → Exs → List D → List Slot
  | i :: is, .cons e es, d :: ds => (parSet ρ is es ds).set i (slotOf (isFr e) d)
  | _, _, _ => ρ
/-- what a name gets: new lists and new dicts are its own -/
def slotOfD (e : Ex) (d : D) : Slot := if isMk e = true then .ow d else slotOf (isFr e) d
@[simp] def parSetD (ρ : List Slot) : List Nat → Exs → List D → List Slot
  | i :: is, .cons e es, d :: ds => (parSetD ρ is es ds).set i (slotOfD e d)
  | _, _, _ => ρ
@[simp] def Exs.len : Exs → Nat
  | .nil => 0
  | .cons _ es => es.len + 1
def forRun (body : List Slot → DS → Option Out) (tg : Tg) : List D → List Slot → DS → Option Out
  | [], ρ, st => some (.nx ρ st)
  | x :: xs, ρ, st => (bindT tg x ρ).bind fun ρ1 => (body ρ1 st).bind fun o => match o with
    | .nx ρ' st' => forRun body tg xs ρ' st'
    | .ct ρ' st' => forRun body tg xs ρ' st'
    | .bk ρ' st' => some (.nx ρ' st')
    | .rt d st' => some (.rt d st')
def whlRun (c : List Slot → DS → Option (D × DS)) (body : List Slot → DS → Option Out) : Nat → List Slot → DS → Option Out
  | 0, _, _ => none
  | n + 1, ρ, st => (c ρ st).bind fun x => (truD x.1).bind fun q => if q = true then (body ρ x.2).bind fun o => match o with
      | .nx ρ' st' => whlRun c body n ρ' st'
      | .ct ρ' st' => whlRun c body n ρ' st'
      | .bk ρ' st' => some (.nx ρ' st')
      | .rt d st' => some (.rt d st')
    else some (.nx ρ x.2)
/-- a value is stored -/
def putV (Γ : Gam) (i : Nat) (k : Ex) (d : D) (ρ : List Slot) (st : DS) : Option (List Slot × DS) := (evE Γ k ρ st).bind fun y => match ρ[i]?, y.1 with
  | some (.ow (.list ds)), .int n => match ixN ds.length n with
    | some j => some (ρ.set i (.ow (.list (ds.set j d))), y.2)
    | none => none
  | some (.ow (.dict ((.bool t, .none) :: es))), k => if kindOk t k = true ∧ es.length < cap then some (ρ.set i (.ow (.dict ((.bool t, .none) :: dput es k d))), y.2) else none
  | _, _ => none
/-- turns of a while -/
def fuel : Nat := 1000000
mutual
def evS (Γ : Gam) : Sm → List Slot → DS → Option Out
  | .set i e, ρ, st => if isOw ρ e = false ∧ i < ρ.length then (evE Γ e ρ st).map fun x => .nx (ρ.set i (slotOf (isFr e) x.1)) x.2 else none
  | .setT tg e, ρ, st => if isOw ρ e then none else (evE Γ e ρ st).bind fun x => (bindT tg x.1 ρ).map fun ρ' => .nx ρ' x.2
  | .par is es, ρ, st => if anyOw ρ es = false ∧ is.length = es.len ∧ is.Nodup ∧ (is.all fun i => decide (i < ρ.length)) = true then (evEs Γ es ρ st).map fun x => .nx (parSet ρ is es x.1) x.2 else none
  | .parN is es, ρ, st => if anyOw ρ es = false ∧ is.length = es.len ∧ is.Nodup ∧ (is.all fun i => decide (i < ρ.length)) = true ∧ es.len ≤ cap then (evEs Γ es ρ st).map fun x => .nx (parSet ρ is es x.1) x.2 else none
  | .parD is es, ρ, st => if anyOw ρ es = false ∧ is.length = es.len ∧ is.Nodup ∧ (is.all fun i => decide (i < ρ.length)) = true ∧ es.len ≤ cap then (evEs Γ es ρ st).map fun x => .nx (parSetD ρ is es x.1) x.2 else none
  | .app i e, ρ, st => if isOw ρ e then none else (evE Γ e ρ st).bind fun x => match ρ[i]? with
    | some (.ow (.list ds)) => if ds.length < cap then some (.nx (ρ.set i (.ow (.list (ds ++ [x.1])))) x.2) else none
    | _ => none
  | .ext i e, ρ, st => (evE Γ e ρ st).bind fun x => match ρ[i]?, x.1 with
    | some (.ow (.list ds)), .list es => if ds.length + es.length ≤ cap then some (.nx (ρ.set i (.ow (.list (ds ++ es)))) x.2) else none
    | _, _ => none
  | .put i k e, ρ, st => if isOw ρ e then none else (evE Γ e ρ st).bind fun x => (evE Γ k ρ x.2).bind fun y => match ρ[i]?, y.1 with
    | some (.ow (.list ds)), .int n => match ixN ds.length n with
      | some j => some (.nx (ρ.set i (.ow (.list (ds.set j x.1)))) y.2)
      | none => none
    | some (.ow (.dict ((.bool t, .none) :: es))), k => if kindOk t k = true ∧ es.length < cap then some (.nx (ρ.set i (.ow (.dict ((.bool t, .none) :: dput es k x.1)))) y.2) else none
    | _, _ => none
  | .put2 i k j l es, ρ, st => if anyOw ρ es = true then none else (evEs Γ es ρ st).bind fun x => match x.1 with
    | [d1, d2] => (putV Γ i k d1 ρ x.2).bind fun y => (putV Γ j l d2 y.1 y.2).map fun z => .nx z.1 z.2
    | _ => none
  | .setD i e, ρ, st => if isMk e = true ∧ i < ρ.length then (evE Γ e ρ st).map fun x => .nx (ρ.set i (.ow x.1)) x.2 else none
  | .popS j i, ρ, st => if i ≠ j ∧ j < ρ.length then (match ρ[i]? with
    | some (.ow (.list ds)) => ds.getLast?.map fun d => .nx ((ρ.set i (.ow (.list ds.dropLast))).set j (.sh d)) st
    | _ => none) else none
  | .popD i k, ρ, st => (evE Γ k ρ st).bind fun y => match ρ[i]? with
    | some (.ow (.dict ((.bool false, .none) :: es))) => if kindOk false y.1 = true then (dfind es y.1).map fun _ => .nx (ρ.set i (.ow (.dict ((.bool false, .none) :: ddrop es y.1)))) y.2 else none
    | _ => none
  | .popV j i k, ρ, st => if i ≠ j ∧ j < ρ.length then (evE Γ k ρ st).bind fun y => (match ρ[i]? with
    | some (.ow (.dict ((.bool false, .none) :: es))) => if kindOk false y.1 = true then (dfind es y.1).map fun v => .nx ((ρ.set i (.ow (.dict ((.bool false, .none) :: ddrop es y.1)))).set j (.sh v)) y.2 else none
    | _ => none) else none
  | .ret e, ρ, st => if isOw ρ e then none else (evE Γ e ρ st).map fun x => .rt x.1 x.2
  | .iff c a b, ρ, st => (evE Γ c ρ st).bind fun x => (truD x.1).bind fun q => if q = true then evSs Γ a ρ x.2 else evSs Γ b ρ x.2
  | .for_ tg it body, ρ, st => if isOwI ρ it then none else (evI Γ it ρ st).bind fun x => forRun (fun ρ' s => evSs Γ body ρ' s) tg x.1 ρ x.2
  | .whl c body, ρ, st => whlRun (fun ρ' s => evE Γ c ρ' s) (fun ρ' s => evSs Γ body ρ' s) fuel ρ st
  | .brk, ρ, st => some (.bk ρ st)
  | .cnt, ρ, st => some (.ct ρ st)
  | .pas, ρ, st => some (.nx ρ st)
def evSs (Γ : Gam) : Sms → List Slot → DS → Option Out
  | .nil, ρ, st => some (.nx ρ st)
  | .cons s r, ρ, st => (evS Γ s ρ st).bind fun o => match o with
    | .nx ρ' st' => evSs Γ r ρ' st'
    | o => some o
  | .shr i r, ρ, st => match ρ[i]? with
    | some (.ow d) => evSs Γ r (ρ.set i (.sh d)) st
    | _ => evSs Γ r ρ st
end
/-- a def, by its body -/
def evF (Γ : Gam) (n np : Nat) (body : Sms) : Fn := fun ds st =>
  if ds.length = np then (evSs Γ body (ds.map .sh ++ List.replicate (n - np) .no) st).bind fun o => match o with
    | .rt d st' => some (d, st')
    | .nx _ st' => some (.none, st')
    | _ => none
  else none
end Pf

namespace Pf
open PySem PySem.Spec PyProof.Rows L2
variable [Mode]

/-- a new tuple's address, and what is tracked there -/
def NewT (H : Hp) (Q : VK) (vs : List V) : Prop := ∀ (q : Addr) (o : Obj), H q = none → o.dict = none → Q (.ref q) (upd H q (tupO o vs))
theorem tup_laid {X : Cx} {pins : List (Addr × Obj)} {σ : L2.St} {H : Hp} {s : Shared} {h' : Heap} {tk : Nat} {vs : List V} {its : List Value} {Q : VK} (J : L2.Inv X pins σ H s) (hz : vs.length ≤ sizeLine) (r : Vals vs its)
    (kp : ∀ b u, s.heap.get? b = some u → h'.get? b = some u) (e : h'.get? s.heap.objs.size = some (seqObj "tuple" its.toArray 0)) (q : NewT H Q vs) : EP X pins σ Q (.ref s.heap.objs.size) { s with heap := h', toks := tk } := by
  have it : IsTup h' s.heap.objs.size its.toArray := ⟨_, e, rfl, _, rfl⟩
  refine ⟨.ref s.heap.objs.size, _, J.laid (o := tupO (seqObj "tuple" its.toArray 0) vs) kp (Nat.le_refl _) ?_, rfl, q _ _ (J.hok.fresh (Nat.le_refl _)) rfl⟩
  unfold tupO
  split
  · exact ⟨e, hz, its, r, it⟩
  · exact ⟨hz, its, r, it⟩
section
variable {X : Cx} {es : List Expr} {k : Nat} {pos : Pos} {t : TA}
def tTupM (t : TA) : TE := fun σ H Q => t σ H fun vs H1 => vs.length ≤ sizeLine ∧ NewT H1 Q vs
theorem pe_tupM (h : PA X es t) : PE X (.Tuple es k pos) (tTupM t) := by
  refine ⟨fun pins s σ H Q J hq => ?_⟩
  refine wpAny_Tuple_spliced (thn (h.run pos pins s σ H _ J hq) fun us s1 ⟨vs, H1, J1, r, z, q⟩ => ⟨?_, ?_⟩)
  · rw [← r.length]; exact z
  · exact tup_laid (tk := s1.toks) J1 z r (fun b u e => Heap.get?_push_of_some _ e) (Heap.get?_push_size _ rfl) q
def rCatM (K : PySem.W.Frag) : R2 := fun x y H Q => ∃ a b vs ws, x = .ref a ∧ y = .ref b ∧ SqT K H a vs ∧ SqT K H b ws ∧ vs.length + ws.length ≤ sizeLine ∧
  (vs = [] → Q (.ref b) H) ∧ (vs ≠ [] → ws = [] → Q (.ref a) H) ∧ (vs ≠ [] → ws ≠ [] → NewT H Q (vs ++ ws))
theorem op_catM : OpR X (binaryOp .Add) (rCatM X.K) := by
  intro pins s σ H x y v u Q J rx ry h
  obtain ⟨a, b, vs, ws, rfl, rfl, ha, hb, hz, q0, q1, q2⟩ := h
  cases rx; cases ry
  obtain ⟨i1, r1, p1, _⟩ := J.tuple ha
  obtain ⟨i2, r2, p2, _⟩ := J.tuple hb
  by_cases hx : vs = []
  · subst hx
    cases r1
    exact cat_tup0 p1 p2 ⟨.ref b, H, J, rfl, q0 rfl⟩
  · have n1 : i1 ≠ [] := fun z => hx (r1.nil_iff.mp z)
    refine HT.cat_tup p1 p2 n1 (fun z => ⟨.ref a, H, J, rfl, q1 hx (r2.nil_iff.mp z)⟩) (fun z => ?_) (by rw [← r1.length, ← r2.length]; exact hz)
    have n2 : ws ≠ [] := fun w => z (r2.nil_iff.mpr w)
    exact tup_laid (tk := s.toks) J (by rw [List.length_append]; exact hz) (r1.append r2) (fun b ob e => Heap.get?_push_of_some _ e) (Heap.get?_push_size _ rfl) (q2 hx n2)
def rSlM (K : PySem.W.Frag) : V → Option Int → Option Int → Hp → VK → Prop := fun x lo hi H Q => ∃ a vs, x = .ref a ∧ SqT K H a vs ∧
  (HT.sIx vs.length 0 lo = 0 ∧ HT.sIx vs.length vs.length hi = vs.length → Q (.ref a) H) ∧ (¬ (HT.sIx vs.length 0 lo = 0 ∧ HT.sIx vs.length vs.length hi = vs.length) → NewT H Q (cutV vs lo hi))
theorem sl_tupM : SlR X (rSlM X.K) := by
  intro pins s σ H x v vl vu lo hi sl Q J rx hs pl pu h
  obtain ⟨a, vs, rfl, hx, q1, q2⟩ := h
  cases rx
  obtain ⟨its, r, ht, hz⟩ := J.tuple hx
  have hlen : its.toArray.size = vs.length := by
    rw [List.size_toArray]
    exact r.length.symm
  refine ⟨"tuple", _, slot_tuple_getitem.lookup, ht.typeIs, ?_⟩
  by_cases hw : HT.sIx vs.length 0 lo = 0 ∧ HT.sIx vs.length vs.length hi = vs.length
  · exact getItem_tuple_whole ht hs pl pu (by rw [hlen]; exact hw) ⟨.ref a, H, J, rfl, q1 hw⟩
  · refine HT.getItem_tuple_cut ht hs pl pu (by rw [hlen]; exact hw) ?_ (by rw [hlen]; exact hz)
    rw [hlen]
    exact tup_laid (tk := s.toks) J (Nat.le_trans (cutV_length vs lo hi) hz) ((r.drop (HT.sIx vs.length 0 lo)).take _) (fun b ob e => Heap.get?_push_of_some _ e) (Heap.get?_push_size _ rfl) (q2 hw)
def rTupM (K : PySem.W.Frag) : List V → Hp → VK → Prop := fun xs H Q => ∃ p ys, xs = [.ref p] ∧ ((SqL K H p ys ∧ NewT H Q ys) ∨ (SqT K H p ys ∧ Q (.ref p) H))
theorem call_tupleM : CallR X (.type "tuple") (rTupM X.K) := by
  intro pins s σ H xs us Q J r h
  obtain ⟨p, ys, rfl, h⟩ := h
  obtain ⟨u, rfl, rx⟩ := vals1 r
  cases rx
  rcases h with ⟨hq, q⟩ | ⟨hq, q⟩
  · obtain ⟨its, r', pl, hz⟩ := J.list hq
    have hlen := r'.length
    refine call_tuple_list pl.isList (fun h' kp => ?_) (by simp only [List.size_toArray] <;> omega)
    have J1 : L2.Inv X pins σ H { s with heap := h' } := J.kept (t' := s.toks) kp
    exact tup_laid (tk := s.toks) J1 hz r' (fun b o e => Heap.get?_push_of_some _ e) (Heap.get?_push_size _ rfl) q
  · obtain ⟨its, r', pl, hz⟩ := J.tuple hq
    exact call_tuple_same pl ⟨.ref p, H, J, rfl, q⟩
def rRepM (K : PySem.W.Frag) : R2 := fun x y H Q => ∃ l k vs, x = .ref l ∧ y = .int k ∧ SqT K H l vs ∧ vs ≠ [] ∧ 2 ≤ k ∧ k ≤ 1000 ∧ vs.length ≤ 1000 ∧ NewT H Q (List.replicate k.toNat vs).flatten
theorem op_repM : OpR X (binaryOp .Mult) (rRepM X.K) := by
  intro pins s σ H x y v u Q J rx ry h
  obtain ⟨l, k, vs, rfl, rfl, hT, hne, k2, k1000, hz, q⟩ := h
  cases rx
  obtain ⟨t, rfl⟩ := ry
  obtain ⟨its, r, ⟨⟨cls, dd, data, sl⟩, ho, hc, n, hd⟩, hs⟩ := J.tuple hT
  simp only at hc hd
  subst hc hd
  have hle : its.length = vs.length := r.length.symm
  have ne : its ≠ [] := fun e => hne (r.nil_iff.mp e)
  have em : its.toArray.isEmpty = false := by
    cases its with
    | nil => exact absurd rfl ne
    | cons _ _ => rfl
  have sz : its.toArray.size = vs.length := by rw [List.size_toArray, hle]
  have mul : ((vs.length : Nat) : Int) * k ≤ 1000 * k := Int.mul_le_mul_of_nonneg_right (by omega) (by omega)
  have muln : k.toNat * vs.length ≤ 1000 * 1000 := Nat.mul_le_mul (by omega) hz
  have big : ((its.toArray.size : Nat) : Int) * k ≤ 1000000 := by rw [sz]; omega
  have fl : (List.replicate k.toNat its).flatten.length ≤ sizeLine := by
    rw [lm_len_rep_flat, hle, sizeLine_eq]
    omega
  have fl2 : (List.replicate k.toNat vs).flatten.length ≤ sizeLine := by
    rw [lm_len_rep_flat, sizeLine_eq]
    omega
  have z0 : (decide (k < -(2 ^ 63)) || decide (k ≥ 2 ^ 63)) = false := by
    rw [Bool.or_eq_false_iff]
    exact ⟨decide_eq_false (by omega), decide_eq_false (by omega)⟩
  have z1 : (its.toArray.isEmpty || k == 1) = false := by
    rw [em, Bool.false_or]
    exact beq_eq_false_iff_ne.mpr (by omega)
  have z2 : (decide (k ≤ 0) || its.toArray.isEmpty) = false := by
    rw [em, Bool.or_false]
    exact decide_eq_false (by omega)
  have z4 : Builtin.Tuple.tupleTooMany (((its.toArray.size : Nat) : Int) * k) = false := by
    unfold Builtin.Tuple.tupleTooMany
    rw [sizeLine_eq]
    exact decide_eq_false (by omega)
  refine wpAny_binaryOp_repeat_ref (T := "tuple") (U := "int") (by decide) ⟨_, ho, rfl⟩ (fun s' => typeIs_int s' k t) noFill_tuple_mul F.fills_int_mul F.slot_int_rmul repeat_tuple F.slot_int_index.lookup
    (call_meets F.slot_int_rmul (typeIs_int s k t) F.entry_int_rmul (F.args_int_rmul_2 _ _) (int_rmul_tuple k t l its.toArray n dd sl) ⟨ho, rfl, ⟨_, ho, rfl⟩, ?_⟩)
  refine call_meets F.slot_tuple_mul ⟨_, ho, rfl⟩ F.entry_tuple_mul (F.args_tuple_mul_2 _ _) (tuple_mulW l its.toArray n dd sl k t z0 z1 z2 (by omega) z4 (by rw [size_rep, List.size_toArray]; exact fl)) ⟨ho, ?_⟩
  rw [size_rep]
  exact tup_laid (tk := s.toks) J fl2 (r.rep k.toNat) (fun b ob e => Heap.get?_push_of_some _ e) (Heap.get?_push_size _ rfl) q
end
end Pf

namespace Pf
open PySem PySem.Spec PyProof.Rows L2
variable [Mode]

theorem cap_eq : cap = sizeLine := by rw [sizeLine_eq]; rfl
theorem PE.imp {X : Cx} {e : Expr} {t t' : TE} (h : PE X e t) (w : ∀ σ H Q, t' σ H Q → t σ H Q) : PE X e t' := ⟨fun pins s σ H Q I q => h.run pins s σ H Q I (w σ H Q q)⟩
theorem PT.imp {X : Cx} {e : Expr} {t t' : TT} (h : PT X e t) (w : ∀ σ H Q, t' σ H Q → t σ H Q) : PT X e t' := ⟨fun pins s σ H Q I q => h.run pins s σ H Q I (w σ H Q q)⟩
theorem PW.imp {X : Cx} {e : Expr} {t t' : TT} (h : PW X e t) (w : ∀ σ H Q, t' σ H Q → t σ H Q) : PW X e t' := ⟨fun wh pins s σ H Q I q => h.run wh pins s σ H Q I (w σ H Q q)⟩
theorem PA.imp {X : Cx} {e : List Expr} {t t' : TA} (h : PA X e t) (w : ∀ σ H Q, t' σ H Q → t σ H Q) : PA X e t' := ⟨fun pos pins s σ H Q I q => h.run pos pins s σ H Q I (w σ H Q q)⟩
theorem PTs.imp {X : Cx} {e : List Expr} {t t' : TT} (h : PTs X e t) (w : ∀ σ H Q, t' σ H Q → t σ H Q) : PTs X e t' := ⟨fun pins s σ H Q I q => h.run pins s σ H Q I (w σ H Q q)⟩
theorem PS.imp {X : Cx} {e : Stmt} {t t' : TS} (h : PS X e t) (w : ∀ D σ H, t' D σ H → t D σ H) : PS X e t' := ⟨fun pins s σ H D I q => h.run pins s σ H D I (w D σ H q)⟩
theorem PSs.imp {X : Cx} {e : List Stmt} {t t' : TS} (h : PSs X e t) (w : ∀ D σ H, t' D σ H → t D σ H) : PSs X e t' := ⟨fun pins s σ H D I q => h.run pins s σ H D I (w D σ H q)⟩
theorem PG.imp {X : Cx} {e : Expr} {t t' : TG} (h : PG X e t) (w : ∀ v σ H Q, t' v σ H Q → t v σ H Q) : PG X e t' := ⟨fun pins s σ H v u Q I r q => h.run pins s σ H v u Q I r (w v σ H Q q)⟩
theorem PI.imp {X : Cx} {tg e : Expr} {t t' : TI} (h : PI X tg e t) (w : ∀ σ H Q, t' σ H Q → t σ H Q) : PI X tg e t' := ⟨fun pins s σ H R I q => h.run pins s σ H R I (w σ H R q)⟩

/-- a new thing is locked for ever, ahead of a block; behind an expression -/
theorem PSs.lock {X : Cx} {e : List Stmt} {t : TS} (h : PSs X e t) : PSs X e (fun D σ H => ∃ d u, H d = some u ∧ Mut (some u) ∧ ∀ od, t D σ (upd H d (.frz od u))) := by
  refine ⟨fun pins s σ H D I q => ?_⟩
  obtain ⟨d, u, hd, mu, q⟩ := q
  obtain ⟨od, I1⟩ := I.lock hd mu
  exact h.run pins s σ _ D I1 (q od)
theorem PE.lockV {X : Cx} {e : Expr} {t : TE} (h : PE X e t) : PE X e (fun σ H Q => t σ H fun v H' => ∃ d u, H' d = some u ∧ Mut (some u) ∧ ∀ od, Q v (upd H' d (.frz od u))) := by
  refine ⟨fun pins s σ H Q I q => ?_⟩
  refine thn (h.run pins s σ H _ I q) fun v s1 ⟨x, H1, I1, r, d, u, hd, mu, q⟩ => ?_
  obtain ⟨od, I2⟩ := I1.lock hd mu
  exact ⟨x, _, I2, r, q od⟩
section
variable {K : PySem.W.Frag} {dr : Dr}
/-- nothing new is blocked -/
abbrev NB (H : Hp) (B : Addr → Prop) : Prop := ∀ p, H p = none → ¬ B p
/-- a new list -/
def FrL (K : PySem.W.Frag) (dr : Dr) (H H' : Hp) (B : Addr → Prop) (v : V) (d : D) : Prop := ∀ ds, d = .list ds → ∃ a vs, v = .ref a ∧ H a = none ∧ H' a = some (.lst vs) ∧ Reps K dr H' (fun b => B b ∨ b = a) vs ds
/-- the end of an operation that makes at most new things -/
def Fin1 (K : PySem.W.Frag) (dr : Dr) (H : Hp) (B : Addr → Prop) (d : D) (Q : VK) : Prop := ∀ v H', Same H H' → Rep K dr H' B v d → FrL K dr H H' B v d → Q v H'
variable {H : Hp} {B : Addr → Prop} {d : D} {Q : VK}
theorem Fin1.plain {v : V} (f : Fin1 K dr H B d Q) (r : Rep K dr H B v d) (n : ∀ ds, d ≠ .list ds) : Q v H := f v H (.refl H) r fun ds e => absurd e (n ds)
theorem Fin1.newL {ds : List D} {vs : List V} {p : Addr} (f : Fin1 K dr H B (.list ds) Q) (nb : NB H B) (hp : H p = none) (r : Reps K dr H B vs ds) : Q (.ref p) (upd H p (.lst vs)) := by
  have k : Same H (upd H p (.lst vs)) := same_new hp
  refine f _ _ k (.lst upd_same (nb p hp) (r.same k)) fun es e => ?_
  cases e
  exact ⟨p, vs, rfl, hp, upd_same, (Reps.anti (fun b z => z.imp id fun e => by rw [e]; exact hp) _ _ r).same k⟩
theorem Fin1.newT {ds : List D} {vs : List V} (f : Fin1 K dr H B (.tuple ds) Q) (r : Reps K dr H B vs ds) : NewT H Q vs := fun p o hp ho => by
  have k : Same H (upd H p (tupO o vs)) := same_new hp
  exact f _ _ k (.tup (.new ho) (r.same k)) fun es e => by cases e
theorem Reps.rep {ds : List D} {vs : List V} (r : Reps K dr H B vs ds) : ∀ k : Nat, Reps K dr H B (List.replicate k vs).flatten (List.replicate k ds).flatten
  | 0 => .nil
  | k + 1 => by
    rw [List.replicate_succ, List.flatten_cons, List.replicate_succ, List.flatten_cons]
    exact r.append (Reps.rep r k)
theorem Reps.nil_iff {ds : List D} {vs : List V} (r : Reps K dr H B vs ds) : vs = [] ↔ ds = [] := by
  cases r <;> simp
variable {X : Cx}
def rBin (K : PySem.W.Frag) (dr : Dr) (op : Operator) : R2 := fun x y H Q => ∃ B dx dy d, NB H B ∧ RepT K dr H B x dx ∧ RepT K dr H B y dy ∧ binD op dx dy = some d ∧ Fin1 K dr H B d Q
theorem small_of {i : Int} (h : smallI i = true) : -(2 ^ 64) < i ∧ i < 2 ^ 64 := by
  have h' : i.natAbs < 18446744073709551616 := of_decide_eq_true h
  omega
theorem mulS {pins : List (Addr × Obj)} {s : Shared} {σ : L2.St} {x : Str} {k : Int} {t u : Tok} (I : Inv X pins σ H s) (h1 : 2 ≤ k) (h2 : k ≤ 1000) (h3 : 1 ≤ x.length) (h4 : x.length ≤ 1000) (h5 : (repS x k.toNat).length ≤ cap) (q : Q (.str (repS x k.toNat)) H) :
    wpAny (model X.prog X.w) X.A (binaryOp .Mult (.str x t) (.int k u)) (EP X pins σ Q) E s := by
  have hs : sizeLine = cap := cap_eq.symm
  have c1 : ¬ k < -(2 ^ 63 : Int) := by omega
  have c2 : ¬ k ≥ (2 ^ 63 : Int) := by omega
  refine PySem.P.mul_str (by rw [decide_eq_false c1, decide_eq_false c2]; rfl) (fun _ _ => ?_) (fun _ _ => ?_) ?_
  · have : (x.length : Int) ≤ (2 ^ 63 - 1) / k := by
      rw [Int.le_ediv_iff_mul_le (by omega)]
      have a1 : (x.length : Int) ≤ 1000 := by omega
      have a2 : (x.length : Int) * k ≤ 1000 * 1000 := Int.le_trans (Int.mul_le_mul_of_nonneg_right a1 (by omega)) (Int.mul_le_mul_of_nonneg_left h2 (by omega))
      omega
    omega
  · have a1 : x.length * k.toNat ≤ 1000 * 1000 := Nat.mul_le_mul h4 (by omega)
    have : ¬ x.length * k.toNat > sizeLine := by rw [hs]; show ¬ _ > 16777216; omega
    exact decide_eq_false this
  · have e1 : ¬ k < 1 := by omega
    have e2 : (k == 1 || x.length == 0) = false := by
      rw [Bool.or_eq_false_iff]
      exact ⟨beq_false_of_ne (by omega), beq_false_of_ne (by omega)⟩
    rw [if_neg e1, if_neg (by rw [e2]; decide)]
    exact ⟨by rw [hs]; exact h5, ⟨.str _, H, I.tok _, ⟨_, rfl⟩, q⟩⟩
theorem op_bin {op : Operator} : OpR X (binaryOp op) (rBin X.K dr op) := by
  intro pins s σ H x y v u Q I rx ry h
  obtain ⟨B, dx, dy, d, nb, r1, r2, hd, f⟩ := h
  have hs : sizeLine = cap := cap_eq.symm
  unfold binD at hd
  split at hd
  · cases hd
    obtain rfl := r1.int
    obtain rfl := r2.int
    exact op_add pins s σ H _ _ v u Q I rx ry ⟨_, _, rfl, rfl, f.plain (.int _) (by intro _ e; cases e)⟩
  · split at hd <;> cases hd
    obtain rfl := r1.str
    obtain rfl := r2.str
    exact op_add_str pins s σ H _ _ v u Q I rx ry ⟨_, _, rfl, rfl, by omega, f.plain (.str _) (by intro _ e; cases e)⟩
  · split at hd <;> cases hd
    obtain ⟨a, vs, rfl, e1, q1⟩ := r1.list
    obtain ⟨b, us, rfl, e2, q2⟩ := r2.list
    have l1 := q1.length
    have l2 := q2.length
    exact op_cat pins s σ H _ _ v u Q I rx ry ⟨_, _, _, _, rfl, rfl, e1, e2, by omega, fun p hp => f.newL nb hp (q1.append q2)⟩
  · split at hd <;> cases hd
    obtain ⟨a, vs, rfl, e1, q1⟩ := r1.tupleH
    obtain ⟨b, us, rfl, e2, q2⟩ := r2.tupleH
    have l1 := q1.length
    have l2 := q2.length
    refine op_catM pins s σ H _ _ v u Q I rx ry ⟨_, _, _, _, rfl, rfl, e1.sqT, e2.sqT, by omega, fun e => ?_, fun _ e => ?_, fun _ _ => f.newT (q1.append q2)⟩
    · have := q1.nil_iff.mp e
      subst this
      exact f.plain (.tup e2 q2) (by intro _ e; cases e)
    · have := q2.nil_iff.mp e
      subst this
      rw [List.append_nil] at f
      exact f.plain (.tup e1 q1) (by intro _ e; cases e)
  · cases hd
    obtain rfl := r1.int
    obtain rfl := r2.int
    exact op_sub pins s σ H _ _ v u Q I rx ry ⟨_, _, rfl, rfl, f.plain (.int _) (by intro _ e; cases e)⟩
  · split at hd <;> cases hd
    rename_i hh
    obtain rfl := r1.int
    obtain rfl := r2.int
    refine op_mul pins s σ H _ _ v u Q I rx ry ⟨_, _, rfl, rfl, ?_, f.plain (.int _) (by intro _ e; cases e)⟩
    rcases Bool.or_eq_true_iff.mp hh with z | z
    · exact .inl (small_of z)
    · exact .inr (small_of z)
  · split at hd <;> cases hd
    rename_i hh
    obtain ⟨a, vs, rfl, e1, q1⟩ := r1.list
    obtain rfl := r2.int
    have l1 := q1.length
    obtain ⟨h1, h2, h3⟩ := hh
    refine op_rep pins s σ H _ _ v u Q I rx ry ⟨_, _, _, rfl, rfl, e1, by omega, by omega, by rw [l1]; omega, fun p hp => f.newL nb hp (q1.rep _)⟩
  · split at hd <;> cases hd
    rename_i hh
    obtain ⟨a, vs, rfl, e1, q1⟩ := r1.tuple
    obtain rfl := r2.int
    have l1 := q1.length
    obtain ⟨h1, h2, h3⟩ := hh
    refine op_repM pins s σ H _ _ v u Q I rx ry ⟨_, _, _, rfl, rfl, e1, fun z => ?_, h1, h2, by rw [l1]; exact h3, f.newT (q1.rep _)⟩
    have := q1.nil_iff.mp z
    cases this
  · split at hd <;> cases hd
    rename_i hh
    obtain rfl := r1.str
    obtain rfl := r2.int
    obtain ⟨h1, h2, h3, h4, h5⟩ := hh
    obtain ⟨t, rfl⟩ := rx
    obtain ⟨t2, rfl⟩ := ry
    exact mulS I h1 h2 h3 h4 h5 (f.plain (.str _) (by intro _ e; cases e))
  · split at hd <;> cases hd
    obtain rfl := r1.int
    obtain rfl := r2.int
    exact op_mod pins s σ H _ _ v u Q I rx ry ⟨_, _, rfl, rfl, by assumption, f.plain (.int _) (by intro _ e; cases e)⟩
  · split at hd <;> cases hd
    obtain rfl := r1.int
    obtain rfl := r2.int
    rename_i hh
    exact op_fdiv pins s σ H _ _ v u Q I rx ry ⟨_, _, rfl, rfl, ⟨hh.1, by omega⟩, f.plain (.int _) (by intro _ e; cases e)⟩
  · split at hd <;> cases hd
    rename_i hh
    obtain ⟨h1, h2, h3⟩ := hh
    obtain rfl := r1.int
    obtain rfl := r2.int
    exact op_pow pins s σ H _ _ v u Q I rx ry ⟨_, _, rfl, rfl, ⟨h1, h2, by have := of_decide_eq_true (show decide _ = true from h3); omega⟩, f.plain (.int _) (by intro _ e; cases e)⟩
  · cases hd

/-- what is true: a dict that is read alone too -/
def TruW (K : PySem.W.Frag) (x : V) (H : Hp) (k : Bool) : Prop := TruV K x H k ∨ ∃ p kvs, x = .ref p ∧ Rd H p (.dK kvs) ∧ k = !kvs.isEmpty
theorem truw_ok {X : Cx} : TruR X (fun x H Q => ∃ k, TruW X.K x H k ∧ Q k H) := by
  intro pins s σ H x v Q I rx h
  obtain ⟨k, e | ⟨p, kvs, rfl, hp, rfl⟩, q⟩ := h
  · exact tru_ok pins s σ H x v Q I rx ⟨k, e, q⟩
  · cases rx
    exact d_truth I hp fun s' I' => ⟨H, I', q⟩
section
variable {X : Cx} {a b : Expr} {ta tb : TE} {rest : List Expr} {pos : Pos}
theorem pt_truthW (ha : PE X a ta) (he : ∀ whole, isTrue a X.env whole = (do let v ← whole; standAt a.pos; holding [v] (truthy v))) :
    PT X a (fun σ H Q => ta σ H fun x H' => ∃ k, TruW X.K x H' k ∧ Q k H') := by
  refine ⟨fun pins s σ H Q I h => ?_⟩
  exact isTrue_plain (thn (ha.run pins s σ H _ I h) fun v s1 ⟨x, H1, I1, r1, q1⟩ => truw_ok pins s1 σ H1 x v Q I1 r1 q1) (he _)
def tOrW (K : PySem.W.Frag) (ta tb : TE) : TE := fun σ H Q => ta σ H fun x H1 => ∃ k, TruW K x H1 k ∧ if k = true then Q x H1 else tb σ H1 Q
def tAndW (K : PySem.W.Frag) (ta tb : TE) : TE := fun σ H Q => ta σ H fun x H1 => ∃ k, TruW K x H1 k ∧ if k = true then tb σ H1 Q else Q x H1
theorem pe_orW (ha : PE X a ta) (hb : PE X (.BoolOp .Or (b :: rest) pos) tb) : PE X (.BoolOp .Or (a :: b :: rest) pos) (tOrW X.K ta tb) := by
  refine ⟨fun pins s σ H Q I h => ?_⟩
  refine BoolOp_or (thn (ha.run pins s σ H _ I h) fun v s1 ⟨x, H1, I1, r1, k, e, q1⟩ => ?_)
  refine thn (truw_ok pins s1 σ H1 x v (fun c H2 => c = k ∧ H2 = H1) I1 r1 ⟨k, e, rfl, rfl⟩) fun c s2 ⟨H2, I2, e1, e2⟩ => ?_
  subst e1 e2
  cases c with
  | true => exact ⟨x, _, I2, r1, q1⟩
  | false => exact hb.run pins s2 σ _ Q I2 q1
theorem pe_andW (ha : PE X a ta) (hb : PE X (.BoolOp .And (b :: rest) pos) tb) : PE X (.BoolOp .And (a :: b :: rest) pos) (tAndW X.K ta tb) := by
  refine ⟨fun pins s σ H Q I h => ?_⟩
  refine BoolOp_and (thn (ha.run pins s σ H _ I h) fun v s1 ⟨x, H1, I1, r1, k, e, q1⟩ => ?_)
  refine thn (truw_ok pins s1 σ H1 x v (fun c H2 => c = k ∧ H2 = H1) I1 r1 ⟨k, e, rfl, rfl⟩) fun c s2 ⟨H2, I2, e1, e2⟩ => ?_
  subst e1 e2
  cases c with
  | true => exact hb.run pins s2 σ _ Q I2 q1
  | false => exact ⟨x, _, I2, r1, q1⟩
def tNotW (K : PySem.W.Frag) (ta : TE) : TE := fun σ H Q => ta σ H fun x H1 => ∃ k, TruW K x H1 k ∧ Q (.bl (!k)) H1
theorem pe_notW (ha : PE X a ta) : PE X (.UnaryOp .Not a pos) (tNotW X.K ta) := by
  refine ⟨fun pins s σ H Q I h => ?_⟩
  refine UnaryOp_ (thn (ha.run pins s σ H _ I h) fun v s1 ⟨x, H1, I1, r1, k, e, q1⟩ => ?_)
  exact not_of (thn (truw_ok pins s1 σ H1 x v (fun c H2 => Q (.bl (!c)) H2) I1 r1 ⟨k, e, q1⟩) fun c s2 ⟨H2, I2, q2⟩ => ⟨.bl (!c), H2, I2, rfl, q2⟩)
end
theorem tru_of {b : Bool} {v : V} (r : RepT K dr H B v d) (h : truD d = some b) : TruW K v H b := by
  by_cases hd : ∃ es, d = .dict es
  · obtain ⟨es, rfl⟩ := hd
    unfold truD at h
    split at h <;> first | (cases ‹PyData.dict _ = _›; done) | skip
    all_goals first | (cases h; done) | skip
    rename_i fs z
    cases z
    cases h
    rcases r.dict with ⟨_, z⟩ | ⟨a, ua, rfl, ha, c1⟩
    · cases z
    cases c1 with
    | k c1 => exact .inr ⟨a, _, rfl, ha, by cases c1 <;> rfl⟩
  refine .inl ?_
  cases d with
  | none => cases h; rcases r with r | ⟨_, _, _, _, e, _⟩ | ⟨_, _, _, _, e, _⟩ <;> first | (cases r; rfl) | cases e
  | bool c => cases h; rw [r.bool]; rfl
  | int i => cases h; rw [r.int]; rfl
  | str x =>
    rw [r.str]
    simp only [truD] at h
    by_cases z : x.length ≤ cap
    · rw [if_pos z] at h
      cases h
      refine ⟨by rw [← cap_eq]; exact z, ?_⟩
      rw [Bool.eq_iff_iff]
      simp
    · rw [if_neg z] at h
      cases h
  | list xs =>
    cases h
    obtain ⟨a, vs, rfl, e, q⟩ := r.list
    refine .inl ⟨vs, SqL.of e, ?_⟩
    cases q <;> rfl
  | tuple xs =>
    cases h
    obtain ⟨a, vs, rfl, e, q⟩ := r.tuple
    refine .inr (.inl ⟨vs, e, ?_⟩)
    cases q <;> rfl
  | dict _ => exact absurd ⟨_, rfl⟩ hd

mutual
theorem okN_plain : ∀ (n : Nat) (d : D), okN n d = true → d.plain = true ∧ d.depth ≤ n
  | _, .none, _ => ⟨rfl, by simp [PyData.depth]⟩
  | _, .bool _, _ => ⟨rfl, by simp [PyData.depth]⟩
  | _, .int _, _ => ⟨rfl, by simp [PyData.depth]⟩
  | _, .str _, _ => ⟨rfl, by simp [PyData.depth]⟩
  | 0, .list _, h => by simp [okN] at h
  | 0, .tuple _, h => by simp [okN] at h
  | n + 1, .list xs, h => by
    have h' : xs.all (okN n) = true := by simpa [okN] using h
    obtain ⟨h1, h2⟩ := okN_plainAll n xs h'
    exact ⟨h1, by simp only [PyData.depth]; omega⟩
  | n + 1, .tuple xs, h => by
    have h' : xs.all (okN n) = true := by simpa [okN] using h
    obtain ⟨h1, h2⟩ := okN_plainAll n xs h'
    exact ⟨h1, by simp only [PyData.depth]; omega⟩
  | 0, .dict _, h => by simp [okN] at h
  | _ + 1, .dict _, h => by simp [okN] at h
theorem okN_plainAll : ∀ (n : Nat) (ds : List D), ds.all (okN n) = true → PyData.plainAll ds = true ∧ PyData.depthAll ds ≤ n
  | _, [], _ => ⟨rfl, by simp [PyData.depthAll]⟩
  | n, d :: ds, h => by
    have h' : okN n d = true ∧ ds.all (okN n) = true := by simpa using h
    obtain ⟨h1, h2⟩ := okN_plain n d h'.1
    obtain ⟨h3, h4⟩ := okN_plainAll n ds h'.2
    exact ⟨by simp [PyData.plainAll, h1, h3], by simp only [PyData.depthAll]; omega⟩
end
end
end Pf

namespace Pf
open PySem PySem.Spec PyProof.Rows L2
variable [Mode]

theorem keyOf_some {d : D} {k : Key} (h : keyOf d = some k) : d = keyD k := by
  cases d <;> simp [keyOf] at h <;> subst h <;> rfl
theorem keysOf_some : ∀ {ds : List D} {ks : List Key}, keysOf ds = some ks → ds = ks.map keyD
  | [], ks, h => by cases h; rfl
  | d :: ds, ks, h => by
    simp only [keysOf, Option.bind_eq_some_iff, Option.map_eq_some_iff] at h
    obtain ⟨k, h1, r, h2, rfl⟩ := h
    rw [keyOf_some h1, keysOf_some h2]
    rfl
theorem eqv_key (a b : Key) : PyData.eqv (keyD a) (keyD b) = decide (a = b) := by
  rw [Bool.eq_iff_iff]
  cases a <;> cases b <;> simp [keyD, PyData.eqv]
theorem eqv_keysA : ∀ (a b : List Key), PyData.eqvAll (a.map keyD) (b.map keyD) = decide (a = b)
  | [], [] => by simp [PyData.eqvAll]
  | [], _ :: _ => by simp [PyData.eqvAll]
  | _ :: _, [] => by simp [PyData.eqvAll]
  | x :: a, y :: b => by
    rw [List.map_cons, List.map_cons, PyData.eqvAll, eqv_key, eqv_keysA a b, Bool.eq_iff_iff]
    simp
theorem eqv_keys (a b : List Key) : PyData.eqv (.tuple (a.map keyD)) (.tuple (b.map keyD)) = decide (a = b) := by
  rw [PyData.eqv, eqv_keysA]
section
variable {K : PySem.W.Frag} {dr : Dr} {H H' : Hp} {B : Addr → Prop} {v w : V} {d : D}
/-- what is found, or is not -/
def RelD (K : PySem.W.Frag) (dr : Dr) (H : Hp) (B : Addr → Prop) : Option V → Option D → Prop
  | some v, some d => Rep K dr H B v d
  | none, none => True
  | _, _ => False
theorem RepK.length : ∀ {kvs : List (Key × V)} {es : List (D × D)}, RepK K dr H B kvs es → kvs.length = es.length
  | _, _, .nil => rfl
  | _, _, .cons _ r => by simp [RepK.length r]
theorem RepU.length : ∀ {kvs : List (List Key × V)} {es : List (D × D)}, RepU K dr H B kvs es → kvs.length = es.length
  | _, _, .nil => rfl
  | _, _, .cons _ r => by simp [RepU.length r]
theorem RepK.find (k : Key) : ∀ {kvs : List (Key × V)} {es : List (D × D)}, RepK K dr H B kvs es → RelD K dr H B (valV kvs k) (dfind es (keyD k))
  | _, _, .nil => trivial
  | _, _, .cons (k := j) (v := v) (d := d) r rs => by
    have ih := RepK.find k rs
    by_cases e : j = k
    · rw [valV_pos (p := (j, v)) e]
      simp only [dfind, List.find?_cons, eqv_key, e, decide_true]
      exact r
    · rw [valV_neg (p := (j, v)) e]
      simp only [dfind, List.find?_cons, eqv_key, e, decide_false]
      exact ih
theorem RepU.find (k : List Key) : ∀ {kvs : List (List Key × V)} {es : List (D × D)}, RepU K dr H B kvs es → RelD K dr H B (valV kvs k) (dfind es (.tuple (k.map keyD)))
  | _, _, .nil => trivial
  | _, _, .cons (k := j) (v := v) (d := d) r rs => by
    have ih := RepU.find k rs
    by_cases e : j = k
    · rw [valV_pos (p := (j, v)) e]
      simp only [dfind, List.find?_cons, eqv_keys, e, decide_true]
      exact r
    · rw [valV_neg (p := (j, v)) e]
      simp only [dfind, List.find?_cons, eqv_keys, e, decide_false]
      exact ih
theorem RepK.any (k : Key) : ∀ {kvs : List (Key × V)} {es : List (D × D)}, RepK K dr H B kvs es → (kvs.any fun kv => decide (kv.1 = k)) = es.any fun p => PyData.eqv p.1 (keyD k)
  | _, _, .nil => rfl
  | _, _, .cons r rs => by simp only [List.any_cons, eqv_key, RepK.any k rs]
theorem RepU.any (k : List Key) : ∀ {kvs : List (List Key × V)} {es : List (D × D)}, RepU K dr H B kvs es → (kvs.any fun kv => decide (kv.1 = k)) = es.any fun p => PyData.eqv p.1 (.tuple (k.map keyD))
  | _, _, .nil => rfl
  | _, _, .cons r rs => by simp only [List.any_cons, eqv_keys, RepU.any k rs]
theorem RepK.append : ∀ {kvs ls : List (Key × V)} {es fs : List (D × D)}, RepK K dr H B kvs es → RepK K dr H B ls fs → RepK K dr H B (kvs ++ ls) (es ++ fs)
  | _, _, _, _, .nil, q => q
  | _, _, _, _, .cons r rs, q => .cons r (RepK.append rs q)
theorem RepU.append : ∀ {kvs ls : List (List Key × V)} {es fs : List (D × D)}, RepU K dr H B kvs es → RepU K dr H B ls fs → RepU K dr H B (kvs ++ ls) (es ++ fs)
  | _, _, _, _, .nil, q => q
  | _, _, _, _, .cons r rs, q => .cons r (RepU.append rs q)
theorem RepK.repl (k : Key) (q : Rep K dr H B v d) : ∀ {kvs : List (Key × V)} {es : List (D × D)}, RepK K dr H B kvs es → RepK K dr H B (kvs.map fun kv => if kv.1 = k then (kv.1, v) else kv) (es.map fun p => if PyData.eqv p.1 (keyD k) = true then (p.1, d) else p)
  | _, _, .nil => .nil
  | _, _, .cons (k := j) r rs => by
    have ih := RepK.repl k q rs
    by_cases e : j = k
    · simp only [List.map_cons, eqv_key, e, decide_true, if_true]
      exact .cons q ih
    · simp only [List.map_cons, eqv_key, e, decide_false, if_false, Bool.false_eq_true]
      exact .cons r ih
theorem RepU.repl (k : List Key) (q : Rep K dr H B v d) : ∀ {kvs : List (List Key × V)} {es : List (D × D)}, RepU K dr H B kvs es → RepU K dr H B (kvs.map fun kv => if kv.1 = k then (kv.1, v) else kv) (es.map fun p => if PyData.eqv p.1 (.tuple (k.map keyD)) = true then (p.1, d) else p)
  | _, _, .nil => .nil
  | _, _, .cons (k := j) r rs => by
    have ih := RepU.repl k q rs
    by_cases e : j = k
    · simp only [List.map_cons, eqv_keys, e, decide_true, if_true]
      exact .cons q ih
    · simp only [List.map_cons, eqv_keys, e, decide_false, if_false, Bool.false_eq_true]
      exact .cons r ih
theorem RepK.put {kvs : List (Key × V)} {es : List (D × D)} (r : RepK K dr H B kvs es) (k : Key) (q : Rep K dr H B v d) : RepK K dr H B (putK kvs k v) (dput es (keyD k) d) := by
  unfold putK dput
  rw [r.any k]
  split
  · exact r.repl k q
  · exact r.append (.cons q .nil)
theorem RepU.put {kvs : List (List Key × V)} {es : List (D × D)} (r : RepU K dr H B kvs es) (k : List Key) (q : Rep K dr H B v d) : RepU K dr H B (putK kvs k v) (dput es (.tuple (k.map keyD)) d) := by
  unfold putK dput
  rw [r.any k]
  split
  · exact r.repl k q
  · exact r.append (.cons q .nil)
/-- a key's value -/
theorem lock_reps {ds : List D} {vs : List V} (r : Reps K dr H B vs ds) : lockT vs = lockD ds := by
  have h : vs.all keyV = ds.all keyTD := by
    have : ∀ (ds : List D) (vs : List V), Reps K dr H B vs ds → vs.all keyV = ds.all keyTD := by
      intro ds
      induction ds with
      | nil => intro vs r; cases r; rfl
      | cons d ds ih =>
        intro vs r
        cases r with
        | cons r1 rs =>
          rw [List.all_cons, List.all_cons, ih _ rs]
          congr 1
          cases r1 <;> rfl
    exact this ds vs r
  unfold lockT lockD
  rw [h]
theorem tupAt_of {a : Addr} {k : List Key} (m : Mode.tm = false) (h : TupAt H a (k.map kV)) : H a = some (.tup (k.map kV)) := by
  unfold TupAt at h
  rw [lock_key m, if_neg Bool.false_ne_true] at h
  exact h
theorem key_val {k : Key} (r : RepT K dr H B v d) (h : keyOf d = some k) : v = kV k := by
  have e := keyOf_some h
  subst e
  cases k with
  | inl i => exact r.int
  | inr x => exact r.str
theorem keys_vals : ∀ {vs : List V} {ks : List Key}, Reps K dr H B vs (ks.map keyD) → vs = ks.map kV
  | [], [], _ => rfl
  | [], _ :: _, h => by cases h
  | _ :: _, [], h => by cases h
  | v :: vs, k :: ks, h => by
    cases h with
    | cons r rs =>
      rw [List.map_cons, ← keys_vals rs]
      congr 1
      cases k with
      | inl i => cases r; rfl
      | inr x => cases r; rfl
theorem keyT_val {ds : List D} {ks : List Key} (r : RepT K dr H B v (.tuple ds)) (h : keysOf ds = some ks) : ∃ b, v = .ref b ∧ TupAt H b (ks.map kV) := by
  obtain ⟨b, vs, e, s, rs⟩ := r.tupleH
  have e2 := keysOf_some h
  subst e2
  exact ⟨b, e, by rw [← keys_vals rs]; exact s⟩
/-- a look-up -/
theorem dget_of {es : List (D × D)} {k : D} {o : Option D} {B' : Addr → Prop} (r : RepT K dr H B v (.dict es)) (rk : RepT K dr H B' w k) (h : dgetD es k = some o) : ∃ a q, v = .ref a ∧ DGet H a w q ∧ RelD K dr H B q o := by
  rcases r.dict with ⟨_, rfl⟩ | ⟨a, u, rfl, hu, c⟩
  · cases h
  cases c with
  | k c =>
    rename_i kvs es
    unfold dgetD at h
    obtain ⟨hk, h⟩ : (keyOf k).isSome = true ∧ dfind es k = o := by
      by_cases z : kindOk false k = true
      · simp only [z, if_true, Option.some.injEq] at h; exact ⟨z, h⟩
      · simp [z] at h
    obtain ⟨kk, hk⟩ := Option.isSome_iff_exists.mp hk
    have e := keyOf_some hk
    have ev := key_val rk hk
    subst e ev h
    exact ⟨a, _, rfl, .inl ⟨kvs, kk, hu, rfl, rfl⟩, c.find kk⟩
  | t m c =>
    rename_i kvs es
    unfold dgetD at h
    obtain ⟨hk, h⟩ : kindOk true k = true ∧ dfind es k = o := by
      by_cases z : kindOk true k = true
      · simp only [z, if_true, Option.some.injEq] at h; exact ⟨z, h⟩
      · simp [z] at h
    obtain ⟨ds, rfl⟩ : ∃ ds, k = .tuple ds := by
      cases k <;> first | (cases hk; done) | exact ⟨_, rfl⟩
    obtain ⟨kk, hk⟩ := Option.isSome_iff_exists.mp (show (keysOf ds).isSome = true from hk)
    obtain ⟨b, rfl, eb⟩ := keyT_val rk hk
    have e := keysOf_some hk
    subst e h
    exact ⟨a, _, rfl, .inr ⟨kvs, kk, b, hu, rfl, tupAt_of m eb, rfl⟩, c.find kk⟩
/-- a store -/
theorem dput_of {t : Bool} {es : List (D × D)} {k : D} {a : Addr} {u : HO} {y : D} {z : V} (hu : H a = some u) (c : ConD K dr H B u ((.bool t, .none) :: es)) (rk : RepT K dr H B w k) (hk : kindOk t k = true) (hl : es.length < sizeLine) (rz : Rep K dr H B z y) :
    ∃ u', DPut H a w z (upd H a u') ∧ (∀ xs, u' ≠ .tup xs) ∧ ConD K dr H B u' ((.bool t, .none) :: dput es k y) := by
  cases c with
  | k c =>
    rename_i kvs
    obtain ⟨kk, hk⟩ := Option.isSome_iff_exists.mp (show (keyOf k).isSome = true from hk)
    have e := keyOf_some hk
    have ev := key_val rk hk
    subst e ev
    exact ⟨_, .inl ⟨kvs, kk, hu, rfl, by rw [c.length]; exact hl, rfl⟩, (by intro _ z; cases z), .k (c.put kk rz)⟩
  | t m c =>
    rename_i kvs
    cases k <;> first | (cases hk; done) | skip
    rename_i ds
    obtain ⟨kk, hk⟩ := Option.isSome_iff_exists.mp (show (keysOf ds).isSome = true from hk)
    obtain ⟨b, rfl, eb⟩ := keyT_val rk hk
    have e := keysOf_some hk
    subst e
    exact ⟨_, .inr ⟨kvs, kk, b, hu, rfl, tupAt_of m eb, by rw [c.length]; exact hl, rfl⟩, (by intro _ z; cases z), .t m (c.put kk rz)⟩
end
end Pf

namespace Pf
open PySem PySem.Spec PyProof.Rows PySem.Calls
variable [Mode]
section
variable {P : Program} {w : World} {A : Around} {E : Value → Shared → Prop} {s : Shared} {p : Addr} {ws : List Value}
theorem coll_tup {Q : List Value → Shared → Prop} (hp : IsTup s.heap p ws.toArray) (hq : Q ws { s with heap := (s.heap.push (seqObj "list" #[] 0)).update s.heap.objs.size (Obj.mapSeq (· ++ ws.toArray)) }) (hz : ws.length ≤ sizeLine) : wpAny (model P w) A (collect (.ref p)) Q E s := by
  obtain ⟨ob, h1, h2, m, h3⟩ := id hp
  unfold collect
  refine wpAny_bind (wpAny_runValue (codeAny_builtin entry_proto_collect' ?_))
  show wpAny (model P w) _ (do again (.builtin "list.__iadd__" ⟨[← newList [], .ref p], []⟩)) _ _ s
  refine wpAny_bind (wpAny_newList (wpAny_pure ⟨Code.quiet_builtin _ (by decide +kernel), codeAny_builtin entry_list_iadd' ?_⟩))
  show wpAny (model P w) _ (Builtin.List.listExtendWith (.ref s.heap.objs.size) (.ref p) (.ref s.heap.objs.size)) _ _ { s with heap := s.heap.push (seqObj "list" #[] 0) }
  unfold Builtin.List.listExtendWith
  have h1' : (s.heap.push (seqObj "list" #[] 0)).get? p = some ob := Heap.get?_push_of_some _ h1
  refine wpAny_bind (wpAny_typeOf (T := "tuple") ⟨ob, h1', h2⟩ ?_)
  have eT : (Value.type "tuple" == Value.type "tuple") = true := by rfl
  rw [if_pos (by rw [eT, Bool.or_true])]
  refine wpAny_bind (listItems_at h1' h3 ?_)
  refine wpAny_bind (listItems_at (n := 0) (xs := #[]) (Heap.get?_push_size _ rfl) rfl ?_)
  rw [if_neg (by intro z; simp at z)]
  refine wpAny_bind (listUpdate_at (n := 0) (xs := #[]) (Heap.get?_push_size _ rfl) rfl ?_ (Nat.zero_le _) (by show (#[] ++ ws.toArray).size ≤ sizeLine + 1; simp only [Array.size_append, List.size_toArray, List.length_nil]; omega))
  refine wpAny_pure ?_
  show wpAny (model P w) A (do
      let o ← load s.heap.objs.size
      match o.data with
      | .seq ys _ => pure ys.toList
      | _ => unsupported "internal:collect") Q E { s with heap := (s.heap.push (seqObj "list" #[] 0)).update s.heap.objs.size (Obj.mapSeq (· ++ ws.toArray)) }
  refine wpAny_bind (wpAny_load (get?_update_seq (Heap.get?_push_size _ rfl) _) ?_)
  show wpAny (model P w) A (pure ((#[] : Array Value) ++ ws.toArray).toList) Q E _
  rw [show ((#[] : Array Value) ++ ws.toArray).toList = ws by simp]
  exact wpAny_pure hq
theorem sortT_of {kw : List (Str × Value)} {Q : Value → Shared → Prop} (hp : IsTup s.heap p ws.toArray) (hz : ws.length ≤ sizeLine) (a1 : argsOk "sorted" ⟨[.ref p], kw⟩) (a2 : ∀ x, argsOk "list.sort" ⟨[.ref x], kw⟩)
    (body : ∀ E' : Value → Shared → Prop, wpAny (model P w) A.in1.in1 (Builtin.«list.sort» ⟨[.ref (s.heap.objs.size + 1)], kw⟩) (fun f s' => f = .done (.ret .none) ∧ Q (.ref (s.heap.objs.size + 1)) s') E' { s with heap := PySem.W.copyHeap s.heap ws }) :
    wpAny (model P w) A (call (.builtin "sorted") [.ref p] kw) Q E s := by
  refine call_function_entry_kw kind_sorted plain_sorted entry_sorted a1 ?_
  unfold Builtin.«sorted»
  refine wpAny_bind (m := checkCount "sorted" 1 1 _) (wpAny_pure ?_)
  refine wpAny_bind (coll_tup hp ?_ hz)
  refine wpAny_bind (wpAny_newList ?_ hz)
  have hsize : ((s.heap.push (seqObj "list" #[] 0)).update s.heap.objs.size (Obj.mapSeq (· ++ ws.toArray))).objs.size = s.heap.objs.size + 1 := by
    rw [Heap.size_update, size_push']
  show wpAny (model P w) _ _ _ _ { s with heap := PySem.W.copyHeap s.heap ws }
  rw [hsize]
  refine wpAny_bind (wpAny_holding (wpAny_call_entry_kw slot_list_sort ⟨_, PySem.W.copyHeap_at s.heap ws, rfl⟩ entry_list_sort ?run (a2 _)))
  case run =>
    show wpAny (model P w) A.in1.in1 (Builtin.«list.sort» ⟨[.ref (s.heap.objs.size + 1)], kw⟩) _ _ _
    refine wpAny_mono (body _) (fun f s1 hf => ?_) fun _ _ z => z
    obtain ⟨rfl, hq⟩ := hf
    exact ⟨_, rfl, wpAny_pure ⟨_, rfl, hq⟩⟩
end
section
variable {P : Program} {w : World} {A : Around} {E : Value → Shared → Prop} {s : Shared} {p : Addr} {ws : List Value} {β : Type} {bs : List β} {enc : β → D} {R : Value → β → Prop}
open PySem.W in
theorem sortT_data {Q : Value → Shared → Prop} (hp : IsTup s.heap p ws.toArray) (e : EachIs R ws bs) (er : EachIs (fun v b => ∃ as, Reads s.heap v (enc b) as) ws bs) (hal : AllAlike (bs.map enc)) (hk : Sortable (bs.map enc))
    (hL : bs.length ≤ sizeLine) (hu : ∀ b, b ∈ bs → A.units + 2 + (enc b).depth < cLine)
    (h : ∀ res, res.length = bs.length → EachIs R res (bs.mergeSort (dataLe false enc)) → Q (.ref (s.heap.objs.size + 1)) { s with heap := sortedAll s.heap ws (List.toArray res) }) : wpAny (model P w) A (call (.builtin "sorted") [.ref p]) Q E s := by
  have e2 := er.mono (R' := fun v b => ∃ as, Reads (sortingHeap (copyHeap s.heap ws) (s.heap.objs.size + 1) ws) v (enc b) as) fun _ _ ⟨as, r⟩ => ⟨as, PyProof.Rows.Reads.keeps (fun _ _ => sorting_copy_old) r⟩
  have hz : ws.length ≤ sizeLine := by rw [e.length]; exact hL
  have S := SortsAt.data (prog := P) (w := w) (A := A.in1.in1) (s := { s with heap := sortingHeap (copyHeap s.heap ws) (s.heap.objs.size + 1) ws }) (each_map (R := fun v d => ∃ as, Reads (sortingHeap (copyHeap s.heap ws) (s.heap.objs.size + 1) ws) v d as) enc e2) hal hk (bound_map hu)
  exact sortT_of hp hz (args_sorted1 _) (fun _ => args_list_sort _) fun _ => list_sort_vals (s := { s with heap := copyHeap s.heap ws }) (copyHeap_at s.heap ws) S hz ⟨rfl, h _ (by rw [sortVals_length false rfl]; exact e.length) (sortVals_data false e e2 hal)⟩
open PySem.W in
theorem sortTR_data {z : Bool} {Q : Value → Shared → Prop} (hp : IsTup s.heap p ws.toArray) (e : EachIs R ws bs) (er : EachIs (fun v b => ∃ as, Reads s.heap v (enc b) as) ws bs) (hal : AllAlike (bs.map enc)) (hk : Sortable (bs.map enc))
    (hL : bs.length ≤ sizeLine) (hu : ∀ b, b ∈ bs → A.units + 2 + (enc b).depth < cLine)
    (h : ∀ res, res.length = bs.length → EachIs R res (bs.mergeSort (dataLe z enc)) → Q (.ref (s.heap.objs.size + 1)) { s with heap := sortedAll s.heap ws (List.toArray res) }) : wpAny (model P w) A (call (.builtin "sorted") [.ref p] [(Str.ofString "reverse", .bool z)]) Q E s := by
  have e2 := er.mono (R' := fun v b => ∃ as, Reads (sortingHeap (copyHeap s.heap ws) (s.heap.objs.size + 1) ws) v (enc b) as) fun _ _ ⟨as, r⟩ => ⟨as, PyProof.Rows.Reads.keeps (fun _ _ => sorting_copy_old) r⟩
  have hz : ws.length ≤ sizeLine := by rw [e.length]; exact hL
  have S := SortsAt.data (prog := P) (w := w) (A := A.in1.in1) (s := { s with heap := sortingHeap (copyHeap s.heap ws) (s.heap.objs.size + 1) ws }) (each_map (R := fun v d => ∃ as, Reads (sortingHeap (copyHeap s.heap ws) (s.heap.objs.size + 1) ws) v d as) enc e2) hal hk (bound_map hu)
  exact sortT_of hp hz (args_sorted_rev _ _) (fun _ => args_list_sort_rev _ _) fun _ => list_sort_rev_vals (s := { s with heap := copyHeap s.heap ws }) (copyHeap_at s.heap ws) S hz ⟨rfl, h _ (by rw [sortVals_length z rfl]; exact e.length) (sortVals_data z e e2 hal)⟩
end
section
variable {P : Program} {w : World} {A : Around} {E : Value → Shared → Prop} {s : Shared} {p : Addr} {ws : List Value} {ns : List Int}
theorem sumT_raw {Q : Value → Shared → Prop} (hh : A.handled = none) (hp : IsTup s.heap p ws.toArray) (hi : IntsAre ws ns)
    (h : ∀ h' tk t', (∀ b o, s.heap.get? b = some o → h'.get? b = some o) → Q (.int ns.sum t') { s with heap := h', toks := tk }) : wpAny (model P w) A (call (.builtin "sum") [.ref p]) Q E s := by
  obtain ⟨ob, h1, h2, m, h3⟩ := hp
  have ht : s.heap.IsTuple p ws.toArray := ⟨ob, h1, h2, m, h3⟩
  obtain ⟨xs, e⟩ := hi.allInts.items
  have hn : numsOf (intItems xs).toList = ns := by rw [← e]; exact hi.numsOf
  rw [nums_intItems] at hn
  rw [e] at ht
  refine PySem.W.ktm_sumG hh ht fun h' tk t' hk => ?_
  have := h h' tk t' hk
  rw [preSum_eq, List.take_of_length_le (by simp), hn]; exact this
end
end Pf

namespace Pf
open PySem PySem.Spec PyProof.Rows PySem.Calls PySem.W
section
variable {prog : Program} {w : World} {A : Around} {E : Value → Shared → Prop} {s : Shared}
/-- min(a, b), a and b alike data -/
theorem min_pair {a b : Value} {x y : PyData} {as : List Addr} {Q : Value → Shared → Prop} (hh : A.handled = none) (hr : ReadsAll s.heap [a, b] [x, y] as) (ha : AlikeAll [x, y]) (hu : A.units + 1 + PyData.depthAll [x, y] < cLine)
    (h : ∀ (i : Nat) v h' tk bs, (#[a, b] : Array Value)[i]? = some v → Reads h' v (minD x [y]) bs → (∀ c o, s.heap.get? c = some o → h'.get? c = some o) → Q v { s with heap := h', toks := tk }) : wpAny (model prog w) A (call (.builtin "min") [a, b]) Q E s := by
  have nm : (toString "min" ++ toString ".loop" : String) = "min.loop" := by decide
  have bp : Builtin.Builtins.bindParams "min" ["key", "default"] 0 ⟨[], []⟩ = pure [none, none] := rfl
  apply call_function_tree F.kind_min F.plain_min F.entry_min (F.args_min2 a b)
  show wpAny (model prog w) A.in1 (Builtin.Builtins.bindParams "min" ["key", "default"] 0 ⟨[], []⟩ >>= _) _ E s
  refine wpAny_bind (wpAny_of_eq bp ?_)
  show wpAny (model prog w) A.in1 (newTuple [a, b] >>= _) _ E s
  refine wpAny_bind (wpAny_newObj_type ?_)
  generalize hs1 : ({ s with heap := s.heap.push { cls := .type "tuple", data := .seq [a, b].toArray } } : Shared) = s1
  have kp : ∀ c o, s.heap.get? c = some o → s1.heap.get? c = some o := fun c o e => by rw [← hs1]; exact Heap.get?_push_of_some _ e
  have tup : s1.heap.IsTuple s.heap.objs.size #[a, b] := by rw [← hs1]; exact ⟨_, Heap.get?_push_size _ rfl, rfl, 0, rfl⟩
  have hr1 : ReadsAll s1.heap (#[a, b] : Array Value).toList [x, y] as := PyProof.Rows.ReadsAll.keeps kp hr
  refine wpAny_bind (iter_tupleW (A := A.in1) hh tup fun s2 e2 W st fpl hw hk => ?_)
  refine wpAny_bind (wpAny_newObj_type ?_)
  rw [nm]
  have own : s2.heap.objs.size ∉ [s1.heap.objs.size, s.heap.objs.size] := fun z => Nat.lt_irrefl _ (fpl _ z)
  refine wpAny_pure ⟨plainId_quiet F.plain_min_loop _, codeAny_min_loop_firstH W s1.heap hw (fun i j => dataLt ([x, y].getD i .none) ([x, y].getD j .none)) (cmpIn_lt (A := A.in1) hr1 ha hu) s2.heap.objs.size own (fresh_in hk) _ (by show 0 < 2; omega) (fun c o e => Heap.get?_push_of_some _ (hk c o e)) (W.frame 0 s2 _ s2.toks st (Nat.le_refl _) fun c _ o e => Heap.get?_push_of_some _ e) (Heap.get?_push_size _ rfl) fun v s' hP hm => ?_⟩
  have hm := Moved.drop_new (tk := s2.toks) hm (Nat.le_refl _)
  obtain ⟨h', tk, rfl, hk'⟩ := moved_old e2 rfl hm
  obtain ⟨bs, r, _, _, _⟩ := readsAll_atA hr1 _ v hP
  have e3 := (argBest_fold dataLt PyData.none x [y] [y].length (Nat.le_refl _)).2
  rw [List.take_length] at e3
  have q := h _ v h' tk bs hP (reads_keeps hk' (by unfold minD; rw [← e3]; exact r)) fun c o e => hk' c o (kp c o e)
  rw [← hs1]
  exact q
/-- max(a, b), a and b alike data -/
theorem max_pair {a b : Value} {x y : PyData} {as : List Addr} {Q : Value → Shared → Prop} (hh : A.handled = none) (hr : ReadsAll s.heap [a, b] [x, y] as) (ha : AlikeAll [x, y]) (hu : A.units + 1 + PyData.depthAll [x, y] < cLine)
    (h : ∀ (i : Nat) v h' tk bs, (#[a, b] : Array Value)[i]? = some v → Reads h' v (maxD x [y]) bs → (∀ c o, s.heap.get? c = some o → h'.get? c = some o) → Q v { s with heap := h', toks := tk }) : wpAny (model prog w) A (call (.builtin "max") [a, b]) Q E s := by
  have nm : (toString "max" ++ toString ".loop" : String) = "max.loop" := by decide
  have bp : Builtin.Builtins.bindParams "max" ["key", "default"] 0 ⟨[], []⟩ = pure [none, none] := rfl
  apply call_function_tree F.kind_max F.plain_max F.entry_max (F.args_max2 a b)
  show wpAny (model prog w) A.in1 (Builtin.Builtins.bindParams "max" ["key", "default"] 0 ⟨[], []⟩ >>= _) _ E s
  refine wpAny_bind (wpAny_of_eq bp ?_)
  show wpAny (model prog w) A.in1 (newTuple [a, b] >>= _) _ E s
  refine wpAny_bind (wpAny_newObj_type ?_)
  generalize hs1 : ({ s with heap := s.heap.push { cls := .type "tuple", data := .seq [a, b].toArray } } : Shared) = s1
  have kp : ∀ c o, s.heap.get? c = some o → s1.heap.get? c = some o := fun c o e => by rw [← hs1]; exact Heap.get?_push_of_some _ e
  have tup : s1.heap.IsTuple s.heap.objs.size #[a, b] := by rw [← hs1]; exact ⟨_, Heap.get?_push_size _ rfl, rfl, 0, rfl⟩
  have hr1 : ReadsAll s1.heap (#[a, b] : Array Value).toList [x, y] as := PyProof.Rows.ReadsAll.keeps kp hr
  refine wpAny_bind (iter_tupleW (A := A.in1) hh tup fun s2 e2 W st fpl hw hk => ?_)
  refine wpAny_bind (wpAny_newObj_type ?_)
  rw [nm]
  have own : s2.heap.objs.size ∉ [s1.heap.objs.size, s.heap.objs.size] := fun z => Nat.lt_irrefl _ (fpl _ z)
  refine wpAny_pure ⟨plainId_quiet F.plain_max_loop _, codeAny_max_loop_firstH W s1.heap hw (fun i j => (fun p q => dataLt q p) ([x, y].getD i .none) ([x, y].getD j .none)) (cmpIn_gt (A := A.in1) hr1 ha hu) s2.heap.objs.size own (fresh_in hk) _ (by show 0 < 2; omega) (fun c o e => Heap.get?_push_of_some _ (hk c o e)) (W.frame 0 s2 _ s2.toks st (Nat.le_refl _) fun c _ o e => Heap.get?_push_of_some _ e) (Heap.get?_push_size _ rfl) fun v s' hP hm => ?_⟩
  have hm := Moved.drop_new (tk := s2.toks) hm (Nat.le_refl _)
  obtain ⟨h', tk, rfl, hk'⟩ := moved_old e2 rfl hm
  obtain ⟨bs, r, _, _, _⟩ := readsAll_atA hr1 _ v hP
  have e3 := (argBest_fold (fun p q => dataLt q p) PyData.none x [y] [y].length (Nat.le_refl _)).2
  rw [List.take_length] at e3
  have q := h _ v h' tk bs hP (reads_keeps hk' (by unfold maxD; rw [← e3]; exact r)) fun c o e => hk' c o (kp c o e)
  rw [← hs1]
  exact q
end
end Pf

namespace Pf
open PySem PySem.Spec PyProof.Rows L2
variable [Mode]

section
variable {K : PySem.W.Frag} {dr : Dr} {X : Cx} {H : Hp} {B : Addr → Prop}
def rCmp (K : PySem.W.Frag) (dr : Dr) (op : CmpOp) : R2 := fun x y H Q => ∃ B dx dy b, RepT K dr H B x dx ∧ RepT K dr H B y dy ∧ cmpD op dx dy = some b ∧ Q (.bl b) H
theorem ite_some {α : Type} {c : Prop} [Decidable c] {x y : α} (h : (if c then some x else none) = some y) : c ∧ x = y := by
  by_cases z : c
  · rw [if_pos z] at h; cases h; exact ⟨z, rfl⟩
  · rw [if_neg z] at h; cases h
theorem ltD_int (i j : Int) : ltD (.int i) (.int j) = some (decide (i < j)) := rfl
theorem ltD_gen {x y : D} {b : Bool} (h : ltD x y = some b) : (∃ i j, x = .int i ∧ y = .int j ∧ b = decide (i < j)) ∨ (PySem.W.alike x y = true ∧ okN deep x = true ∧ okN deep y = true ∧ x ≠ .none ∧ b = PySem.W.dataLt x y) := by
  unfold ltD at h
  split at h
  · cases h
    exact .inl ⟨_, _, rfl, rfl, rfl⟩
  · obtain ⟨hh, rfl⟩ := ite_some h
    simp only [Bool.and_eq_true] at hh
    obtain ⟨⟨⟨h1, h2⟩, h3⟩, h4⟩ := hh
    refine .inr ⟨h1, h2, h3, fun e => ?_, rfl⟩
    subst e
    cases h4
theorem alike_symm_ne {x y : D} (h : PySem.W.alike x y = true) (n : x ≠ .none) : y ≠ .none := fun e => by
  subst e
  cases x <;> simp_all [PySem.W.alike]
mutual
theorem alike_symm : ∀ (x y : D), PySem.W.alike x y = true → PySem.W.alike y x = true
  | .none, y, h => by cases y <;> simp_all [PySem.W.alike]
  | .bool _, y, h => by cases y <;> simp_all [PySem.W.alike]
  | .int _, y, h => by cases y <;> simp_all [PySem.W.alike]
  | .str _, y, h => by cases y <;> simp_all [PySem.W.alike]
  | .list xs, y, h => by
    cases y with
    | list ys => simp only [PySem.W.alike] at h ⊢; exact alike_symmAll xs ys h
    | _ => simp [PySem.W.alike] at h
  | .tuple xs, y, h => by
    cases y with
    | tuple ys => simp only [PySem.W.alike] at h ⊢; exact alike_symmAll xs ys h
    | _ => simp [PySem.W.alike] at h
  | .dict _, y, h => by cases y <;> simp_all [PySem.W.alike]
theorem alike_symmAll : ∀ (xs ys : List D), PySem.W.alikeAll xs ys = true → PySem.W.alikeAll ys xs = true
  | [], [], _ => by simp [PySem.W.alikeAll]
  | [], _ :: _, _ => by simp [PySem.W.alikeAll]
  | _ :: _, [], _ => by simp [PySem.W.alikeAll]
  | x :: xs, y :: ys, h => by
    simp only [PySem.W.alikeAll, Bool.and_eq_true] at h ⊢
    exact ⟨alike_symm x y h.1, alike_symmAll xs ys h.2⟩
end
theorem int_of {d : D} (h : isInt d = true) : ∃ i, d = .int i := by
  cases d <;> first | exact ⟨_, rfl⟩ | cases h
theorem dfind_int {fs : List (D × D)} (h : (fs.all fun p => isInt p.2) = true) {k d : D} (e : dfind fs k = some d) : ∃ i, d = .int i := by
  unfold dfind at e
  obtain ⟨p, hp, rfl⟩ := Option.map_eq_some_iff.mp e
  exact int_of (List.all_eq_true.mp h p (List.mem_of_find?_eq_some hp))
theorem hits_ints {P : Program} {w : World} {A : Around} {s : Shared} {ls : List (Key × V)} {fs : List (D × D)} (rf : RepK K dr H B ls fs) (hf : (fs.all fun p => isInt p.2) = true) {vb : List (Key × Value)} (rb : KV ls vb) : ∀ {es : List (D × D)} {ks : List (Key × V)} {va : List (Key × Value)}, RepK K dr H B ks es → (es.all fun p => isInt p.2) = true → KV ks va → PySem.W.KeqHitsP P w A s vb va (deqE fs es)
  | [], _, _, .nil, _, ra => by
    unfold KV at ra
    cases ra
    exact .nil
  | p :: es, ks0, va, r0, he, ra => by
    cases r0 with
    | @cons k v ks d _ r rs =>
      unfold KV at ra
      cases ra with
      | @cons _ q _ qs h t =>
        simp only [List.all_cons, Bool.and_eq_true] at he
        obtain ⟨h1, h2⟩ := h
        obtain ⟨key, w0⟩ := q
        have h1 : k = key := h1
        subst h1
        obtain ⟨i, hi⟩ := int_of he.1
        have hi : d = .int i := hi
        subst hi
        cases r
        have h2 : RelV (.int i) w0 := h2
        obtain ⟨t0, rfl⟩ := h2
        have rr := rb.val k
        have rd := rf.find k
        show PySem.W.KeqHitsP P w A s vb ((k, Value.int i t0) :: qs) (match dfind fs (keyD k) with
          | some d => PyData.eqv (.int i) d && deqE fs es
          | none => false)
        cases hv : valV ls k with
        | none =>
          rw [hv] at rr rd
          cases hd : dfind fs (keyD k) with
          | some d => rw [hd] at rd; exact rd.elim
          | none =>
            cases hb : valueAt vb k with
            | some y => rw [hb] at rr; exact (show False from rr).elim
            | none => exact .miss hb
        | some u =>
          rw [hv] at rr rd
          cases hd : dfind fs (keyD k) with
          | none => rw [hd] at rd; exact rd.elim
          | some d =>
            rw [hd] at rd
            obtain ⟨j, rfl⟩ := dfind_int hf hd
            have rd : Rep K dr H B u (.int j) := rd
            cases rd
            cases hb : valueAt vb k with
            | none => rw [hb] at rr; exact (show False from rr).elim
            | some y =>
              rw [hb] at rr
              have rr : RelV (.int j) y := rr
              obtain ⟨t1, rfl⟩ := rr
              have e : PyData.eqv (.int i) (.int j) = (i == j) := rfl
              show PySem.W.KeqHitsP P w A s vb ((k, Value.int i t0) :: qs) (PyData.eqv (.int i) (.int j) && deqE fs es)
              rw [e]
              exact .hit hb (SeqAt.EqAt.int_int i t0 j t1).eqP (hits_ints rf hf rb rs he.2 t)
theorem ncP_dicts {K : Type} [DecidableEq K] {P : Program} {w : World} {A : Around} {s : Shared} {knd : PySem.KeyKind P w K} {a b : Addr} {ka kb : List (K × Value)} {r : Bool} (ha : (a == sysModules) = false) (hb : (b == sysModules) = false)
    (da : s.heap.DictOf knd a ka) (db : s.heap.DictOf knd b kb) (hu : A.units < cLine) (hits : ka.length = kb.length → PySem.W.KeqHitsP P w A.in1 s kb ka r) (E Q : Value → Shared → Prop) (h : Q (.bool (!(ka.length == kb.length && r))) s) : wpAny (model P w) A (richCompare .NotEq (.ref a) (.ref b)) Q E s := by
  refine wpAny_richCompare_same_room (op := .NotEq) da.typeIs db.typeIs PySem.F.slot_dict_ne (wpAny_call_entry PySem.F.slot_dict_ne da.typeIs PySem.F.entry_dict_ne ?_ (PySem.F.args_dict_ne_2 _ _)) hu
  show wpAny _ _ (Builtin.Dict.dictSlotArgs "__ne__" ⟨[.ref a, .ref b], []⟩ >>= _) _ _ s
  refine wpAny_bind ?_
  unfold Builtin.Dict.dictSlotArgs
  refine wpAny_bind (wpAny_notOrdered_dict da.typeIs ?_)
  show wpAny _ _ (pure (Value.ref a, Value.ref b)) _ _ s
  refine wpAny_pure ?_
  refine wpAny_bind (wpAny_isInstance (T := "dict") db.typeIs PySem.F.sub_dict_dict ?_)
  simp only [Bool.not_true, Bool.false_eq_true, if_false]
  refine wpAny_bind (wpAny_pure (wpAny_bind (wpAny_pure ?_)))
  refine wpAny_bind (PySem.W.samePairsP ha hb da db hits ?_)
  refine wpAny_pure ⟨_, rfl, ?_, ?_⟩
  · exact fun x => nomatch x
  · have e : ((ka.length == kb.length && r) == false) = !(ka.length == kb.length && r) := by cases (ka.length == kb.length && r) <;> rfl
    rw [e]
    exact h
theorem op_cmp {op : CmpOp} (hr : X.A.units + 200 < cLine) : OpR X (compareOp op) (rCmp X.K dr op) := by
  intro pins s σ H x y v u Q I rx ry h
  obtain ⟨B, dx, dy, b, r1, r2, hd, q⟩ := h
  have hdeep : deep = 40 := rfl
  have ok : ∀ {d : D}, okN deep d = true → d.plain = true ∧ d.depth ≤ 40 := fun {d} h => okN_plain _ d h
  have okL : ∀ {ds : List D}, okN deep (.list ds) = true → PyData.plainAll ds = true ∧ PyData.depthAll ds ≤ 40 := fun {d} h => by
    have h1 := okN_plainAll 39 d (by simpa [okN, deep] using h)
    exact ⟨h1.1, by omega⟩
  have okT : ∀ {ds : List D}, okN deep (.tuple ds) = true → PyData.plainAll ds = true ∧ PyData.depthAll ds ≤ 40 := fun {d} h => by
    have h1 := okN_plainAll 39 d (by simpa [okN, deep] using h)
    exact ⟨h1.1, by omega⟩
  have fin : EP X pins σ Q (.bool b) s := ⟨.bl b, H, I, rfl, q⟩
  cases op with
  | Eq =>
    have hd : (if okN deep dx = true ∧ okN deep dy = true then some (PyData.eqv dx dy) else deqD dx dy) = some b := hd
    by_cases hh : okN deep dx = true ∧ okN deep dy = true
    · rw [if_pos hh] at hd
      cases hd
      obtain ⟨p1, d1⟩ := ok hh.1
      obtain ⟨p2, d2⟩ := ok hh.2
      obtain ⟨as, q1⟩ := Dp.reads I dx x v (r1.dp p1) rx
      obtain ⟨bs, q2⟩ := Dp.reads I dy y u (r2.dp p2) ry
      exact SeqAt.eq_plain q1 q2 p1 p2 (by omega) fin
    · rw [if_neg hh] at hd
      unfold deqD at hd
      split at hd
      rotate_left
      · cases hd
      obtain ⟨⟨i1, i2⟩, rfl⟩ := ite_some hd
      rcases r1.dict with ⟨_, z⟩ | ⟨a, ua, rfl, ha, c1⟩
      · cases z
      rcases r2.dict with ⟨_, z⟩ | ⟨a', ub, rfl, hb, c2⟩
      · cases z
      cases c1 with
      | k c1 =>
        cases c2 with
        | k c2 =>
          have ha : Rd H a _ := ha
          have hb : Rd H a' _ := hb
          obtain ⟨_, ya, va, ra, da⟩ := ha.ok I.hok
          obtain ⟨_, yb, vb, rb, db⟩ := hb.ok I.hok
          cases (show v = Value.ref a from rx)
          cases (show u = Value.ref a' from ry)
          refine PySem.W.rcP_dicts (knd := mixKind X.prog X.w) ya yb da db (by omega) (fun _ => hits_ints c2 i2 rb c1 i1 ra) _ _ ?_
          rw [← ra.length, ← rb.length, c1.length, c2.length]
          exact fin
  | NotEq =>
    have hd : (if okN deep dx = true ∧ okN deep dy = true then some (!PyData.eqv dx dy) else (deqD dx dy).map (!·)) = some b := hd
    by_cases hh : okN deep dx = true ∧ okN deep dy = true
    · rw [if_pos hh] at hd
      cases hd
      obtain ⟨p1, d1⟩ := ok hh.1
      obtain ⟨p2, d2⟩ := ok hh.2
      obtain ⟨as, q1⟩ := Dp.reads I dx x v (r1.dp p1) rx
      obtain ⟨bs, q2⟩ := Dp.reads I dy y u (r2.dp p2) ry
      exact SeqAt.ne_plain q1 q2 p1 p2 (by omega) fin
    · rw [if_neg hh] at hd
      obtain ⟨b', hd2, rfl⟩ := Option.map_eq_some_iff.mp hd
      clear hd
      have hd := hd2
      clear hd2
      unfold deqD at hd
      split at hd
      rotate_left
      · cases hd
      obtain ⟨⟨i1, i2⟩, rfl⟩ := ite_some hd
      rcases r1.dict with ⟨_, z⟩ | ⟨a, ua, rfl, ha, c1⟩
      · cases z
      rcases r2.dict with ⟨_, z⟩ | ⟨a', ub, rfl, hb, c2⟩
      · cases z
      cases c1 with
      | k c1 =>
        cases c2 with
        | k c2 =>
          have ha : Rd H a _ := ha
          have hb : Rd H a' _ := hb
          obtain ⟨_, ya, va, ra, da⟩ := ha.ok I.hok
          obtain ⟨_, yb, vb, rb, db⟩ := hb.ok I.hok
          cases (show v = Value.ref a from rx)
          cases (show u = Value.ref a' from ry)
          refine ncP_dicts (knd := mixKind X.prog X.w) ya yb da db (by omega) (fun _ => hits_ints c2 i2 rb c1 i1 ra) _ _ ?_
          rw [← ra.length, ← rb.length, c1.length, c2.length]
          exact fin
  | Lt =>
    have hd : ltD dx dy = some b := hd
    rcases ltD_gen hd with ⟨i, j, rfl, rfl, rfl⟩ | ⟨ha, o1, o2, hn, rfl⟩
    · obtain rfl := r1.int
      obtain rfl := r2.int
      exact op_lt pins s σ H _ _ v u Q I rx ry ⟨_, _, rfl, rfl, q⟩
    · obtain ⟨p1, d1⟩ := ok o1
      obtain ⟨p2, d2⟩ := ok o2
      obtain ⟨as, q1⟩ := Dp.reads I dx x v (r1.dp p1) rx
      obtain ⟨bs, q2⟩ := Dp.reads I dy y u (r2.dp p2) ry
      exact PySem.W.lt_data q1 q2 ha hn (by omega) fin
  | Gt =>
    have hd : ltD dy dx = some b := hd
    rcases ltD_gen hd with ⟨i, j, rfl, rfl, rfl⟩ | ⟨ha, o1, o2, hn, rfl⟩
    · obtain rfl := r1.int
      obtain rfl := r2.int
      exact op_gt pins s σ H _ _ v u Q I rx ry ⟨_, _, rfl, rfl, q⟩
    · obtain ⟨p1, d1⟩ := ok o1
      obtain ⟨p2, d2⟩ := ok o2
      obtain ⟨as, q1⟩ := Dp.reads I dx x v (r1.dp p2) rx
      obtain ⟨bs, q2⟩ := Dp.reads I dy y u (r2.dp p1) ry
      exact PySem.W.gt_data q1 q2 (alike_symm _ _ ha) (alike_symm_ne ha hn) (by omega) fin
  | LtE =>
    have hd : (ltD dy dx).map (!·) = some b := hd
    obtain ⟨b', hd', rfl⟩ := Option.map_eq_some_iff.mp hd
    rcases ltD_gen hd' with ⟨i, j, rfl, rfl, rfl⟩ | ⟨ha, o1, o2, hn, rfl⟩
    · obtain rfl := r1.int
      obtain rfl := r2.int
      refine op_le pins s σ H _ _ v u Q I rx ry ⟨_, _, rfl, rfl, ?_⟩
      have e : decide (j ≤ i) = !decide (i < j) := by rw [Bool.eq_iff_iff]; simp
      show Q (V.bl (decide (j ≤ i))) H
      rw [e]
      exact q
    · obtain ⟨p1, d1⟩ := ok o1
      obtain ⟨p2, d2⟩ := ok o2
      obtain ⟨as, q1⟩ := Dp.reads I dx x v (r1.dp p2) rx
      obtain ⟨bs, q2⟩ := Dp.reads I dy y u (r2.dp p1) ry
      exact PySem.W.le_data q1 q2 (alike_symm _ _ ha) (alike_symm_ne ha hn) (by omega) fin
  | GtE =>
    have hd : (ltD dx dy).map (!·) = some b := hd
    obtain ⟨b', hd', rfl⟩ := Option.map_eq_some_iff.mp hd
    rcases ltD_gen hd' with ⟨i, j, rfl, rfl, rfl⟩ | ⟨ha, o1, o2, hn, rfl⟩
    · obtain rfl := r1.int
      obtain rfl := r2.int
      refine op_ge pins s σ H _ _ v u Q I rx ry ⟨_, _, rfl, rfl, ?_⟩
      have e : decide (j ≤ i) = !decide (i < j) := by rw [Bool.eq_iff_iff]; simp
      show Q (V.bl (decide (j ≤ i))) H
      rw [e]
      exact q
    · obtain ⟨p1, d1⟩ := ok o1
      obtain ⟨p2, d2⟩ := ok o2
      obtain ⟨as, q1⟩ := Dp.reads I dx x v (r1.dp p1) rx
      obtain ⟨bs, q2⟩ := Dp.reads I dy y u (r2.dp p2) ry
      exact PySem.W.ge_data q1 q2 ha hn (by omega) fin
  | In =>
    cases dy with
    | list ys =>
      obtain ⟨hh, rfl⟩ := ite_some hd
      obtain ⟨p1, d1⟩ := ok hh.1
      obtain ⟨p2, d2⟩ := okL hh.2
      obtain ⟨as, q1⟩ := Dp.reads I dx x v (r1.dp p1) rx
      obtain ⟨bs, q2⟩ := Dp.reads I (.list ys) y u (r2.dp p2) ry
      exact SeqAt.in_list_data q2 q1 p2 p1 (by omega) fin
    | tuple ys =>
      obtain ⟨hh, rfl⟩ := ite_some hd
      obtain ⟨p1, d1⟩ := ok hh.1
      obtain ⟨p2, d2⟩ := okT hh.2
      obtain ⟨as, q1⟩ := Dp.reads I dx x v (r1.dp p1) rx
      obtain ⟨bs, q2⟩ := Dp.reads I (.tuple ys) y u (r2.dp p2) ry
      exact SeqAt.in_tuple_data q2 q1 p2 p1 (by omega) fin
    | dict es =>
      obtain ⟨o, ho, rfl⟩ := Option.map_eq_some_iff.mp (show (dgetD es dx).map (·.isSome) = some b from hd)
      obtain ⟨a, q1, rfl, g, rd⟩ := dget_of r2 r1 ho
      obtain rfl : u = Value.ref a := ry
      refine d_in (by omega) I g rx fun s' I' => ⟨.bl q1.isSome, H, I', rfl, ?_⟩
      have e : q1.isSome = o.isSome := by cases q1 <;> cases o <;> first | rfl | exact rd.elim
      rw [e]
      exact q
    | str z =>
      cases dx with
      | str w =>
        cases hd
        obtain rfl := r1.str
        obtain rfl := r2.str
        exact op_in_str pins s σ H _ _ v u Q I rx ry ⟨_, _, rfl, rfl, q⟩
      | _ => simp [cmpD] at hd
    | _ => simp [cmpD] at hd
  | NotIn =>
    cases dy with
    | list ys =>
      obtain ⟨hh, rfl⟩ := ite_some hd
      obtain ⟨p1, d1⟩ := ok hh.1
      obtain ⟨p2, d2⟩ := okL hh.2
      obtain ⟨as, q1⟩ := Dp.reads I dx x v (r1.dp p1) rx
      obtain ⟨bs, q2⟩ := Dp.reads I (.list ys) y u (r2.dp p2) ry
      exact SeqAt.notIn_list_data q2 q1 p2 p1 (by omega) fin
    | tuple ys =>
      obtain ⟨hh, rfl⟩ := ite_some hd
      obtain ⟨p1, d1⟩ := ok hh.1
      obtain ⟨p2, d2⟩ := okT hh.2
      obtain ⟨as, q1⟩ := Dp.reads I dx x v (r1.dp p1) rx
      obtain ⟨bs, q2⟩ := Dp.reads I (.tuple ys) y u (r2.dp p2) ry
      exact SeqAt.notIn_tuple_data q2 q1 p2 p1 (by omega) fin
    | dict es =>
      obtain ⟨o, ho, rfl⟩ := Option.map_eq_some_iff.mp (show (dgetD es dx).map (fun o => !o.isSome) = some b from hd)
      obtain ⟨a, q1, rfl, g, rd⟩ := dget_of r2 r1 ho
      obtain rfl : u = Value.ref a := ry
      refine d_notIn (by omega) I g rx fun s' I' => ⟨.bl (!q1.isSome), H, I', rfl, ?_⟩
      have e : q1.isSome = o.isSome := by cases q1 <;> cases o <;> first | rfl | exact rd.elim
      rw [e]
      exact q
    | str z =>
      cases dx with
      | str w =>
        cases hd
        obtain rfl := r1.str
        obtain rfl := r2.str
        exact op_notin_str pins s σ H _ _ v u Q I rx ry ⟨_, _, rfl, rfl, q⟩
      | _ => simp [cmpD] at hd
    | _ => simp [cmpD] at hd
  | Is => cases dx <;> cases dy <;> simp [cmpD] at hd
  | IsNot => cases dx <;> cases dy <;> simp [cmpD] at hd

def rIxD (K : PySem.W.Frag) (dr : Dr) : R2 := fun x y H Q => ∃ B dx dy d, RepT K dr H B x dx ∧ RepT K dr H B y dy ∧ ixD dx dy = some d ∧ ∀ v, Rep K dr H B v d → Q v H
theorem Reps.atI {ds : List D} {vs : List V} {i : Int} {d : D} (r : Reps K dr H B vs ds) (h : L2.atI ds i = some d) : ∃ v, L2.atI vs i = some v ∧ Rep K dr H B v d := by
  unfold L2.atI at h ⊢
  rw [r.length]
  cases e : ixN ds.length i with
  | none => rw [e] at h; cases h
  | some j =>
    rw [e] at h
    exact r.get (show ds[j]? = some d from h)
theorem ix_D (hu : X.A.units + 200 < cLine) : IxR X (Pf.rIxD X.K dr) := by
  intro value slice pins s σ H x y v u Q I rx ry h hs
  obtain ⟨B, dx, dy, d, r1, r2, hd, q⟩ := h
  unfold ixD at hd
  split at hd
  · obtain ⟨a, vs, rfl, e, r⟩ := r1.list
    obtain rfl := r2.int
    obtain ⟨w, e2, r3⟩ := r.atI hd
    exact ix_list value slice pins s σ H _ _ v u Q I rx ry ⟨a, vs, _, w, rfl, rfl, SqL.of e, e2, q w r3⟩ hs
  · obtain ⟨a, vs, rfl, e, r⟩ := r1.tuple
    obtain rfl := r2.int
    obtain ⟨w, e2, r3⟩ := r.atI hd
    exact ix_tup value slice pins s σ H _ _ v u Q I rx ry ⟨a, vs, _, w, rfl, rfl, e, e2, q w r3⟩ hs
  · obtain ⟨o, ho, h2⟩ := Option.bind_eq_some_iff.mp hd
    obtain rfl : o = some d := h2
    obtain ⟨a, q1, rfl, g, rd⟩ := dget_of r1 r2 ho
    obtain rfl : v = Value.ref a := rx
    cases q1 with
    | none => exact rd.elim
    | some z => exact tail_any (dict_typeIs I g) slot_dict_getitem.lookup (d_getItem (by omega) I g ry fun w' s' I' rw' => ⟨z, H, I', rw', q z rd⟩) hs
  · obtain rfl := r1.str
    obtain rfl := r2.int
    split at hd
    · obtain ⟨c, e, rfl⟩ := Option.map_eq_some_iff.mp hd
      exact ix_str value slice pins s σ H _ _ v u Q I rx ry ⟨_, _, c, rfl, rfl, by rw [← cap_eq]; assumption, e, q _ (.str _)⟩ hs
    · cases hd
  · cases hd
def rSlD (K : PySem.W.Frag) (dr : Dr) : V → Option Int → Option Int → Hp → VK → Prop := fun x lo hi H Q => ∃ B dx d, NB H B ∧ RepT K dr H B x dx ∧ slD dx lo hi = some d ∧ Fin1 K dr H B d Q
theorem Reps.cut {ds : List D} {vs : List V} (r : Reps K dr H B vs ds) (lo hi : Option Int) : Reps K dr H B (cutV vs lo hi) (cutD ds lo hi) := by
  unfold cutV cutD
  rw [r.length]
  exact (r.drop _).take _
theorem sl_D : SlR X (rSlD X.K dr) := by
  intro pins s σ H x v vl vu lo hi sl Q I rx hs pl pu h
  obtain ⟨B, dx, d, nb, r1, hd, f⟩ := h
  unfold slD at hd
  split at hd
  · cases hd
    obtain ⟨a, vs, rfl, e, r⟩ := r1.list
    exact sl_list pins s σ H _ v vl vu lo hi sl Q I rx hs pl pu ⟨a, vs, rfl, SqL.of e, fun p hp => f.newL nb hp (r.cut lo hi)⟩
  · split at hd <;> cases hd
    rename_i hc
    obtain rfl := r1.str
    exact sl_str pins s σ H _ v vl vu lo hi sl Q I rx hs pl pu ⟨_, rfl, by rw [← cap_eq]; exact hc, f.plain (.str _) (by intro _ e; cases e)⟩
  · cases hd
    obtain ⟨a, vs, rfl, e, r⟩ := r1.tupleH
    refine sl_tupM pins s σ H _ v vl vu lo hi sl Q I rx hs pl pu ⟨a, vs, rfl, e.sqT, fun w => ?_, fun _ => f.newT (r.cut lo hi)⟩
    have e2 : cutV vs lo hi = vs := by
      unfold cutV
      rw [w.1, w.2]
      simp
    have r2 := r.cut lo hi
    rw [e2] at r2
    exact f.plain (.tup e r2) (by intro _ e; cases e)
  · cases hd

theorem Reps.zip : ∀ {ds : List D} {vs : List V}, Reps K dr H B vs ds → ∃ ps : List (V × D), vs = ps.map Prod.fst ∧ ds = ps.map Prod.snd ∧ ∀ p ∈ ps, Rep K dr H B p.1 p.2
  | [], _, h => by cases h; exact ⟨[], rfl, rfl, fun _ m => by cases m⟩
  | d :: ds, _, h => by
    cases h with
    | cons r rs =>
      obtain ⟨ps, e1, e2, q⟩ := Reps.zip rs
      subst e1 e2
      refine ⟨(_, d) :: ps, rfl, rfl, fun p m => ?_⟩
      rcases List.mem_cons.mp m with rfl | m
      · exact r
      · exact q p m
theorem Reps.of_zip : ∀ {ps : List (V × D)}, (∀ p ∈ ps, Rep K dr H B p.1 p.2) → Reps K dr H B (ps.map Prod.fst) (ps.map Prod.snd)
  | [], _ => .nil
  | p :: ps, h => .cons (h p List.mem_cons_self) (Reps.of_zip fun q m => h q (List.mem_cons_of_mem _ m))
/-- arguments: the outermost lists may be owned ones -/
inductive RepsT (K : PySem.W.Frag) (dr : Dr) (H : Hp) (B : Addr → Prop) : List V → List D → Prop
  | nil : RepsT K dr H B [] []
  | cons {v vs d ds} : RepT K dr H B v d → RepsT K dr H B vs ds → RepsT K dr H B (v :: vs) (d :: ds)
/-- arguments: the outermost lists may be owned ones, but no dict is -/
inductive RepsL (K : PySem.W.Frag) (dr : Dr) (H : Hp) (B : Addr → Prop) : List V → List D → Prop
  | nil : RepsL K dr H B [] []
  | cons {v vs d ds} : RepT K dr H B v d → (Rep K dr H B v d ∨ ∀ es, d ≠ .dict es) → RepsL K dr H B vs ds → RepsL K dr H B (v :: vs) (d :: ds)
theorem RepsT.one {vs : List V} {d : D} (h : RepsT K dr H B vs [d]) : ∃ v, vs = [v] ∧ RepT K dr H B v d := by
  cases h with
  | cons r rs => cases rs; exact ⟨_, rfl, r⟩
theorem RepsT.two {vs : List V} {d e : D} (h : RepsT K dr H B vs [d, e]) : ∃ v w, vs = [v, w] ∧ RepT K dr H B v d ∧ RepT K dr H B w e := by
  cases h with
  | cons r rs => obtain ⟨w, rfl, q⟩ := rs.one; exact ⟨_, _, rfl, r, q⟩
theorem RepsT.kp {H' : Hp} : ∀ {vs : List V} {ds : List D}, RepsT K dr H B vs ds → Same H H' → RepsT K dr H' B vs ds
  | _, _, .nil, _ => .nil
  | _, _, .cons r rs, k => .cons (r.same k) (RepsT.kp rs k)
theorem ints_of : ∀ {ds : List D} {ns : List Int}, intsD ds = some ns → ds = ns.map PyData.int
  | [], ns, h => by cases h; rfl
  | d :: ds, ns, h => by
    cases d <;> simp only [intsD, Option.map_eq_some_iff] at h <;> first
      | (obtain ⟨ms, e, rfl⟩ := h; rw [ints_of e]; rfl)
      | cases h
theorem bools_of : ∀ {ds : List D} {ns : List Bool}, boolsD ds = some ns → ds = ns.map PyData.bool
  | [], ns, h => by cases h; rfl
  | d :: ds, ns, h => by
    cases d <;> simp only [boolsD, Option.map_eq_some_iff] at h <;> first
      | (obtain ⟨ms, e, rfl⟩ := h; rw [bools_of e]; rfl)
      | cases h
theorem Reps.intsV : ∀ {ns : List Int} {vs : List V}, Reps K dr H B vs (ns.map PyData.int) → vs = ns.map V.int
  | [], _, h => by cases h; rfl
  | n :: ns, _, h => by
    cases h with
    | cons r rs => cases r; rw [Reps.intsV rs]; rfl
theorem Reps.boolsV : ∀ {ns : List Bool} {vs : List V}, Reps K dr H B vs (ns.map PyData.bool) → vs = ns.map V.bl
  | [], _, h => by cases h; rfl
  | n :: ns, _, h => by
    cases h with
    | cons r rs => cases r; rw [Reps.boolsV rs]; rfl
def Bi.val : Bi → Value
  | .len => .builtin "len" | .tuple => .type "tuple" | .list => .type "list" | .sorted => .builtin "sorted" | .all => .builtin "all" | .any => .builtin "any" | .sum => .builtin "sum"
  | .min => .builtin "min" | .max => .builtin "max" | .abs => .builtin "abs" | .int => .type "int"
def rBi (K : PySem.W.Frag) (dr : Dr) (b : Bi) : List V → Hp → VK → Prop := fun vs H Q => ∃ B ds d, NB H B ∧ RepsT K dr H B vs ds ∧ biD b ds = some d ∧ Fin1 K dr H B d Q
theorem alikeL_of {xs : List D} (h : alikeL xs = true) : ∀ x ∈ xs, ∀ y ∈ xs, PySem.W.alike x y = true := fun x hx y hy => by
  unfold alikeL at h
  exact List.all_eq_true.mp (List.all_eq_true.mp h x hx) y hy
theorem sortable_of {xs : List D} (h : sortable xs = true) : PySem.W.Sortable xs := by
  unfold sortable at h
  rcases Bool.or_eq_true_iff.mp h with h | h
  · refine .inl fun d hd => ?_
    have := List.all_eq_true.mp h d hd
    cases d with
    | tuple ys => cases ys with
      | nil => cases this
      | cons x r => exact ⟨x, r, rfl⟩
    | _ => cases this
  · refine .inr fun d hd => ?_
    have := List.all_eq_true.mp h d hd
    cases d <;> first | (cases this; done) | exact ⟨(by intro e; cases e), (by intro ys e; cases e)⟩
theorem okAll {xs : List D} (h : xs.all (okN deep) = true) : PyData.plainAll xs = true ∧ PyData.depthAll xs ≤ 40 := okN_plainAll 40 xs h
theorem reads_each {X : Cx} {pins : List (Addr × Obj)} {σ : L2.St} {s : Shared} (I : Inv X pins σ H s) : ∀ {ps : List (V × D)} {us : List Value}, (∀ p ∈ ps, Rep X.K dr H B p.1 p.2) → (∀ p ∈ ps, okN deep p.2 = true) → Vals (ps.map Prod.fst) us →
    PySem.W.EachIs (fun v (b : V × D) => RelV b.1 v ∧ b ∈ ps) us ps ∧ PySem.W.EachIs (fun v (b : V × D) => ∃ as, Reads s.heap v b.2 as) us ps := by
  have main : ∀ (qs ps : List (V × D)) (us : List Value), (∀ p ∈ ps, p ∈ qs) → (∀ p ∈ ps, Rep X.K dr H B p.1 p.2) → (∀ p ∈ ps, okN deep p.2 = true) → Vals (ps.map Prod.fst) us →
      PySem.W.EachIs (fun v (b : V × D) => RelV b.1 v ∧ b ∈ qs) us ps ∧ PySem.W.EachIs (fun v (b : V × D) => ∃ as, Reads s.heap v b.2 as) us ps := by
    intro qs ps
    induction ps with
    | nil => intro us _ _ _ h; cases h; exact ⟨.nil, .nil⟩
    | cons p ps ih =>
      intro us hm hr ho h
      cases h with
      | cons r rs =>
        obtain ⟨a, b⟩ := ih _ (fun q m => hm q (List.mem_cons_of_mem _ m)) (fun q m => hr q (List.mem_cons_of_mem _ m)) (fun q m => ho q (List.mem_cons_of_mem _ m)) rs
        have hp := hr p List.mem_cons_self
        exact ⟨.cons ⟨r, hm p List.mem_cons_self⟩ a, .cons (Dp.reads I p.2 p.1 _ (Rep.dp p.2 p.1 hp (okN_plain _ _ (ho p List.mem_cons_self)).1) r) b⟩
  intro ps us hr ho h
  exact main ps ps us (fun _ m => m) hr ho h
theorem each_vals : ∀ {bs : List (V × D)} {out : List Value} {ps : List (V × D)}, PySem.W.EachIs (fun v (b : V × D) => RelV b.1 v ∧ b ∈ ps) out bs → Vals (bs.map Prod.fst) out
  | _, _, _, .nil => .nil
  | _, _, _, .cons h t => .cons h.1 (each_vals t)
theorem sort_snd (ps : List (V × D)) : (ps.mergeSort (PySem.W.dataLe false Prod.snd)).map Prod.snd = sortD (ps.map Prod.snd) := by
  unfold sortD
  exact List.map_mergeSort fun a _ b _ => rfl
theorem leastD_eq (m : D) : ∀ xs : List D, PySem.W.minD m xs = leastD m xs
  | [] => rfl
  | x :: xs => by
    show PySem.W.minD (if PySem.W.dataLt x m then x else m) xs = _
    rw [leastD_eq _ xs]
    rfl
theorem mostD_eq (m : D) : ∀ xs : List D, PySem.W.maxD m xs = mostD m xs
  | [] => rfl
  | x :: xs => by
    show PySem.W.maxD (if PySem.W.dataLt m x then x else m) xs = _
    rw [mostD_eq _ xs]
    rfl
theorem orderable_of {xs : List D} (h : orderable xs = true) : PySem.W.AlikeAll xs ∧ PyData.plainAll xs = true ∧ PyData.depthAll xs ≤ 40 ∧ ∀ d ∈ xs, ∀ es, d ≠ .list es := by
  unfold orderable at h
  simp only [Bool.and_eq_true] at h
  obtain ⟨⟨h1, h2⟩, h3⟩ := h
  refine ⟨⟨alikeL_of h1, fun x hx e => ?_⟩, (okAll h2).1, (okAll h2).2, fun x hx es e => ?_⟩ <;>
  · have := List.all_eq_true.mp h3 x hx
    subst e
    cases this

theorem plain_mem : ∀ {xs : List D} {d : D}, PyData.plainAll xs = true → d ∈ xs → d.plain = true
  | x :: xs, d, h, m => by
    have h' : x.plain = true ∧ PyData.plainAll xs = true := by simpa [PyData.plainAll] using h
    rcases List.mem_cons.mp m with rfl | m
    · exact h'.1
    · exact plain_mem h'.2 m
theorem sort_sndR (ps : List (V × D)) : (ps.mergeSort (PySem.W.dataLe true Prod.snd)).map Prod.snd = (ps.map Prod.snd).mergeSort (PySem.W.dataLe true id) := List.map_mergeSort fun a _ b _ => rfl
def rSrev (K : PySem.W.Frag) (dr : Dr) : List V → List V → Hp → VK → Prop := fun vs zs H Q => zs = [.bl true] ∧ ∃ B x y d, vs = [x] ∧ NB H B ∧ RepT K dr H B x y ∧ srevD y = some d ∧ Fin1 K dr H B d Q
theorem call_srev (hr : X.A.units + 200 < cLine) : CallRK X (.builtin "sorted") [Str.ofString "reverse"] (rSrev X.K dr) := by
  intro pins s σ H xs zs us ws Q I r rz h
  obtain ⟨rfl, B, x, y, d, rfl, nb, q, hd, f⟩ := h
  obtain ⟨w1, rfl, e1⟩ : ∃ w, ws = [w] ∧ RelV (.bl true) w := by
    cases rz with
    | cons p n =>
      cases n
      exact ⟨_, rfl, p⟩
  obtain rfl : w1 = Value.bool true := e1
  show wpAny (model X.prog X.w) X.A (call (.builtin "sorted") us [(Str.ofString "reverse", .bool true)]) (EP X pins σ Q) X.xe s
  unfold srevD at hd
  split at hd
  · obtain ⟨hz, rfl⟩ := ite_some hd
    simp only [Bool.and_eq_true] at hz
    obtain ⟨⟨h1, h2⟩, h3⟩ := hz
    obtain ⟨a, vs, rfl, e, q⟩ := q.list
    obtain ⟨ps, rfl, rfl, q'⟩ := q.zip
    obtain ⟨its, rv, hl, hlen⟩ := I.list (SqL.of e)
    rw [Vals.ref1 r]
    have ho : ∀ p ∈ ps, okN deep p.2 = true := fun p m => List.all_eq_true.mp h3 p.2 (List.mem_map_of_mem m)
    obtain ⟨e1, e2⟩ := reads_each I q' ho rv
    have hdd := okAll h3
    refine PySem.W.sorted_rev_data (b := true) (enc := Prod.snd) hl.isList e1 e2 (fun d hd d' hd' => alikeL_of h1 d hd d' hd') (sortable_of h2) (by rw [← List.length_map (f := Prod.fst)]; exact hlen) (fun p m => ?_) fun out hol eo => ?_
    · have := (okN_plain _ _ (ho p m)).2
      have hdeep : deep = 40 := rfl
      omega
    · obtain ⟨ep, he'⟩ := PyProof.Rows.sortedAll_at s.heap its out.toArray
      have hp : (ps.mergeSort (PySem.W.dataLe true Prod.snd)).Perm ps := List.mergeSort_perm _ _
      have hv := each_vals eo
      have hlen2 : ((ps.mergeSort (PySem.W.dataLe true Prod.snd)).map Prod.fst).length ≤ sizeLine := by
        rw [List.length_map, hp.length_eq]
        rw [List.length_map] at hlen
        exact hlen
      have hq : Reps X.K dr H B ((ps.mergeSort (PySem.W.dataLe true Prod.snd)).map Prod.fst) ((ps.mergeSort (PySem.W.dataLe true Prod.snd)).map Prod.snd) := Reps.of_zip fun p m => q' p (hp.mem_iff.mp m)
      rw [sort_sndR] at hq
      exact ⟨.ref _, upd H (s.heap.objs.size + 1) _, I.laid (t' := s.toks) (fun _ _ => PyProof.Rows.sortedAll_old) (Nat.le_succ _) (show ObjOk X.prog X.w _ _ _ (.lst _) from ⟨hlen2, out, ep, hv, by simpa using he'⟩), rfl, f.newL nb (I.hok.fresh (Nat.le_succ _)) hq⟩
  · obtain ⟨hz, rfl⟩ := ite_some hd
    simp only [Bool.and_eq_true] at hz
    obtain ⟨⟨h1, h2⟩, h3⟩ := hz
    obtain ⟨a, vs, rfl, e, q⟩ := q.tuple
    obtain ⟨ps, rfl, rfl, q'⟩ := q.zip
    obtain ⟨its, rv, hl, hlen⟩ := I.tuple e
    rw [Vals.ref1 r]
    have ho : ∀ p ∈ ps, okN deep p.2 = true := fun p m => List.all_eq_true.mp h3 p.2 (List.mem_map_of_mem m)
    obtain ⟨e1, e2⟩ := reads_each I q' ho rv
    have hdd := okAll h3
    refine sortTR_data (z := true) (enc := Prod.snd) hl e1 e2 (fun d hd d' hd' => alikeL_of h1 d hd d' hd') (sortable_of h2) (by rw [← List.length_map (f := Prod.fst)]; exact hlen) (fun p m => ?_) fun out hol eo => ?_
    · have := (okN_plain _ _ (ho p m)).2
      have hdeep : deep = 40 := rfl
      omega
    · obtain ⟨ep, he'⟩ := PyProof.Rows.sortedAll_at s.heap its out.toArray
      have hp : (ps.mergeSort (PySem.W.dataLe true Prod.snd)).Perm ps := List.mergeSort_perm _ _
      have hv := each_vals eo
      have hlen2 : ((ps.mergeSort (PySem.W.dataLe true Prod.snd)).map Prod.fst).length ≤ sizeLine := by
        rw [List.length_map, hp.length_eq]
        rw [List.length_map] at hlen
        exact hlen
      have hq : Reps X.K dr H B ((ps.mergeSort (PySem.W.dataLe true Prod.snd)).map Prod.fst) ((ps.mergeSort (PySem.W.dataLe true Prod.snd)).map Prod.snd) := Reps.of_zip fun p m => q' p (hp.mem_iff.mp m)
      rw [sort_sndR] at hq
      exact ⟨.ref _, upd H (s.heap.objs.size + 1) _, I.laid (t' := s.toks) (fun _ _ => PyProof.Rows.sortedAll_old) (Nat.le_succ _) (show ObjOk X.prog X.w _ _ _ (.lst _) from ⟨hlen2, out, ep, hv, by simpa using he'⟩), rfl, f.newL nb (I.hok.fresh (Nat.le_succ _)) hq⟩
  · cases hd
theorem keys_es {kvs : List (Key × V)} {es : List (D × D)} (r : RepK K dr H B kvs es) : es.map (·.1) = kvs.map fun kv => keyD kv.1 := by
  induction es generalizing kvs with
  | nil => cases r; rfl
  | cons p es ih =>
    cases r with
    | cons r1 r2 => rw [List.map_cons, List.map_cons, ih r2]
theorem keys_ints : ∀ {kvs : List (Key × V)} {ns : List Int}, intsD (kvs.map fun kv => keyD kv.1) = some ns → kvs.map (·.1) = ns.map Sum.inl
  | [], ns, h => by cases h; rfl
  | (.inl i, v) :: kvs, ns, h => by
    have h : (intsD (kvs.map fun kv => keyD kv.1)).map (i :: ·) = some ns := h
    obtain ⟨us, h2, rfl⟩ := Option.map_eq_some_iff.mp h
    rw [List.map_cons, keys_ints h2]
    rfl
  | (.inr x, v) :: kvs, ns, h => by cases h
theorem keys_strs : ∀ {kvs : List (Key × V)} {xs : List Str}, strsD (kvs.map fun kv => keyD kv.1) = some xs → kvs.map (·.1) = xs.map Sum.inr
  | [], ns, h => by cases h; rfl
  | (.inr x, v) :: kvs, ns, h => by
    have h : (strsD (kvs.map fun kv => keyD kv.1)).map (x :: ·) = some ns := h
    obtain ⟨us, h2, rfl⟩ := Option.map_eq_some_iff.mp h
    rw [List.map_cons, keys_strs h2]
    rfl
  | (.inl x, v) :: kvs, ns, h => by cases h
theorem strs_of : ∀ {ds : List D} {ns : List Str}, strsD ds = some ns → ds = ns.map PyData.str
  | [], ns, h => by cases h; rfl
  | d :: ds, ns, h => by
    cases d <;> simp only [strsD, Option.map_eq_some_iff] at h <;> first
      | (obtain ⟨ms, e, rfl⟩ := h; rw [strs_of e]; rfl)
      | cases h
theorem sortD_m {α : Type} (e : α → D) (xs : List α) : sortD (xs.map e) = (xs.mergeSort fun a b => PySem.W.dataLe false e a b).map e := (PySem.W.sort_maps e fun _ _ _ _ => rfl).symm
theorem rising_pw : ∀ {p : Str} {l : List Str}, PyProof.Rows.risingS p l = true → (p :: l).Pairwise fun a b => ¬ b.cps.toList < a.cps.toList
  | p, [], _ => by simp
  | p, x :: l, h => by
    have h : (!ltCps x.cps.toList p.cps.toList && PyProof.Rows.risingS x l) = true := h
    rw [Bool.and_eq_true, Bool.not_eq_true', ltCps_eq, decide_eq_false_iff_not] at h
    have ih := rising_pw h.2
    refine List.pairwise_cons.mpr ⟨fun y hy => ?_, ih⟩
    rcases List.mem_cons.mp hy with rfl | hy
    · exact h.1
    · have := (List.pairwise_cons.mp ih).1 y hy
      exact fun z => (List.not_lt.mp this |> fun q => h.1 (List.lt_of_le_of_lt q z))
theorem sorted_pw {l : List Str} (h : PyProof.Rows.sortedS l = true) : l.Pairwise fun a b => ¬ b.cps.toList < a.cps.toList := by
  cases l with
  | nil => exact .nil
  | cons x l => exact rising_pw h
theorem sk_ints {ns ys : List Int} (hp : ys.Perm ns) (hs : ys.Pairwise (· ≤ ·)) : sortD (ns.map PyData.int) = ys.map .int := by
  rw [sortD_m]
  congr 1
  refine List.Perm.eq_of_pairwise (le := fun a b : Int => a ≤ b) (fun a b _ _ h1 h2 => by omega) ?_ hs ((List.mergeSort_perm _ _).trans hp.symm)
  refine (PySem.W.sort_pairwise (PySem.W.sortLe_total (PyProof.Rows.listOrd PyProof.Rows.itemOrd) false fun b => PySem.W.keyToks (PyData.int b)) ns).imp fun {a b} h => ?_
  have h : (!PySem.W.dataLt (.int b) (.int a)) = true := h
  rw [PySem.W.dataLt_int, Bool.not_eq_true', decide_eq_false_iff_not] at h
  omega
theorem sk_strs {ns ys : List Str} (hp : ys.Perm ns) (hs : PyProof.Rows.sortedS ys = true) : sortD (ns.map PyData.str) = ys.map .str := by
  rw [sortD_m]
  congr 1
  refine List.Perm.eq_of_pairwise (le := fun a b : Str => ¬ b.cps.toList < a.cps.toList) (fun a b _ _ h1 h2 => ?_) ?_ (sorted_pw hs) ((List.mergeSort_perm _ _).trans hp.symm)
  · have : a.cps.toList = b.cps.toList := List.le_antisymm (List.not_lt.mp h1) (List.not_lt.mp h2)
    cases a
    cases b
    simp only at this
    rw [Array.toList_inj.mp this]
  refine (PySem.W.sort_pairwise (PySem.W.sortLe_total (PyProof.Rows.listOrd PyProof.Rows.itemOrd) false fun b => PySem.W.keyToks (PyData.str b)) ns).imp fun {a b} h => ?_
  have h : (!PySem.W.dataLt (.str b) (.str a)) = true := h
  rw [PySem.W.dataLt_str, Bool.not_eq_true', decide_eq_false_iff_not] at h
  exact h
theorem reps_i {K : PySem.W.Frag} {dr : Dr} {H : Hp} {B : Addr → Prop} : ∀ ns : List Int, Reps K dr H B (ns.map V.int) (ns.map PyData.int)
  | [] => .nil
  | n :: ns => .cons (.int n) (reps_i ns)
theorem reps_s {K : PySem.W.Frag} {dr : Dr} {H : Hp} {B : Addr → Prop} : ∀ ns : List Str, Reps K dr H B (ns.map V.str) (ns.map PyData.str)
  | [] => .nil
  | n :: ns => .cons (.str n) (reps_s ns)
theorem rep_key (k : Key) : Rep K dr H B (kV k) (keyD k) := by
  cases k with
  | inl i => exact .int i
  | inr x => exact .str x
theorem reps_key : ∀ (ks : List Key), Reps K dr H B (ks.map kV) (ks.map keyD)
  | [] => .nil
  | k :: ks => .cons (rep_key k) (reps_key ks)
theorem tup_at {a : Addr} {k : List Key} (m : Mode.tm = false) (h : H a = some (.tup (k.map kV))) : TupAt H a (k.map kV) := by
  unfold TupAt
  rw [lock_key m, if_neg Bool.false_ne_true]
  exact h
theorem reps_keysT (m : Mode.tm = false) : ∀ {kvs : List (List Key × V)} {es : List (D × D)} {bs : List Addr}, RepU K dr H B kvs es → IsKeys H kvs bs → Reps K dr H B (bs.map V.ref) (es.map (·.1))
  | [], _, _, r, p => by
    unfold IsKeys at p
    cases p
    cases r
    exact .nil
  | _ :: _, _, _, r, p => by
    unfold IsKeys at p
    cases p with
    | cons p1 p2 =>
      cases r with
      | cons r1 rs => exact .cons (.tup (tup_at m p1) (reps_key _)) (reps_keysT m rs p2)
section
variable {P : Program} {w : World} {A : Around} {E : Value → Shared → Prop} {s : Shared}
variable {β : Type} {bs : List β} {enc : β → D} {R : Value → β → Prop} {vs : List Value}
open PySem.W PySem.Calls in
theorem sort_new {h' : Heap} {tk : Nat} {Q : Value → Shared → Prop} (e : EachIs R vs bs) (er : EachIs (fun v b => ∃ as, Reads h' v (enc b) as) vs bs) (hal : AllAlike (bs.map enc)) (hk : Sortable (bs.map enc)) (hL : bs.length ≤ sizeLine)
    (hu : ∀ b, b ∈ bs → A.units + 1 + (enc b).depth < cLine)
    (h : ∀ out, out.length = bs.length → EachIs R out (bs.mergeSort (dataLe false enc)) → Q .none { s with heap := sortedHeap (h'.push { cls := .type "list", data := .seq vs.toArray }) h'.objs.size vs (List.toArray out), toks := tk }) :
    wpAny (model P w) A (call (.builtin "list.sort") [.ref h'.objs.size]) Q E { s with heap := h'.push { cls := .type "list", data := .seq vs.toArray }, toks := tk } := by
  have ho : (h'.push { cls := .type "list", data := .seq vs.toArray }).get? h'.objs.size = some (seqObj "list" vs.toArray 0) := Heap.get?_push_size _ rfl
  generalize hh2 : h'.push { cls := .type "list", data := .seq vs.toArray } = h2 at ho h ⊢
  have er' : EachIs (fun v b => ∃ as, Reads (sortingHeap h2 h'.objs.size vs) v (enc b) as) vs bs := er.mono fun _ _ ⟨as, r⟩ => ⟨as, PyProof.Rows.Reads.keeps (fun b o q => sortingHeap_old (Nat.ne_of_lt (Heap.lt_size q)) (by rw [← hh2]; exact Heap.get?_push_of_some _ q)) r⟩
  refine wpAny_call_entry slot_list_sort ⟨_, ho, rfl⟩ entry_list_sort (list_sort_vals (s := { s with heap := h2, toks := tk }) (κ := dataKind (sortingHeap h2 h'.objs.size vs) (bs.map enc)) ho (SortsAt.data (s := { s with heap := sortingHeap h2 h'.objs.size vs, toks := tk }) (each_map (R := fun v d => ∃ as, Reads (sortingHeap h2 h'.objs.size vs) v d as) enc er') hal hk (bound_map hu)) (by rw [e.length]; exact hL) ⟨.none, rfl, ?_⟩) (args_list_sort _)
  exact h _ (by rw [sortVals_length false rfl]; exact e.length) (sortVals_data false e er' hal)
end
/-- sorted(d), d a dict with tuple keys -/
theorem call_sortedT (hcalm : X.calm = true) (hr : X.A.units + 200 < cLine) : CallR X (.builtin "sorted") (fun xs H Q => ∃ (B : Addr → Prop) (a : Addr) (kvs : List (List Key × V)) (es : List (D × D)), xs = [.ref a] ∧ NB H B ∧ Mode.tm = false ∧ Rd H a (.dT kvs) ∧ RepU X.K dr H B kvs es ∧
    (alikeL (es.map (·.1)) && sortable (es.map (·.1)) && (es.map (·.1)).all (okN deep)) = true ∧ Fin1 X.K dr H B (.list (sortD (es.map (·.1)))) Q) := by
  intro pins s σ H xs us Q I r q
  obtain ⟨B, a, kvs, es, ex, nb, tm, hd, rk, hz, f⟩ := q
  subst ex
  obtain ⟨u, eu, rx⟩ := vals1 r
  subst eu
  cases rx
  obtain ⟨z, hs, ks, pr, o, ens, ep, ho, hx, hdt, he, hn⟩ := (show ObjOk X.prog X.w H s.heap a (.dT kvs) from hd.ok I.hok)
  have l1 : ens.size = ks.length := size_of_entries he
  have l2 : kvs.length = ks.length := Paired.length pr
  simp only [Bool.and_eq_true] at hz
  obtain ⟨⟨h1, h2⟩, h3⟩ := hz
  refine Calls.call_function_entry PyProof.Rows.kind_sorted PyProof.Rows.plain_sorted PyProof.Rows.entry_sorted (PyProof.Rows.args_sorted1 _) ?_
  unfold Builtin.«sorted»
  refine wpAny_bind (m := checkCount "sorted" 1 1 _) (wpAny_pure ?_)
  refine wpAny_bind (PySem.W.kdu_collect (A := X.A.in1) (kdl_raw hs hx hdt) (I.ok.hd hcalm) ho (by omega) fun h' tk acc hk it => ?_)
  have ea : acc.toList = ks.map fun x => Value.ref x.2.1 := by
    have hl : acc.toList.length = ks.length := by rw [Array.length_toList, it.1]; exact l1
    apply List.ext_getElem?
    intro j
    rw [List.getElem?_map]
    cases hj : acc.toList[j]? with
    | none =>
      have h1 := List.getElem?_eq_none_iff.mp hj
      rw [List.getElem?_eq_none (by omega)]
      all_goals rfl
    | some v =>
      obtain ⟨en, hen, hv⟩ := it.2 j v (by rw [← Array.getElem?_toList]; exact hj)
      have qe := entry_at he j
      rw [hen] at qe
      cases hb : ks[j]? with
      | none =>
        rw [hb] at qe
        exact nomatch (show some en = none from qe)
      | some b =>
        rw [hb] at qe
        have e2 : en = entryOfKey (tupleKind (mixKind X.prog X.w)) b := Option.some.inj qe
        rw [hv, e2]
        all_goals rfl
  have eb : acc.toList = (ks.map fun x => x.2.1).map Value.ref := by rw [ea, List.map_map]; all_goals rfl
  have I1 : Inv X pins σ H { s with heap := h', toks := tk } := I.kept hk
  have qr : Reps X.K dr H B ((ks.map fun x => x.2.1).map V.ref) (es.map (·.1)) := reps_keysT tm rk (isKeys_of pr)
  rw [eb]
  have hbl : (ks.map fun x => x.2.1).length = ks.length := List.length_map _
  generalize (ks.map fun x => x.2.1) = bs at *
  obtain ⟨ps, e1, e2, q'⟩ := qr.zip
  have hoo : ∀ p ∈ ps, okN deep p.2 = true := fun p m => List.all_eq_true.mp h3 p.2 (by rw [e2]; exact List.mem_map_of_mem m)
  obtain ⟨g1, g2⟩ := reads_each I1 (us := bs.map Value.ref) q' hoo (by rw [← e1]; exact vals_refs bs)
  have pl : ps.length = bs.length := by
    have := congrArg List.length e1
    simpa using this.symm
  rw [e2] at h1 h2 f
  refine wpAny_bind (wpAny_newList ?_ (by rw [List.length_map]; omega))
  refine wpAny_bind (wpAny_holding (wpAny_mono (sort_new (enc := Prod.snd) (Q := fun _ s' => EP X pins σ Q (.ref h'.objs.size) s') g1 g2 (fun d hd d' hd' => alikeL_of h1 d hd d' hd') (sortable_of h2) (by omega) (fun p m => ?_) fun out hol eo => ?_) (fun _ s' x => wpAny_pure ⟨_, rfl, x⟩) fun _ _ e => e))
  · have := (okN_plain _ _ (hoo p m)).2
    have hdeep : deep = 40 := rfl
    show X.A.units + 1 + 1 + _ < _
    omega
  · have hp : (ps.mergeSort (PySem.W.dataLe false Prod.snd)).Perm ps := List.mergeSort_perm _ _
    have hv := each_vals eo
    have hlen2 : ((ps.mergeSort (PySem.W.dataLe false Prod.snd)).map Prod.fst).length ≤ sizeLine := by
      rw [List.length_map, hp.length_eq]
      omega
    have hq : Reps X.K dr H B ((ps.mergeSort (PySem.W.dataLe false Prod.snd)).map Prod.fst) ((ps.mergeSort (PySem.W.dataLe false Prod.snd)).map Prod.snd) := Reps.of_zip fun p m => q' p (hp.mem_iff.mp m)
    rw [sort_snd] at hq
    have hob : (h'.push { cls := .type "list", data := .seq (bs.map Value.ref).toArray }).get? h'.objs.size = some (seqObj "list" (bs.map Value.ref).toArray 0) := Heap.get?_push_size _ rfl
    obtain ⟨eF, heF⟩ := PyProof.Rows.sortedHeap_at (vs := bs.map Value.ref) (out := List.toArray out) hob
    have hn0 : H h'.objs.size = none := I1.hok.fresh (Nat.le_refl _)
    refine ⟨.ref h'.objs.size, _, I1.laid (t' := tk) (fun b u e => ?_) (Nat.le_refl _) (show ObjOk X.prog X.w _ _ _ (.lst _) from ⟨hlen2, out, eF, hv, by simpa using heF⟩), rfl, f.newL nb hn0 hq⟩
    exact (PyProof.Rows.sortedHeap_old (Nat.ne_of_lt (Heap.lt_size e)) (Heap.lt_size (Heap.get?_push_of_some _ e))).trans (Heap.get?_push_of_some _ e)
theorem call_bi {b : Bi} (hc : X.calm = true) (hr : X.A.units + 200 < cLine) : CallR X b.val (rBi X.K dr b) := by
  intro pins s σ H xs us Q I r h
  obtain ⟨B, ds, d, nb, rt, hd, f⟩ := h
  have hcap := cap_eq
  have hh := I.ok.hd hc
  unfold biD at hd
  split at hd
  · cases hd
    obtain ⟨v, rfl, q⟩ := rt.one
    obtain ⟨a, vs, rfl, e, q⟩ := q.list
    refine call_len_seq pins s σ H _ us Q I r ⟨a, vs, rfl, .inl (SqL.of e), ?_⟩
    rw [q.length]
    exact f.plain (.int _) (by intro _ e; cases e)
  · cases hd
    obtain ⟨v, rfl, q⟩ := rt.one
    obtain ⟨a, vs, rfl, e, q⟩ := q.tuple
    refine call_len_seq pins s σ H _ us Q I r ⟨a, vs, rfl, .inr e, ?_⟩
    rw [q.length]
    exact f.plain (.int _) (by intro _ e; cases e)
  · cases hd
    obtain ⟨v, rfl, q⟩ := rt.one
    rcases q.dict with ⟨_, z⟩ | ⟨a, u, rfl, hu, c⟩
    · cases z
    cases c with
    | k c =>
      have e : us = [Value.ref a] := by
        cases r with
        | cons r1 r2 => cases r2; rw [show _ = Value.ref a from r1]
      subst e
      refine d_len I hu fun t s' I' => ⟨.int _, H, I', ⟨t, rfl⟩, ?_⟩
      rw [c.length]
      exact f.plain (.int _) (by intro _ e; cases e)
  · obtain ⟨hz, rfl⟩ := ite_some hd
    obtain ⟨v, rfl, q⟩ := rt.one
    obtain rfl := q.str
    exact call_len_str pins s σ H _ us Q I r ⟨_, rfl, by rw [← hcap]; exact hz, f.plain (.int _) (by intro _ e; cases e)⟩
  · cases hd
    obtain ⟨v, rfl, q⟩ := rt.one
    obtain ⟨a, vs, rfl, e, q⟩ := q.list
    exact call_tupleM pins s σ H _ us Q I r ⟨a, vs, rfl, .inl ⟨SqL.of e, f.newT q⟩⟩
  · cases hd
    obtain ⟨v, rfl, q⟩ := rt.one
    obtain ⟨a, vs, rfl, e, q⟩ := q.tupleH
    exact call_tupleM pins s σ H _ us Q I r ⟨a, vs, rfl, .inr ⟨e.sqT, f.plain (.tup e q) (by intro _ e; cases e)⟩⟩
  · cases hd
    obtain ⟨v, rfl, q⟩ := rt.one
    obtain ⟨a, vs, rfl, e, q⟩ := q.list
    exact call_list_of pins s σ H _ us Q I r ⟨a, vs, rfl, .inl (SqL.of e), fun p hp => f.newL nb hp q⟩
  · cases hd
    obtain ⟨v, rfl, q⟩ := rt.one
    obtain ⟨a, vs, rfl, e, q⟩ := q.tuple
    exact call_list_of pins s σ H _ us Q I r ⟨a, vs, rfl, .inr e, fun p hp => f.newL nb hp q⟩
  · obtain ⟨hz, rfl⟩ := ite_some hd
    simp only [Bool.and_eq_true] at hz
    obtain ⟨⟨h1, h2⟩, h3⟩ := hz
    obtain ⟨v, rfl, q⟩ := rt.one
    obtain ⟨a, vs, rfl, e, q⟩ := q.list
    obtain ⟨ps, rfl, rfl, q'⟩ := q.zip
    obtain ⟨its, rv, hl, hlen⟩ := I.list (SqL.of e)
    rw [Vals.ref1 r]
    have ho : ∀ p ∈ ps, okN deep p.2 = true := fun p m => List.all_eq_true.mp h3 p.2 (List.mem_map_of_mem m)
    obtain ⟨e1, e2⟩ := reads_each I q' ho rv
    have hdd := okAll h3
    refine PySem.W.sorted_data (enc := Prod.snd) hl.isList e1 e2 (fun d hd d' hd' => alikeL_of h1 d hd d' hd') (sortable_of h2) (by rw [← List.length_map (f := Prod.fst)]; exact hlen) (fun p m => ?_) fun out hol eo => ?_
    · have := (okN_plain _ _ (ho p m)).2
      have hdeep : deep = 40 := rfl
      omega
    · obtain ⟨ep, he'⟩ := PyProof.Rows.sortedAll_at s.heap its out.toArray
      have hp : (ps.mergeSort (PySem.W.dataLe false Prod.snd)).Perm ps := List.mergeSort_perm _ _
      have hv := each_vals eo
      have hlen2 : ((ps.mergeSort (PySem.W.dataLe false Prod.snd)).map Prod.fst).length ≤ sizeLine := by
        rw [List.length_map, hp.length_eq]
        rw [List.length_map] at hlen
        exact hlen
      have hq : Reps X.K dr H B ((ps.mergeSort (PySem.W.dataLe false Prod.snd)).map Prod.fst) ((ps.mergeSort (PySem.W.dataLe false Prod.snd)).map Prod.snd) := Reps.of_zip fun p m => q' p (hp.mem_iff.mp m)
      rw [sort_snd] at hq
      exact ⟨.ref _, upd H (s.heap.objs.size + 1) _, I.laid (t' := s.toks) (fun _ _ => PyProof.Rows.sortedAll_old) (Nat.le_succ _) (show ObjOk X.prog X.w _ _ _ (.lst _) from ⟨hlen2, out, ep, hv, by simpa using he'⟩), rfl, f.newL nb (I.hok.fresh (Nat.le_succ _)) hq⟩
  · obtain ⟨hz, rfl⟩ := ite_some hd
    simp only [Bool.and_eq_true] at hz
    obtain ⟨⟨h1, h2⟩, h3⟩ := hz
    obtain ⟨v, rfl, q⟩ := rt.one
    obtain ⟨a, vs, rfl, e, q⟩ := q.tuple
    obtain ⟨ps, rfl, rfl, q'⟩ := q.zip
    obtain ⟨its, rv, hl, hlen⟩ := I.tuple e
    rw [Vals.ref1 r]
    have ho : ∀ p ∈ ps, okN deep p.2 = true := fun p m => List.all_eq_true.mp h3 p.2 (List.mem_map_of_mem m)
    obtain ⟨e1, e2⟩ := reads_each I q' ho rv
    have hdd := okAll h3
    refine sortT_data (enc := Prod.snd) hl e1 e2 (fun d hd d' hd' => alikeL_of h1 d hd d' hd') (sortable_of h2) (by rw [← List.length_map (f := Prod.fst)]; exact hlen) (fun p m => ?_) fun out hol eo => ?_
    · have := (okN_plain _ _ (ho p m)).2
      have hdeep : deep = 40 := rfl
      omega
    · obtain ⟨ep, he'⟩ := PyProof.Rows.sortedAll_at s.heap its out.toArray
      have hp : (ps.mergeSort (PySem.W.dataLe false Prod.snd)).Perm ps := List.mergeSort_perm _ _
      have hv := each_vals eo
      have hlen2 : ((ps.mergeSort (PySem.W.dataLe false Prod.snd)).map Prod.fst).length ≤ sizeLine := by
        rw [List.length_map, hp.length_eq]
        rw [List.length_map] at hlen
        exact hlen
      have hq : Reps X.K dr H B ((ps.mergeSort (PySem.W.dataLe false Prod.snd)).map Prod.fst) ((ps.mergeSort (PySem.W.dataLe false Prod.snd)).map Prod.snd) := Reps.of_zip fun p m => q' p (hp.mem_iff.mp m)
      rw [sort_snd] at hq
      exact ⟨.ref _, upd H (s.heap.objs.size + 1) _, I.laid (t' := s.toks) (fun _ _ => PyProof.Rows.sortedAll_old) (Nat.le_succ _) (show ObjOk X.prog X.w _ _ _ (.lst _) from ⟨hlen2, out, ep, hv, by simpa using he'⟩), rfl, f.newL nb (I.hok.fresh (Nat.le_succ _)) hq⟩
  · obtain ⟨v, rfl, q⟩ := rt.one
    rcases q.dict with ⟨_, z⟩ | ⟨a, u, rfl, hu, c⟩
    · cases z
    cases c with
    | k c =>
      rw [keys_es c] at hd
      unfold skD at hd
      split at hd
      · rename_i ns hns
        obtain ⟨hz, rfl⟩ := ite_some hd
        rw [ints_of hns] at f
        refine call_sortedDI hc pins s σ H _ us Q I r ⟨a, _, ns, rfl, hu, keys_ints hns, hz, fun ys p hp hs hn => ?_⟩
        rw [sk_ints hp hs] at f
        exact f.newL nb hn (reps_i ys)
      · split at hd
        · rename_i xs hxs
          obtain ⟨hz, rfl⟩ := ite_some hd
          rw [strs_of hxs] at f
          refine call_sortedD hc pins s σ H _ us Q I r ⟨a, _, xs, rfl, hu, keys_strs hxs, hz, fun ys p hp hs hn => ?_⟩
          rw [sk_strs hp hs] at f
          exact f.newL nb hn (reps_s ys)
        · cases hd
  · obtain ⟨hz, rfl⟩ := ite_some hd
    obtain ⟨v, rfl, q⟩ := rt.one
    rcases q.dict with ⟨_, z⟩ | ⟨a, u, rfl, hu, c⟩
    · cases z
    cases c with
    | t m c => exact call_sortedT (dr := dr) hc hr pins s σ H _ us Q I r ⟨B, a, _, _, rfl, nb, m, hu, c, hz, f⟩
  · obtain ⟨bs, hb, rfl⟩ := Option.map_eq_some_iff.mp hd
    obtain rfl := bools_of hb
    obtain ⟨v, rfl, q⟩ := rt.one
    obtain ⟨a, vs, rfl, e, q⟩ := q.list
    obtain rfl := q.boolsV
    exact cr_all hc pins s σ H _ us Q I r ⟨a, bs, rfl, SqL.of e, f.plain (.bl _) (by intro _ e; cases e)⟩
  · obtain ⟨bs, hb, rfl⟩ := Option.map_eq_some_iff.mp hd
    obtain rfl := bools_of hb
    obtain ⟨v, rfl, q⟩ := rt.one
    obtain ⟨a, vs, rfl, e, q⟩ := q.list
    obtain rfl := q.boolsV
    exact cr_any hc pins s σ H _ us Q I r ⟨a, bs, rfl, SqL.of e, f.plain (.bl _) (by intro _ e; cases e)⟩
  · obtain ⟨bs, hb, rfl⟩ := Option.map_eq_some_iff.mp hd
    obtain rfl := ints_of hb
    obtain ⟨v, rfl, q⟩ := rt.one
    obtain ⟨a, vs, rfl, e, q⟩ := q.list
    obtain rfl := q.intsV
    exact cr_sum hc pins s σ H _ us Q I r ⟨a, bs, rfl, SqL.of e, f.plain (.int _) (by intro _ e; cases e)⟩
  · obtain ⟨bs, hb, rfl⟩ := Option.map_eq_some_iff.mp hd
    obtain rfl := ints_of hb
    obtain ⟨v, rfl, q⟩ := rt.one
    obtain ⟨a, vs, rfl, e, q⟩ := q.tuple
    obtain rfl := q.intsV
    obtain ⟨its, rv, hl, hlen⟩ := I.tuple e
    rw [Vals.ref1 r]
    exact sumT_raw hh hl rv.ints fun h' tk t' hk => ⟨.int _, H, I.kept hk, ⟨_, rfl⟩, f.plain (.int _) (by intro _ e; cases e)⟩
  · cases hd
    obtain ⟨v, w, rfl, q1, q2⟩ := rt.two
    obtain rfl := q1.int
    obtain rfl := q2.int
    exact call_min2 hc pins s σ H _ us Q I r ⟨_, _, rfl, f.plain (.int _) (by intro _ e; cases e)⟩
  · cases hd
    obtain ⟨v, w, rfl, q1, q2⟩ := rt.two
    obtain rfl := q1.int
    obtain rfl := q2.int
    exact call_max2 hc pins s σ H _ us Q I r ⟨_, _, rfl, f.plain (.int _) (by intro _ e; cases e)⟩
  · obtain ⟨hz, rfl⟩ := ite_some hd
    obtain ⟨v, rfl, q⟩ := rt.one
    obtain ⟨a, vs, rfl, e, q⟩ := q.list
    obtain ⟨its, rv, hl, hlen⟩ := I.list (SqL.of e)
    obtain ⟨h1, h2, h3, h4⟩ := orderable_of hz
    obtain ⟨as, hR⟩ := Dp.readsAll I _ _ its (Reps.dp _ _ q h2) rv
    rw [Vals.ref1 r]
    refine PySem.W.min_list_data hh hl.isList (by simpa using hR) h1 (by omega) fun i v h' tk bs hi hv kk => ?_
    have hi' : its[i]? = some v := by simpa using hi
    have hlt := (List.getElem?_eq_some_iff.mp hi').1
    have hli := rv.length
    obtain ⟨d', e3, r3⟩ := q.getV (i := i) (v := vs[i]'(by omega)) (List.getElem?_eq_getElem (by omega))
    obtain ⟨u2, e4, r4⟩ := rv.get (i := i) (x := vs[i]'(by omega)) (List.getElem?_eq_getElem (by omega))
    rw [hi'] at e4
    cases e4
    have I2 : Inv X pins σ H { s with heap := h', toks := tk } := I.kept kk
    have hmem : d' ∈ (_ :: _) := List.mem_of_getElem? e3
    obtain ⟨cs, hR2⟩ := Dp.reads I2 d' _ v (Rep.dp d' _ r3 (plain_mem h2 hmem)) r4
    rw [leastD_eq] at hv
    have ed : d' = leastD _ _ := PySem.SeqAt.plain_unique d' _ v _ _ (plain_mem h2 hmem) hR2 hv
    rw [← ed] at f
    exact ⟨_, H, I2, r4, f.plain r3 (fun es => ed ▸ h4 d' hmem es)⟩
  · obtain ⟨hz, rfl⟩ := ite_some hd
    obtain ⟨v, rfl, q⟩ := rt.one
    obtain ⟨a, vs, rfl, e, q⟩ := q.list
    obtain ⟨its, rv, hl, hlen⟩ := I.list (SqL.of e)
    obtain ⟨h1, h2, h3, h4⟩ := orderable_of hz
    obtain ⟨as, hR⟩ := Dp.readsAll I _ _ its (Reps.dp _ _ q h2) rv
    rw [Vals.ref1 r]
    refine PySem.W.max_list_data hh hl.isList (by simpa using hR) h1 (by omega) fun i v h' tk bs hi hv kk => ?_
    have hi' : its[i]? = some v := by simpa using hi
    have hlt := (List.getElem?_eq_some_iff.mp hi').1
    have hli := rv.length
    obtain ⟨d', e3, r3⟩ := q.getV (i := i) (v := vs[i]'(by omega)) (List.getElem?_eq_getElem (by omega))
    obtain ⟨u2, e4, r4⟩ := rv.get (i := i) (x := vs[i]'(by omega)) (List.getElem?_eq_getElem (by omega))
    rw [hi'] at e4
    cases e4
    have I2 : Inv X pins σ H { s with heap := h', toks := tk } := I.kept kk
    have hmem : d' ∈ (_ :: _) := List.mem_of_getElem? e3
    obtain ⟨cs, hR2⟩ := Dp.reads I2 d' _ v (Rep.dp d' _ r3 (plain_mem h2 hmem)) r4
    rw [mostD_eq] at hv
    have ed : d' = mostD _ _ := PySem.SeqAt.plain_unique d' _ v _ _ (plain_mem h2 hmem) hR2 hv
    rw [← ed] at f
    exact ⟨_, H, I2, r4, f.plain r3 (fun es => ed ▸ h4 d' hmem es)⟩
  · obtain ⟨hz, rfl⟩ := ite_some hd
    obtain ⟨v, rfl, q⟩ := rt.one
    obtain ⟨a, vs, rfl, e, q⟩ := q.tuple
    obtain ⟨its, rv, hl, hlen⟩ := I.tuple e
    obtain ⟨h1, h2, h3, h4⟩ := orderable_of hz
    obtain ⟨as, hR⟩ := Dp.readsAll I _ _ its (Reps.dp _ _ q h2) rv
    rw [Vals.ref1 r]
    refine PySem.W.min_tuple_data hh hl (by simpa using hR) h1 (by omega) fun i v h' tk bs hi hv kk => ?_
    have hi' : its[i]? = some v := by simpa using hi
    have hlt := (List.getElem?_eq_some_iff.mp hi').1
    have hli := rv.length
    obtain ⟨d', e3, r3⟩ := q.getV (i := i) (v := vs[i]'(by omega)) (List.getElem?_eq_getElem (by omega))
    obtain ⟨u2, e4, r4⟩ := rv.get (i := i) (x := vs[i]'(by omega)) (List.getElem?_eq_getElem (by omega))
    rw [hi'] at e4
    cases e4
    have I2 : Inv X pins σ H { s with heap := h', toks := tk } := I.kept kk
    have hmem : d' ∈ (_ :: _) := List.mem_of_getElem? e3
    obtain ⟨cs, hR2⟩ := Dp.reads I2 d' _ v (Rep.dp d' _ r3 (plain_mem h2 hmem)) r4
    rw [leastD_eq] at hv
    have ed : d' = leastD _ _ := PySem.SeqAt.plain_unique d' _ v _ _ (plain_mem h2 hmem) hR2 hv
    rw [← ed] at f
    exact ⟨_, H, I2, r4, f.plain r3 (fun es => ed ▸ h4 d' hmem es)⟩
  · obtain ⟨hz, rfl⟩ := ite_some hd
    obtain ⟨v, rfl, q⟩ := rt.one
    obtain ⟨a, vs, rfl, e, q⟩ := q.tuple
    obtain ⟨its, rv, hl, hlen⟩ := I.tuple e
    obtain ⟨h1, h2, h3, h4⟩ := orderable_of hz
    obtain ⟨as, hR⟩ := Dp.readsAll I _ _ its (Reps.dp _ _ q h2) rv
    rw [Vals.ref1 r]
    refine PySem.W.max_tuple_data hh hl (by simpa using hR) h1 (by omega) fun i v h' tk bs hi hv kk => ?_
    have hi' : its[i]? = some v := by simpa using hi
    have hlt := (List.getElem?_eq_some_iff.mp hi').1
    have hli := rv.length
    obtain ⟨d', e3, r3⟩ := q.getV (i := i) (v := vs[i]'(by omega)) (List.getElem?_eq_getElem (by omega))
    obtain ⟨u2, e4, r4⟩ := rv.get (i := i) (x := vs[i]'(by omega)) (List.getElem?_eq_getElem (by omega))
    rw [hi'] at e4
    cases e4
    have I2 : Inv X pins σ H { s with heap := h', toks := tk } := I.kept kk
    have hmem : d' ∈ (_ :: _) := List.mem_of_getElem? e3
    obtain ⟨cs, hR2⟩ := Dp.reads I2 d' _ v (Rep.dp d' _ r3 (plain_mem h2 hmem)) r4
    rw [mostD_eq] at hv
    have ed : d' = mostD _ _ := PySem.SeqAt.plain_unique d' _ v _ _ (plain_mem h2 hmem) hR2 hv
    rw [← ed] at f
    exact ⟨_, H, I2, r4, f.plain r3 (fun es => ed ▸ h4 d' hmem es)⟩
  · obtain ⟨hz, rfl⟩ := ite_some hd
    obtain ⟨v, w, rfl, q1, q2⟩ := rt.two
    obtain ⟨h1, h2, h3, h4⟩ := orderable_of hz
    have fr : ∀ {v : V} {d : D}, RepT X.K dr H B v d → d.plain = true → (∀ es, d ≠ .list es) → Rep X.K dr H B v d := fun {v d} q hp hl => by
      rcases q with q | ⟨a, vs, ds, _, e, _⟩ | ⟨a, u, ds, _, e, _⟩
      · exact q
      · exact absurd e (hl _)
      · subst e; cases hp
    have q : Reps X.K dr H B [v, w] [_, _] := .cons (fr q1 (plain_mem h2 List.mem_cons_self) (h4 _ List.mem_cons_self)) (.cons (fr q2 (plain_mem h2 (List.mem_cons_of_mem _ List.mem_cons_self)) (h4 _ (List.mem_cons_of_mem _ List.mem_cons_self))) .nil)
    obtain ⟨u1, u2, rfl, ru1, ru2⟩ := vals2 r
    have rv : Vals [v, w] [u1, u2] := r
    obtain ⟨as, hR⟩ := Dp.readsAll I _ _ [u1, u2] (Reps.dp _ _ q h2) rv
    refine min_pair hh hR h1 (by omega) fun i v' h' tk bs hi hv kk => ?_
    have hi' : [u1, u2][i]? = some v' := by simpa using hi
    have hlt := (List.getElem?_eq_some_iff.mp hi').1
    obtain ⟨d', e3, r3⟩ := q.getV (i := i) (v := [v, w][i]'(by simpa using hlt)) (List.getElem?_eq_getElem (by simpa using hlt))
    obtain ⟨u3, e4, r4⟩ := rv.get (i := i) (x := [v, w][i]'(by simpa using hlt)) (List.getElem?_eq_getElem (by simpa using hlt))
    rw [hi'] at e4
    cases e4
    have I2 : Inv X pins σ H { s with heap := h', toks := tk } := I.kept kk
    have hmem : d' ∈ [_, _] := List.mem_of_getElem? e3
    obtain ⟨cs, hR2⟩ := Dp.reads I2 d' _ v' (Rep.dp d' _ r3 (plain_mem h2 hmem)) r4
    rw [leastD_eq] at hv
    have ed : d' = leastD _ _ := PySem.SeqAt.plain_unique d' _ v' _ _ (plain_mem h2 hmem) hR2 hv
    rw [← ed] at f
    exact ⟨_, H, I2, r4, f.plain r3 (fun es => ed ▸ h4 d' hmem es)⟩
  · obtain ⟨hz, rfl⟩ := ite_some hd
    obtain ⟨v, w, rfl, q1, q2⟩ := rt.two
    obtain ⟨h1, h2, h3, h4⟩ := orderable_of hz
    have fr : ∀ {v : V} {d : D}, RepT X.K dr H B v d → d.plain = true → (∀ es, d ≠ .list es) → Rep X.K dr H B v d := fun {v d} q hp hl => by
      rcases q with q | ⟨a, vs, ds, _, e, _⟩ | ⟨a, u, ds, _, e, _⟩
      · exact q
      · exact absurd e (hl _)
      · subst e; cases hp
    have q : Reps X.K dr H B [v, w] [_, _] := .cons (fr q1 (plain_mem h2 List.mem_cons_self) (h4 _ List.mem_cons_self)) (.cons (fr q2 (plain_mem h2 (List.mem_cons_of_mem _ List.mem_cons_self)) (h4 _ (List.mem_cons_of_mem _ List.mem_cons_self))) .nil)
    obtain ⟨u1, u2, rfl, ru1, ru2⟩ := vals2 r
    have rv : Vals [v, w] [u1, u2] := r
    obtain ⟨as, hR⟩ := Dp.readsAll I _ _ [u1, u2] (Reps.dp _ _ q h2) rv
    refine max_pair hh hR h1 (by omega) fun i v' h' tk bs hi hv kk => ?_
    have hi' : [u1, u2][i]? = some v' := by simpa using hi
    have hlt := (List.getElem?_eq_some_iff.mp hi').1
    obtain ⟨d', e3, r3⟩ := q.getV (i := i) (v := [v, w][i]'(by simpa using hlt)) (List.getElem?_eq_getElem (by simpa using hlt))
    obtain ⟨u3, e4, r4⟩ := rv.get (i := i) (x := [v, w][i]'(by simpa using hlt)) (List.getElem?_eq_getElem (by simpa using hlt))
    rw [hi'] at e4
    cases e4
    have I2 : Inv X pins σ H { s with heap := h', toks := tk } := I.kept kk
    have hmem : d' ∈ [_, _] := List.mem_of_getElem? e3
    obtain ⟨cs, hR2⟩ := Dp.reads I2 d' _ v' (Rep.dp d' _ r3 (plain_mem h2 hmem)) r4
    rw [mostD_eq] at hv
    have ed : d' = mostD _ _ := PySem.SeqAt.plain_unique d' _ v' _ _ (plain_mem h2 hmem) hR2 hv
    rw [← ed] at f
    exact ⟨_, H, I2, r4, f.plain r3 (fun es => ed ▸ h4 d' hmem es)⟩
  · cases hd
    obtain ⟨v, rfl, q⟩ := rt.one
    obtain rfl := q.int
    exact call_abs pins s σ H _ us Q I r ⟨_, rfl, f.plain (.int _) (by intro _ e; cases e)⟩
  · cases hd
    obtain ⟨v, rfl, q⟩ := rt.one
    obtain rfl := q.int
    exact call_int1 pins s σ H _ us Q I r (.inl ⟨_, rfl, f.plain (.int _) (by intro _ e; cases e)⟩)
  · cases hd
end
end Pf

namespace Pf
open PySem PySem.Spec PyProof.Rows L2
variable [Mode]

/-- a def's promise: its function on data -/
def spF (K : PySem.W.Frag) (F : Fn) : Sp := fun vs H Q _ => ∃ (dr : Dr) (B0 : Addr → Prop) (ds : List D) (st : DS) (d : D) (st' : DS), B0 dr.a ∧ B0 dr.p ∧ (∀ b, B0 b → H b ≠ none) ∧ Reps K dr H B0 vs ds ∧ DrawOk K dr H st ∧ F ds st = some (d, st') ∧
  ∀ v H', KD dr H H' → DrawOk K dr H' st' → Rep K dr H' B0 v d → Q v H'
def Cns (X : Cx) (x : Str) (d : D) : Prop := ∃ v u, X.mg x = some u ∧ RelV v u ∧ ∀ dr H B, Rep X.K dr H B v d
def Calls (X : Cx) (x : Str) (F : Fn) : Prop := ∃ k f fd ps, FnOk X.prog X.w X.K X.mg X.base CX0 k f fd ps (spF X.K F) ∧ Room k X.A ∧ X.mg x = some (.ref f) ∧ PySem.W.keepIn X.K (.ref f) = true ∧ Binds X.K fd ps []
def bltNames : List Str := ["len", "tuple", "list", "sorted", "all", "any", "sum", "min", "max", "abs", "int", "range", "enumerate", "zip", "isinstance", "bool", "str", "dict", "reversed", "set"]
structure Good (N : List Str) (G : Nm) (Γ : Gam) (sc : Scope) (wr : Str → Bool) (X : Cx) : Prop where
  calm : X.calm = true
  hN : X.N = N
  nd : N.Nodup
  scp : X.env.scope = sc
  wrt : ∀ x, wr x = true → Loc sc x ∧ (X.fn x = true ∨ sc.names.lookup x = some .local)
  un : X.A.units + 200 < cLine
  fns : ∀ j F, Γ.fs[j]? = some F → Calls X (G.fs.getD j Str.empty) F
  cns : ∀ j d, Γ.cs[j]? = some d → Cns X (G.cs.getD j Str.empty) d
  lib : LibOk G.lib X.mg
  blt : ∀ x ∈ bltNames, X.mg x = none

structure PostE (K : PySem.W.Frag) (dr : Dr) (B : Addr → Prop) (H : Hp) (ρ : List Slot) (e : Ex) (d : D) (st' : DS) (v : V) (H' : Hp) : Prop where
  kd : KD dr H H'
  dw : DrawOk K dr H' st'
  repT : RepT K dr H' B v d
  rep : isOw ρ e = false → Rep K dr H' B v d
  fr : isFr e = true → FrL K dr H H' B v d
section
variable (K : PySem.W.Frag) (dr : Dr) (Γ : Gam)
def tE (e : Ex) : TE := fun σ H Q => ∃ B0 ρ st d st', Sim K dr B0 H ρ σ st ∧ evE Γ e ρ st = some (d, st') ∧ ∀ v H', PostE K dr (BB B0 ρ σ) H ρ e d st' v H' → Q v H'
def tT (e : Ex) : TT := fun σ H Q => ∃ B0 ρ st d st' b, Sim K dr B0 H ρ σ st ∧ evE Γ e ρ st = some (d, st') ∧ truD d = some b ∧ ∀ H', KD dr H H' → DrawOk K dr H' st' → Q b H'
def tEs (es : Exs) : TA := fun σ H Q => ∃ B0 ρ st ds st', Sim K dr B0 H ρ σ st ∧ evEs Γ es ρ st = some (ds, st') ∧ ∀ vs H', KD dr H H' → DrawOk K dr H' st' → RepsT K dr H' (BB B0 ρ σ) vs ds → ((anyOw ρ es = false → Reps K dr H' (BB B0 ρ σ) vs ds) ∧ (anyOwD ρ es = false → RepsL K dr H' (BB B0 ρ σ) vs ds)) → Q vs H'
def tO (es : Exs) : TO := fun σ H Q => ∃ B0 ρ st o st', Sim K dr B0 H ρ σ st ∧ evO Γ es ρ st = some (o, st') ∧ ∀ H', KD dr H H' → DrawOk K dr H' st' → Q o H'
def tB' (an : Bool) (es : Exs) : TE := fun σ H Q => ∃ B0 ρ st d st', Sim K dr B0 H ρ σ st ∧ evB Γ an es ρ st = some (d, st') ∧ ∀ v H', KD dr H H' → DrawOk K dr H' st' → Rep K dr H' (BB B0 ρ σ) v d → Q v H'
def tBT (an : Bool) (es : Exs) : TT := fun σ H Q => ∃ B0 ρ st d st' b, Sim K dr B0 H ρ σ st ∧ evB Γ an es ρ st = some (d, st') ∧ truD d = some b ∧ ∀ H', KD dr H H' → DrawOk K dr H' st' → Q b H'
def tCd (es : Exs) : TT := fun σ H Q => ∃ B0 ρ st b st', Sim K dr B0 H ρ σ st ∧ evC Γ es ρ st = some (b, st') ∧ ∀ H', KD dr H H' → DrawOk K dr H' st' → Q b H'
end
section
variable {K : PySem.W.Frag} {dr : Dr} {Γ : Gam} {B0 : Addr → Prop} {H H' : Hp} {ρ : List Slot} {σ : L2.St} {st st' : DS} {e : Ex} {d : D} {v : V}
theorem Sim.nb (S : Sim K dr B0 H ρ σ st) : NB H (BB B0 ρ σ) := fun _ n => S.fresh n
theorem Sim.drB (S : Sim K dr B0 H ρ σ st) : BB B0 ρ σ dr.a := .inl S.bdr
theorem Sim.post (S : Sim K dr B0 H ρ σ st) (p : PostE K dr (BB B0 ρ σ) H ρ e d st' v H') : Sim K dr B0 H' ρ σ st' := S.kd p.kd p.dw
/-- the end of what makes a value that is not borrowed -/
theorem PostE.mk' (kd : KD dr H H') (dw : DrawOk K dr H' st') (ow : isOw ρ e = false) (r : Rep K dr H' (BB B0 ρ σ) v d) (f : isFr e = true → FrL K dr H H' (BB B0 ρ σ) v d) : PostE K dr (BB B0 ρ σ) H ρ e d st' v H' :=
  ⟨kd, dw, .inl r, fun _ => r, f⟩
theorem FrL.low {H1 : Hp} {B : Addr → Prop} (k : KD dr H H1) (h : DrawOk K dr H1 st) (f : FrL K dr H1 H' B v d) : FrL K dr H H' B v d := fun ds e => by
  obtain ⟨a, vs, e1, n, q⟩ := f ds e
  refine ⟨a, vs, e1, ?_, q⟩
  cases z : H a with
  | none => rfl
  | some o =>
    by_cases hd : a = dr.a
    · subst hd
      rw [h.1] at n
      cases n
    · rw [k.keep a o hd z] at n
      cases n
end
section
variable {X : Cx} {dr : Dr} {Γ : Gam} {ea eb ec : Expr} {a b c : Ex} {op o1 o2 : _} {pos : Pos}
theorem c_bin {op : Operator} (ha : PE X ea (tE X.K dr Γ a)) (hb : PE X eb (tE X.K dr Γ b)) : PE X (.BinOp ea op eb pos) (tE X.K dr Γ (.bin op a b)) := by
  refine PE.imp (pe_op (op_bin (dr := dr)) ha hb) ?_
  rintro σ H Q ⟨B0, ρ, st, d, st', S, h, q⟩
  simp only [evE, Option.bind_eq_some_iff, Option.map_eq_some_iff, Prod.mk.injEq] at h
  obtain ⟨⟨da, s1⟩, h1, ⟨db, s2⟩, h2, d', h3, rfl, rfl⟩ := h
  refine ⟨B0, ρ, st, da, s1, S, h1, fun v1 H1 p1 => ?_⟩
  have S1 := S.post p1
  refine ⟨B0, ρ, s1, db, s2, S1, h2, fun v2 H2 p2 => ?_⟩
  have S2 := S1.post p2
  refine ⟨BB B0 ρ σ, da, db, d', S2.nb, p1.repT.kd p2.kd S.drB, p2.repT, h3, fun v H3 k r f => q v H3 (.mk' ((p1.kd.trans p2.kd).trans (.of_same k)) (p2.dw.same k) rfl r fun _ => f.low (p1.kd.trans p2.kd) p2.dw)⟩
theorem c_cmp {op : CmpOp} (un : X.A.units + 200 < cLine) (hm : behindInMarks op eb = false) (ha : PE X ea (tE X.K dr Γ a)) (hb : PE X eb (tE X.K dr Γ b)) :
    PE X (.Compare ea [op] [eb] pos) (tE X.K dr Γ (.cmp op a b)) ∧ PT X (.Compare ea [op] [eb] pos) (tT X.K dr Γ (.cmp op a b)) := by
  have key : ∀ {σ H} {R : V → Hp → Prop} {B0 ρ st d st'}, Sim X.K dr B0 H ρ σ st → evE Γ (.cmp op a b) ρ st = some (d, st') → (∀ z H', d = .bool z → KD dr H H' → DrawOk X.K dr H' st' → R (.bl z) H') →
      tOp (rCmp X.K dr op) (tE X.K dr Γ a) (tE X.K dr Γ b) σ H R := by
    intro σ H R B0 ρ st d st' S h q
    simp only [evE, Option.bind_eq_some_iff, Option.map_eq_some_iff, Prod.mk.injEq] at h
    obtain ⟨⟨da, s1⟩, h1, ⟨db, s2⟩, h2, d', h3, rfl, rfl⟩ := h
    refine ⟨B0, ρ, st, da, s1, S, h1, fun v1 H1 p1 => ?_⟩
    have S1 := S.post p1
    refine ⟨B0, ρ, s1, db, s2, S1, h2, fun v2 H2 p2 => ?_⟩
    exact ⟨BB B0 ρ σ, da, db, d', p1.repT.kd p2.kd S.drB, p2.repT, h3, q d' H2 rfl (p1.kd.trans p2.kd) p2.dw⟩
  refine ⟨PE.imp (pe_cmpR (op_cmp (dr := dr) un) ha hb hm) ?_, PT.imp (pt_cmpR (op_cmp (dr := dr) un) ha hb hm) ?_⟩
  · rintro σ H Q ⟨B0, ρ, st, d, st', S, h, q⟩
    exact key S h fun z H' e k w => by
      subst e
      exact q _ _ (.mk' k w rfl (.bl _) (fun z => by cases z))
  · rintro σ H Q ⟨B0, ρ, st, d, st', bb, S, h, t, q⟩
    exact key S h fun z H' e k w => by
      subst e
      cases t
      exact ⟨_, rfl, q _ k w⟩
theorem c_chn {o1 o2 : CmpOp} (un : X.A.units + 200 < cLine) (hm : lastMarks [o1, o2] [eb, ec] = false) (ha : PE X ea (tE X.K dr Γ a)) (hb : PE X eb (tE X.K dr Γ b)) (hc : PE X ec (tE X.K dr Γ c)) :
    PE X (.Compare ea [o1, o2] [eb, ec] pos) (tE X.K dr Γ (.chn o1 o2 a b c)) ∧ PT X (.Compare ea [o1, o2] [eb, ec] pos) (tT X.K dr Γ (.chn o1 o2 a b c)) := by
  have key : ∀ {σ H} {R : V → Hp → Prop} {B0 ρ st d st'}, Sim X.K dr B0 H ρ σ st → evE Γ (.chn o1 o2 a b c) ρ st = some (d, st') → (∀ z H', d = .bool z → KD dr H H' → DrawOk X.K dr H' st' → R (.bl z) H') →
      tChain (rCmp X.K dr o1) (rCmp X.K dr o2) (tE X.K dr Γ a) (tE X.K dr Γ b) (tE X.K dr Γ c) σ H R := by
    intro σ H R B0 ρ st d st' S h q
    simp only [evE, Option.bind_eq_some_iff] at h
    obtain ⟨⟨da, s1⟩, h1, ⟨db, s2⟩, h2, k, h3, h4⟩ := h
    refine ⟨B0, ρ, st, da, s1, S, h1, fun v1 H1 p1 => ?_⟩
    have S1 := S.post p1
    refine ⟨B0, ρ, s1, db, s2, S1, h2, fun v2 H2 p2 => ?_⟩
    have S2 := S1.post p2
    refine ⟨BB B0 ρ σ, da, db, k, p1.repT.kd p2.kd S.drB, p2.repT, h3, k, rfl, ?_⟩
    cases k with
    | false =>
      rw [if_neg Bool.false_ne_true] at h4 ⊢
      cases h4
      exact q false H2 rfl (p1.kd.trans p2.kd) p2.dw
    | true =>
      rw [if_pos rfl] at h4 ⊢
      simp only [Option.bind_eq_some_iff, Option.map_eq_some_iff, Prod.mk.injEq] at h4
      obtain ⟨⟨dc, s3⟩, h5, d', h6, rfl, rfl⟩ := h4
      refine ⟨B0, ρ, s2, dc, s3, S2, h5, fun v3 H3 p3 => ?_⟩
      exact ⟨BB B0 ρ σ, db, dc, d', p2.repT.kd p3.kd S.drB, p3.repT, h6, q d' H3 rfl ((p1.kd.trans p2.kd).trans p3.kd) p3.dw⟩
  refine ⟨PE.imp (pe_chain (op_cmp (dr := dr) un) (op_cmp (dr := dr) un) ha hb hc hm) ?_, PT.imp (pt_chain (op_cmp (dr := dr) un) (op_cmp (dr := dr) un) ha hb hc hm) ?_⟩
  · rintro σ H Q ⟨B0, ρ, st, d, st', S, h, q⟩
    exact key S h fun z H' e k w => by
      subst e
      exact q _ _ (.mk' k w rfl (.bl _) (fun z => by cases z))
  · rintro σ H Q ⟨B0, ρ, st, d, st', bb, S, h, t, q⟩
    exact key S h fun z H' e k w => by
      subst e
      cases t
      exact ⟨_, rfl, q _ k w⟩
theorem c_isB {yes c : Bool} {k : Nat} {pos' : Pos} (ha : PE X ea (tE X.K dr Γ a)) :
    PE X (.Compare ea [if yes then .Is else .IsNot] [.Constant (.bool c) k pos'] pos) (tE X.K dr Γ (.isB yes c a)) ∧ PT X (.Compare ea [if yes then .Is else .IsNot] [.Constant (.bool c) k pos'] pos) (tT X.K dr Γ (.isB yes c a)) := by
  have key : ∀ {σ H} {R : V → Hp → Prop} {B0 ρ st d st'}, Sim X.K dr B0 H ρ σ st → evE Γ (.isB yes c a) ρ st = some (d, st') → (∀ z H', d = .bool z → KD dr H H' → DrawOk X.K dr H' st' → R (.bl z) H') →
      tOp (if yes then rIsB else rNotB) (tE X.K dr Γ a) (tC (.bl c)) σ H R := by
    intro σ H R B0 ρ st d st' S h q
    simp only [evE, Option.bind_eq_some_iff] at h
    obtain ⟨⟨da, s1⟩, h1, h2⟩ := h
    cases da <;> first | (cases h2; done) | skip
    rename_i bb
    cases h2
    refine ⟨B0, ρ, st, _, s1, S, h1, fun v H' p => ?_⟩
    have e : v = .bl bb := p.repT.bool
    subst e
    cases yes with
    | true =>
      refine ⟨bb, c, rfl, rfl, ?_⟩
      have z := q ((bb == c) == true) H' rfl p.kd p.dw
      have e2 : ((bb == c) == true) = decide (bb = c) := by cases bb <;> cases c <;> rfl
      rw [e2] at z
      exact z
    | false =>
      refine ⟨bb, c, rfl, rfl, ?_⟩
      have z := q ((bb == c) == false) H' rfl p.kd p.dw
      have e2 : ((bb == c) == false) = !decide (bb = c) := by cases bb <;> cases c <;> rfl
      rw [e2] at z
      exact z
  have ho : OpR X (compareOp (if yes then .Is else .IsNot)) (if yes then rIsB else rNotB) := by
    cases yes with
    | true => exact op_isBl
    | false => exact op_notBl
  have hm : behindInMarks (if yes then .Is else .IsNot) (.Constant (.bool c) k pos') = false := by cases yes <;> rfl
  refine ⟨PE.imp (pe_cmpR ho ha pe_bl hm) ?_, PT.imp (pt_cmpR ho ha pe_bl hm) ?_⟩
  · rintro σ H Q ⟨B0, ρ, st, d, st', S, h, q⟩
    exact key S h fun z H' e k w => by
      subst e
      exact q _ _ (.mk' k w rfl (.bl _) (fun z => by cases z))
  · rintro σ H Q ⟨B0, ρ, st, d, st', bb, S, h, t, q⟩
    exact key S h fun z H' e k w => by
      subst e
      cases t
      exact ⟨_, rfl, q _ k w⟩
theorem c_isN {yes : Bool} {k : Nat} {pos' : Pos} (ha : PE X ea (tE X.K dr Γ a)) :
    PE X (.Compare ea [if yes then .Is else .IsNot] [.Constant .none k pos'] pos) (tE X.K dr Γ (.isN yes a)) ∧ PT X (.Compare ea [if yes then .Is else .IsNot] [.Constant .none k pos'] pos) (tT X.K dr Γ (.isN yes a)) := by
  have key : ∀ {σ H} {R : V → Hp → Prop} {B0 ρ st d st'}, Sim X.K dr B0 H ρ σ st → evE Γ (.isN yes a) ρ st = some (d, st') → (∀ z H', d = .bool z → KD dr H H' → DrawOk X.K dr H' st' → R (.bl z) H') →
      (if yes then tIsN (tE X.K dr Γ a) else tNotN (tE X.K dr Γ a)) σ H R := by
    intro σ H R B0 ρ st d st' S h q
    simp only [evE, Option.map_eq_some_iff, Prod.mk.injEq] at h
    obtain ⟨⟨da, s1⟩, h1, rfl, rfl⟩ := h
    have fin : ∀ v H', PostE X.K dr (BB B0 ρ σ) H ρ a da s1 v H' → R (.bl (if yes then decide (v = .non) else !decide (v = .non))) H' := fun v H' p => by
      have e : (isNoneD da == yes) = (if yes then decide (v = .non) else !decide (v = .non)) := by
        have z := p.repT.none_iff
        by_cases hn : da = .none
        · subst hn
          have z' : v = .non := z.mpr rfl
          subst z'
          cases yes <;> rfl
        · have z' : ¬ v = .non := fun e => hn (z.mp e)
          rw [decide_eq_false z']
          cases da <;> first | exact absurd rfl hn | (cases yes <;> rfl)
      rw [← e]
      exact q _ H' rfl p.kd p.dw
    cases yes with
    | true => exact ⟨B0, ρ, st, da, s1, S, h1, fun v H' p => fin v H' p⟩
    | false => exact ⟨B0, ρ, st, da, s1, S, h1, fun v H' p => fin v H' p⟩
  have pc : ∀ y : Bool, PC X (if y then .Is else .IsNot) ea (.Constant .none k pos') (if y then tIsN (tE X.K dr Γ a) else tNotN (tE X.K dr Γ a)) := fun y => by
    cases y with
    | true => exact pc_isN ha
    | false => exact pc_notN ha
  have nbh : behindInMarks (if yes then .Is else .IsNot) (.Constant .none k pos') = false := rfl
  refine ⟨PE.imp (pe_cmp (pc yes) nbh) ?_, PT.imp (pt_cmp (pc yes) nbh) ?_⟩
  · rintro σ H Q ⟨B0, ρ, st, d, st', S, h, q⟩
    exact key S h fun z H' e k w => by
      subst e
      exact q _ _ (.mk' k w rfl (.bl _) (fun z => by cases z))
  · rintro σ H Q ⟨B0, ρ, st, d, st', bb, S, h, t, q⟩
    exact key S h fun z H' e k w => by
      subst e
      cases t
      exact ⟨_, rfl, q _ k w⟩
theorem c_neg (ha : PE X ea (tE X.K dr Γ a)) : PE X (.UnaryOp .USub ea pos) (tE X.K dr Γ (.neg a)) := by
  refine PE.imp (pe_un un_neg ha) ?_
  rintro σ H Q ⟨B0, ρ, st, d, st', S, h, q⟩
  simp only [evE, Option.bind_eq_some_iff] at h
  obtain ⟨⟨da, s1⟩, h1, h2⟩ := h
  cases da <;> first | (cases h2; done) | skip
  cases h2
  refine ⟨B0, ρ, st, _, s1, S, h1, fun v1 H1 p1 => ⟨_, p1.repT.int, ?_⟩⟩
  exact q _ _ (.mk' p1.kd p1.dw rfl (.int _) (fun z => by cases z))
/-- a value's truth -/
theorem c_tru (ha : PE X ea (tE X.K dr Γ a)) (he : ∀ whole, isTrue ea X.env whole = (do let v ← whole; standAt ea.pos; holding [v] (truthy v))) : PT X ea (tT X.K dr Γ a) := by
  refine PT.imp (pt_truthW ha he) ?_
  rintro σ H Q ⟨B0, ρ, st, d, st', b, S, h, t, q⟩
  exact ⟨B0, ρ, st, d, st', S, h, fun v H' p => ⟨b, tru_of p.repT t, q H' p.kd p.dw⟩⟩
theorem c_nt (ha : PE X ea (tE X.K dr Γ a)) (ht : PT X ea (tT X.K dr Γ a)) : PE X (.UnaryOp .Not ea pos) (tE X.K dr Γ (.nt a)) ∧ PT X (.UnaryOp .Not ea pos) (tT X.K dr Γ (.nt a)) := by
  refine ⟨PE.imp (pe_notW ha) ?_, PT.imp (pt_not ht) ?_⟩
  · rintro σ H Q ⟨B0, ρ, st, d, st', S, h, q⟩
    simp only [evE, Option.bind_eq_some_iff, Option.map_eq_some_iff, Prod.mk.injEq] at h
    obtain ⟨⟨da, s1⟩, h1, b, h2, rfl, rfl⟩ := h
    exact ⟨B0, ρ, st, da, s1, S, h1, fun v H' p => ⟨b, tru_of p.repT h2, q _ _ (.mk' p.kd p.dw rfl (.bl _) (fun z => by cases z))⟩⟩
  · rintro σ H Q ⟨B0, ρ, st, d, st', b, S, h, t, q⟩
    simp only [evE, Option.bind_eq_some_iff, Option.map_eq_some_iff, Prod.mk.injEq] at h
    obtain ⟨⟨da, s1⟩, h1, b', h2, rfl, rfl⟩ := h
    cases t
    exact ⟨B0, ρ, st, da, s1, b', S, h1, h2, q⟩
theorem c_ife (hc : PT X ec (tT X.K dr Γ c)) (ha : PE X ea (tE X.K dr Γ a)) (hb : PE X eb (tE X.K dr Γ b)) : PE X (.IfExp ec ea eb pos) (tE X.K dr Γ (.ife c a b)) := by
  refine PE.imp (pe_ifExp hc ha hb) ?_
  rintro σ H Q ⟨B0, ρ, st, d, st', S, h, q⟩
  simp only [evE] at h
  split at h
  · cases h
  rename_i hw
  simp only [Bool.or_eq_true, not_or, Bool.not_eq_true] at hw
  simp only [Option.bind_eq_some_iff] at h
  obtain ⟨⟨dc, s1⟩, h1, k, h2, h3⟩ := h
  refine ⟨B0, ρ, st, dc, s1, k, S, h1, h2, fun H1 k1 w1 => ?_⟩
  have S1 := S.kd k1 w1
  cases k with
  | true =>
    rw [if_pos rfl] at h3
    show tE X.K dr Γ a σ H1 Q
    exact ⟨B0, ρ, s1, d, st', S1, h3, fun v H' p => q v H' (.mk' (k1.trans p.kd) p.dw rfl (p.rep hw.1) (fun z => by cases z))⟩
  | false =>
    rw [if_neg Bool.false_ne_true] at h3
    show tE X.K dr Γ b σ H1 Q
    exact ⟨B0, ρ, s1, d, st', S1, h3, fun v H' p => q v H' (.mk' (k1.trans p.kd) p.dw rfl (p.rep hw.2) (fun z => by cases z))⟩
theorem c_ix (un : X.A.units + 200 < cLine) (ha : PE X ea (tE X.K dr Γ a)) (hb : PE X eb (tE X.K dr Γ b)) (hs : PlainIx eb) : PE X (.Subscript ea eb pos) (tE X.K dr Γ (.ix a b)) := by
  refine PE.imp (pe_ix (ix_D (dr := dr) un) ha hb hs) ?_
  rintro σ H Q ⟨B0, ρ, st, d, st', S, h, q⟩
  simp only [evE, Option.bind_eq_some_iff, Option.map_eq_some_iff, Prod.mk.injEq] at h
  obtain ⟨⟨da, s1⟩, h1, ⟨db, s2⟩, h2, d', h3, rfl, rfl⟩ := h
  refine ⟨B0, ρ, st, da, s1, S, h1, fun v1 H1 p1 => ?_⟩
  have S1 := S.post p1
  refine ⟨B0, ρ, s1, db, s2, S1, h2, fun v2 H2 p2 => ?_⟩
  exact ⟨BB B0 ρ σ, da, db, d', p1.repT.kd p2.kd S.drB, p2.repT, h3, fun v r => q v H2 (.mk' (p1.kd.trans p2.kd) p2.dw rfl r (fun z => by cases z))⟩
theorem c_sl {lo hi : Exs} {el eh : Option Expr} {p2 : Pos} (ha : PE X ea (tE X.K dr Γ a)) (hl : PO X el (tO X.K dr Γ lo)) (hh : PO X eh (tO X.K dr Γ hi)) : PE X (.Subscript ea (.Slice el eh none p2) pos) (tE X.K dr Γ (.sl a lo hi)) := by
  refine PE.imp (pe_slice (sl_D (dr := dr)) ha hl hh) ?_
  rintro σ H Q ⟨B0, ρ, st, d, st', S, h, q⟩
  simp only [evE, Option.bind_eq_some_iff, Option.map_eq_some_iff, Prod.mk.injEq] at h
  obtain ⟨⟨da, s1⟩, h1, ⟨o1, s2⟩, h2, ⟨o2, s3⟩, h3, d', h4, rfl, rfl⟩ := h
  refine ⟨B0, ρ, st, da, s1, S, h1, fun v1 H1 p1 => ?_⟩
  have S1 := S.post p1
  refine ⟨B0, ρ, s1, o1, s2, S1, h2, fun H2 k2 w2 => ?_⟩
  have S2 := S1.kd k2 w2
  refine ⟨B0, ρ, s2, o2, s3, S2, h3, fun H3 k3 w3 => ?_⟩
  have S3 := S2.kd k3 w3
  have kk := (p1.kd.trans k2).trans k3
  exact ⟨BB B0 ρ σ, da, d', S3.nb, (p1.repT.kd k2 S.drB).kd k3 S.drB, h4, fun v H4 k r f => q v H4 (.mk' (kk.trans (.of_same k)) (w3.same k) rfl r fun _ => f.low kk w3)⟩
end
end Pf

namespace Pf
open PySem PySem.Spec PyProof.Rows L2
variable [Mode]

theorem star_toE (N : List Str) (G : Nm) (e : Ex) (t : PTr) (es : List Expr) (env : Env) : starEach (toE N G e t :: es) env = (false, eval (toE N G e t) env) :: starEach es env := by
  cases e <;> rfl
theorem star_any (N : List Str) (G : Nm) (env : Env) (pos : Pos) : ∀ (es : Exs) (ts : List PTr), (backTo pos (starEach (toEs N G es ts) env)).any (·.1) = false
  | .nil, _ => rfl
  | .cons e es, ts => by
    have ih := star_any N G env pos es ts.tail
    show (backTo pos (starEach (toE N G e (hdT ts) :: toEs N G es ts.tail) env)).any (·.1) = false
    rw [star_toE]
    show (false || (backTo pos (starEach (toEs N G es ts.tail) env)).any (·.1)) = false
    rw [ih]
    rfl
theorem PE.absurd {X : Cx} {e : Expr} {t : TE} (h : ∀ σ H Q, ¬ t σ H Q) : PE X e t := ⟨fun _ _ σ H Q _ q => (h σ H Q q).elim⟩
section
variable {X : Cx} {dr : Dr} {Γ : Gam} {N : List Str} {G : Nm} {ea eb ec : Expr} {a b c e : Ex} {es : Exs} {ts : List PTr} {t : PTr} {pos p : Pos} {l : List Expr}
theorem a_nil : PA X [] (tEs X.K dr Γ .nil) := by
  refine PA.imp pa_nil ?_
  rintro σ H Q ⟨B0, ρ, st, ds, st', S, h, q⟩
  cases h
  exact q [] H .refl S.drw .nil ⟨fun _ => .nil, fun _ => .nil⟩
theorem owD_not {ρ : List Slot} {st st' : DS} {d : D} (h : evE Γ e ρ st = some (d, st')) (h1 : isOw ρ e = true) (h2 : isOwD ρ e = false) : ∀ es, d ≠ .dict es := by
  cases e <;> first | (cases h1; done) | skip
  rename_i i
  simp only [evE, Option.map_eq_some_iff, Prod.mk.injEq] at h
  obtain ⟨d', h, rfl, rfl⟩ := h
  intro es z
  subst z
  unfold getS at h
  unfold isOw at h1
  unfold isOwD at h2
  split at h <;> simp_all
theorem a_cons (ha : PE X ea (tE X.K dr Γ e)) (hr : PA X l (tEs X.K dr Γ es)) (hs : starEach (ea :: l) X.env = (false, eval ea X.env) :: starEach l X.env) : PA X (ea :: l) (tEs X.K dr Γ (.cons e es)) := by
  refine PA.imp (pa_cons ha hr hs) ?_
  rintro σ H Q ⟨B0, ρ, st, ds, st', S, h, q⟩
  simp only [evEs, Option.bind_eq_some_iff, Option.map_eq_some_iff, Prod.mk.injEq] at h
  obtain ⟨⟨da, s1⟩, h1, ⟨db, s2⟩, h2, rfl, rfl⟩ := h
  refine ⟨B0, ρ, st, da, s1, S, h1, fun v1 H1 p1 => ?_⟩
  have S1 := S.post p1
  refine ⟨B0, ρ, s1, db, s2, S1, h2, fun vs H2 k2 w2 r2 r2' => ?_⟩
  refine q _ H2 (p1.kd.trans k2) w2 (.cons (p1.repT.kd k2 S.drB) r2) ⟨fun z => ?_, fun z => ?_⟩
  · simp only [anyOw, Bool.or_eq_false_iff] at z
    exact .cons (Rep.kp k2 S.bd _ _ (p1.rep z.1)) (r2'.1 z.2)
  · simp only [anyOwD, Bool.or_eq_false_iff] at z
    refine .cons (p1.repT.kd k2 S.drB) ?_ (r2'.2 z.2)
    cases ho : isOw ρ e with
    | false => exact .inl (Rep.kp k2 S.bd _ _ (p1.rep ho))
    | true => exact .inr (owD_not h1 ho z.1)
theorem c_tup {k : Nat} (h : PA X l (tEs X.K dr Γ es)) : PE X (.Tuple l k pos) (tE X.K dr Γ (.tup es)) := by
  refine PE.imp (pe_tupM h) ?_
  rintro σ H Q ⟨B0, ρ, st, d, st', S, h, q⟩
  simp only [evE] at h
  split at h
  · cases h
  rename_i hw
  have hw : anyOw ρ es = false := by simpa using hw
  simp only [Option.bind_eq_some_iff] at h
  obtain ⟨⟨ds, s1⟩, h1, h2⟩ := h
  obtain ⟨hz, h2⟩ := ite_some h2
  cases h2
  refine ⟨B0, ρ, st, ds, s1, S, h1, fun vs H1 k1 w1 _ r1 => ⟨?_, fun p o hp ho => ?_⟩⟩
  · rw [(r1.1 hw).length, ← cap_eq]
    exact hz
  · have kk : Same H1 (upd H1 p (tupO o vs)) := same_new hp
    exact q _ _ (.mk' (k1.trans (.of_same kk)) (w1.same kk) rfl (.tup (.new ho) ((r1.1 hw).same kk)) (fun z => by cases z))
theorem c_lst (h : PA X l (tEs X.K dr Γ es)) : PE X (.List l pos) (tE X.K dr Γ (.lst es)) := by
  refine PE.imp (pe_lst h) ?_
  rintro σ H Q ⟨B0, ρ, st, d, st', S, h, q⟩
  simp only [evE] at h
  split at h
  · cases h
  rename_i hw
  have hw : anyOw ρ es = false := by simpa using hw
  simp only [Option.bind_eq_some_iff] at h
  obtain ⟨⟨ds, s1⟩, h1, h2⟩ := h
  obtain ⟨hz, h2⟩ := ite_some h2
  cases h2
  refine ⟨B0, ρ, st, ds, s1, S, h1, fun vs H1 k1 w1 _ r1 => ⟨?_, fun p hp => ?_⟩⟩
  · rw [(r1.1 hw).length, ← cap_eq]
    exact hz
  · have kk : Same H1 (upd H1 p (.lst vs)) := same_new hp
    have S1 := S.kd k1 w1
    have f : FrL X.K dr H1 (upd H1 p (.lst vs)) (BB B0 ρ σ) (.ref p) (.list ds) := fun es z => by
      cases z
      exact ⟨p, vs, rfl, hp, upd_same, (Reps.anti (fun b z => z.imp id fun e => by rw [e]; exact hp) _ _ (r1.1 hw)).same kk⟩
    exact q _ _ (.mk' (k1.trans (.of_same kk)) (w1.same kk) rfl (.lst upd_same (S1.nb p hp) ((r1.1 hw).same kk)) fun _ => f.low k1 w1)
/-- a built-in's call -/
theorem c_bi {bi : Bi} (g : Good N G Γ X.env.scope wr X) (hg : Gl X bi.name) (h : PA X (toEs N G es ts) (tEs X.K dr Γ es)) : PE X (.Call (.Name bi.name p) (toEs N G es ts) [] pos) (tE X.K dr Γ (.bi bi es)) := by
  cases es with
  | nil =>
    refine PE.absurd ?_
    rintro σ H Q ⟨B0, ρ, st, d, st', S, h, q⟩
    simp only [evE, evEs, Option.bind_some, Option.map_eq_some_iff] at h
    obtain ⟨d', h, _⟩ := h
    cases bi <;> cases h
  | cons e es =>
    have main : PE X (.Call (.Name bi.name p) (toEs N G (.cons e es) ts) [] pos) (tCB (rBi X.K dr bi) (tEs X.K dr Γ (.cons e es))) := by
      have he := star_toE N G e (hdT ts) (toEs N G es ts.tail) X.env
      have hpl := star_any N G X.env pos es ts.tail
      have hm : ∀ x, x ∈ bltNames → X.mg x = none := g.blt
      have cb := call_bi (dr := dr) (b := bi) g.calm g.un
      cases bi with
      | len => exact pe_callB cb hg (hm _ (by decide +kernel)) PySem.boot_len h (by decide +kernel) (by decide +kernel) he hpl
      | tuple => exact pe_callTy cb hg (hm _ (by decide +kernel)) (by decide +kernel) h (by decide +kernel) (by decide +kernel) he hpl
      | list => exact pe_callTy cb hg (hm _ (by decide +kernel)) (by decide +kernel) h (by decide +kernel) (by decide +kernel) he hpl
      | sorted => exact pe_callB cb hg (hm _ (by decide +kernel)) (by decide +kernel) h (by decide +kernel) (by decide +kernel) he hpl
      | all => exact pe_callB cb hg (hm _ (by decide +kernel)) (by decide +kernel) h (by decide +kernel) (by decide +kernel) he hpl
      | any => exact pe_callB cb hg (hm _ (by decide +kernel)) (by decide +kernel) h (by decide +kernel) (by decide +kernel) he hpl
      | sum => exact pe_callB cb hg (hm _ (by decide +kernel)) (by decide +kernel) h (by decide +kernel) (by decide +kernel) he hpl
      | min => exact pe_callB cb hg (hm _ (by decide +kernel)) (by decide +kernel) h (by decide +kernel) (by decide +kernel) he hpl
      | max => exact pe_callB cb hg (hm _ (by decide +kernel)) (by decide +kernel) h (by decide +kernel) (by decide +kernel) he hpl
      | abs => exact pe_callB cb hg (hm _ (by decide +kernel)) (by decide +kernel) h (by decide +kernel) (by decide +kernel) he hpl
      | int => exact pe_callTy cb hg (hm _ (by decide +kernel)) (by decide +kernel) h (by decide +kernel) (by decide +kernel) he hpl
    refine PE.imp main ?_
    rintro σ H Q ⟨B0, ρ, st, d, st', S, h, q⟩
    simp only [evE, Option.bind_eq_some_iff, Option.map_eq_some_iff, Prod.mk.injEq] at h
    obtain ⟨⟨ds, s1⟩, h1, d', h2, rfl, rfl⟩ := h
    refine ⟨B0, ρ, st, ds, s1, S, h1, fun vs H1 k1 w1 r1 _ => ?_⟩
    have S1 := S.kd k1 w1
    exact ⟨BB B0 ρ σ, ds, d', S1.nb, r1, h2, fun v H2 k r f => q v H2 (.mk' (k1.trans (.of_same k)) (w1.same k) rfl r fun _ => f.low k1 w1)⟩
mutual
theorem flat_rep {H : Hp} {B B' : Addr → Prop} {K : PySem.W.Frag} : ∀ (n : Nat) (d : D) (v : V), flatN n d = true → Rep K dr H B v d → Rep K dr H B' v d
  | _, .none, _, _, h => by cases h; exact .non
  | _, .bool _, _, _, h => by cases h; exact .bl _
  | _, .int _, _, _, h => by cases h; exact .int _
  | _, .str _, _, _, h => by cases h; exact .str _
  | 0, .tuple _, _, z, _ => by simp [flatN] at z
  | n + 1, .tuple ds, _, z, h => by
    cases h with
    | tup s r => exact .tup s (flat_reps n ds _ (by simpa [flatN] using z) r)
  | 0, .list _, _, z, _ => by simp [flatN] at z
  | _ + 1, .list _, _, z, _ => by simp [flatN] at z
  | 0, .dict _, _, z, _ => by simp [flatN] at z
  | _ + 1, .dict _, _, z, _ => by simp [flatN] at z
theorem flat_reps {H : Hp} {B B' : Addr → Prop} {K : PySem.W.Frag} : ∀ (n : Nat) (ds : List D) (vs : List V), ds.all (flatN n) = true → Reps K dr H B vs ds → Reps K dr H B' vs ds
  | _, [], _, _, h => by cases h; exact .nil
  | n, d :: ds, _, z, h => by
    have z' : flatN n d = true ∧ ds.all (flatN n) = true := by simpa using z
    cases h with
    | cons r rs => exact .cons (flat_rep n d _ z'.1 r) (flat_reps n ds _ z'.2 rs)
end
theorem RepsL.low {H : Hp} {B : Addr → Prop} {K : PySem.W.Frag} (hb : B dr.a) (hb2 : B dr.p) : ∀ {vs : List V} {ds : List D}, RepsL K dr H B vs ds → Reps K dr H (fun b => b = dr.a ∨ b = dr.p) vs ds
  | _, _, .nil => .nil
  | _, _, .cons r nd rs => by
    have w : ∀ b, b = dr.a ∨ b = dr.p → B b ∨ H b = Option.none := fun b e => by rcases e with e | e <;> subst e <;> first | exact .inl hb | exact .inl hb2
    refine .cons ?_ (RepsL.low hb hb2 rs)
    rcases nd with nd | nd
    · exact Rep.anti w _ _ nd
    rcases r with r | ⟨a, vs, ds', e1, e2, e3, r⟩ | ⟨a, vs, ds', e1, e2, e3, r⟩
    · exact Rep.anti w _ _ r
    · subst e1 e2
      exact .lst e3.1 (fun z => z.elim e3.2.1 e3.2.2) (Reps.anti w _ _ r)
    · exact absurd e2 (nd _)
/-- a def's call -/
theorem c_call {j : Nat} (g : Good N G Γ X.env.scope wr X) (hg : Gl X (G.fs.getD j Str.empty)) (hdb : (G.fs.getD j Str.empty == ("__debug__" : Str)) = false) (h : PA X (toEs N G es ts) (tEs X.K dr Γ es)) :
    PE X (.Call (.Name (G.fs.getD j Str.empty) p) (toEs N G es ts) [] pos) (tE X.K dr Γ (.call j es)) := by
  cases hF : Γ.fs[j]? with
  | none =>
    refine PE.absurd ?_
    rintro σ H Q ⟨B0, ρ, st, d, st', S, h, q⟩
    simp only [evE, hF, Option.bind_eq_some_iff] at h
    obtain ⟨_, _, h⟩ := h
    cases h
  | some F =>
    obtain ⟨k, f, fd, ps, hf, hr, hm, hk, hb⟩ := g.fns j F hF
    have main : PE X (.Call (.Name (G.fs.getD j Str.empty) p) (toEs N G es ts) [] pos) (tCall (spF X.K F) [] E0 (tEs X.K dr Γ es)) := by
      cases es with
      | nil =>
        refine PE.imp (pe_call0 hf hr hg hm hk hb .nil pass0 hdb) ?_
        rintro σ H Q ⟨B0, ρ, st, ds, st', S, h, q⟩
        cases h
        exact q [] H .refl S.drw .nil ⟨fun _ => .nil, fun _ => .nil⟩
      | cons e es => exact pe_call hf hr hg hm hk hb .nil pass0 h hdb (star_toE N G e (hdT ts) (toEs N G es ts.tail) X.env) (star_any N G X.env pos es ts.tail)
    refine PE.imp main ?_
    rintro σ H Q ⟨B0, ρ, st, d, st', S, h, q⟩
    simp only [evE, hF, Option.bind_eq_some_iff] at h
    obtain ⟨⟨ds, s1⟩, h1, h⟩ := h
    split at h
    · cases h
    rename_i hD
    have hD : anyOwD ρ es = false := by simpa using hD
    simp only [Option.bind_eq_some_iff] at h
    obtain ⟨⟨d', s2⟩, h2, h3⟩ := h
    split at h3
    · cases h3
    rename_i hw
    cases h3
    refine ⟨B0, ρ, st, ds, s1, S, h1, fun vs H1 k1 w1 r1 r1' => ?_⟩
    have S1 := S.kd k1 w1
    show spF X.K F (vs ++ []) H1 Q E0
    rw [List.append_nil]
    have alo : ∀ b, BB B0 ρ σ b → H1 b ≠ none := fun b hb n => S1.fresh n hb
    by_cases ho : anyOw ρ es = true
    · have hfl : flatN deep d = true := by
        cases z : flatN deep d with
        | true => rfl
        | false => exact absurd ⟨ho, z⟩ hw
      refine ⟨dr, fun b => b = dr.a ∨ b = dr.p, ds, s1, d, st', .inl rfl, .inr rfl, fun b e => ?_, (r1'.2 hD).low S.drB (.inl S.bsp), w1, h2, fun v H2 k2 w2 r2 => ?_⟩
      · rcases e with e | e <;> subst e
        · exact alo _ S.drB
        · exact alo _ (.inl S.bsp)
      · exact q v H2 (.mk' (k1.trans k2) w2 rfl (flat_rep _ _ _ hfl r2) (fun z => by cases z))
    · have ho' : anyOw ρ es = false := by simpa using ho
      exact ⟨dr, BB B0 ρ σ, ds, s1, d, st', S.drB, .inl S.bsp, alo, r1'.1 ho', w1, h2, fun v H2 k2 w2 r2 => q v H2 (.mk' (k1.trans k2) w2 rfl r2 (fun z => by cases z))⟩

def Ty.nm : Ty → String
  | .list => "list" | .tuple => "tuple" | .bool => "bool" | .str => "str" | .int => "int" | .dict => "dict"
def tyVal (ys : List Ty) : V → Hp → Prop := fun v H => match ys with
  | [y] => v = .ty y.nm
  | ys => ∃ p, v = .ref p ∧ H p = some (.tup (ys.map fun y => .ty y.nm))
def tTy (ys : List Ty) : TE := fun _ H Q => ∀ v H', Same H H' → tyVal ys v H' → Q v H'
theorem ty_one (g : Good N G Γ X.env.scope wr X) (y : Ty) (hg : Gl X y.name) : PE X (.Name y.name pos) (tC (.ty y.nm)) := by
  cases y <;> exact pe_bltn hg (g.blt _ (by decide +kernel)) (u := .type _) (by decide +kernel) rfl (by decide +kernel) (by decide +kernel)
theorem ty_many (g : Good N G Γ X.env.scope wr X) : ∀ (ys : List Ty) (ts : List PTr), (∀ y ∈ ys, Gl X y.name) → PA X (tyNames ys ts) (fun _ H Q => Q (ys.map fun y => .ty y.nm) H)
  | [], _, _ => pa_nil
  | y :: ys, ts, h => PA.imp (pa_cons (ty_one g y (h y List.mem_cons_self)) (ty_many g ys ts.tail fun z m => h z (List.mem_cons_of_mem _ m)) rfl) fun σ H Q q => q
theorem ty_pe (g : Good N G Γ X.env.scope wr X) (ys : List Ty) (hy : ys.length ≤ 10) (t : PTr) (h : ∀ y ∈ ys, Gl X y.name) : PE X (tyE ys t) (tTy ys) := by
  have many : ∀ zs : List Ty, zs.length ≤ 10 → (∀ y ∈ zs, Gl X y.name) → (∀ y, zs ≠ [y]) → PE X (.Tuple (tyNames zs t.ts) t.k (t.p 0)) (tTy zs) := fun zs hz hg hn => by
    refine PE.imp (pe_tup (ty_many g zs t.ts hg)) fun σ H Q q => ⟨?_, fun p hp => q _ _ (same_new hp) ?_⟩
    · rw [List.length_map, sizeLine_eq]; omega
    · unfold tyVal
      split
      · exact absurd rfl (hn _)
      · exact ⟨p, rfl, upd_same⟩
  match ys, hy, h with
  | [], hy, h => exact many [] hy h (by intro y e; cases e)
  | [y], _, h => exact PE.imp (ty_one g y (h y List.mem_cons_self)) fun σ H Q q => q _ H (.refl H) rfl
  | y :: z :: r, hy, h => exact many (y :: z :: r) hy h (by intro y e; cases e)
def tyOf : D → String
  | .none => "NoneType" | .bool _ => "bool" | .int _ => "int" | .str _ => "str" | .list _ => "list" | .tuple _ => "tuple" | .dict _ => "dict"
theorem tyX_of {K : PySem.W.Frag} {H : Hp} {B : Addr → Prop} {v : V} {d : D} (r : RepT K dr H B v d) (h : ∀ x, d ≠ .dict x) : TyX K H v (.type (tyOf d)) := by
  cases d with
  | none => rcases r with r | ⟨_, _, _, _, e, _⟩ | ⟨_, _, _, _, e, _⟩ <;> first | (cases r; exact .base .non) | cases e
  | bool b => rw [r.bool]; exact .base (.bl _)
  | int b => rw [r.int]; exact .base (.int _)
  | str b => rw [r.str]; exact .base (.str _)
  | list xs =>
    obtain ⟨a, vs, rfl, e, _⟩ := r.list
    exact .base (.lst e)
  | tuple xs =>
    obtain ⟨a, vs, rfl, e, _⟩ := r.tuple
    rcases e with (e | ⟨o, e⟩) | ⟨o, its, n, e, c, _⟩
    · exact .base (.tup e)
    · exact .fTuple e
    · exact .kTuple e c
  | dict x => exact absurd rfl (h x)
theorem isi_one {K : PySem.W.Frag} {d : D} {y : Ty} {b : Bool} (h : isiD d y = some b) : PySem.W.kitOne K (.type (tyOf d)) (.type y.nm) = some b := by
  cases d <;> cases y <;> first | (cases h; done) | (cases h; refine kit_ty ?_; simp only [tyOf, Ty.nm]; decide +kernel)
theorem isi_many {K : PySem.W.Frag} {d : D} : ∀ {ys : List Ty} {b : Bool}, isiAny d ys = some b → PySem.W.kitAny K (.type (tyOf d)) (ys.map fun y => .type y.nm) = some b
  | [], b, h => h
  | y :: ys, b, h => by
    simp only [isiAny, Option.bind_eq_some_iff] at h
    obtain ⟨k, h1, h2⟩ := h
    refine kitAny_cons (isi_one h1) (fun e => ?_) fun e => ?_
    · subst e
      rw [if_neg Bool.false_ne_true] at h2
      exact isi_many h2
    · subst e
      rw [if_pos rfl] at h2
      cases h2
      rfl
theorem cls_tys : ∀ ys : List Ty, Paired ClsV (ys.map fun y => V.ty y.nm) (ys.map fun y => Value.type y.nm)
  | [] => .nil
  | y :: ys => .cons (.ty _) (cls_tys ys)
theorem isiD_dict {d : D} {y : Ty} {b : Bool} (h : isiD d y = some b) : ∀ x, d ≠ .dict x := fun x e => by subst e; cases h
theorem boot_isi : bootBuiltins "isinstance" = some (.builtin "isinstance") := by decide +kernel
theorem c_isi (g : Good N G Γ X.env.scope wr X) {ys : List Ty} (h0 : ys ≠ []) (h10 : ys.length ≤ 10) (hg : Gl X "isinstance") (hy : ∀ y ∈ ys, Gl X y.name) (ha : PE X (toE N G a t) (tE X.K dr Γ a)) {t2 : PTr} :
    PE X (.Call (.Name "isinstance" p) [toE N G a t, tyE ys t2] [] pos) (tE X.K dr Γ (.isi a ys)) := by
  have hm := g.blt "isinstance" (by decide +kernel)
  have s2 : starEach [tyE ys t2] X.env = (false, eval (tyE ys t2) X.env) :: starEach [] X.env := by
    match ys, h0 with
    | [y], _ => rfl
    | _ :: _ :: _, _ => rfl
  have hpl : (backTo pos (starEach [tyE ys t2] X.env)).any (·.1) = false := by
    rw [s2]; rfl
  have pa : PA X [toE N G a t, tyE ys t2] (tCons (tE X.K dr Γ a) (tCons (tTy ys) tNil)) := pa_cons ha (pa_cons (ty_pe g ys h10 t2 hy) pa_nil s2) (star_toE N G a t _ _)
  have key : ∀ {σ H Q}, tE X.K dr Γ (.isi a ys) σ H Q → (tCons (tE X.K dr Γ a) (tCons (tTy ys) tNil)) σ H fun vs H1 => (rIsi X.K vs H1 Q ∨ rIsiT X.K vs H1 Q) := by
    rintro σ H Q ⟨B0, ρ, st, d, st', S, h, q⟩
    simp only [evE, Option.bind_eq_some_iff, Option.map_eq_some_iff, Prod.mk.injEq] at h
    obtain ⟨⟨da, s1⟩, h1, b, h2, rfl, rfl⟩ := h
    refine ⟨B0, ρ, st, da, s1, S, h1, fun v1 H1 p1 => ?_⟩
    intro v2 H2 k2 tv
    have fin := q (.bl b) H2 (.mk' (p1.kd.trans (.of_same k2)) (p1.dw.same k2) rfl (.bl b) (fun z => by cases z))
    have rt := p1.repT.same k2
    match ys, h0, h2, tv with
    | [y], _, h2, tv =>
      simp only [isiAny, Option.bind_eq_some_iff] at h2
      obtain ⟨k, h3, h4⟩ := h2
      have hb : k = b := by cases k <;> simpa using h4
      subst hb
      have tv : v2 = .ty y.nm := tv
      subst tv
      exact .inl ⟨v1, _, _, _, k, rfl, .ty _, tyX_of rt (isiD_dict h3), isi_one h3, fin⟩
    | y :: z :: r, _, h2, tv =>
      obtain ⟨p, e1, e2⟩ : ∃ p, v2 = .ref p ∧ H2 p = some (.tup ((y :: z :: r).map fun y => .ty y.nm)) := tv
      subst e1
      have hn : ∀ x, da ≠ .dict x := by
        simp only [isiAny, Option.bind_eq_some_iff] at h2
        obtain ⟨k, h3, _⟩ := h2
        exact isiD_dict h3
      exact .inr ⟨v1, p, _, _, _, b, rfl, e2, cls_tys _, tyX_of rt hn, isi_many h2, fin⟩
  exact PE.imp (pe_callB (call_isi.or call_isiT) hg hm boot_isi pa (by decide +kernel) (by decide +kernel) (star_toE N G a t _ _) hpl) fun σ H Q q => key q
end
end Pf

namespace Pf
open PySem PySem.Spec PyProof.Rows L2
variable [Mode]

set_option maxHeartbeats 1000000 in
theorem enum_new1 {v : Value} {ob : Obj} {Hh : Heap → Prop} (B : Begins v ob Hh) :
    Meets (Builtin.«enumerate.__new__» ⟨[.type "enumerate", v], []⟩) (fun _ R s => Hh s.heap ∧
      R (.ok (.ret (.ref (s.heap.push ob).objs.size))) { s with heap := (s.heap.push ob).push { cls := .type "enumerate", data := .fields #[.none, .bool false, .ref s.heap.objs.size, rawInt 0, .none, .none] } }) :=
  .of_wp fun prog w A R s hyp => by
    obtain ⟨hp, g, d, tk, os⟩ := s
    obtain ⟨a1, a2⟩ := hyp
    have hsub := sub_enumerate
    have it : ∀ {A' : Around} {E : Value → Shared → Prop} {Q : Value → Shared → Prop}, Q (.ref hp.objs.size) ⟨hp.push ob, g, d, tk, os⟩ → wpAny (model prog w) A' (pyIter v) Q E ⟨hp, g, d, tk, os⟩ :=
      fun z => B.iter prog w _ _ ⟨hp, g, d, tk, os⟩ _ a1 z
    wp_walk using it
    refine wpAny_stack_any fun st => wpAny_pure ?_
    split
    · rename_i c _ _ _ _ _
      cases (c == Value.type "enumerate") <;>
      · wp_walk using it
        exact ⟨_, rfl, a2⟩
    · wp_walk using it
      exact ⟨_, rfl, a2⟩
section
variable {prog : Program} {w : World} {A : Around} {E : Value → Shared → Prop} {s : Shared}
theorem enum_call1 {v : Value} {ob : Obj} {Hh : Heap → Prop} {Q : Value → Shared → Prop} (B : Begins v ob Hh) (a1 : Hh s.heap)
    (q : ∀ h', IsEnum h' (s.heap.objs.size + 1) s.heap.objs.size 0 .none → h'.get? s.heap.objs.size = some ob → (∀ b o, s.heap.get? b = some o → h'.get? b = some o) → Q (.ref (s.heap.objs.size + 1)) { s with heap := h' }) :
    wpAny (model prog w) A (call (.type "enumerate") [v]) Q E s := by
  refine callType_new F.called_enumerate (by decide) (F.typeCall_enumerate_1 _) (F.newCall_enumerate_1 _) (fun obj => F.args_object_init_2 obj _) F.entry_enumerate_new (enum_new1 B) ⟨a1, ?_⟩
  have sz : (s.heap.push ob).objs.size = s.heap.objs.size + 1 := Heap.size_push ..
  have en := Heap.get?_push_size (s.heap.push ob) (o := { cls := .type "enumerate", data := .fields #[.none, .bool false, .ref s.heap.objs.size, rawInt 0, .none, .none] }) rfl
  show _ ∧ _
  rw [sz] at en ⊢
  exact ⟨⟨_, en, rfl⟩, q _ en (Heap.get?_push_of_some _ (Heap.get?_push_size _ B.free)) fun b o x => Heap.get?_push_of_some _ (Heap.get?_push_of_some _ x)⟩
end
/-- enumerate of the tuple at a -/
def IteT (K : PySem.W.Frag) (a : Addr) : L2.It where
  go := fun i H => ∃ (xs : List V) (x : V), SqT K H a xs ∧ xs[i]? = some x
  yld := fun i H v H' => ∃ T x, v = .ref T ∧ H T = none ∧ H' = upd H T (.tup [.int (i : Nat), x]) ∧ ∀ xs, SqT K H a xs → xs[i]? = some x
  stop := fun i H => ∃ xs : List V, SqT K H a xs ∧ xs.length = i
theorem turn_enumT {P : Program} {w : World} {K : PySem.W.Frag} {elts : List Expr} {kk : Nat} {tpos : Pos} (a e it : Addr) :
    Turn P w K (.Tuple elts kk tpos) (IteT K a) [e, it] e (fun i h => (∃ old, IsEnum h e it ((i : Nat) : Int) old) ∧ h.IsTupleIter it a i ∧ e ≠ it) where
  mem := List.mem_cons_self
  obj := fun i h st b hb => by
    obtain ⟨⟨old, he⟩, ⟨o, ho, hc, hd⟩, _⟩ := st
    rcases List.mem_cons.mp hb with z | z
    · subst z; exact ⟨_, he, fun v q => nomatch q⟩
    · obtain rfl := List.mem_singleton.mp z
      exact ⟨o, ho, fun v q => by rw [hd] at q; cases q⟩
  keep := fun i h h' st k => ⟨⟨_, k e List.mem_cons_self _ st.1.choose_spec⟩, st.2.1.at fun o q => k it (List.mem_cons_of_mem _ List.mem_cons_self) o q, st.2.2⟩
  item := by
    intro X hP hw hK hc i pins s σ H E I hf st hg
    subst hP hw hK
    obtain ⟨⟨old, he⟩, hit, hne⟩ := st
    obtain ⟨xs, x, hq, hx⟩ := hg
    obtain ⟨its, rv, p, hz⟩ := I.tuple hq
    obtain ⟨u, hu, ru⟩ := rv.get hx
    have lenV := rv.length
    have lt_i : i < its.toArray.size := by
      have := (List.getElem?_eq_some_iff.mp hu).1
      simpa using this
    have e_lt : e < s.heap.objs.size := Heap.lt_size he
    have it_lt : it < s.heap.objs.size := by obtain ⟨_, q, _⟩ := hit; exact Heap.lt_size q
    have it_ne : a ≠ it := fun z => by
      subst z
      obtain ⟨o1, q1, c1, _⟩ := hit
      obtain ⟨o2, q2, c2, _⟩ := p
      rw [q1] at q2
      cases q2
      rw [c1] at c2
      exact absurd c2 (by decide +kernel)
    have e_ne : e ≠ a := fun z => by
      subst z
      obtain ⟨o2, q2, c2, _⟩ := p
      have he' : s.heap.get? e = some _ := he
      rw [he'] at q2
      cases q2
      exact absurd (show Value.type "enumerate" = Value.type "tuple" from c2) (by decide +kernel)
    have dr := Draws.tuple (prog := X.prog) (w := X.w) (A := X.A.in1) (I.ok.hd hc) it a it_ne its.toArray
    refine wpAny_pyNext_enum_itemC dr he (show _ ∧ _ from ⟨hit, p⟩) lt_i hne (by simp [hne, e_ne]) fun y h' tk hy ho st' hT hsz hk => ?_
    have ey : y = u := by
      have q1 : its.toArray[i]? = some y := hy
      have q2 : its.toArray[i]? = some u := by simpa using hu
      exact Option.some.inj (q1.symm.trans q2)
    subst ey
    refine ⟨_, rfl, wpAny_letOwnedTupleGo_enum (s := { s with heap := h', toks := tk + 1 }) ho fun h'' he' sb => ?_⟩
    have hT2 : h''.get? s.heap.objs.size = some { cls := .type "tuple", data := .seq #[.int i tk, y] } := (sb.2 _ (Nat.ne_of_gt e_lt)).trans hT
    have new : ObjOk X.prog X.w (upd H s.heap.objs.size (.tup [.int (i : Nat), x])) h'' s.heap.objs.size (.tup [.int (i : Nat), x]) :=
      ⟨(by show 2 ≤ sizeLine; decide), [.int i tk, y], .cons ⟨_, rfl⟩ (.cons ru .nil), ⟨_, hT2, rfl, _, rfl⟩⟩
    have I1 : Inv X pins σ (upd H s.heap.objs.size (.tup [.int (i : Nat), x])) { s with heap := h'', toks := tk + 1 } :=
      I.turnedNew (ch := [e, it]) (fun b ob hb q => (sb.2 b (fun z => hb (by simp [z]))).trans (hk b ob (fun z => hb (by simp [z])) (fun z => hb (by simp [z])) q)) hf (Nat.le_refl _) new
    refine ⟨.ref s.heap.objs.size, _, I1, rfl, ⟨_, x, rfl, I.hok.fresh (Nat.le_refl _), rfl, fun ys hy => by rw [I.tuple_inj hy hq]; exact hx⟩, ⟨⟨y, ?_⟩, st'.1.at fun o q => (sb.2 it (Ne.symm hne)).trans q, hne⟩, fun b hb => ?_⟩
    · have e1 : ((i + 1 : Nat) : Int) = (i : Int) + 1 := by omega
      rw [e1]
      exact he'
    · have b_lt : b < s.heap.objs.size := by
        rcases List.mem_cons.mp hb with z | z
        · rw [z]; exact e_lt
        · rw [List.mem_singleton.mp z]; exact it_lt
      rw [upd_ne (Nat.ne_of_lt b_lt)]
      exact (hf b hb).1
  done := by
    intro X hP hw hK hc i pins s σ H E I hf st hg
    subst hP hw hK
    obtain ⟨⟨old, he⟩, hit, hne⟩ := st
    obtain ⟨xs, hq, hx⟩ := hg
    obtain ⟨its, rv, p, hz⟩ := I.tuple hq
    obtain ⟨f0, f1, f2, f3, f4, f5⟩ := hf it (List.mem_cons_of_mem _ List.mem_cons_self)
    have lenV := rv.length
    have it_ne : a ≠ it := fun z => by
      subst z
      obtain ⟨o1, q1, c1, _⟩ := hit
      obtain ⟨o2, q2, c2, _⟩ := p
      rw [q1] at q2
      cases q2
      rw [c1] at c2
      exact absurd c2 (by decide +kernel)
    have fin : wpAny (model X.prog X.w) X.A (pyNext (.ref e)) (fun r s1 => r = none ∧ ∃ h', s1 = { s with heap := h' } ∧ ∀ b o, b ≠ it → s.heap.get? b = some o → h'.get? b = some o) E s := by
      have ei : i = its.toArray.size := by simp; omega
      subst ei
      exact wpAny_pyNext_enum_endD (Draws.tuple (prog := X.prog) (w := X.w) (A := X.A.in1) (I.ok.hd hc) it a it_ne its.toArray) he (show _ ∧ _ from ⟨hit, p⟩) fun h' eb => ⟨rfl, h', rfl, eb⟩
    refine thn fin fun r s1 ⟨e1, h', e2, eb⟩ => ⟨e1, ?_⟩
    subst e2
    exact I.turned (t' := s.toks) (fun b o hb q => eb b o hb q) f0 f1 f3 f4 f5
  self := fun A i s Q E st h => wpAny_pyIter_enum st.1.choose_spec h

def iEnT (K : PySem.W.Frag) (ta : TA) : TI := fun σ H R => ta σ H fun vs H1 => ∃ a xs, vs = [.ref a] ∧ SqT K H1 a xs ∧ R (IteT K a) H1
theorem pi_enumT {X : Cx} {e : Expr} {ta : TA} {p pos tpos : Pos} {elts : List Expr} {kk : Nat} (hg : Gl X "enumerate") (hm : X.mg "enumerate" = none) (ha : PA X [e] ta) (hs : starEach [e] X.env = [(false, eval e X.env)]) :
    PI X (.Tuple elts kk tpos) (.Call (.Name "enumerate" p) [e] [] pos) (iEnT X.K ta) := by
  refine ⟨fun pins s σ H R I h => Call_ (ld_blt I hg hm boot_enumerate (PyProof.Rows.callWith_type1 (thn (ha.run pos pins s σ H _ I h) fun us s1 ⟨vs, H1, I1, r1, q1⟩ => ?_) hs rfl))⟩
  obtain ⟨a, xs, ex, hq, q⟩ := q1
  subst ex
  obtain ⟨u, rfl, ru⟩ := vals1 r1
  obtain rfl : u = Value.ref a := ru
  obtain ⟨its, rv, p', hz⟩ := I1.tuple hq
  refine enum_call1 (begins_tuple a its.toArray) p' fun h' he ho hk => wpAny_pyIter_enum he ?_
  have I2 : Inv X pins σ H1 { s1 with heap := h' } := I1.kept (t' := s1.toks) hk
  refine ⟨s1.heap.objs.size + 1, [s1.heap.objs.size + 1, s1.heap.objs.size], _, _, H1, rfl, I2, turn_enumT a (s1.heap.objs.size + 1) s1.heap.objs.size, ⟨⟨.none, he⟩, ⟨_, ho, rfl, rfl⟩, Nat.succ_ne_self _⟩, fun b hb => ?_, q⟩
  have b_le : s1.heap.objs.size ≤ b := by
    rcases List.mem_cons.mp hb with z | z
    · rw [z]; exact Nat.le_add_right _ _
    · rw [List.mem_singleton.mp z]; exact Nat.le_refl _
  exact I1.fpOk b_le (I1.hok.fresh b_le)

/-- a turn's value: a pair may be one that is just there -/
def RepI (K : PySem.W.Frag) (dr : Dr) (H : Hp) (B : Addr → Prop) (pr : Bool) (v : V) (d : D) : Prop := Rep K dr H B v d ∨ (pr = true ∧ ∃ a vs ds, v = .ref a ∧ d = .tuple ds ∧ SqT K H a vs ∧ Reps K dr H B vs ds)
/-- a walk, as a list of data: from the heap H1 on, whatever is written at W -/
structure Wk (K : PySem.W.Frag) (dr : Dr) (pr : Bool) (J : L2.It) (items : List D) (H1 : Hp) (B W : Addr → Prop) : Prop where
  go : ∀ i H, Kp W H1 H → i < items.length → J.go i H
  stop : ∀ H, Kp W H1 H → J.stop items.length H
  yld : ∀ i H x H' d, Kp W H1 H → items[i]? = some d → J.yld i H x H' → Same H H' ∧ RepI K dr H' B pr x d
section
variable {K : PySem.W.Frag} {dr : Dr} {H H' H1 : Hp} {B W : Addr → Prop}
theorem Kp.alloc (k : Kp W H H') : Kp (fun b => W b ∧ H b ≠ none) H H' := ⟨fun b o n e => k.keep b o (fun z => n ⟨z, by rw [e]; exact fun q => by cases q⟩) e, k.tup, k.frz⟩
theorem reps_kp {vs : List V} {ds : List D} (r : Reps K dr H B vs ds) (k : Kp W H H') (w : ∀ b, W b → H b ≠ none → B b) : Reps K dr H' B vs ds := Reps.kp k.alloc (fun b z => w b z.1 z.2) ds vs r
theorem wk_list {a : Addr} {vs : List V} {ds : List D} (e : H1 a = some (.lst vs)) (r : Reps K dr H1 B vs ds) (na : ¬ W a) (w : ∀ b, W b → H1 b ≠ none → B b) : Wk K dr false (Itl K a) ds H1 B W where
  go := fun i H k hi => ⟨vs, vs[i]'(by rw [r.length]; exact hi), SqL.of (k.keep _ _ na e), List.getElem?_eq_getElem _⟩
  stop := fun H k => ⟨vs, SqL.of (k.keep _ _ na e), Nat.le_of_eq r.length⟩
  yld := fun i H x H' d k hi y => by
    obtain ⟨rfl, y⟩ := y
    obtain ⟨v, e1, q⟩ := (reps_kp r k w).get hi
    have e2 := y vs (SqL.of (k.keep _ _ na e))
    rw [e1] at e2
    cases e2
    exact ⟨.refl _, .inl q⟩
theorem wk_tup {a : Addr} {vs : List V} {ds : List D} (e : SqT K H1 a vs) (r : Reps K dr H1 B vs ds) (w : ∀ b, W b → H1 b ≠ none → B b) : Wk K dr false (Itt K a) ds H1 B W where
  go := fun i H k hi => ⟨vs, vs[i]'(by rw [r.length]; exact hi), k.sqT e, List.getElem?_eq_getElem _⟩
  stop := fun H k => ⟨vs, k.sqT e, Nat.le_of_eq r.length⟩
  yld := fun i H x H' d k hi y => by
    obtain ⟨rfl, y⟩ := y
    obtain ⟨v, e1, q⟩ := (reps_kp r k w).get hi
    have e2 := y vs (k.sqT e)
    rw [e1] at e2
    cases e2
    exact ⟨.refl _, .inl q⟩
theorem rev_get {α : Type} {xs : List α} {i : Nat} {x : α} (h : xs.reverse[i]? = some x) : xs[xs.length - 1 - i]? = some x ∧ i < xs.length := by
  have hl : i < xs.reverse.length := by
    refine Classical.byContradiction fun n => ?_
    rw [List.getElem?_eq_none (by omega)] at h
    cases h
  rw [List.length_reverse] at hl
  rw [List.getElem?_reverse hl] at h
  exact ⟨h, hl⟩
theorem wk_rev {a : Addr} {vs : List V} {ds : List D} (e : H1 a = some (.lst vs)) (r : Reps K dr H1 B vs ds) (na : ¬ W a) (w : ∀ b, W b → H1 b ≠ none → B b) : Wk K dr false (Itv K a vs.length) ds.reverse H1 B W where
  go := fun i H k hi => by
    rw [List.length_reverse, ← r.length] at hi
    exact ⟨hi, vs, vs[vs.length - 1 - i]'(by omega), SqL.of (k.keep _ _ na e), List.getElem?_eq_getElem _⟩
  stop := fun H k => by
    show vs.length ≤ ds.reverse.length
    rw [List.length_reverse, r.length]
    exact Nat.le_refl _
  yld := fun i H x H' d k hi y => by
    obtain ⟨rfl, y⟩ := y
    obtain ⟨hi, hl⟩ := rev_get hi
    obtain ⟨v, e1, q⟩ := (reps_kp r k w).get hi
    have e2 := y vs (SqL.of (k.keep _ _ na e))
    rw [← r.length] at e1
    rw [e1] at e2
    cases e2
    exact ⟨.refl _, .inl q⟩
theorem wk_revT {a : Addr} {vs : List V} {ds : List D} (e : SqT K H1 a vs) (r : Reps K dr H1 B vs ds) (w : ∀ b, W b → H1 b ≠ none → B b) : Wk K dr false (RT.ItvT K a vs.length) ds.reverse H1 B W where
  go := fun i H k hi => by
    rw [List.length_reverse, ← r.length] at hi
    exact ⟨hi, vs, vs[vs.length - 1 - i]'(by omega), k.sqT e, List.getElem?_eq_getElem _⟩
  stop := fun H k => by
    show vs.length ≤ ds.reverse.length
    rw [List.length_reverse, r.length]
    exact Nat.le_refl _
  yld := fun i H x H' d k hi y => by
    obtain ⟨rfl, y⟩ := y
    obtain ⟨hi, hl⟩ := rev_get hi
    obtain ⟨v, e1, q⟩ := (reps_kp r k w).get hi
    have e2 := y vs (k.sqT e)
    rw [← r.length] at e1
    rw [e1] at e2
    cases e2
    exact ⟨.refl _, .inl q⟩
theorem RepK.get : ∀ {kvs : List (Key × V)} {es : List (D × D)} {i : Nat} {k : Key} {v : V}, RepK K dr H B kvs es → kvs[i]? = some (k, v) → ∃ d, es[i]? = some (keyD k, d) ∧ Rep K dr H B v d
  | _, _, _, _, _, .nil, e => by simp at e
  | _, _, 0, _, _, .cons r rs, e => by
    simp at e
    obtain ⟨rfl, rfl⟩ := e
    exact ⟨_, rfl, r⟩
  | _, _, i + 1, _, _, .cons r rs, e => RepK.get (i := i) rs (by simpa using e)
theorem RepU.get : ∀ {kvs : List (List Key × V)} {es : List (D × D)} {i : Nat} {k : List Key} {v : V}, RepU K dr H B kvs es → kvs[i]? = some (k, v) → ∃ d, es[i]? = some (.tuple (k.map keyD), d) ∧ Rep K dr H B v d
  | _, _, _, _, _, .nil, e => by simp at e
  | _, _, 0, _, _, .cons r rs, e => by
    simp at e
    obtain ⟨rfl, rfl⟩ := e
    exact ⟨_, rfl, r⟩
  | _, _, i + 1, _, _, .cons r rs, e => RepU.get (i := i) rs (by simpa using e)
theorem wk_keys {a : Addr} {o : Obj} {kvs : List (Key × V)} {es : List (D × D)} (e : H1 a = some (.frz o (.dK kvs))) (r : RepK K dr H1 B kvs es) : Wk K dr false (Itk a o kvs) (es.map (·.1)) H1 B W where
  go := fun i H k hi => ⟨k.frz _ _ _ e, by rw [r.length]; simpa using hi⟩
  stop := fun H k => ⟨k.frz _ _ _ e, by rw [r.length]; simp⟩
  yld := fun i H x H' d k hi y => by
    obtain ⟨rfl, kk, v, h1, rfl⟩ := y
    obtain ⟨d', h2, _⟩ := r.get h1
    rw [List.getElem?_map, h2] at hi
    cases hi
    exact ⟨.refl _, .inl (rep_key kk)⟩
theorem wk_keysT (m : Mode.tm = false) {a : Addr} {o : Obj} {kvs : List (List Key × V)} {es : List (D × D)} (e : H1 a = some (.frz o (.dT kvs))) (r : RepU K dr H1 B kvs es) : Wk K dr false (Itkt a o kvs) (es.map (·.1)) H1 B W where
  go := fun i H k hi => ⟨k.frz _ _ _ e, by rw [r.length]; simpa using hi⟩
  stop := fun H k => ⟨k.frz _ _ _ e, by rw [r.length]; simp⟩
  yld := fun i H x H' d k hi y => by
    obtain ⟨rfl, kk, v, q, h1, rfl, h3⟩ := y
    obtain ⟨d', h2, _⟩ := r.get h1
    rw [List.getElem?_map, h2] at hi
    cases hi
    exact ⟨.refl _, .inl (.tup (tup_at m h3) (reps_key kk))⟩
theorem wk_vals {a : Addr} {o : Obj} {kvs : List (Key × V)} {es : List (D × D)} (e : H1 a = some (.frz o (.dK kvs))) (r : RepK K dr H1 B kvs es) (w : ∀ b, W b → H1 b ≠ none → B b) : Wk K dr false (Itd a o kvs) (es.map (·.2)) H1 B W where
  go := fun i H k hi => ⟨k.frz _ _ _ e, by rw [r.length]; simpa using hi⟩
  stop := fun H k => ⟨k.frz _ _ _ e, by rw [r.length]; simp⟩
  yld := fun i H x H' d k hi y => by
    obtain ⟨rfl, kk, h1⟩ := y
    obtain ⟨d', h2, q⟩ := (RepK.kp k.alloc (fun b z => w b z.1 z.2) _ _ r).get h1
    rw [List.getElem?_map, h2] at hi
    cases hi
    exact ⟨.refl _, .inl q⟩
theorem wk_items {a : Addr} {o : Obj} {kvs : List (Key × V)} {es : List (D × D)} (e : H1 a = some (.frz o (.dK kvs))) (r : RepK K dr H1 B kvs es) (w : ∀ b, W b → H1 b ≠ none → B b) : Wk K dr true (Iti a o kvs) (es.map fun p => .tuple [p.1, p.2]) H1 B W where
  go := fun i H k hi => ⟨k.frz _ _ _ e, by rw [r.length]; simpa using hi⟩
  stop := fun H k => ⟨k.frz _ _ _ e, by rw [r.length]; simp⟩
  yld := fun i H x H' d k hi y => by
    obtain ⟨T, kk, v, h1, rfl, hT, rfl⟩ := y
    obtain ⟨d', h2, q⟩ := (RepK.kp k.alloc (fun b z => w b z.1 z.2) _ _ r).get h1
    rw [List.getElem?_map, h2] at hi
    cases hi
    have kk := same_new (o := .tup [kV kk, v]) hT
    exact ⟨kk, .inr ⟨rfl, _, _, _, rfl, rfl, SqT.of upd_same, (.cons (rep_key _) (.cons (q.same kk) .nil))⟩⟩
theorem wk_str {x : Str} : Wk K dr false (Its x) (x.cps.toList.map fun c => .str ⟨#[c]⟩) H1 B W where
  go := fun i H k hi => by
    show i < x.cps.size
    simpa using hi
  stop := fun H k => by show x.cps.size ≤ _; simp
  yld := fun i H v H' d k hi y => by
    obtain ⟨rfl, c, hc, rfl⟩ := y
    rw [List.getElem?_map] at hi
    obtain ⟨j, e, rfl⟩ := Option.map_eq_some_iff.mp hi
    rw [Array.getElem?_toList, hc] at e
    cases e
    exact ⟨.refl _, .inl (.str _)⟩
theorem wk_range {lo : Int} {n : Nat} : Wk K dr false (Itr lo n) ((List.range n).map fun i => .int (lo + (i : Nat))) H1 B W where
  go := fun i H k hi => by
    show i < n
    simpa using hi
  stop := fun H k => by show n ≤ _; simp
  yld := fun i H x H' d k hi y => by
    obtain ⟨rfl, rfl⟩ := y
    rw [List.getElem?_map] at hi
    obtain ⟨j, e, rfl⟩ := Option.map_eq_some_iff.mp hi
    obtain ⟨z, e2⟩ := List.getElem?_eq_some_iff.mp e
    rw [List.getElem_range] at e2
    subst e2
    exact ⟨.refl _, .inl (.int _)⟩
theorem wk_rangeC {lo c : Int} {n : Nat} : Wk K dr false (Itc lo c n) ((List.range n).map fun i => .int (lo + (i : Nat) * c)) H1 B W where
  go := fun i H k hi => by
    show i < n
    simpa using hi
  stop := fun H k => by show n ≤ _; simp
  yld := fun i H x H' d k hi y => by
    obtain ⟨rfl, rfl⟩ := y
    rw [List.getElem?_map] at hi
    obtain ⟨j, e, rfl⟩ := Option.map_eq_some_iff.mp hi
    obtain ⟨z, e2⟩ := List.getElem?_eq_some_iff.mp e
    rw [List.getElem_range] at e2
    subst e2
    exact ⟨.refl _, .inl (.int _)⟩
theorem enum_get : ∀ (ds : List D) (n i : Nat) (d : D), (enumD n ds)[i]? = some d → ∃ e, ds[i]? = some e ∧ d = .tuple [.int ((n + i : Nat) : Int), e]
  | [], _, _, _, h => by simp [enumD] at h
  | x :: xs, n, 0, d, h => by simp [enumD] at h; exact ⟨x, rfl, by rw [← h]; rfl⟩
  | x :: xs, n, i + 1, d, h => by
    obtain ⟨e, h1, h2⟩ := enum_get xs (n + 1) i d (by simpa [enumD] using h)
    exact ⟨e, by simpa using h1, by rw [h2]; congr 3; omega⟩
theorem enum_len : ∀ (ds : List D) (n : Nat), (enumD n ds).length = ds.length
  | [], _ => rfl
  | _ :: xs, n => by simp [enumD, enum_len xs]
theorem wk_enum {a : Addr} {vs : List V} {ds : List D} (e : H1 a = some (.lst vs)) (r : Reps K dr H1 B vs ds) (na : ¬ W a) (w : ∀ b, W b → H1 b ≠ none → B b) : Wk K dr true (Ite K a) (enumD 0 ds) H1 B W where
  go := fun i H k hi => ⟨vs, vs[i]'(by rw [r.length]; rw [enum_len] at hi; exact hi), SqL.of (k.keep _ _ na e), List.getElem?_eq_getElem _⟩
  stop := fun H k => ⟨vs, SqL.of (k.keep _ _ na e), by rw [enum_len]; exact Nat.le_of_eq r.length⟩
  yld := fun i H x H' d k hi y => by
    obtain ⟨T, z, rfl, hT, rfl, y⟩ := y
    obtain ⟨d', h1, rfl⟩ := enum_get ds 0 i d hi
    obtain ⟨v, e1, q⟩ := (reps_kp r k w).get h1
    have e2 := y vs (SqL.of (k.keep _ _ na e))
    rw [e1] at e2
    cases e2
    have kk : Same H (upd H T (.tup [.int (i : Nat), z])) := same_new hT
    rw [Nat.zero_add]
    exact ⟨kk, .inr ⟨rfl, _, _, _, rfl, rfl, SqT.of upd_same, (.cons (.int _) (.cons (q.same kk) .nil))⟩⟩
theorem wk_enumT {a : Addr} {vs : List V} {ds : List D} (e : SqT K H1 a vs) (r : Reps K dr H1 B vs ds) (w : ∀ b, W b → H1 b ≠ none → B b) : Wk K dr true (IteT K a) (enumD 0 ds) H1 B W where
  go := fun i H k hi => ⟨vs, vs[i]'(by rw [r.length]; rw [enum_len] at hi; exact hi), k.sqT e, List.getElem?_eq_getElem _⟩
  stop := fun H k => ⟨vs, k.sqT e, by rw [enum_len]; exact r.length⟩
  yld := fun i H x H' d k hi y => by
    obtain ⟨T, z, rfl, hT, rfl, y⟩ := y
    obtain ⟨d', h1, rfl⟩ := enum_get ds 0 i d hi
    obtain ⟨v, e1, q⟩ := (reps_kp r k w).get h1
    have e2 := y vs (k.sqT e)
    rw [e1] at e2
    cases e2
    have kk : Same H (upd H T (.tup [.int (i : Nat), z])) := same_new hT
    rw [Nat.zero_add]
    exact ⟨kk, .inr ⟨rfl, _, _, _, rfl, rfl, SqT.of upd_same, (.cons (.int _) (.cons (q.same kk) .nil))⟩⟩
theorem zip_get : ∀ (xs ys : List D) (i : Nat) (d : D), (zipD xs ys)[i]? = some d → ∃ x y, xs[i]? = some x ∧ ys[i]? = some y ∧ d = .tuple [x, y]
  | [], _, _, _, h => by simp [zipD] at h
  | _ :: _, [], _, _, h => by simp [zipD] at h
  | x :: xs, y :: ys, 0, d, h => by simp [zipD] at h; exact ⟨x, y, rfl, rfl, h.symm⟩
  | x :: xs, y :: ys, i + 1, d, h => by
    obtain ⟨a, b, h1, h2, h3⟩ := zip_get xs ys i d (by simpa [zipD] using h)
    exact ⟨a, b, by simpa using h1, by simpa using h2, h3⟩
theorem zip_len : ∀ (xs ys : List D), (zipD xs ys).length = min xs.length ys.length
  | [], _ => by simp [zipD]
  | _ :: _, [] => by simp [zipD]
  | _ :: xs, _ :: ys => by simp [zipD, zip_len xs ys, Nat.succ_min_succ]
theorem wk_zip {a b : Addr} {vs us : List V} {ds es : List D} (e : H1 a = some (.lst vs)) (r : Reps K dr H1 B vs ds) (e' : H1 b = some (.lst us)) (r' : Reps K dr H1 B us es) (na : ¬ W a) (nb : ¬ W b) (w : ∀ b, W b → H1 b ≠ none → B b) :
    Wk K dr true (Itz K a b) (zipD ds es) H1 B W where
  go := fun i H k hi => by
    rw [zip_len] at hi
    exact ⟨vs, us, vs[i]'(by rw [r.length]; omega), us[i]'(by rw [r'.length]; omega), SqL.of (k.keep _ _ na e), SqL.of (k.keep _ _ nb e'), List.getElem?_eq_getElem _, List.getElem?_eq_getElem _⟩
  stop := fun H k => ⟨vs, us, SqL.of (k.keep _ _ na e), SqL.of (k.keep _ _ nb e'), by rw [zip_len, r.length, r'.length]; omega⟩
  yld := fun i H x H' d k hi y => by
    obtain ⟨T, z1, z2, rfl, hT, rfl, y1, y2⟩ := y
    obtain ⟨d1, d2, h1, h2, rfl⟩ := zip_get ds es i d hi
    obtain ⟨v, e1, q1⟩ := (reps_kp r k w).get h1
    obtain ⟨u, e2, q2⟩ := (reps_kp r' k w).get h2
    have e3 := y1 vs (SqL.of (k.keep _ _ na e))
    have e4 := y2 us (SqL.of (k.keep _ _ nb e'))
    rw [e1] at e3
    rw [e2] at e4
    cases e3
    cases e4
    have kk : Same H (upd H T (.tup [z1, z2])) := same_new hT
    exact ⟨kk, .inr ⟨rfl, _, _, _, rfl, rfl, SqT.of upd_same, (.cons (q1.same kk) (.cons (q2.same kk) .nil))⟩⟩
theorem wk_zipT {a b : Addr} {vs us : List V} {ds es : List D} (e : SqT K H1 a vs) (r : Reps K dr H1 B vs ds) (e' : SqT K H1 b us) (r' : Reps K dr H1 B us es) (w : ∀ b, W b → H1 b ≠ none → B b) :
    Wk K dr true (RZ.ItzT K a b) (zipD ds es) H1 B W where
  go := fun i H k hi => by
    rw [zip_len] at hi
    exact ⟨vs, us, vs[i]'(by rw [r.length]; omega), us[i]'(by rw [r'.length]; omega), k.sqT e, k.sqT e', List.getElem?_eq_getElem _, List.getElem?_eq_getElem _⟩
  stop := fun H k => ⟨vs, us, k.sqT e, k.sqT e', by rw [zip_len, r.length, r'.length]; omega⟩
  yld := fun i H x H' d k hi y => by
    obtain ⟨T, z1, z2, rfl, hT, rfl, y1, y2⟩ := y
    obtain ⟨d1, d2, h1, h2, rfl⟩ := zip_get ds es i d hi
    obtain ⟨v, e1, q1⟩ := (reps_kp r k w).get h1
    obtain ⟨u, e2, q2⟩ := (reps_kp r' k w).get h2
    have e3 := y1 vs (k.sqT e)
    have e4 := y2 us (k.sqT e')
    rw [e1] at e3
    rw [e2] at e4
    cases e3
    cases e4
    have kk : Same H (upd H T (.tup [z1, z2])) := same_new hT
    exact ⟨kk, .inr ⟨rfl, _, _, _, rfl, rfl, SqT.of upd_same, (.cons (q1.same kk) (.cons (q2.same kk) .nil))⟩⟩
end
end Pf

namespace Pf
open PySem PySem.Spec PyProof.Rows L2
variable [Mode]

section
variable {K : PySem.W.Frag} {dr : Dr} {B0 : Addr → Prop} {H H' : Hp} {ρ : List Slot} {σ : L2.St} {st st' : DS} {d : D} {v : V}
theorem set_get {α : Type} {l : List α} {i j : Nat} {x y : α} (h : (l.set i x)[j]? = some y) : (j = i ∧ i < l.length ∧ y = x) ∨ (j ≠ i ∧ l[j]? = some y) := by
  by_cases e : j = i
  · subst e
    by_cases hl : j < l.length
    · rw [List.getElem?_set_self hl] at h
      cases h
      exact .inl ⟨rfl, hl, rfl⟩
    · rw [List.getElem?_eq_none (by rw [List.length_set]; omega)] at h
      cases h
  · rw [List.getElem?_set_ne (Ne.symm e)] at h
    exact .inr ⟨e, h⟩
theorem Ows.sub {i : Nat} {s : Slot} {x : Option V} (hs : ∀ d, s ≠ .ow d) {b : Addr} (h : Ows (ρ.set i s) (σ.set i x) b) : Ows ρ σ b := by
  obtain ⟨j, e, h1, h2⟩ := h
  rcases set_get h1 with ⟨rfl, _, z⟩ | ⟨ne, h1⟩
  · exact absurd z.symm (hs e)
  · rcases set_get h2 with ⟨z, _⟩ | ⟨_, h2⟩
    · exact absurd z ne
    · exact ⟨j, e, h1, h2⟩
/-- a name gets a value that is free -/
theorem Sim.setSh (S : Sim K dr B0 H ρ σ st) {i : Nat} (hi : i < ρ.length) (r : Rep K dr H (BB B0 ρ σ) v d) : Sim K dr B0 H (ρ.set i (.sh d)) (σ.set i (some v)) st := by
  have sub : ∀ b, BB B0 (ρ.set i (.sh d)) (σ.set i (some v)) b → BB B0 ρ σ b ∨ H b = none := fun b z => z.elim (fun z => .inl (.inl z)) fun z => .inl (.inr (Ows.sub (by intro _ q; cases q) z))
  have hiσ : i < σ.length := by rw [← S.len]; exact hi
  refine ⟨S.drw, S.bdr, S.bsp, S.alo, fun j e h => ?_, fun j e h => ?_, fun j e h => ?_, fun j k e f a h1 h2 h3 h4 => ?_, by simp [S.len]⟩
  · rcases set_get h with ⟨rfl, _, z⟩ | ⟨ne, h⟩
    · cases z
      exact ⟨v, List.getElem?_set_self hiσ, Rep.anti sub _ _ r⟩
    · obtain ⟨w, e1, r1⟩ := S.sh j e h
      exact ⟨w, by rw [List.getElem?_set_ne (Ne.symm ne)]; exact e1, Rep.anti sub _ _ r1⟩
  · rcases set_get h with ⟨rfl, _, z⟩ | ⟨ne, h⟩
    · cases z
    · obtain ⟨a, e1, n, o⟩ := S.ow j e h
      refine ⟨a, by rw [List.getElem?_set_ne (Ne.symm ne)]; exact e1, n, ?_⟩
      cases e <;> first
        | exact o.elim
        | (obtain ⟨vs, q1, q2⟩ := o; exact ⟨vs, q1, Reps.anti sub _ _ q2⟩)
        | (obtain ⟨vs, q1, q2⟩ := o; exact ⟨vs, q1, ConD.anti sub q2⟩)
  · rcases set_get h with ⟨rfl, _, z⟩ | ⟨ne, h⟩
    · cases z
    · obtain ⟨a, e1, n, nd, o⟩ := S.le j e h
      refine ⟨a, by rw [List.getElem?_set_ne (Ne.symm ne)]; exact e1, n, nd, ?_⟩
      cases e <;> first
        | exact o.elim
        | (obtain ⟨vs, q1, q2⟩ := o; exact ⟨vs, q1, Reps.anti sub _ _ q2⟩)
        | (obtain ⟨vs, q1, q2⟩ := o; exact ⟨vs, q1, ConD.anti sub q2⟩)
  · rcases set_get h1 with ⟨rfl, _, z⟩ | ⟨ne1, h1⟩
    · cases z
    rcases set_get h2 with ⟨rfl, _, z⟩ | ⟨ne2, h2⟩
    · cases z
    rw [List.getElem?_set_ne (Ne.symm ne1)] at h3
    rw [List.getElem?_set_ne (Ne.symm ne2)] at h4
    exact S.sep j k e f a h1 h2 h3 h4
end

/-- what a target's binding leaves -/
structure Bnd (ρ ρ' : List Slot) (σ σ' : L2.St) (sl : List Nat) : Prop where
  ows : ∀ b, Ows ρ' σ' b → Ows ρ σ b
  out : ∀ i, i ∉ sl → σ'[i]? = σ[i]?
  len : σ'.length = σ.length
  rlen : ρ'.length = ρ.length
def _root_.Pf.Tg.isTp : Tg → Bool
  | .nm _ => false
  | .tp _ => true
theorem RepI.mono {K : PySem.W.Frag} {dr : Dr} {H : Hp} {B : Addr → Prop} {p q : Bool} {v : V} {d : D} (h : p = true → q = true) (r : RepI K dr H B p v d) : RepI K dr H B q v d := r.imp id fun ⟨z, w⟩ => ⟨h z, w⟩
theorem RepI.anti {K : PySem.W.Frag} {dr : Dr} {H : Hp} {B B' : Addr → Prop} {p : Bool} {v : V} {d : D} (w : ∀ b, B' b → B b ∨ H b = none) (r : RepI K dr H B p v d) : RepI K dr H B' p v d :=
  r.imp (Rep.anti w _ _) fun ⟨z, a, vs, ds, e1, e2, e3, rs⟩ => ⟨z, a, vs, ds, e1, e2, e3, Reps.anti w _ _ rs⟩
def gT (K : PySem.W.Frag) (dr : Dr) (tg : Tg) : TG := fun v σ H Q => ∃ B0 ρ st d ρ', Sim K dr B0 H ρ σ st ∧ RepI K dr H (BB B0 ρ σ) tg.isTp v d ∧ bindT tg d ρ = some ρ' ∧ ∀ σ', Sim K dr B0 H ρ' σ' st → Bnd ρ ρ' σ σ' tg.slots → Q σ' H
def gTs (K : PySem.W.Frag) (dr : Dr) (tgs : List Tg) : TGs := fun vs σ H Q => ∃ B0 ρ st ds ρ', Sim K dr B0 H ρ σ st ∧ Reps K dr H (BB B0 ρ σ) vs ds ∧ bindTs tgs ds ρ = some ρ' ∧ ∀ σ', Sim K dr B0 H ρ' σ' st → Bnd ρ ρ' σ σ' (slotsL tgs) → Q σ' H
theorem asg_toTg (N : List Str) (g : Tg) (t : PTr) (es : List Expr) (env : Env) : assignEach (toTg N g t :: es) env = (false, assign (toTg N g t) env) :: assignEach es env := by
  cases g <;> rfl
theorem asg_len (N : List Str) (env : Env) : ∀ (gs : List Tg) (ts : List PTr), (assignEach (toTgs N gs ts) env).length = gs.length ∧ (assignEach (toTgs N gs ts) env).findIdx? (·.1) = none
  | [], _ => ⟨rfl, rfl⟩
  | g :: gs, ts => by
    have ih := asg_len N env gs ts.tail
    show (assignEach (toTg N g (hdT ts) :: toTgs N gs ts.tail) env).length = _ ∧ (assignEach (toTg N g (hdT ts) :: toTgs N gs ts.tail) env).findIdx? (·.1) = none
    rw [asg_toTg]
    refine ⟨by simp [ih.1], ?_⟩
    rw [List.findIdx?_cons]
    simp [ih.2]
theorem bindTs_len : ∀ {gs : List Tg} {ds : List D} {ρ ρ' : List Slot}, bindTs gs ds ρ = some ρ' → ds.length = gs.length
  | [], [], _, _, _ => rfl
  | [], _ :: _, _, _, h => by simp [bindTs] at h
  | _ :: _, [], _, _, h => by simp [bindTs] at h
  | g :: gs, d :: ds, ρ, ρ', h => by
    simp only [bindTs, Option.bind_eq_some_iff] at h
    obtain ⟨ρ1, _, h2⟩ := h
    simp [bindTs_len h2]
section
variable {X : Cx} {dr : Dr} {N : List Str} {G : Nm} {Γ : Gam} {wr : Str → Bool}
mutual
theorem pg_T (g : Good N G Γ X.env.scope wr X) : ∀ (tg : Tg) (t : PTr), (∀ i ∈ tg.slots, i < N.length ∧ wr (N.getD i Str.empty) = true) → PG X (toTg N tg t) (gT X.K dr tg)
  | .nm i, t, hw => by
    obtain ⟨hi, hwr⟩ := hw i (by simp [Tg.slots])
    obtain ⟨hl, hf⟩ := g.wrt _ hwr
    have hx : X.N[i]? = some (N.getD i Str.empty) := by rw [g.hN, List.getD_eq_getElem?_getD, List.getElem?_eq_getElem hi]; rfl
    refine PG.imp (pg_name (by rw [g.hN]; exact g.nd) hx hl hf) ?_
    rintro v σ H Q ⟨B0, ρ, st, d, ρ', S, r, h, q⟩
    have r := r.elim id fun z => by cases z.1
    simp only [bindT] at h
    split at h
    · rename_i hil
      cases h
      refine q _ (S.setSh hil r) ⟨fun b z => Ows.sub (by intro _ e; cases e) z, fun j hj => ?_, by simp, by simp⟩
      rw [List.getElem?_set_ne]
      intro e
      subst e
      exact hj (by simp [Tg.slots])
    · cases h
  | .tp gs, t, hw => by
    have hs := pg_Ts g gs t.ts (by simpa [Tg.slots] using hw)
    obtain ⟨l1, l2⟩ := asg_len N X.env gs t.ts
    have pt : PG X (.Tuple (toTgs N gs t.ts) t.k (t.p 0)) (gTup X.K gs.length (gTs X.K dr gs)) := pg_tup g.calm hs l1 l2
    have pu : PG X (.Tuple (toTgs N gs t.ts) t.k (t.p 0)) (gUnl X.K gs.length (gTs X.K dr gs)) := pg_unl g.calm hs l1 l2
    refine ⟨fun pins s σ H v u Q I rv h => ?_⟩
    obtain ⟨B0, ρ, st, d, ρ', S, r, h, q⟩ := h
    cases d with
    | tuple ds =>
      have h' : bindTs gs ds ρ = some ρ' := by simpa [bindT] using h
      obtain ⟨a, vs, rfl, e, rs⟩ : ∃ a vs, v = .ref a ∧ SqT X.K H a vs ∧ Reps X.K dr H (BB B0 ρ σ) vs ds := by
        rcases r with r | ⟨_, a, vs, ds', e1, e2, e, rs⟩
        · cases r with
          | tup e rs => exact ⟨_, _, rfl, e.sqT, rs⟩
        · cases e2
          exact ⟨a, vs, e1, e, rs⟩
      exact pt.run pins s σ H _ u Q I rv ⟨_, _, rfl, e, by rw [rs.length, bindTs_len h'], B0, ρ, st, ds, ρ', S, rs, h', fun σ' S' b => q σ' S' (by simpa [Tg.slots] using b)⟩
    | list ds =>
      have h' : bindTs gs ds ρ = some ρ' := by simpa [bindT] using h
      have r := r.elim id fun ⟨_, _, _, _, _, z, _⟩ => by cases z
      cases r with
      | lst e n rs => exact pu.run pins s σ H _ u Q I rv ⟨_, _, rfl, SqL.of e, by rw [rs.length, bindTs_len h'], B0, ρ, st, ds, ρ', S, rs, h', fun σ' S' b => q σ' S' (by simpa [Tg.slots] using b)⟩
    | _ => simp [bindT] at h
theorem pg_Ts (g : Good N G Γ X.env.scope wr X) : ∀ (gs : List Tg) (ts : List PTr), (∀ i ∈ slotsL gs, i < N.length ∧ wr (N.getD i Str.empty) = true) → PGs X (toTgs N gs ts) (gTs X.K dr gs)
  | [], _, _ => by
    refine ⟨fun pins s σ H vs us Q I rv h => pgs_nil.run pins s σ H vs us Q I rv ?_⟩
    obtain ⟨B0, ρ, st, ds, ρ', S, r, h, q⟩ := h
    cases ds with
    | nil =>
      cases r
      simp only [bindTs, Option.some.injEq] at h
      subst h
      exact ⟨rfl, q σ S ⟨fun _ z => z, fun _ _ => rfl, rfl, rfl⟩⟩
    | cons _ _ => simp [bindTs] at h
  | tg :: gs, ts, hw => by
    have h1 := pg_T g tg (hdT ts) fun i hi => hw i (by simp [slotsL, hi])
    have h2 := pg_Ts g gs ts.tail fun i hi => hw i (by simp [slotsL, hi])
    have pc := pgs_cons h1 h2 (by rw [asg_toTg]; rfl)
    refine ⟨fun pins s σ H vs us Q I rv h => pc.run pins s σ H vs us Q I rv ?_⟩
    obtain ⟨B0, ρ, st, ds, ρ', S, r, h, q⟩ := h
    cases ds with
    | nil => simp [bindTs] at h
    | cons d ds =>
      cases r with
      | cons r rs =>
        simp only [bindTs, Option.bind_eq_some_iff] at h
        obtain ⟨ρ1, e1, e2⟩ := h
        refine ⟨_, _, rfl, B0, ρ, st, d, ρ1, S, .inl r, e1, fun σ1 S1 b1 => ?_⟩
        refine ⟨B0, ρ1, st, ds, ρ', S1, Reps.anti (fun b z => ?_) _ _ rs, e2, fun σ2 S2 b2 => ?_⟩
        · exact z.elim (fun z => .inl (.inl z)) fun z => .inl (.inr (b1.ows b z))
        · refine q σ2 S2 ⟨fun b z => b1.ows b (b2.ows b z), fun i hi => ?_, b2.len.trans b1.len, b2.rlen.trans b1.rlen⟩
          simp only [slotsL, List.mem_append, not_or] at hi
          rw [b2.out i hi.2, b1.out i hi.1]
end
end

section
variable {X : Cx} {dr : Dr} {Γ : Gam} {ea eb : Expr} {e e' : Ex} {es : Exs} {pos : Pos} {l : List Expr} {an : Bool}
abbrev bopOf (an : Bool) : BoolOp := if an then .And else .Or
theorem b_one (ha : PE X ea (tE X.K dr Γ e)) (ht : PT X ea (tT X.K dr Γ e)) : PE X (.BoolOp (bopOf an) [ea] pos) (tB' X.K dr Γ an (.cons e .nil)) ∧ PW X (.BoolOp (bopOf an) [ea] pos) (tBT X.K dr Γ an (.cons e .nil)) := by
  refine ⟨PE.imp (pe_one ha) ?_, ?_⟩
  · rintro σ H Q ⟨B0, ρ, st, d, st', S, h, q⟩
    simp only [evB] at h
    split at h
    · cases h
    rename_i hw
    exact ⟨B0, ρ, st, d, st', S, h, fun v H' p => q v H' p.kd p.dw (p.rep (by simpa using hw))⟩
  · have w : ∀ {σ H Q}, tBT X.K dr Γ an (.cons e .nil) σ H Q → tT X.K dr Γ e σ H Q := by
      rintro σ H Q ⟨B0, ρ, st, d, st', b, S, h, t, q⟩
      simp only [evB] at h
      split at h
      · cases h
      exact ⟨B0, ρ, st, d, st', b, S, h, t, q⟩
    cases an with
    | true => exact PW.imp (pw_and1 ht) fun σ H Q => w
    | false => exact PW.imp (pw_or1 ht) fun σ H Q => w
theorem b_cons (ha : PE X ea (tE X.K dr Γ e)) (ht : PT X ea (tT X.K dr Γ e)) (hr : PE X (.BoolOp (bopOf an) (eb :: l) pos) (tB' X.K dr Γ an (.cons e' es)) ∧ PW X (.BoolOp (bopOf an) (eb :: l) pos) (tBT X.K dr Γ an (.cons e' es))) :
    PE X (.BoolOp (bopOf an) (ea :: eb :: l) pos) (tB' X.K dr Γ an (.cons e (.cons e' es))) ∧ PW X (.BoolOp (bopOf an) (ea :: eb :: l) pos) (tBT X.K dr Γ an (.cons e (.cons e' es))) := by
  have open1 : ∀ {ρ st d st'}, evB Γ an (.cons e (.cons e' es)) ρ st = some (d, st') → ∃ x s1 k, isOw ρ e = false ∧ evE Γ e ρ st = some (x, s1) ∧ truD x = some k ∧ (if k = an then evB Γ an (.cons e' es) ρ s1 = some (d, st') else x = d ∧ s1 = st') := by
    intro ρ st d st' h
    simp only [evB] at h
    split at h
    · cases h
    rename_i hw
    simp only [Option.bind_eq_some_iff] at h
    obtain ⟨⟨x, s1⟩, h1, k, h2, h3⟩ := h
    refine ⟨x, s1, k, by simpa using hw, h1, h2, ?_⟩
    split at h3
    · rename_i z; rw [if_pos z]; exact h3
    · rename_i z; rw [if_neg z]; cases h3; exact ⟨rfl, rfl⟩
  cases an with
  | true =>
    refine ⟨PE.imp (pe_andW ha hr.1) ?_, PW.imp (pw_and ht hr.2) ?_⟩
    · rintro σ H Q ⟨B0, ρ, st, d, st', S, h, q⟩
      obtain ⟨x, s1, k, hw, h1, h2, h3⟩ := open1 h
      refine ⟨B0, ρ, st, x, s1, S, h1, fun v H1 p => ⟨k, tru_of p.repT h2, ?_⟩⟩
      have S1 := S.post p
      cases k with
      | true =>
        rw [if_pos rfl] at h3 ⊢
        exact ⟨B0, ρ, s1, d, st', S1, h3, fun v H2 k2 w2 r2 => q v H2 (p.kd.trans k2) w2 r2⟩
      | false =>
        rw [if_neg Bool.false_ne_true] at h3 ⊢
        obtain ⟨rfl, rfl⟩ := h3
        exact q v H1 p.kd p.dw (p.rep hw)
    · rintro σ H Q ⟨B0, ρ, st, d, st', b, S, h, t, q⟩
      obtain ⟨x, s1, k, hw, h1, h2, h3⟩ := open1 h
      refine ⟨B0, ρ, st, x, s1, k, S, h1, h2, fun H1 k1 w1 => ?_⟩
      have S1 := S.kd k1 w1
      cases k with
      | true =>
        rw [if_pos rfl] at h3
        exact ⟨B0, ρ, s1, d, st', b, S1, h3, t, fun H2 k2 w2 => q H2 (k1.trans k2) w2⟩
      | false =>
        rw [if_neg Bool.false_ne_true] at h3
        obtain ⟨rfl, rfl⟩ := h3
        rw [h2] at t
        cases t
        exact q H1 k1 w1
  | false =>
    refine ⟨PE.imp (pe_orW ha hr.1) ?_, PW.imp (pw_or ht hr.2) ?_⟩
    · rintro σ H Q ⟨B0, ρ, st, d, st', S, h, q⟩
      obtain ⟨x, s1, k, hw, h1, h2, h3⟩ := open1 h
      refine ⟨B0, ρ, st, x, s1, S, h1, fun v H1 p => ⟨k, tru_of p.repT h2, ?_⟩⟩
      have S1 := S.post p
      cases k with
      | false =>
        rw [if_pos rfl] at h3
        rw [if_neg Bool.false_ne_true]
        exact ⟨B0, ρ, s1, d, st', S1, h3, fun v H2 k2 w2 r2 => q v H2 (p.kd.trans k2) w2 r2⟩
      | true =>
        rw [if_neg (fun z => Bool.noConfusion z)] at h3
        rw [if_pos rfl]
        obtain ⟨rfl, rfl⟩ := h3
        exact q v H1 p.kd p.dw (p.rep hw)
    · rintro σ H Q ⟨B0, ρ, st, d, st', b, S, h, t, q⟩
      obtain ⟨x, s1, k, hw, h1, h2, h3⟩ := open1 h
      refine ⟨B0, ρ, st, x, s1, k, S, h1, h2, fun H1 k1 w1 => ?_⟩
      have S1 := S.kd k1 w1
      cases k with
      | false =>
        rw [if_pos rfl] at h3
        exact ⟨B0, ρ, s1, d, st', b, S1, h3, t, fun H2 k2 w2 => q H2 (k1.trans k2) w2⟩
      | true =>
        rw [if_neg (fun z => Bool.noConfusion z)] at h3
        obtain ⟨rfl, rfl⟩ := h3
        rw [h2] at t
        cases t
        exact q H1 k1 w1
end
end Pf

namespace Pf
open PySem PySem.Spec PyProof.Rows L2
variable [Mode]

/-- what may be written while a walk goes on -/
def Free (K : PySem.W.Frag) (dr : Dr) (B : Addr → Prop) (ow : Bool) (H1 : Hp) (W : Addr → Prop) : Prop := ∀ b, W b → H1 b ≠ none → B b ∧ (ow = true → b = dr.a)
def tI (K : PySem.W.Frag) (dr : Dr) (Γ : Gam) (it : It) : TI := fun σ H R => ∃ B0 ρ st items st', Sim K dr B0 H ρ σ st ∧ evI Γ it ρ st = some (items, st') ∧
  ∀ J H1, KD dr H H1 → DrawOk K dr H1 st' → (∀ W B', Free K dr (BB B0 ρ σ) (isOwI ρ it) H1 W → (∀ b, B' b → BB B0 ρ σ b ∨ H1 b = none) → (∀ b, W b → H1 b ≠ none → B' b) → Wk K dr (isPair it) J items H1 B' W) → R J H1
section
variable {K : PySem.W.Frag} {dr : Dr} {B0 : Addr → Prop} {H H' : Hp} {ρ : List Slot} {σ : L2.St} {st st' : DS} {d : D} {v : V} {e : Ex}
/-- a list as it is walked: not written -/
theorem PostE.free {ds : List D} (S : Sim K dr B0 H ρ σ st) (p : PostE K dr (BB B0 ρ σ) H ρ e (.list ds) st' v H') : ∃ a vs, v = .ref a ∧ H' a = some (.lst vs) ∧ Reps K dr H' (BB B0 ρ σ) vs ds ∧ ∀ W ow, (ow = false → isOw ρ e = false) → Free K dr (BB B0 ρ σ) ow H' W → ¬ W a := by
  obtain ⟨p1, p2, rt, rp, _⟩ := p
  rcases rt with r | ⟨a, vs, ds', e1, e2, e3, r⟩ | ⟨_, _, _, _, e2, _⟩
  · cases r with
    | @lst a vs _ e n rs => exact ⟨a, vs, rfl, e, rs, fun W ow _ f w => n (f a w (by rw [e]; exact fun z => by cases z)).1⟩
  · cases e2
    refine ⟨a, vs, e1, e3.1, r, fun W ow ho f w => ?_⟩
    obtain ⟨hb, hd⟩ := f a w (by rw [e3.1]; exact fun z => by cases z)
    cases ow with
    | true => exact e3.2.1 (hd rfl)
    | false =>
      have r' := rp (ho rfl)
      subst e1
      cases r' with
      | lst _ n _ => exact n hb
  · cases e2
end
section
variable {X : Cx} {dr : Dr} {Γ : Gam} {N : List Str} {G : Nm} {wr : Str → Bool} {ea eb : Expr} {a b e : Ex} {t : PTr} {tg : Expr} {pos p : Pos}
theorem PI.none_ {tg e : Expr} {t : TI} (h : ∀ σ H R, ¬ t σ H R) : PI X tg e t := ⟨fun _ _ σ H R _ q => (h σ H R q).elim⟩
theorem i_seq (ha : PE X ea (tE X.K dr Γ a)) : PI X tg ea (tI X.K dr Γ (.seq a)) := by
  refine ⟨fun pins s σ H R I h => ?_⟩
  obtain ⟨B0, ρ, st, items, st', S, h, q⟩ := h
  simp only [evI, Option.bind_eq_some_iff, Option.map_eq_some_iff, Prod.mk.injEq] at h
  obtain ⟨⟨d, s1⟩, h1, ds, h2, rfl, rfl⟩ := h
  cases d with
  | list xs =>
    cases h2
    refine (pi_list ha).run pins s σ H R I ⟨B0, ρ, st, _, s1, S, h1, fun v H1 p => ?_⟩
    obtain ⟨a', vs, rfl, e1, rs, f⟩ := p.free S
    exact ⟨a', rfl, ⟨vs, SqL.of e1⟩, q _ H1 p.kd p.dw fun W B' fw hb hw => wk_list e1 (Reps.anti hb _ _ rs) (f W _ (fun z => z) fw) hw⟩
  | tuple xs =>
    cases h2
    refine (pi_tup ha).run pins s σ H R I ⟨B0, ρ, st, _, s1, S, h1, fun v H1 p => ?_⟩
    obtain ⟨a', vs, rfl, e1, rs⟩ := p.repT.tuple
    exact ⟨a', rfl, ⟨vs, e1⟩, q _ H1 p.kd p.dw fun W B' fw hb hw => wk_tup e1 (Reps.anti hb _ _ rs) hw⟩
  | str x =>
    cases h2
    refine (pi_str ha).run pins s σ H R I ⟨B0, ρ, st, _, s1, S, h1, fun v H1 p => ?_⟩
    obtain rfl := p.repT.str
    exact ⟨x, rfl, q _ H1 p.kd p.dw fun W B' fw hb hw => wk_str⟩
  | dict es =>
    unfold itrD at h2
    split at h2
    · rename_i z
      obtain ⟨rfl⟩ : es = _ := PyData.dict.inj z
      split at h2
      · cases h2
      rename_i ho
      cases h2
      have ho : isOw ρ a = false := by simpa using ho
      refine (pi_keys ha).run pins s σ H R I ⟨B0, ρ, st, _, s1, S, h1, fun v H1 p => ?_⟩
      rcases (p.rep ho).dict with ⟨_, z⟩ | ⟨c, o, u, rfl, e1, rs⟩
      · cases z
      cases rs with
      | k r => exact ⟨c, o, rfl, .inl ⟨_, e1, q _ H1 p.kd p.dw fun W B' fw hb hw => wk_keys e1 (RepK.anti hb _ _ r)⟩⟩
      | t m r => exact ⟨c, o, rfl, .inr ⟨_, e1, q _ H1 p.kd p.dw fun W B' fw hb hw => wk_keysT m e1 (RepU.anti hb _ _ r)⟩⟩
    · rename_i z; cases z
    · rename_i z; cases z
    · rename_i z; cases z
    · cases h2
  | _ => cases h2
theorem i_its {elts : List Expr} {kk : Nat} {tpos cpos : Pos} (ha : PE X ea (tE X.K dr Γ a)) (hbase : attributeBase ea "items" X.env (eval ea X.env) = eval ea X.env) (hline : (pos.endLine == cpos.line) = true) : PI X (.Tuple elts kk tpos) (.Call (.Attribute ea "items" pos) [] [] cpos) (tI X.K dr Γ (.its a)) := by
  refine ⟨fun pins s σ H R I h => ?_⟩
  obtain ⟨B0, ρ, st, items, st', S, h, q⟩ := h
  simp only [evI] at h
  split at h
  · cases h
  rename_i ho
  have ho : isOw ρ a = false := by simpa using ho
  simp only [Option.bind_eq_some_iff, Option.map_eq_some_iff, Prod.mk.injEq] at h
  obtain ⟨⟨d, s1⟩, h1, ds, h2, rfl, rfl⟩ := h
  unfold itsD at h2
  split at h2
  · rename_i es z
    have z : d = .dict ((.bool false, .none) :: es) := z
    subst z
    cases h2
    refine (pi_items ha hbase hline).run pins s σ H R I ⟨B0, ρ, st, _, s1, S, h1, fun v H1 p => ?_⟩
    rcases (p.rep ho).dict with ⟨_, z⟩ | ⟨c, o, u, rfl, e1, rs⟩
    · cases z
    cases rs with
    | k r => exact ⟨c, o, _, rfl, e1, q _ H1 p.kd p.dw fun W B' fw hb hw => wk_items e1 (RepK.anti hb _ _ r) hw⟩
  · cases h2
theorem i_vls {cpos : Pos} (ha : PE X ea (tE X.K dr Γ a)) (hbase : attributeBase ea "values" X.env (eval ea X.env) = eval ea X.env) (hline : (pos.endLine == cpos.line) = true) : PI X tg (.Call (.Attribute ea "values" pos) [] [] cpos) (tI X.K dr Γ (.vls a)) := by
  refine ⟨fun pins s σ H R I h => ?_⟩
  obtain ⟨B0, ρ, st, items, st', S, h, q⟩ := h
  simp only [evI] at h
  split at h
  · cases h
  rename_i ho
  have ho : isOw ρ a = false := by simpa using ho
  simp only [Option.bind_eq_some_iff, Option.map_eq_some_iff, Prod.mk.injEq] at h
  obtain ⟨⟨d, s1⟩, h1, ds, h2, rfl, rfl⟩ := h
  unfold vlsD at h2
  split at h2
  · rename_i es z
    have z : d = .dict ((.bool false, .none) :: es) := z
    subst z
    cases h2
    refine (pi_values ha hbase hline).run pins s σ H R I ⟨B0, ρ, st, _, s1, S, h1, fun v H1 p => ?_⟩
    rcases (p.rep ho).dict with ⟨_, z⟩ | ⟨c, o, u, rfl, e1, rs⟩
    · cases z
    cases rs with
    | k r => exact ⟨c, o, _, rfl, e1, q _ H1 p.kd p.dw fun W B' fw hb hw => wk_vals e1 (RepK.anti hb _ _ r) hw⟩
  · cases h2
theorem i_rev (g : Good N G Γ X.env.scope wr X) (hg : Gl X "reversed") (ha : PE X (toE N G a t) (tE X.K dr Γ a)) : PI X tg (.Call (.Name "reversed" p) [toE N G a t] [] pos) (tI X.K dr Γ (.rev a)) := by
  refine ⟨fun pins s σ H R I h => ?_⟩
  obtain ⟨B0, ρ, st, items, st', S, h, q⟩ := h
  simp only [evI, Option.bind_eq_some_iff, Option.map_eq_some_iff, Prod.mk.injEq] at h
  obtain ⟨⟨d, s1⟩, h1, ds, h2, rfl, rfl⟩ := h
  refine (RT.pi_revA hg (g.blt "reversed" (by decide +kernel)) ha (star_toE N G a t [] X.env)).run pins s σ H R I ⟨B0, ρ, st, _, s1, S, h1, fun v H1 p => ?_⟩
  cases d with
  | list xs =>
    cases h2
    obtain ⟨a', vs, rfl, e1, rs, f⟩ := p.free S
    exact ⟨a', vs, rfl, .inl ⟨SqL.of e1, q _ H1 p.kd p.dw fun W B' fw hb hw => wk_rev e1 (Reps.anti hb _ _ rs) (f W _ (fun z => z) fw) hw⟩⟩
  | tuple xs =>
    cases h2
    obtain ⟨a', vs, rfl, e1, rs⟩ := p.repT.tuple
    exact ⟨a', vs, rfl, .inr ⟨e1, q _ H1 p.kd p.dw fun W B' fw hb hw => wk_revT e1 (Reps.anti hb _ _ rs) hw⟩⟩
  | _ => cases h2
theorem rng_of {i : Int} (h : rngOk i = true) : -(2 ^ 62) ≤ i ∧ i < 2 ^ 62 := by
  have h' := of_decide_eq_true (show decide _ = true from h)
  omega
theorem i_rng {es : Exs} {ts : List PTr} (g : Good N G Γ X.env.scope wr X) (hg : Gl X "range") (ha : PA X (toEs N G es ts) (tEs X.K dr Γ es)) : PI X tg (.Call (.Name "range" p) (toEs N G es ts) [] pos) (tI X.K dr Γ (.rng es)) := by
  have hm := g.blt "range" (by decide +kernel)
  have open1 : ∀ {ρ st items st'}, evI Γ (.rng es) ρ st = some (items, st') → ∃ ds, evEs Γ es ρ st = some (ds, st') ∧ rngD ds = some items := by
    intro ρ st items st' h
    simp only [evI, Option.bind_eq_some_iff, Option.map_eq_some_iff, Prod.mk.injEq] at h
    obtain ⟨⟨ds, s1⟩, h1, d', h2, rfl, rfl⟩ := h
    exact ⟨ds, h1, h2⟩
  have len1 : ∀ {es : Exs} {ρ st ds st'}, evEs Γ es ρ st = some (ds, st') → ds.length = es.len := by
    intro es
    induction es using Exs.rec (motive_1 := fun _ => True) (motive_3 := fun _ => True) <;> try trivial
    case nil => intro ρ st ds st' h; cases h; rfl
    case cons e es _ ih =>
      intro ρ st ds st' h
      simp only [evEs, Option.bind_eq_some_iff, Option.map_eq_some_iff, Prod.mk.injEq] at h
      obtain ⟨_, _, ⟨d2, s2⟩, h2, rfl, rfl⟩ := h
      simp [Exs.len, ih h2]
  cases es with
  | nil =>
    refine PI.none_ ?_
    rintro σ H R ⟨B0, ρ, st, items, st', S, h, q⟩
    obtain ⟨ds, h1, h2⟩ := open1 h
    cases h1
    cases h2
  | cons e1 es =>
    cases es with
    | nil =>
      refine PI.imp (pi_range1 hg hm ha (star_toE N G e1 (hdT ts) [] X.env)) ?_
      rintro σ H R ⟨B0, ρ, st, items, st', S, h, q⟩
      obtain ⟨ds, h1, h2⟩ := open1 h
      refine ⟨B0, ρ, st, ds, st', S, h1, fun vs H1 k1 w1 r1 _ => ?_⟩
      unfold rngD at h2
      split at h2
      · obtain ⟨hn, rfl⟩ := ite_some h2
        obtain ⟨v, rfl, r⟩ := r1.one
        obtain rfl := r.int
        obtain ⟨b1, b2⟩ := rng_of hn
        refine ⟨_, rfl, b1, b2, q _ H1 k1 w1 fun W B' _ _ _ => ?_⟩
        have z := wk_range (K := X.K) (dr := dr) (H1 := H1) (B := B') (W := W) (lo := 0) (n := Int.toNat ‹Int›)
        simpa [isPair] using z
      · have := len1 h1
        simp [Exs.len] at this
      · have := len1 h1
        simp [Exs.len] at this
      · cases h2
    | cons e2 es =>
      cases es with
      | nil =>
        refine PI.imp (pi_range2 hg hm ha (by rw [star_toE, star_toE]; rfl) (star_toE N G e2 (hdT ts.tail) [] X.env)) ?_
        rintro σ H R ⟨B0, ρ, st, items, st', S, h, q⟩
        obtain ⟨ds, h1, h2⟩ := open1 h
        refine ⟨B0, ρ, st, ds, st', S, h1, fun vs H1 k1 w1 r1 _ => ?_⟩
        unfold rngD at h2
        split at h2
        · have := len1 h1
          simp [Exs.len] at this
        · obtain ⟨hn, rfl⟩ := ite_some h2
          obtain ⟨v, w, rfl, r, r'⟩ := r1.two
          obtain rfl := r.int
          obtain rfl := r'.int
          simp only [Bool.and_eq_true] at hn
          obtain ⟨b1, b2⟩ := rng_of hn.1
          obtain ⟨b3, b4⟩ := rng_of hn.2
          exact ⟨_, _, rfl, ⟨b1, b2, b3, b4⟩, q _ H1 k1 w1 fun W B' _ _ _ => wk_range⟩
        · have := len1 h1
          simp [Exs.len] at this
        · cases h2
      | cons e3 es =>
        cases es with
        | nil =>
          refine PI.imp (pi_range3 hg hm ha (star_toE N G e1 (hdT ts) _ X.env) (by rw [star_toE, star_toE]; rfl)) ?_
          rintro σ H R ⟨B0, ρ, st, items, st', S, h, q⟩
          obtain ⟨ds, h1, h2⟩ := open1 h
          refine ⟨B0, ρ, st, ds, st', S, h1, fun vs H1 k1 w1 r1 _ => ?_⟩
          have hl := len1 h1
          unfold rngD at h2
          split at h2
          · simp [Exs.len] at hl
          · simp [Exs.len] at hl
          · obtain ⟨hn, rfl⟩ := ite_some h2
            cases r1 with
            | cons r rr =>
              obtain ⟨v, w, rfl, r', r''⟩ := rr.two
              obtain rfl := r.int
              obtain rfl := r'.int
              obtain rfl := r''.int
              simp only [Bool.and_eq_true, decide_eq_true_eq] at hn
              obtain ⟨b1, b2⟩ := rng_of hn.1.1
              obtain ⟨b3, b4⟩ := rng_of hn.1.2
              obtain rfl := hn.2
              exact ⟨_, _, _, _, rfl, RgC.neg b1 b2 b3 b4, q _ H1 k1 w1 fun W B' _ _ _ => wk_rangeC⟩
          · cases h2
        | cons e4 es =>
          refine PI.none_ ?_
          rintro σ H R ⟨B0, ρ, st, items, st', S, h, q⟩
          obtain ⟨ds, h1, h2⟩ := open1 h
          have hl := len1 h1
          unfold rngD at h2
          split at h2
          · simp [Exs.len] at hl
          · simp [Exs.len] at hl
          · simp [Exs.len] at hl
          · cases h2
theorem i_enm {elts : List Expr} {kk : Nat} {tpos : Pos} (g : Good N G Γ X.env.scope wr X) (hg : Gl X "enumerate") (ha : PE X (toE N G a t) (tE X.K dr Γ a)) :
    PI X (.Tuple elts kk tpos) (.Call (.Name "enumerate" p) [toE N G a t] [] pos) (tI X.K dr Γ (.enm a)) := by
  have hm := g.blt "enumerate" (by decide +kernel)
  have pa : PA X [toE N G a t] (tCons (tE X.K dr Γ a) tNil) := pa_cons ha pa_nil (star_toE N G a t [] X.env)
  refine ⟨fun pins s σ H R I h => ?_⟩
  obtain ⟨B0, ρ, st, items, st', S, h, q⟩ := h
  simp only [evI, Option.bind_eq_some_iff, Option.map_eq_some_iff, Prod.mk.injEq] at h
  obtain ⟨⟨d, s1⟩, h1, ds, h2, rfl, rfl⟩ := h
  cases d with
  | list xs =>
    cases h2
    refine (pi_enum hg hm pa (star_toE N G a t [] X.env)).run pins s σ H R I ⟨B0, ρ, st, _, s1, S, h1, fun v H1 p => ?_⟩
    obtain ⟨a', vs, rfl, e1, rs, f⟩ := p.free S
    exact ⟨a', vs, rfl, SqL.of e1, q _ H1 p.kd p.dw fun W B' fw hb hw => wk_enum e1 (Reps.anti hb _ _ rs) (f W _ (fun z => z) fw) hw⟩
  | tuple xs =>
    cases h2
    refine (pi_enumT hg hm pa (star_toE N G a t [] X.env)).run pins s σ H R I ⟨B0, ρ, st, _, s1, S, h1, fun v H1 p => ?_⟩
    obtain ⟨a', vs, rfl, e1, rs⟩ := p.repT.tuple
    exact ⟨a', vs, rfl, e1, q _ H1 p.kd p.dw fun W B' fw hb hw => wk_enumT e1 (Reps.anti hb _ _ rs) hw⟩
  | _ => cases h2
theorem i_zip {elts : List Expr} {kk : Nat} {tpos : Pos} {t' : PTr} (g : Good N G Γ X.env.scope wr X) (hg : Gl X "zip") (ha : PE X (toE N G a t) (tE X.K dr Γ a)) (hb : PE X (toE N G b t') (tE X.K dr Γ b)) :
    PI X (.Tuple elts kk tpos) (.Call (.Name "zip" p) [toE N G a t, toE N G b t'] [] pos) (tI X.K dr Γ (.zip a b)) := by
  have hm := g.blt "zip" (by decide +kernel)
  have sb := star_toE N G b t' [] X.env
  have pa : PA X [toE N G a t, toE N G b t'] (tCons (tE X.K dr Γ a) (tCons (tE X.K dr Γ b) tNil)) := pa_cons ha (pa_cons hb pa_nil sb) (star_toE N G a t _ X.env)
  have hpl : (backTo pos (starEach [toE N G b t'] X.env)).any (·.1) = false := by rw [sb]; rfl
  refine PI.imp (RZ.pi_zipA hg hm pa (star_toE N G a t _ X.env) hpl) ?_
  rintro σ H R ⟨B0, ρ, st, items, st', S, h, q⟩
  simp only [evI, Option.bind_eq_some_iff, Option.map_eq_some_iff, Prod.mk.injEq] at h
  obtain ⟨⟨d, s1⟩, h1, ⟨d2, s2⟩, h2, ds, h3, rfl, rfl⟩ := h
  refine ⟨B0, ρ, st, d, s1, S, h1, fun v1 H1 p1 => ?_⟩
  have S1 := S.post p1
  refine ⟨B0, ρ, s1, d2, s2, S1, h2, fun v2 H2 p2 => ?_⟩
  have kk := p1.kd.trans p2.kd
  cases d with
  | list xs =>
    cases d2 with
    | list ys =>
      cases h3
      obtain ⟨a1, vs, rfl, e1, r1, f1⟩ := p1.free S
      obtain ⟨a2, us, rfl, e2, r2, f2⟩ := p2.free S1
      have e1' : H2 a1 = some (.lst vs) := by
        refine p2.kd.keep _ _ ?_ e1
        intro z
        subst z
        have f3 := f1 (fun b => b = dr.a) true (fun z => by cases z) (fun b hb _ => by subst hb; exact ⟨S.drB, fun _ => rfl⟩)
        exact f3 rfl
      have r1' := Reps.kp p2.kd S.bd _ _ r1
      refine ⟨a1, a2, vs, us, rfl, .inl ⟨SqL.of e1', SqL.of e2, q _ H2 kk p2.dw fun W B' fw hb hw => ?_⟩⟩
      have fw1 : Free X.K dr (BB B0 ρ σ) (isOw ρ a) H1 (fun b => W b ∧ H1 b ≠ none) := fun c hc _ => by
        have n2 : H2 c ≠ none := fun z => by
          cases y : H1 c with
          | none => exact hc.2 y
          | some o =>
            by_cases hd : c = dr.a
            · subst hd
              rw [p2.dw.1] at z
              cases z
            · rw [p2.kd.keep _ _ hd y] at z
              cases z
        obtain ⟨u1, u2⟩ := fw c hc.1 n2
        exact ⟨u1, fun z => u2 (by simp only [isOwI, z, Bool.true_or])⟩
      have fw2 : Free X.K dr (BB B0 ρ σ) (isOw ρ b) H2 W := fun c hc n => by
        obtain ⟨u1, u2⟩ := fw c hc n
        exact ⟨u1, fun z => u2 (by simp only [isOwI, z, Bool.or_true])⟩
      have na : ¬ W a1 := fun z => f1 _ _ (fun z => z) fw1 ⟨z, by rw [e1]; exact fun y => by cases y⟩
      exact wk_zip e1' (Reps.anti hb _ _ r1') e2 (Reps.anti hb _ _ r2) na (f2 W _ (fun z => z) fw2) hw
    | _ => cases h3
  | tuple xs =>
    cases d2 with
    | tuple ys =>
      cases h3
      obtain ⟨a1, vs, rfl, e1, r1⟩ := p1.repT.tuple
      obtain ⟨a2, us, rfl, e2, r2⟩ := p2.repT.tuple
      have r1' := Reps.kp p2.kd S.bd _ _ r1
      exact ⟨a1, a2, vs, us, rfl, .inr ⟨p2.kd.sqT e1, e2, q _ H2 kk p2.dw fun W B' fw hb hw => wk_zipT (p2.kd.sqT e1) (Reps.anti hb _ _ r1') e2 (Reps.anti hb _ _ r2) hw⟩⟩
    | _ => cases h3
  | _ => cases h3

theorem wipe_get {ρ : List Slot} {j : Nat} {s : Slot} : ∀ {vs : List Nat}, (wipeR ρ vs)[j]? = some s → s = .no ∨ (ρ[j]? = some s ∧ j ∉ vs)
  | [], h => .inr ⟨h, by simp⟩
  | v :: vs, h => by
    rcases set_get (show ((wipeR ρ vs).set v .no)[j]? = some s from h) with ⟨_, _, e⟩ | ⟨ne, h⟩
    · exact .inl e
    · rcases wipe_get h with e | ⟨e, n⟩
      · exact .inl e
      · exact .inr ⟨e, by simp [ne, n]⟩
theorem wipeR_len (ρ : List Slot) : ∀ vs : List Nat, (wipeR ρ vs).length = ρ.length
  | [] => rfl
  | v :: vs => by simp [wipeR, wipeR_len ρ vs]
theorem blk_get {ρ : List Slot} {j : Nat} {s : Slot} {vs : List Nat} (h : (blkR ρ vs)[j]? = some s) : (s = .no) ∨ (j ∉ vs ∧ ((∃ d, s = .sh d ∧ ρ[j]? = some (.sh d)) ∨ ∃ d, s = .le d ∧ (ρ[j]? = some (.ow d) ∨ ρ[j]? = some (.le d)))) := by
  unfold blkR at h
  rw [List.getElem?_map] at h
  obtain ⟨s', h1, h2⟩ := Option.map_eq_some_iff.mp h
  rcases wipe_get h1 with rfl | ⟨h1, n⟩
  · exact .inl h2.symm
  · cases s' with
    | no => exact .inl h2.symm
    | sh d => exact .inr ⟨n, .inl ⟨d, h2.symm, h1⟩⟩
    | ow d => exact .inr ⟨n, .inr ⟨d, h2.symm, .inl h1⟩⟩
    | le d => exact .inr ⟨n, .inr ⟨d, h2.symm, .inr h1⟩⟩
theorem wipe_out {σ : L2.St} {i : Nat} : ∀ {vs : List Nat}, i ∉ vs → (wipe σ vs)[i]? = σ[i]?
  | [], _ => rfl
  | v :: vs, h => by
    simp only [List.mem_cons, not_or] at h
    show ((wipe σ vs).set v none)[i]? = _
    rw [List.getElem?_set_ne (Ne.symm h.1), wipe_out h.2]
section
variable {K : PySem.W.Frag} {dr : Dr} {D0 : Addr} {B0 : Addr → Prop} {H1 : Hp} {ρ : List Slot} {σ : L2.St} {st : DS} {vs : List Nat}
theorem blk_noOw : ∀ (i : Nat) (d : D), (blkR ρ vs)[i]? ≠ some (.ow d) := fun i d h => by
  rcases blk_get h with e | ⟨_, ⟨_, e, _⟩ | ⟨_, e, _⟩⟩ <;> cases e
theorem blk_back (hD : H1 D0 = none) : ∀ b, BB (fun b => BB B0 ρ σ b ∨ b = D0) (blkR ρ vs) (wipe σ vs) b → BB B0 ρ σ b ∨ H1 b = none := fun b z => by
  rcases z with (z | z) | ⟨i, d, z, _⟩
  · exact .inl z
  · subst z; exact .inr hD
  · exact absurd z (blk_noOw i d)
theorem blk_keep (S : Sim K dr B0 H1 ρ σ st) : ∀ b, (b = dr.a ∨ H1 b = none) → H1 b ≠ none → BB (fun b => BB B0 ρ σ b ∨ b = D0) (blkR ρ vs) (wipe σ vs) b := fun b z n => by
  rcases z with z | z
  · subst z; exact .inl (.inl (.inl S.bdr))
  · exact absurd z n
end
/-- the block's start, wherever the loop stands -/
theorem Sim.block {K : PySem.W.Frag} {dr : Dr} {D0 : Addr} {B0 : Addr → Prop} {H1 H : Hp} {ρ : List Slot} {σ : L2.St} {st st' : DS} (S : Sim K dr B0 H1 ρ σ st) (k : Kp (fun b => b = dr.a ∨ H1 b = none) H1 H) (w : DrawOk K dr H st') (hD : H1 D0 = none) (hD' : H D0 ≠ none) (vs : List Nat) :
    Sim K dr (fun b => BB B0 ρ σ b ∨ b = D0) H (blkR ρ vs) (wipe σ vs) st' := by
  have noOw := blk_noOw (ρ := ρ) (vs := vs)
  have back := blk_back (B0 := B0) (ρ := ρ) (σ := σ) (vs := vs) hD
  have keepB : ∀ b, (b = dr.a ∨ H1 b = none) ∧ H1 b ≠ none → BB (fun b => BB B0 ρ σ b ∨ b = D0) (blkR ρ vs) (wipe σ vs) b := fun b z => blk_keep S b z.1 z.2
  have rep : ∀ {d : D} {v : V}, Rep K dr H1 (BB B0 ρ σ) v d → Rep K dr H (BB (fun b => BB B0 ρ σ b ∨ b = D0) (blkR ρ vs) (wipe σ vs)) v d := fun {d v} r => Rep.kp k.alloc keepB _ _ (Rep.anti back _ _ r)
  have own : ∀ {d : D} {a : Addr}, a ≠ dr.a → Own K dr H1 (BB B0 ρ σ) a d → Own K dr H (BB (fun b => BB B0 ρ σ b ∨ b = D0) (blkR ρ vs) (wipe σ vs)) a d := fun {d a} n o => by
    cases d <;> first
      | exact o.elim
      | (obtain ⟨ws, e, r⟩ := o
         exact ⟨ws, k.keep _ _ (fun z => z.elim n fun q => by rw [e] at q; cases q) e, Reps.kp k.alloc keepB _ _ (Reps.anti back _ _ r)⟩)
      | (obtain ⟨ws, e, r⟩ := o
         exact ⟨ws, k.keep _ _ (fun z => z.elim n fun q => by rw [e] at q; cases q) e, ConD.kp k.alloc keepB (ConD.anti back r)⟩)
  refine ⟨w, .inl (.inl S.bdr), .inl (.inl S.bsp), fun b z => ?_, fun i d h => ?_, fun i d h => absurd h (noOw i d), fun i d h => ?_, fun i j d e a h => absurd h (noOw i d), ?_⟩
  · rcases z with z | z
    · intro q
      by_cases hb : b = dr.a
      · subst hb
        rw [w.1] at q
        cases q
      · cases y : H1 b with
        | none => exact S.fresh y z
        | some o =>
          rw [k.keep b o (fun z => z.elim hb fun u => by rw [y] at u; cases u) y] at q
          cases q
    · subst z; exact hD'
  · rcases blk_get h with e | ⟨n, ⟨d', e, h1⟩ | ⟨d', e, h1⟩⟩
    · cases e
    · cases e
      obtain ⟨v, e1, r⟩ := S.sh i d h1
      exact ⟨v, by rw [wipe_out n]; exact e1, rep r⟩
    · cases e
  · rcases blk_get h with e | ⟨n, ⟨d', e, h1⟩ | ⟨d', e, h1⟩⟩
    · cases e
    · cases e
    · cases e
      rcases h1 with h1 | h1
      · obtain ⟨a, e1, nb, o⟩ := S.ow i d h1
        exact ⟨a, by rw [wipe_out n]; exact e1, .inl (.inr ⟨i, d, h1, e1⟩), ⟨fun z => nb (by rw [z]; exact S.bdr), fun z => nb (by rw [z]; exact S.bsp)⟩, own (fun z => nb (by rw [z]; exact S.bdr)) o⟩
      · obtain ⟨a, e1, nb, nd, o⟩ := S.le i d h1
        exact ⟨a, by rw [wipe_out n]; exact e1, .inl (.inl nb), nd, own nd.1 o⟩
  · unfold blkR
    rw [List.length_map, wipeR_len, wipe_length, S.len]
theorem wipe_set {σ σ' : L2.St} : ∀ {vs : List Nat}, σ'.length = σ.length → (∀ i, i ∉ vs → σ'[i]? = σ[i]?) → wipe σ' vs = wipe σ vs := by
  intro vs hl ho
  refine List.ext_getElem? fun i => ?_
  by_cases hi : i ∈ vs
  · have z : ∀ (τ : L2.St) (us : List Nat), i ∈ us → (wipe τ us)[i]? = if i < τ.length then some none else none := by
      intro τ us
      induction us with
      | nil => intro h; cases h
      | cons u us ih =>
        intro h
        show ((wipe τ us).set u none)[i]? = _
        by_cases e : u = i
        · subst e
          by_cases hlt : u < τ.length
          · rw [List.getElem?_set_self (by rw [wipe_length]; exact hlt), if_pos hlt]
          · rw [List.getElem?_eq_none (by rw [List.length_set, wipe_length]; omega), if_neg hlt]
        · rw [List.getElem?_set_ne e]
          exact ih ((List.mem_cons.mp h).resolve_left (fun q => e q.symm))
    rw [z σ' vs hi, z σ vs hi, hl]
  · rw [wipe_out hi, wipe_out hi, ho i hi]
theorem wipe_wipe (σ : L2.St) (vs : List Nat) : wipe (wipe σ vs) vs = wipe σ vs := wipe_set (wipe_length σ vs) fun i hi => by rw [wipe_out hi]
section
variable {X : Cx} {dr : Dr} {Γ : Gam} {N : List Str} {G : Nm} {wr : Str → Bool}
mutual
theorem bindT_get : ∀ (tg : Tg) {d : D} {ρ ρ' : List Slot} {i : Nat} {s : Slot}, bindT tg d ρ = some ρ' → ρ'[i]? = some s → (∃ d, s = .sh d) ∨ ρ[i]? = some s
  | .nm j, d, ρ, ρ', i, s, h, e => by
    simp only [bindT] at h
    split at h
    · cases h
      rcases set_get e with ⟨_, _, z⟩ | ⟨_, z⟩
      · exact .inl ⟨d, z⟩
      · exact .inr z
    · cases h
  | .tp gs, d, ρ, ρ', i, s, h, e => by
    cases d <;> simp only [bindT] at h <;> first
      | exact bindTs_get gs h e
      | cases h
theorem bindTs_get : ∀ (gs : List Tg) {ds : List D} {ρ ρ' : List Slot} {i : Nat} {s : Slot}, bindTs gs ds ρ = some ρ' → ρ'[i]? = some s → (∃ d, s = .sh d) ∨ ρ[i]? = some s
  | [], [], ρ, ρ', i, s, h, e => by simp only [bindTs, Option.some.injEq] at h; subst h; exact .inr e
  | [], _ :: _, _, _, _, _, h, _ => by simp [bindTs] at h
  | _ :: _, [], _, _, _, _, h, _ => by simp [bindTs] at h
  | g :: gs, d :: ds, ρ, ρ', i, s, h, e => by
    simp only [bindTs, Option.bind_eq_some_iff] at h
    obtain ⟨ρ1, h1, h2⟩ := h
    rcases bindTs_get gs h2 e with z | z
    · exact .inl z
    · exact bindT_get g h1 z
end
theorem bindT_ow {tg : Tg} {d : D} {ρ ρ' : List Slot} {e : Ex} (h : bindT tg d ρ = some ρ') (n : isOw ρ e = false) : isOw ρ' e = false := by
  cases e <;> first | rfl | skip
  rename_i i
  cases z : isOw ρ' (.var i) with
  | false => rfl
  | true =>
    simp only [isOw] at z n
    split at z
    · rename_i d' e
      rcases bindT_get tg h e with ⟨_, q⟩ | q
      · cases q
      · rw [q] at n; cases n
    · rename_i d' e
      rcases bindT_get tg h e with ⟨_, q⟩ | q
      · cases q
      · rw [q] at n; cases n
    · cases z
theorem c_lc {elt : Ex} {tg : Tg} {it : It} {ifs : Exs} {et ti tgE : Expr} {il : List Expr} {scope : Scope} {own : List (Str × Nat)} {pos : Pos} (hpt : isPair it = true → tg.isTp = true) (hc : X.calm = true) (hN : X.N.Nodup) (ok : BlkOk X.N X.env.scope scope own) (ho : own.map (·.2) = tg.slots)
    (hi : PI X tgE ti (tI X.K dr Γ it)) (hg : ∀ s H C cl fp, PG (X.blk s H scope (compEnvC scope cl C X.env) fp) tgE (gT X.K dr tg)) (ht : ∀ s H C cl fp, PTs (X.blk s H scope (compEnvC scope cl C X.env) fp) il (tCd X.K dr Γ ifs))
    (he : ∀ s H C cl fp, PE (X.blk s H scope (compEnvC scope cl C X.env) fp) et (tE X.K dr Γ elt)) (hs : ∀ x, foldedSetIterable ti X.env x = pure x) :
    ∃ r : TE, (PE X (.ListComp et [⟨tgE, ti, il, 0⟩] scope pos) r) ∧ (∀ (i : Nat) (y : Str) (py spos : Pos), X.N[i]? = some y → X.env.scope.names.lookup y = some .local → swapsWith (.ListComp et [⟨tgE, ti, il, 0⟩] scope pos) (some (.Name y py)) spos.line X.env = pure true →
      PS X (.Assign [.Name y py] (.ListComp et [⟨tgE, ti, il, 0⟩] scope pos) spos) (tAsg r (gName i))) ∧ ∀ σ H Q, tE X.K dr Γ (.lc elt tg it ifs) σ H Q → r σ H Q := by
  refine ⟨_, pe_lc hc hN hi ok hg ht he hs, fun i y py spos h1 h2 h3 => ps_setLc hc hN h1 h2 h3 hi ok hg ht he hs, ?_⟩
  rintro σ H Q ⟨B0, ρ, st, d, st', S, h, q⟩
  simp only [evE, Option.bind_eq_some_iff] at h
  obtain ⟨⟨items, s1⟩, h1, h⟩ := h
  by_cases hcond : isOw (blkR ρ tg.slots) elt = false ∧ items.length ≤ cap
  rotate_left
  · rw [if_neg hcond] at h
    cases h
  rw [if_pos hcond] at h
  obtain ⟨⟨res, s2⟩, h2, h3⟩ := Option.map_eq_some_iff.mp h
  cases h3
  obtain ⟨how, hlen⟩ := hcond
  rw [ho]
  refine ⟨B0, ρ, st, items, s1, S, h1, fun J H1 k1 w1 wk => ?_⟩
  have S1 := S.kd k1 w1
  intro D0 hD
  have wkk := wk (fun b => b = dr.a ∨ H1 b = none) (BB (fun b => BB B0 ρ σ b ∨ b = D0) (blkR ρ tg.slots) (wipe σ tg.slots)) (fun b hb n => by
    rcases hb with e | e
    · subst e; exact ⟨S1.drB, fun _ => rfl⟩
    · exact absurd e n) (blk_back hD) (blk_keep S1)
  have kNew : Kp (fun b => b = dr.a ∨ H1 b = none) H1 (upd H1 D0 (.lst [])) := .of_same (same_new hD)
  refine ⟨fun i m Hh => m = items.length - i ∧ i ≤ items.length ∧ ∃ (av : List V) (ad : List D) (sti : DS) (rest : List D), Kp (fun b => b = dr.a ∨ H1 b = none) H1 Hh ∧ DrawOk X.K dr Hh sti ∧ Hh D0 = some (.lst av) ∧ av.length ≤ i ∧
      Reps X.K dr Hh (fun b => BB B0 ρ σ b ∨ b = D0) av ad ∧ lcRun (fun ρ' s => evE Γ elt ρ' s) (fun ρ' s => evC Γ ifs ρ' s) tg (blkR ρ tg.slots) (items.drop i) sti = some (rest, s2) ∧ ad ++ rest = res,
    ⟨items.length, rfl, Nat.zero_le _, [], [], s1, res, kNew, w1.same (same_new hD), upd_same, Nat.le_refl _, .nil, h2, rfl⟩, ?_⟩
  rintro i m Hi ⟨rfl, hile, av, ad, sti, rest, kI, wI, eD, avl, rA, hrun, hres⟩
  by_cases hlt : i < items.length
  · refine .inr ⟨wkk.go i Hi kI hlt, ?_⟩
    have ei : items[i]? = some items[i] := List.getElem?_eq_getElem hlt
    rw [List.drop_eq_getElem_cons hlt] at hrun
    simp only [lcRun, Option.bind_eq_some_iff] at hrun
    obtain ⟨ρ1, b1, ⟨cb, sc⟩, b2, b3⟩ := hrun
    refine ⟨fun Hh => i + 1 ≤ items.length ∧ ∃ (av : List V) (ad : List D) (sti : DS) (rest : List D), Kp (fun b => b = dr.a ∨ H1 b = none) H1 Hh ∧ DrawOk X.K dr Hh sti ∧ Hh D0 = some (.lst av) ∧ av.length ≤ i + 1 ∧
      Reps X.K dr Hh (fun b => BB B0 ρ σ b ∨ b = D0) av ad ∧ lcRun (fun ρ' s => evE Γ elt ρ' s) (fun ρ' s => evC Γ ifs ρ' s) tg (blkR ρ tg.slots) (items.drop (i + 1)) sti = some (rest, s2) ∧ ad ++ rest = res, fun H' n => ⟨items.length - (i + 1), by omega, rfl, n⟩, fun x H' y => ?_⟩
    obtain ⟨same1, rx⟩ := wkk.yld i Hi x H' items[i] kI ei y
    have kI' : Kp (fun b => b = dr.a ∨ H1 b = none) H1 H' := kI.trans (.of_same same1)
    have wI' := wI.same same1
    have eD' := same1 _ _ eD
    have SB := S1.block kI' wI' hD (by rw [eD']; exact fun z => by cases z) tg.slots
    refine ⟨_, _, sti, items[i], ρ1, SB, rx.mono hpt, b1, fun σ2 S2 bd => ?_⟩
    refine ⟨?_, ?_⟩
    · rw [wipe_set (bd.len.trans rfl) bd.out, wipe_wipe]
    refine ⟨_, ρ1, sti, cb, sc, S2, b2, fun H3 k3 w3 => ?_⟩
    have S3 := S2.kd k3 w3
    have kdr : ∀ {Ha Hb : Hp}, KD dr Ha Hb → Kp (fun b => b = dr.a ∨ H1 b = none) H1 Ha → Kp (fun b => b = dr.a ∨ H1 b = none) H1 Hb := fun k z => z.trans (k.wide fun b e => .inl e)
    have nDd : D0 ≠ dr.a := fun z => by
      have e := w1.1
      rw [← z, hD] at e
      cases e
    have nDp : D0 ≠ dr.p := fun z => by
      have e := w1.2.1
      rw [← z, hD] at e
      cases e
    have rA' := rA.same same1
    have bdB : ∀ b, b = dr.a → (fun b => BB B0 ρ σ b ∨ b = D0) b := fun b e => by subst e; exact .inl S1.drB
    cases cb with
    | false =>
      rw [if_neg Bool.false_ne_true] at b3
      refine iteF ?_
      exact ⟨hlt, av, ad, sc, rest, kdr k3 kI', w3, k3.keep _ _ nDd eD', by omega, Reps.kp k3 bdB _ _ rA', b3, hres⟩
    | true =>
      rw [if_pos rfl] at b3
      refine iteT ?_
      simp only [Option.bind_eq_some_iff, Option.map_eq_some_iff, Prod.mk.injEq] at b3
      obtain ⟨⟨yd, s4⟩, b4, ⟨ys, s5⟩, b5, b6, b7⟩ := b3
      subst b6 b7
      refine ⟨_, ρ1, sc, yd, s4, S3, b4, fun yv H4 p4 => ?_⟩
      have kk4 := k3.trans p4.kd
      have eD4 : H4 D0 = some (.lst av) := kk4.keep _ _ nDd eD'
      refine ⟨av, eD4, by rw [← cap_eq]; omega, hlt, ?_⟩
      have how2 : isOw ρ1 elt = false := bindT_ow b1 how
      have ry := p4.rep how2
      have ry' : Rep X.K dr H4 (fun b => BB B0 ρ σ b ∨ b = D0) yv yd := Rep.anti (fun b z => .inl (.inl z)) _ _ ry
      have kW : Kp (fun b => b = D0) H4 (upd H4 D0 (.lst (av ++ [yv]))) := ⟨fun b o n e => by rw [upd_ne n]; exact e, fun b xs e => by rw [upd_ne (ne_of e eD4 (by intro z; cases z))]; exact e, fun b o u e => by rw [upd_ne (ne_of e eD4 (by intro z; cases z))]; exact e⟩
      have wW : ∀ b, b = D0 → (fun b => BB B0 ρ σ b ∨ b = D0) b := fun b e => .inr e
      refine ⟨av ++ [yv], ad ++ [yd], s4, ys, (kdr kk4 kI').trans (kW.wide fun b e => .inr (by rw [e]; exact hD)), ?_, upd_same, by rw [List.length_append]; simp; omega, ?_, b5, by rw [List.append_assoc]; exact hres⟩
      · obtain ⟨e1, e2, e3⟩ := p4.dw
        exact ⟨by rw [upd_ne (Ne.symm nDd)]; exact e1, by rw [upd_ne (Ne.symm nDp)]; exact e2, e3⟩
      · exact Reps.append (Reps.kp kW wW _ _ (Reps.kp kk4 bdB _ _ rA')) (.cons (Rep.kp kW wW _ _ ry') .nil)
  · have e : i = items.length := by omega
    subst e
    rw [List.drop_length] at hrun
    simp only [lcRun, Option.some.injEq, Prod.mk.injEq] at hrun
    obtain ⟨rfl, rfl⟩ := hrun
    rw [List.append_nil] at hres
    subst hres
    refine .inl ⟨wkk.stop Hi kI, ?_⟩
    have kd2 : KD dr H1 Hi := ⟨fun b o n e => kI.keep b o (fun z => z.elim n fun q => by rw [e] at q; cases q) e, kI.tup, kI.frz⟩
    have rB : Reps X.K dr Hi (BB B0 ρ σ) av ad := Reps.anti (fun b z => .inl (.inl z)) _ _ rA
    have fr : FrL X.K dr H1 Hi (BB B0 ρ σ) (.ref D0) (.list ad) := fun ds z => by
      cases z
      exact ⟨D0, av, rfl, hD, eD, rA⟩
    exact q _ Hi (.mk' (k1.trans kd2) wI rfl (.lst eD (S1.nb D0 hD) rB) fun _ => fr.low k1 w1)
end
end
end Pf

namespace Pf
open PySem PySem.Spec PyProof.Rows L2
variable [Mode]
section
variable {K : PySem.W.Frag} {dr : Dr} {H H' : Hp} {B : Addr → Prop} {v : V} {d : D} {es : List (D × D)}
theorem RelD.kd {B' : Addr → Prop} {o : Option V} {q : Option D} (h : RelD K dr H B o q) (k : KD dr H H') (w : ∀ b, b = dr.a → B b) : RelD K dr H' B o q := by
  cases o <;> cases q <;> first | exact Rep.kp k w _ _ h | exact h
theorem isD_of (r : RepT K dr H B v (.dict es)) {k : D} {o : Option D} (h : dgetD es k = some o) : ∃ a, v = .ref a ∧ IsD H a := by
  rcases r.dict with ⟨_, rfl⟩ | ⟨a, u, rfl, hu, c⟩
  · cases h
  · refine ⟨a, rfl, ?_⟩
    cases c with
    | k c => exact .inl ⟨_, hu⟩
    | t m c => exact .inr ⟨_, hu⟩
end
section
variable {X : Cx} {dr : Dr} {Γ : Gam} {N : List Str} {G : Nm} {wr : Str → Bool} {ea eb : Expr} {a e : Ex} {t t1 t2 : PTr} {pos cpos p : Pos}
theorem getD_dict {d : D} {l : List D} {r : D} (h : getD d l = some r) : ∃ es, d = .dict es := by
  cases d <;> first | exact ⟨_, rfl⟩ | (simp [getD] at h)
theorem c_get {es : Exs} {ts : List PTr} (un : X.A.units + 200 < cLine) (ha : PE X ea (tE X.K dr Γ a)) (hes : ∀ e f t t', (es = .cons e .nil → t = hdT ts → PE X (toE N G e t) (tE X.K dr Γ e)) ∧ (es = .cons e (.cons f .nil) → t = hdT ts → t' = hdT ts.tail → PE X (toE N G e t) (tE X.K dr Γ e) ∧ PE X (toE N G f t') (tE X.K dr Γ f)))
    (hbase : attributeBase ea "get" X.env (eval ea X.env) = eval ea X.env) (hline : (pos.endLine == cpos.line) = true) : PE X (.Call (.Attribute ea "get" pos) (toEs N G es ts) [] cpos) (tE X.K dr Γ (.get a es)) := by
  have bad : (∀ e, es ≠ .cons e .nil) → (∀ e f, es ≠ .cons e (.cons f .nil)) → ∀ σ H Q, ¬ tE X.K dr Γ (.get a es) σ H Q := fun n1 n2 σ H Q ⟨B0, ρ, st, d, st', S, h, q⟩ => by
    simp only [evE] at h
    split at h
    · cases h
    simp only [Option.bind_eq_some_iff, Option.map_eq_some_iff, Prod.mk.injEq] at h
    obtain ⟨⟨da, s1⟩, h1, ⟨ds, s2⟩, h2, d', h3, rfl, rfl⟩ := h
    match es, n1, n2, h2 with
    | .nil, _, _, h2 =>
      simp only [evEs, Option.some.injEq, Prod.mk.injEq] at h2
      obtain ⟨rfl, rfl⟩ := h2
      simp [getD] at h3
    | .cons e .nil, n1, _, _ => exact n1 e rfl
    | .cons e (.cons f .nil), _, n2, _ => exact n2 e f rfl
    | .cons e (.cons f (.cons g r)), _, _, h2 =>
      simp only [evEs, Option.bind_eq_some_iff, Option.map_eq_some_iff, Prod.mk.injEq] at h2
      obtain ⟨_, _, _, ⟨_, _, _, ⟨_, _, _, _, rfl, rfl⟩, rfl, rfl⟩, rfl, rfl⟩ := h2
      simp [getD] at h3
  match es, hes, bad with
  | .nil, _, bad => exact PE.absurd (bad (by intro _ z; cases z) (by intro _ _ z; cases z))
  | .cons e .nil, hes, _ =>
    have he := (hes e e (hdT ts) (hdT ts)).1 rfl rfl
    have hs := star_toE N G e (hdT ts) [] X.env
    refine PE.imp (pe_dget1 (by omega) ha he ⟨hbase, by rw [hs]; rfl, hline, by rw [hs]; rfl⟩) ?_
    rintro σ H Q ⟨B0, ρ, st, d, st', S, h, q⟩
    simp only [evE] at h
    split at h
    · cases h
    rename_i ho
    have ho : anyOw ρ (.cons e .nil) = false := by simpa using ho
    simp only [evEs, Option.bind_eq_some_iff, Option.map_eq_some_iff, Prod.mk.injEq] at h
    obtain ⟨⟨da, s1⟩, h1, ⟨ds, s2⟩, ⟨⟨db, s2'⟩, h2, ⟨l, s3⟩, h2', rfl, rfl⟩, d', h3, rfl, rfl⟩ := h
    cases h2'
    obtain ⟨es, rfl⟩ := getD_dict h3
    obtain ⟨o, h4, rfl⟩ := Option.map_eq_some_iff.mp (show (dgetD es db).map (fun o => o.getD .none) = some d' from h3)
    refine ⟨B0, ρ, st, _, s1, S, h1, fun v1 H1 p1 => ?_⟩
    have S1 := S.post p1
    obtain ⟨c, rfl, isd⟩ := isD_of p1.repT h4
    refine ⟨c, rfl, isd, B0, ρ, s1, db, _, S1, h2, fun v2 H2 p2 => ?_⟩
    obtain ⟨c', q', e1, g, rd⟩ := dget_of (p1.repT.kd p2.kd S.drB) p2.repT h4
    cases e1
    refine ⟨q', g, q _ H2 (.mk' (p1.kd.trans p2.kd) p2.dw rfl ?_ (fun z => by cases z))⟩
    cases q' <;> cases o <;> first | exact rd.elim | exact .non | exact rd
  | .cons e (.cons f .nil), hes, _ =>
    obtain ⟨he, hf⟩ := (hes e f (hdT ts) (hdT ts.tail)).2 rfl rfl rfl
    have hs := star_toE N G e (hdT ts) [toE N G f (hdT ts.tail)] X.env
    have hs2 := star_toE N G f (hdT ts.tail) [] X.env
    refine PE.imp (pe_dget2 (by omega) ha he hf ⟨hbase, by rw [hs, hs2]; rfl, hline, by rw [hs, hs2]; rfl⟩) ?_
    rintro σ H Q ⟨B0, ρ, st, d, st', S, h, q⟩
    simp only [evE] at h
    split at h
    · cases h
    rename_i ho
    have ho : isOw ρ f = false := by
      have z : anyOw ρ (.cons e (.cons f .nil)) = false := by simpa using ho
      simp only [anyOw, Bool.or_eq_false_iff] at z
      exact z.2.1
    simp only [evEs, Option.bind_eq_some_iff, Option.map_eq_some_iff, Prod.mk.injEq] at h
    obtain ⟨⟨da, s1⟩, h1, ⟨ds, s2⟩, ⟨⟨db, s2'⟩, h2, ⟨l, s3⟩, ⟨⟨dc, s4⟩, h5, ⟨l', s5⟩, h6, rfl, rfl⟩, rfl, rfl⟩, d', h3, rfl, rfl⟩ := h
    cases h6
    obtain ⟨es, rfl⟩ := getD_dict h3
    obtain ⟨o, h4, rfl⟩ := Option.map_eq_some_iff.mp (show (dgetD es db).map (fun o => o.getD dc) = some d' from h3)
    refine ⟨B0, ρ, st, _, s1, S, h1, fun v1 H1 p1 => ?_⟩
    have S1 := S.post p1
    obtain ⟨c, rfl, isd⟩ := isD_of p1.repT h4
    refine ⟨c, rfl, isd, B0, ρ, s1, db, s2', S1, h2, fun v2 H2 p2 => ?_⟩
    have S2 := S1.post p2
    refine ⟨B0, ρ, s2', dc, _, S2, h5, fun v3 H3 p3 => ?_⟩
    have k := p2.kd.trans p3.kd
    obtain ⟨c', q', e1, g, rd⟩ := dget_of (p1.repT.kd k S.drB) (p2.repT.kd p3.kd S.drB) h4
    cases e1
    refine ⟨q', g, q _ H3 (.mk' (p1.kd.trans k) p3.dw rfl ?_ (fun z => by cases z))⟩
    cases q' <;> cases o <;> first | exact rd.elim | exact p3.rep ho | exact rd
  | .cons e (.cons f (.cons g r)), _, bad => exact PE.absurd (bad (by intro _ z; cases z) (by intro _ _ z; cases z))
end
end Pf
namespace Pf
open PySem PySem.Spec PyProof.Rows L2
variable [Mode]
section
variable {X : Cx} {dr : Dr} {H : Hp} {B : Addr → Prop}
/-- pairs, as they lie -/
theorem pairs_rep : ∀ {xs : List D} {vs : List V} {es es' : List (D × D)} {acc : List (Key × V)}, Reps X.K dr H B vs xs → dputs es xs = some es' → RepK X.K dr H B acc es →
    ∃ (ps : List Addr) (kvs : List (Key × V)), vs = ps.map V.ref ∧ Paired (fun p kv => SqT X.K H p [kV kv.1, kv.2]) ps kvs ∧ RepK X.K dr H B (mergeK acc kvs) es'
  | [], _, _, _, _, r, h, ra => by
    cases r
    cases h
    exact ⟨[], [], rfl, .nil, ra⟩
  | x :: xs, _, es, es', acc, r, h, ra => by
    cases r with
    | cons r rs =>
      unfold dputs at h
      split at h
      · rename_i z; cases z
      · rename_i k v l z
        cases z
        split at h
        rotate_left
        · cases h
        rename_i hk
        obtain ⟨kk, hk⟩ := Option.isSome_iff_exists.mp (show (keyOf k).isSome = true from hk)
        have e := keyOf_some hk
        subst e
        cases r with
        | tup s r =>
          cases r with
          | cons r1 r2 =>
            cases r2 with
            | cons r2 r3 =>
              cases r3
              have e1 := key_val (.inl r1) hk
              subst e1
              obtain ⟨ps, kvs, e, pr, rm⟩ := pairs_rep rs h (ra.put kk r2)
              exact ⟨_ :: ps, (kk, _) :: kvs, by rw [e]; rfl, .cons s.sqT pr, rm⟩
      · cases h
theorem pairs_vals {pins : List (Addr × Obj)} {σ : L2.St} {s : Shared} (J : L2.Inv X pins σ H s) : ∀ {ps : List Addr} {kvs : List (Key × V)}, Paired (fun p kv => SqT X.K H p [kV kv.1, kv.2]) ps kvs →
    ∃ (prs : List (Key × Value)) (kks : List (Value × Value)), KV kvs prs ∧ kks.length = ps.length ∧ prs.length = ps.length ∧ ∀ (j : Nat) (kv : Value × Value), kks[j]? = some kv → ∃ (b : Addr) (k : Key), ps[j]? = some b ∧ IsTup s.heap b #[kv.1, kv.2] ∧ prs[j]? = some (k, kv.2) ∧ (mixKind X.prog X.w).is k kv.1 = true
  | _, _, .nil => ⟨[], [], .nil, rfl, rfl, fun j kv e => by simp at e⟩
  | _, _, .cons (a := p) (b := kv) h t => by
    obtain ⟨prs, kks, r, l1, l2, q⟩ := pairs_vals J t
    obtain ⟨its, rv, ht, _⟩ := J.tuple h
    obtain ⟨u, y, ei, ru, ry⟩ := vals2 rv
    subst ei
    refine ⟨(kv.1, y) :: prs, (u, y) :: kks, .cons ⟨rfl, ry⟩ r, by simp [l1], by simp [l2], fun j z e => ?_⟩
    cases j with
    | zero =>
      cases (Option.some.inj e)
      exact ⟨p, kv.1, rfl, ht, rfl, kV_is ru⟩
    | succ j =>
      obtain ⟨b, k, e1, e2, e3, e4⟩ := q j z (by simpa using e)
      exact ⟨b, k, by simpa using e1, e2, by simpa using e3, e4⟩
/-- dict(t), the tuple's object known -/
theorem call_dictT (hc : X.calm = true) : CallR X (.type "dict") (fun xs H Q => ∃ (a : Addr) (o : Obj) (ps : List Addr) (kvs : List (Key × V)), xs = [.ref a] ∧ o.dict = none ∧ H a = some (.frz o (.tup (ps.map V.ref))) ∧ Paired (fun p kv => SqT X.K H p [kV kv.1, kv.2]) ps kvs ∧
    ∀ p, H p = none → Q (.ref p) (upd H p (.dK (mergeK [] kvs)))) := by
  intro pins s σ H xs us Q J r q
  obtain ⟨a, o, ps, kvs, rfl, od, ha, hp, q⟩ := q
  obtain ⟨u, rfl, rx⟩ := vals1 r
  cases rx
  obtain ⟨ho, hz, its, rv, it⟩ : s.heap.get? a = some o ∧ (ps.map V.ref).length ≤ sizeLine ∧ ∃ its, Vals (ps.map V.ref) its ∧ IsTup s.heap a its.toArray := J.hok a _ ha
  have ei := refs_at rv
  subst ei
  rw [List.length_map] at hz
  obtain ⟨prs, kks, rel, l1, l2, hpr⟩ := pairs_vals J hp
  obtain ⟨o', ho', oc, n, od'⟩ := it
  have eo : o' = o := Option.some.inj (ho'.symm.trans ho)
  subst eo
  let Ts : Nat → Addr := fun j => ps.getD j 0
  have pi : PairItems s.heap (ps.map Value.ref).toArray Ts kks := ⟨by simp [l1], fun j k v hj => by
    obtain ⟨b, kk, e1, e2, e3, e4⟩ := hpr j (k, v) hj
    have et : Ts j = b := by simp [Ts, List.getD_eq_getElem?_getD, e1]
    rw [et]
    exact ⟨by simp [e1], .inl e2⟩⟩
  have ph : PairsHave (mixKind X.prog X.w) kks.length (PairRel kks) prs := ⟨by rw [l2, l1], fun i k v hi => by
    obtain ⟨b, kk, e1, e2, e3, e4⟩ := hpr i (k, v) hi
    exact ⟨kk, e3, e4⟩⟩
  refine PySem.call_dict_pairs (PairArg.tuple a (ps.map Value.ref).toArray Ts kks) (J.ok.hd hc) ⟨⟨o', n, ho, oc, od, od'⟩, pi⟩ ph (by rw [l1]; exact hz) fun h' tk hd' kp => ?_
  have hm : (s.heap.objs.size == sysModules) = false := beq_eq_false_iff_ne.mpr (Nat.ne_of_gt J.big)
  have hlen : (mergeK [] kvs).length ≤ sizeLine := by
    have z := length_mergeK kvs []
    rw [List.length_nil, Nat.zero_add, rel.length, l2] at z
    exact Nat.le_trans z hz
  have new : ObjOk X.prog X.w (upd H s.heap.objs.size (.dK (mergeK [] kvs))) h' s.heap.objs.size (.dK (mergeK [] kvs)) := ⟨hlen, hm, merged [] prs, KV.merge rel .nil, hd'⟩
  exact ⟨.ref s.heap.objs.size, _, J.laid (t' := tk) (fun b o e => kp b o (by simp) e) (Nat.le_refl _) new, rfl, q _ (J.hok.fresh (Nat.le_refl _))⟩
/-- what dict(x) asks -/
def rDof (K : PySem.W.Frag) (dr : Dr) : List V → Hp → VK → Prop := fun vs H Q => ∃ B v da d, vs = [v] ∧ NB H B ∧ Rep K dr H B v da ∧ dofD da = some d ∧
  ∀ p u es, H p = none → d = .dict es → ConD K dr H B u es → Q (.ref p) (upd H p u)
theorem call_dof (hc : X.calm = true) : CallR X (.type "dict") (rDof X.K dr) := by
  intro pins s σ H xs us Q J r q
  obtain ⟨B, v, da, d, rfl, nb, ra, hd, q⟩ := q
  have fin : ∀ (kvs : List (Key × V)) (es : List (D × D)), d = .dict ((.bool false, .none) :: es) → RepK X.K dr H B kvs es → ∀ p, H p = none → Q (.ref p) (upd H p (.dK kvs)) := fun kvs es e rk p hp =>
    q p _ _ hp e (.k rk)
  unfold dofD at hd
  split at hd
  · split at hd
    rotate_left
    · cases hd
    rename_i xs' hm
    obtain ⟨es, h1, rfl⟩ := Option.map_eq_some_iff.mp hd
    cases ra with
    | tup s1 rs =>
      obtain ⟨ps, kvs, rfl, pr, rm⟩ := pairs_rep rs h1 .nil
      unfold TupAt at s1
      rw [if_pos (by rw [lock_reps rs]; exact hm)] at s1
      obtain ⟨o, od, s1⟩ := s1
      exact call_dictT hc pins s σ H _ us Q J r ⟨_, o, ps, kvs, rfl, od, s1, pr, fin _ _ rfl rm⟩
  · obtain ⟨es, h1, rfl⟩ := Option.map_eq_some_iff.mp hd
    cases ra with
    | lst s1 n rs =>
      obtain ⟨ps, kvs, rfl, pr, rm⟩ := pairs_rep rs h1 .nil
      exact call_dictP hc pins s σ H _ us Q J r ⟨_, ps, kvs, rfl, SqL.of s1, pr, fin _ _ rfl rm⟩
  · cases hd
    cases ra with
    | dic s1 rk => exact call_dictD pins s σ H _ us Q J r ⟨_, _, rfl, .inr ⟨_, s1⟩, fin _ _ rfl rk⟩
  · cases hd
end
section
variable {X : Cx} {dr : Dr} {Γ : Gam} {N : List Str} {G : Nm} {wr : Str → Bool} {ea : Expr} {a e : Ex} {t : PTr} {pos p : Pos}
/-- a dict is made: it is its own yet -/
def tMk (K : PySem.W.Frag) (dr : Dr) (Γ : Gam) (e : Ex) : TE := fun σ H Q => ∃ B0 ρ st d st', Sim K dr B0 H ρ σ st ∧ evE Γ e ρ st = some (d, st') ∧
  ∀ c u es H1, KD dr H H1 → DrawOk K dr H1 st' → H1 c = none → d = .dict es → ConD K dr H1 (BB B0 ρ σ) u es → Q (.ref c) (upd H1 c u)
/-- .. and is given free -/
theorem mk_free (hm : isMk e = true) (h : PE X ea (tMk X.K dr Γ e)) : PE X ea (tE X.K dr Γ e) := by
  refine PE.imp (PE.lockV h) ?_
  rintro σ H Q ⟨B0, ρ, st, d, st', S, h, q⟩
  have ow : isOw ρ e = false := by cases e <;> first | rfl | cases hm
  have fr : isFr e = false := by cases e <;> first | rfl | cases hm
  refine ⟨B0, ρ, st, d, st', S, h, fun c u es H1 k w hc e c0 => ⟨c, u, upd_same, by cases c0 <;> trivial, fun od => ?_⟩⟩
  subst e
  rw [upd_upd]
  have kk : Same H1 (upd H1 c (.frz od u)) := same_new hc
  exact q _ _ (.mk' (k.trans (.of_same kk)) (w.same kk) ow ((c0.same kk).rep upd_same) (fun z => by rw [fr] at z; cases z))
theorem mk_dic {b : Bool} : PE X (.Dict [] [] pos) (tMk X.K dr Γ (.dic b)) := by
  cases b with
  | false =>
    refine PE.imp pe_dnewK ?_
    rintro σ H Q ⟨B0, ρ, st, d, st', S, h, q⟩ p hp
    simp only [evE] at h
    split at h
    · cases h
    cases h
    exact q p _ _ H .refl S.drw hp rfl (.k .nil)
  | true =>
    refine PE.imp pe_dnewT ?_
    rintro σ H Q ⟨B0, ρ, st, d, st', S, h, q⟩ p hp
    simp only [evE] at h
    split at h
    · cases h
    rename_i hm
    cases h
    have hm : Mode.tm = false := by
      cases z : Mode.tm with
      | false => rfl
      | true => exact absurd ⟨trivial, z⟩ hm
    exact q p _ _ H .refl S.drw hp rfl (.t hm .nil)
theorem mk_dof (g : Good N G Γ X.env.scope wr X) (hg : Gl X "dict") (ha : PE X (toE N G a t) (tE X.K dr Γ a)) : PE X (.Call (.Name "dict" p) [toE N G a t] [] pos) (tMk X.K dr Γ (.dof a)) := by
  have h1 := star_toE N G a t [] X.env
  have hm : X.mg "dict" = none := g.blt _ (by decide +kernel)
  refine PE.imp (pe_callTy (call_dof (dr := dr) g.calm) hg hm (by decide +kernel) (pa_cons ha pa_nil h1) (by decide +kernel) (by decide +kernel) h1 rfl) ?_
  rintro σ H Q ⟨B0, ρ, st, d, st', S, h, q⟩
  simp only [evE] at h
  split at h
  · cases h
  rename_i ho
  have ho : isOw ρ a = false := by simpa using ho
  simp only [Option.bind_eq_some_iff, Option.map_eq_some_iff, Prod.mk.injEq] at h
  obtain ⟨⟨da, s1⟩, h1, d', h3, rfl, rfl⟩ := h
  refine ⟨B0, ρ, st, da, s1, S, h1, fun v1 H1 p1 => ?_⟩
  exact ⟨BB B0 ρ σ, v1, da, _, rfl, (S.post p1).nb, p1.rep ho, h3, fun c u es hc e c0 => q c u es H1 p1.kd p1.dw hc e c0⟩
end
end Pf

namespace Pf
open PySem PySem.Spec PyProof.Rows L2
variable [Mode]
section
variable {X : Cx} {dr : Dr} {H : Hp} {B : Addr → Prop}
def mergeU (kvs more : List (List Key × V)) : List (List Key × V) := more.foldl (fun acc kv => putK acc kv.1 kv.2) kvs
theorem length_mergeU : ∀ (more kvs : List (List Key × V)), (mergeU kvs more).length ≤ kvs.length + more.length
  | [], _ => Nat.le_refl _
  | p :: r, kvs => by
    have h1 := length_mergeU r (putK kvs p.1 p.2)
    have h2 := length_putK kvs p.1 p.2
    show (mergeU (putK kvs p.1 p.2) r).length ≤ _
    rw [List.length_cons]
    omega
/-- a pair whose key is a tuple -/
def PairU (K : PySem.W.Frag) (H : Hp) (p : Addr) (kv : List Key × V) : Prop := ∃ b, SqT K H p [.ref b, kv.2] ∧ H b = some (.tup (kv.1.map kV))
theorem pairsU_rep (m : Mode.tm = false) : ∀ {xs : List D} {vs : List V} {es es' : List (D × D)} {acc : List (List Key × V)}, Reps X.K dr H B vs xs → dputsU es xs = some es' → RepU X.K dr H B acc es →
    ∃ (ps : List Addr) (kvs : List (List Key × V)), vs = ps.map V.ref ∧ Paired (PairU X.K H) ps kvs ∧ RepU X.K dr H B (mergeU acc kvs) es'
  | [], _, _, _, _, r, h, ra => by
    cases r
    cases h
    exact ⟨[], [], rfl, .nil, ra⟩
  | x :: xs, _, es, es', acc, r, h, ra => by
    cases r with
    | cons r rs =>
      unfold dputsU at h
      split at h
      · rename_i z; cases z
      · rename_i k v l z
        cases z
        split at h
        rotate_left
        · cases h
        rename_i hk
        cases k <;> first | (cases hk; done) | skip
        rename_i ds
        obtain ⟨kk, hk⟩ := Option.isSome_iff_exists.mp (show (keysOf ds).isSome = true from hk)
        have e := keysOf_some hk
        cases r with
        | tup s r =>
          cases r with
          | cons r1 r2 =>
            cases r2 with
            | cons r2 r3 =>
              cases r3
              obtain ⟨b, rfl, eb⟩ := keyT_val (.inl r1) hk
              subst e
              obtain ⟨ps, kvs, e, pr, rm⟩ := pairsU_rep m rs h (ra.put kk r2)
              exact ⟨_ :: ps, (kk, _) :: kvs, by rw [e]; rfl, .cons ⟨b, s.sqT, tupAt_of m eb⟩ pr, rm⟩
      · cases h
theorem pairsU_vals {pins : List (Addr × Obj)} {σ : L2.St} {s : Shared} (J : L2.Inv X pins σ H s) : ∀ {ps : List Addr} {kvs : List (List Key × V)}, Paired (PairU X.K H) ps kvs →
    ∃ prs : List (List Key × Addr × Value), KT H kvs prs ∧ prs.length = ps.length ∧ ∀ (j : Nat) (q : List Key × Addr × Value), prs[j]? = some q → ∃ b, ps[j]? = some b ∧ IsTup s.heap b #[.ref q.2.1, q.2.2]
  | _, _, .nil => ⟨[], .nil, rfl, fun j q e => by simp at e⟩
  | _, _, .cons (a := p) (b := kv) h t => by
    obtain ⟨prs, r, l1, q⟩ := pairsU_vals J t
    obtain ⟨b, h, hb⟩ := h
    obtain ⟨its, rv, ht, _⟩ := J.tuple h
    obtain ⟨u, y, ei, ru, ry⟩ := vals2 rv
    subst ei
    cases ru
    refine ⟨(kv.1, b, y) :: prs, .cons ⟨rfl, hb, ry⟩ r, by simp [l1], fun j z e => ?_⟩
    cases j with
    | zero =>
      cases (Option.some.inj e)
      exact ⟨p, rfl, ht⟩
    | succ j =>
      obtain ⟨b', e1, e2⟩ := q j z (by simpa using e)
      exact ⟨b', by simpa using e1, e2⟩
theorem KT.merge : ∀ {kvs : List (List Key × V)} {prs : List (List Key × Addr × Value)} {acc : List (List Key × V)} {xs : List (List Key × Addr × Value)}, KT H kvs prs → KT H acc xs → KT H (mergeU acc kvs) (storedAllH xs prs)
  | _, _, _, _, .nil, a => a
  | _, _, _, _, .cons (a := p) (b := q) h t, a => by
    obtain ⟨h1, h2, h3⟩ := h
    show KT H (mergeU (putK _ p.1 p.2) _) (storedAllH (storedH _ q.1 q.2.1 q.2.2) _)
    have z := KT.put a p.1 h2 h3
    rw [show storedH _ q.1 q.2.1 q.2.2 = storedH _ p.1 q.2.1 q.2.2 by rw [h1]]
    exact KT.merge t z
theorem call_dictPU (hc : X.calm = true) (hu : X.A.units + 200 < cLine) : CallR X (.type "dict") (fun xs H Q => ∃ (a : Addr) (ps : List Addr) (kvs : List (List Key × V)), xs = [.ref a] ∧ SqL X.K H a (ps.map V.ref) ∧ Paired (PairU X.K H) ps kvs ∧
    ∀ p, H p = none → Q (.ref p) (upd H p (.dT (mergeU [] kvs)))) := by
  intro pins s σ H xs us Q J r q
  obtain ⟨a, ps, kvs, rfl, hq, hp, q⟩ := q
  obtain ⟨u, rfl, rx⟩ := vals1 r
  cases rx
  obtain ⟨its, rv, pl, hz⟩ := J.list hq
  have ei := refs_at rv
  subst ei
  rw [List.length_map] at hz
  obtain ⟨prs, rel, l1, hpr⟩ := pairsU_vals J hp
  obtain ⟨o, n, ho, hcl, hd, hdat⟩ := pl
  let Ts : Nat → Addr := fun j => ps.getD j 0
  let kks : List (Value × Value) := prs.map fun q => (.ref q.2.1, q.2.2)
  have pi : PairItems s.heap (ps.map Value.ref).toArray Ts kks := ⟨by simp [kks, l1], fun j k v hj => by
    simp only [kks, List.getElem?_map, Option.map_eq_some_iff] at hj
    obtain ⟨z, hz, e⟩ := hj
    cases e
    obtain ⟨b, e1, e2⟩ := hpr j z hz
    have et : Ts j = b := by simp [Ts, List.getD_eq_getElem?_getD, e1]
    rw [et]
    exact ⟨by simp [e1], .inl e2⟩⟩
  have ph : PairsHaveH (tupleKind (mixKind X.prog X.w)) kks.length (PairRel kks) prs := ⟨by simp [kks], fun i k v hi => by
    have hi : kks[i]? = some (k, v) := hi
    simp only [kks, List.getElem?_map, Option.map_eq_some_iff] at hi
    obtain ⟨z, hz, e⟩ := hi
    cases e
    exact ⟨z.1, z.2.1, hz, rfl⟩⟩
  have keys : ∀ (h : Heap), HOk X.prog X.w H h → ∀ x ∈ prs, (tupleKind (mixKind X.prog X.w)).is h x.1 x.2.1 := by
    intro h ok
    have all : ∀ {l : List (List Key × V)} {m : List (List Key × Addr × Value)}, KT H l m → ∀ x ∈ m, (tupleKind (mixKind X.prog X.w)).is h x.1 x.2.1 := by
      intro l m q
      induction q with
      | nil => intro x hx; exact nomatch hx
      | @cons p q ps qs hq t ih =>
        intro x hx
        rcases List.mem_cons.mp hx with e | hx
        · subst e
          exact key_of ok (by rw [← hq.1]; exact hq.2.1)
        · exact ih x hx
    exact all rel
  refine PySem.call_dict_pairsH (PairArg.list a (ps.map Value.ref).toArray Ts kks) (J.ok.hd hc) (tupleKind_room_in1 (A := X.A.in1) (by show X.A.units + 1 + 1 < cLine; omega)) ⟨⟨o, n, ho, hcl, hd, hdat⟩, pi⟩ ph (fun h' kp x hx => ?_) (by simp only [kks, List.length_map, l1]; exact hz) fun h' tk hd' kp => ?_
  · obtain ⟨o2, its2, n2, k1, k2, k3, k4⟩ := keys s.heap J.hok x hx
    exact ⟨o2, its2, n2, kp _ _ (Nat.ne_of_lt (Heap.lt_size k1)) (by simp) k1, k2, k3, k4⟩
  have hm : (s.heap.objs.size == sysModules) = false := beq_eq_false_iff_ne.mpr (Nat.ne_of_gt J.big)
  have hlen : (mergeU [] kvs).length ≤ sizeLine := by
    have z := length_mergeU kvs []
    rw [List.length_nil, Nat.zero_add, rel.length, l1] at z
    exact Nat.le_trans z hz
  obtain ⟨o', es, ep, h1, h2, h3, h4, h5, h6⟩ := hd'
  have fresh : H s.heap.objs.size = none := J.hok.fresh (Nat.le_refl _)
  have rel2 : KT (upd H s.heap.objs.size (.dT (mergeU [] kvs))) (mergeU [] kvs) (storedAllH [] prs) := (KT.merge rel .nil).keeps fun b ys e => by
    rw [upd_ne (ne_of_none e fresh)]
    exact e
  have new : ObjOk X.prog X.w (upd H s.heap.objs.size (.dT (mergeU [] kvs))) h' s.heap.objs.size (.dT (mergeU [] kvs)) := ⟨hlen, hm, _, rel2, o', es, ep, h1, h2, h3, h4, h6⟩
  exact ⟨.ref s.heap.objs.size, _, J.laid (t' := tk) (fun b o e => kp b o (by simp) e) (Nat.le_refl _) new, rfl, q _ fresh⟩
def rDofT (K : PySem.W.Frag) (dr : Dr) : List V → Hp → VK → Prop := fun vs H Q => ∃ B v da d, vs = [v] ∧ NB H B ∧ Rep K dr H B v da ∧ dofTD da = some d ∧
  ∀ p u es, H p = none → d = .dict es → ConD K dr H B u es → Q (.ref p) (upd H p u)
theorem call_dofT (hc : X.calm = true) (hu : X.A.units + 200 < cLine) : CallR X (.type "dict") (rDofT X.K dr) := by
  intro pins s σ H xs us Q J r q
  obtain ⟨B, v, da, d, rfl, nb, ra, hd, q⟩ := q
  unfold dofTD at hd
  split at hd
  rotate_left
  · cases hd
  split at hd
  · cases hd
  rename_i hm
  have hm : Mode.tm = false := by
    cases z : Mode.tm with
    | false => rfl
    | true => exact absurd z hm
  obtain ⟨es, h1, rfl⟩ := Option.map_eq_some_iff.mp hd
  cases ra with
  | lst s1 n rs =>
    obtain ⟨ps, kvs, rfl, pr, rm⟩ := pairsU_rep hm rs h1 .nil
    exact call_dictPU hc hu pins s σ H _ us Q J r ⟨_, ps, kvs, rfl, SqL.of s1, pr, fun p hp => q p _ _ hp rfl (.t hm rm)⟩
end
section
variable {X : Cx} {dr : Dr} {Γ : Gam} {N : List Str} {G : Nm} {wr : Str → Bool} {a : Ex} {t : PTr} {pos p : Pos}
theorem mk_dofT (g : Good N G Γ X.env.scope wr X) (hg : Gl X "dict") (ha : PE X (toE N G a t) (tE X.K dr Γ a)) : PE X (.Call (.Name "dict" p) [toE N G a t] [] pos) (tMk X.K dr Γ (.dofT a)) := by
  have h1 := star_toE N G a t [] X.env
  have hm : X.mg "dict" = none := g.blt _ (by decide +kernel)
  refine PE.imp (pe_callTy (call_dofT (dr := dr) g.calm g.un) hg hm (by decide +kernel) (pa_cons ha pa_nil h1) (by decide +kernel) (by decide +kernel) h1 rfl) ?_
  rintro σ H Q ⟨B0, ρ, st, d, st', S, h, q⟩
  simp only [evE] at h
  split at h
  · cases h
  rename_i ho
  have ho : isOw ρ a = false := by simpa using ho
  simp only [Option.bind_eq_some_iff, Option.map_eq_some_iff, Prod.mk.injEq] at h
  obtain ⟨⟨da, s1⟩, h1, d', h3, rfl, rfl⟩ := h
  refine ⟨B0, ρ, st, da, s1, S, h1, fun v1 H1 p1 => ?_⟩
  exact ⟨BB B0 ρ σ, v1, da, _, rfl, (S.post p1).nb, p1.rep ho, h3, fun c u es hc e c0 => q c u es H1 p1.kd p1.dw hc e c0⟩
end
end Pf

namespace Pf
open PySem PySem.Spec PyProof.Rows L2
variable [Mode]
section
variable {K : PySem.W.Frag} {dr : Dr} {B0 B1 : Addr → Prop} {H H1 H' : Hp} {ρ ρ' ρ1 ρ2 : List Slot} {σ σ' σ1 σ2 : L2.St} {st st' : DS} {d : D} {v : V}
theorem Own.anti {B B' : Addr → Prop} {a : Addr} (w : ∀ b, B' b → B b ∨ H b = none) (h : Own K dr H B a d) : Own K dr H B' a d := by
  cases d <;> first
    | exact h.elim
    | (obtain ⟨vs, e, r⟩ := h; exact ⟨vs, e, Reps.anti w _ _ r⟩)
    | (obtain ⟨vs, e, r⟩ := h; exact ⟨vs, e, ConD.anti w r⟩)
theorem Own.there {B : Addr → Prop} {a : Addr} (h : Own K dr H B a d) : H a ≠ none := by
  cases d <;> first
    | exact h.elim
    | (obtain ⟨vs, e, r⟩ := h; rw [e]; exact fun z => by cases z)
/-- another base: what is blocked more is new -/
theorem Sim.add (S : Sim K dr B0 H ρ σ st) {a : Addr} (n : H a = none) (k : KD dr H H1) (w : DrawOk K dr H1 st') (al : H1 a ≠ none) : Sim K dr (fun b => B0 b ∨ b = a) H1 ρ σ st' := by
  have S1 := S.kd k w
  have back : ∀ b, BB (fun b => B0 b ∨ b = a) ρ σ b → BB B0 ρ σ b ∨ H b = none := fun b z => by
    rcases z with (z | z) | z
    · exact .inl (.inl z)
    · subst z; exact .inr n
    · exact .inl (.inr z)
  have wb : ∀ b, b = dr.a → BB (fun b => B0 b ∨ b = a) ρ σ b := fun b e => .inl (.inl (by rw [e]; exact S.bdr))
  refine ⟨w, .inl S.bdr, .inl S.bsp, fun b z => z.elim (S1.alo b) fun e => by rw [e]; exact al, fun i d e => ?_, fun i d e => ?_, fun i d e => ?_, S.sep, S.len⟩
  · obtain ⟨v, e1, r⟩ := S.sh i d e
    exact ⟨v, e1, Rep.kp k wb _ _ (Rep.anti back _ _ r)⟩
  · obtain ⟨c, e1, nb, o⟩ := S.ow i d e
    exact ⟨c, e1, fun z => z.elim nb fun q => o.there (by rw [q]; exact n), (o.anti back).kp k wb fun q => nb (by rw [q]; exact S.bdr)⟩
  · obtain ⟨c, e1, nb, nd, o⟩ := S.le i d e
    exact ⟨c, e1, .inl nb, nd, (o.anti back).kp k wb nd.1⟩
end
section
variable {X : Cx} {dr : Dr} {Γ : Gam} {N : List Str} {G : Nm} {wr : Str → Bool} {ea : Expr} {a e : Ex} {t : PTr} {pos p : Pos}
theorem dput_len {acc : List (D × D)} {k v : D} : (dput acc k v).length ≤ acc.length + 1 := by
  unfold dput
  split
  · simp
  · simp
theorem RepK.len {K : PySem.W.Frag} {H : Hp} {B : Addr → Prop} : ∀ {ds : List (D × D)} {vs : List (Key × V)}, RepK K dr H B vs ds → vs.length = ds.length
  | [], _, h => by cases h; rfl
  | _ :: ds, _, h => by
    cases h with
    | cons _ rs => simp [RepK.len rs]
theorem mk_dsp {k v : Ex} {kx vx : Expr} {pos : Pos} (hk : PE X kx (tE X.K dr Γ k)) (he : PE X vx (tE X.K dr Γ v)) : PE X (.Dict [some kx] [vx] pos) (tMk X.K dr Γ (.dsp k v)) := by
  refine PE.imp (pe_disp (pps_cons hk he pps_nil) rfl rfl (by simp) (by simp)) ?_
  rintro σ H Q ⟨B0, ρ, st, d, st', S, h, q⟩ D0 hD
  simp only [evE, Option.bind_eq_some_iff] at h
  obtain ⟨⟨kd, s4⟩, b4, ⟨yd, s5⟩, b5, b6⟩ := h
  split at b6
  rotate_left
  · cases b6
  rename_i hcond
  obtain ⟨how, hkk⟩ := hcond
  cases b6
  have S0 := S.add hD (Kp.of_same (same_new hD) : KD dr H (upd H D0 (.dK []))) (S.drw.same (same_new hD)) (by rw [upd_same]; exact fun z => by cases z)
  refine ⟨_, ρ, st, kd, s4, S0, b4, fun kv H4 p4 => ?_⟩
  have S4 := S0.post p4
  refine ⟨_, ρ, s4, yd, s5, S4, b5, fun yv H5 p5 => ?_⟩
  obtain ⟨kk, hkk⟩ := Option.isSome_iff_exists.mp (show (keyOf kd).isSome = true from hkk)
  have ek := keyOf_some hkk
  subst ek
  have ekv := key_val p4.repT hkk
  subst ekv
  have nDd : D0 ≠ dr.a := fun z => by
    have e := S.drw.1
    rw [← z, hD] at e
    cases e
  have nDp : D0 ≠ dr.p := fun z => by
    have e := S.drw.2.1
    rw [← z, hD] at e
    cases e
  have kk4 := p4.kd.trans p5.kd
  have eD5 : H5 D0 = some (.dK []) := kk4.keep _ _ nDd upd_same
  refine ⟨eD5, [(kk, yv)], rfl, by simp, ?_⟩
  have ry := p5.rep how
  let Hm : Hp := fun b => if b = D0 then none else H5 b
  have hm : ∀ {b}, b ≠ D0 → Hm b = H5 b := fun n => if_neg n
  have hm0 : Hm D0 = none := if_pos rfl
  have eu : ∀ u, upd Hm D0 u = upd H5 D0 u := fun u => by
    funext b
    by_cases e : b = D0
    · subst e; rw [upd_same, upd_same]
    · rw [upd_ne e, upd_ne e, hm e]
  have ne1 : ∀ {b o}, H b = some o → b ≠ D0 := fun e z => by rw [z, hD] at e; cases e
  have kd2 : KD dr H Hm := ⟨fun b o n e => by rw [hm (ne1 e)]; exact kk4.keep b o n (by rw [upd_ne (ne1 e)]; exact e), fun b xs e => by rw [hm (ne1 e)]; exact kk4.tup b xs (by rw [upd_ne (ne1 e)]; exact e), fun b o u e => by rw [hm (ne1 e)]; exact kk4.frz b o u (by rw [upd_ne (ne1 e)]; exact e)⟩
  have wm : DrawOk X.K dr Hm s5 := by
    obtain ⟨e1, e2, e3⟩ := p5.dw
    exact ⟨by rw [hm (Ne.symm nDd)]; exact e1, by rw [hm (Ne.symm nDp)]; exact e2, e3⟩
  have kb : Kp (fun b => b = D0) H5 Hm := ⟨fun b o n e => by rw [hm n]; exact e, fun b xs e => by rw [hm (ne_of e eD5 (by intro z; cases z))]; exact e, fun b o u e => by rw [hm (ne_of e eD5 (by intro z; cases z))]; exact e⟩
  have rM := Rep.kp kb (fun b e => .inl (.inr e)) _ _ ry
  have rB : Rep X.K dr Hm (BB B0 ρ σ) yv yd := Rep.anti (fun b z => .inl (z.elim (fun z => .inl (.inl z)) .inr)) _ _ rM
  have z := q D0 (.dK [(kk, yv)]) _ Hm kd2 wm hm0 rfl (.k (.cons rB .nil))
  rw [eu] at z
  exact z
theorem mk_dc {k v : Ex} {tg : Tg} {it : It} {ifs : Exs} {kx vx ti tgE : Expr} {il : List Expr} {scope : Scope} {own : List (Str × Nat)} {pos : Pos} (hpt : isPair it = true → tg.isTp = true) (hc : X.calm = true) (hN : X.N.Nodup) (ok : BlkOk X.N X.env.scope scope own) (ho : own.map (·.2) = tg.slots)
    (hi : PI X tgE ti (tI X.K dr Γ it)) (hg : ∀ s H C cl fp, PG (X.blk s H scope (compEnvC scope cl C X.env) fp) tgE (gT X.K dr tg)) (ht : ∀ s H C cl fp, PTs (X.blk s H scope (compEnvC scope cl C X.env) fp) il (tCd X.K dr Γ ifs))
    (hk : ∀ s H C cl fp, PE (X.blk s H scope (compEnvC scope cl C X.env) fp) kx (tE X.K dr Γ k)) (he : ∀ s H C cl fp, PE (X.blk s H scope (compEnvC scope cl C X.env) fp) vx (tE X.K dr Γ v)) (hs : ∀ x, foldedSetIterable ti X.env x = pure x) :
    PE X (.DictComp kx vx [⟨tgE, ti, il, 0⟩] scope pos) (tMk X.K dr Γ (.dc k v tg it ifs)) := by
  refine PE.imp (pe_dc hc hN hi ok hg ht hk he hs) ?_
  rintro σ H Q ⟨B0, ρ, st, d, st', S, h, q⟩
  simp only [evE, Option.bind_eq_some_iff] at h
  obtain ⟨⟨items, s1⟩, h1, h⟩ := h
  by_cases hcond : isOw (blkR ρ tg.slots) v = false ∧ items.length ≤ cap
  rotate_left
  · rw [if_neg hcond] at h
    cases h
  rw [if_pos hcond] at h
  obtain ⟨⟨res, s2⟩, h2, h3⟩ := Option.map_eq_some_iff.mp h
  cases h3
  obtain ⟨how, hlen⟩ := hcond
  rw [ho]
  refine ⟨B0, ρ, st, items, s1, S, h1, fun J H1 k1 w1 wk => ?_⟩
  have S1 := S.kd k1 w1
  intro D0 hD
  have wkk := wk (fun b => b = dr.a ∨ H1 b = none) (BB (fun b => BB B0 ρ σ b ∨ b = D0) (blkR ρ tg.slots) (wipe σ tg.slots)) (fun b hb n => by
    rcases hb with e | e
    · subst e; exact ⟨S1.drB, fun _ => rfl⟩
    · exact absurd e n) (blk_back hD) (blk_keep S1)
  have kNew : Kp (fun b => b = dr.a ∨ H1 b = none) H1 (upd H1 D0 (.dK [])) := .of_same (same_new hD)
  refine ⟨fun i m Hh => m = items.length - i ∧ i ≤ items.length ∧ ∃ (av : List (Key × V)) (ad : List (D × D)) (sti : DS), Kp (fun b => b = dr.a ∨ H1 b = none) H1 Hh ∧ DrawOk X.K dr Hh sti ∧ Hh D0 = some (.dK av) ∧ av.length ≤ i ∧
      RepK X.K dr Hh (fun b => BB B0 ρ σ b ∨ b = D0) av ad ∧ dcRun (fun ρ' s => evE Γ k ρ' s) (fun ρ' s => evE Γ v ρ' s) (fun ρ' s => evC Γ ifs ρ' s) tg (blkR ρ tg.slots) (items.drop i) ad sti = some (res, s2),
    ⟨items.length, rfl, Nat.zero_le _, [], [], s1, kNew, w1.same (same_new hD), upd_same, Nat.le_refl _, .nil, h2⟩, ?_⟩
  rintro i m Hi ⟨rfl, hile, av, ad, sti, kI, wI, eD, avl, rA, hrun⟩
  by_cases hlt : i < items.length
  · refine .inr ⟨wkk.go i Hi kI hlt, ?_⟩
    have ei : items[i]? = some items[i] := List.getElem?_eq_getElem hlt
    rw [List.drop_eq_getElem_cons hlt] at hrun
    simp only [dcRun, Option.bind_eq_some_iff] at hrun
    obtain ⟨ρ1, b1, ⟨cb, sc⟩, b2, b3⟩ := hrun
    refine ⟨fun Hh => i + 1 ≤ items.length ∧ ∃ (av : List (Key × V)) (ad : List (D × D)) (sti : DS), Kp (fun b => b = dr.a ∨ H1 b = none) H1 Hh ∧ DrawOk X.K dr Hh sti ∧ Hh D0 = some (.dK av) ∧ av.length ≤ i + 1 ∧
      RepK X.K dr Hh (fun b => BB B0 ρ σ b ∨ b = D0) av ad ∧ dcRun (fun ρ' s => evE Γ k ρ' s) (fun ρ' s => evE Γ v ρ' s) (fun ρ' s => evC Γ ifs ρ' s) tg (blkR ρ tg.slots) (items.drop (i + 1)) ad sti = some (res, s2), fun H' n => ⟨items.length - (i + 1), by omega, rfl, n⟩, fun x H' y => ?_⟩
    obtain ⟨same1, rx⟩ := wkk.yld i Hi x H' items[i] kI ei y
    have kI' : Kp (fun b => b = dr.a ∨ H1 b = none) H1 H' := kI.trans (.of_same same1)
    have wI' := wI.same same1
    have eD' := same1 _ _ eD
    have SB := S1.block kI' wI' hD (by rw [eD']; exact fun z => by cases z) tg.slots
    refine ⟨_, _, sti, items[i], ρ1, SB, rx.mono hpt, b1, fun σ2 S2 bd => ?_⟩
    refine ⟨?_, ?_⟩
    · rw [wipe_set (bd.len.trans rfl) bd.out, wipe_wipe]
    refine ⟨_, ρ1, sti, cb, sc, S2, b2, fun H3 k3 w3 => ?_⟩
    have S3 := S2.kd k3 w3
    have kdr : ∀ {Ha Hb : Hp}, KD dr Ha Hb → Kp (fun b => b = dr.a ∨ H1 b = none) H1 Ha → Kp (fun b => b = dr.a ∨ H1 b = none) H1 Hb := fun k z => z.trans (k.wide fun b e => .inl e)
    have nDd : D0 ≠ dr.a := fun z => by
      have e := w1.1
      rw [← z, hD] at e
      cases e
    have nDp : D0 ≠ dr.p := fun z => by
      have e := w1.2.1
      rw [← z, hD] at e
      cases e
    have rA' := RepK.kp (.of_same same1 : Kp (fun _ => False) Hi H') (B := fun b => BB B0 ρ σ b ∨ b = D0) (fun b z => z.elim) _ _ rA
    have bdB : ∀ b, b = dr.a → (fun b => BB B0 ρ σ b ∨ b = D0) b := fun b e => by subst e; exact .inl S1.drB
    cases cb with
    | false =>
      rw [if_neg Bool.false_ne_true] at b3
      refine iteF ?_
      exact ⟨hlt, av, ad, sc, kdr k3 kI', w3, k3.keep _ _ nDd eD', by omega, RepK.kp k3 bdB _ _ rA', b3⟩
    | true =>
      rw [if_pos rfl] at b3
      refine iteT ?_
      simp only [Option.bind_eq_some_iff] at b3
      obtain ⟨⟨kd, s4⟩, b4, ⟨yd, s5⟩, b5, b6⟩ := b3
      split at b6
      rotate_left
      · cases b6
      rename_i hkk
      obtain ⟨kk, hkk⟩ := Option.isSome_iff_exists.mp (show (keyOf kd).isSome = true from hkk)
      have ek := keyOf_some hkk
      subst ek
      refine ⟨_, ρ1, sc, _, s4, S3, b4, fun kv H4 p4 => ?_⟩
      have S4 := S3.post p4
      refine ⟨_, ρ1, s4, yd, s5, S4, b5, fun yv H5 p5 => ?_⟩
      have kk4 := (k3.trans p4.kd).trans p5.kd
      have eD5 : H5 D0 = some (.dK av) := kk4.keep _ _ nDd eD'
      have ekv := key_val p4.repT hkk
      subst ekv
      refine ⟨av, kk, rfl, eD5, by rw [← cap_eq]; omega, hlt, ?_⟩
      have how2 : isOw ρ1 v = false := bindT_ow b1 how
      have ry := p5.rep how2
      have ry' : Rep X.K dr H5 (fun b => BB B0 ρ σ b ∨ b = D0) yv yd := Rep.anti (fun b z => .inl (.inl z)) _ _ ry
      have kW : Kp (fun b => b = D0) H5 (upd H5 D0 (.dK (putK av kk yv))) := ⟨fun b o n e => by rw [upd_ne n]; exact e, fun b xs e => by rw [upd_ne (ne_of e eD5 (by intro z; cases z))]; exact e, fun b o u e => by rw [upd_ne (ne_of e eD5 (by intro z; cases z))]; exact e⟩
      have wW : ∀ b, b = D0 → (fun b => BB B0 ρ σ b ∨ b = D0) b := fun b e => .inr e
      refine ⟨putK av kk yv, _, s5, (kdr kk4 kI').trans (kW.wide fun b e => .inr (by rw [e]; exact hD)), ?_, upd_same, ?_, ?_, b6⟩
      · obtain ⟨e1, e2, e3⟩ := p5.dw
        exact ⟨by rw [upd_ne (Ne.symm nDd)]; exact e1, by rw [upd_ne (Ne.symm nDp)]; exact e2, e3⟩
      · have := length_putK av kk yv
        omega
      · exact (RepK.kp kW wW _ _ (RepK.kp kk4 bdB _ _ rA')).put kk (Rep.kp kW wW _ _ ry')
  · have e : i = items.length := by omega
    subst e
    rw [List.drop_length] at hrun
    simp only [dcRun, Option.some.injEq, Prod.mk.injEq] at hrun
    obtain ⟨rfl, rfl⟩ := hrun
    refine .inl ⟨wkk.stop Hi kI, ?_⟩
    let Hm : Hp := fun b => if b = D0 then none else Hi b
    have hm : ∀ {b}, b ≠ D0 → Hm b = Hi b := fun n => if_neg n
    have hm0 : Hm D0 = none := if_pos rfl
    have eu : upd Hm D0 (.dK av) = Hi := by
      funext b
      by_cases e : b = D0
      · subst e; rw [upd_same, eD]
      · rw [upd_ne e, hm e]
    have nDd : D0 ≠ dr.a := fun z => by
      have e := w1.1
      rw [← z, hD] at e
      cases e
    have nDp : D0 ≠ dr.p := fun z => by
      have e := w1.2.1
      rw [← z, hD] at e
      cases e
    have ne1 : ∀ {b o}, H1 b = some o → b ≠ D0 := fun e z => by rw [z, hD] at e; cases e
    have kd2 : KD dr H1 Hm := ⟨fun b o n e => by rw [hm (ne1 e)]; exact kI.keep b o (fun z => z.elim n fun q => by rw [e] at q; cases q) e, fun b xs e => by rw [hm (ne1 e)]; exact kI.tup b xs e, fun b o u e => by rw [hm (ne1 e)]; exact kI.frz b o u e⟩
    have wm : DrawOk X.K dr Hm sti := by
      obtain ⟨e1, e2, e3⟩ := wI
      exact ⟨by rw [hm (Ne.symm nDd)]; exact e1, by rw [hm (Ne.symm nDp)]; exact e2, e3⟩
    have kb : Kp (fun b => b = D0) Hi Hm := ⟨fun b o n e => by rw [hm n]; exact e, fun b xs e => by rw [hm (ne_of e eD (by intro z; cases z))]; exact e, fun b o u e => by rw [hm (ne_of e eD (by intro z; cases z))]; exact e⟩
    have rM : RepK X.K dr Hm (fun b => BB B0 ρ σ b ∨ b = D0) av ad := RepK.kp kb (fun b e => .inr e) _ _ rA
    have rB : RepK X.K dr Hm (BB B0 ρ σ) av ad := RepK.anti (fun b z => .inl (.inl z)) _ _ rM
    have z := q D0 (.dK av) _ Hm (k1.trans kd2) wm hm0 rfl (.k rB)
    rw [eu] at z
    exact z
end
end Pf

namespace Pf
open PySem PySem.Spec PyProof.Rows PySem.Calls L2
variable [Mode]
section
variable {P : Program} {w : World} {A : Around} {E : Value → Shared → Prop} {s : Shared} {d r : Addr}
open PySem.W in
theorem sort_view {knd : KeyKind P w Key} {kvs : List (Key × Value)} {ep : Nat} {Q : Value → Shared → Prop} (hh : A.handled = none) (hv : s.heap.IsItemsView r d) (hm : s.heap.DictAt knd d kvs ep) (hn : kvs.length ≤ sizeLine)
    (h : ∀ (h' : Heap) (tk : Nat) (as : List Addr), (∀ b o, s.heap.get? b = some o → h'.get? b = some o) → as.length = kvs.length → KdxG knd kvs s.heap.objs.size h' as →
      wpAny (model P w) A.in1 (call (.builtin "list.sort") [.ref h'.objs.size]) (fun _ s' => Q (.ref h'.objs.size) s') E { s with heap := h'.push { cls := .type "list", data := .seq (as.map Value.ref).toArray }, toks := tk }) :
    wpAny (model P w) A (call (.builtin "sorted") [.ref r]) Q E s := by
  refine call_function_entry kind_sorted plain_sorted entry_sorted (args_sorted1 _) ?_
  unfold Builtin.«sorted»
  refine wpAny_bind (m := checkCount "sorted" 1 1 _) (wpAny_pure ?_)
  refine wpAny_bind (kdx_collect (A := A.in1) (knd := knd) (kvs := kvs) (ep := ep) hh hv hm hn fun h' tk as hk hl hG => ?_)
  refine wpAny_bind (wpAny_newList ?_ (by rw [List.length_map, hl]; exact hn))
  have hg := h h' tk as hk hl hG
  refine wpAny_bind (wpAny_holding (wpAny_mono hg (fun _ s' x => ?_) fun _ _ e => e))
  exact wpAny_pure ⟨_, rfl, x⟩
end
section
variable {X : Cx} {dr : Dr} {Γ : Gam}
def rSi (K : PySem.W.Frag) (dr : Dr) : V → Hp → VK → Prop := fun x H Q => ∃ (B : Addr → Prop) (d : Addr) (o : Obj) (kvs : List (Key × V)) (es : List (D × D)) (D0 : D), x = .ref d ∧ NB H B ∧ H d = some (.frz o (.dK kvs)) ∧ RepK K dr H B kvs es ∧
  biD .sorted [.list (es.map fun p => .tuple [p.1, p.2])] = some D0 ∧ Fin1 K dr H B D0 Q
theorem Same.trans {H H' H'' : Hp} (a : Same H H') (b : Same H' H'') : Same H H'' := fun x u e => b x u (a x u e)
theorem TupAt.same {H H' : Hp} {a : Addr} {vs : List V} (h : TupAt H a vs) (k : Same H H') : TupAt H' a vs := Kp.tupAt (W := fun _ => False) (.of_same k) h
/-- tuples already laid are tracked -/
theorem takeM {pins : List (Addr × Obj)} {σ : L2.St} {H0 : Hp} {s : Shared} {h' : Heap} {tk : Nat} {P : Addr → List V → Prop} (I0 : Inv X pins σ H0 s) : ∀ (L : List Addr) (H1 : Hp), Inv X pins σ H1 { s with heap := h', toks := tk } → L.Nodup →
    (∀ a ∈ L, s.heap.objs.size ≤ a ∧ H1 a = none ∧ ∃ vs o, P a vs ∧ o.dict = none ∧ h'.get? a = some o ∧ ∀ H2, ObjOk X.prog X.w H2 h' a (.tup vs)) →
    ∃ H2, Inv X pins σ H2 { s with heap := h', toks := tk } ∧ Same H1 H2 ∧ ∀ a ∈ L, ∃ vs, P a vs ∧ TupAt H2 a vs
  | [], H1, I1, _, _ => ⟨H1, I1, fun _ _ e => e, fun _ h => nomatch h⟩
  | a :: L, H1, I1, hn, h => by
    obtain ⟨hb, hnone, vs, o, hP, hd, hg, ok⟩ := h a (List.mem_cons_self ..)
    have I2 : Inv X pins σ (upd H1 a (tupO o vs)) { s with heap := h', toks := tk } := I1.take (h' := h') (t' := tk) (fun b ob _ e => e) (I0.fpOk hb hnone) (by
      unfold tupO
      split
      · exact ⟨hg, ok _⟩
      · exact ok _)
    rw [List.nodup_cons] at hn
    obtain ⟨H2, I3, g, q⟩ := takeM I0 L (upd H1 a (tupO o vs)) I2 hn.2 fun c hc => by
      obtain ⟨c1, c2, c3⟩ := h c (List.mem_cons_of_mem _ hc)
      exact ⟨c1, by rw [upd_ne (fun z => hn.1 (by rw [← z]; exact hc))]; exact c2, c3⟩
    refine ⟨H2, I3, fun b o e => g b o (by rw [upd_ne (ne_of_none e hnone)]; exact e), fun c hc => ?_⟩
    rcases List.mem_cons.mp hc with rfl | hc
    · exact ⟨vs, hP, (TupAt.new hd).same g⟩
    · exact q c hc
/-- the tuples of the items, tracked -/
theorem items_new {pins : List (Addr × Obj)} {σ : L2.St} {H : Hp} {s : Shared} {h' : Heap} {tk : Nat} {kvs : List (Key × V)} {vs : List (Key × Value)} {as : List Addr} {lo : Addr} (I : Inv X pins σ H s) (kv : KV kvs vs) (hlo : s.heap.objs.size ≤ lo)
    (hk : ∀ b o, s.heap.get? b = some o → h'.get? b = some o) (hl : as.length = vs.length) (hG : PySem.W.KdxG (mixKind X.prog X.w) vs lo h' as) :
    ∃ H' : Hp, Same H H' ∧ Inv X pins σ H' { s with heap := h', toks := tk } ∧ Paired (fun (t : Addr) (q : Key × V) => H t = none ∧ TupAt H' t [kV q.1, q.2]) as kvs := by
  have lk : kvs.length = vs.length := Paired.length kv
  have nd : as.Nodup := List.Pairwise.imp (fun {a b} (h : a < b) => Nat.ne_of_lt h) hG.rise
  have new : ∀ t ∈ as, H t = none := fun t ht => I.hok.fresh (Nat.le_of_lt (Nat.lt_of_le_of_lt hlo (hG.above t ht)))
  obtain ⟨H2, I3, g, qt⟩ := takeM (P := fun b us => ∃ (j : Nat) (q : Key × V), as[j]? = some b ∧ kvs[j]? = some q ∧ us = [kV q.1, q.2]) I as H (I.kept (t' := tk) hk) nd fun b hb => by
    obtain ⟨j, hj⟩ := List.mem_iff_getElem?.mp hb
    obtain ⟨key, k, x, f1, f2, f3⟩ := hG.pairs j b hj
    obtain ⟨q, g1, g2⟩ := L2.DX.pget kv f1
    have rk : RelV (kV q.1) key := by
      rw [g2.1]
      exact relV_key (show keyIs k key = true from f2)
    exact ⟨Nat.le_of_lt (Nat.lt_of_le_of_lt hlo (hG.above b hb)), new b hb, [kV q.1, q.2], _, ⟨j, q, hj, g1, rfl⟩, rfl, f3, fun H3 => ⟨by show 2 ≤ sizeLine; decide, [key, x], .cons rk (.cons g2.2 .nil), ⟨_, f3, rfl, _, rfl⟩⟩⟩
  refine ⟨H2, g, I3, ?_⟩
  have main : ∀ (xs : List Addr) (ys : List (Key × V)) (n : Nat), xs.length = ys.length → (∀ j, xs[j]? = as[n + j]?) → (∀ j, ys[j]? = kvs[n + j]?) → Paired (fun (t : Addr) (q : Key × V) => H t = none ∧ TupAt H2 t [kV q.1, q.2]) xs ys := by
    intro xs
    induction xs with
    | nil =>
      intro ys n hl _ _
      cases ys with
      | nil => exact .nil
      | cons y ys => cases hl
    | cons a xs ih =>
      intro ys n hl h1 h2
      cases ys with
      | nil => cases hl
      | cons y ys =>
        refine .cons ?_ (ih ys (n + 1) (Nat.succ.inj hl) (fun j => by have := h1 (j + 1); rw [List.getElem?_cons_succ] at this; rw [this]; congr 1; omega) fun j => by have := h2 (j + 1); rw [List.getElem?_cons_succ] at this; rw [this]; congr 1; omega)
        have ha : as[n]? = some a := by have := h1 0; simpa using this.symm
        have hy : kvs[n]? = some y := by have := h2 0; simpa using this.symm
        obtain ⟨us, ⟨j, q, j1, j2, ev⟩, hH⟩ := qt a (List.mem_of_getElem? ha)
        have eij : n = j := (List.getElem?_inj (List.getElem?_eq_some_iff.mp ha).1 nd).mp (ha.trans j1.symm)
        subst eij
        cases hy.symm.trans j2
        exact ⟨new a (List.mem_of_getElem? ha), by rw [← ev]; exact hH⟩
  exact main as kvs 0 (by omega) (fun j => by rw [Nat.zero_add]) fun j => by rw [Nat.zero_add]
theorem reps_items {H H' : Hp} {B : Addr → Prop} (k : Same H H') : ∀ {as : List Addr} {kvs : List (Key × V)} {es : List (D × D)}, RepK X.K dr H B kvs es → Paired (fun (t : Addr) (q : Key × V) => H t = none ∧ TupAt H' t [kV q.1, q.2]) as kvs → Reps X.K dr H' B (as.map V.ref) (es.map fun p => .tuple [p.1, p.2])
  | [], _, _, r, p => by
    cases p
    cases r
    exact .nil
  | a :: as, _, _, r, p => by
    cases p with
    | cons p1 p2 =>
      cases r with
      | cons r1 r2 => exact .cons (.tup p1.2 (.cons (rep_key _) (.cons (r1.same k) .nil))) (reps_items k r2 p2)
theorem pe_si {e : Expr} {te : TE} {p apos cpos pos : Pos} (hc : X.calm = true) (hr : X.A.units + 200 < cLine) (he : PE X e te) (hg : Gl X "sorted") (hm : X.mg "sorted" = none) (hbase : attributeBase e "items" X.env (eval e X.env) = eval e X.env) (hline : (apos.endLine == cpos.line) = true)
    (hs : starEach [.Call (.Attribute e "items" apos) [] [] cpos] X.env = (false, eval (.Call (.Attribute e "items" apos) [] [] cpos) X.env) :: starEach [] X.env := by rfl) :
    PE X (.Call (.Name "sorted" p) [.Call (.Attribute e "items" apos) [] [] cpos] [] pos) (fun σ H Q => te σ H fun x H1 => rSi X.K dr x H1 Q) := by
  refine ⟨fun pins s σ H Q I hq => ?_⟩
  refine wpAny_Call_Name_kw (ld_blt I hg hm (by decide +kernel : bootBuiltins "sorted" = some (.builtin "sorted")) ?_ (by decide +kernel) (by decide +kernel))
  refine PyProof.Rows.callWith_builtin1 ?_ hs rfl
  rw [hs]
  show wpAny _ _ (spliced ((false, eval (.Call (.Attribute e "items" apos) [] [] cpos) X.env) :: backTo pos (starEach [] X.env))) _ _ s
  refine Calls.spliced_cons ?_
  refine wpAny_Call_method (T := "dict") (id := "dict.items") hbase rfl hline F.plainAttrs_dict F.slot_dict_items F.type_dict_items (thn (he.run pins s σ H _ I hq) fun u s1 ⟨x, H1, I1, rx, B, d, o, kvs, es, D0, ex, nb, hd, rk, hD, f⟩ => ?_)
  subst ex
  obtain rfl : u = Value.ref d := rx
  obtain ⟨hs0, hgd, hx, ens, ep, vs, hdt, hsz, kv, hat⟩ := I1.frzK hd
  have lk : kvs.length = vs.length := Paired.length kv
  have I2 : Inv X pins σ H1 { s1 with heap := s1.heap.push { cls := .type "dict_items", data := .fields #[.ref d] } } := I1.kept (t' := s1.toks) fun b ob q => Heap.get?_push_of_some _ q
  refine ⟨hat.dictOf.typeIs, hat.dictOf.mapOf.noDict, ?_⟩
  show wpAny _ _ (callWith cpos (.builtin "dict.items") [.ref d] [] []) _ X.xe s1
  refine method_meetsIn F.slot_dict_items F.entry_dict_items rfl (PySem.evalArgs_none ⟨rfl, hat.dictOf.typeIs, F.args_dict_items_1 _, _, meets_dict_items (mixKind X.prog X.w) d hs0, ⟨vs, hat.dictOf⟩, ?_⟩)
  refine Calls.spliced_nil ?_
  unfold biD at hD
  obtain ⟨hz, rfl⟩ := ite_some hD
  simp only [Bool.and_eq_true] at hz
  obtain ⟨⟨h1, h2⟩, h3⟩ := hz
  have hlen : kvs.length ≤ sizeLine := by
    obtain ⟨_, z, _⟩ := I1.hok d _ hd
    exact z
  refine sort_view (knd := mixKind X.prog X.w) (kvs := vs) (ep := ep) (I1.ok.hd hc) ⟨_, Heap.get?_push_size _ rfl, rfl, rfl⟩ (hat.push _) (by omega) fun h' tk as hk hl hG => ?_
  obtain ⟨H2, k2, J, pr⟩ := items_new (tk := tk) I2 kv (Nat.le_refl _) hk hl hG
  have q := reps_items k2 rk pr
  obtain ⟨ps, e1, e2, q'⟩ := q.zip
  have ho : ∀ p ∈ ps, okN deep p.2 = true := fun p m => List.all_eq_true.mp h3 p.2 (by rw [e2]; exact List.mem_map_of_mem m)
  obtain ⟨g1, g2⟩ := reads_each J (us := as.map Value.ref) q' ho (by rw [← e1]; exact LiI.vals_refs as)
  have pl : ps.length = as.length := by
    have := congrArg List.length e1
    simpa using this.symm
  rw [e2] at h1 h2
  refine sort_new (enc := Prod.snd) g1 g2 (fun d hd d' hd' => alikeL_of h1 d hd d' hd') (sortable_of h2) (by omega) (fun p m => ?_) fun out hol eo => ?_
  · have := (okN_plain _ _ (ho p m)).2
    have hdeep : deep = 40 := rfl
    show X.A.units + 1 + 1 + _ < _
    omega
  · have hp : (ps.mergeSort (PySem.W.dataLe false Prod.snd)).Perm ps := List.mergeSort_perm _ _
    have hv := each_vals eo
    have hlen2 : ((ps.mergeSort (PySem.W.dataLe false Prod.snd)).map Prod.fst).length ≤ sizeLine := by
      rw [List.length_map, hp.length_eq]
      omega
    have hq : Reps X.K dr H2 B ((ps.mergeSort (PySem.W.dataLe false Prod.snd)).map Prod.fst) ((ps.mergeSort (PySem.W.dataLe false Prod.snd)).map Prod.snd) := Reps.of_zip fun p m => q' p (hp.mem_iff.mp m)
    rw [sort_snd, ← e2] at hq
    have hob : (h'.push { cls := .type "list", data := .seq (as.map Value.ref).toArray }).get? h'.objs.size = some (seqObj "list" (as.map Value.ref).toArray 0) := Heap.get?_push_size _ rfl
    obtain ⟨eF, heF⟩ := PyProof.Rows.sortedHeap_at (vs := as.map Value.ref) (out := List.toArray out) hob
    have hn0 : H2 h'.objs.size = none := J.hok.fresh (Nat.le_refl _)
    have kk : Same H2 (upd H2 h'.objs.size (.lst ((ps.mergeSort (PySem.W.dataLe false Prod.snd)).map Prod.fst))) := same_new hn0
    have hB : ¬ B h'.objs.size := fun z => by
      cases hh : H1 h'.objs.size with
      | none => exact nb _ hh z
      | some u =>
        have := k2 _ _ hh
        rw [hn0] at this
        cases this
    have hn1 : H1 h'.objs.size = none := by
      cases hh : H1 h'.objs.size with
      | none => rfl
      | some u =>
        have := k2 _ _ hh
        rw [hn0] at this
        cases this
    refine ⟨.ref h'.objs.size, _, J.laid (t' := tk) (fun b u e => ?_) (Nat.le_refl _) (show ObjOk X.prog X.w _ _ _ (.lst _) from ⟨hlen2, out, eF, hv, by simpa using heF⟩), rfl, f _ _ (Same.trans k2 kk) (.lst upd_same hB (hq.same kk)) fun ds e => ?_⟩
    · exact (PyProof.Rows.sortedHeap_old (Nat.ne_of_lt (Heap.lt_size e)) (Heap.lt_size (Heap.get?_push_of_some _ e))).trans (Heap.get?_push_of_some _ e)
    · cases e
      exact ⟨_, _, rfl, hn1, upd_same, (Reps.anti (fun b z => z.imp id fun e => by rw [e]; exact hn0) _ _ hq).same kk⟩
end
end Pf

namespace Pf
open PySem PySem.Spec PyProof.Rows PySem.Calls L2
section
variable {P : Program} {w : World} {A : Around} {E : Value → Shared → Prop} {s : Shared}
/-- a set that holds nothing yet -/
abbrev emS (w : World) : Obj := { cls := .type "set", dict := none, data := .set #[] 0 (.fresh 0 0 (!w.params.followText "set-order")) }
abbrev Took (P : Program) (w : World) (h : Heap) (S : Addr) (ks : List (Addr × List Int)) (k : Nat) (g : Heap) : Prop := (∃ L es ep t, SetTR P w g S L es ep t ∧ Got ks k L) ∧ ∀ b o, h.get? b = some o → g.get? b = some o
set_option maxHeartbeats 3200000 in
/-- __init__ of the new set walks the tuple -/
theorem set_init_tup {t : Addr} {ws : Array Value} (ks : List (Addr × List Int)) (hh : A.handled = none) (ht : s.heap.IsTuple t ws) (hw : ws.toList = ks.map fun p => Value.ref p.1) (hk : ∀ p ∈ ks, IsT P w s.heap p.2 p.1) (h64 : ks.length < 64) (hu : A.units + 3 < cLine) {R : PySem.Fin → Shared → Prop} {E' : Value → Shared → Prop}
    (fin : ∀ g tk, Took P w s.heap s.heap.objs.size ks ks.length g → R (.done (.ret .none)) { s with heap := g, toks := tk }) :
    wpAny (model P w) A.in1.in1 (Builtin.«set.__init__» ⟨[.ref s.heap.objs.size, .ref t], []⟩) R E' { s with heap := s.heap.push (emS w) } := by
  have size : ws.size = ks.length := by simpa using congrArg List.length hw
  have hS : (s.heap.push (emS w)).get? s.heap.objs.size = some (emS w) := Heap.get?_push_size _ rfl
  have own : Shared.TypeIs { s with heap := s.heap.push (emS w) } (.ref s.heap.objs.size) "set" := ⟨_, hS, rfl⟩
  have tup := ht.at (h' := s.heap.push (emS w)) fun o e => Heap.get?_push_of_some _ e
  obtain ⟨⟨oc, od, oda, osl⟩, t1, t2, n, t3⟩ := id ht
  simp only at t2 t3
  subst t2 t3
  have t1' := Heap.get?_push_of_some (emS w) t1
  have q1 := F.sub_tuple_set
  have q2 := F.sub_tuple_frozenset
  have q3 : (Value.type "tuple" == Value.type "dict") = false := rfl
  unfold Builtin.«set.__init__» noKeywords Builtin.Frozenset.updateFrom
  generalize hPI : pyIter = PI
  wp_walk
  subst hPI
  have apart : t ≠ (s.heap.push (emS w)).objs.size := by
    rw [Heap.size_push]
    exact Nat.ne_of_lt (Nat.lt_succ_of_lt (Heap.lt_size t1))
  have fresh : ∀ b, s.heap.objs.size ≤ b → s.heap.get? b = none := fun b hb => Option.eq_none_iff_forall_ne_some.mpr fun o e => absurd (Heap.lt_size e) (Nat.not_lt.mpr hb)
  have walk := (Walks.tuple (prog := P) (w := w) (A := A.in1.in1.in1) (by simp [hh]) _ t apart ws).toS
  refine wpAny_pyIter_tuple tup (wpAny_bind (wpAny_runValue ?_))
  refine set_update_tups (A := A.in1.in1) walk s.heap.objs.size ?ni ks size h64 ?val s.heap hk (fresh _ (Nat.le_refl _)) ?nw hu ws.size 0 _ (Nat.sub_zero _) (Nat.zero_le _) ?start (fun b o e => Heap.get?_push_of_some _ (Heap.get?_push_of_some _ e)) ?mt ?fin
  case ni =>
    rw [Heap.size_push]
    intro z
    rcases List.mem_cons.mp z with z | z
    · exact absurd z (Nat.ne_of_lt (Nat.lt_succ_self _))
    · exact absurd (List.mem_singleton.mp z) (Nat.ne_of_gt (Heap.lt_size t1))
  case val =>
    intro i v hv
    have q : (ks.map fun p => Value.ref p.1)[i]? = some v := by rw [← hw, Array.getElem?_toList]; exact hv
    rw [List.getElem?_map] at q
    obtain ⟨p, hp, e⟩ := Option.map_eq_some_iff.mp q
    exact ⟨p, hp, e.symm⟩
  case nw =>
    intro b hb
    rw [List.mem_singleton.mp hb, Heap.size_push]
    exact fresh _ (Nat.le_succ _)
  case start => exact ⟨⟨_, Heap.get?_push_size _ rfl, rfl, rfl⟩, tup.at fun o e => Heap.get?_push_of_some _ e⟩
  case mt => exact ⟨[], #[], 0, _, setTR_fresh (Heap.get?_push_of_some _ hS), Got.zero ks⟩
  case fin =>
    intro s' L es ep tb mv made got kept
    obtain ⟨g, gs, dr, tk, os⟩ := s'
    obtain rfl : gs = s.gens := mv.gens
    obtain rfl : dr = s.drawn := mv.drawn
    obtain rfl : os = s.os := mv.os
    rw [size] at got
    exact wpAny_pure (wpAny_pure (fin g tk ⟨⟨L, es, ep, tb, made, got⟩, kept⟩))
set_option maxHeartbeats 3200000 in
/-- set(t), t a tuple of tuples of ints -/
theorem set_of_tup {t : Addr} {ws : Array Value} (ks : List (Addr × List Int)) {Q : Value → Shared → Prop} (hh : A.handled = none) (ht : s.heap.IsTuple t ws) (hw : ws.toList = ks.map fun p => Value.ref p.1) (hk : ∀ p ∈ ks, IsT P w s.heap p.2 p.1) (h64 : ks.length < 64) (hu : A.units + 4 < cLine)
    (fin : ∀ g tk, Took P w s.heap s.heap.objs.size ks ks.length g → Q (.ref s.heap.objs.size) { s with heap := g, toks := tk }) : wpAny (model P w) A (call (.type "set") [.ref t]) Q E s := by
  have of := F.called_set
  obtain ⟨c, tl, o1⟩ := of.mro
  have o2 := of.made
  have o3 := of.sub
  refine wpAny_call (codeAny_of_tree ?_)
  show wpAny _ _ (callAny (.type "set") _) _ _ _
  refine wpAny_pure ⟨Code.quiet_builtin _ (by decide +kernel), codeAny_builtin F.entry_type_call ?_⟩
  rw [Around.under_plain (weight_type_call_type "set" [.ref t] []) rfl]
  have o4 := of.notType
  have o5 := of.canCreate
  have o6 := F.typeCall_set_1 (.ref t)
  repeat (any_goals (first | assumption | wp_step))
  have hS : (s.heap.push (emS w)).get? s.heap.objs.size = some (emS w) := Heap.get?_push_size _ rfl
  have own : Shared.TypeIs { s with heap := s.heap.push (emS w) } (.ref s.heap.objs.size) "set" := ⟨_, hS, rfl⟩
  refine codeAny_mono (code_set_led1 (.ref t) (E := E) (Q₁ := fun x s1 => x = .ref s.heap.objs.size ∧ s1 = { s with heap := s.heap.push (emS w) }) ⟨rfl, rfl⟩) fun r s1 hr => ?_
  rcases r with e | fl
  · exact hr
  cases fl with
  | ret x =>
    obtain ⟨rfl, rfl⟩ := hr
    have i1 := of.init.lookup
    have i2 := of.init.bind (.ref s.heap.objs.size)
    repeat (any_goals (first | assumption | wp_step))
    refine codeAny_mono (codeAny_call_builtin (R := wants (fun r s2 => r = .none ∧ ∃ g tk, s2 = { s with heap := g, toks := tk } ∧ Took P w s.heap s.heap.objs.size ks ks.length g) E) of.init.plain F.entry_set_init (check_set_init_1 own (set_init_tup (E' := E) ks hh ht hw hk h64 (by omega) fun g tk h => ⟨rfl, g, tk, rfl, h⟩))) fun r s2 h2 => ?_
    rcases r with e | fl
    · exact h2
    cases fl with
    | ret y =>
      obtain ⟨rfl, g, tk, rfl, h3⟩ := h2
      repeat (any_goals (first | assumption | wp_step))
      exact fin g tk h3
    | _ => exact h2.elim
  | _ => exact hr.elim
end
end Pf

namespace Pf
open PySem PySem.Spec PyProof.Rows PySem.Calls L2
variable [Mode]
section
variable {X : Cx} {dr : Dr} {Γ : Gam} {H : Hp} {B : Addr → Prop}
abbrev tl (t : Int × Int) : List Int := [t.1, t.2]
theorem prs_D : ∀ {xs : List D} {ts : List (Int × Int)}, prsD xs = some ts → xs = ts.map fun t => .tuple [.int t.1, .int t.2]
  | [], ts, h => by
    cases h
    rfl
  | x :: xs, ts, h => by
    unfold prsD at h
    split at h
    · rename_i h1
      cases h1
    · rename_i a b r h1
      cases h1
      obtain ⟨us, h2, rfl⟩ := Option.map_eq_some_iff.mp h
      rw [prs_D h2]
      rfl
    · cases h
theorem reps_prs {ts : List (Int × Int)} {vs : List V} (r : Reps X.K dr H B vs (ts.map fun t => .tuple [.int t.1, .int t.2])) : ∃ ks : List (Addr × List Int), vs = ks.map (fun p => V.ref p.1) ∧ ks.map (·.2) = ts.map tl ∧ ∀ p ∈ ks, TupAt H p.1 (p.2.map V.int) := by
  induction ts generalizing vs with
  | nil =>
    cases r
    exact ⟨[], rfl, rfl, fun p h => nomatch h⟩
  | cons t ts ih =>
    cases r with
    | cons r1 r2 =>
      obtain ⟨ks, e1, e2, e3⟩ := ih r2
      cases r1 with
      | tup ta rr =>
        cases rr with
        | cons a1 rr =>
          cases rr with
          | cons a2 rr =>
            cases rr
            cases a1
            cases a2
            exact ⟨(_, tl t) :: ks, by rw [e1]; rfl, by rw [List.map_cons, e2]; rfl, fun p hp => by
              rcases List.mem_cons.mp hp with rfl | hp
              · exact ta
              · exact e3 p hp⟩
theorem dd_mem {α : Type} [DecidableEq α] {y : α} : ∀ {l : List α}, y ∈ dd l ↔ y ∈ l
  | [] => Iff.rfl
  | x :: l => by
    unfold dd
    split
    · rename_i h
      rw [dd_mem]
      refine ⟨fun h => List.mem_cons_of_mem _ h, fun h2 => ?_⟩
      rcases List.mem_cons.mp h2 with rfl | h2
      · exact h
      · exact h2
    · rw [List.mem_cons, dd_mem, List.mem_cons]
theorem dd_nodup {α : Type} [DecidableEq α] : ∀ {l : List α}, (dd l).Nodup
  | [] => List.nodup_nil
  | x :: l => by
    unfold dd
    split
    · exact dd_nodup
    · rename_i h
      exact List.nodup_cons.mpr ⟨fun z => h (dd_mem.mp z), dd_nodup⟩
theorem dd_len {α : Type} [DecidableEq α] : ∀ {l : List α}, (dd l).length ≤ l.length
  | [] => Nat.le_refl _
  | x :: l => by
    have := dd_len (l := l)
    unfold dd
    split
    · rw [List.length_cons]; omega
    · rw [List.length_cons, List.length_cons]; omega
theorem cd_total : ∀ a b : Int × Int, (cdB a b || cdB b a) = true := fun a b => by
  unfold cdB
  rw [Bool.or_eq_true, decide_eq_true_eq, decide_eq_true_eq]
  omega
theorem cd_trans : ∀ a b c : Int × Int, cdB a b = true → cdB b c = true → cdB a c = true := fun a b c h1 h2 => by
  unfold cdB at *
  rw [decide_eq_true_eq] at *
  omega
theorem sset_sorted (ts : List (Int × Int)) : (ssetL ts).Pairwise fun a b => cdB a b = true := List.pairwise_mergeSort cd_trans cd_total (dd ts)
theorem sset_perm (ts : List (Int × Int)) : (ssetL ts).Perm (dd ts) := List.mergeSort_perm _ _
theorem sset_uniq {ts us : List (Int × Int)} (hb : ∀ t ∈ ts, smallP t = true) (hn : us.Nodup) (hm : ∀ t, t ∈ us ↔ t ∈ ts) (hs : us.Pairwise fun a b => cdB a b = true) : us = ssetL ts := by
  refine List.Perm.eq_of_pairwise (le := fun a b => cdB a b = true) (fun a b ha hb' h1 h2 => ?_) hs (sset_sorted ts) (((List.perm_ext_iff_of_nodup hn dd_nodup).mpr fun t => by rw [hm, dd_mem]).trans (sset_perm ts).symm)
  have p1 := hb a ((hm a).mp ha)
  have p2 := hb b (dd_mem.mp ((sset_perm ts).mem_iff.mp hb'))
  unfold cdB at h1 h2
  unfold smallP at p1 p2
  simp only [Bool.and_eq_true, decide_eq_true_eq] at *
  ext <;> omega
theorem TupAt.s {H H' : Hp} {a : Addr} {vs : List V} (h : TupAt H a vs) (k : Same H H') : TupAt H' a vs := TupAt.same h k
theorem reps_tl : ∀ (L : List (Addr × List Int)) (us : List (Int × Int)), L.map (·.2) = us.map tl → (∀ q ∈ L, TupAt H q.1 (q.2.map V.int)) → Reps X.K dr H B (L.map fun q => V.ref q.1) (us.map fun t => .tuple [.int t.1, .int t.2])
  | [], [], _, _ => .nil
  | [], _ :: _, e, _ => by cases e
  | _ :: _, [], e, _ => by cases e
  | q :: L, t :: us, e, h => by
    rw [List.map_cons, List.map_cons] at e
    obtain ⟨e1, e2⟩ := List.cons.inj e
    have hq := h q List.mem_cons_self
    rw [e1] at hq
    exact .cons (.tup hq (.cons (.int _) (.cons (.int _) .nil))) (reps_tl L us e2 fun r hr => h r (List.mem_cons_of_mem _ hr))
theorem tl_inj {a b : Int × Int} (h : tl a = tl b) : a = b := by
  obtain ⟨h1, h2⟩ := List.cons.inj h
  obtain ⟨h2, _⟩ := List.cons.inj h2
  ext <;> assumption
def rSetU (K : PySem.W.Frag) (P : Program) (w : World) : List V → Hp → VK → Prop := fun xs H Q => rSetOfT K P w xs H Q ∨ ∃ (l : Addr) (ks : List (Addr × List Int)), xs = [V.ref l] ∧ SqT K H l (ks.map fun p => V.ref p.1) ∧ (∀ p ∈ ks, SqT K H p.1 (p.2.map V.int)) ∧ ks.length < 64 ∧
  ∀ a L, H a = none → (∀ p ∈ L, p ∈ ks) → (∀ p ∈ ks, p.2 ∈ L.map (·.2)) → Q (.ref a) (upd H a (SetTO P w a L))
theorem cr_setU (hc : X.calm = true) (hu : X.A.units + 64 < cLine) : CallR X (.type "set") (rSetU X.K X.prog X.w) := by
  intro pins s σ H xs us Q I r h
  rcases h with h | ⟨l, ks, rfl, hl, hk, hf, q⟩
  · exact cr_setOfT hc hu pins s σ H xs us Q I r h
  · rw [Vals.ref1 r]
    obtain ⟨its, rv, ⟨ob, o1, o2, m, o3⟩, hz⟩ := I.tuple hl
    refine set_of_tup ks (I.ok.hd hc) ⟨ob, o1, o2, m, o3⟩ (by simpa using refs_of_vals rv) (fun p hp => I.isT (hk p hp)) hf (by omega) fun g tk ⟨⟨L, es, ep, tb, R, got⟩, k⟩ => ?_
    exact ⟨.ref _, upd H _ (SetTO X.prog X.w s.heap.objs.size L), I.laid (t' := tk) k (Nat.le_refl _) (setTO_new R.t0), rfl, q _ L (I.hok.fresh (Nat.le_refl _)) (fun p hp => List.mem_of_mem_take (got.sub p hp)) fun p hp => got.all p (by rw [List.take_length]; exact hp)⟩
theorem sset_core {x : V} {Q : VK} {d : D} {xs : List D} {ts : List (Int × Int)} (nb : NB H B) (hd : d = .list xs ∨ d = .tuple xs) (rt : RepT X.K dr H B x d) (hp : prsD xs = some ts) (h64 : ts.length < 64) (hb : ∀ t ∈ ts, smallP t = true) (f : Fin1 X.K dr H B (.list ((ssetL ts).map fun t => .tuple [.int t.1, .int t.2])) Q) :
    rSetU X.K X.prog X.w [x] H (fun y H2 => rSortedT X.K X.prog X.w [y] H2 Q) := by
  obtain ⟨a, vs, rfl, e, q⟩ : ∃ a vs, x = .ref a ∧ (SqL X.K H a vs ∨ SqT X.K H a vs) ∧ Reps X.K dr H B vs xs := by
    rcases hd with rfl | rfl
    · obtain ⟨a, vs, rfl, e, q⟩ := rt.list
      exact ⟨a, vs, rfl, .inl (SqL.of e), q⟩
    · obtain ⟨a, vs, rfl, e, q⟩ := rt.tuple
      exact ⟨a, vs, rfl, .inr e, q⟩
  rw [prs_D hp] at q
  obtain ⟨ks, e1, e2, ta⟩ := reps_prs q
  have kl : ks.length = ts.length := by
    have := congrArg List.length e2
    simpa using this
  have kt : ∀ p ∈ ks, ∃ t ∈ ts, tl t = p.2 := fun p hp => by
    have : p.2 ∈ ks.map (·.2) := List.mem_map.mpr ⟨p, hp, rfl⟩
    rw [e2] at this
    exact List.mem_map.mp this
  have main : ∀ a' L, H a' = none → (∀ p ∈ L, p ∈ ks) → (∀ p ∈ ks, p.2 ∈ L.map (·.2)) → rSortedT X.K X.prog X.w [.ref a'] (upd H a' (SetTO X.prog X.w a' L)) Q := by
    intro a' L hn hs hall
    have k1 : Same H (upd H a' (SetTO X.prog X.w a' L)) := same_new hn
    refine ⟨a', L, 2, 64, rfl, upd_same, fun p hp => ((ta p (hs p hp)).s k1).sqT, by decide, fun p hp => ?_, fun L' p pm nd hl pw hpn => ?_⟩
    · obtain ⟨t, ht, et⟩ := kt p (hs p hp)
      have := hb t ht
      unfold smallP at this
      simp only [Bool.and_eq_true, decide_eq_true_eq] at this
      rw [← et]
      refine ⟨rfl, fun m hm => ?_⟩
      rcases List.mem_cons.mp hm with rfl | hm
      · omega
      · rcases List.mem_cons.mp hm with rfl | hm
        · omega
        · cases hm
    · have hsub : ∀ r ∈ L', r ∈ ks := fun r hr => hs r (pm.mem_iff.mp hr)
      obtain ⟨us, hus⟩ : ∃ us : List (Int × Int), L'.map (·.2) = us.map tl := by
        have : ∀ M : List (Addr × List Int), (∀ r ∈ M, r ∈ ks) → ∃ us : List (Int × Int), M.map (·.2) = us.map tl := by
          intro M
          induction M with
          | nil => exact fun _ => ⟨[], rfl⟩
          | cons r M ih =>
            intro h
            obtain ⟨us, hu⟩ := ih fun z hz => h z (List.mem_cons_of_mem _ hz)
            obtain ⟨t, _, et⟩ := kt r (h r List.mem_cons_self)
            exact ⟨t :: us, by rw [List.map_cons, List.map_cons, hu, et]⟩
        exact this L' hsub
      have hu : us = ssetL ts := by
        refine sset_uniq hb ?_ (fun t => ?_) ?_
        · rw [hus] at nd
          exact (List.pairwise_map.mp nd).imp fun h e => h (by rw [e])
        · have m1 : tl t ∈ us.map tl ↔ t ∈ us := ⟨fun h => by
            obtain ⟨z, hz, ez⟩ := List.mem_map.mp h
            rw [← tl_inj ez]
            exact hz, fun h => List.mem_map.mpr ⟨t, h, rfl⟩⟩
          have m2 : tl t ∈ ts.map tl ↔ t ∈ ts := ⟨fun h => by
            obtain ⟨z, hz, ez⟩ := List.mem_map.mp h
            rw [← tl_inj ez]
            exact hz, fun h => List.mem_map.mpr ⟨t, h, rfl⟩⟩
          rw [← m1, ← m2, ← hus, ← e2]
          constructor
          · intro h
            obtain ⟨r, hr, er⟩ := List.mem_map.mp h
            exact List.mem_map.mpr ⟨r, hsub r hr, er⟩
          · intro h
            obtain ⟨r, hr, er⟩ := List.mem_map.mp h
            obtain ⟨z, hz, ez⟩ := List.mem_map.mp (hall r hr)
            exact List.mem_map.mpr ⟨z, pm.mem_iff.mpr hz, ez.trans er⟩
        · have : (us.map tl).Pairwise fun q r => TS.code 64 q ≤ TS.code 64 r := by
            rw [← hus]
            exact List.pairwise_map.mpr pw
          refine (List.pairwise_map.mp this).imp fun {q r} h => ?_
          rw [code_pair, code_pair] at h
          exact decide_eq_true h
      have k2 : Same (upd H a' (SetTO X.prog X.w a' L)) (upd (upd H a' (SetTO X.prog X.w a' L)) p (.lst (L'.map fun q => V.ref q.1))) := same_new hpn
      have hr := reps_tl (X := X) (dr := dr) (B := B) L' us hus fun r hr => ((ta r (hsub r hr)).s k1)
      rw [hu] at hr
      have pn : H p = none := by
        cases hh : H p with
        | none => rfl
        | some u =>
          have := k1 _ _ hh
          rw [hpn] at this
          cases this
      refine f _ _ (Same.trans k1 k2) (.lst upd_same (nb p pn) (hr.same k2)) fun ds e => ?_
      cases e
      exact ⟨_, _, rfl, pn, upd_same, (Reps.anti (fun b z => z.imp id fun e => by rw [e]; exact hpn) _ _ hr).same k2⟩
  rcases e with e | e
  · exact .inl ⟨a, ks, rfl, by rw [← e1]; exact e, fun p hp => (ta p hp).sqT, by omega, main⟩
  · exact .inr ⟨a, ks, rfl, by rw [← e1]; exact e, fun p hp => (ta p hp).sqT, by omega, main⟩
end
end Pf

namespace Pf
open PySem PySem.Spec PyProof.Rows PySem.Calls L2
variable [Mode]
section
variable {X : Cx} {dr : Dr} {Γ : Gam} {H : Hp} {B : Addr → Prop}
def rMnd (K : PySem.W.Frag) (dr : Dr) (i : Int) : List V → List V → Hp → VK → Prop := fun vs zs H Q => zs = [.int i] ∧ ∃ B x y d, vs = [x] ∧ NB H B ∧ RepT K dr H B x y ∧ mndD i y = some d ∧ Fin1 K dr H B d Q
theorem call_mnd {i : Int} (hc : X.calm = true) (hr : X.A.units + 200 < cLine) : CallRK X (.builtin "min") [Str.ofString "default"] (rMnd X.K dr i) := by
  intro pins s σ H xs zs us ws Q I r rz h
  obtain ⟨rfl, B, x, y, d, rfl, nb, q, hd, f⟩ := h
  have hh := I.ok.hd hc
  obtain ⟨w1, rfl, e1⟩ : ∃ w, ws = [w] ∧ RelV (.int i) w := by
    cases rz with
    | cons p n =>
      cases n
      exact ⟨_, rfl, p⟩
  show wpAny (model X.prog X.w) X.A (call (.builtin "min") us [(Str.ofString "default", w1)]) (EP X pins σ Q) X.xe s
  unfold mndD at hd
  split at hd
  · cases hd
    obtain ⟨a, vs, rfl, e, q⟩ := q.list
    obtain ⟨its, rv, hl, hlen⟩ := I.list (SqL.of e)
    rw [Vals.ref1 r]
    cases q
    cases rv
    refine PySem.W.min_list_default (xs := []) hh hl.isList .nil ⟨alikeL_of (xs := []) rfl, fun x h => absurd h List.not_mem_nil⟩ ?_ (fun _ h' tk kk => ?_) (fun y ys i v h' tk bs e => by cases e)
    · show X.A.units + 1 + 0 < _
      omega
    · exact ⟨.int i, H, I.kept kk, e1, f.plain (.int _) (by intro _ e; cases e)⟩
  · obtain ⟨hz, rfl⟩ := ite_some hd
    obtain ⟨a, vs, rfl, e, q⟩ := q.list
    obtain ⟨its, rv, hl, hlen⟩ := I.list (SqL.of e)
    obtain ⟨h1, h2, h3, h4⟩ := orderable_of hz
    obtain ⟨as, hR⟩ := Dp.readsAll I _ _ its (Reps.dp _ _ q h2) rv
    rw [Vals.ref1 r]
    refine PySem.W.min_list_default hh hl.isList (by simpa using hR) h1 (by omega) (fun e => nomatch e) fun y ys j v h' tk bs ey hi hv kk => ?_
    obtain ⟨rfl, rfl⟩ := List.cons.inj ey
    have hi' : its[j]? = some v := by simpa using hi
    have hlt := (List.getElem?_eq_some_iff.mp hi').1
    have hli := rv.length
    obtain ⟨d', e3, r3⟩ := q.getV (i := j) (v := vs[j]'(by omega)) (List.getElem?_eq_getElem (by omega))
    obtain ⟨u2, e4, r4⟩ := rv.get (i := j) (x := vs[j]'(by omega)) (List.getElem?_eq_getElem (by omega))
    rw [hi'] at e4
    cases e4
    have hmem : d' ∈ (_ :: _) := List.mem_of_getElem? e3
    obtain ⟨cs, hR2⟩ := Dp.reads (I.kept (t' := tk) kk) d' _ v (Rep.dp d' _ r3 (plain_mem h2 hmem)) r4
    rw [leastD_eq] at hv
    have ed : d' = leastD _ _ := PySem.SeqAt.plain_unique d' _ v _ _ (plain_mem h2 hmem) hR2 hv
    rw [← ed] at f
    exact ⟨_, H, I.kept kk, r4, f.plain r3 (fun es => ed ▸ h4 d' hmem es)⟩
  · cases hd
end
end Pf

namespace Pf
open PySem PySem.Spec PyProof.Rows PySem.Calls L2
variable [Mode]
section
variable {prog : Program} {w : World} {A : Around} {E : Value → Shared → Prop} {s : Shared}
theorem places_rev (n : Nat) : Builtin.Slice.slicePlaces ((n : Int) - 1) (-1) (-1) = n := by
  unfold Builtin.Slice.slicePlaces
  have h1 : ¬ ((-1 : Int) > 0) := by omega
  simp only [h1, if_false, Int.neg_neg, Int.ediv_one]
  split <;> omega
theorem applied_rev {sl : Addr} {vs : Value} {n : Nat} {Q : Int × Int × Nat → Shared → Prop} (hs : s.heap.IsSliceOf sl .none .none vs) (ps : IsPart vs (some (-1)))
    (h : Q ((n : Int) - 1, -1, n) s) : wpAny (model prog w) A (Builtin.Slice.sliceApplied (.ref sl) (pure (n : Int))) Q E s := by
  obtain ⟨os, hos, hcs, hds⟩ := id hs
  unfold Builtin.Slice.sliceApplied Builtin.Slice.sliceFields
  refine wpAny_bind (wpAny_bind (wpAny_field hos hds (x := .none) rfl (wpAny_bind (wpAny_field hos hds (x := .none) rfl (wpAny_bind (wpAny_field hos hds (x := vs) rfl (wpAny_pure ?_)))))))
  refine wpAny_bind (HT.slicePart_ ps ?_)
  show wpAny _ _ (if ((-1 : Int) == 0) = true then _ else _) _ _ s
  rw [if_neg (by decide)]
  refine wpAny_bind (HT.slicePart_ .none (wpAny_bind (HT.slicePart_ .none (wpAny_bind (wpAny_pure ?_)))))
  show wpAny _ _ (pure ((n : Int) - 1, (-1 : Int), Builtin.Slice.slicePlaces ((n : Int) - 1) (-1) (-1))) _ _ s
  rw [places_rev]
  exact wpAny_pure h
theorem fm_congr {α β : Type} {f g : α → Option β} : ∀ {xs : List α}, (∀ x ∈ xs, f x = g x) → xs.filterMap f = xs.filterMap g
  | [], _ => rfl
  | x :: xs, h => by
    rw [List.filterMap_cons, List.filterMap_cons, h x List.mem_cons_self, fm_congr fun y hy => h y (List.mem_cons_of_mem _ hy)]
theorem pick_rev (xs : Array Value) : ((List.range xs.size).filterMap fun (m : Nat) => xs[((xs.size : Int) - 1 + (m : Int) * -1).toNat]?).toArray = xs.toList.reverse.toArray := by
  have e : ((List.range xs.size).filterMap fun (m : Nat) => xs[((xs.size : Int) - 1 + (m : Int) * -1).toNat]?) = ((List.range xs.size).map fun k => xs.size - 1 - k).filterMap fun m => xs[m]? := by
    rw [List.filterMap_map]
    refine fm_congr fun m hm => ?_
    have := List.mem_range.mp hm
    show xs[((xs.size : Int) - 1 + (m : Int) * -1).toNat]? = xs[xs.size - 1 - m]?
    congr 1
    omega
  rw [e, PySem.W.krv_range, List.filterMap_reverse, PySem.W.krv_all]
theorem item_rev {t sl : Addr} {items : Array Value} {vs : Value} {Q : Value → Shared → Prop} (ht : IsTup s.heap t items) (hs : s.heap.IsSliceOf sl .none .none vs) (ps : IsPart vs (some (-1)))
    (h : Q (.ref s.heap.objs.size) { s with heap := s.heap.push { cls := .type "tuple", data := .seq items.toList.reverse.toArray } })
    (hsz : items.size ≤ sizeLine) : wpAny (model prog w) A (getItem (.ref t) (.ref sl)) Q E s := by
  have htake : sizeOk (.seq items.toList.reverse.toArray) := by
    show items.toList.reverse.toArray.size ≤ sizeLine
    simpa using hsz
  obtain ⟨os, hos, hcs, hds⟩ := id hs
  have hTs : s.TypeIs (.ref sl) "slice" := ⟨os, hos, hcs⟩
  unfold getItem
  try with_reducible refine wpAny_holding ?_
  first | refine wpAny_bind (wpAny_pure ?_) | skip
  refine wpAny_bind (wpAny_sequenceKey ht.typeIs (by decide) ?_)
  refine wpAny_bind (wpAny_callSpecial?_slot (name := Str.ofString "__getitem__") ht.typeIs PyProof.Rows.slot_tuple_getitem
    (wpAny_call_entry PyProof.Rows.slot_tuple_getitem ht.typeIs entry_tuple_getitem ?_ (args_tuple_getitem _ _)))
  show wpAny _ _ (Builtin.Tuple.tupleItemsOf (.ref t) >>= _) _ _ s
  refine wpAny_bind (tupleItemsOf_ ht ?_)
  refine wpAny_bind (wpAny_typeOf hTs ?_)
  rw [if_pos (by decide)]
  refine wpAny_bind (applied_rev hs ps ?_)
  show wpAny _ _ (if ((((items.size : Int) - 1) == 0 && (-1 : Int) == 1 && items.size == items.size) = true) then _ else _) _ _ s
  rw [if_neg (by simp), pick_rev]
  first
    | exact wpAny_bind (m := Builtin.Tuple.tupleExact _) (wpAny_newObj_type (wpAny_pure ⟨_, rfl, wpAny_pure h⟩) htake)
    | exact wpAny_bind (m := Builtin.Tuple.tupleExact _) (wpAny_newObj_type (wpAny_bind (wpAny_pure (wpAny_pure ⟨_, rfl, wpAny_pure h⟩))) htake)
    | exact wpAny_bind (wpAny_bind (m := Builtin.Tuple.tupleExact _) (wpAny_newObj_type (wpAny_pure (wpAny_pure ⟨_, rfl, wpAny_pure h⟩)) htake))
    | exact wpAny_bind (wpAny_bind (m := Builtin.Tuple.tupleExact _) (wpAny_newObj_type (wpAny_pure ⟨_, rfl, wpAny_pure h⟩) htake))
end
section
variable {X : Cx} {dr : Dr} {Γ : Gam} {H : Hp} {B : Addr → Prop}
def tRv (K : PySem.W.Frag) (te : TE) : TE := fun σ H Q => te σ H fun x H1 => ∃ a xs, x = .ref a ∧ ((SqL K H1 a xs ∧ ∀ p, H1 p = none → Q (.ref p) (upd H1 p (.lst xs.reverse))) ∨ (SqT K H1 a xs ∧ NewT H1 Q xs.reverse))
theorem pe_rvs {e : Expr} {te : TE} {k : Nat} {p1 p2 p3 pos : Pos} (he : PE X e te) : PE X (.Subscript e (.Slice none none (some (.UnaryOp .USub (.Constant (.int 1) k p1) p2)) p3) pos) (tRv X.K te) := by
  refine ⟨fun pins s σ H Q I h => ?_⟩
  refine Subscript_ (thn (he.run pins s σ H _ I h) fun v s1 ⟨x, H1, I1, r1, q1⟩ => ?_)
  obtain ⟨a, xs, ex, hq⟩ := q1
  subst ex
  cases r1
  have hst : PO X (some (.UnaryOp .USub (.Constant (.int 1) k p1) p2)) (tPart (tUn (rU fun i => .int (-i)) (tC (.int 1)))) := po_some (pe_un un_neg pe_int)
  refine wpAny_Slice (thn (po_none.run pins s1 σ H1 (fun o H2 => o = none ∧ H2 = H1) I1 ⟨rfl, rfl⟩) fun vl s2 ⟨l, H2, I2, pl, el, e2⟩ => ?_)
  subst el e2
  refine thn (po_none.run pins s2 σ H2 (fun o H3 => o = none ∧ H3 = H2) I2 ⟨rfl, rfl⟩) fun vu s3 ⟨u, H3, I3, pu, eu, e3⟩ => ?_
  subst eu e3
  refine thn (hst.run pins s3 σ H3 (fun o H4 => o = some (-1) ∧ H4 = H3) I3 ⟨1, rfl, -1, rfl, rfl, rfl⟩) fun vs s4 ⟨o, H4, I4, ps, eo, e4⟩ => ?_
  subst eo e4
  cases pl
  cases pu
  have I5 : Inv X pins σ H4 { s4 with heap := s4.heap.push { cls := .type "slice", data := .fields #[.none, .none, vs] } } := I4.kept (t' := s4.toks) fun b ob q => Heap.get?_push_of_some _ q
  show wpAny (model X.prog X.w) X.A (subscriptTail e (.Slice none none (some (.UnaryOp .USub (.Constant (.int 1) k p1) p2)) p3) (.ref a) (.ref s4.heap.objs.size)) (EP X pins σ Q) X.xe { s4 with heap := s4.heap.push { cls := .type "slice", data := .fields #[.none, .none, vs] } }
  rcases hq with ⟨hx, q⟩ | ⟨hx, q⟩
  · obtain ⟨its, r, ht, hz⟩ := I5.list hx
    have hlen := r.length
    refine tail_any (ops := [.ref a, .ref s4.heap.objs.size]) ht.isList.typeIs (PySem.slot_list_getitem.lookup) ?_ (by with_unfolding_all rfl)
    refine wpAny_getItem_list_slice ht.isList (Heap.IsSliceOf.new _ .none .none vs) .none .none ps (by decide) ?_ (by rw [List.size_toArray]; omega)
    rw [PySem.W.krv_pick]
    refine ⟨.ref _, _, I5.laid (t' := s4.toks) (o := .lst xs.reverse) (fun b ob q => Heap.get?_push_of_some _ q) (Nat.le_refl _) ?_, rfl, q _ (I5.hok.fresh (Nat.le_refl _))⟩
    exact ⟨by rw [List.length_reverse]; exact hz, _, 0, r.reverse, Heap.get?_push_size _ rfl⟩
  · obtain ⟨its, r, ht, hz⟩ := I5.tuple hx
    have hlen := r.length
    refine tail_any (ops := [.ref a, .ref s4.heap.objs.size]) ht.typeIs PyProof.Rows.slot_tuple_getitem.lookup ?_ (by with_unfolding_all rfl)
    refine item_rev ht (Heap.IsSliceOf.new _ .none .none vs) ps ?_ (by rw [List.size_toArray]; omega)
    exact tup_laid (tk := s4.toks) I5 (by rw [List.length_reverse]; exact hz) r.reverse (fun b ob q => Heap.get?_push_of_some _ q) (Heap.get?_push_size _ rfl) q
theorem Reps.rev : ∀ {ds : List D} {vs : List V}, Reps X.K dr H B vs ds → Reps X.K dr H B vs.reverse ds.reverse
  | [], _, h => by cases h; exact .nil
  | d :: ds, _, h => by
    cases h with
    | cons r rs =>
      rw [List.reverse_cons, List.reverse_cons]
      exact (Reps.rev rs).append (.cons r .nil)
/-- xs.count(x) -/
def tCnt (K : PySem.W.Frag) (dr : Dr) (te ty : TE) : TE := fun σ H Q => te σ H fun x H1 => ∃ B dx, RepT K dr H1 B x dx ∧ ((∃ xs, dx = .list xs) ∨ (∃ xs, dx = .tuple xs ∧ lockD xs = true)) ∧ ty σ H1 fun y H2 => ∃ B dy n, RepT K dr H2 B x dx ∧ RepT K dr H2 B y dy ∧ cntD dx dy = some (.int n) ∧ Q (.int n) H2
theorem pe_cnt {o e : Expr} {to te : TE} {apos cpos : Pos} (hr : X.A.units + 200 < cLine) (ho : PE X o to) (he : PE X e te) (hs : starEach [e] X.env = (false, eval e X.env) :: starEach [] X.env)
    (hbase : attributeBase o "count" X.env (eval o X.env) = eval o X.env) (hline : (apos.endLine == cpos.line) = true) :
    PE X (.Call (.Attribute o "count" apos) [e] [] cpos) (tCnt X.K dr to te) := by
  have pa : PA X [e] (tCons te tNil) := pa_cons he pa_nil hs
  have okD : ∀ {d : D}, okN deep d = true → d.plain = true ∧ d.depth ≤ 40 := fun {d} h => okN_plain _ d h
  have okL : ∀ {ds : List D}, okN deep (.list ds) = true → PyData.plainAll ds = true ∧ PyData.depthAll ds ≤ 40 := fun {d} h => by
    have h1 := okN_plainAll 39 d (by simpa [okN, deep] using h)
    exact ⟨h1.1, by omega⟩
  have okT : ∀ {ds : List D}, okN deep (.tuple ds) = true → PyData.plainAll ds = true ∧ PyData.depthAll ds ≤ 40 := fun {d} h => by
    have h1 := okN_plainAll 39 d (by simpa [okN, deep] using h)
    exact ⟨h1.1, by omega⟩
  refine ⟨fun pins s σ H Q I h => ?_⟩
  refine wpAny_Call_method_late hbase (by rw [hs]; rfl) hline rfl (thn (ho.run pins s σ H _ I h) fun v s1 ⟨x, H1, I1, r1, B0, dx, rx, hd, q1⟩ => ?_)
  have hb : backTo cpos (starEach [e] X.env) = [(false, eval e X.env)] := by rw [hs]; rfl
  rw [hb]
  rcases hd with ⟨xs, rfl⟩ | ⟨xs, rfl, tm⟩
  · obtain ⟨a, vs, rfl, ea, ra⟩ := rx.list
    cases r1
    obtain ⟨h1, h2⟩ := tyV_is (T := "list") I1 (x := .ref a) rfl (.inl ⟨rfl, vs, SqL.of ea⟩)
    refine ⟨"list", "list.count", PySem.F.plainAttrs_list, PySem.F.slot_list_count, PySem.F.type_list_count, h1, h2, ?_⟩
    refine Calls.callWith_builtin rfl (Calls.evalArgs_plain (Calls.spliced_cons (thn (he.run pins s1 σ H1 _ I1 q1) fun u s2 ⟨y, H2, I2, r2, q2⟩ => Calls.spliced_nil ?_)))
    obtain ⟨B, dy, n, rx2, ry, hc, q⟩ := q2
    obtain ⟨a', vs', e', ea', ra'⟩ := rx2.list
    cases e'
    unfold cntD at hc
    obtain ⟨⟨o1, o2⟩, hn⟩ := ite_some hc
    cases hn
    obtain ⟨p1, p2⟩ := okL o1
    obtain ⟨p3, p4⟩ := okD o2
    obtain ⟨its, rv, hl, hlen⟩ := I2.list (SqL.of ea')
    obtain ⟨as, hR⟩ := Dp.readsAll I2 _ _ its (Reps.dp _ _ ra' p1) rv
    obtain ⟨bs, hY⟩ := Dp.reads I2 _ y u (ry.dp p3) r2
    refine SeqAt.count_list_data hl.isList hR hY p1 p3 (by omega) ⟨.int _, H2, I2.tok _, ⟨_, rfl⟩, q⟩
  · obtain ⟨a, vs, rfl, ea, ra⟩ := rx.tupleH
    cases r1
    unfold TupAt at ea
    rw [if_pos (by rw [lock_reps ra]; exact tm)] at ea
    obtain ⟨ob, od, ea⟩ := ea
    obtain ⟨ho1, hz1, its1, rv1, it1⟩ : s1.heap.get? a = some ob ∧ vs.length ≤ sizeLine ∧ ∃ its, Vals vs its ∧ IsTup s1.heap a its.toArray := I1.hok a _ ea
    refine ⟨"tuple", "tuple.count", PySem.F.plainAttrs_tuple, PySem.F.slot_tuple_count, PySem.F.type_tuple_count, it1.typeIs, fun b eb => (by cases eb; exact ⟨ob, ho1, od⟩), ?_⟩
    refine Calls.callWith_builtin rfl (Calls.evalArgs_plain (Calls.spliced_cons (thn (he.run pins s1 σ H1 _ I1 q1) fun u s2 ⟨y, H2, I2, r2, q2⟩ => Calls.spliced_nil ?_)))
    obtain ⟨B, dy, n, rx2, ry, hc, q⟩ := q2
    obtain ⟨a', vs', e', ea', ra'⟩ := rx2.tuple
    cases e'
    unfold cntD at hc
    obtain ⟨⟨_, o1, o2⟩, hn⟩ := ite_some hc
    cases hn
    obtain ⟨p1, p2⟩ := okT o1
    obtain ⟨p3, p4⟩ := okD o2
    obtain ⟨its, rv, hl, hlen⟩ := I2.tuple ea'
    obtain ⟨as, hR⟩ := Dp.readsAll I2 _ _ its (Reps.dp _ _ ra' p1) rv
    obtain ⟨bs, hY⟩ := Dp.reads I2 _ y u (ry.dp p3) r2
    refine SeqAt.count_tuple_data hl hR hY p1 p3 (by omega) ⟨.int _, H2, I2.tok _, ⟨_, rfl⟩, q⟩
def rLcm : List V → Hp → VK → Prop := fun vs H Q => ∃ a b : Int, vs = [.int a, .int b] ∧ a.natAbs < 2 ^ 64 ∧ b.natAbs < 2 ^ 64 ∧ Q (.int ((Nat.lcm a.natAbs b.natAbs : Nat) : Int)) H
theorem cr_lcm : CallR X (.builtin "math.lcm") rLcm := by
  intro pins s σ H vs us Q I r h
  obtain ⟨a, b, rfl, h1, h2, q⟩ := h
  obtain ⟨t, u, rfl⟩ := Vals.int2 r
  exact PySem.W.mc_lcm h1 h2 fun _ => ⟨.int _, H, I.tok _, ⟨_, rfl⟩, q⟩
theorem reps_ints {α : Type} (f : α → Int) : ∀ l : List α, Reps X.K dr H B (l.map fun x => V.int (f x)) (l.map fun x => .int (f x))
  | [] => .nil
  | x :: l => .cons (.int _) (reps_ints f l)
end
end Pf

namespace Pf
open PySem PySem.Spec PyProof.Rows PySem.Calls L2
section
variable {P : Program} {w : World} {A : Around} {E : Value → Shared → Prop} {s : Shared}
abbrev TookI (w : World) (h : Heap) (S : Addr) (ns : List Int) (g : Heap) : Prop := (∃ c, c ≤ ns.length ∧ SetR w g S (fun j => decide (j ∈ ns)) c) ∧ ∀ b o, h.get? b = some o → g.get? b = some o
set_option maxHeartbeats 3200000 in
/-- __init__ of the new set walks the list -/
theorem set_init_il {t : Addr} {ws : Array Value} (ns : List Int) (hh : A.handled = none) (ht : s.heap.IsList t ws) (hw : IntsAre ws.toList ns) (h64 : ns.length < 64) {R : PySem.Fin → Shared → Prop} {E' : Value → Shared → Prop}
    (fin : ∀ g tk, TookI w s.heap s.heap.objs.size ns g → R (.done (.ret .none)) { s with heap := g, toks := tk }) :
    wpAny (model P w) A.in1.in1 (Builtin.«set.__init__» ⟨[.ref s.heap.objs.size, .ref t], []⟩) R E' { s with heap := s.heap.push (emS w) } := by
  have size : ws.size = ns.length := by
    have q := IntsAre.length hw
    rw [Array.length_toList] at q
    exact q
  have hb : ns.length + 1 < scanBound := by unfold scanBound; omega
  have hS : (s.heap.push (emS w)).get? s.heap.objs.size = some (emS w) := Heap.get?_push_size _ rfl
  have own : Shared.TypeIs { s with heap := s.heap.push (emS w) } (.ref s.heap.objs.size) "set" := ⟨_, hS, rfl⟩
  have tup : (s.heap.push (emS w)).IsList t ws := ht.push _
  obtain ⟨⟨oc, od, oda, osl⟩, t1, t2, n, t3⟩ := id ht
  simp only at t2 t3
  subst t2 t3
  have t1' := Heap.get?_push_of_some (emS w) t1
  have q1 := F.sub_list_set
  have q2 := F.sub_list_frozenset
  have q3 : (Value.type "list" == Value.type "dict") = false := rfl
  unfold Builtin.«set.__init__» noKeywords Builtin.Frozenset.updateFrom
  generalize hPI : pyIter = PI
  wp_walk
  subst hPI
  have apart : t ≠ (s.heap.push (emS w)).objs.size := by
    rw [Heap.size_push]
    exact Nat.ne_of_lt (Nat.lt_succ_of_lt (Heap.lt_size t1))
  have fresh : ∀ b, s.heap.objs.size ≤ b → s.heap.get? b = none := fun b hb => Option.eq_none_iff_forall_ne_some.mpr fun o e => absurd (Heap.lt_size e) (Nat.not_lt.mpr hb)
  have walk := (Walks.list (prog := P) (w := w) (A := A.in1.in1.in1) (by simp [hh]) _ t apart ws).toS
  refine wpAny_pyIter_list tup (wpAny_bind (wpAny_runValue ?_))
  refine set_update_ints (A := A.in1.in1) walk s.heap.objs.size ?ni ns size hb ?val ws.size 0 _ (Nat.sub_zero _) (Nat.zero_le _) ?start ?mt ?fin
  case ni =>
    rw [Heap.size_push]
    intro z
    rcases List.mem_cons.mp z with z | z
    · exact absurd z (Nat.ne_of_lt (Nat.lt_succ_self _))
    · exact absurd (List.mem_singleton.mp z) (Nat.ne_of_gt (Heap.lt_size t1))
  case val =>
    intro i v hv
    have hi : i < ns.length := by rw [← size]; exact (Array.getElem?_eq_some_iff.mp hv).1
    obtain ⟨k, e⟩ := IntsAre.int_at hw i v (by rw [Array.getElem?_toList]; exact hv)
    exact ⟨ns[i], k, List.getElem?_eq_getElem hi, by rw [e, List.getD_eq_getElem?_getD, List.getElem?_eq_getElem hi] <;> rfl⟩
  case start => exact ⟨⟨_, Heap.get?_push_size _ rfl, rfl, rfl⟩, tup.push _⟩
  case mt => exact ⟨0, Nat.le_refl 0, setR_new_at (Heap.get?_push_of_some _ hS)⟩
  case fin =>
    intro s' c mv le made
    obtain ⟨g, gs, dr, tk, os⟩ := s'
    obtain rfl : gs = s.gens := mv.gens
    obtain rfl : dr = s.drawn := mv.drawn
    obtain rfl : os = s.os := mv.os
    refine wpAny_pure (wpAny_pure (fin g tk ⟨⟨c, by omega, made⟩, fun b o e => ?_⟩))
    have l0 := Heap.lt_size e
    refine mv.heap b o (fun z => ?_) (Heap.get?_push_of_some _ (Heap.get?_push_of_some _ e))
    rcases List.mem_cons.mp z with z | z
    · exact absurd z (Nat.ne_of_lt l0)
    · rw [List.mem_singleton.mp z, Heap.size_push] at l0
      exact absurd l0 (Nat.not_lt.mpr (Nat.le_succ _))
set_option maxHeartbeats 3200000 in
/-- set(xs), xs a list of ints -/
theorem set_of_il {t : Addr} {ws : Array Value} (ns : List Int) {Q : Value → Shared → Prop} (hh : A.handled = none) (ht : s.heap.IsList t ws) (hw : IntsAre ws.toList ns) (h64 : ns.length < 64)
    (fin : ∀ g tk, TookI w s.heap s.heap.objs.size ns g → Q (.ref s.heap.objs.size) { s with heap := g, toks := tk }) : wpAny (model P w) A (call (.type "set") [.ref t]) Q E s := by
  have of := F.called_set
  obtain ⟨c, tl, o1⟩ := of.mro
  have o2 := of.made
  have o3 := of.sub
  refine wpAny_call (codeAny_of_tree ?_)
  show wpAny _ _ (callAny (.type "set") _) _ _ _
  refine wpAny_pure ⟨Code.quiet_builtin _ (by decide +kernel), codeAny_builtin F.entry_type_call ?_⟩
  rw [Around.under_plain (weight_type_call_type "set" [.ref t] []) rfl]
  have o4 := of.notType
  have o5 := of.canCreate
  have o6 := F.typeCall_set_1 (.ref t)
  repeat (any_goals (first | assumption | wp_step))
  have hS : (s.heap.push (emS w)).get? s.heap.objs.size = some (emS w) := Heap.get?_push_size _ rfl
  have own : Shared.TypeIs { s with heap := s.heap.push (emS w) } (.ref s.heap.objs.size) "set" := ⟨_, hS, rfl⟩
  refine codeAny_mono (code_set_led1 (.ref t) (E := E) (Q₁ := fun x s1 => x = .ref s.heap.objs.size ∧ s1 = { s with heap := s.heap.push (emS w) }) ⟨rfl, rfl⟩) fun r s1 hr => ?_
  rcases r with e | fl
  · exact hr
  cases fl with
  | ret x =>
    obtain ⟨rfl, rfl⟩ := hr
    have i1 := of.init.lookup
    have i2 := of.init.bind (.ref s.heap.objs.size)
    repeat (any_goals (first | assumption | wp_step))
    refine codeAny_mono (codeAny_call_builtin (R := wants (fun r s2 => r = .none ∧ ∃ g tk, s2 = { s with heap := g, toks := tk } ∧ TookI w s.heap s.heap.objs.size ns g) E) of.init.plain F.entry_set_init (check_set_init_1 own (set_init_il (E' := E) ns hh ht hw h64 fun g tk h => ⟨rfl, g, tk, rfl, h⟩))) fun r s2 h2 => ?_
    rcases r with e | fl
    · exact h2
    cases fl with
    | ret y =>
      obtain ⟨rfl, g, tk, rfl, h3⟩ := h2
      repeat (any_goals (first | assumption | wp_step))
      exact fin g tk h3
    | _ => exact h2.elim
  | _ => exact hr.elim
end
section
variable [Mode] {X : Cx} {dr : Dr} {Γ : Gam} {H : Hp} {B : Addr → Prop}
/-- set(xs): tuples of numbers, or numbers -/
def rSetA (K : PySem.W.Frag) (P : Program) (w : World) : List V → Hp → VK → Prop := fun xs H Q => rSetU K P w xs H Q ∨ ∃ (l : Addr) (ns : List Int), xs = [V.ref l] ∧ (SqL K H l (ns.map V.int) ∨ SqT K H l (ns.map V.int)) ∧ ns.length < 64 ∧
  ∀ a c, H a = none → c ≤ ns.length → Q (.ref a) (upd H a (SetO w a (fun j => decide (j ∈ ns)) c))
theorem cr_setA (hc : X.calm = true) (hu : X.A.units + 64 < cLine) : CallR X (.type "set") (rSetA X.K X.prog X.w) := by
  intro pins s σ H xs us Q I r h
  rcases h with h | ⟨l, ns, rfl, hl, hf, q⟩
  · exact cr_setU hc hu pins s σ H xs us Q I r h
  · rw [Vals.ref1 r]
    rcases hl with hl | hl
    · obtain ⟨its, rv, pl, hz⟩ := I.list hl
      refine set_of_il (P := X.prog) (w := X.w) ns (I.ok.hd hc) pl.isList (by simpa using ints_of_vals rv) hf fun g tk ⟨⟨c, le, R⟩, k⟩ => ?_
      exact ⟨.ref _, upd H _ (SetO X.w s.heap.objs.size (fun j => decide (j ∈ ns)) c), I.laid (t' := tk) k (Nat.le_refl _) (setO_new R), rfl, q _ c (I.hok.fresh (Nat.le_refl _)) le⟩
    · obtain ⟨its, rv, pl, hz⟩ := I.tuple hl
      refine call_set_tupI (P := X.prog) (w := X.w) ns (I.ok.hd hc) pl (by simpa using ints_of_vals rv) (by unfold scanBound; omega) fun g tk c R le k => ?_
      exact ⟨.ref _, upd H _ (SetO X.w s.heap.objs.size (fun j => decide (j ∈ ns)) c), I.laid (t' := tk) k (Nat.le_refl _) (setO_new R), rfl, q _ c (I.hok.fresh (Nat.le_refl _)) le⟩
def rSortA (K : PySem.W.Frag) (P : Program) (w : World) : List V → Hp → VK → Prop := fun xs H Q => rSortedT K P w xs H Q ∨ rSortedSet w xs H Q
theorem cr_sortA (hc : X.calm = true) : CallR X (.builtin "sorted") (rSortA X.K X.prog X.w) := by
  intro pins s σ H xs us Q I r h
  rcases h with h | h
  · exact cr_sortedT hc pins s σ H xs us Q I r h
  · exact cr_sortedSet hc pins s σ H xs us Q I r h
theorem rSetU.up {K : PySem.W.Frag} {P : Program} {w : World} {xs : List V} {Q Q' : VK} (h : rSetU K P w xs H Q) (k : ∀ y H2, Q y H2 → Q' y H2) : rSetA K P w xs H Q' := by
  refine .inl ?_
  rcases h with ⟨l, ks, e, a, b, c, q⟩ | ⟨l, ks, e, a, b, c, q⟩
  · exact .inl ⟨l, ks, e, a, b, c, fun a' L x y z => k _ _ (q a' L x y z)⟩
  · exact .inr ⟨l, ks, e, a, b, c, fun a' L x y z => k _ _ (q a' L x y z)⟩
theorem ints_D : ∀ {xs : List D} {ns : List Int}, intsD xs = some ns → xs = ns.map .int
  | [], ns, h => by
    cases h
    rfl
  | x :: xs, ns, h => by
    unfold intsD at h
    split at h
    · rename_i z
      cases z
    · rename_i i r z
      cases z
      obtain ⟨us, h2, rfl⟩ := Option.map_eq_some_iff.mp h
      rw [ints_D h2]
      rfl
    · cases h
theorem reps_intL {ns : List Int} {vs : List V} (r : Reps X.K dr H B vs (ns.map .int)) : vs = ns.map V.int := by
  induction ns generalizing vs with
  | nil => cases r; rfl
  | cons n ns ih =>
    cases r with
    | cons r1 r2 =>
      cases r1
      rw [ih r2]
      rfl
theorem int_total (a b : Int) : (decide (a ≤ b) || decide (b ≤ a)) = true := by
  rw [Bool.or_eq_true, decide_eq_true_eq, decide_eq_true_eq]
  omega
theorem int_trans (a b c : Int) (h1 : decide (a ≤ b) = true) (h2 : decide (b ≤ c) = true) : decide (a ≤ c) = true := by
  rw [decide_eq_true_eq] at *
  omega
theorem sseti_sorted (ns : List Int) : (ssetI ns).Pairwise fun a b => decide (a ≤ b) = true := List.pairwise_mergeSort int_trans int_total (dd ns)
theorem sseti_perm (ns : List Int) : (ssetI ns).Perm (dd ns) := List.mergeSort_perm _ _
theorem sseti_mem {ns : List Int} {k : Int} : k ∈ ssetI ns ↔ k ∈ ns := by rw [(sseti_perm ns).mem_iff, dd_mem]
theorem sseti_nodup (ns : List Int) : (ssetI ns).Nodup := (sseti_perm ns).nodup_iff.mpr dd_nodup
theorem sseti_lt (ns : List Int) : (ssetI ns).Pairwise (· < ·) := ((sseti_sorted ns).and (sseti_nodup ns)).imp fun {a b} h => by
  have := of_decide_eq_true h.1
  have := h.2
  omega
theorem sseti_uniq {ns us : List Int} (h : us.Pairwise (· < ·)) (hm : ∀ k, k ∈ us ↔ k ∈ ns) : us = ssetI ns := by
  have nd : us.Nodup := h.imp fun h e => by omega
  refine List.Perm.eq_of_pairwise (le := fun a b : Int => a ≤ b) (fun a b _ _ h1 h2 => by omega) (h.imp fun h => by omega) ((sseti_lt ns).imp fun h => by omega) ((List.perm_ext_iff_of_nodup nd (sseti_nodup ns)).mpr fun k => by rw [hm, sseti_mem])
theorem sset_coreI {x : V} {Q : VK} {d : D} {ns : List Int} (nb : NB H B) (hd : d = .list (ns.map .int) ∨ d = .tuple (ns.map .int)) (rt : RepT X.K dr H B x d) (h64 : ns.length < 64) (f : Fin1 X.K dr H B (.list ((ssetI ns).map .int)) Q) :
    rSetA X.K X.prog X.w [x] H (fun y H2 => rSortA X.K X.prog X.w [y] H2 Q) := by
  obtain ⟨a, rfl, e⟩ : ∃ a, x = .ref a ∧ (SqL X.K H a (ns.map V.int) ∨ SqT X.K H a (ns.map V.int)) := by
    rcases hd with rfl | rfl
    · obtain ⟨a, vs, rfl, e, q⟩ := rt.list
      rw [reps_intL q] at e
      exact ⟨a, rfl, .inl (SqL.of e)⟩
    · obtain ⟨a, vs, rfl, e, q⟩ := rt.tuple
      rw [reps_intL q] at e
      exact ⟨a, rfl, .inr e⟩
  refine .inr ⟨a, ns, rfl, e, h64, fun a' c hn le => .inr ⟨a', _, c, rfl, upd_same, by omega, fun us p hp hm hl hpn => ?_⟩⟩
  have hu : us = ssetI ns := sseti_uniq hp fun k => by rw [hm]; simp
  subst hu
  have k1 : Same H (upd H a' (SetO X.w a' (fun j => decide (j ∈ ns)) c)) := same_new hn
  have k2 : Same (upd H a' (SetO X.w a' (fun j => decide (j ∈ ns)) c)) (upd (upd H a' (SetO X.w a' (fun j => decide (j ∈ ns)) c)) p (.lst ((ssetI ns).map V.int))) := same_new hpn
  have pn : H p = none := by
    cases hh : H p with
    | none => rfl
    | some u =>
      have := k1 _ _ hh
      rw [hpn] at this
      cases this
  have hr := reps_ints (X := X) (dr := dr) (H := upd (upd H a' (SetO X.w a' (fun j => decide (j ∈ ns)) c)) p (.lst ((ssetI ns).map V.int))) (B := B) (fun i : Int => i) (ssetI ns)
  have hr2 := reps_ints (X := X) (dr := dr) (H := upd (upd H a' (SetO X.w a' (fun j => decide (j ∈ ns)) c)) p (.lst ((ssetI ns).map V.int))) (B := fun b => H b = none ∨ B b) (fun i : Int => i) (ssetI ns)
  refine f _ _ (Same.trans k1 k2) (.lst upd_same (nb p pn) hr) fun ds e => ?_
  cases e
  exact ⟨_, _, rfl, pn, upd_same, reps_ints (fun i : Int => i) (ssetI ns)⟩
end
end Pf

namespace Pf
open PySem PySem.Spec PyProof.Rows PySem.Calls L2
section
variable {P : Program} {w : World} {K : Type} [DecidableEq K] (knd : PySem.KeyKind P w K) (key : Value → K)
/-- an entry of a set, its key told by `key` -/
def GE (e : Int × Value) : Prop := knd.is (key e.2) e.2 = true ∧ e.1 = knd.hash (key e.2) ∧ e.2.scannable = true
abbrev ks (es : Array (Int × Value)) : List K := es.toList.map fun e => key e.2
/-- the payload of a set: no key twice, the table can be walked -/
structure Lay (es : Array (Int × Value)) (t : SetTable) (S : K → Prop) : Prop where
  ge : ∀ e ∈ es.toList, GE knd key e
  nd : (ks key es).Nodup
  mem : ∀ k, S k ↔ k ∈ ks key es
  few : es.size < scanBound
  fits : t.fits es.size = true
  ris : Ris t.place.toList
  led : w.params.followText "set-order" = true ∨ t.led = true
def SetG (h : Heap) (a : Addr) (S : K → Prop) (n : Nat) : Prop := ∃ o es ep t, h.get? a = some o ∧ o.ExactSet ∧ o.data = .set es ep t ∧ Lay knd key es t S ∧ es.size = n
variable {knd key}
variable {A : Around} {E : Value → Shared → Prop} {s : Shared} {a : Addr} {S : K → Prop} {n : Nat} {h h' : Heap}
theorem SetG.at (R : SetG knd key h a S n) (k : ∀ o, h.get? a = some o → h'.get? a = some o) : SetG knd key h' a S n := by
  obtain ⟨o, es, ep, t, ho, r⟩ := R
  exact ⟨o, es, ep, t, k o ho, r⟩
theorem SetG.congr {S' : K → Prop} (R : SetG knd key h a S n) (e : ∀ k, S' k ↔ S k) : SetG knd key h a S' n := by
  have q : S' = S := funext fun k => propext (e k)
  rw [q]; exact R
theorem ge_elems {l : List (Int × Value)} (g : ∀ e ∈ l, GE knd key e) : ElemsOf knd l := fun e he => ⟨⟨key e.2, (g e he).1, (g e he).2.1⟩, (g e he).2.2⟩
theorem ge_is {e : Int × Value} (g : GE knd key e) (k : K) : knd.is k e.2 = true ↔ key e.2 = k := by
  rw [PySem.KeyKind.is_eq_decide g.1 k, decide_eq_true_eq]
  exact eq_comm
theorem layG_tail {g : Bool → Sem Unit} (hg : ∀ (b : Bool) (s₁ : Shared) (Q' : Unit → Shared → Prop), Q' () s₁ → wpAny (model P w) A (g b) Q' E s₁)
    {o : Obj} {es : Array (Int × Value)} {ep : Nat} {t : SetTable} (ho : s.heap.get? a = some o) (hex : o.ExactSet) (hd : o.data = .set es ep t)
    {es1 : Array (Int × Value)} {t2 : SetTable} {S' : K → Prop} (L : Lay knd key es1 t2 S') {wasDummy : Bool} {R : Option Bool → Shared → Prop}
    (hR : ∀ h', Heap.SameBut a s.heap h' → SetG knd key h' a S' es1.size → R (some true) { s with heap := h' }) :
    wpAny (model P w) A (do
        storeSet a es1 t2
        if (!wasDummy && t2.tooFull) = true then do
            g (relayAll t2 es1 (SetTable.grown es1.size)).2.2
            storeSet a (relayAll t2 es1 (SetTable.grown es1.size)).1 (relayAll t2 es1 (SetTable.grown es1.size)).2.1
            pure (some true)
          else pure (some true)) R E s := by
  refine wpAny_bind (wpAny_storeSet_of ho hd ?_ (fits_of_scanBound L.few))
  have ho1 := store_at (es' := es1) (t' := t2) ho hd
  have sb1 := Heap.SameBut.update s.heap a (Obj.putSet es1 t2)
  split
  · have pm := relayAll_perm t2 es1 (SetTable.grown es1.size)
    have hf3 := relayAll_fits t2 es1 (SetTable.grown es1.size)
    have hr3 := relayAll_ris t2 es1 (SetTable.grown es1.size)
    have hl3 := relayAll_led t2 es1 (SetTable.grown es1.size)
    generalize relayAll t2 es1 (SetTable.grown es1.size) = Z at pm hf3 hr3 hl3 ⊢
    obtain ⟨es2, t3, gave⟩ := Z
    dsimp only at pm hf3 hr3 hl3 ⊢
    have hsz : es2.size = es1.size := by rw [← Array.length_toList, pm.length_eq, Array.length_toList]
    have pk := pm.map fun e => key e.2
    have L2 : Lay knd key es2 t3 S' := ⟨fun e he => L.ge e (pm.mem_iff.mp he), pk.nodup_iff.mpr L.nd, fun k => (L.mem k).trans pk.mem_iff.symm, by rw [hsz]; exact L.few, hf3, hr3, L.led.imp id fun z => by rw [hl3]; exact z⟩
    refine wpAny_bind (hg _ _ _ ?_)
    refine wpAny_bind (wpAny_storeSet_of ho1 rfl ?_ (fits_of_scanBound L2.few))
    have ho2 := store_at (es' := es2) (t' := t3) ho1 rfl
    exact wpAny_pure (hR _ (sb1.trans (Heap.SameBut.update _ a _)) ⟨_, es2, _, t3, ho2, hex, rfl, L2, hsz⟩)
  · exact wpAny_pure (hR _ sb1 ⟨_, es1, _, t2, ho1, hex, rfl, L, rfl⟩)
theorem setG_add {k : K} {x : Value} {Q : Bool → Shared → Prop} (hkey : knd.is k x = true) (hkx : key x = k) (hsc : x.scannable = true) (R : SetG knd key s.heap a S n) (room : n + 1 < scanBound)
    (hQ : ∀ h' m b, Heap.SameBut a s.heap h' → m ≤ n + 1 → SetG knd key h' a (fun j => S j ∨ j = k) m → Q b { s with heap := h' }) :
    wpAny (model P w) A (setAddHashed a x (knd.hash k)) Q E s := by
  obtain ⟨o, es, ep, t, ho, hex, hd, L, hn⟩ := R
  have hel : ElemsOf knd es.toList := ge_elems L.ge
  unfold setAddHashed setAddHashedIn
  refine wpAny_holding (wpAny_bind (wpAny_setState_of ho hd L.fits ?_))
  dsimp only
  rw [byScan_of hsc L.few hel]
  simp only [↓reduceIte]
  unfold setAddByScan
  refine wpAny_bind ?_
  refine wpAny_bind (wpAny_rule ?_)
  refine wpAny_bind (wpAny_setScan_of hkey ho hd L.fits hel ?_)
  cases hfi : List.findIdx? (fun e => knd.is k e.2) es.toList with
  | some j =>
    dsimp only
    obtain ⟨hj, pj, _⟩ := List.findIdx?_eq_some_iff_getElem.mp hfi
    have hSk : S k := (L.mem k).2 (List.mem_map.mpr ⟨es.toList[j], List.getElem_mem hj, (ge_is (L.ge _ (List.getElem_mem hj)) k).1 pj⟩)
    refine wpAny_pure (wpAny_pure ?_)
    refine hQ s.heap n _ (Heap.SameBut.refl a s.heap) (Nat.le_succ _) ⟨o, es, ep, t, ho, hex, hd, ⟨L.ge, L.nd, fun i => ?_, L.few, L.fits, L.ris, L.led⟩, hn⟩
    rw [← L.mem i]
    exact ⟨fun z => z.elim id (fun e => e ▸ hSk), .inl⟩
  | none =>
    dsimp only
    have hnk : k ∉ ks key es := fun z => by
      obtain ⟨e, he, q⟩ := List.mem_map.mp z
      have c := List.findIdx?_eq_none_iff.mp hfi e he
      rw [(ge_is (L.ge e he) k).2 q] at c
      cases c
    have hgw : ∀ (b : Bool) {s₁ : Shared} {Q' : Unit → Shared → Prop}, Q' () s₁ → wpAny (model P w) A (match b with | true => rule "set.scan.the-table-gave-way" | false => pure ()) Q' E s₁ :=
      fun b s₁ Q' q => by cases b <;> first | exact wpAny_pure q | exact wpAny_rule q
    have pm := layNew_perm t es (knd.hash k) x
    have hf1 := layNew_fits t es (knd.hash k) x
    have hr1 := layNew_ris t es (knd.hash k) x L.ris
    have hl1 := layNew_led t es (knd.hash k) x
    generalize layNew t es (knd.hash k) x = Z at pm hf1 hr1 hl1 ⊢
    obtain ⟨es1, t1, wasDummy, gave⟩ := Z
    dsimp only at pm hf1 hr1 hl1 ⊢
    rw [Array.toList_push] at pm
    have pc : es1.toList.Perm ((knd.hash k, x) :: es.toList) := pm.trans (List.perm_append_singleton _ _)
    have pk : (ks key es1).Perm (k :: ks key es) := by
      have q := pc.map fun e : Int × Value => key e.2
      rw [List.map_cons, hkx] at q
      exact q
    have hsz : es1.size = n + 1 := by rw [← Array.length_toList, pc.length_eq, List.length_cons, Array.length_toList, hn]
    have L1 : ∀ t' : SetTable, t'.fits es1.size = true → Ris t'.place.toList → (w.params.followText "set-order" = true ∨ t'.led = true) → Lay knd key es1 t' (fun j => S j ∨ j = k) := fun t' f1 f2 f3 => ⟨fun e he => by
        rcases List.mem_cons.mp (pc.mem_iff.mp he) with z | z
        · rw [z]
          exact ⟨by rw [hkx]; exact hkey, by rw [hkx], hsc⟩
        · exact L.ge e z, pk.nodup_iff.mpr (List.nodup_cons.mpr ⟨hnk, L.nd⟩), fun i => by
        rw [L.mem i, pk.mem_iff, List.mem_cons]
        exact Or.comm, by rw [hsz]; exact room, f1, f2, f3⟩
    have hled : w.params.followText "set-order" = true ∨ t1.led = true := L.led.imp id fun z => by rw [hl1]; exact z
    have fin : ∀ h', Heap.SameBut a s.heap h' → SetG knd key h' a (fun j => S j ∨ j = k) es1.size → Q true { s with heap := h' } := fun h' sb r => hQ h' _ _ sb (Nat.le_of_eq hsz) r
    refine wpAny_bind (hgw _ ?_)
    split
    · refine wpAny_bind ?_
      rw [hashByValue_scannable 8 hsc]
      refine wpAny_pure ?_
      refine layG_tail (S' := fun j => S j ∨ j = k) ?_ ho hex hd (L1 _ ?_ ?_ ?_) ?_
      · intro b s₁ Q' q; cases b <;> first | exact wpAny_pure q | exact wpAny_rule q
      · first | (split <;> first | exact hf1 | exact SetTable.fits_plain_off hf1) | exact hf1
      · first | (split <;> exact hr1) | exact hr1
      · first | (split <;> exact hled) | exact hled
      · intro h' sb r; dsimp only; exact wpAny_pure (fin h' sb r)
    · refine wpAny_bind (wpAny_pure ?_)
      simp only [↓reduceIte]
      refine layG_tail (S' := fun j => S j ∨ j = k) ?_ ho hex hd (L1 _ hf1 hr1 hled) ?_
      · intro b s₁ Q' q; cases b <;> first | exact wpAny_pure q | exact wpAny_rule q
      · intro h' sb r; dsimp only; exact wpAny_pure (fin h' sb r)
/-- a value and its key -/
abbrev IsK (knd : PySem.KeyKind P w K) (key : Value → K) (k : K) (v : Value) : Prop := knd.is k v = true ∧ key v = k ∧ v.scannable = true
theorem set_update_g {I : Addr} {fp wr : List Addr} {G : Array GenState → Array GenState → Prop} {n : Nat} {Pv : Nat → Value → Prop} {St : Nat → Shared → Prop} {R : Result → Shared → Prop}
    (W : WalksS P w A.in1 I fp wr G n Pv St) (D : Addr) (hDf : D ∉ fp) (zs : List K) (hn : n = zs.length) (hb : zs.length + 1 < scanBound) (hval : ∀ i v, Pv i v → ∃ k, zs[i]? = some k ∧ IsK knd key k v) :
    ∀ (m i : Nat) (s : Shared), n - i = m → i ≤ n → St i s → (∃ c, c ≤ i ∧ SetG knd key s.heap D (fun j => j ∈ zs.take i) c) →
      (∀ s' c, Moved (D :: wr) G s s' → c ≤ n → SetG knd key s'.heap D (fun j => j ∈ zs) c → R (.ok (.ret .none)) s') →
      codeAny (model P w) A (.builtin "set.update.loop" ⟨[.ref D, .ref I], []⟩) R s := by
  have hDw : D ∉ wr := fun h => hDf (W.sub _ h)
  have hsub : ∀ b ∈ wr, b ∈ D :: wr := fun b hb => List.mem_cons_of_mem _ hb
  intro m
  induction m with
  | zero =>
    intro i s hk' hi hst ⟨c, hc, hS⟩ hR
    obtain rfl : i = n := by omega
    refine codeAny_builtin F.entry_set_update_loop ?_
    rw [Around.under_plainId F.plain_set_update_loop _]
    show wpAny _ A.in1 (pyNext (.ref I) >>= _) _ _ s
    refine wpAny_bind (W.done s _ _ hst fun s' hm => ?_)
    show wpAny _ A.in1 (ret Value.none) _ _ s'
    rw [List.take_of_length_le (by omega : zs.length ≤ i)] at hS
    exact wpAny_pure (hR s' c (hm.mono hsub) hc (hS.at fun o e => hm.heap D o hDw e))
  | succ m ih =>
    intro i s hk' hi hst ⟨c, hc, hS⟩ hR
    have hlt : i < n := by omega
    refine codeAny_builtin F.entry_set_update_loop ?_
    rw [Around.under_plainId F.plain_set_update_loop _]
    show wpAny _ A.in1 (pyNext (.ref I) >>= _) _ _ s
    refine wpAny_bind (W.item i s _ _ hlt hst fun v s' hP hst' hm => ?_)
    obtain ⟨z, hz, z1, z2, z3⟩ := hval i v hP
    have hS' : SetG knd key s'.heap D (fun j => j ∈ zs.take i) c := hS.at fun o e => hm.heap D o hDw e
    show wpAny _ A.in1 (holding [v] (setAdd D v) >>= _) _ _ s'
    refine wpAny_bind (wpAny_holding ?_)
    unfold setAdd
    refine wpAny_holding ?_
    refine wpAny_bind (knd.pyHash (k := z) z1 ?_)
    refine setG_add (s := { s' with toks := s'.toks + 1 }) z1 z2 z3 hS' (by omega) fun h' c3 b hsb hc3 hS2 => ?_
    have hS3 : SetG knd key h' D (fun j => j ∈ zs.take (i + 1)) c3 := hS2.congr fun j => by
      rw [List.take_add_one, hz]
      simp [List.mem_append]
    refine wpAny_pure ⟨plainId_quiet F.plain_set_update_loop _, ih (i + 1) _ (by omega) hlt (W.frame _ s' _ _ hst' (Nat.le_succ _) fun b hb o e => ?_) ⟨_, by omega, hS3⟩ fun s'' c2 hm'' hc'' hS'' => ?_⟩
    · rw [hsb.2 b (fun h : b = D => hDf (by rw [← h]; exact hb))]; exact e
    · refine hR s'' c2 (Moved.trans W.gtrans ((hm.mono hsub).then_heap (Nat.le_succ _) fun b o hb e => ?_) hm'') hc'' hS''
      rw [hsb.2 b (fun h : b = D => hb (by rw [h]; exact List.mem_cons_self))]; exact e
abbrev TookG (knd : PySem.KeyKind P w K) (key : Value → K) (h : Heap) (D : Addr) (zs : List K) (g : Heap) : Prop := (∃ c, c ≤ zs.length ∧ SetG knd key g D (fun j => j ∈ zs) c) ∧ ∀ b o, h.get? b = some o → g.get? b = some o
theorem setG_fresh {h : Heap} {a : Addr} {zs : List K} (ho : h.get? a = some (emS w)) : SetG knd key h a (fun j => j ∈ zs.take 0) 0 :=
  ⟨_, #[], 0, _, ho, ⟨rfl, rfl, rfl⟩, rfl, ⟨fun e he => (by cases he), List.Pairwise.nil, fun k => by simp [ks], by decide, by rfl, List.Pairwise.nil, by
    show _ ∨ (!w.params.followText "set-order") = true
    cases w.params.followText "set-order"
    · exact .inr rfl
    · exact .inl rfl⟩, rfl⟩
set_option maxHeartbeats 3200000 in
theorem set_init_g {t : Addr} {ws : Array Value} (zs : List K) (hh : A.handled = none) (ht : s.heap.IsList t ws) (hz : ws.size = zs.length) (hw : ∀ (i : Nat) (v : Value), ws[i]? = some v → ∃ k, zs[i]? = some k ∧ IsK knd key k v) (h64 : zs.length < 64) {R : PySem.Fin → Shared → Prop} {E' : Value → Shared → Prop}
    (fin : ∀ g tk, TookG knd key s.heap s.heap.objs.size zs g → R (.done (.ret .none)) { s with heap := g, toks := tk }) :
    wpAny (model P w) A.in1.in1 (Builtin.«set.__init__» ⟨[.ref s.heap.objs.size, .ref t], []⟩) R E' { s with heap := s.heap.push (emS w) } := by
  have hb : zs.length + 1 < scanBound := by unfold scanBound; omega
  have hS : (s.heap.push (emS w)).get? s.heap.objs.size = some (emS w) := Heap.get?_push_size _ rfl
  have own : Shared.TypeIs { s with heap := s.heap.push (emS w) } (.ref s.heap.objs.size) "set" := ⟨_, hS, rfl⟩
  have tup : (s.heap.push (emS w)).IsList t ws := ht.push _
  obtain ⟨⟨oc, od, oda, osl⟩, t1, t2, n, t3⟩ := id ht
  simp only at t2 t3
  subst t2 t3
  have t1' := Heap.get?_push_of_some (emS w) t1
  have q1 := F.sub_list_set
  have q2 := F.sub_list_frozenset
  have q3 : (Value.type "list" == Value.type "dict") = false := rfl
  unfold Builtin.«set.__init__» noKeywords Builtin.Frozenset.updateFrom
  generalize hPI : pyIter = PI
  wp_walk
  subst hPI
  have apart : t ≠ (s.heap.push (emS w)).objs.size := by
    rw [Heap.size_push]
    exact Nat.ne_of_lt (Nat.lt_succ_of_lt (Heap.lt_size t1))
  have walk := (Walks.list (prog := P) (w := w) (A := A.in1.in1.in1) (by simp [hh]) _ t apart ws).toS
  refine wpAny_pyIter_list tup (wpAny_bind (wpAny_runValue ?_))
  refine set_update_g (A := A.in1.in1) (knd := knd) (key := key) walk s.heap.objs.size ?ni zs hz hb ?val ws.size 0 _ (Nat.sub_zero _) (Nat.zero_le _) ?start ?mt ?fin
  case ni =>
    rw [Heap.size_push]
    intro z
    rcases List.mem_cons.mp z with z | z
    · exact absurd z (Nat.ne_of_lt (Nat.lt_succ_self _))
    · exact absurd (List.mem_singleton.mp z) (Nat.ne_of_gt (Heap.lt_size t1))
  case val => exact fun i v hv => hw i v hv
  case start => exact ⟨⟨_, Heap.get?_push_size _ rfl, rfl, rfl⟩, tup.push _⟩
  case mt => exact ⟨0, Nat.le_refl 0, setG_fresh (Heap.get?_push_of_some _ hS)⟩
  case fin =>
    intro s' c mv le made
    obtain ⟨g, gs, dr, tk, os⟩ := s'
    obtain rfl : gs = s.gens := mv.gens
    obtain rfl : dr = s.drawn := mv.drawn
    obtain rfl : os = s.os := mv.os
    refine wpAny_pure (wpAny_pure (fin g tk ⟨⟨c, by omega, made⟩, fun b o e => ?_⟩))
    have l0 := Heap.lt_size e
    refine mv.heap b o (fun z => ?_) (Heap.get?_push_of_some _ (Heap.get?_push_of_some _ e))
    rcases List.mem_cons.mp z with z | z
    · exact absurd z (Nat.ne_of_lt l0)
    · rw [List.mem_singleton.mp z, Heap.size_push] at l0
      exact absurd l0 (Nat.not_lt.mpr (Nat.le_succ _))
set_option maxHeartbeats 3200000 in
/-- set(xs), xs a list -/
theorem set_of_g {t : Addr} {ws : Array Value} (zs : List K) {Q : Value → Shared → Prop} (hh : A.handled = none) (ht : s.heap.IsList t ws) (hz : ws.size = zs.length) (hw : ∀ (i : Nat) (v : Value), ws[i]? = some v → ∃ k, zs[i]? = some k ∧ IsK knd key k v) (h64 : zs.length < 64)
    (fin : ∀ g tk, TookG knd key s.heap s.heap.objs.size zs g → Q (.ref s.heap.objs.size) { s with heap := g, toks := tk }) : wpAny (model P w) A (call (.type "set") [.ref t]) Q E s := by
  have of := F.called_set
  obtain ⟨c, tl, o1⟩ := of.mro
  have o2 := of.made
  have o3 := of.sub
  refine wpAny_call (codeAny_of_tree ?_)
  show wpAny _ _ (callAny (.type "set") _) _ _ _
  refine wpAny_pure ⟨Code.quiet_builtin _ (by decide +kernel), codeAny_builtin F.entry_type_call ?_⟩
  rw [Around.under_plain (weight_type_call_type "set" [.ref t] []) rfl]
  have o4 := of.notType
  have o5 := of.canCreate
  have o6 := F.typeCall_set_1 (.ref t)
  repeat (any_goals (first | assumption | wp_step))
  have hS : (s.heap.push (emS w)).get? s.heap.objs.size = some (emS w) := Heap.get?_push_size _ rfl
  have own : Shared.TypeIs { s with heap := s.heap.push (emS w) } (.ref s.heap.objs.size) "set" := ⟨_, hS, rfl⟩
  refine codeAny_mono (code_set_led1 (.ref t) (E := E) (Q₁ := fun x s1 => x = .ref s.heap.objs.size ∧ s1 = { s with heap := s.heap.push (emS w) }) ⟨rfl, rfl⟩) fun r s1 hr => ?_
  rcases r with e | fl
  · exact hr
  cases fl with
  | ret x =>
    obtain ⟨rfl, rfl⟩ := hr
    have i1 := of.init.lookup
    have i2 := of.init.bind (.ref s.heap.objs.size)
    repeat (any_goals (first | assumption | wp_step))
    refine codeAny_mono (codeAny_call_builtin (R := wants (fun r s2 => r = .none ∧ ∃ g tk, s2 = { s with heap := g, toks := tk } ∧ TookG knd key s.heap s.heap.objs.size zs g) E) of.init.plain F.entry_set_init (check_set_init_1 own (set_init_g (E' := E) zs hh ht hz hw h64 fun g tk h => ⟨rfl, g, tk, rfl, h⟩))) fun r s2 h2 => ?_
    rcases r with e | fl
    · exact h2
    cases fl with
    | ret y =>
      obtain ⟨rfl, g, tk, rfl, h3⟩ := h2
      repeat (any_goals (first | assumption | wp_step))
      exact fin g tk h3
    | _ => exact h2.elim
  | _ => exact hr.elim
end
section
variable {P : Program} {w : World} {A : Around} {E : Value → Shared → Prop} {s : Shared} {a : Addr} {n : Nat}
abbrev SetSt (P : Program) (w : World) (h : Heap) (a : Addr) (zs : List Str) (n : Nat) : Prop := SetG (PySem.strKind P w) strOf h a (fun j => j ∈ zs) n
/-- sorted(xs), xs a set of texts -/
theorem sorted_setS {zs : List Str} {Q : Value → Shared → Prop} (R : SetSt P w s.heap a zs n) (hh : A.handled = none) (h64 : n < 64)
    (hQ : ∀ s' p (out : Array Value) (c : Nat) (ys : List Str), (∀ b o, s.heap.get? b = some o → s'.heap.get? b = some o) → s'.gens = s.gens → s'.os = s.os → s.heap.objs.size ≤ p →
      s'.heap.get? p = some (seqObj "list" out c) → StrsAre out.toList ys → ys.Nodup → (∀ k, k ∈ ys ↔ k ∈ zs) → sortedS ys = true → ys.length = n → Q (.ref p) s') :
    wpAny (model P w) A (call (.builtin "sorted") [.ref a]) Q E s := by
  obtain ⟨o, es, ep, t, ho, hex, hd, L, hn⟩ := R
  refine Calls.call_function_entry kind_sorted plain_sorted entry_sorted (args_sorted1 _) ?_
  unfold Builtin.«sorted»
  refine wpAny_bind (m := checkCount "sorted" 1 1 _) (wpAny_pure ?_)
  refine wpAny_bind (collect_set (A := A.in1) hh ⟨o, ho, hex.1, hd⟩ L.fits L.few L.ris L.led fun s1 vs k1 hz g1 o1 pm => ?_)
  have hvl : vs.length = n := by rw [pm.length_eq, List.length_map, Array.length_toList]; exact hn
  have hI : StrsAre vs (vs.map strOf) := strsAre_map vs fun v hv => by
    obtain ⟨e, he, q⟩ := List.mem_map.mp (pm.mem_iff.mp hv)
    obtain ⟨tk, h1⟩ := Value.isStrOf_shape (L.ge e he).1
    exact ⟨_, tk, by rw [← q]; exact h1⟩
  have pk : (vs.map strOf).Perm (ks strOf es) := by
    have q := pm.map strOf
    rw [List.map_map] at q
    exact q
  refine wpAny_bind (wpAny_newList ?_ (by rw [hvl, sizeLine_eq]; omega))
  have hoL : (s1.heap.push (seqObj "list" vs.toArray 0)).get? s1.heap.objs.size = some (seqObj "list" vs.toArray 0) := Heap.get?_push_size _ rfl
  refine wpAny_bind (wpAny_holding (wpAny_call_entry slot_list_sort ⟨_, hoL, rfl⟩ entry_list_sort (list_sort_treeK PyProof.Rows.strKind_oneLt hoL hI.keysOf (fun v₁ v₂ rest e => keyKind_strs (by rw [← e]; exact hI)) (by rw [hvl]; exact h64) fun st' hp hs => ⟨_, rfl, ?_⟩) (args_list_sort _)))
  obtain ⟨ys, a1, a2, a3⟩ := sorted_out_str hI hp hs
  generalize ((arrOf st').map (·.2)) = out at a1
  obtain ⟨c, hc⟩ := sortedHeap_at (vs := vs) (out := out) hoL
  have pn : ys.Perm (ks strOf es) := a2.trans pk
  refine wpAny_pure ⟨_, rfl, hQ _ s1.heap.objs.size out c ys (fun b u e => ?_) g1 o1 hz hc a1 (pn.nodup_iff.mpr L.nd) (fun k => by rw [pn.mem_iff, ← L.mem k]) a3 ?_⟩
  · have q := k1 b u e
    have hlt := Heap.lt_size q
    show (sortedHeap (s1.heap.push (seqObj "list" vs.toArray 0)) s1.heap.objs.size vs out).get? b = some u
    rw [sortedHeap_old (Nat.ne_of_lt hlt) (by rw [size_push']; exact Nat.lt_succ_of_lt hlt)]
    exact Heap.get?_push_of_some _ q
  · rw [pn.length_eq, List.length_map, Array.length_toList]; exact hn
end
/-- the set of texts at a -/
def SetSO (P : Program) (w : World) (a : Addr) (zs : List Str) (n : Nat) : HO := .ext fun h => SetSt P w h a zs n
theorem setSO_new {P : Program} {w : World} {H : Hp} {h : Heap} {a : Addr} {zs : List Str} {n : Nat} (R : SetSt P w h a zs n) : ObjOk P w H h a (SetSO P w a zs n) := by
  have ⟨o, _, _, _, ho, _⟩ := R
  exact ⟨R, ⟨o, ho⟩, fun h1 h2 p k => SetG.at p k⟩
section
variable [Mode] {X : Cx} {dr : Dr} {Γ : Gam} {H : Hp} {B : Addr → Prop}
/-- set(xs): tuples of numbers, numbers, texts -/
def rSetB (K : PySem.W.Frag) (P : Program) (w : World) : List V → Hp → VK → Prop := fun xs H Q => rSetA K P w xs H Q ∨ ∃ (l : Addr) (zs : List Str), xs = [V.ref l] ∧ SqL K H l (zs.map V.str) ∧ zs.length < 64 ∧
  ∀ a c, H a = none → c ≤ zs.length → Q (.ref a) (upd H a (SetSO P w a zs c))
theorem cr_setB (hc : X.calm = true) (hu : X.A.units + 64 < cLine) : CallR X (.type "set") (rSetB X.K X.prog X.w) := by
  intro pins s σ H xs us Q I r h
  rcases h with h | ⟨l, zs, rfl, hl, hf, q⟩
  · exact cr_setA hc hu pins s σ H xs us Q I r h
  · rw [Vals.ref1 r]
    obtain ⟨its, rv, pl, hz⟩ := I.list hl
    have hs : StrsAre its.toArray.toList zs := by simpa using strsAre_of rv
    refine set_of_g (P := X.prog) (w := X.w) (knd := PySem.strKind X.prog X.w) (key := strOf) zs (I.ok.hd hc) pl.isList ?_ ?_ hf fun g tk ⟨⟨c, le, R⟩, k⟩ => ?_
    · have := hs.strs
      rw [← this, List.length_map, Array.length_toList]
    · intro i v hv
      have hv2 : its.toArray.toList[i]? = some v := by rw [Array.getElem?_toList]; exact hv
      obtain ⟨x, tk, rfl⟩ := hs.all v (List.mem_of_getElem? hv2)
      refine ⟨x, ?_, strKind_is _ _ _ _, rfl, rfl⟩
      rw [← hs.strs, List.getElem?_map, hv2]
      rfl
    · exact ⟨.ref _, upd H _ (SetSO X.prog X.w s.heap.objs.size zs c), I.laid (t' := tk) k (Nat.le_refl _) (setSO_new R), rfl, q _ c (I.hok.fresh (Nat.le_refl _)) le⟩
def rSortB (K : PySem.W.Frag) (P : Program) (w : World) : List V → Hp → VK → Prop := fun xs H Q => rSortA K P w xs H Q ∨ ∃ (a : Addr) (zs : List Str) (n : Nat), xs = [V.ref a] ∧ H a = some (SetSO P w a zs n) ∧ n < 64 ∧
  ∀ (ys : List Str) (p : Addr), ys.Nodup → (∀ k, k ∈ ys ↔ k ∈ zs) → sortedS ys = true → H p = none → Q (.ref p) (upd H p (.lst (ys.map V.str)))
theorem cr_sortB (hc : X.calm = true) : CallR X (.builtin "sorted") (rSortB X.K X.prog X.w) := by
  intro pins s σ H xs us Q I r h
  rcases h with h | ⟨a, zs, n, rfl, ha, h64, q⟩
  · exact cr_sortA hc pins s σ H xs us Q I r h
  · have R : SetSt X.prog X.w s.heap a zs n := (I.hok a _ ha).1
    rw [Vals.ref1 r]
    refine sorted_setS R (I.ok.hd hc) h64 fun s' p out c ys k g o hp hg hi hn hm hs hl => ?_
    have hlen : (ys.map V.str).length ≤ sizeLine := by rw [List.length_map, hl, sizeLine_eq]; omega
    have hn0 : H p = none := I.hok.fresh hp
    have J : Inv X pins σ (upd H p (.lst (ys.map V.str))) { s with heap := s'.heap, gens := s'.gens, drawn := s'.drawn, toks := s'.toks } :=
      I.call (ch := []) (Un.laid k hp hn0) (I.hok.laid k hp ⟨hlen, out.toList, c, vals_of_strs hi, hg⟩) (by rw [g]; exact I.bare) (fun _ z => nomatch z)
    have e : s' = { s with heap := s'.heap, gens := s'.gens, drawn := s'.drawn, toks := s'.toks } := by
      cases s'
      cases s
      cases o
      rfl
    rw [e]
    exact ⟨.ref p, _, J, rfl, q ys p hn hm hs hn0⟩
theorem rSetA.up {K : PySem.W.Frag} {P : Program} {w : World} {xs : List V} {Q Q' : VK} (h : rSetA K P w xs H Q) (k : ∀ y H2, Q y H2 → Q' y H2) : rSetB K P w xs H Q' := by
  refine .inl ?_
  rcases h with h | ⟨l, ns, e, a, b, q⟩
  · exact rSetU.up h k
  · exact .inr ⟨l, ns, e, a, b, fun a' c x y => k _ _ (q a' c x y)⟩
theorem reps_strL {ns : List Str} {vs : List V} (r : Reps X.K dr H B vs (ns.map .str)) : vs = ns.map V.str := by
  induction ns generalizing vs with
  | nil => cases r; rfl
  | cons n ns ih =>
    cases r with
    | cons r1 r2 =>
      cases r1
      rw [ih r2]
      rfl
theorem sset_coreS {x : V} {Q : VK} {zs : List Str} (nb : NB H B) (rt : RepT X.K dr H B x (.list (zs.map .str))) (h64 : zs.length < 64) (f : Fin1 X.K dr H B (.list (sortD ((dd zs).map .str))) Q) :
    rSetB X.K X.prog X.w [x] H (fun y H2 => rSortB X.K X.prog X.w [y] H2 Q) := by
  obtain ⟨a, rfl, e⟩ : ∃ a, x = .ref a ∧ SqL X.K H a (zs.map V.str) := by
    obtain ⟨a, vs, rfl, e, q⟩ := rt.list
    rw [reps_strL q] at e
    exact ⟨a, rfl, SqL.of e⟩
  refine .inr ⟨a, zs, rfl, e, h64, fun a' c hn le => .inr ⟨a', zs, c, rfl, upd_same, by omega, fun us p hd hm hs hpn => ?_⟩⟩
  have hu : sortD ((dd zs).map PyData.str) = us.map .str := sk_strs ((List.perm_ext_iff_of_nodup hd dd_nodup).mpr fun k => by rw [hm, dd_mem]) hs
  rw [hu] at f
  have k1 : Same H (upd H a' (SetSO X.prog X.w a' zs c)) := same_new hn
  have k2 : Same (upd H a' (SetSO X.prog X.w a' zs c)) (upd (upd H a' (SetSO X.prog X.w a' zs c)) p (.lst (us.map V.str))) := same_new hpn
  have pn : H p = none := by
    cases hh : H p with
    | none => rfl
    | some u =>
      have := k1 _ _ hh
      rw [hpn] at this
      cases this
  have hr := reps_s (K := X.K) (dr := dr) (H := upd (upd H a' (SetSO X.prog X.w a' zs c)) p (.lst (us.map V.str))) (B := B) us
  refine f _ _ (Same.trans k1 k2) (.lst upd_same (nb p pn) hr) fun ds e => ?_
  cases e
  exact ⟨_, _, rfl, pn, upd_same, reps_s us⟩
end
end Pf

namespace Pf
open PySem PySem.Spec PyProof.Rows L2
variable [Mode]
def pickV (vs : List V) (x : List Nat) : List V := x.map fun j => vs.getD j .non
theorem vals_getD : ∀ {vs : List V} {us : List Value} (j : Nat), Vals vs us → RelV (vs.getD j .non) (us.getD j .none)
  | _, _, _, .nil => rfl
  | _, _, 0, .cons r _ => r
  | _, _, j + 1, .cons _ t => vals_getD j t
theorem vals_pick {vs : List V} {us : List Value} (r : Vals vs us) : ∀ x : List Nat, Vals (pickV vs x) (x.map fun j => us.toArray.getD j .none)
  | [] => .nil
  | j :: x => .cons (by
      have e : us.toArray.getD j .none = us.getD j .none := by simp [Array.getD_eq_getD_getElem?, List.getD_eq_getElem?_getD]
      show RelV (vs.getD j .non) (us.toArray.getD j .none)
      rw [e]
      exact vals_getD j r) (vals_pick r x)
/-- the choices of r of what vs holds -/
def ItC (vs : List V) (r : Nat) : L2.It where
  go := fun i H => i < (idxL vs.length r).length
  yld := fun i H v H' => ∃ T o x, v = .ref T ∧ H T = none ∧ o.dict = none ∧ (idxL vs.length r)[i]? = some x ∧ H' = upd H T (tupO o (pickV vs x))
  stop := fun i H => (idxL vs.length r).length ≤ i
def stC (c T : Addr) (us : List Value) (r : Nat) (i : Nat) (h : Heap) : Prop :=
  T ≠ c ∧ h.get? T = some { cls := .type "tuple", data := .seq us.toArray } ∧ ((i = 0 ∧ IsComb h c T (if r > us.length then 2 else 0) .none (List.range r)) ∨ ∃ k x res, i = k + 1 ∧ (idxL us.length r)[k]? = some x ∧ IsComb h c T 1 res x)
theorem objT {X : Cx} {H : Hp} {h : Heap} {T : Addr} {vs : List V} {us : List Value} (hl : vs.length ≤ sizeLine) (r : Vals vs us) (e : h.get? T = some { cls := .type "tuple", data := .seq us.toArray }) :
    ObjOk X.prog X.w H h T (tupO { cls := .type "tuple", data := .seq us.toArray } vs) := by
  have t : ObjOk X.prog X.w H h T (.tup vs) := ⟨hl, us, r, ⟨_, e, rfl, _, rfl⟩⟩
  unfold tupO
  split
  · exact ⟨e, t⟩
  · exact t
theorem turn_cmb {P : Program} {w : World} {K : PySem.W.Frag} {tg : Expr} {vs : List V} {us : List Value} {r : Nat} (c T : Addr) (rv : Vals vs us) (hr : r ≤ 1000) : Turn P w K tg (ItC vs r) [c, T] c (stC c T us r) where
  mem := List.mem_cons_self
  obj := fun i h st b hb => by
    obtain ⟨_, hT, st⟩ := st
    rcases List.mem_cons.mp hb with z | z
    · subst z
      rcases st with ⟨_, q⟩ | ⟨_, _, _, _, _, q⟩
      · exact ⟨_, q, fun v q => nomatch q⟩
      · exact ⟨_, q, fun v q => nomatch q⟩
    · obtain rfl := List.mem_singleton.mp z
      exact ⟨_, hT, fun v q => nomatch q⟩
  keep := fun i h h' st k => by
    obtain ⟨hne, hT, st⟩ := st
    refine ⟨hne, k T (by simp) _ hT, ?_⟩
    rcases st with ⟨z, q⟩ | ⟨k1, x, res, z, z2, q⟩
    · exact .inl ⟨z, k c (by simp) _ q⟩
    · exact .inr ⟨k1, x, res, z, z2, k c (by simp) _ q⟩
  item := by
    intro X hP hw hK hc i pins s σ H E I hf st hg
    subst hP hw hK
    obtain ⟨hne, hT, st⟩ := st
    have lenV := rv.length
    have hg' : i < (idxL vs.length r).length := hg
    rw [lenV] at hg'
    have hrl : r ≤ us.length := by
      refine Classical.byContradiction fun z => ?_
      rw [idx_none (by omega)] at hg'
      simp at hg'
    have hx : (idxL us.length r)[i]? = some ((idxL us.length r)[i]) := List.getElem?_eq_getElem hg'
    generalize (idxL us.length r)[i] = x at hx
    have hxl : x.length ≤ 1000 := by rw [(idx_len (List.mem_of_getElem? hx)).1]; exact hr
    have c_lt : c < s.heap.objs.size := by
      rcases st with ⟨_, q⟩ | ⟨_, _, _, _, _, q⟩
      · exact Heap.lt_size q
      · exact Heap.lt_size q
    have T_lt : T < s.heap.objs.size := Heap.lt_size hT
    have main : ∀ h' : Heap, IsComb h' c T 1 (.ref s.heap.objs.size) x → h'.get? s.heap.objs.size = some { cls := .type "tuple", data := .seq (x.map fun j => us.toArray.getD j .none).toArray } → (∀ b o, b ≠ c → s.heap.get? b = some o → h'.get? b = some o) →
        ∃ v, (some (Value.ref s.heap.objs.size)) = some v ∧ (∃ u, some v = some u ∧ wpAny (model X.prog X.w) X.A (letOwnedTupleGo tg (.ref c) u) (fun _ s2 => ∃ y H', Inv X pins σ H' s2 ∧ RelV y u ∧ (ItC vs r).yld i H y H' ∧ stC c T us r (i + 1) s2.heap ∧ ∀ b ∈ [c, T], H' b = none) E { s with heap := h' }) := by
      intro h' hc' hT' hk
      refine ⟨_, rfl, _, rfl, go_of (s := { s with heap := h' }) hc' rfl rfl (by decide +kernel) ?_⟩
      have new : ObjOk X.prog X.w (upd H s.heap.objs.size (tupO { cls := .type "tuple", data := .seq (x.map fun j => us.toArray.getD j .none).toArray } (pickV vs x))) h' s.heap.objs.size (tupO { cls := .type "tuple", data := .seq (x.map fun j => us.toArray.getD j .none).toArray } (pickV vs x)) :=
        objT (by unfold pickV; rw [List.length_map]; unfold sizeLine; omega) (vals_pick rv x) hT'
      have I1 := I.turnedNew (t' := s.toks) (ch := [c, T]) (fun b o hb q => hk b o (fun z => hb (by simp [z])) q) hf (Nat.le_refl _) new
      refine ⟨.ref s.heap.objs.size, _, I1, rfl, ⟨_, _, x, rfl, I.hok.fresh (Nat.le_refl _), rfl, by rw [lenV]; exact hx, rfl⟩, ⟨hne, hk _ _ hne hT, .inr ⟨i, x, _, rfl, hx, hc'⟩⟩, fun b hb => ?_⟩
      have b_lt : b < s.heap.objs.size := by
        rcases List.mem_cons.mp hb with z | z
        · rw [z]; exact c_lt
        · rw [List.mem_singleton.mp z]; exact T_lt
      rw [upd_ne (Nat.ne_of_lt b_lt)]
      exact (hf b hb).1
    refine pn_item ?_
    rcases st with ⟨rfl, q⟩ | ⟨k, y, res, rfl, hy, q⟩
    · rw [if_neg (by omega)] at q
      have e := idx0 hrl
      rw [hx] at e
      obtain rfl := Option.some.inj e
      exact next0_cb q hT rfl hne (by simpa using hr) main
    · have e := idx_next hrl hy
      rw [hx] at e
      exact next1_cb q hT rfl hne (by rw [List.size_toArray]; exact e) hxl main
  done := by
    intro X hP hw hK hc i pins s σ H E I hf st hg
    subst hP hw hK
    obtain ⟨hne, hT, st⟩ := st
    have lenV := rv.length
    have hg' : (idxL vs.length r).length ≤ i := hg
    rw [lenV] at hg'
    have main : ∀ e (h' : Heap), CpRep.StopE e h' → (∀ b o, b ≠ c → s.heap.get? b = some o → h'.get? b = some o) → CpRep.StopE e h' ∧ (none : Option Value) = none ∧ Inv X pins σ H { s with heap := h' } := fun e h' se hk =>
      ⟨se, rfl, I.turnedL (t' := s.toks) (ch := [c, T]) (fun b o hb q => hk b o (fun z => hb (by simp [z])) q) hf⟩
    refine pn_end ?_
    rcases st with ⟨rfl, q⟩ | ⟨k, y, res, rfl, hy, q⟩
    · by_cases hrl : r > us.length
      · rw [if_pos hrl] at q
        exact end2_cb (I.ok.hd hc) q main
      · have e := idx0 (n := us.length) (k := r) (by omega)
        have := (List.getElem?_eq_some_iff.mp e).1
        omega
    · have hrl : r ≤ us.length := by
        refine Classical.byContradiction fun z => ?_
        rw [idx_none (by omega)] at hy
        simp at hy
      have e := idx_next hrl hy
      rw [List.getElem?_eq_none hg'] at e
      exact end1_cb (I.ok.hd hc) q hT rfl (by rw [List.size_toArray]; exact e) main
  self := fun A i s Q E st h => by
    obtain ⟨_, _, st⟩ := st
    rcases st with ⟨_, q⟩ | ⟨_, _, _, _, _, q⟩
    · exact iter_cb q h
    · exact iter_cb q h
section
variable {X : Cx}
/-- an iterator of the choices has come -/
theorem pie_cmb {pins : List (Addr × Obj)} {σ : L2.St} {tg : Expr} {R : L2.It → Hp → Prop} {s : Shared} {H : Hp} {h : Heap} {tk : Nat} {vs : List V} {us : List Value} {r n : Nat} (I : Inv X pins σ H s) (hk : ∀ b o, s.heap.get? b = some o → h.get? b = some o) (hn : us.length = n) (rv : Vals vs us) (hr : r ≤ 1000) (q : R (ItC vs r) H) :
    wpAny (model X.prog X.w) X.A (pyIter (.ref (h.objs.size + 1))) (PIE X pins σ tg R) X.xe { s with heap := (h.push { cls := .type "tuple", data := .seq us.toArray }).push (recC h.objs.size n r), toks := tk } := by
  subst hn
  have I2 : Inv X pins σ H { s with heap := h, toks := tk } := I.kept hk
  have hz : (h.push { cls := .type "tuple", data := .seq us.toArray }).objs.size = h.objs.size + 1 := by simp [Heap.push]
  have hT : ((h.push { cls := .type "tuple", data := .seq us.toArray }).push (recC h.objs.size us.length r)).get? h.objs.size = some { cls := .type "tuple", data := .seq us.toArray } := Heap.get?_push_of_some _ (Heap.get?_push_size _ rfl)
  have hc : IsComb ((h.push { cls := .type "tuple", data := .seq us.toArray }).push (recC h.objs.size us.length r)) (h.objs.size + 1) h.objs.size (if r > us.length then 2 else 0) .none (List.range r) := by
    rw [← hz]
    exact Heap.get?_push_size _ rfl
  have I3 : Inv X pins σ H { s with heap := (h.push { cls := .type "tuple", data := .seq us.toArray }).push (recC h.objs.size us.length r), toks := tk } := I2.kept (t' := tk) fun b o e => Heap.get?_push_of_some _ (Heap.get?_push_of_some _ e)
  refine iter_cb hc ⟨h.objs.size + 1, [h.objs.size + 1, h.objs.size], _, _, H, rfl, I3, turn_cmb (h.objs.size + 1) h.objs.size rv hr, ⟨Nat.ne_of_lt (Nat.lt_succ_self _), hT, .inl ⟨rfl, hc⟩⟩, fun b hb => ?_, q⟩
  have fresh : ∀ c, h.objs.size ≤ c → FpOk X pins H c := fun c hle => I2.fpOk hle (I2.hok.fresh hle)
  rcases List.mem_cons.mp hb with z | z
  · rw [z]; exact fresh _ (Nat.le_add_right _ _)
  · rw [List.mem_singleton.mp z]; exact fresh _ (Nat.le_refl _)
def iCmb (K : PySem.W.Frag) (ta : TA) : TI := fun σ H R => ta σ H fun vs H1 => ∃ (a : Addr) (xs : List V) (r : Nat), vs = [.ref a, .int r] ∧ r ≤ 1000 ∧ xs.length ≤ 1000 ∧ (SqL K H1 a xs ∨ SqT K H1 a xs) ∧ R (ItC xs r) H1
theorem pi_cmb {e e2 : Expr} {ta : TA} {p pos : Pos} {tg : Expr} (hg : Gl X "combinations") (hm : X.mg "combinations" = some (.type "itertools.combinations")) (ha : PA X [e, e2] ta)
    (hs : starEach [e, e2] X.env = (false, eval e X.env) :: starEach [e2] X.env := by rfl) (hpl : (backTo pos (starEach [e2] X.env)).any (·.1) = false := by rfl) :
    PI X tg (.Call (.Name "combinations" p) [e, e2] [] pos) (iCmb X.K ta) := by
  refine ⟨fun pins s σ H R I h => ?_⟩
  refine Call_ (ld_glob I hg hm (PyProof.Rows.callWith_type1 (thn (ha.run pos pins s σ H _ I h) fun us s1 ⟨vs, H1, I1, r1, q1⟩ => ?_) hs hpl))
  obtain ⟨a, xs, r, rfl, hr, hl, hq, q1⟩ := q1
  cases r1 with
  | cons ra rr =>
    cases rr with
    | cons rb rr =>
      cases rr
      obtain ⟨t, rfl⟩ := rb
      cases ra
      rcases hq with hq | hq
      · obtain ⟨its, rv, pl, _⟩ := I1.list hq
        obtain ⟨o, ho, hc, n, hd⟩ := pl.isList
        have hlen := rv.length
        refine call_cb_seq (items := its.toArray) hr (by simp; omega) ho (.inl hc) hd fun h' hk => ?_
        exact pie_cmb (s := s1) (tk := s1.toks) I1 hk (by simp) rv hr q1
      · obtain ⟨its, rv, ⟨o, ho, hc, n, hd⟩, _⟩ := I1.tuple hq
        have hlen := rv.length
        refine call_cb_seq (items := its.toArray) hr (by simp; omega) ho (.inr hc) hd fun h' hk => ?_
        exact pie_cmb (s := s1) (tk := s1.toks) I1 hk (by simp) rv hr q1
def iCmr (ta : TA) : TI := fun σ H R => ta σ H fun vs H1 => ∃ (a : Addr) (i j : Int) (r : Nat), vs = [.ref a, .int r] ∧ r ≤ 1000 ∧ (j - i).toNat ≤ 1000 ∧ RgOk i j ∧ H1 a = some (.rng i j) ∧ R (ItC (rgV i j) r) H1
theorem pi_cmr {e e2 : Expr} {ta : TA} {p pos : Pos} {tg : Expr} (hcalm : X.calm = true) (hg : Gl X "combinations") (hm : X.mg "combinations" = some (.type "itertools.combinations")) (ha : PA X [e, e2] ta)
    (hs : starEach [e, e2] X.env = (false, eval e X.env) :: starEach [e2] X.env := by rfl) (hpl : (backTo pos (starEach [e2] X.env)).any (·.1) = false := by rfl) :
    PI X tg (.Call (.Name "combinations" p) [e, e2] [] pos) (iCmr ta) := by
  refine ⟨fun pins s σ H R I h => ?_⟩
  refine Call_ (ld_glob I hg hm (PyProof.Rows.callWith_type1 (thn (ha.run pos pins s σ H _ I h) fun us s1 ⟨vs, H1, I1, r1, q1⟩ => ?_) hs hpl))
  obtain ⟨a, i, j, r, rfl, hr, hl, ⟨b1, b2, b3, b4, b5⟩, hq, q1⟩ := q1
  cases r1 with
  | cons ra rr =>
    cases rr with
    | cons rb rr =>
      cases rr
      obtain ⟨t, rfl⟩ := rb
      cases ra
      obtain ⟨t0, u, v, ho⟩ := I1.hok _ _ hq
      refine call_cb_rng (n := (j - i).toNat) (I1.ok.hd hcalm) hr hl (small_one b1 b2 b3 b4) (rangeSize_nat i j) ho fun h' tk acc hk hi => ?_
      have e1 : acc = acc.toList.toArray := by simp
      rw [e1]
      exact pie_cmb (s := s1) (tk := tk) I1 hk (by rw [Array.length_toList]; exact hi.1) (vals_rg hi) hr q1
/-- range as an argument: tracked -/
def tRngO1 (ta : TE) : TE := fun σ H Q => ta σ H fun x H1 => ∃ n, x = .int n ∧ ∀ p, H1 p = none → Q (.ref p) (upd H1 p (.rng 0 n))
def tRngO2 (ta tb : TE) : TE := fun σ H Q => ta σ H fun x H1 => tb σ H1 fun y H2 => ∃ i j, x = .int i ∧ y = .int j ∧ ∀ p, H2 p = none → Q (.ref p) (upd H2 p (.rng i j))
theorem pe_rngO1 {a : Expr} {ta : TE} {p pos : Pos} (hg : Gl X "range") (hm : X.mg "range" = none) (ha : PE X a ta) (na : starEach [a] X.env = (false, eval a X.env) :: starEach [] X.env := by rfl) : PE X (.Call (.Name "range" p) [a] [] pos) (tRngO1 ta) := by
  refine ⟨fun pins s σ H Q I h => ?_⟩
  refine Call_ (ld_blt I hg hm boot_range (PyProof.Rows.callWith_type1 (one_arg ha I h (fun v s2 x H2 I2 r q => ?_) na) na))
  obtain ⟨n, rfl, q⟩ := q
  obtain ⟨t, rfl⟩ := r
  exact call_range_1 ⟨.ref s2.heap.objs.size, _, I2.laid (o := .rng 0 n) (fun b u e => Heap.get?_push_of_some _ e) (Nat.le_refl _) ⟨_, _, _, Heap.get?_push_size _ rfl⟩, rfl, q _ (I2.hok.fresh (Nat.le_refl _))⟩
theorem pe_rngO2 {a b : Expr} {ta tb : TE} {p pos : Pos} (hg : Gl X "range") (hm : X.mg "range" = none) (ha : PE X a ta) (hb : PE X b tb) (na : starEach [a, b] X.env = (false, eval a X.env) :: starEach [b] X.env := by rfl)
    (nb : starEach [b] X.env = (false, eval b X.env) :: starEach [] X.env := by rfl) (hp : (backTo pos (starEach [b] X.env)).any (·.1) = false := by rfl) : PE X (.Call (.Name "range" p) [a, b] [] pos) (tRngO2 ta tb) := by
  refine ⟨fun pins s σ H Q I h => ?_⟩
  refine Call_ (ld_blt I hg hm boot_range (PyProof.Rows.callWith_type1 (PyProof.Rows.args_cons (thn (ha.run pins s σ H _ I h) fun v s1 ⟨x, H1, I1, r1, q1⟩ => one_arg hb I1 q1 (fun u s2 y H2 I2 r2 q => ?_) nb) na) na hp))
  obtain ⟨i, j, rfl, rfl, q⟩ := q
  obtain ⟨t, rfl⟩ := r1
  obtain ⟨t', rfl⟩ := r2
  exact call_range_2 ⟨.ref s2.heap.objs.size, _, I2.laid (o := .rng i j) (fun b u e => Heap.get?_push_of_some _ e) (Nat.le_refl _) ⟨_, _, _, Heap.get?_push_size _ rfl⟩, rfl, q _ (I2.hok.fresh (Nat.le_refl _))⟩
end
section
variable {K : PySem.W.Frag} {dr : Dr} {H H' H1 : Hp} {B W : Addr → Prop}
theorem reps_getD : ∀ {vs : List V} {ds : List D} (j : Nat), Reps K dr H B vs ds → Rep K dr H B (vs.getD j .non) (ds.getD j .none)
  | _, _, _, .nil => .non
  | _, _, 0, .cons r _ => r
  | _, _, j + 1, .cons _ t => reps_getD j t
theorem reps_pick {vs : List V} {ds : List D} (r : Reps K dr H B vs ds) : ∀ x : List Nat, Reps K dr H B (pickV vs x) (x.map fun j => ds.getD j .none)
  | [] => .nil
  | j :: x => .cons (reps_getD j r) (reps_pick r x)
theorem wk_cmb {vs : List V} {ds : List D} {n : Nat} (r : Reps K dr H1 B vs ds) (w : ∀ b, W b → H1 b ≠ none → B b) : Wk K dr false (ItC vs n) ((subL n ds).map .tuple) H1 B W := by
  have e : (subL n ds).map PyData.tuple = (idxL vs.length n).map fun x => .tuple (x.map fun j => ds.getD j .none) := by
    rw [← idx_map ds PyData.none n, List.map_map, r.length]
    rfl
  rw [e]
  refine ⟨fun i H k hi => ?_, fun H k => ?_, fun i H x H' d k hi y => ?_⟩
  · show i < (idxL vs.length n).length
    simpa using hi
  · show (idxL vs.length n).length ≤ _
    simp
  · obtain ⟨T, o, x, rfl, hT, ho, hx, rfl⟩ := y
    rw [List.getElem?_map, hx] at hi
    cases hi
    have kk : Same H (upd H T (tupO o (pickV vs x))) := same_new hT
    exact ⟨kk, .inl (.tup (TupAt.new ho) ((reps_pick (reps_kp r k w) x).same kk))⟩
end
section
variable {X : Cx} {dr : Dr} {Γ : Gam} {N : List Str} {G : Nm} {wr : Str → Bool} {a b c : Ex} {t t' t2 : PTr} {tg : Expr} {pos p p2 p3 : Pos}
theorem cmbL_some {xs ds : List D} {k : Int} (h : cmbL xs k = some ds) : ∃ n : Nat, k = n ∧ n ≤ 1000 ∧ xs.length ≤ 1000 ∧ ds = (subL n xs).map .tuple := by
  obtain ⟨⟨h1, h2, h3⟩, rfl⟩ := ite_some h
  exact ⟨k.toNat, by omega, by omega, h3, rfl⟩
theorem i_cmb (hg : Gl X "combinations") (hm : X.mg "combinations" = some (.type "itertools.combinations")) (ha : PE X (toE N G a t) (tE X.K dr Γ a)) (hb : PE X (toE N G b t') (tE X.K dr Γ b)) :
    PI X tg (.Call (.Name "combinations" p) [toE N G a t, toE N G b t'] [] pos) (tI X.K dr Γ (.cmb a b)) := by
  have sb := star_toE N G b t' [] X.env
  have pa : PA X [toE N G a t, toE N G b t'] (tCons (tE X.K dr Γ a) (tCons (tE X.K dr Γ b) tNil)) := pa_cons ha (pa_cons hb pa_nil sb) (star_toE N G a t _ X.env)
  have hpl : (backTo pos (starEach [toE N G b t'] X.env)).any (·.1) = false := by rw [sb]; rfl
  refine PI.imp (pi_cmb hg hm pa (star_toE N G a t _ X.env) hpl) ?_
  rintro σ H R ⟨B0, ρ, st, items, st', S, h, q⟩
  simp only [evI, Option.bind_eq_some_iff, Option.map_eq_some_iff, Prod.mk.injEq] at h
  obtain ⟨⟨d, s1⟩, h1, ⟨d2, s2⟩, h2, ds, h3, rfl, rfl⟩ := h
  refine ⟨B0, ρ, st, d, s1, S, h1, fun v1 H1 p1 => ?_⟩
  have S1 := S.post p1
  refine ⟨B0, ρ, s1, d2, s2, S1, h2, fun v2 H2 p2 => ?_⟩
  have kk := p1.kd.trans p2.kd
  unfold cmbD at h3
  split at h3
  · rename_i xs k z1 z2
    have z1 : d = .list xs := z1
    have z2 : d2 = .int k := z2
    subst z1 z2
    obtain ⟨n, rfl, hn, hl, rfl⟩ := cmbL_some h3
    obtain rfl := p2.repT.int
    obtain ⟨a1, vs, rfl, e1, r1, f1⟩ := p1.free S
    have e1' : H2 a1 = some (.lst vs) := by
      refine p2.kd.keep _ _ ?_ e1
      intro z
      subst z
      exact f1 (fun b => b = dr.a) true (fun z => by cases z) (fun b hb _ => by subst hb; exact ⟨S.drB, fun _ => rfl⟩) rfl
    have r1' := Reps.kp p2.kd S.bd _ _ r1
    exact ⟨a1, vs, n, rfl, hn, by rw [r1.length]; exact hl, .inl (SqL.of e1'), q _ H2 kk p2.dw fun W B' fw hb hw => wk_cmb (Reps.anti hb _ _ r1') hw⟩
  · rename_i xs k z1 z2
    have z1 : d = .tuple xs := z1
    have z2 : d2 = .int k := z2
    subst z1 z2
    obtain ⟨n, rfl, hn, hl, rfl⟩ := cmbL_some h3
    obtain rfl := p2.repT.int
    obtain ⟨a1, vs, rfl, e1, r1⟩ := p1.repT.tuple
    have r1' := Reps.kp p2.kd S.bd _ _ r1
    exact ⟨a1, vs, n, rfl, hn, by rw [r1.length]; exact hl, .inr (p2.kd.sqT e1), q _ H2 kk p2.dw fun W B' fw hb hw => wk_cmb (Reps.anti hb _ _ r1') hw⟩
  · cases h3
theorem rgOk1 {i j : Int} (h1 : rngOk i = true) (h2 : rngOk j = true) (hl : (j - i).toNat ≤ cap) : RgOk i j := by
  have a1 := of_decide_eq_true (show decide _ = true from h1)
  have a2 := of_decide_eq_true (show decide _ = true from h2)
  have : cap = 2 ^ 24 := rfl
  exact ⟨by omega, by omega, by omega, by omega, by omega⟩
theorem rg_ne {H H2 : Hp} {q : Addr} {o : HO} {st : DS} {K : PySem.W.Frag} (hq : H q = none) (dw : DrawOk K dr H st) (k : KD dr (upd H q o) H2) : H2 q = some o := by
  refine k.keep _ _ (fun z => ?_) upd_same
  have z : q = dr.a := z
  subst z
  rw [dw.1] at hq
  cases hq
theorem i_cmr1 (g : Good N G Γ X.env.scope wr X) (hg : Gl X "combinations") (hm : X.mg "combinations" = some (.type "itertools.combinations")) (hg2 : Gl X "range") (ha : PE X (toE N G a t) (tE X.K dr Γ a)) (hb : PE X (toE N G b t') (tE X.K dr Γ b)) :
    PI X tg (.Call (.Name "combinations" p) [.Call (.Name "range" p3) [toE N G a t] [] p2, toE N G b t'] [] pos) (tI X.K dr Γ (.cmr (.cons a .nil) b)) := by
  have sb := star_toE N G b t' [] X.env
  have pr := pe_rngO1 (p := p3) (pos := p2) hg2 (g.blt "range" (by decide +kernel)) ha (star_toE N G a t [] X.env)
  have hpl : (backTo pos (starEach [toE N G b t'] X.env)).any (·.1) = false := by rw [sb]; rfl
  refine PI.imp (pi_cmr g.calm hg hm (pa_cons pr (pa_cons hb pa_nil sb) rfl) rfl hpl) ?_
  rintro σ H R ⟨B0, ρ, st, items, st', S, h, q⟩
  simp only [evI, evEs, Option.bind_eq_some_iff, Option.map_eq_some_iff, Prod.mk.injEq] at h
  obtain ⟨⟨ds, s0⟩, ⟨⟨da, s1⟩, h1, ⟨l, s3⟩, h1', rfl, rfl⟩, ⟨d2, s2⟩, h2, ds', h3, rfl, rfl⟩ := h
  cases h1'
  refine ⟨B0, ρ, st, da, _, S, h1, fun v1 H1 p1 => ?_⟩
  obtain ⟨l, h3, h5⟩ := Option.bind_eq_some_iff.mp (show (lrgD [da]).bind _ = some _ from h3)
  obtain ⟨xs, h4, h6⟩ := Option.bind_eq_some_iff.mp (show (rngD [da]).bind _ = some _ from h3)
  obtain ⟨⟨hl, _⟩, rfl⟩ := ite_some h6
  unfold rngD at h4
  split at h4
  · rename_i n z
    cases z
    obtain ⟨hn, rfl⟩ := ite_some h4
    obtain rfl := p1.repT.int
    refine ⟨n, rfl, fun o ho => ?_⟩
    have k1 : KD dr H (upd H1 o (.rng 0 n)) := p1.kd.trans (.of_same (same_new ho))
    have d1 := p1.dw.same (same_new (o := .rng 0 n) ho)
    refine ⟨B0, ρ, _, d2, s2, S.kd k1 d1, h2, fun v2 H2 p2 => ?_⟩
    cases d2 with
    | int k =>
      obtain ⟨m, rfl, hm, hl2, rfl⟩ := cmbL_some (show cmbL _ k = _ from h5)
      obtain rfl := p2.repT.int
      simp only [List.length_map, List.length_range] at hl hl2
      refine ⟨o, 0, n, m, rfl, hm, by simpa using hl2, rgOk1 (by decide) hn (by simpa using hl), rg_ne ho p1.dw p2.kd, q _ H2 (k1.trans p2.kd) p2.dw fun W B' fw hb hw => ?_⟩
      have r := reps_ints (X := X) (dr := dr) (H := H2) (B := B') (fun i : Nat => (0 : Int) + (i : Int)) (List.range n.toNat)
      have e1 : rgV 0 n = (List.range n.toNat).map fun i : Nat => V.int (0 + (i : Int)) := by unfold rgV; rw [Int.sub_zero]
      have e2 : ((List.range n.toNat).map fun i : Nat => PyData.int (i : Int)) = (List.range n.toNat).map fun i : Nat => .int (0 + (i : Int)) := by simp
      rw [e1]
      rw [e2]
      exact wk_cmb r hw
    | _ => cases h5
  · rename_i z; cases z
  · rename_i z; cases z
  · cases h4
theorem i_cmr2 (g : Good N G Γ X.env.scope wr X) (hg : Gl X "combinations") (hm : X.mg "combinations" = some (.type "itertools.combinations")) (hg2 : Gl X "range") (ha : PE X (toE N G a t) (tE X.K dr Γ a)) (hc : PE X (toE N G c t2) (tE X.K dr Γ c)) (hb : PE X (toE N G b t') (tE X.K dr Γ b)) :
    PI X tg (.Call (.Name "combinations" p) [.Call (.Name "range" p3) [toE N G a t, toE N G c t2] [] p2, toE N G b t'] [] pos) (tI X.K dr Γ (.cmr (.cons a (.cons c .nil)) b)) := by
  have sb := star_toE N G b t' [] X.env
  have sc := star_toE N G c t2 [] X.env
  have pr := pe_rngO2 (p := p3) (pos := p2) hg2 (g.blt "range" (by decide +kernel)) ha hc (star_toE N G a t _ X.env) sc (by rw [sc]; rfl)
  have hpl : (backTo pos (starEach [toE N G b t'] X.env)).any (·.1) = false := by rw [sb]; rfl
  refine PI.imp (pi_cmr g.calm hg hm (pa_cons pr (pa_cons hb pa_nil sb) rfl) rfl hpl) ?_
  rintro σ H R ⟨B0, ρ, st, items, st', S, h, q⟩
  simp only [evI, evEs, Option.bind_eq_some_iff, Option.map_eq_some_iff, Prod.mk.injEq] at h
  obtain ⟨⟨ds, s0⟩, ⟨⟨da, s1⟩, h1, ⟨l, s3⟩, ⟨⟨dc, s1'⟩, h1b, ⟨l', s4⟩, h1', rfl, rfl⟩, rfl, rfl⟩, ⟨d2, s2⟩, h2, ds', h3, rfl, rfl⟩ := h
  cases h1'
  refine ⟨B0, ρ, st, da, _, S, h1, fun v1 H1 p1 => ?_⟩
  have S1 := S.post p1
  obtain ⟨l, h3, h5⟩ := Option.bind_eq_some_iff.mp (show (lrgD [da, dc]).bind _ = some _ from h3)
  obtain ⟨xs, h4, h6⟩ := Option.bind_eq_some_iff.mp (show (rngD [da, dc]).bind _ = some _ from h3)
  obtain ⟨⟨hl, _⟩, rfl⟩ := ite_some h6
  unfold rngD at h4
  split at h4
  · rename_i z; cases z
  · rename_i i j z
    cases z
    obtain ⟨hn, rfl⟩ := ite_some h4
    simp only [Bool.and_eq_true] at hn
    obtain rfl := p1.repT.int
    refine ⟨B0, ρ, _, .int j, _, S1, h1b, fun v3 H3 p3 => ?_⟩
    obtain rfl := p3.repT.int
    refine ⟨i, j, rfl, rfl, fun o ho => ?_⟩
    have k1 : KD dr H (upd H3 o (.rng i j)) := (p1.kd.trans p3.kd).trans (.of_same (same_new ho))
    have d1 := p3.dw.same (same_new (o := .rng i j) ho)
    refine ⟨B0, ρ, _, d2, s2, S.kd k1 d1, h2, fun v2 H2 p2 => ?_⟩
    cases d2 with
    | int k =>
      obtain ⟨m, rfl, hm, hl2, rfl⟩ := cmbL_some (show cmbL _ k = _ from h5)
      obtain rfl := p2.repT.int
      simp only [List.length_map, List.length_range] at hl hl2
      exact ⟨o, i, j, m, rfl, hm, hl2, rgOk1 hn.1 hn.2 hl, rg_ne ho p3.dw p2.kd, q _ H2 (k1.trans p2.kd) p2.dw fun W B' fw hb hw => wk_cmb (reps_ints (fun k : Nat => i + (k : Int)) (List.range (j - i).toNat)) hw⟩
    | _ => cases h5
  · rename_i z; cases z
  · cases h4
end
end Pf

namespace Pf
open PySem PySem.Spec PyProof.Rows PySem.Calls L2
variable [Mode]
theorem len_of {α : Type} [DecidableEq α] {ns : List α} {l : List α} (hn : l.Nodup) (hm : ∀ k, k ∈ l ↔ k ∈ ns) : l.length = (dd ns).length :=
  ((List.perm_ext_iff_of_nodup hn dd_nodup).mpr fun k => by rw [hm, dd_mem]).length_eq
/-- len of a set -/
def rLenSet (P : Program) (w : World) : List V → Hp → VK → Prop := fun xs H Q => ∃ (a : Addr) (c : Nat), xs = [V.ref a] ∧
  ((∃ ns : List Int, H a = some (SetO w a (fun j => decide (j ∈ ns)) c) ∧ Q (.int (dd ns).length) H) ∨ (∃ zs : List Str, H a = some (SetSO P w a zs c) ∧ Q (.int (dd zs).length) H))
theorem cr_lenSet {X : Cx} : CallR X (.builtin "len") (rLenSet X.prog X.w) := by
  intro pins s σ H xs us Q I r h
  obtain ⟨a, c, rfl, h⟩ := h
  rw [Vals.ref1 r]
  rcases h with ⟨ns, hs, q⟩ | ⟨zs, hs, q⟩
  · obtain ⟨R, _, _⟩ := I.hok _ _ hs
    obtain ⟨o, es, ep, t, ho, hex, hd, _, hn, hm, hb, hf, _⟩ := R
    have e : es.size = (dd ns).length := by
      rw [← len_of hn fun k => by rw [← hm]; exact decide_eq_true_iff, List.length_map, Array.length_toList]
    refine call_len_set ho hex hd hf (by unfold scanBound at hb; omega) ⟨.int (dd ns).length, H, I.tok _, ⟨_, by rw [e]⟩, q⟩
  · obtain ⟨R, _, _⟩ := I.hok _ _ hs
    obtain ⟨o, es, ep, t, ho, hex, hd, L, hn⟩ := R
    have e : es.size = (dd zs).length := by
      rw [← len_of L.nd fun k => (L.mem k).symm, List.length_map, Array.length_toList]
    have hb := L.few
    refine call_len_set ho hex hd L.fits (by unfold scanBound at hb; omega) ⟨.int (dd zs).length, H, I.tok _, ⟨_, by rw [e]⟩, q⟩
end Pf

namespace Pf
open PySem PySem.Spec PyProof.Rows L2
variable [Mode]

def visB (sc : Scope) (x : Str) : Bool := match sc.names.lookup x with
  | some .local => true
  | some .cell => true
  | some .free => true
  | _ => false
def glB (sc : Scope) (x : Str) : Bool := decide (sc.names.lookup x = some .globalImplicit)
def nameB (x : Str) : Bool := !(x == ("__debug__" : Str)) && !(x == ("__classdict__" : Str))
def nmOf (N : List Str) (i : Nat) : Str := N.getD i Str.empty
def ownOf (N : List Str) (tg : Tg) : List (Str × Nat) := tg.slots.map fun i => (nmOf N i, i)
def blkW (scope sc : Scope) (x : Str) : Bool := decide ((relS scope sc).names.lookup x = some .local) || decide (scope.names.lookup x = some .cell)
def tgB (N : List Str) (wr : Str → Bool) (tg : Tg) : Bool := tg.slots.all fun i => decide (i < N.length) && wr (nmOf N i)
def tgI (it : It) (tg : Tg) : Bool := match it, tg with
  | .enm _, .nm _ => false
  | .zip _ _, .nm _ => false
  | .its _, .nm _ => false
  | _, _ => true
theorem tgI_pt {it : It} {tg : Tg} (h : tgI it tg = true) (z : isPair it = true) : tg.isTp = true := by
  cases it <;> first | (cases z; done) | (cases tg <;> first | rfl | cases h)
/-- a method's object: no call without arguments -/
def rcv : Ex → Bool
  | .lkb _ _ _ => false
  | .lkc _ _ _ => false
  | .call _ .nil => false
  | .bi _ .nil => false
  | _ => true
mutual
/-- a test whose form is served -/
def tst : Ex → Bool
  | .ife _ _ _ => false
  | .nt a => tst a
  | .bop _ es => tsts es
  | _ => true
def tsts : Exs → Bool
  | .nil => false
  | .cons e .nil => tst e
  | .cons e (.cons e' es) => tst e && tsts (.cons e' es)
end
mutual
def wfE (N : List Str) (G : Nm) : Ex → PTr → Scope → Bool
  | .non, _, _ => true
  | .bl _, _, _ => true
  | .int _, _, _ => true
  | .str _, _, _ => true
  | .var i, _, sc => decide (i < N.length) && visB sc (nmOf N i) && nameB (nmOf N i)
  | .bin _ a b, t, sc => wfE N G a (t.s 0) sc && wfE N G b (t.s 1) sc
  | .neg a, t, sc => wfE N G a (t.s 0) sc
  | .nt a, t, sc => wfE N G a (t.s 0) sc && tst a
  | .cmp _ a b, t, sc => wfE N G a (t.s 0) sc && wfE N G b (t.s 1) sc
  | .isN _ a, t, sc => wfE N G a (t.s 0) sc
  | .isB _ _ a, t, sc => wfE N G a (t.s 0) sc
  | .chn _ _ a b c, t, sc => wfE N G a (t.s 0) sc && wfE N G b (t.s 1) sc && wfE N G c (t.s 2) sc
  | .bop _ es, t, sc => wfEs N G es t.ts sc && tsts es
  | .ife c a b, t, sc => wfE N G c (t.s 0) sc && wfE N G a (t.s 1) sc && wfE N G b (t.s 2) sc && tst c
  | .tup es, t, sc => wfEs N G es t.ts sc
  | .lst es, t, sc => wfEs N G es t.ts sc
  | .ix a b, t, sc => wfE N G a (t.s 0) sc && wfE N G b (t.s 1) sc
  | .sl a lo hi, t, sc => wfE N G a (t.s 0) sc && wfO N G lo (t.s 1) sc && wfO N G hi (t.s 2) sc
  | .lc elt tg it ifs, t, sc => blkC N sc t.sc (ownOf N tg) && wfI N G it (t.s 2) sc && tgI it tg && tgB N (blkW t.sc sc) tg && wfE N G elt (t.s 0) (relS t.sc sc) && wfC N G ifs (t.s 3).ts (relS t.sc sc)
  | .call j es, t, sc => glB sc (G.fs.getD j Str.empty) && nameB (G.fs.getD j Str.empty) && wfEs N G es t.ts sc
  | .srev a, t, sc => glB sc "sorted" && wfE N G a (t.s 0) sc
  | .lcm a b, t, sc => glB sc "lcm" && decide (("lcm" : Str) ∈ G.lib) && wfE N G a (t.s 0) sc && wfE N G b (t.s 1) sc
  | .rvs a, t, sc => wfE N G a (t.s 0) sc
  | .cnt a b, t, sc => wfE N G a (t.s 0) sc && wfE N G b (t.s 1) sc && ((t.p 1).endLine == (t.p 0).line) && rcv a
  | .lrg (.cons a .nil), t, sc => glB sc "list" && glB sc "range" && wfE N G a (hdT t.ts) sc
  | .lrg (.cons a (.cons b .nil)), t, sc => glB sc "list" && glB sc "range" && wfE N G a (hdT t.ts) sc && wfE N G b (hdT t.ts.tail) sc
  | .lrg _, _, _ => false
  | .lset a, t, sc => glB sc "len" && glB sc "set" && wfE N G a (t.s 0) sc
  | .sset a, t, sc => glB sc "sorted" && glB sc "set" && wfE N G a (t.s 0) sc
  | .mnd _ a, t, sc => glB sc "min" && wfE N G a (t.s 0) sc
  | .lkb _ b es, t, sc => glB sc b.name && wfEs N G es t.ts sc
  | .lkc _ j es, t, sc => glB sc (G.fs.getD j Str.empty) && nameB (G.fs.getD j Str.empty) && wfEs N G es t.ts sc
  | .si a, t, sc => glB sc "sorted" && wfE N G a (t.s 0) sc && ((t.p 3).endLine == (t.p 2).line) && rcv a
  | .gcd a b, t, sc => glB sc "gcd" && decide (("gcd" : Str) ∈ G.lib) && wfE N G a (t.s 0) sc && wfE N G b (t.s 1) sc
  | .gl j, t, sc => glB sc (G.cs.getD j Str.empty) && nameB (G.cs.getD j Str.empty)
  | .bi b es, t, sc => glB sc b.name && wfEs N G es t.ts sc
  | .get a es, t, sc => wfE N G a (t.s 0) sc && wfEs N G es (t.s 1).ts sc && ((t.p 1).endLine == (t.p 0).line) && rcv a
  | .dic _, _, _ => true
  | .dof a, t, sc => glB sc "dict" && wfE N G a (t.s 0) sc
  | .dofT a, t, sc => glB sc "dict" && wfE N G a (t.s 0) sc
  | .dsp k v, t, sc => wfE N G k (t.s 0) sc && wfE N G v (t.s 1) sc
  | .dc k v tg it ifs, t, sc => blkC N sc t.sc (ownOf N tg) && wfI N G it (t.s 3) sc && tgI it tg && tgB N (blkW t.sc sc) tg && wfE N G k (t.s 0) (relS t.sc sc) && wfE N G v (t.s 1) (relS t.sc sc) && wfC N G ifs (t.s 4).ts (relS t.sc sc)
  | .isi e ys, t, sc => wfE N G e (t.s 0) sc && !ys.isEmpty && decide (ys.length ≤ 10) && glB sc "isinstance" && ys.all fun y => glB sc y.name
def wfEs (N : List Str) (G : Nm) : Exs → List PTr → Scope → Bool
  | .nil, _, _ => true
  | .cons e es, ts, sc => wfE N G e (hdT ts) sc && wfEs N G es ts.tail sc
def wfO (N : List Str) (G : Nm) : Exs → PTr → Scope → Bool
  | .nil, _, _ => true
  | .cons e _, t, sc => wfE N G e t sc
def wfC (N : List Str) (G : Nm) : Exs → List PTr → Scope → Bool
  | .nil, _, _ => true
  | .cons e es, ts, sc => wfE N G e (hdT ts) sc && tst e && (match es with | .nil => true | _ => false)
def wfI (N : List Str) (G : Nm) : It → PTr → Scope → Bool
  | .seq e, t, sc => wfE N G e t sc
  | .rng es, t, sc => glB sc "range" && wfEs N G es t.ts sc
  | .enm e, t, sc => glB sc "enumerate" && wfE N G e (t.s 0) sc
  | .zip a b, t, sc => glB sc "zip" && wfE N G a (t.s 0) sc && wfE N G b (t.s 1) sc
  | .its a, t, sc => wfE N G a (t.s 0) sc && ((t.p 1).endLine == (t.p 0).line) && rcv a
  | .vls a, t, sc => wfE N G a (t.s 0) sc && ((t.p 1).endLine == (t.p 0).line) && rcv a
  | .rev a, t, sc => glB sc "reversed" && wfE N G a (t.s 0) sc
  | .cmb a r, t, sc => glB sc "combinations" && decide (("combinations" : Str) ∈ G.lib) && wfE N G a (t.s 0) sc && wfE N G r (t.s 1) sc
  | .cmr (.cons a .nil) r, t, sc => glB sc "combinations" && decide (("combinations" : Str) ∈ G.lib) && glB sc "range" && wfE N G a (hdT t.ts.tail) sc && wfE N G r (t.s 0) sc
  | .cmr (.cons a (.cons b .nil)) r, t, sc => glB sc "combinations" && decide (("combinations" : Str) ∈ G.lib) && glB sc "range" && wfE N G a (hdT t.ts.tail) sc && wfE N G b (hdT t.ts.tail.tail) sc && wfE N G r (t.s 0) sc
  | .cmr _ _, _, _ => false
end
theorem base_toE (N : List Str) (G : Nm) (e : Ex) (t : PTr) (env : Env) (m : Str) (h : rcv e = true) : attributeBase (toE N G e t) m env (eval (toE N G e t) env) = eval (toE N G e t) env := by
  cases e <;> first
    | rfl
    | (rename_i es
       cases es with
       | nil => cases h
       | cons _ _ => rfl)


theorem vis_of {sc : Scope} {x : Str} (h : visB sc x = true) : Vis sc x := by
  unfold visB at h
  split at h <;> first
    | exact .inl (by assumption)
    | exact .inr (.inl (by assumption))
    | exact .inr (.inr (by assumption))
    | cases h
theorem plain_toE (N : List Str) (G : Nm) (e : Ex) (t : PTr) : PlainIx (toE N G e t) := by
  cases e <;> exact fun _ _ => rfl
theorem behind_toE (N : List Str) (G : Nm) (op : CmpOp) (e : Ex) (t : PTr) : behindInMarks op (toE N G e t) = false := by
  cases e <;> rfl
theorem fold_toE (N : List Str) (G : Nm) (e : Ex) (t : PTr) (env : Env) (x : Value) : foldedSetIterable (toE N G e t) env x = pure x := by
  cases e <;> rfl
theorem fold_toIt (N : List Str) (G : Nm) (it : It) (t : PTr) (env : Env) (x : Value) : foldedSetIterable (toIt N G it t) env x = pure x := by
  cases it <;> first | exact fold_toE N G _ t env x | rfl
theorem tru_form (N : List Str) (G : Nm) (e : Ex) (t : PTr) (env : Env) (h : match e with | .nt _ => False | .bop _ _ => False | .ife _ _ _ => False | .cmp _ _ _ => False | .isN _ _ => False | .isB _ _ _ => False | .chn _ _ _ _ _ => False | _ => True) :
    ∀ whole, isTrue (toE N G e t) env whole = (do let v ← whole; standAt (toE N G e t).pos; holding [v] (truthy v)) := by
  cases e <;> first | exact h.elim | exact fun _ => rfl
section
variable {N : List Str} {G : Nm} {Γ : Gam} {sc : Scope} {wr : Str → Bool} {X : Cx}
theorem Good.gl (g : Good N G Γ sc wr X) {x : Str} (h : glB sc x = true) : Gl X x := by
  have z : sc.names.lookup x = some .globalImplicit := of_decide_eq_true h
  show X.env.scope.names.lookup x = some .globalImplicit
  rw [g.scp]
  exact z
theorem Good.self (g : Good N G Γ sc wr X) : Good N G Γ X.env.scope wr X := by
  have z := g.scp
  subst z
  exact g
theorem Good.blk (g : Good N G Γ sc wr X) (scope : Scope) (s : Shared) (H : Hp) (C : Addr) (cl : List (Str × Addr)) (fp : List Addr) : Good N G Γ (relS scope sc) (blkW scope sc) (X.blk s H scope (compEnvC scope cl C X.env) fp) where
  calm := g.calm
  hN := g.hN
  nd := g.nd
  scp := by
    have z := g.scp
    subst z
    rfl
  wrt := fun x h => by
    unfold blkW at h
    rcases Bool.or_eq_true_iff.mp h with h | h
    · have z := of_decide_eq_true h
      exact ⟨.inl z, .inr z⟩
    · have z : scope.names.lookup x = some .cell := of_decide_eq_true h
      refine ⟨.inr (lookup_relS_keep (by decide) z), .inl ?_⟩
      show (scope.names.lookup x == some .cell) = true
      rw [z]
      rfl
  un := g.un
  fns := g.fns
  cns := g.cns
  lib := g.lib
  blt := g.blt
theorem names_get {i : Nat} (g : Good N G Γ sc wr X) (h : i < N.length) : X.N[i]? = some (nmOf N i) := by
  rw [g.hN]
  unfold nmOf
  rw [List.getD_eq_getElem?_getD, List.getElem?_eq_getElem h]
  rfl
theorem nameB_of {x : Str} (h : nameB x = true) : (x == ("__debug__" : Str)) = false ∧ (x == ("__classdict__" : Str)) = false := by
  unfold nameB at h
  simp only [Bool.and_eq_true, Bool.not_eq_true'] at h
  exact h
theorem c_cst {dr : Dr} {e : Ex} {ex : Expr} {d : D} {v : V} (h : PE X ex (tC v)) (hv : ∀ {H B}, Rep X.K dr H B v d) (ho : ∀ ρ, isOw ρ e = false) (hf : isFr e = false) (he : ∀ ρ st, evE Γ e ρ st = some (d, st)) : PE X ex (tE X.K dr Γ e) := by
  refine PE.imp h ?_
  rintro σ H Q ⟨B0, ρ, st, d', st', S, h, q⟩
  rw [he] at h
  cases h
  exact q v H (.mk' .refl S.drw (ho ρ) hv (fun z => by rw [hf] at z; cases z))
theorem c_gl {dr : Dr} {j : Nat} {pos : Pos} (g : Good N G Γ X.env.scope wr X) (hg : Gl X (G.cs.getD j Str.empty)) (hdb : (G.cs.getD j Str.empty == ("__debug__" : Str)) = false) : PE X (.Name (G.cs.getD j Str.empty) pos) (tE X.K dr Γ (.gl j)) := by
  cases hd : Γ.cs[j]? with
  | none =>
    refine PE.absurd ?_
    rintro σ H Q ⟨B0, ρ, st, d', st', S, h, q⟩
    simp [evE, hd] at h
  | some d =>
    obtain ⟨v, u, e, r, rp⟩ := g.cns j d hd
    refine PE.imp (pe_glob hg e r hdb) ?_
    rintro σ H Q ⟨B0, ρ, st, d', st', S, h, q⟩
    simp only [evE, hd, Option.map_some, Option.some.injEq, Prod.mk.injEq] at h
    obtain ⟨rfl, rfl⟩ := h
    exact q v H (.mk' .refl S.drw rfl (rp _ _ _) (fun z => by cases z))
theorem c_srev {dr : Dr} {a : Ex} {t : PTr} {p p2 p3 pos : Pos} {k : Nat} (g : Good N G Γ X.env.scope wr X) (hg : Gl X "sorted") (ha : PE X (toE N G a t) (tE X.K dr Γ a)) :
    PE X (.Call (.Name "sorted" p) [toE N G a t] [⟨some "reverse", .Constant (.bool true) k p3, p2⟩] pos) (tE X.K dr Γ (.srev a)) := by
  have h1 := star_toE N G a t [] X.env
  have pa : PA X [toE N G a t] (tCons (tE X.K dr Γ a) tNil) := pa_cons ha pa_nil h1
  refine PE.imp (pe_callBK (call_srev (dr := dr) g.un) hg (g.blt "sorted" (by decide +kernel)) (by decide +kernel) pa (pk_cons pe_bl pk_nil) (by decide +kernel) (by decide +kernel) (by rw [h1]; rfl) (by rw [h1]; rfl) rfl rfl rfl) ?_
  rintro σ H Q ⟨B0, ρ, st, d, st', S, h, q⟩
  simp only [evE, Option.bind_eq_some_iff, Option.map_eq_some_iff, Prod.mk.injEq] at h
  obtain ⟨⟨da, s1⟩, h1, d', h3, rfl, rfl⟩ := h
  refine ⟨B0, ρ, st, da, s1, S, h1, fun v1 H1 p1 => ⟨rfl, BB B0 ρ σ, v1, da, d', rfl, (S.post p1).nb, p1.repT, h3, fun v H' k r f => ?_⟩⟩
  exact q v H' (.mk' (p1.kd.trans (.of_same k)) (p1.dw.same k) rfl r fun _ => f.low p1.kd p1.dw)
theorem c_lset {dr : Dr} {a : Ex} {t : PTr} {p p2 p3 pos : Pos} (g : Good N G Γ X.env.scope wr X) (hg : Gl X "len") (hg2 : Gl X "set") (ha : PE X (toE N G a t) (tE X.K dr Γ a)) :
    PE X (.Call (.Name "len" p) [.Call (.Name "set" p3) [toE N G a t] [] p2] [] pos) (tE X.K dr Γ (.lset a)) := by
  have h1 := star_toE N G a t [] X.env
  have pset : PE X (.Call (.Name "set" p3) [toE N G a t] [] p2) (tCB (rSetB X.K X.prog X.w) (tCons (tE X.K dr Γ a) tNil)) := pe_callTy (cr_setB g.calm (by have := g.un; omega)) hg2 (g.blt "set" (by decide +kernel)) (by decide +kernel) (pa_cons ha pa_nil h1) (by decide +kernel) (by decide +kernel) h1 rfl
  refine PE.imp (pe_callB cr_lenSet hg (g.blt "len" (by decide +kernel)) (by decide +kernel) (pa_cons pset pa_nil rfl) (by decide +kernel) (by decide +kernel) rfl rfl) ?_
  rintro σ H Q ⟨B0, ρ, st, d, st', S, h, q⟩
  simp only [evE, Option.bind_eq_some_iff, Option.map_eq_some_iff, Prod.mk.injEq] at h
  obtain ⟨⟨da, s1⟩, h1, d', h3, rfl, rfl⟩ := h
  refine ⟨B0, ρ, st, da, s1, S, h1, fun v1 H1 p1 => ?_⟩
  have fin : ∀ (n : Nat) (a' : Addr) (o : HO), d' = .int n → H1 a' = none → Q (.int n) (upd H1 a' o) := fun n a' o e hn => by
    subst e
    have k := same_new (o := o) hn
    exact q _ _ (.mk' (p1.kd.trans (.of_same k)) (p1.dw.same k) rfl (.int _) (fun z => by cases z))
  unfold lsetD at h3
  split at h3
  · rename_i xs z
    have z : da = .list xs := z
    subst z
    obtain ⟨l, vs, rfl, e, r⟩ := p1.repT.list
    split at h3
    · rename_i ns h4
      obtain ⟨h6, e6⟩ := ite_some h3
      rw [ints_D h4] at r
      rw [reps_intL r] at e
      exact .inl (.inr ⟨l, ns, rfl, .inl (SqL.of e), h6, fun a' c hn le => ⟨a', c, rfl, .inl ⟨ns, upd_same, fin _ _ _ e6.symm hn⟩⟩⟩)
    · obtain ⟨zs, h4, h5⟩ := Option.bind_eq_some_iff.mp h3
      obtain ⟨h6, e6⟩ := ite_some h5
      rw [strs_of h4] at r
      rw [reps_strL r] at e
      exact .inr ⟨l, zs, rfl, SqL.of e, h6, fun a' c hn le => ⟨a', c, rfl, .inr ⟨zs, upd_same, fin _ _ _ e6.symm hn⟩⟩⟩
  · rename_i xs z
    have z : da = .tuple xs := z
    subst z
    obtain ⟨l, vs, rfl, e, r⟩ := p1.repT.tuple
    obtain ⟨ns, h4, h5⟩ := Option.bind_eq_some_iff.mp h3
    obtain ⟨h6, e6⟩ := ite_some h5
    rw [ints_D h4] at r
    rw [reps_intL r] at e
    exact .inl (.inr ⟨l, ns, rfl, .inr e, h6, fun a' c hn le => ⟨a', c, rfl, .inl ⟨ns, upd_same, fin _ _ _ e6.symm hn⟩⟩⟩)
  · cases h3
theorem c_sset {dr : Dr} {a : Ex} {t : PTr} {p p2 p3 pos : Pos} (g : Good N G Γ X.env.scope wr X) (hg : Gl X "sorted") (hg2 : Gl X "set") (ha : PE X (toE N G a t) (tE X.K dr Γ a)) :
    PE X (.Call (.Name "sorted" p) [.Call (.Name "set" p3) [toE N G a t] [] p2] [] pos) (tE X.K dr Γ (.sset a)) := by
  have h1 := star_toE N G a t [] X.env
  have pset : PE X (.Call (.Name "set" p3) [toE N G a t] [] p2) (tCB (rSetB X.K X.prog X.w) (tCons (tE X.K dr Γ a) tNil)) := pe_callTy (cr_setB g.calm (by have := g.un; omega)) hg2 (g.blt "set" (by decide +kernel)) (by decide +kernel) (pa_cons ha pa_nil h1) (by decide +kernel) (by decide +kernel) h1 rfl
  refine PE.imp (pe_callB (cr_sortB g.calm) hg (g.blt "sorted" (by decide +kernel)) (by decide +kernel) (pa_cons pset pa_nil rfl) (by decide +kernel) (by decide +kernel) rfl rfl) ?_
  rintro σ H Q ⟨B0, ρ, st, d, st', S, h, q⟩
  simp only [evE, Option.bind_eq_some_iff, Option.map_eq_some_iff, Prod.mk.injEq] at h
  obtain ⟨⟨da, s1⟩, h1, d', h3, rfl, rfl⟩ := h
  refine ⟨B0, ρ, st, da, s1, S, h1, fun v1 H1 p1 => ?_⟩
  have go : ∀ xs, (da = .list xs ∨ da = .tuple xs) → ssetQ xs = some d' → rSetB X.K X.prog X.w [v1] H1 (fun y H2 => rSortB X.K X.prog X.w [y] H2 Q) := fun xs hx h3 => by
    refine rSetA.up (Q := fun y H2 => rSortA X.K X.prog X.w [y] H2 Q) ?_ fun y H2 z => .inl z
    unfold ssetQ at h3
    split at h3
    · rename_i ts h4
      obtain ⟨h6, e6⟩ := ite_some h3
      cases e6
      exact (sset_core (S.post p1).nb hx p1.repT h4 h6.1 (List.all_eq_true.mp h6.2) fun v H' k r f => q v H' (.mk' (p1.kd.trans (.of_same k)) (p1.dw.same k) rfl r fun _ => f.low p1.kd p1.dw)).up fun y H2 z => .inl z
    · obtain ⟨ns, h4, h5⟩ := Option.bind_eq_some_iff.mp h3
      obtain ⟨h6, e6⟩ := ite_some h5
      cases e6
      rw [ints_D h4] at hx
      exact sset_coreI (S.post p1).nb hx p1.repT h6 fun v H' k r f => q v H' (.mk' (p1.kd.trans (.of_same k)) (p1.dw.same k) rfl r fun _ => f.low p1.kd p1.dw)
  unfold ssetD at h3
  split at h3
  · rename_i xs z
    unfold ssetS at h3
    split at h3
    · rename_i d2 h4
      cases h3
      exact go xs (.inl z) h4
    · obtain ⟨zs, h4, h5⟩ := Option.bind_eq_some_iff.mp h3
      obtain ⟨h6, e6⟩ := ite_some h5
      cases e6
      have z2 : da = .list (zs.map .str) := by
        rw [← strs_of h4]
        exact z
      subst z2
      exact sset_coreS (S.post p1).nb p1.repT h6 fun v H' k r f => q v H' (.mk' (p1.kd.trans (.of_same k)) (p1.dw.same k) rfl r fun _ => f.low p1.kd p1.dw)
  · rename_i xs z
    exact go xs (.inr z) h3
  · cases h3
theorem c_mnd {dr : Dr} {i : Int} {a : Ex} {t : PTr} {p p2 p3 pos : Pos} {k : Nat} (g : Good N G Γ X.env.scope wr X) (hg : Gl X "min") (ha : PE X (toE N G a t) (tE X.K dr Γ a)) :
    PE X (.Call (.Name "min" p) [toE N G a t] [⟨some "default", .Constant (.int i) k p3, p2⟩] pos) (tE X.K dr Γ (.mnd i a)) := by
  have h1 := star_toE N G a t [] X.env
  have pa : PA X [toE N G a t] (tCons (tE X.K dr Γ a) tNil) := pa_cons ha pa_nil h1
  refine PE.imp (pe_callBK (call_mnd (dr := dr) (i := i) g.calm g.un) hg (g.blt "min" (by decide +kernel)) (by decide +kernel) pa (pk_cons pe_int pk_nil) (by decide +kernel) (by decide +kernel) (by rw [h1]; rfl) (by rw [h1]; rfl) rfl rfl rfl) ?_
  rintro σ H Q ⟨B0, ρ, st, d, st', S, h, q⟩
  simp only [evE, Option.bind_eq_some_iff, Option.map_eq_some_iff, Prod.mk.injEq] at h
  obtain ⟨⟨da, s1⟩, h1, d', h3, rfl, rfl⟩ := h
  refine ⟨B0, ρ, st, da, s1, S, h1, fun v1 H1 p1 => ⟨rfl, BB B0 ρ σ, v1, da, d', rfl, (S.post p1).nb, p1.repT, h3, fun v H' k r f => ?_⟩⟩
  exact q v H' (.mk' (p1.kd.trans (.of_same k)) (p1.dw.same k) rfl r (fun z => by cases z))
section
variable {K : PySem.W.Frag} {dr : Dr} {B0 B1 : Addr → Prop} {H H1 H' : Hp} {ρ ρ' ρ1 ρ2 : List Slot} {σ σ' σ1 σ2 : L2.St} {st st' : DS} {d : D} {v : V}
/-- a name's own dict is locked for ever, and free -/
theorem Sim.shareD (S : Sim K dr B0 H ρ σ st) {i : Nat} {es : List (D × D)} (hi : ρ[i]? = some (.ow (.dict es))) :
    ∃ a u, σ[i]? = some (some (.ref a)) ∧ H a = some u ∧ (∃ B, ConD K dr H B u es) ∧ ¬ B0 a ∧ ∀ od, Sim K dr B0 (upd H a (.frz od u)) (ρ.set i (.sh (.dict es))) σ st ∧ Kp (fun b => b = a) H (upd H a (.frz od u)) := by
  have il := (List.getElem?_eq_some_iff.mp hi).1
  obtain ⟨a, ea, na, u, eu, cu⟩ := S.ow i _ hi
  refine ⟨a, u, ea, eu, ⟨_, cu⟩, na, fun od => ?_⟩
  have nda : a ≠ dr.a := fun z => na (by rw [z]; exact S.bdr)
  have ndp : a ≠ dr.p := fun z => na (by rw [z]; exact S.bsp)
  have nt : ∀ xs, u ≠ .tup xs := by cases cu <;> (intro _ z; cases z)
  have nf : ∀ o v, u ≠ .frz o v := by cases cu <;> (intro _ _ z; cases z)
  have k : Kp (fun b => b = a) H (upd H a (.frz od u)) := ⟨fun b o n e => by rw [upd_ne n]; exact e, fun b xs e => by
      rw [upd_ne]
      · exact e
      · intro z; subst z; rw [eu] at e; exact nt _ (Option.some.inj e), fun b o v e => by
      rw [upd_ne]
      · exact e
      · intro z; subst z; rw [eu] at e; exact nf _ _ (Option.some.inj e)⟩
  have low : ∀ b, Ows (ρ.set i (.sh (.dict es))) σ b → Ows ρ σ b ∧ b ≠ a := fun b ⟨j, f, q1, q2⟩ => by
    rcases set_get q1 with ⟨rfl, _, z⟩ | ⟨ne, q1⟩
    · cases z
    · exact ⟨⟨j, f, q1, q2⟩, fun e => ne (by subst e; exact S.sep j i f _ b q1 hi q2 ea)⟩
  have sub : ∀ b, BB B0 (ρ.set i (.sh (.dict es))) σ b → BB B0 ρ σ b ∨ upd H a (.frz od u) b = none := fun b z => z.elim (fun z => .inl (.inl z)) fun z => .inl (.inr (low b z).1)
  have wB : ∀ b, b = a → BB B0 ρ σ b := fun b z => by subst z; exact .inr ⟨i, _, hi, ea⟩
  refine ⟨⟨⟨by rw [upd_ne (Ne.symm nda)]; exact S.drw.1, by rw [upd_ne (Ne.symm ndp)]; exact S.drw.2.1, S.drw.2.2⟩, S.bdr, S.bsp, fun b z => ?_, fun j f h => ?_, fun j f h => ?_, fun j f h => ?_, fun j k f g c q1 q2 q3 q4 => ?_, by simp [S.len]⟩, k⟩
  · by_cases hb : b = a
    · subst hb; rw [upd_same]; exact fun y => by cases y
    · rw [upd_ne hb]; exact S.alo b z
  · rcases set_get h with ⟨rfl, _, z⟩ | ⟨ne, h⟩
    · cases z
      exact ⟨.ref a, ea, ((cu.kp k wB).anti sub).rep upd_same⟩
    · obtain ⟨w, e1, r1⟩ := S.sh j f h
      exact ⟨w, e1, Rep.anti sub _ _ (Rep.kp k wB _ _ r1)⟩
  · rcases set_get h with ⟨rfl, _, z⟩ | ⟨ne, h⟩
    · cases z
    · obtain ⟨c, e1, n, o⟩ := S.ow j f h
      have hca : c ≠ a := fun z => ne (by subst z; exact S.sep j i f _ c h hi e1 ea)
      exact ⟨c, e1, n, (o.kp k wB hca).anti sub⟩
  · rcases set_get h with ⟨rfl, _, z⟩ | ⟨ne, h⟩
    · cases z
    · obtain ⟨c, e1, n, nd, o⟩ := S.le j f h
      have hca : c ≠ a := fun z => na (by subst z; exact n)
      exact ⟨c, e1, n, nd, (o.kp k wB hca).anti sub⟩
  · rcases set_get q1 with ⟨rfl, _, z⟩ | ⟨_, q1⟩
    · cases z
    rcases set_get q2 with ⟨rfl, _, z⟩ | ⟨_, q2⟩
    · cases z
    exact S.sep j k f g c q1 q2 q3 q4
end
mutual
/-- what was locked is given back -/
theorem Rep.thaw {K : PySem.W.Frag} {dr : Dr} {H : Hp} {B B' : Addr → Prop} {c : Addr} {u : HO} {od : Obj} (hf : H c = some (.frz od u)) (nt : ∀ xs, u ≠ .tup xs) (hB : ∀ b, B' b → B b ∨ b = c) : ∀ (n : Nat) (d : D) (v : V), okN n d = true → Rep K dr H B v d → Rep K dr (upd H c u) B' v d
  | _, _, _, _, .non => .non
  | _, _, _, _, .bl b => .bl b
  | _, _, _, _, .int i => .int i
  | _, _, _, _, .str x => .str x
  | n + 1, .list ds, _, h, .lst (a := a) s nb r => by
    have ne : a ≠ c := fun z => by rw [z, hf] at s; cases s
    exact .lst (by rw [upd_ne ne]; exact s) (fun z => (hB _ z).elim nb ne) (Reps.thaw hf nt hB n ds _ h r)
  | n + 1, .tuple ds, _, h, .tup (a := a) s r => by
    have ne : a ≠ c := fun z => by
      unfold TupAt at s
      split at s
      · obtain ⟨o, _, s⟩ := s
        rw [z, hf] at s
        cases s
        exact nt _ rfl
      · rw [z, hf] at s; cases s
    refine .tup ?_ (Reps.thaw hf nt hB n ds _ h r)
    unfold TupAt at s ⊢
    split
    · rw [if_pos (by assumption)] at s
      obtain ⟨o, e, s⟩ := s
      exact ⟨o, e, by rw [upd_ne ne]; exact s⟩
    · rw [if_neg (by assumption)] at s
      rw [upd_ne ne]; exact s
  | 0, .list _, _, h, _ => by cases h
  | 0, .tuple _, _, h, _ => by cases h
  | n, .dict _, _, h, _ => by cases n <;> cases h
theorem Reps.thaw {K : PySem.W.Frag} {dr : Dr} {H : Hp} {B B' : Addr → Prop} {c : Addr} {u : HO} {od : Obj} (hf : H c = some (.frz od u)) (nt : ∀ xs, u ≠ .tup xs) (hB : ∀ b, B' b → B b ∨ b = c) : ∀ (n : Nat) (ds : List D) (vs : List V), ds.all (okN n) = true → Reps K dr H B vs ds → Reps K dr (upd H c u) B' vs ds
  | _, _, _, _, .nil => .nil
  | n, d :: ds, _, h, .cons r rs => by
    simp only [List.all_cons, Bool.and_eq_true] at h
    exact .cons (Rep.thaw hf nt hB n d _ h.1 r) (Reps.thaw hf nt hB n ds _ h.2 rs)
end
theorem c_lk {dr : Dr} {X : Cx} {Γ : Gam} {ea : Expr} {a e' : Ex} {i : Nat} (hF : isFr e' = isFr a) (hO : ∀ ρ, isOw ρ e' = false) (hO2 : ∀ ρ, isOw ρ a = false)
    (hE : ∀ ρ st, evE Γ e' ρ st = match ρ[i]? with
      | some (.ow (.dict ds)) => (evE Γ a (ρ.set i (.sh (.dict ds))) st).bind fun x => if okN deep x.1 = true then some x else none
      | _ => none) (pe : PE X ea (tE X.K dr Γ a)) : PE X ea (tE X.K dr Γ e') := by
  have pl := pe_lock pe
  refine ⟨fun pins s σ H Q I h => ?_⟩
  obtain ⟨B0, ρ, st, d, st', S, h, q⟩ := h
  rw [hE] at h
  split at h
  · rename_i ds hs
    have how := hO2 (ρ.set i (.sh (.dict ds)))
    obtain ⟨⟨d1, s1⟩, h1, h2⟩ := Option.bind_eq_some_iff.mp h
    obtain ⟨ok, e⟩ := ite_some h2
    cases e
    have ok : okN deep d = true := ok
    obtain ⟨c, u, ec, eu, ⟨B, cu⟩, na, sh⟩ := S.shareD hs
    have nt : ∀ xs, u ≠ .tup xs := by cases cu <;> (intro _ z; cases z)
    have nf : ∀ o v, u ≠ .frz o v := by cases cu <;> (intro _ _ z; cases z)
    have nda : dr.a ≠ c := fun z => na (by rw [← z]; exact S.bdr)
    have ndp : dr.p ≠ c := fun z => na (by rw [← z]; exact S.bsp)
    refine pl.run pins s σ H Q I ⟨c, u, eu, by cases cu <;> trivial, fun od => ?_⟩
    obtain ⟨S', k⟩ := sh od
    refine ⟨B0, _, st, d, st', S', h1, fun v H' p => ?_⟩
    have hf : H' c = some (.frz od u) := p.kd.frz _ _ _ upd_same
    refine ⟨hf, q v _ ?_⟩
    have hB : ∀ b, BB B0 ρ σ b → BB B0 (ρ.set i (.sh (.dict ds))) σ b ∨ b = c := fun b z => by
      rcases z with z | ⟨j, f, q1, q2⟩
      · exact .inl (.inl z)
      · by_cases hj : j = i
        · rw [hj] at q2
          rw [ec] at q2
          cases q2
          exact .inr rfl
        · exact .inl (.inr ⟨j, f, by rw [List.getElem?_set_ne (Ne.symm hj)]; exact q1, q2⟩)
    have kd : KD dr H (upd H' c u) := ⟨fun b o n e => by
        by_cases hb : b = c
        · rw [hb, eu] at e
          cases e
          rw [hb, upd_same]
        · rw [upd_ne hb]; exact p.kd.keep b o n (k.keep b o hb e), fun b xs e => by
        have hb : b ≠ c := fun z => by rw [z, eu] at e; cases e; exact nt _ rfl
        rw [upd_ne hb]; exact p.kd.tup b xs (k.tup b xs e), fun b o x e => by
        have hb : b ≠ c := fun z => by rw [z, eu] at e; cases e; exact nf _ _ rfl
        rw [upd_ne hb]; exact p.kd.frz b o x (k.frz b o x e)⟩
    refine .mk' kd ⟨by rw [upd_ne nda]; exact p.dw.1, by rw [upd_ne ndp]; exact p.dw.2.1, p.dw.2.2⟩ (hO ρ) (Rep.thaw hf nt hB _ _ _ ok (p.rep how)) fun z => ?_
    intro es e
    subst e
    obtain ⟨b, vs, e1, n, e2, r⟩ := p.fr (hF ▸ z) es rfl
    have hbc : b ≠ c := fun z => by rw [z, hf] at e2; cases e2
    have hbn : H b = none := by rw [upd_ne hbc] at n; exact n
    exact ⟨b, vs, e1, hbn, by rw [upd_ne hbc]; exact e2, Reps.thaw hf nt (fun b z => z.elim (fun z => (hB b z).imp .inl id) fun z => .inl (.inr z)) _ _ _ ok r⟩
  · cases h
theorem c_si {dr : Dr} {a : Ex} {t : PTr} {p p2 p3 pos : Pos} (g : Good N G Γ X.env.scope wr X) (hg : Gl X "sorted") (ha : PE X (toE N G a t) (tE X.K dr Γ a)) (hbase : attributeBase (toE N G a t) "items" X.env (eval (toE N G a t) X.env) = eval (toE N G a t) X.env) (hline : (p3.endLine == p2.line) = true) :
    PE X (.Call (.Name "sorted" p) [.Call (.Attribute (toE N G a t) "items" p3) [] [] p2] [] pos) (tE X.K dr Γ (.si a)) := by
  refine PE.imp (pe_si (dr := dr) g.calm g.un ha hg (g.blt "sorted" (by decide +kernel)) hbase hline) ?_
  rintro σ H Q ⟨B0, ρ, st, d, st', S, h, q⟩
  simp only [evE] at h
  split at h
  · cases h
  rename_i ho
  have ho : isOw ρ a = false := by simpa using ho
  simp only [Option.bind_eq_some_iff, Option.map_eq_some_iff, Prod.mk.injEq] at h
  obtain ⟨⟨da, s1⟩, h1, ds, h2, d', h3, rfl, rfl⟩ := h
  refine ⟨B0, ρ, st, da, s1, S, h1, fun v1 H1 p1 => ?_⟩
  unfold itsD at h2
  split at h2
  · rename_i es z
    have z : da = .dict ((.bool false, .none) :: es) := z
    subst z
    cases h2
    rcases (p1.rep ho).dict with ⟨_, z⟩ | ⟨c, o, u, rfl, e1, rs⟩
    · cases z
    cases rs with
    | k r => exact ⟨BB B0 ρ σ, c, o, _, _, _, rfl, (S.post p1).nb, e1, r, h3, fun v H' k r f => q v H' (.mk' (p1.kd.trans (.of_same k)) (p1.dw.same k) rfl r fun _ => f.low p1.kd p1.dw)⟩
  · cases h2
theorem c_gcd {dr : Dr} {a b : Ex} {t t' : PTr} {p pos : Pos} (hg : Gl X "gcd") (hm : X.mg "gcd" = some (.builtin "math.gcd")) (ha : PE X (toE N G a t) (tE X.K dr Γ a)) (hb : PE X (toE N G b t') (tE X.K dr Γ b)) :
    PE X (.Call (.Name "gcd" p) [toE N G a t, toE N G b t'] [] pos) (tE X.K dr Γ (.gcd a b)) := by
  have h2 := star_toE N G b t' [] X.env
  have h1 := star_toE N G a t [toE N G b t'] X.env
  refine PE.imp (pe_callBfun cr_gcd hg hm (pa_cons ha (pa_cons hb pa_nil h2) h1) (by decide +kernel) h1 (by rw [h2]; rfl)) ?_
  rintro σ H Q ⟨B0, ρ, st, d, st', S, h, q⟩
  simp only [evE, Option.bind_eq_some_iff, Option.map_eq_some_iff, Prod.mk.injEq] at h
  obtain ⟨⟨da, s1⟩, h1, ⟨db, s2⟩, h2, d', h3, rfl, rfl⟩ := h
  refine ⟨B0, ρ, st, da, s1, S, h1, fun v1 H1 p1 => ?_⟩
  have S1 := S.post p1
  refine ⟨B0, ρ, s1, db, s2, S1, h2, fun v2 H2 p2 => ?_⟩
  unfold gcdD at h3
  split at h3
  · cases h3
    rename_i i j z1 z2
    have r1 : RepT X.K dr H1 (BB B0 ρ σ) v1 (.int i) := by rw [← z1]; exact p1.repT
    have r2 : RepT X.K dr H2 (BB B0 ρ σ) v2 (.int j) := by rw [← z2]; exact p2.repT
    have e1 := r1.int
    have e2 := r2.int
    subst e1 e2
    exact ⟨_, _, rfl, q _ H2 (.mk' (p1.kd.trans p2.kd) p2.dw rfl (.int _) (fun z => by cases z))⟩
  · cases h3
theorem c_lcm {dr : Dr} {a b : Ex} {t t' : PTr} {p pos : Pos} (hg : Gl X "lcm") (hm : X.mg "lcm" = some (.builtin "math.lcm")) (ha : PE X (toE N G a t) (tE X.K dr Γ a)) (hb : PE X (toE N G b t') (tE X.K dr Γ b)) :
    PE X (.Call (.Name "lcm" p) [toE N G a t, toE N G b t'] [] pos) (tE X.K dr Γ (.lcm a b)) := by
  have h2 := star_toE N G b t' [] X.env
  have h1 := star_toE N G a t [toE N G b t'] X.env
  refine PE.imp (pe_callBfun cr_lcm hg hm (pa_cons ha (pa_cons hb pa_nil h2) h1) (by decide +kernel) h1 (by rw [h2]; rfl)) ?_
  rintro σ H Q ⟨B0, ρ, st, d, st', S, h, q⟩
  simp only [evE, Option.bind_eq_some_iff, Option.map_eq_some_iff, Prod.mk.injEq] at h
  obtain ⟨⟨da, s1⟩, h1, ⟨db, s2⟩, h2, d', h3, rfl, rfl⟩ := h
  refine ⟨B0, ρ, st, da, s1, S, h1, fun v1 H1 p1 => ?_⟩
  have S1 := S.post p1
  refine ⟨B0, ρ, s1, db, s2, S1, h2, fun v2 H2 p2 => ?_⟩
  unfold lcmD at h3
  split at h3
  · rename_i i j z1 z2
    obtain ⟨hs, e3⟩ := ite_some h3
    cases e3
    rw [Bool.and_eq_true] at hs
    have r1 : RepT X.K dr H1 (BB B0 ρ σ) v1 (.int i) := by rw [← z1]; exact p1.repT
    have r2 : RepT X.K dr H2 (BB B0 ρ σ) v2 (.int j) := by rw [← z2]; exact p2.repT
    have e1 := r1.int
    have e2 := r2.int
    subst e1 e2
    exact ⟨_, _, rfl, of_decide_eq_true hs.1, of_decide_eq_true hs.2, q _ H2 (.mk' (p1.kd.trans p2.kd) p2.dw rfl (.int _) (fun z => by cases z))⟩
  · cases h3
theorem c_rvs {dr : Dr} {a : Ex} {t : PTr} {k : Nat} {p1 p2 p3 pos : Pos} (ha : PE X (toE N G a t) (tE X.K dr Γ a)) :
    PE X (.Subscript (toE N G a t) (.Slice none none (some (.UnaryOp .USub (.Constant (.int 1) k p1) p2)) p3) pos) (tE X.K dr Γ (.rvs a)) := by
  refine PE.imp (pe_rvs ha) ?_
  rintro σ H Q ⟨B0, ρ, st, d, st', S, h, q⟩
  simp only [evE, Option.bind_eq_some_iff, Option.map_eq_some_iff, Prod.mk.injEq] at h
  obtain ⟨⟨da, s1⟩, h1, d', h3, rfl, rfl⟩ := h
  refine ⟨B0, ρ, st, da, s1, S, h1, fun v1 H1 p1 => ?_⟩
  have fin : Fin1 X.K dr H1 (BB B0 ρ σ) d' Q := fun v H' k r f => q v H' (.mk' (p1.kd.trans (.of_same k)) (p1.dw.same k) rfl r fun _ => f.low p1.kd p1.dw)
  unfold rvsD at h3
  split at h3
  · cases h3
    rename_i xs z
    have z : da = .list xs := z
    subst z
    obtain ⟨c, vs, rfl, e, r⟩ := p1.repT.list
    exact ⟨c, vs, rfl, .inl ⟨SqL.of e, fun p hp => fin.newL (S.post p1).nb hp (Reps.rev r)⟩⟩
  · cases h3
    rename_i xs z
    have z : da = .tuple xs := z
    subst z
    obtain ⟨c, vs, rfl, e, r⟩ := p1.repT.tuple
    exact ⟨c, vs, rfl, .inr ⟨e, fin.newT (Reps.rev r)⟩⟩
  · cases h3
theorem c_cnt {dr : Dr} {a b : Ex} {t t' : PTr} {apos cpos : Pos} (un : X.A.units + 200 < cLine) (ha : PE X (toE N G a t) (tE X.K dr Γ a)) (hb : PE X (toE N G b t') (tE X.K dr Γ b)) (hbase : attributeBase (toE N G a t) "count" X.env (eval (toE N G a t) X.env) = eval (toE N G a t) X.env) (hline : (apos.endLine == cpos.line) = true) :
    PE X (.Call (.Attribute (toE N G a t) "count" apos) [toE N G b t'] [] cpos) (tE X.K dr Γ (.cnt a b)) := by
  refine PE.imp (pe_cnt (dr := dr) un ha hb (star_toE N G b t' [] X.env) hbase hline) ?_
  rintro σ H Q ⟨B0, ρ, st, d, st', S, h, q⟩
  simp only [evE, Option.bind_eq_some_iff, Option.map_eq_some_iff, Prod.mk.injEq] at h
  obtain ⟨⟨da, s1⟩, h1, ⟨db, s2⟩, h2, d', h3, rfl, rfl⟩ := h
  refine ⟨B0, ρ, st, da, s1, S, h1, fun v1 H1 p1 => ?_⟩
  have S1 := S.post p1
  have hd : (∃ xs, da = .list xs) ∨ (∃ xs, da = .tuple xs ∧ lockD xs = true) := by
    cases da <;> first | exact .inl ⟨_, rfl⟩ | exact .inr ⟨_, rfl, (ite_some (show (if _ then _ else _) = some d' from h3)).1.1⟩ | (cases h3; done)
  obtain ⟨n, rfl⟩ : ∃ n, d' = .int n := by
    unfold cntD at h3
    split at h3
    · exact ⟨_, (ite_some h3).2.symm⟩
    · exact ⟨_, (ite_some h3).2.symm⟩
    · cases h3
  refine ⟨BB B0 ρ σ, da, p1.repT, hd, B0, ρ, s1, db, s2, S1, h2, fun v2 H2 p2 => ?_⟩
  exact ⟨BB B0 ρ σ, db, n, p1.repT.kd p2.kd S.drB, p2.repT, h3, q _ H2 (.mk' (p1.kd.trans p2.kd) p2.dw rfl (.int _) (fun z => by cases z))⟩
theorem rgOk_of {i j : Int} (h1 : rngOk i = true) (h2 : rngOk j = true) (hl : (j - i).toNat ≤ cap) : RgOk i j := by
  have a1 := of_decide_eq_true (show decide _ = true from h1)
  have a2 := of_decide_eq_true (show decide _ = true from h2)
  have : cap = 2 ^ 24 := rfl
  exact ⟨by omega, by omega, by omega, by omega, by omega⟩
theorem c_lrg1 {dr : Dr} {a : Ex} {t : PTr} {p p3 p2 pos : Pos} (g : Good N G Γ X.env.scope wr X) (hg : Gl X "list") (hg2 : Gl X "range") (ha : PE X (toE N G a t) (tE X.K dr Γ a)) :
    PE X (.Call (.Name "list" p) [.Call (.Name "range" p3) [toE N G a t] [] p2] [] pos) (tE X.K dr Γ (.lrg (.cons a .nil))) := by
  refine PE.imp (pe_listRg g.calm hg (g.blt "list" (by decide +kernel)) (prg_1 hg2 (g.blt "range" (by decide +kernel)) ha (star_toE N G a t [] X.env))) ?_
  rintro σ H Q ⟨B0, ρ, st, d, st', S, h, q⟩
  simp only [evE, evEs, Option.bind_eq_some_iff, Option.map_eq_some_iff, Prod.mk.injEq] at h
  obtain ⟨⟨ds, s1⟩, ⟨⟨da, s1'⟩, h1, ⟨l, s3⟩, h1', rfl, rfl⟩, d', h3, rfl, rfl⟩ := h
  cases h1'
  refine ⟨B0, ρ, st, da, _, S, h1, fun v1 H1 p1 => ?_⟩
  have fin : Fin1 X.K dr H1 (BB B0 ρ σ) d' Q := fun v H' k r f => q v H' (.mk' (p1.kd.trans (.of_same k)) (p1.dw.same k) rfl r fun _ => f.low p1.kd p1.dw)
  obtain ⟨xs, h4, h5⟩ := Option.bind_eq_some_iff.mp (show (rngD [da]).bind _ = some d' from h3)
  obtain ⟨⟨hl, _⟩, e5⟩ := ite_some h5
  cases e5
  unfold rngD at h4
  split at h4
  · rename_i n z
    cases z
    obtain ⟨hn, rfl⟩ := ite_some h4
    obtain rfl := p1.repT.int
    simp only [List.length_map, List.length_range] at hl
    refine ⟨n, rfl, rgOk_of (by decide) hn (by simpa using hl), fun p hp => ?_⟩
    have r := reps_ints (X := X) (dr := dr) (H := H1) (B := BB B0 ρ σ) (fun i : Nat => (0 : Int) + (i : Int)) (List.range n.toNat)
    have e1 : rgV 0 n = (List.range n.toNat).map fun i : Nat => V.int (0 + (i : Int)) := by unfold rgV; rw [Int.sub_zero]
    have e2 : ((List.range n.toNat).map fun i : Nat => PyData.int (i : Int)) = (List.range n.toNat).map fun i : Nat => .int (0 + (i : Int)) := by simp
    rw [e1]
    rw [e2] at fin
    exact fin.newL (S.post p1).nb hp r
  · rename_i z; cases z
  · rename_i z; cases z
  · cases h4
theorem c_lrg2 {dr : Dr} {a b : Ex} {t t' : PTr} {p p3 p2 pos : Pos} (g : Good N G Γ X.env.scope wr X) (hg : Gl X "list") (hg2 : Gl X "range") (ha : PE X (toE N G a t) (tE X.K dr Γ a)) (hb : PE X (toE N G b t') (tE X.K dr Γ b)) :
    PE X (.Call (.Name "list" p) [.Call (.Name "range" p3) [toE N G a t, toE N G b t'] [] p2] [] pos) (tE X.K dr Γ (.lrg (.cons a (.cons b .nil)))) := by
  have h2 := star_toE N G b t' [] X.env
  refine PE.imp (pe_listRg g.calm hg (g.blt "list" (by decide +kernel)) (prg_2 hg2 (g.blt "range" (by decide +kernel)) ha hb (star_toE N G a t _ X.env) h2 (by rw [h2]; rfl))) ?_
  rintro σ H Q ⟨B0, ρ, st, d, st', S, h, q⟩
  simp only [evE, evEs, Option.bind_eq_some_iff, Option.map_eq_some_iff, Prod.mk.injEq] at h
  obtain ⟨⟨ds, s1⟩, ⟨⟨da, s1'⟩, h1, ⟨l, s3⟩, ⟨⟨db, s2'⟩, h1b, ⟨l', s4⟩, h1', rfl, rfl⟩, rfl, rfl⟩, d', h3, rfl, rfl⟩ := h
  cases h1'
  refine ⟨B0, ρ, st, da, _, S, h1, fun v1 H1 p1 => ?_⟩
  have S1 := S.post p1
  obtain ⟨xs, h4, h5⟩ := Option.bind_eq_some_iff.mp (show (rngD [da, db]).bind _ = some d' from h3)
  obtain ⟨⟨hl, _⟩, e5⟩ := ite_some h5
  cases e5
  unfold rngD at h4
  split at h4
  · rename_i z; cases z
  · rename_i i j z
    cases z
    obtain ⟨hn, rfl⟩ := ite_some h4
    simp only [Bool.and_eq_true] at hn
    obtain rfl := p1.repT.int
    refine ⟨B0, ρ, _, .int j, _, S1, h1b, fun v2 H2 p2 => ?_⟩
    obtain rfl := p2.repT.int
    have kk := p1.kd.trans p2.kd
    have fin : Fin1 X.K dr H2 (BB B0 ρ σ) _ Q := fun v H' k r f => q v H' (.mk' (kk.trans (.of_same k)) (p2.dw.same k) rfl r fun _ => f.low kk p2.dw)
    simp only [List.length_map, List.length_range] at hl
    exact ⟨i, j, rfl, rfl, rgOk_of hn.1 hn.2 hl, fun p hp => fin.newL (S1.post p2).nb hp (reps_ints (fun k : Nat => i + (k : Int)) (List.range (j - i).toNat))⟩
  · rename_i z; cases z
  · cases h4
theorem c_var {dr : Dr} {i : Nat} {x : Str} {pos : Pos} (h : PE X (.Name x pos) (tVar i)) : PE X (.Name x pos) (tE X.K dr Γ (.var i)) := by
  refine PE.imp h ?_
  rintro σ H Q ⟨B0, ρ, st, d, st', S, h, q⟩
  simp only [evE, Option.map_eq_some_iff, Prod.mk.injEq] at h
  obtain ⟨d', h, rfl, rfl⟩ := h
  have noF : ∀ {P : Prop}, isFr (.var i) = true → P := fun z => by cases z
  unfold getS at h
  split at h
  · cases h
    rename_i hs
    obtain ⟨v, e1, r⟩ := S.sh _ _ hs
    exact ⟨v, e1, q v H ⟨.refl, S.drw, .inl r, fun _ => r, noF⟩⟩
  · cases h
    rename_i hs
    obtain ⟨a, e1, n, o⟩ := S.ow _ _ hs
    cases d' <;> first | exact o.elim | skip
    · obtain ⟨vs, e2, r⟩ := o
      exact ⟨_, e1, q _ H ⟨.refl, S.drw, .inr (.inl ⟨a, vs, _, rfl, rfl, ⟨e2, fun z => n (by rw [z]; exact S.bdr), fun z => n (by rw [z]; exact S.bsp)⟩, r⟩), fun z => by simp [isOw, hs] at z, noF⟩⟩
    · obtain ⟨vs, e2, r⟩ := o
      exact ⟨_, e1, q _ H ⟨.refl, S.drw, .inr (.inr ⟨a, vs, _, rfl, rfl, ⟨e2, fun z => n (by rw [z]; exact S.bdr), fun z => n (by rw [z]; exact S.bsp)⟩, r⟩), fun z => by simp [isOw, hs] at z, noF⟩⟩
  · cases h
    rename_i hs
    obtain ⟨a, e1, n, nd, o⟩ := S.le _ _ hs
    cases d' <;> first | exact o.elim | skip
    · obtain ⟨vs, e2, r⟩ := o
      exact ⟨_, e1, q _ H ⟨.refl, S.drw, .inr (.inl ⟨a, vs, _, rfl, rfl, ⟨e2, nd⟩, r⟩), fun z => by simp [isOw, hs] at z, noF⟩⟩
    · obtain ⟨vs, e2, r⟩ := o
      exact ⟨_, e1, q _ H ⟨.refl, S.drw, .inr (.inr ⟨a, vs, _, rfl, rfl, ⟨e2, nd⟩, r⟩), fun z => by simp [isOw, hs] at z, noF⟩⟩
  · cases h
end
def isLc : Ex → Bool
  | .lc _ _ _ _ => true
  | _ => false
/-- an expression runs: as a value, as a test, stored in a name at once -/
structure SE (X : Cx) (dr : Dr) (Γ : Gam) (N : List Str) (G : Nm) (e : Ex) (t : PTr) : Prop where
  pe : PE X (toE N G e t) (tE X.K dr Γ e)
  pt : tst e = true → PT X (toE N G e t) (tT X.K dr Γ e)
  mkd : isMk e = true → PE X (toE N G e t) (tMk X.K dr Γ e)
  sl : isLc e = true → ∃ r : TE, (∀ (i : Nat) (y : Str) (py spos : Pos), X.N[i]? = some y → X.env.scope.names.lookup y = some .local → swapsWith (toE N G e t) (some (.Name y py)) spos.line X.env = pure true →
      PS X (.Assign [.Name y py] (toE N G e t) spos) (tAsg r (gName i))) ∧ ∀ σ H Q, tE X.K dr Γ e σ H Q → r σ H Q
theorem SE.of {X : Cx} {dr : Dr} {Γ : Gam} {N : List Str} {G : Nm} {e : Ex} {t : PTr} (h : PE X (toE N G e t) (tE X.K dr Γ e) ∧ (tst e = true → PT X (toE N G e t) (tT X.K dr Γ e))) (n : isLc e = false) (m : isMk e = false := by rfl) : SE X dr Γ N G e t :=
  ⟨h.1, h.2, (fun z => by rw [m] at z; cases z), fun z => by rw [n] at z; cases z⟩
section
variable {N : List Str} {G : Nm} {Γ : Gam} (dr : Dr)
mutual
theorem sE : ∀ (e : Ex) (t : PTr) (sc : Scope) (wr : Str → Bool) (X : Cx), Good N G Γ sc wr X → wfE N G e t sc = true → SE X dr Γ N G e t
  | .non, t, sc, wr, X, g, h => by
    have p := c_cst (dr := dr) (Γ := Γ) (e := .non) (pe_non (X := X) (j := t.k) (pos := t.p 0)) .non (fun _ => rfl) rfl fun _ _ => rfl
    exact .of ⟨p, fun _ => c_tru p (tru_form N G .non t X.env trivial)⟩ rfl
  | .bl b, t, sc, wr, X, g, h => by
    have p := c_cst (dr := dr) (Γ := Γ) (e := .bl b) (pe_bl (X := X) (b := b) (j := t.k) (pos := t.p 0)) (.bl b) (fun _ => rfl) rfl fun _ _ => rfl
    exact .of ⟨p, fun _ => c_tru p (tru_form N G (.bl b) t X.env trivial)⟩ rfl
  | .int i, t, sc, wr, X, g, h => by
    have p := c_cst (dr := dr) (Γ := Γ) (e := .int i) (pe_int (X := X) (i := i) (j := t.k) (pos := t.p 0)) (.int i) (fun _ => rfl) rfl fun _ _ => rfl
    exact .of ⟨p, fun _ => c_tru p (tru_form N G (.int i) t X.env trivial)⟩ rfl
  | .str x, t, sc, wr, X, g, h => by
    have p := c_cst (dr := dr) (Γ := Γ) (e := .str x) (pe_str (X := X) (x := x) (j := t.k) (pos := t.p 0)) (.str x) (fun _ => rfl) rfl fun _ _ => rfl
    exact .of ⟨p, fun _ => c_tru p (tru_form N G (.str x) t X.env trivial)⟩ rfl
  | .var i, t, sc, wr, X, g, h => by
    simp only [wfE, Bool.and_eq_true, decide_eq_true_eq] at h
    have n := nameB_of h.2
    have p := c_var (dr := dr) (Γ := Γ) (pe_var (X := X) (pos := t.p 0) (names_get g h.1.1) (by rw [g.scp]; exact vis_of h.1.2) n.1 n.2)
    exact .of ⟨p, fun _ => c_tru p (tru_form N G (.var i) t X.env trivial)⟩ rfl
  | .bin op a b, t, sc, wr, X, g, h => by
    simp only [wfE, Bool.and_eq_true] at h
    have p := c_bin (op := op) (pos := t.p 0) (sE a (t.s 0) sc wr X g h.1).pe (sE b (t.s 1) sc wr X g h.2).pe
    exact .of ⟨p, fun _ => c_tru p (tru_form N G (.bin op a b) t X.env trivial)⟩ rfl
  | .neg a, t, sc, wr, X, g, h => by
    simp only [wfE] at h
    have p := c_neg (pos := t.p 0) (sE a (t.s 0) sc wr X g h).pe
    exact .of ⟨p, fun _ => c_tru p (tru_form N G (.neg a) t X.env trivial)⟩ rfl
  | .nt a, t, sc, wr, X, g, h => by
    simp only [wfE, Bool.and_eq_true] at h
    obtain ⟨pa, ta, _⟩ := sE a (t.s 0) sc wr X g h.1
    have p := c_nt (pos := t.p 0) pa (ta h.2)
    exact .of ⟨p.1, fun _ => p.2⟩ rfl
  | .cmp op a b, t, sc, wr, X, g, h => by
    simp only [wfE, Bool.and_eq_true] at h
    have p := c_cmp (op := op) (pos := t.p 0) g.un (behind_toE N G op b (t.s 1)) (sE a (t.s 0) sc wr X g h.1).pe (sE b (t.s 1) sc wr X g h.2).pe
    exact .of ⟨p.1, fun _ => p.2⟩ rfl
  | .isN y a, t, sc, wr, X, g, h => by
    simp only [wfE] at h
    have p := c_isN (yes := y) (k := t.k) (pos' := t.p 1) (pos := t.p 0) (sE a (t.s 0) sc wr X g h).pe
    exact .of ⟨p.1, fun _ => p.2⟩ rfl
  | .isB y c a, t, sc, wr, X, g, h => by
    simp only [wfE] at h
    have p := c_isB (yes := y) (c := c) (k := t.k) (pos' := t.p 1) (pos := t.p 0) (sE a (t.s 0) sc wr X g h).pe
    exact .of ⟨p.1, fun _ => p.2⟩ rfl
  | .chn o1 o2 a b c, t, sc, wr, X, g, h => by
    simp only [wfE, Bool.and_eq_true] at h
    have p := c_chn (o1 := o1) (o2 := o2) (pos := t.p 0) g.un (behind_toE N G o2 c (t.s 2)) (sE a (t.s 0) sc wr X g h.1.1).pe (sE b (t.s 1) sc wr X g h.1.2).pe (sE c (t.s 2) sc wr X g h.2).pe
    exact .of ⟨p.1, fun _ => p.2⟩ rfl
  | .bop an es, t, sc, wr, X, g, h => by
    simp only [wfE, Bool.and_eq_true] at h
    obtain ⟨p1, p2⟩ := sB an es t.ts sc wr X g h.1 h.2 (t.p 0)
    refine .of ⟨PE.imp p1 ?_, fun _ => PT.imp p2.pt ?_⟩ rfl
    · rintro σ H Q ⟨B0, ρ, st, d, st', S, h, q⟩
      exact ⟨B0, ρ, st, d, st', S, h, fun v H' k w r => q v H' (.mk' k w rfl r (fun z => by cases z))⟩
    · rintro σ H Q ⟨B0, ρ, st, d, st', b, S, h, q⟩
      exact ⟨B0, ρ, st, d, st', b, S, h, q⟩
  | .ife c a b, t, sc, wr, X, g, h => by
    simp only [wfE, Bool.and_eq_true] at h
    exact .of ⟨c_ife (pos := t.p 0) ((sE c (t.s 0) sc wr X g h.1.1.1).pt h.2) (sE a (t.s 1) sc wr X g h.1.1.2).pe (sE b (t.s 2) sc wr X g h.1.2).pe, fun z => by simp [tst] at z⟩ rfl
  | .tup es, t, sc, wr, X, g, h => by
    simp only [wfE] at h
    have p := c_tup (k := t.k) (pos := t.p 0) (sEs es t.ts sc wr X g h)
    exact .of ⟨p, fun _ => c_tru p (tru_form N G (.tup es) t X.env trivial)⟩ rfl
  | .lst es, t, sc, wr, X, g, h => by
    simp only [wfE] at h
    have p := c_lst (pos := t.p 0) (sEs es t.ts sc wr X g h)
    exact .of ⟨p, fun _ => c_tru p (tru_form N G (.lst es) t X.env trivial)⟩ rfl
  | .ix a b, t, sc, wr, X, g, h => by
    simp only [wfE, Bool.and_eq_true] at h
    have p := c_ix (pos := t.p 0) g.un (sE a (t.s 0) sc wr X g h.1).pe (sE b (t.s 1) sc wr X g h.2).pe (plain_toE N G b (t.s 1))
    exact .of ⟨p, fun _ => c_tru p (tru_form N G (.ix a b) t X.env trivial)⟩ rfl
  | .sl a lo hi, t, sc, wr, X, g, h => by
    simp only [wfE, Bool.and_eq_true] at h
    have p := c_sl (pos := t.p 0) (p2 := t.p 1) (sE a (t.s 0) sc wr X g h.1.1).pe (sO lo (t.s 1) sc wr X g h.1.2) (sO hi (t.s 2) sc wr X g h.2)
    exact .of ⟨p, fun _ => c_tru p (tru_form N G (.sl a lo hi) t X.env trivial)⟩ rfl
  | .lc elt tg it ifs, t, sc, wr, X, g, h => by
    simp only [wfE, Bool.and_eq_true] at h
    obtain ⟨⟨⟨⟨⟨h1, h2⟩, h3⟩, h4⟩, h5⟩, h6⟩ := h
    have hsc := g.scp
    subst hsc
    have ok : BlkOk X.N X.env.scope t.sc (ownOf N tg) := blkOk_by (by rw [g.hN]; exact h1)
    have ho : (ownOf N tg).map (·.2) = tg.slots := by
      unfold ownOf
      rw [List.map_map]
      exact List.map_id'' (fun _ => rfl) _
    have hi := sI it (t.s 2) _ wr X g h2 (toTg N tg (t.s 1)) fun z => by
      cases tg with
      | tp gs => exact ⟨_, _, _, rfl⟩
      | nm i => cases it <;> simp [tgI, isPair] at h3 z
    have hg : ∀ s H C cl fp, PG (X.blk s H t.sc (compEnvC t.sc cl C X.env) fp) (toTg N tg (t.s 1)) (gT X.K dr tg) := fun s H C cl fp => pg_T (g.blk t.sc s H C cl fp).self tg (t.s 1) fun i hi => by
      unfold tgB at h4
      have z := List.all_eq_true.mp h4 i hi
      simp only [Bool.and_eq_true, decide_eq_true_eq] at z
      exact z
    obtain ⟨r, p1, p2, p3⟩ := c_lc (pos := t.p 0) (tgI_pt h3) g.calm (by rw [g.hN]; exact g.nd) ok ho hi hg (fun s H C cl fp => sC ifs (t.s 3).ts _ _ _ (g.blk t.sc s H C cl fp) h6) (fun s H C cl fp => (sE elt (t.s 0) _ _ _ (g.blk t.sc s H C cl fp) h5).pe) (fun x => fold_toIt N G it (t.s 2) X.env x)
    have p := PE.imp p1 p3
    exact ⟨p, fun _ => c_tru p (tru_form N G (.lc elt tg it ifs) t X.env trivial), (fun z => by cases z), fun _ => ⟨r, p2, p3⟩⟩
  | .call j es, t, sc, wr, X, g, h => by
    simp only [wfE, Bool.and_eq_true] at h
    have p := c_call (p := t.p 1) (pos := t.p 0) (j := j) g.self (g.gl h.1.1) (nameB_of h.1.2).1 (sEs es t.ts sc wr X g h.2)
    exact .of ⟨p, fun _ => c_tru p (tru_form N G (.call j es) t X.env trivial)⟩ rfl
  | .get a .nil, t, sc, wr, X, g, h => by
    simp only [wfE, Bool.and_eq_true] at h
    have b := base_toE N G a (t.s 0) X.env "get" h.2
    have p := c_get (dr := dr) (N := N) (G := G) (es := .nil) (ts := (t.s 1).ts) (pos := t.p 1) (cpos := t.p 0) g.un (sE a (t.s 0) sc wr X g h.1.1.1).pe (fun e1 f1 t1 t2 => ⟨fun z => (by cases z), fun z => (by cases z)⟩) b h.1.2
    exact .of ⟨p, fun _ => c_tru p (tru_form N G (.get a .nil) t X.env trivial)⟩ rfl
  | .get a (.cons e .nil), t, sc, wr, X, g, h => by
    simp only [wfE, wfEs, Bool.and_eq_true] at h
    have b := base_toE N G a (t.s 0) X.env "get" h.2
    have q := (sE e (hdT (t.s 1).ts) sc wr X g h.1.1.2.1).pe
    have p := c_get (dr := dr) (N := N) (G := G) (es := .cons e .nil) (ts := (t.s 1).ts) (pos := t.p 1) (cpos := t.p 0) g.un (sE a (t.s 0) sc wr X g h.1.1.1).pe (fun e' f' t1 t2 => ⟨fun z y => (by have z := (Exs.cons.inj z).1; subst z y; exact q), fun z => (by cases (Exs.cons.inj z).2)⟩) b h.1.2
    exact .of ⟨p, fun _ => c_tru p (tru_form N G (.get a (.cons e .nil)) t X.env trivial)⟩ rfl
  | .get a (.cons e (.cons f .nil)), t, sc, wr, X, g, h => by
    simp only [wfE, wfEs, Bool.and_eq_true] at h
    have b := base_toE N G a (t.s 0) X.env "get" h.2
    have q := (sE e (hdT (t.s 1).ts) sc wr X g h.1.1.2.1).pe
    have r := (sE f (hdT (t.s 1).ts.tail) sc wr X g h.1.1.2.2.1).pe
    have p := c_get (dr := dr) (N := N) (G := G) (es := .cons e (.cons f .nil)) (ts := (t.s 1).ts) (pos := t.p 1) (cpos := t.p 0) g.un (sE a (t.s 0) sc wr X g h.1.1.1).pe (fun e' f' t1 t2 => ⟨fun z => (by cases (Exs.cons.inj z).2), fun z y w => (by obtain ⟨z1, z2⟩ := Exs.cons.inj z; have z2 := (Exs.cons.inj z2).1; subst z1 z2 y w; exact ⟨q, r⟩)⟩) b h.1.2
    exact .of ⟨p, fun _ => c_tru p (tru_form N G (.get a (.cons e (.cons f .nil))) t X.env trivial)⟩ rfl
  | .get a (.cons e (.cons f (.cons e' r))), t, sc, wr, X, g, h => by
    simp only [wfE, Bool.and_eq_true] at h
    have b := base_toE N G a (t.s 0) X.env "get" h.2
    have p := c_get (dr := dr) (N := N) (G := G) (es := .cons e (.cons f (.cons e' r))) (ts := (t.s 1).ts) (pos := t.p 1) (cpos := t.p 0) g.un (sE a (t.s 0) sc wr X g h.1.1.1).pe (fun e1 f1 t1 t2 => ⟨fun z => (by cases (Exs.cons.inj z).2), fun z => (by cases (Exs.cons.inj (Exs.cons.inj z).2).2)⟩) b h.1.2
    exact .of ⟨p, fun _ => c_tru p (tru_form N G (.get a (.cons e (.cons f (.cons e' r)))) t X.env trivial)⟩ rfl
  | .dic b, t, sc, wr, X, g, h => by
    have m : PE X (.Dict [] [] (t.p 0)) (tMk X.K dr Γ (.dic b)) := mk_dic
    have p := mk_free rfl m
    exact ⟨p, fun _ => c_tru p (tru_form N G (.dic b) t X.env trivial), fun _ => m, fun z => by cases z⟩
  | .dof a, t, sc, wr, X, g, h => by
    simp only [wfE, Bool.and_eq_true] at h
    have m := mk_dof (dr := dr) (p := t.p 1) (pos := t.p 0) g.self (g.gl h.1) (sE a (t.s 0) sc wr X g h.2).pe
    have p := mk_free rfl m
    exact ⟨p, fun _ => c_tru p (tru_form N G (.dof a) t X.env trivial), fun _ => m, fun z => by cases z⟩
  | .dofT a, t, sc, wr, X, g, h => by
    simp only [wfE, Bool.and_eq_true] at h
    have m := mk_dofT (dr := dr) (p := t.p 1) (pos := t.p 0) g.self (g.gl h.1) (sE a (t.s 0) sc wr X g h.2).pe
    have p := mk_free rfl m
    exact ⟨p, fun _ => c_tru p (tru_form N G (.dofT a) t X.env trivial), fun _ => m, fun z => by cases z⟩
  | .dsp k v, t, sc, wr, X, g, h => by
    simp only [wfE, Bool.and_eq_true] at h
    have m := mk_dsp (dr := dr) (pos := t.p 0) (sE k (t.s 0) sc wr X g h.1).pe (sE v (t.s 1) sc wr X g h.2).pe
    have p := mk_free rfl m
    exact ⟨p, fun _ => c_tru p (tru_form N G (.dsp k v) t X.env trivial), fun _ => m, fun z => by cases z⟩
  | .dc k v tg it ifs, t, sc, wr, X, g, h => by
    simp only [wfE, Bool.and_eq_true] at h
    obtain ⟨⟨⟨⟨⟨⟨h1, h2⟩, h3⟩, h4⟩, h5⟩, h5'⟩, h6⟩ := h
    have hsc := g.scp
    subst hsc
    have ok : BlkOk X.N X.env.scope t.sc (ownOf N tg) := blkOk_by (by rw [g.hN]; exact h1)
    have ho : (ownOf N tg).map (·.2) = tg.slots := by
      unfold ownOf
      rw [List.map_map]
      exact List.map_id'' (fun _ => rfl) _
    have hi := sI it (t.s 3) _ wr X g h2 (toTg N tg (t.s 2)) fun z => by
      cases tg with
      | tp gs => exact ⟨_, _, _, rfl⟩
      | nm i => cases it <;> simp [tgI, isPair] at h3 z
    have hg : ∀ s H C cl fp, PG (X.blk s H t.sc (compEnvC t.sc cl C X.env) fp) (toTg N tg (t.s 2)) (gT X.K dr tg) := fun s H C cl fp => pg_T (g.blk t.sc s H C cl fp).self tg (t.s 2) fun i hi => by
      unfold tgB at h4
      have z := List.all_eq_true.mp h4 i hi
      simp only [Bool.and_eq_true, decide_eq_true_eq] at z
      exact z
    have m := mk_dc (dr := dr) (pos := t.p 0) (tgI_pt h3) g.calm (by rw [g.hN]; exact g.nd) ok ho hi hg (fun s H C cl fp => sC ifs (t.s 4).ts _ _ _ (g.blk t.sc s H C cl fp) h6) (fun s H C cl fp => (sE k (t.s 0) _ _ _ (g.blk t.sc s H C cl fp) h5).pe) (fun s H C cl fp => (sE v (t.s 1) _ _ _ (g.blk t.sc s H C cl fp) h5').pe) (fun x => fold_toIt N G it (t.s 3) X.env x)
    have p := mk_free rfl m
    exact ⟨p, fun _ => c_tru p (tru_form N G (.dc k v tg it ifs) t X.env trivial), fun _ => m, fun z => by cases z⟩
  | .lcm a b, t, sc, wr, X, g, h => by
    simp only [wfE, Bool.and_eq_true, decide_eq_true_eq] at h
    have p := c_lcm (dr := dr) (p := t.p 1) (pos := t.p 0) (g.gl h.1.1.1) (g.lib.2.1 h.1.1.2) (sE a (t.s 0) sc wr X g h.1.2).pe (sE b (t.s 1) sc wr X g h.2).pe
    exact .of ⟨p, fun _ => c_tru p (tru_form N G (.lcm a b) t X.env trivial)⟩ rfl
  | .rvs a, t, sc, wr, X, g, h => by
    simp only [wfE] at h
    have p := c_rvs (dr := dr) (k := t.k) (p1 := t.p 1) (p2 := t.p 2) (p3 := t.p 3) (pos := t.p 0) (sE a (t.s 0) sc wr X g h).pe
    exact .of ⟨p, fun _ => c_tru p (tru_form N G (.rvs a) t X.env trivial)⟩ rfl
  | .cnt a b, t, sc, wr, X, g, h => by
    simp only [wfE, Bool.and_eq_true] at h
    have p := c_cnt (dr := dr) (apos := t.p 1) (cpos := t.p 0) g.self.un (sE a (t.s 0) sc wr X g h.1.1.1).pe (sE b (t.s 1) sc wr X g h.1.1.2).pe (base_toE N G a (t.s 0) X.env _ h.2) h.1.2
    exact .of ⟨p, fun _ => c_tru p (tru_form N G (.cnt a b) t X.env trivial)⟩ rfl
  | .lrg (.cons a .nil), t, sc, wr, X, g, h => by
    simp only [wfE, Bool.and_eq_true] at h
    have p := c_lrg1 (dr := dr) (p := t.p 1) (p3 := t.p 3) (p2 := t.p 2) (pos := t.p 0) g.self (g.gl h.1.1) (g.gl h.1.2) (sE a (hdT t.ts) sc wr X g h.2).pe
    exact .of ⟨p, fun _ => c_tru p (tru_form N G (.lrg (.cons a .nil)) t X.env trivial)⟩ rfl
  | .lrg (.cons a (.cons b .nil)), t, sc, wr, X, g, h => by
    simp only [wfE, Bool.and_eq_true] at h
    have p := c_lrg2 (dr := dr) (p := t.p 1) (p3 := t.p 3) (p2 := t.p 2) (pos := t.p 0) g.self (g.gl h.1.1.1) (g.gl h.1.1.2) (sE a (hdT t.ts) sc wr X g h.1.2).pe (sE b (hdT t.ts.tail) sc wr X g h.2).pe
    exact .of ⟨p, fun _ => c_tru p (tru_form N G (.lrg (.cons a (.cons b .nil))) t X.env trivial)⟩ rfl
  | .lrg .nil, t, sc, wr, X, g, h => by cases h
  | .lrg (.cons a (.cons b (.cons c r))), t, sc, wr, X, g, h => by cases h
  | .srev a, t, sc, wr, X, g, h => by
    simp only [wfE, Bool.and_eq_true] at h
    have p := c_srev (dr := dr) (p := t.p 1) (p2 := t.p 2) (p3 := t.p 3) (pos := t.p 0) (k := t.k) g.self (g.gl h.1) (sE a (t.s 0) sc wr X g h.2).pe
    exact .of ⟨p, fun _ => c_tru p (tru_form N G (.srev a) t X.env trivial)⟩ rfl
  | .lset a, t, sc, wr, X, g, h => by
    simp only [wfE, Bool.and_eq_true] at h
    have p := c_lset (dr := dr) (p := t.p 1) (p2 := t.p 2) (p3 := t.p 3) (pos := t.p 0) g.self (g.gl h.1.1) (g.gl h.1.2) (sE a (t.s 0) sc wr X g h.2).pe
    exact .of ⟨p, fun _ => c_tru p (tru_form N G (.lset a) t X.env trivial)⟩ rfl
  | .sset a, t, sc, wr, X, g, h => by
    simp only [wfE, Bool.and_eq_true] at h
    have p := c_sset (dr := dr) (p := t.p 1) (p2 := t.p 2) (p3 := t.p 3) (pos := t.p 0) g.self (g.gl h.1.1) (g.gl h.1.2) (sE a (t.s 0) sc wr X g h.2).pe
    exact .of ⟨p, fun _ => c_tru p (tru_form N G (.sset a) t X.env trivial)⟩ rfl
  | .mnd i a, t, sc, wr, X, g, h => by
    simp only [wfE, Bool.and_eq_true] at h
    have p := c_mnd (dr := dr) (i := i) (p := t.p 1) (p2 := t.p 2) (p3 := t.p 3) (pos := t.p 0) (k := t.k) g.self (g.gl h.1) (sE a (t.s 0) sc wr X g h.2).pe
    exact .of ⟨p, fun _ => c_tru p (tru_form N G (.mnd i a) t X.env trivial)⟩ rfl
  | .lkb i b es, t, sc, wr, X, g, h => by
    simp only [wfE, Bool.and_eq_true] at h
    have p := c_lk (i := i) (a := .bi b es) (e' := .lkb i b es) (by cases b <;> rfl) (fun _ => rfl) (fun _ => rfl) (fun ρ st => rfl) (c_bi (dr := dr) (p := t.p 1) (pos := t.p 0) (bi := b) g.self (g.gl h.1) (sEs es t.ts sc wr X g h.2))
    exact .of ⟨p, fun _ => c_tru p (tru_form N G (.lkb i b es) t X.env trivial)⟩ rfl
  | .lkc i j es, t, sc, wr, X, g, h => by
    simp only [wfE, Bool.and_eq_true] at h
    have p := c_lk (i := i) (a := .call j es) (e' := .lkc i j es) rfl (fun _ => rfl) (fun _ => rfl) (fun ρ st => rfl) (c_call (dr := dr) (p := t.p 1) (pos := t.p 0) (j := j) g.self (g.gl h.1.1) (nameB_of h.1.2).1 (sEs es t.ts sc wr X g h.2))
    exact .of ⟨p, fun _ => c_tru p (tru_form N G (.lkc i j es) t X.env trivial)⟩ rfl
  | .si a, t, sc, wr, X, g, h => by
    simp only [wfE, Bool.and_eq_true] at h
    have p := c_si (dr := dr) (p := t.p 1) (p2 := t.p 2) (p3 := t.p 3) (pos := t.p 0) g.self (g.gl h.1.1.1) (sE a (t.s 0) sc wr X g h.1.1.2).pe (base_toE N G a (t.s 0) X.env _ h.2) h.1.2
    exact .of ⟨p, fun _ => c_tru p (tru_form N G (.si a) t X.env trivial)⟩ rfl
  | .gcd a b, t, sc, wr, X, g, h => by
    simp only [wfE, Bool.and_eq_true, decide_eq_true_eq] at h
    have p := c_gcd (dr := dr) (p := t.p 1) (pos := t.p 0) (g.gl h.1.1.1) (g.lib.1 h.1.1.2) (sE a (t.s 0) sc wr X g h.1.2).pe (sE b (t.s 1) sc wr X g h.2).pe
    exact .of ⟨p, fun _ => c_tru p (tru_form N G (.gcd a b) t X.env trivial)⟩ rfl
  | .gl j, t, sc, wr, X, g, h => by
    simp only [wfE, Bool.and_eq_true] at h
    have p := c_gl (dr := dr) (pos := t.p 0) g.self (g.gl h.1) (nameB_of h.2).1
    exact .of ⟨p, fun _ => c_tru p (tru_form N G (.gl j) t X.env trivial)⟩ rfl
  | .bi b es, t, sc, wr, X, g, h => by
    simp only [wfE, Bool.and_eq_true] at h
    have p := c_bi (p := t.p 1) (pos := t.p 0) (bi := b) g.self (g.gl h.1) (sEs es t.ts sc wr X g h.2)
    exact .of ⟨p, fun _ => c_tru p (tru_form N G (.bi b es) t X.env trivial)⟩ rfl
  | .isi e ys, t, sc, wr, X, g, h => by
    simp only [wfE, Bool.and_eq_true, Bool.not_eq_true', decide_eq_true_eq, List.all_eq_true] at h
    obtain ⟨⟨⟨⟨h1, h2⟩, h3⟩, h4⟩, h5⟩ := h
    have p := c_isi (p := t.p 1) (pos := t.p 0) (t2 := t.s 1) g.self (ys := ys) (fun z => by subst z; cases h2) h3 (g.gl h4) (fun y m => g.gl (h5 y m)) (sE e (t.s 0) sc wr X g h1).pe
    exact .of ⟨p, fun _ => c_tru p (tru_form N G (.isi e ys) t X.env trivial)⟩ rfl
theorem sEs : ∀ (es : Exs) (ts : List PTr) (sc : Scope) (wr : Str → Bool) (X : Cx), Good N G Γ sc wr X → wfEs N G es ts sc = true → PA X (toEs N G es ts) (tEs X.K dr Γ es)
  | .nil, _, _, _, _, _, _ => a_nil
  | .cons e es, ts, sc, wr, X, g, h => by
    simp only [wfEs, Bool.and_eq_true] at h
    exact a_cons (sE e (hdT ts) sc wr X g h.1).pe (sEs es ts.tail sc wr X g h.2) (star_toE N G e (hdT ts) _ _)
theorem sO : ∀ (es : Exs) (t : PTr) (sc : Scope) (wr : Str → Bool) (X : Cx), Good N G Γ sc wr X → wfO N G es t sc = true → PO X (toO N G es t) (tO X.K dr Γ es)
  | .nil, _, _, _, X, _, _ => ⟨fun pins s σ H Q I h => po_none.run pins s σ H Q I (by
      obtain ⟨B0, ρ, st, o, st', S, h, q⟩ := h
      cases h
      exact q H .refl S.drw)⟩
  | .cons e es, t, sc, wr, X, g, h => by
    simp only [wfO] at h
    refine ⟨fun pins s σ H Q I z => (po_some (sE e t sc wr X g h).pe).run pins s σ H Q I ?_⟩
    obtain ⟨B0, ρ, st, o, st', S, h, q⟩ := z
    simp only [evO, Option.bind_eq_some_iff] at h
    obtain ⟨⟨d, s1⟩, h1, h2⟩ := h
    cases d <;> first | (cases h2; done) | skip
    cases h2
    exact ⟨B0, ρ, st, _, s1, S, h1, fun v H' p => ⟨_, p.repT.int, q H' p.kd p.dw⟩⟩
theorem sB (an : Bool) : ∀ (es : Exs) (ts : List PTr) (sc : Scope) (wr : Str → Bool) (X : Cx), Good N G Γ sc wr X → wfEs N G es ts sc = true → tsts es = true → ∀ pos : Pos,
    PE X (.BoolOp (bopOf an) (toEs N G es ts) pos) (tB' X.K dr Γ an es) ∧ PW X (.BoolOp (bopOf an) (toEs N G es ts) pos) (tBT X.K dr Γ an es)
  | .nil, _, _, _, _, _, _, h, _ => by simp [tsts] at h
  | .cons e .nil, ts, sc, wr, X, g, h, ht, pos => by
    simp only [wfEs, Bool.and_eq_true] at h
    simp only [tsts] at ht
    obtain ⟨p1, p2, _⟩ := sE e (hdT ts) sc wr X g h.1
    exact b_one p1 (p2 ht)
  | .cons e (.cons e' es), ts, sc, wr, X, g, h, ht, pos => by
    have h' : wfE N G e (hdT ts) sc = true ∧ wfEs N G (.cons e' es) ts.tail sc = true := by simpa only [wfEs, Bool.and_eq_true] using h
    simp only [tsts, Bool.and_eq_true] at ht
    obtain ⟨p1, p2, _⟩ := sE e (hdT ts) sc wr X g h'.1
    exact b_cons p1 (p2 ht.1) (sB an (.cons e' es) ts.tail sc wr X g h'.2 ht.2 pos)
theorem sC : ∀ (es : Exs) (ts : List PTr) (sc : Scope) (wr : Str → Bool) (X : Cx), Good N G Γ sc wr X → wfC N G es ts sc = true → PTs X (toEs N G es ts) (tCd X.K dr Γ es)
  | .nil, _, _, _, X, _, _ => by
    refine PTs.imp pts_nil ?_
    rintro σ H Q ⟨B0, ρ, st, b, st', S, h, q⟩
    cases h
    exact q H .refl S.drw
  | .cons e .nil, ts, sc, wr, X, g, h => by
    simp only [wfC, Bool.and_eq_true] at h
    refine PTs.imp (pts_one ((sE e (hdT ts) sc wr X g h.1.1).pt h.1.2)) ?_
    rintro σ H Q ⟨B0, ρ, st, b, st', S, h, q⟩
    simp only [evC, Option.bind_eq_some_iff, Option.map_eq_some_iff, Prod.mk.injEq] at h
    obtain ⟨⟨d, s1⟩, h1, b', h2, rfl, rfl⟩ := h
    exact ⟨B0, ρ, st, d, s1, b', S, h1, h2, q⟩
  | .cons _ (.cons _ _), _, _, _, _, _, h => by simp [wfC] at h
theorem sI : ∀ (it : It) (t : PTr) (sc : Scope) (wr : Str → Bool) (X : Cx), Good N G Γ sc wr X → wfI N G it t sc = true → ∀ tg : Expr, (isPair it = true → ∃ a b c, tg = .Tuple a b c) → PI X tg (toIt N G it t) (tI X.K dr Γ it)
  | .seq e, t, sc, wr, X, g, h, tg, _ => by
    simp only [wfI] at h
    exact i_seq (sE e t sc wr X g h).pe
  | .rng es, t, sc, wr, X, g, h, tg, _ => by
    simp only [wfI, Bool.and_eq_true] at h
    exact i_rng g.self (g.gl h.1) (sEs es t.ts sc wr X g h.2)
  | .enm e, t, sc, wr, X, g, h, tg, hp => by
    simp only [wfI, Bool.and_eq_true] at h
    obtain ⟨a, b, c, rfl⟩ := hp rfl
    exact i_enm g.self (g.gl h.1) (sE e (t.s 0) sc wr X g h.2).pe
  | .zip a b, t, sc, wr, X, g, h, tg, hp => by
    simp only [wfI, Bool.and_eq_true] at h
    obtain ⟨x, y, z, rfl⟩ := hp rfl
    exact i_zip g.self (g.gl h.1.1) (sE a (t.s 0) sc wr X g h.1.2).pe (sE b (t.s 1) sc wr X g h.2).pe
  | .its a, t, sc, wr, X, g, h, tg, hp => by
    simp only [wfI, Bool.and_eq_true] at h
    obtain ⟨x, y, z, rfl⟩ := hp rfl
    exact i_its (sE a (t.s 0) sc wr X g h.1.1).pe (base_toE N G a (t.s 0) X.env _ h.2) h.1.2
  | .vls a, t, sc, wr, X, g, h, tg, _ => by
    simp only [wfI, Bool.and_eq_true] at h
    exact i_vls (sE a (t.s 0) sc wr X g h.1.1).pe (base_toE N G a (t.s 0) X.env _ h.2) h.1.2
  | .rev a, t, sc, wr, X, g, h, tg, _ => by
    simp only [wfI, Bool.and_eq_true] at h
    exact i_rev g.self (g.gl h.1) (sE a (t.s 0) sc wr X g h.2).pe
  | .cmb a r, t, sc, wr, X, g, h, tg, _ => by
    simp only [wfI, Bool.and_eq_true, decide_eq_true_eq] at h
    exact i_cmb (g.gl h.1.1.1) (g.lib.2.2.1 h.1.1.2) (sE a (t.s 0) sc wr X g h.1.2).pe (sE r (t.s 1) sc wr X g h.2).pe
  | .cmr (.cons a .nil) r, t, sc, wr, X, g, h, tg, _ => by
    simp only [wfI, Bool.and_eq_true, decide_eq_true_eq] at h
    exact i_cmr1 g.self (g.gl h.1.1.1.1) (g.lib.2.2.1 h.1.1.1.2) (g.gl h.1.1.2) (sE a (hdT t.ts.tail) sc wr X g h.1.2).pe (sE r (t.s 0) sc wr X g h.2).pe
  | .cmr (.cons a (.cons b .nil)) r, t, sc, wr, X, g, h, tg, _ => by
    simp only [wfI, Bool.and_eq_true, decide_eq_true_eq] at h
    exact i_cmr2 g.self (g.gl h.1.1.1.1.1) (g.lib.2.2.1 h.1.1.1.1.2) (g.gl h.1.1.1.2) (sE a (hdT t.ts.tail) sc wr X g h.1.1.2).pe (sE b (hdT t.ts.tail.tail) sc wr X g h.1.2).pe (sE r (t.s 0) sc wr X g h.2).pe
  | .cmr .nil _, t, sc, wr, X, g, h, tg, _ => by simp [wfI] at h
  | .cmr (.cons a (.cons b (.cons c r))) _, t, sc, wr, X, g, h, tg, _ => by simp [wfI] at h
end
end
end Pf

namespace Pf
open PySem PySem.Spec PyProof.Rows L2
variable [Mode]

section
variable {K : PySem.W.Frag} {dr : Dr} {B0 B1 : Addr → Prop} {H H1 H' : Hp} {ρ ρ' ρ1 ρ2 : List Slot} {σ σ' σ1 σ2 : L2.St} {st st' : DS} {d : D} {v : V}
/-- a name gets a list of its own -/
theorem Sim.setOwG {a : Addr} (S : Sim K dr (fun b => B0 b ∨ b = a) H ρ σ st) (nb : ¬ BB B0 ρ σ a) (b0 : B0 dr.a) (b1 : B0 dr.p) {dd : D} (oa : Own K dr H (BB (fun b => B0 b ∨ b = a) ρ σ) a dd) {i : Nat} (hi : i < ρ.length) (hb : ∀ b, B1 b → B0 b) (h1 : B1 dr.a) (h2 : B1 dr.p)
    (hle : ∀ (i : Nat) (d : D) (c : Addr), ρ[i]? = some (.le d) → σ[i]? = some (some (.ref c)) → B1 c) :
    Sim K dr B1 H (ρ.set i (.ow dd)) (σ.set i (some (.ref a))) st := by
  have hiσ : i < σ.length := by rw [← S.len]; exact hi
  have sub : ∀ b, BB B1 (ρ.set i (.ow dd)) (σ.set i (some (.ref a))) b → BB (fun b => B0 b ∨ b = a) ρ σ b ∨ H b = none := fun b z => by
    rcases z with z | ⟨j, f, q1, q2⟩
    · exact .inl (.inl (.inl (hb b z)))
    · rcases set_get q2 with ⟨rfl, _, z⟩ | ⟨ne, q2⟩
      · cases z; exact .inl (.inl (.inr rfl))
      · rcases set_get q1 with ⟨z, _⟩ | ⟨_, q1⟩
        · exact absurd z ne
        · exact .inl (.inr ⟨j, f, q1, q2⟩)
  refine ⟨S.drw, h1, h2, fun b z => S.alo b (.inl (hb b z)), fun j f h => ?_, fun j f h => ?_, fun j f h => ?_, fun j k f g c q1 q2 q3 q4 => ?_, by simp [S.len]⟩
  · rcases set_get h with ⟨rfl, _, z⟩ | ⟨ne, h⟩
    · cases z
    · obtain ⟨w, e1, r1⟩ := S.sh j f h
      exact ⟨w, by rw [List.getElem?_set_ne (Ne.symm ne)]; exact e1, Rep.anti sub _ _ r1⟩
  · rcases set_get h with ⟨rfl, _, z⟩ | ⟨ne, h⟩
    · cases z
      exact ⟨a, List.getElem?_set_self hiσ, fun z => nb (.inl (hb a z)), oa.anti sub⟩
    · obtain ⟨c, e1, n, o⟩ := S.ow j f h
      exact ⟨c, by rw [List.getElem?_set_ne (Ne.symm ne)]; exact e1, fun z => n (.inl (hb c z)), o.anti sub⟩
  · rcases set_get h with ⟨rfl, _, z⟩ | ⟨ne, h⟩
    · cases z
    · obtain ⟨c, e1, n, nd, o⟩ := S.le j f h
      exact ⟨c, by rw [List.getElem?_set_ne (Ne.symm ne)]; exact e1, hle j f c h e1, nd, o.anti sub⟩
  · rcases set_get q1 with ⟨e1, _, z1⟩ | ⟨ne1, r1⟩
    · rcases set_get q2 with ⟨e2, _, z2⟩ | ⟨ne2, r2⟩
      · rw [e1, e2]
      · rw [e1, List.getElem?_set_self hiσ] at q3
        cases q3
        rw [List.getElem?_set_ne (Ne.symm ne2)] at q4
        exact absurd (.inr ⟨k, g, r2, q4⟩) nb
    · rcases set_get q2 with ⟨e2, _, z2⟩ | ⟨ne2, r2⟩
      · rw [e2, List.getElem?_set_self hiσ] at q4
        cases q4
        rw [List.getElem?_set_ne (Ne.symm ne1)] at q3
        exact absurd (.inr ⟨j, f, r1, q3⟩) nb
      · rw [List.getElem?_set_ne (Ne.symm ne1)] at q3
        rw [List.getElem?_set_ne (Ne.symm ne2)] at q4
        exact S.sep j k f g c r1 r2 q3 q4
theorem Sim.setOw {a : Addr} (S : Sim K dr (fun b => B0 b ∨ b = a) H ρ σ st) (nb : ¬ BB B0 ρ σ a) (b0 : B0 dr.a) (b1 : B0 dr.p) {vs : List V} {ds : List D} (e : H a = some (.lst vs)) (r : Reps K dr H (BB (fun b => B0 b ∨ b = a) ρ σ) vs ds) {i : Nat} (hi : i < ρ.length) (hb : ∀ b, B1 b → B0 b) (h1 : B1 dr.a) (h2 : B1 dr.p)
    (hle : ∀ (i : Nat) (d : D) (c : Addr), ρ[i]? = some (.le d) → σ[i]? = some (some (.ref c)) → B1 c) :
    Sim K dr B1 H (ρ.set i (.ow (.list ds))) (σ.set i (some (.ref a))) st := S.setOwG nb b0 b1 (dd := .list ds) ⟨vs, e, r⟩ hi hb h1 h2 hle
/-- a name's own list is given free -/
theorem Sim.share (S : Sim K dr B0 H ρ σ st) {i : Nat} (hi : ρ[i]? = some (.ow d)) (hnd : ∀ es, d ≠ .dict es) : Sim K dr B0 H (ρ.set i (.sh d)) σ st := by
  have il := (List.getElem?_eq_some_iff.mp hi).1
  obtain ⟨a, ea, na, oa⟩ := S.ow i d hi
  have low : ∀ b, Ows (ρ.set i (.sh d)) σ b → Ows ρ σ b ∧ b ≠ a := fun b ⟨j, f, q1, q2⟩ => by
    rcases set_get q1 with ⟨rfl, _, z⟩ | ⟨ne, q1⟩
    · cases z
    · exact ⟨⟨j, f, q1, q2⟩, fun e => ne (by subst e; exact S.sep j i f d b q1 hi q2 ea)⟩
  have sub : ∀ b, BB B0 (ρ.set i (.sh d)) σ b → BB B0 ρ σ b ∨ H b = none := fun b z => z.elim (fun z => .inl (.inl z)) fun z => .inl (.inr (low b z).1)
  have nB : ¬ BB B0 (ρ.set i (.sh d)) σ a := fun z => z.elim na fun z => (low a z).2 rfl
  refine ⟨S.drw, S.bdr, S.bsp, S.alo, fun j f h => ?_, fun j f h => ?_, fun j f h => ?_, fun j k f g c q1 q2 q3 q4 => ?_, by simp [S.len]⟩
  · rcases set_get h with ⟨rfl, _, z⟩ | ⟨ne, h⟩
    · cases z
      refine ⟨.ref a, ea, ?_⟩
      cases d <;> first
        | exact oa.elim
        | exact absurd rfl (hnd _)
        | (obtain ⟨vs, e, r⟩ := oa; exact .lst e nB (Reps.anti sub _ _ r))
    · obtain ⟨w, e1, r1⟩ := S.sh j f h
      exact ⟨w, e1, Rep.anti sub _ _ r1⟩
  · rcases set_get h with ⟨rfl, _, z⟩ | ⟨ne, h⟩
    · cases z
    · obtain ⟨c, e1, n, o⟩ := S.ow j f h
      exact ⟨c, e1, n, o.anti sub⟩
  · rcases set_get h with ⟨rfl, _, z⟩ | ⟨ne, h⟩
    · cases z
    · obtain ⟨c, e1, n, nd, o⟩ := S.le j f h
      exact ⟨c, e1, n, nd, o.anti sub⟩
  · rcases set_get q1 with ⟨rfl, _, z⟩ | ⟨_, q1⟩
    · cases z
    rcases set_get q2 with ⟨rfl, _, z⟩ | ⟨_, q2⟩
    · cases z
    exact S.sep j k f g c q1 q2 q3 q4
/-- a name's own list is changed -/
theorem Sim.writeG (S : Sim K dr B0 H ρ σ st) {i : Nat} {a : Addr} (hi : ρ[i]? = some (.ow d)) (ea : σ[i]? = some (some (.ref a))) {o o' : HO} {dd : D} (e : H a = some o) (nt : ∀ xs, o ≠ .tup xs) (nf : ∀ x y, o ≠ .frz x y) (oc : ∀ H', Kp (fun b => b = a) H H' → H' a = some o' → Own K dr H' (BB B0 ρ σ) a dd) :
    Sim K dr B0 (upd H a o') (ρ.set i (.ow dd)) σ st ∧ Kp (fun b => b = a) H (upd H a o') := by
  have k : Kp (fun b => b = a) H (upd H a o') := ⟨fun b o n q => by rw [upd_ne n]; exact q, fun b xs q => by rw [upd_ne (ne_of q e fun z => nt _ z.symm)]; exact q, fun b o u q => by rw [upd_ne (ne_of q e fun z => nf _ _ z.symm)]; exact q⟩
  obtain ⟨a', ea', na, oa⟩ := S.ow i d hi
  rw [ea] at ea'
  cases ea'
  have il := (List.getElem?_eq_some_iff.mp hi).1
  have nda : dr.a ≠ a := fun z => na (by rw [← z]; exact S.bdr)
  have ndp : dr.p ≠ a := fun z => na (by rw [← z]; exact S.bsp)
  have same : ∀ b, Ows (ρ.set i (.ow dd)) σ b → Ows ρ σ b := fun b ⟨j, f, q1, q2⟩ => by
    rcases set_get q1 with ⟨rfl, _, z⟩ | ⟨ne, q1⟩
    · exact ⟨j, d, hi, q2⟩
    · exact ⟨j, f, q1, q2⟩
  have sub : ∀ b, BB B0 (ρ.set i (.ow dd)) σ b → BB B0 ρ σ b ∨ H b = none := fun b z => z.elim (fun z => .inl (.inl z)) fun z => .inl (.inr (same b z))
  have wB : ∀ b, b = a → BB B0 ρ σ b := fun b z => by subst z; exact .inr ⟨i, d, hi, ea⟩
  have wB' : ∀ b, b = a → BB B0 (ρ.set i (.ow dd)) σ b := fun b z => by subst z; exact .inr ⟨i, _, List.getElem?_set_self il, ea⟩
  refine ⟨⟨⟨by rw [upd_ne nda]; exact S.drw.1, by rw [upd_ne ndp]; exact S.drw.2.1, S.drw.2.2⟩, S.bdr, S.bsp, fun b z => ?_, fun j f h => ?_, fun j f h => ?_, fun j f h => ?_, fun j m f g c q1 q2 q3 q4 => ?_, by simp [S.len]⟩, k⟩
  · by_cases hb : b = a
    · subst hb; rw [upd_same]; exact fun q => by cases q
    · rw [upd_ne hb]; exact S.alo b z
  · rcases set_get h with ⟨rfl, _, z⟩ | ⟨ne, h⟩
    · cases z
    · obtain ⟨w, e1, r1⟩ := S.sh j f h
      exact ⟨w, e1, Rep.kp k wB' _ _ (Rep.anti sub _ _ r1)⟩
  · rcases set_get h with ⟨ei, _, z⟩ | ⟨ne, h⟩
    · cases z
      rw [ei]
      exact ⟨a, ea, na, (oc _ k upd_same).anti fun b z => (sub b z).elim .inl fun n => (by
        by_cases hb : b = a
        · exact .inl (by subst hb; exact .inr ⟨i, d, hi, ea⟩)
        · exact .inr (by rw [upd_ne hb]; exact n))⟩
    · obtain ⟨c, e1, n, o⟩ := S.ow j f h
      exact ⟨c, e1, n, (o.anti sub).kp k wB' fun q => ne (by subst q; exact S.sep j i f d c h hi e1 ea)⟩
  · rcases set_get h with ⟨rfl, _, z⟩ | ⟨ne, h⟩
    · cases z
    · obtain ⟨c, e1, n, nd, o⟩ := S.le j f h
      exact ⟨c, e1, n, nd, (o.anti sub).kp k wB' fun q => na (by rw [← q]; exact n)⟩
  · have f1 : ∃ f', ρ[j]? = some (.ow f') := by
      rcases set_get q1 with ⟨rfl, _, z⟩ | ⟨_, q1⟩
      · exact ⟨d, hi⟩
      · exact ⟨f, q1⟩
    have f2 : ∃ f', ρ[m]? = some (.ow f') := by
      rcases set_get q2 with ⟨rfl, _, z⟩ | ⟨_, q2⟩
      · exact ⟨d, hi⟩
      · exact ⟨g, q2⟩
    obtain ⟨f1, q1⟩ := f1
    obtain ⟨f2, q2⟩ := f2
    exact S.sep j m f1 f2 c q1 q2 q3 q4

theorem Sim.write (S : Sim K dr B0 H ρ σ st) {i : Nat} {a : Addr} (hi : ρ[i]? = some (.ow d)) (ea : σ[i]? = some (some (.ref a))) {vs vs' : List V} {ds : List D} (e : H a = some (.lst vs)) (r : Reps K dr H (BB B0 ρ σ) vs' ds) :
    Sim K dr B0 (upd H a (.lst vs')) (ρ.set i (.ow (.list ds))) σ st ∧ Kp (fun b => b = a) H (upd H a (.lst vs')) :=
  S.writeG hi ea e (by intro _ z; cases z) (by intro _ _ z; cases z) (dd := .list ds) fun H' k q => ⟨vs', q, Reps.kp k (fun b z => by subst z; exact .inr ⟨i, d, hi, ea⟩) _ _ r⟩

structure Stp (dr : Dr) (ρ : List Slot) (σ : L2.St) (H : Hp) (ρ' : List Slot) (σ' : L2.St) (H' : Hp) : Prop where
  kp : Kp (Wr dr ρ σ) H H'
  own : ∀ b, Ows ρ' σ' b → Ows ρ σ b ∨ H b = none
theorem Stp.refl : Stp dr ρ σ H ρ σ H := ⟨.refl, fun _ z => .inl z⟩
theorem wr_step (s : Stp dr ρ σ H ρ1 σ1 H1) (hd : H dr.a ≠ none) {b : Addr} {o : HO} (e : H b = some o) (n : ¬ Wr dr ρ σ b) : ¬ Wr dr ρ1 σ1 b := fun z => z.elim (fun z => n (.inl z)) fun z => (s.own b z).elim (fun z => n (.inr z)) fun z => by rw [e] at z; cases z
theorem Stp.trans (s : Stp dr ρ σ H ρ1 σ1 H1) (u : Stp dr ρ1 σ1 H1 ρ2 σ2 H') (hd : H dr.a ≠ none) (hd1 : H1 dr.a ≠ none) : Stp dr ρ σ H ρ2 σ2 H' where
  kp := ⟨fun b o n e => u.kp.keep b o (wr_step s hd e n) (s.kp.keep b o n e), fun b xs e => u.kp.tup b xs (s.kp.tup b xs e), fun b o x e => u.kp.frz b o x (s.kp.frz b o x e)⟩
  own := fun b z => by
    rcases u.own b z with z | z
    · exact s.own b z
    · cases q : H b with
      | none => exact .inr rfl
      | some o =>
        by_cases n : Wr dr ρ σ b
        · rcases n with n | n
          · exact absurd z (by rw [n]; exact hd1)
          · exact .inl n
        · rw [s.kp.keep b o n q] at z
          cases z
end
end Pf

namespace Pf
open PySem PySem.Spec PyProof.Rows L2
variable [Mode]

def Goal (K : PySem.W.Frag) (dr : Dr) (B0 : Addr → Prop) (ρ : List Slot) (σ : L2.St) (H : Hp) (En : L2.Ends) : Out → Prop
  | .nx ρ' st' => ∀ σ' H', Sim K dr B0 H' ρ' σ' st' → Stp dr ρ σ H ρ' σ' H' → En.nx σ' H'
  | .bk ρ' st' => ∀ σ' H', Sim K dr B0 H' ρ' σ' st' → Stp dr ρ σ H ρ' σ' H' → En.bk σ' H'
  | .ct ρ' st' => ∀ σ' H', Sim K dr B0 H' ρ' σ' st' → Stp dr ρ σ H ρ' σ' H' → En.ct σ' H'
  | .rt d st' => ∀ v H', Kp (Wr dr ρ σ) H H' → DrawOk K dr H' st' → Rep K dr H' B0 v d → En.rt v H'
section
variable (K : PySem.W.Frag) (dr : Dr) (Γ : Gam)
def tS (s : Sm) : TS := fun En σ H => ∃ B0 ρ st o, Sim K dr B0 H ρ σ st ∧ evS Γ s ρ st = some o ∧ Goal K dr B0 ρ σ H En o
def tSs (s : Sms) : TS := fun En σ H => ∃ B0 ρ st o, Sim K dr B0 H ρ σ st ∧ evSs Γ s ρ st = some o ∧ Goal K dr B0 ρ σ H En o
end
section
variable {K : PySem.W.Frag} {dr : Dr} {B0 : Addr → Prop} {H H1 H' : Hp} {ρ ρ1 ρ' : List Slot} {σ σ1 σ' : L2.St} {st st1 st' : DS} {En : L2.Ends} {o : Out} {d : D} {v : V}
theorem Sim.dn (S : Sim K dr B0 H ρ σ st) : H dr.a ≠ none := by rw [S.drw.1]; exact fun z => by cases z
theorem Stp.kps (s : Stp dr ρ σ H ρ1 σ1 H1) (hd : H dr.a ≠ none) (k : Kp (Wr dr ρ1 σ1) H1 H') : Kp (Wr dr ρ σ) H H' :=
  ⟨fun b o n e => k.keep b o (wr_step s hd e n) (s.kp.keep b o n e), fun b xs e => k.tup b xs (s.kp.tup b xs e), fun b o x e => k.frz b o x (s.kp.frz b o x e)⟩
theorem Goal.step (g : Goal K dr B0 ρ σ H En o) (s : Stp dr ρ σ H ρ1 σ1 H1) (hd : H dr.a ≠ none) (hd1 : H1 dr.a ≠ none) : Goal K dr B0 ρ1 σ1 H1 En o := by
  cases o with
  | nx => exact fun σ' H' S u => g σ' H' S (s.trans u hd hd1)
  | bk => exact fun σ' H' S u => g σ' H' S (s.trans u hd hd1)
  | ct => exact fun σ' H' S u => g σ' H' S (s.trans u hd hd1)
  | rt => exact fun v H' k w r => g v H' (s.kps hd k) w r
theorem Stp.kd (k : KD dr H H1) : Stp dr ρ σ H ρ σ H1 := ⟨k.wide fun _ e => .inl e, fun _ z => .inl z⟩
theorem Stp.kdo (k : KD dr H H1) (o : ∀ b, Ows ρ1 σ1 b → Ows ρ σ b ∨ H b = none) : Stp dr ρ σ H ρ1 σ1 H1 := ⟨k.wide fun _ e => .inl e, o⟩
theorem Goal.kd (g : Goal K dr B0 ρ σ H En o) (S : Sim K dr B0 H ρ σ st) (k : KD dr H H1) (w : DrawOk K dr H1 st') : Goal K dr B0 ρ σ H1 En o :=
  g.step (.kd k) S.dn (by rw [w.1]; exact fun z => by cases z)
theorem Goal.nox (g : Goal K dr B0 ρ σ H En o) {En' : L2.Ends} (h1 : ∀ σ H, En.nx σ H → En'.nx σ H) (h2 : ∀ v H, En.rt v H → En'.rt v H) (h3 : ∀ σ H, En.bk σ H → En'.bk σ H) (h4 : ∀ σ H, En.ct σ H → En'.ct σ H) : Goal K dr B0 ρ σ H En' o := by
  cases o with
  | nx => exact fun σ' H' S u => h1 _ _ (g σ' H' S u)
  | bk => exact fun σ' H' S u => h3 _ _ (g σ' H' S u)
  | ct => exact fun σ' H' S u => h4 _ _ (g σ' H' S u)
  | rt => exact fun v H' k w r => h2 _ _ (g v H' k w r)
end

section
variable {K : PySem.W.Frag} {dr : Dr} {B0 : Addr → Prop} {H H1 H' : Hp} {ρ ρ1 ρ' : List Slot} {σ σ1 σ' : L2.St} {st st1 st' : DS} {En : L2.Ends} {o : Out} {d : D} {v : V} {e : Ex}
theorem set_sim (S : Sim K dr B0 H ρ σ st) (p : PostE K dr (BB B0 ρ σ) H ρ e d st' v H1) (hw : isOw ρ e = false) {i : Nat} (hi : i < ρ.length) :
    Sim K dr B0 H1 (ρ.set i (slotOf (isFr e) d)) (σ.set i (some v)) st' ∧ Stp dr ρ σ H (ρ.set i (slotOf (isFr e) d)) (σ.set i (some v)) H1 := by
  have S1 := S.post p
  have plain : slotOf (isFr e) d = .sh d → Sim K dr B0 H1 (ρ.set i (slotOf (isFr e) d)) (σ.set i (some v)) st' ∧ Stp dr ρ σ H (ρ.set i (slotOf (isFr e) d)) (σ.set i (some v)) H1 := fun z => by
    rw [z]
    exact ⟨S1.setSh hi (p.rep hw), .kdo p.kd fun b q => .inl (Ows.sub (by intro _ e; cases e) q)⟩
  cases hf : isFr e with
  | false =>
    rw [hf] at plain
    exact plain (by cases d <;> rfl)
  | true =>
    rw [hf] at plain
    cases d with
    | list ds =>
      obtain ⟨a, vs, rfl, hn, ha, r⟩ := p.fr hf ds rfl
      have al : H1 a ≠ none := by rw [ha]; exact fun z => by cases z
      have S2 := S.add hn p.kd p.dw al
      refine ⟨S2.setOw (S.fresh hn) S.bdr S.bsp ha (Reps.anti (fun b z => ?_) _ _ r) hi (fun _ z => z) S.bdr S.bsp (fun j d c q1 q2 => ?_), .kdo p.kd fun b ⟨j, f, q1, q2⟩ => ?_⟩
      · rcases z with (z | z) | z
        · exact .inl (.inl (.inl z))
        · exact .inl (.inr z)
        · exact .inl (.inl (.inr z))
      · obtain ⟨c', e1, nb, _⟩ := S.le j d q1
        rw [q2] at e1
        cases e1
        exact nb
      · rcases set_get q1 with ⟨rfl, _, z⟩ | ⟨ne, q1⟩
        · rcases set_get q2 with ⟨_, _, z2⟩ | ⟨ne, _⟩
          · cases z2
            exact .inr hn
          · exact absurd rfl ne
        · rcases set_get q2 with ⟨z, _⟩ | ⟨_, q2⟩
          · exact absurd z ne
          · exact .inl ⟨j, f, q1, q2⟩
    | _ => exact plain rfl
end
end Pf

namespace Pf
open PySem PySem.Spec PyProof.Rows L2
variable [Mode]

/-- what is blocked once a value is there -/
def nbk (B0 : Addr → Prop) (e : Ex) (d : D) (v : V) : Addr → Prop := fun b => B0 b ∨ (isFr e = true ∧ (∃ ds, d = .list ds) ∧ v = .ref b)
def PF (K : PySem.W.Frag) (dr : Dr) (ρ : List Slot) (σ : L2.St) (st' : DS) (H' : Hp) : Exs → (Addr → Prop) → Hp → List D → List V → Prop
  | .nil, _, H, [], [] => H = H' ∧ DrawOk K dr H' st'
  | .cons e es, B0, H, d :: ds, v :: vs => isOw ρ e = false ∧ ∃ H1 st1, PostE K dr (BB B0 ρ σ) H ρ e d st1 v H1 ∧ PF K dr ρ σ st' H' es (nbk B0 e d v) H1 ds vs
  | _, _, _, _, _ => False
def tFs (K : PySem.W.Frag) (dr : Dr) (Γ : Gam) (es : Exs) : TA := fun σ H Q => ∃ B0 ρ st ds st', Sim K dr B0 H ρ σ st ∧ anyOw ρ es = false ∧ evEs Γ es ρ st = some (ds, st') ∧ ∀ vs H', PF K dr ρ σ st' H' es B0 H ds vs → Q vs H'
def setV (σ : L2.St) : List Nat → List V → L2.St
  | i :: is, v :: vs => (setV σ is vs).set i (some v)
  | _, _ => σ
section
variable {K : PySem.W.Frag} {dr : Dr} {B0 : Addr → Prop} {H H1 H' : Hp} {ρ ρ1 ρ' : List Slot} {σ σ1 σ' : L2.St} {st st1 st' : DS} {d : D} {v : V} {e : Ex}
theorem nbk_plain (h : isFr e = false ∨ ∀ ds, d ≠ .list ds) : nbk B0 e d v = B0 := by
  funext b
  refine propext ⟨fun z => z.elim id fun ⟨z1, ⟨ds, z2⟩, _⟩ => ?_, .inl⟩
  rcases h with h | h
  · rw [h] at z1; cases z1
  · exact absurd z2 (h ds)
theorem nbk_fr {ds : List D} {a : Addr} (h : isFr e = true) : nbk B0 e (.list ds) (.ref a) = fun b => B0 b ∨ b = a := by
  funext b
  refine propext ⟨fun z => z.elim .inl fun ⟨_, _, z⟩ => .inr (by cases z; rfl), fun z => z.elim .inl fun z => .inr ⟨h, ⟨ds, rfl⟩, by rw [z]⟩⟩
/-- of two kinds -/
theorem fr_cases (e : Ex) (d : D) : (isFr e = false ∨ ∀ ds, d ≠ .list ds) ∨ (isFr e = true ∧ ∃ ds, d = .list ds) := by
  cases h : isFr e with
  | false => exact .inl (.inl rfl)
  | true =>
    cases d with
    | list ds => exact .inr ⟨rfl, ds, rfl⟩
    | _ => exact .inl (.inr fun _ z => by cases z)
theorem slotOf_plain (h : isFr e = false ∨ ∀ ds, d ≠ .list ds) : slotOf (isFr e) d = .sh d := by
  rcases h with h | h
  · rw [h]; cases d <;> rfl
  · cases isFr e <;> cases d <;> first | rfl | exact absurd rfl (h _)
theorem Sim.nbk (S : Sim K dr B0 H ρ σ st) (p : PostE K dr (BB B0 ρ σ) H ρ e d st1 v H1) : Sim K dr (nbk B0 e d v) H1 ρ σ st1 := by
  rcases fr_cases e d with h | ⟨h, ds, rfl⟩
  · rw [nbk_plain h]
    exact S.post p
  · obtain ⟨a, vs, rfl, hn, ha, _⟩ := p.fr h ds rfl
    rw [nbk_fr h]
    exact S.add hn p.kd p.dw (by rw [ha]; exact fun z => by cases z)
section
variable {X : Cx} {Γ : Gam} {ea : Expr} {l : List Expr} {es : Exs}
theorem f_nil : PA X [] (tFs X.K dr Γ .nil) := by
  refine PA.imp pa_nil ?_
  rintro σ H Q ⟨B0, ρ, st, ds, st', S, _, h, q⟩
  cases h
  exact q [] H ⟨rfl, S.drw⟩
theorem f_cons (ha : PE X ea (tE X.K dr Γ e)) (hr : PA X l (tFs X.K dr Γ es)) (hs : starEach (ea :: l) X.env = (false, eval ea X.env) :: starEach l X.env) : PA X (ea :: l) (tFs X.K dr Γ (.cons e es)) := by
  refine PA.imp (pa_cons ha hr hs) ?_
  rintro σ H Q ⟨B0, ρ, st, ds, st', S, hw, h, q⟩
  simp only [anyOw, Bool.or_eq_false_iff] at hw
  simp only [evEs, Option.bind_eq_some_iff, Option.map_eq_some_iff, Prod.mk.injEq] at h
  obtain ⟨⟨da, s1⟩, h1, ⟨db, s2⟩, h2, rfl, rfl⟩ := h
  refine ⟨B0, ρ, st, da, s1, S, h1, fun v1 H1 p1 => ?_⟩
  exact ⟨nbk B0 e da v1, ρ, s1, db, s2, S.nbk p1, hw.2, h2, fun vs H2 pf => q _ H2 ⟨hw.1, H1, s1, p1, pf⟩⟩
end
theorem par_sim : ∀ {es : Exs} {is : List Nat} {ds : List D} {vs : List V} {B0 : Addr → Prop} {H : Hp} {st : DS}, PF K dr ρ σ st' H' es B0 H ds vs → Sim K dr B0 H ρ σ st → is.length = es.len → (∀ i ∈ is, i < ρ.length) →
    KD dr H H' ∧ Sim K dr B0 H' (parSet ρ is es ds) (setV σ is vs) st' ∧ (∀ b, Ows (parSet ρ is es ds) (setV σ is vs) b → Ows ρ σ b ∨ H b = none) ∧ (parSet ρ is es ds).length = ρ.length ∧
    ∀ (j : Nat) (f : D) (c : Addr), (parSet ρ is es ds)[j]? = some (.le f) → (setV σ is vs)[j]? = some (some (.ref c)) → ρ[j]? = some (.le f) ∧ σ[j]? = some (some (.ref c))
  | .nil, is, ds, vs, B0, H, st, p, S, hl, _ => by
    cases ds with
    | cons _ _ => exact p.elim
    | nil =>
      cases vs with
      | cons _ _ => exact p.elim
      | nil =>
        cases is with
        | cons _ _ => simp [Exs.len] at hl
        | nil =>
          obtain ⟨rfl, w⟩ := p
          exact ⟨.refl, S.kd .refl w, fun b z => .inl z, rfl, fun _ _ _ q1 q2 => ⟨q1, q2⟩⟩
  | .cons e es, is, ds, vs, B0, H, st, p, S, hl, hi => by
    cases ds with
    | nil => exact p.elim
    | cons d ds =>
      cases vs with
      | nil => exact p.elim
      | cons v vs =>
        cases is with
        | nil => simp [Exs.len] at hl
        | cons i is =>
          obtain ⟨hw, H1, s1, p1, pf⟩ := p
          have ih := par_sim (is := is) pf (S.nbk p1) (by simpa [Exs.len] using hl) fun j hj => hi j (List.mem_cons_of_mem _ hj)
          obtain ⟨k, S2, ow, ln, lee⟩ := ih
          have old : ∀ b, H1 b = none → H b = none := fun b z => by
            cases q : H b with
            | none => rfl
            | some o =>
              by_cases hd : b = dr.a
              · subst hd
                have w1 := p1.dw.1
                rw [z] at w1
                cases w1
              · rw [p1.kd.keep b o hd q] at z
                cases z
          have lee' : ∀ (j : Nat) (f : D) (c : Addr), ((parSet ρ is es ds).set i (slotOf (isFr e) d))[j]? = some (.le f) → ((setV σ is vs).set i (some v))[j]? = some (some (.ref c)) → ρ[j]? = some (.le f) ∧ σ[j]? = some (some (.ref c)) := fun j f c q1 q2 => by
            rcases set_get q1 with ⟨rfl, _, z⟩ | ⟨ne, q1⟩
            · exfalso
              revert z
              cases isFr e <;> cases d <;> exact fun z => by cases z
            · rcases set_get q2 with ⟨z, _⟩ | ⟨_, q2⟩
              · exact absurd z ne
              · exact lee j f c q1 q2
          have hil : i < (parSet ρ is es ds).length := by rw [ln]; exact hi i List.mem_cons_self
          have bd : ∀ b, b = dr.a → BB B0 (parSet ρ is es ds) (setV σ is vs) b := fun b z => .inl (by rw [z]; exact S.bdr)
          rcases fr_cases e d with h | ⟨h, es', rfl⟩
          · rw [nbk_plain h] at S2
            refine ⟨p1.kd.trans k, ?_, fun b z => ?_, by simp [parSet, ln], lee'⟩
            · show Sim K dr B0 H' ((parSet ρ is es ds).set i (slotOf (isFr e) d)) ((setV σ is vs).set i (some v)) st'
              rw [slotOf_plain h]
              refine S2.setSh hil (Rep.kp k bd _ _ (Rep.anti (fun b z => ?_) _ _ (p1.rep hw)))
              rcases z with z | z
              · exact .inl (.inl z)
              · rcases ow b z with z | z
                · exact .inl (.inr z)
                · exact .inr z
            · have z : Ows ((parSet ρ is es ds).set i (slotOf (isFr e) d)) ((setV σ is vs).set i (some v)) b := z
              rw [slotOf_plain h] at z
              exact (ow b (Ows.sub (by intro _ q; cases q) z)).imp id (old b)
          · obtain ⟨a, ws, rfl, hn, ha, r⟩ := p1.fr h es' rfl
            rw [nbk_fr h] at S2
            have hsl : slotOf (isFr e) (.list es') = .ow (.list es') := by rw [h]; rfl
            refine ⟨p1.kd.trans k, ?_, fun b z => ?_, by simp [parSet, ln], lee'⟩
            · show Sim K dr B0 H' ((parSet ρ is es ds).set i (slotOf (isFr e) (.list es'))) ((setV σ is vs).set i (some (.ref a))) st'
              rw [hsl]
              have nda : a ≠ dr.a := fun z => S.fresh hn (.inl (by rw [z]; exact S.bdr))
              refine S2.setOw (fun z => ?_) S.bdr S.bsp (k.keep a _ nda ha) (Reps.kp k (fun b z => .inl (.inl (by rw [z]; exact S.bdr))) _ _ (Reps.anti (fun b z => ?_) _ _ r)) hil (fun _ z => z) S.bdr S.bsp (fun j f c q1 q2 => ?_)
              · rcases z with z | z
                · exact S.fresh hn (.inl z)
                · rcases ow a z with z | z
                  · exact S.fresh hn (.inr z)
                  · rw [ha] at z; cases z
              · rcases z with (z | z) | z
                · exact .inl (.inl (.inl z))
                · exact .inl (.inr z)
                · rcases ow b z with z | z
                  · exact .inl (.inl (.inr z))
                  · exact .inr z
              · obtain ⟨c', e1, nb, nd, o⟩ := S2.le j f q1
                obtain ⟨z1, z2⟩ := lee j f c q1 q2
                obtain ⟨c2, e2, nb2, _⟩ := S.le j f z1
                rw [z2] at e2
                cases e2
                exact nb2
            · obtain ⟨j, f, q1, q2⟩ : Ows ((parSet ρ is es ds).set i (slotOf (isFr e) (.list es'))) ((setV σ is vs).set i (some (.ref a))) b := z
              rcases set_get q2 with ⟨_, _, z2⟩ | ⟨ne, q2⟩
              · cases z2
                exact .inr hn
              · rcases set_get q1 with ⟨z, _⟩ | ⟨_, q1⟩
                · exact absurd z ne
                · exact (ow b ⟨j, f, q1, q2⟩).imp id (old b)
end
end Pf

namespace Pf
open PySem PySem.Spec PyProof.Rows L2
variable [Mode]

def locB (sc : Scope) (x : Str) : Bool := decide (sc.names.lookup x = some .local)
/-- a name that is kept: plain, or in a cell -/
def lcB (sc : Scope) (x : Str) : Bool := decide (sc.names.lookup x = some .local) || decide (sc.names.lookup x = some .cell)
theorem lc_of {sc : Scope} {x : Str} (h : lcB sc x = true) : Loc sc x := by
  unfold lcB at h
  rcases Bool.or_eq_true_iff.mp h with h | h
  · exact .inl (of_decide_eq_true h)
  · exact .inr (of_decide_eq_true h)
def fnB (sc : Scope) : Bool := decide (sc.kind = .function)
def swB (sc : Scope) (e : Expr) (y : Str) (py : Pos) : Bool := match e with
  | .ListComp _ _ s p => py.line == p.line && !(s.names.any fun (n, k) => n == y && (k == .local || k == .cell))
  | .DictComp _ _ _ s p => py.line == p.line && !(s.names.any fun (n, k) => n == y && (k == .local || k == .cell))
  | _ => false
theorem sw_toE {N : List Str} {G : Nm} {e : Ex} {t : PTr} {y : Str} {py : Pos} {l : Nat} {env : Env} (hk : env.scope.kind = .function) (hy : env.scope.names.lookup y = some .local) :
    swapsWith (toE N G e t) (some (.Name y py)) l env = pure (swB env.scope (toE N G e t) y py) := by
  have ky : env.kindOf y = some .local := hy
  have hb : env.blockKind = .function := by unfold Env.blockKind; rw [hk]; rfl
  cases e <;> first
    | rfl
    | (unfold toE swapsWith swB
       simp only [hb, ky, Expr.pos]
       rfl)
theorem sw_cell {N : List Str} {G : Nm} {e : Ex} {t : PTr} {y : Str} {py : Pos} {l : Nat} {env : Env} (hy : env.scope.names.lookup y = some .cell) :
    swapsWith (toE N G e t) (some (.Name y py)) l env = pure false := by
  have ky : env.kindOf y = some .cell := hy
  cases e <;> first
    | rfl
    | (unfold toE swapsWith
       simp only [ky]
       have z : ((some NameKind.cell : Option NameKind) == some NameKind.local) = false := rfl
       simp only [z, Bool.and_false, Bool.false_and])
/-- a dict comprehension that is not stored in a local name at once -/
def isDc : Ex → Bool
  | .dc _ _ _ _ _ => true
  | _ => false
def dcOk (sc : Scope) (e : Ex) (x : Expr) (y : Str) (py : Pos) : Bool := !isDc e || (!swB sc x y py || decide (sc.names.lookup y = some .cell))
theorem sw_lc {N : List Str} {G : Nm} {e : Ex} {t : PTr} {y : Str} {py : Pos} {sc : Scope} (hl : sc.names.lookup y = some .local) (ho : dcOk sc e (toE N G e t) y py = true) (h : swB sc (toE N G e t) y py = true) : isLc e = true := by
  have hd : isDc e = false := by
    cases z : isDc e with
    | false => rfl
    | true =>
      unfold dcOk at ho
      rw [z, h, hl] at ho
      exact absurd ho (by decide)
  cases e <;> first
    | rfl
    | (exact Bool.noConfusion (show true = false from hd))
    | (exact absurd h (by unfold toE swB; exact Bool.false_ne_true))
theorem sw_app {N : List Str} {G : Nm} {e : Expr} {tg : Expr} {l : Nat} {env : Env} (h : ∀ x p, tg ≠ .Name x p) (hl : match e with | .SetComp _ _ _ _ => False | .DictComp _ _ _ _ _ => True | _ => True) : swapsWith e (some tg) l env = pure false := by
  unfold swapsWith
  cases e <;> first
    | rfl
    | exact hl.elim
    | (cases tg <;> first | rfl | exact absurd rfl (h _ _))
theorem sw_sub {N : List Str} {G : Nm} {e : Ex} {t : PTr} {tg : Expr} {l : Nat} {env : Env} (h : ∀ x p, tg ≠ .Name x p) : swapsWith (toE N G e t) (some tg) l env = pure false :=
  sw_app (N := N) (G := G) h (by cases e <;> exact trivial)

def isStar : Expr → Bool
  | .Starred .. => true
  | _ => false
theorem star_toE' (N : List Str) (G : Nm) (e : Ex) (t : PTr) : isStar (toE N G e t) = false := by cases e <;> rfl
theorem sw_none {tgs : List Expr} {vs : List Expr} {k1 k2 : Nat} {p1 p2 : Pos} {env : Env} (h : (vs.all (foldedForSure 8) || !(tgs.length == 2 || tgs.length == 3)) = true) : swappedStores [.Tuple tgs k1 p1] (.Tuple vs k2 p2) env = pure none := by
  rcases Bool.or_eq_true_iff.mp h with h | h
  · unfold swappedStores
    simp only [h]
    repeat' split
    all_goals first | rfl | skip
    all_goals simp_all
  · unfold swappedStores
    simp only [h, Bool.true_or]
    rfl
theorem sw_two {x y : Str} {a b : Expr} {px py pt pt2 : Pos} {kt k2 : Nat} {env : Env} (hb : env.blockKind = .function) (hx : env.scope.names.lookup x = some .local) (hy : env.scope.names.lookup y = some .local) (hl : (py.line == px.line) = true) (hne : (y == x) = false)
    (hsa : isStar a = false) (hsb : isStar b = false) (hf : [a, b].all (foldedForSure 8) = false) (hc : [a, b].all (constantsAlone 8) = false) :
    swappedStores [.Tuple [.Name x px, .Name y py] kt pt] (.Tuple [a, b] k2 pt2) env = pure (some [x, y]) := by
  have kx : env.kindOf x = some .local := hx
  have ky : env.kindOf y = some .local := hy
  have ed : [x, y].eraseDups = [x, y] := by simp [List.eraseDups_cons, List.filter, hne]
  unfold swappedStores
  simp only [hb, hf, hc]
  simp [List.filterMap, kx, ky, hl, Expr.pos, ed]
  intro h
  rcases h with h | h
  · cases a <;> first | (cases h; done) | (cases hsa; done)
  · cases b <;> first | (cases h; done) | (cases hsb; done)
theorem sw_three {x y z : Str} {a b c : Expr} {px py pz pt pt2 : Pos} {kt k2 : Nat} {env : Env} (hb : env.blockKind = .function) (hx : env.scope.names.lookup x = some .local) (hy : env.scope.names.lookup y = some .local) (hz : env.scope.names.lookup z = some .local) (hl : (py.line == px.line) = true) (hl2 : (pz.line == px.line) = true) (hne : (y == x) = false) (hne2 : (z == x) = false) (hne3 : (z == y) = false)
    (hsa : isStar a = false) (hsb : isStar b = false) (hsc : isStar c = false) (hf : [a, b, c].all (foldedForSure 8) = false) (hc : [a, b, c].all (constantsAlone 8) = false) :
    swappedStores [.Tuple [.Name x px, .Name y py, .Name z pz] kt pt] (.Tuple [a, b, c] k2 pt2) env = pure (some [x, y, z]) := by
  have kx : env.kindOf x = some .local := hx
  have ky : env.kindOf y = some .local := hy
  have kz : env.kindOf z = some .local := hz
  have ed : [x, y, z].eraseDups = [x, y, z] := by simp [List.eraseDups_cons, List.filter, hne, hne2, hne3]
  unfold swappedStores
  simp only [hb, hf, hc]
  simp [List.filterMap, kx, ky, kz, hl, hl2, Expr.pos, ed]
  intro h
  rcases h with h | h | h
  · cases a <;> first | (cases h; done) | (cases hsa; done)
  · cases b <;> first | (cases h; done) | (cases hsb; done)
  · cases c <;> first | (cases h; done) | (cases hsc; done)
theorem fm_lt {α β : Type} (f : α → Option β) : ∀ (l : List α), (∃ x ∈ l, f x = none) → (l.filterMap f).length < l.length
  | [], h => by obtain ⟨_, h, _⟩ := h; cases h
  | x :: l, h => by
    cases e : f x with
    | none =>
      rw [List.filterMap_cons_none e]
      exact Nat.lt_succ_of_le (List.length_filterMap_le _ _)
    | some y =>
      rw [List.filterMap_cons_some e]
      obtain ⟨z, hz, hn⟩ := h
      rcases List.mem_cons.mp hz with rfl | hz
      · rw [e] at hn; cases hn
      · exact Nat.succ_lt_succ (fm_lt f l ⟨z, hz, hn⟩)
theorem sw_cellN {tgs : List Expr} {vs : List Expr} {k1 k2 : Nat} {p1 p2 : Pos} {env : Env} (h : ∃ x p, Expr.Name x p ∈ tgs ∧ env.scope.names.lookup x ≠ some .local) : swappedStores [.Tuple tgs k1 p1] (.Tuple vs k2 p2) env = pure none := by
  obtain ⟨x, p, hm, hl⟩ := h
  have hk : env.kindOf x ≠ some .local := hl
  unfold swappedStores
  simp only
  have hlt : ∀ line : Nat, ((tgs.filterMap fun
    | .Name id pos => if env.kindOf id == some .local && pos.line == line then some id else none
    | _ => none).length != tgs.length) = true := fun line => by
    have z := fm_lt (fun (t : Expr) => match t with
      | .Name id pos => if env.kindOf id == some .local && pos.line == line then some id else none
      | _ => none) tgs ⟨_, hm, by
        have : (env.kindOf x == some NameKind.local) = false := by
          cases e : env.kindOf x with
          | none => rfl
          | some k => cases k <;> first | rfl | exact absurd e hk
        simp [this]⟩
    simp only [bne_iff_ne, ne_eq]
    omega
  repeat' split
  all_goals first
    | rfl
    | (rename_i b1 b2 b3 b4 b5; exact absurd (Bool.or_eq_true_iff.mpr (.inl (hlt _))) b3)
    | (rename_i b1 b2 b3 b4; exact absurd (Bool.or_eq_true_iff.mpr (.inl (hlt _))) b3)
end Pf

namespace Pf
open PySem PySem.Spec PyProof.Rows L2
variable [Mode]

section
variable {X : Cx} {dr : Dr} {Γ : Gam} {N : List Str} {G : Nm} {wr : Str → Bool} {t : PTr} {pos : Pos}
theorem ite_opt {α : Type} {c : Prop} [Decidable c] {x : Option α} {y : α} (h : (if c then x else none) = some y) : c ∧ x = some y := by
  by_cases hc : c
  · rw [if_pos hc] at h
    exact ⟨hc, h⟩
  · rw [if_neg hc] at h
    cases h
theorem set_read {e : Ex} {i : Nat} {En : L2.Ends} {σ : L2.St} {H : Hp} (h : tS X.K dr Γ (.set i e) En σ H) : tE X.K dr Γ e σ H fun x H1 => gName i x σ H1 En.nx := by
  obtain ⟨B0, ρ, st, o, S, h, g⟩ := h
  simp only [evS] at h
  obtain ⟨⟨hw, hi⟩, h⟩ := ite_opt h
  obtain ⟨⟨d, s1⟩, h1, rfl⟩ := Option.map_eq_some_iff.mp h
  refine ⟨B0, ρ, st, d, s1, S, h1, fun v H' p => ?_⟩
  obtain ⟨S', sp⟩ := set_sim S p hw hi
  exact g _ _ S' sp
theorem s_set (g : Good N G Γ X.env.scope wr X) {e : Ex} {i : Nat} (hk : X.env.scope.kind = .function) (hi : i < N.length) (hl : Loc X.env.scope (nmOf N i)) (hf : X.fn (nmOf N i) = true ∨ X.env.scope.names.lookup (nmOf N i) = some .local) (ho : dcOk X.env.scope e (toE N G e (t.s 0)) (nmOf N i) (t.p 1) = true) (se : SE X dr Γ N G e (t.s 0)) :
    PS X (toS N G (.set i e) t) (tS X.K dr Γ (.set i e)) := by
  have hn := names_get g hi
  have nd : X.N.Nodup := by rw [g.hN]; exact g.nd
  rcases hl with hl | hl
  rotate_left
  · exact PS.imp (ps_set nd hn (.inr hl) se.pe (sw_cell hl) hf) fun En σ H h => set_read h
  have sw := sw_toE (N := N) (G := G) (e := e) (t := t.s 0) (py := t.p 1) (l := (t.p 0).line) hk hl
  cases hb : swB X.env.scope (toE N G e (t.s 0)) (nmOf N i) (t.p 1) with
  | false =>
    rw [hb] at sw
    exact PS.imp (ps_set nd hn (.inl hl) se.pe sw (.inr hl)) fun En σ H h => set_read h
  | true =>
    rw [hb] at sw
    obtain ⟨r, p, q⟩ := se.sl (sw_lc hl ho hb)
    exact PS.imp (p i _ _ _ hn hl sw) fun En σ H h => q _ _ _ (set_read h)
theorem setD_read {e : Ex} {i : Nat} {En : L2.Ends} {σ : L2.St} {H : Hp} (h : tS X.K dr Γ (.setD i e) En σ H) : tMk X.K dr Γ e σ H fun x H1 => gName i x σ H1 En.nx := by
  obtain ⟨B0, ρ, st, o, S, h, g⟩ := h
  simp only [evS] at h
  obtain ⟨⟨hm, hi⟩, h⟩ := ite_opt h
  obtain ⟨⟨d, s1⟩, h1, rfl⟩ := Option.map_eq_some_iff.mp h
  refine ⟨B0, ρ, st, d, s1, S, h1, fun c u es H1 k w hc e c0 => ?_⟩
  subst e
  have kk : Same H1 (upd H1 c u) := same_new hc
  have k2 : KD dr H (upd H1 c u) := k.trans (.of_same kk)
  have hn : H c = none := by
    cases z : H c with
    | none => rfl
    | some o =>
      by_cases hd : c = dr.a
      · subst hd
        rw [w.1] at hc
        cases hc
      · rw [k.keep c o hd z] at hc
        cases hc
  have S2 := S.add hn k2 (w.same kk) (by rw [upd_same]; exact fun z => by cases z)
  refine g _ _ (S2.setOwG (B1 := B0) (S.fresh hn) S.bdr S.bsp (dd := .dict es) ⟨u, upd_same, (ConD.anti (fun b z => ?_) c0).same kk⟩ hi (fun _ z => z) S.bdr S.bsp (fun j d c q1 q2 => ?_)) (.kdo k2 fun b ⟨j, f, q1, q2⟩ => ?_)
  · rcases z with (z | z) | z
    · exact .inl (.inl z)
    · exact .inr (by rw [z]; exact hc)
    · exact .inl (.inr z)
  · obtain ⟨c', e1, nb, _⟩ := S.le j d q1
    rw [q2] at e1
    cases e1
    exact nb
  · rcases set_get q1 with ⟨rfl, _, z⟩ | ⟨ne, q1⟩
    · rcases set_get q2 with ⟨_, _, z2⟩ | ⟨ne, _⟩
      · cases z2
        exact .inr hn
      · exact absurd rfl ne
    · rcases set_get q2 with ⟨z, _⟩ | ⟨_, q2⟩
      · exact absurd z ne
      · exact .inl ⟨j, f, q1, q2⟩
theorem s_setD (g : Good N G Γ X.env.scope wr X) {e : Ex} {i : Nat} (hk : X.env.scope.kind = .function) (hi : i < N.length) (hm : isMk e = true) (hl : Loc X.env.scope (nmOf N i)) (hf : X.fn (nmOf N i) = true ∨ X.env.scope.names.lookup (nmOf N i) = some .local) (ho : dcOk X.env.scope e (toE N G e (t.s 0)) (nmOf N i) (t.p 1) = true) (se : SE X dr Γ N G e (t.s 0)) :
    PS X (toS N G (.setD i e) t) (tS X.K dr Γ (.setD i e)) := by
  have hn := names_get g hi
  have nd : X.N.Nodup := by rw [g.hN]; exact g.nd
  have pm := se.mkd hm
  rcases hl with hl | hl
  rotate_left
  · exact PS.imp (ps_set nd hn (.inr hl) pm (sw_cell hl) hf) fun En σ H h => setD_read h
  have sw := sw_toE (N := N) (G := G) (e := e) (t := t.s 0) (py := t.p 1) (l := (t.p 0).line) hk hl
  cases hb : swB X.env.scope (toE N G e (t.s 0)) (nmOf N i) (t.p 1) with
  | false =>
    rw [hb] at sw
    exact PS.imp (ps_set nd hn (.inl hl) pm sw (.inr hl)) fun En σ H h => setD_read h
  | true =>
    have z := sw_lc hl ho hb
    cases e <;> first | (cases hm; done) | (cases z; done)
theorem Bnd.stp {K : PySem.W.Frag} {ρ ρ' : List Slot} {σ σ' : L2.St} {sl : List Nat} (b : Bnd ρ ρ' σ σ' sl) {H : Hp} : Stp dr ρ σ H ρ' σ' H := ⟨.refl, fun c z => .inl (b.ows c z)⟩
theorem s_setT (g : Good N G Γ X.env.scope wr X) {e : Ex} {tg : Tg} (hg : PG X (toTg N tg (t.s 0)) (gT X.K dr tg)) (ht : ∃ gs, tg = .tp gs) (hw : swappedStores [toTg N tg (t.s 0)] (toE N G e (t.s 1)) X.env = pure none) (pe : PE X (toE N G e (t.s 1)) (tE X.K dr Γ e)) :
    PS X (toS N G (.setT tg e) t) (tS X.K dr Γ (.setT tg e)) := by
  obtain ⟨gs, rfl⟩ := ht
  refine PS.imp (ps_asg pe hg (show swapsWith (toE N G e (t.s 1)) (some (toTg N (.tp gs) (t.s 0))) (t.p 0).line X.env = pure false from sw_sub (fun _ _ z => by cases z)) hw (by rw [asg_toTg]; rfl)) ?_
  rintro En σ H ⟨B0, ρ, st, o, S, h, gl⟩
  simp only [evS] at h
  split at h
  · cases h
  rename_i hno
  simp only [Option.bind_eq_some_iff, Option.map_eq_some_iff] at h
  obtain ⟨⟨d, s1⟩, h1, ρ', h2, rfl⟩ := h
  refine ⟨B0, ρ, st, d, s1, S, h1, fun v H' p => ?_⟩
  have S1 := S.post p
  refine ⟨B0, ρ, s1, d, ρ', S1, .inl (p.rep (by simpa using hno)), h2, fun σ' S' b => ?_⟩
  exact gl _ _ S' (.kdo p.kd fun c z => .inl (b.ows c z))
theorem par_read {es : Exs} {is : List Nat} {En : L2.Ends} {σ : L2.St} {H : Hp} (h : tS X.K dr Γ (.par is es) En σ H) : tFs X.K dr Γ es σ H fun vs H1 => En.nx (setV σ is vs) H1 := by
  obtain ⟨B0, ρ, st, o, S, h, g⟩ := h
  simp only [evS] at h
  obtain ⟨⟨hw, hl, hnd, hi⟩, h⟩ := ite_opt h
  obtain ⟨⟨ds, s1⟩, h1, rfl⟩ := Option.map_eq_some_iff.mp h
  refine ⟨B0, ρ, st, ds, s1, S, hw, h1, fun vs H' p => ?_⟩
  have hi' : ∀ i ∈ is, i < ρ.length := fun i m => of_decide_eq_true (List.all_eq_true.mp hi i m)
  obtain ⟨k, S', ow, _⟩ := par_sim p S hl hi'
  exact g _ _ S' (.kdo k ow)
def gNs : List Nat → TGs
  | [] => gNil
  | i :: is => gCons (gName i) (gNs is)
def setF (σ : L2.St) : List Nat → List V → L2.St
  | i :: is, v :: vs => setF (σ.set i (some v)) is vs
  | _, _ => σ
theorem setV_set {i : Nat} {x : Option V} : ∀ (is : List Nat) (vs : List V) (σ : L2.St), i ∉ is → (setV σ is vs).set i x = setV (σ.set i x) is vs
  | [], _, _, _ => rfl
  | _ :: _, [], _, _ => rfl
  | j :: is, v :: vs, σ, h => by
    have h1 : i ≠ j := fun e => h (by rw [e]; exact List.mem_cons_self)
    have h2 : i ∉ is := fun e => h (List.mem_cons_of_mem _ e)
    show ((setV σ is vs).set j (some v)).set i x = (setV (σ.set i x) is vs).set j (some v)
    rw [List.set_comm _ _ (Ne.symm h1), setV_set is vs σ h2]
theorem setF_eq : ∀ (is : List Nat) (vs : List V) (σ : L2.St), is.Nodup → setF σ is vs = setV σ is vs
  | [], _, _, _ => rfl
  | _ :: _, [], _, _ => rfl
  | j :: is, v :: vs, σ, h => by
    have h' := List.nodup_cons.mp h
    show setF (σ.set j (some v)) is vs = (setV σ is vs).set j (some v)
    rw [setF_eq is vs _ h'.2, setV_set is vs σ h'.1]
theorem gNs_read {Q : L2.St → Hp → Prop} {H : Hp} : ∀ {is : List Nat} {vs : List V} {σ : L2.St}, is.length = vs.length → Q (setF σ is vs) H → gNs is vs σ H Q
  | [], [], _, _, q => ⟨rfl, q⟩
  | _ :: _, v :: vs, _, h, q => ⟨v, vs, rfl, gNs_read (by simpa using h) q⟩
theorem names_len (N : List Str) (env : Env) : ∀ (is : List Nat) (ts : List PTr), (assignEach (names N is ts) env).length = is.length ∧ (assignEach (names N is ts) env).findIdx? (·.1) = none
  | [], _ => ⟨rfl, rfl⟩
  | i :: is, ts => by
    have ih := names_len N env is ts.tail
    have e : assignEach (names N (i :: is) ts) env = (false, assign (.Name (N.getD i Str.empty) ((hdT ts).p 0)) env) :: assignEach (names N is ts.tail) env := rfl
    rw [e]
    refine ⟨by simp [ih.1], ?_⟩
    rw [List.findIdx?_cons]
    simp [ih.2]
theorem pgs_names (g : Good N G Γ X.env.scope wr X) : ∀ (is : List Nat) (ts : List PTr), (∀ i ∈ is, i < N.length ∧ wr (nmOf N i) = true) → PGs X (names N is ts) (gNs is)
  | [], _, _ => pgs_nil
  | i :: is, ts, h => by
    obtain ⟨h1, h2⟩ := h i List.mem_cons_self
    obtain ⟨l, f⟩ := g.wrt _ h2
    exact pgs_cons (pg_name (by rw [g.hN]; exact g.nd) (names_get g h1) l f) (pgs_names g is ts.tail fun j hj => h j (List.mem_cons_of_mem _ hj)) rfl
theorem pf_len {K : PySem.W.Frag} {ρ : List Slot} {σ : L2.St} {st' : DS} {H' : Hp} : ∀ {es : Exs} {B0 : Addr → Prop} {H : Hp} {ds : List D} {vs : List V}, PF K dr ρ σ st' H' es B0 H ds vs → vs.length = es.len
  | .nil, _, _, ds, vs, p => by
    cases ds <;> cases vs <;> first | rfl | exact p.elim
  | .cons e es, _, _, ds, vs, p => by
    cases ds with
    | nil => cases vs <;> exact p.elim
    | cons d ds =>
      cases vs with
      | nil => exact p.elim
      | cons v vs =>
        obtain ⟨_, _, _, _, pf⟩ := p
        simp [Exs.len, pf_len pf]
theorem s_parN (g : Good N G Γ X.env.scope wr X) {is : List Nat} {es : Exs} (hw : ∀ i ∈ is, i < N.length ∧ wr (nmOf N i) = true) (hs : swappedStores [.Tuple (names N is (t.s 0).ts) (t.s 0).k ((t.s 0).p 0)] (.Tuple (toEs N G es (t.s 1).ts) (t.s 1).k ((t.s 1).p 0)) X.env = pure none) (pa : PA X (toEs N G es (t.s 1).ts) (tFs X.K dr Γ es)) :
    PS X (toS N G (.parN is es) t) (tS X.K dr Γ (.parN is es)) := by
  obtain ⟨n1, n2⟩ := names_len N X.env is (t.s 0).ts
  refine PS.imp (ps_asg (pe_tup pa) (pg_tup (pos := (t.s 0).p 0) (k := (t.s 0).k) g.calm (pgs_names g is (t.s 0).ts hw) n1 n2) rfl hs rfl) ?_
  rintro En σ H ⟨B0, ρ, st, o, S, h, gl⟩
  simp only [evS] at h
  obtain ⟨⟨hw, hl, hnd, hi, hcap⟩, h⟩ := ite_opt h
  obtain ⟨⟨ds, s1⟩, h1, rfl⟩ := Option.map_eq_some_iff.mp h
  refine ⟨B0, ρ, st, ds, s1, S, hw, h1, fun vs H' p => ?_⟩
  have hv := pf_len p
  refine ⟨by rw [hv, ← cap_eq]; exact hcap, fun q hq => ?_⟩
  have hi' : ∀ i ∈ is, i < ρ.length := fun i m => of_decide_eq_true (List.all_eq_true.mp hi i m)
  obtain ⟨k, S', ow, _⟩ := par_sim p S hl hi'
  have kk : Same H' (upd H' q (.tup vs)) := same_new hq
  refine ⟨q, vs, rfl, SqT.of upd_same, by rw [hv, hl], gNs_read (by rw [hv, hl]) ?_⟩
  rw [setF_eq is vs σ hnd]
  exact gl _ _ (S'.same kk) (.kdo (k.trans (.of_same kk)) ow)
theorem s_app (g : Good N G Γ X.env.scope wr X) {e : Ex} {i : Nat} (hv : wfE N G (.var i) (.n 0 [] []) X.env.scope = true) (hline : ((t.p 2).endLine == (t.p 1).line) = true) (pe : PE X (toE N G e (t.s 0)) (tE X.K dr Γ e)) :
    PS X (toS N G (.app i e) t) (tS X.K dr Γ (.app i e)) := by
  simp only [wfE, Bool.and_eq_true, decide_eq_true_eq] at hv
  have nb := nameB_of hv.2
  have pv : PE X (.Name (N.getD i Str.empty) (t.p 3)) (tVar i) := pe_var (names_get g hv.1.1) (vis_of hv.1.2) nb.1 nb.2
  have pa : PA X [toE N G e (t.s 0)] (tEs X.K dr Γ (.cons e .nil)) := a_cons pe a_nil (star_toE N G e (t.s 0) _ _)
  refine PS.imp (ps_expr (pe_bm PySem.F.plainAttrs_list PySem.F.slot_list_append PySem.F.type_list_append mt_append pv pa ?_ ?_ hline (star_toE N G e (t.s 0) _ _) rfl)) ?_
  · rfl
  · rw [star_toE N G e (t.s 0)]; rfl
  rintro En σ H ⟨B0, ρ, st, o, S, h, gl⟩
  simp only [evS] at h
  split at h
  · cases h
  rename_i hno
  have hno : isOw ρ e = false := by simpa using hno
  simp only [Option.bind_eq_some_iff] at h
  obtain ⟨⟨d, s1⟩, h1, h⟩ := h
  split at h
  rotate_left
  · cases h
  rename_i ds hs
  obtain ⟨hz, h⟩ := ite_some h
  cases h
  obtain ⟨a, ea, na, vs, hvs, r⟩ := S.ow i _ hs
  refine ⟨.ref a, ea, .inl ⟨rfl, vs, SqL.of hvs⟩, B0, ρ, st, [d], s1, S, ?_, fun ws H' k w rT rr => ?_⟩
  · show evEs Γ (.cons e .nil) ρ st = _
    simp only [evEs, h1, Option.bind_some, Option.map_some]
  have rr := rr.1 (by simp [anyOw, hno])
  cases rr with
  | @cons x _ _ _ rx rn =>
    cases rn
    have S1 := S.kd k w
    have nda : a ≠ dr.a := fun z => na (by rw [z]; exact S.bdr)
    have hvs' := k.keep a _ nda hvs
    have wr := S1.write hs ea hvs' (vs' := vs ++ [x]) (ds := ds ++ [d]) (Reps.append (Reps.kp k S.bd _ _ r) (.cons rx .nil))
    refine ⟨a, vs, x, rfl, rfl, hvs', by rw [r.length, ← cap_eq]; exact hz, ?_⟩
    refine gl _ _ wr.1 ⟨Kp.trans (k.wide fun _ z => .inl z) (wr.2.wide fun b z => .inr ⟨i, _, hs, by rw [z]; exact ea⟩), fun b ⟨j, f, q1, q2⟩ => ?_⟩
    rcases set_get q1 with ⟨rfl, _, z⟩ | ⟨ne, q1⟩
    · exact .inl ⟨j, _, hs, q2⟩
    · exact .inl ⟨j, f, q1, q2⟩

theorem s_popS (g : Good N G Γ X.env.scope wr X) {i j : Nat} (hk : X.env.scope.kind = .function) (hj : j < N.length) (hl : Loc X.env.scope (nmOf N j)) (hf : X.fn (nmOf N j) = true ∨ X.env.scope.names.lookup (nmOf N j) = some .local) (hv : wfE N G (.var i) (.n 0 [] []) X.env.scope = true) (hline : ((t.p 3).endLine == (t.p 2).line) = true) :
    PS X (toS N G (.popS j i) t) (tS X.K dr Γ (.popS j i)) := by
  simp only [wfE, Bool.and_eq_true, decide_eq_true_eq] at hv
  have nb := nameB_of hv.2
  have pv : PE X (.Name (N.getD i Str.empty) (t.p 4)) (tVar i) := pe_var (names_get g hv.1.1) (vis_of hv.1.2) nb.1 nb.2
  have pc := pe_bm0 (cpos := t.p 2) PySem.F.plainAttrs_list PySem.F.slot_list_pop PySem.F.type_list_pop mt_pop pv rfl hline
  have hn := names_get g hj
  have nd : X.N.Nodup := by rw [g.hN]; exact g.nd
  refine PS.imp (ps_set nd hn hl pc (by rfl) hf) ?_
  rintro En σ H ⟨B0, ρ, st, o, S, h, gl⟩
  simp only [evS] at h
  obtain ⟨⟨hij, hjl⟩, h⟩ := ite_opt h
  split at h
  rotate_left
  · cases h
  rename_i ds hs
  obtain ⟨d, hd, rfl⟩ := Option.map_eq_some_iff.mp h
  obtain ⟨a, ea, na, vs, hvs, r⟩ := S.ow i _ hs
  have hd' : ds[ds.length - 1]? = some d := by rw [← List.getLast?_eq_getElem?]; exact hd
  obtain ⟨v, hv1, rv⟩ := r.get hd'
  rw [← r.length] at hv1
  have rd : Reps X.K dr H (BB B0 ρ σ) vs.dropLast ds.dropLast := by
    have z := Reps.take (ds.length - 1) r
    rw [← List.dropLast_eq_take] at z
    rw [show ds.length - 1 = vs.length - 1 by rw [r.length], ← List.dropLast_eq_take] at z
    exact z
  have wr := S.write hs ea hvs (vs' := vs.dropLast) (ds := ds.dropLast) rd
  refine ⟨.ref a, ea, .inl ⟨rfl, vs, SqL.of hvs⟩, a, vs, v, rfl, rfl, hvs, hv1, ?_⟩
  have il := (List.getElem?_eq_some_iff.mp hs).1
  have bb : ∀ b, BB B0 (ρ.set i (.ow (.list ds.dropLast))) σ b → BB B0 ρ σ b ∨ H b = none := fun b z => by
    rcases z with z | ⟨m, f, q1, q2⟩
    · exact .inl (.inl z)
    · rcases set_get q1 with ⟨rfl, _, _⟩ | ⟨_, q1⟩
      · exact .inl (.inr ⟨m, _, hs, q2⟩)
      · exact .inl (.inr ⟨m, f, q1, q2⟩)
  have rv2 : Rep X.K dr (upd H a (.lst vs.dropLast)) (BB B0 (ρ.set i (.ow (.list ds.dropLast))) σ) v d :=
    Rep.kp wr.2 (fun b z => .inr ⟨i, _, by rw [List.getElem?_set_self il], by rw [z]; exact ea⟩) _ _ (Rep.anti bb _ _ rv)
  have S2 := wr.1.setSh (i := j) (by rw [List.length_set]; exact hjl) rv2
  refine gl _ _ S2 ⟨wr.2.wide fun b z => .inr ⟨i, _, hs, by rw [z]; exact ea⟩, fun b q => ?_⟩
  have q := Ows.sub (by intro _ e; cases e) q
  obtain ⟨m, f, q1, q2⟩ := q
  rcases set_get q1 with ⟨rfl, _, _⟩ | ⟨_, q1⟩
  · exact .inl ⟨m, _, hs, q2⟩
  · exact .inl ⟨m, f, q1, q2⟩
theorem s_ext (g : Good N G Γ X.env.scope wr X) {e : Ex} {i : Nat} (hv : wfE N G (.var i) (.n 0 [] []) X.env.scope = true) (hline : ((t.p 2).endLine == (t.p 1).line) = true) (pe : PE X (toE N G e (t.s 0)) (tE X.K dr Γ e)) :
    PS X (toS N G (.ext i e) t) (tS X.K dr Γ (.ext i e)) := by
  simp only [wfE, Bool.and_eq_true, decide_eq_true_eq] at hv
  have nb := nameB_of hv.2
  have pv : PE X (.Name (N.getD i Str.empty) (t.p 3)) (tVar i) := pe_var (names_get g hv.1.1) (vis_of hv.1.2) nb.1 nb.2
  have pa : PA X [toE N G e (t.s 0)] (tEs X.K dr Γ (.cons e .nil)) := a_cons pe a_nil (star_toE N G e (t.s 0) _ _)
  refine PS.imp (ps_expr (pe_bm PySem.F.plainAttrs_list PySem.F.slot_list_extend PySem.F.type_list_extend mt_extend pv pa ?_ ?_ hline (star_toE N G e (t.s 0) _ _) rfl)) ?_
  · rfl
  · rw [star_toE N G e (t.s 0)]; rfl
  rintro En σ H ⟨B0, ρ, st, o, S, h, gl⟩
  simp only [evS, Option.bind_eq_some_iff] at h
  obtain ⟨⟨d, s1⟩, h1, h⟩ := h
  split at h
  rotate_left
  · cases h
  rename_i ds es hs hd
  have hd : d = .list es := hd
  subst hd
  obtain ⟨hz, h⟩ := ite_some h
  cases h
  obtain ⟨a, ea, na, vs, hvs, r⟩ := S.ow i _ hs
  refine ⟨.ref a, ea, .inl ⟨rfl, vs, SqL.of hvs⟩, B0, ρ, st, [.list es], s1, S, ?_, fun ws H' k w rT _ => ?_⟩
  · show evEs Γ (.cons e .nil) ρ st = _
    simp only [evEs, h1, Option.bind_some, Option.map_some]
  obtain ⟨x, rfl, rx⟩ := rT.one
  obtain ⟨b, us, rfl, hb, ru⟩ := rx.list
  have S1 := S.kd k w
  have nda : a ≠ dr.a := fun z => na (by rw [z]; exact S.bdr)
  have hvs' := k.keep a _ nda hvs
  have wr := S1.write hs ea hvs' (vs' := vs ++ us) (ds := ds ++ es) (Reps.append (Reps.kp k S.bd _ _ r) ru)
  refine ⟨a, b, vs, us, rfl, rfl, hvs', hb, by rw [r.length, ru.length, ← cap_eq]; exact hz, ?_⟩
  refine gl _ _ wr.1 ⟨Kp.trans (k.wide fun _ z => .inl z) (wr.2.wide fun b z => .inr ⟨i, _, hs, by rw [z]; exact ea⟩), fun b ⟨j, f, q1, q2⟩ => ?_⟩
  rcases set_get q1 with ⟨rfl, _, z⟩ | ⟨ne, q1⟩
  · exact .inl ⟨j, _, hs, q2⟩
  · exact .inl ⟨j, f, q1, q2⟩
theorem set_mix {X : Cx} (hu : X.A.units + 200 < cLine) : PSet X (fun o i v H Q => rSetL o i v H Q ∨ rSetD o i v H Q) := by
  intro pins s σ H o i v ov iv u Q J ro ri rv h
  rcases h with h | h
  · exact set_list pins s σ H o i v ov iv u Q J ro ri rv h
  · exact set_dict (by omega) pins s σ H o i v ov iv u Q J ro ri rv h
theorem s_put (g : Good N G Γ X.env.scope wr X) {e k : Ex} {i : Nat} (hv : wfE N G (.var i) (.n 0 [] []) X.env.scope = true) (pk : PE X (toE N G k (t.s 0)) (tE X.K dr Γ k)) (pe : PE X (toE N G e (t.s 1)) (tE X.K dr Γ e)) :
    PS X (toS N G (.put i k e) t) (tS X.K dr Γ (.put i k e)) := by
  simp only [wfE, Bool.and_eq_true, decide_eq_true_eq] at hv
  have nb := nameB_of hv.2
  have pv : PE X (.Name (N.getD i Str.empty) (t.p 2)) (tVar i) := pe_var (names_get g hv.1.1) (vis_of hv.1.2) nb.1 nb.2
  refine PS.imp (ps_asg pe (pg_sub (pos := t.p 1) pv pk (set_mix g.un) (by intro _; cases k <;> rfl)) (show swapsWith (toE N G e (t.s 1)) (some (.Subscript (.Name (N.getD i Str.empty) (t.p 2)) (toE N G k (t.s 0)) (t.p 1))) (t.p 0).line X.env = pure false from sw_sub (fun _ _ z => by cases z)) rfl rfl) ?_
  rintro En σ H ⟨B0, ρ, st, o, S, h, gl⟩
  simp only [evS] at h
  split at h
  · cases h
  rename_i hno
  have hno : isOw ρ e = false := by simpa using hno
  simp only [Option.bind_eq_some_iff] at h
  obtain ⟨⟨d, s1⟩, h1, ⟨y, s2⟩, h2, h⟩ := h
  split at h
  · rename_i ds n hs hy
    split at h
    rotate_left
    · cases h
    rename_i j hj
    cases h
    obtain ⟨a, ea, na, vs, hvs, r⟩ := S.ow i _ hs
    refine ⟨B0, ρ, st, d, s1, S, h1, fun v H1 p1 => ?_⟩
    have S1 := S.post p1
    refine ⟨.ref a, ea, B0, ρ, s1, y, s2, S1, h2, fun w H2 p2 => ?_⟩
    have S2 := S1.post p2
    have k := p1.kd.trans p2.kd
    have nda : a ≠ dr.a := fun z => na (by rw [z]; exact S.bdr)
    have hvs' := k.keep a _ nda hvs
    have hy' : y = .int n := hy
    subst hy'
    have e2 : w = .int n := p2.repT.int
    have wr := S2.write hs ea hvs' (vs' := vs.set j v) (ds := ds.set j d) (Reps.set j (Rep.kp p2.kd S.bd _ _ (p1.rep hno)) (Reps.kp k S.bd _ _ r))
    refine .inl ⟨a, vs, n, j, rfl, e2, hvs', by rw [r.length]; exact hj, ?_⟩
    refine gl _ _ wr.1 ⟨Kp.trans (k.wide fun _ z => .inl z) (wr.2.wide fun b z => .inr ⟨i, _, hs, by rw [z]; exact ea⟩), fun b ⟨j, f, q1, q2⟩ => ?_⟩
    rcases set_get q1 with ⟨rfl, _, z⟩ | ⟨ne, q1⟩
    · exact .inl ⟨j, _, hs, q2⟩
    · exact .inl ⟨j, f, q1, q2⟩
  · rename_i tt es hs
    obtain ⟨⟨hk, hz⟩, h⟩ := ite_opt h
    cases h
    obtain ⟨a, ea, na, u, hu, c⟩ := S.ow i _ hs
    refine ⟨B0, ρ, st, d, s1, S, h1, fun v H1 p1 => ?_⟩
    have S1 := S.post p1
    refine ⟨.ref a, ea, B0, ρ, s1, y, s2, S1, h2, fun w H2 p2 => ?_⟩
    have S2 := S1.post p2
    have k := p1.kd.trans p2.kd
    have nda : a ≠ dr.a := fun z => na (by rw [z]; exact S.bdr)
    have hu' := k.keep a _ nda hu
    obtain ⟨u', pd, nt, c'⟩ := dput_of hu' (c.kp k S.bd) p2.repT hk (by rw [← cap_eq]; exact hz) (Rep.kp p2.kd S.bd _ _ (p1.rep hno))
    have ut : ∀ xs, u ≠ .tup xs := by cases c <;> (intro _ z; cases z)
    have uf : ∀ x y, u ≠ .frz x y := by cases c <;> (intro _ _ z; cases z)
    have wr := S2.writeG hs ea hu' ut uf (o' := u') (dd := .dict _) fun H' k' q => ⟨u', q, c'.kp k' fun b z => by subst z; exact .inr ⟨i, _, hs, ea⟩⟩
    refine .inr ⟨a, _, rfl, pd, ?_⟩
    refine gl _ _ wr.1 ⟨Kp.trans (k.wide fun _ z => .inl z) (wr.2.wide fun b z => .inr ⟨i, _, hs, by rw [z]; exact ea⟩), fun b ⟨j, f, q1, q2⟩ => ?_⟩
    rcases set_get q1 with ⟨rfl, _, z⟩ | ⟨ne, q1⟩
    · exact .inl ⟨j, _, hs, q2⟩
    · exact .inl ⟨j, f, q1, q2⟩
  · cases h
theorem s_ret {e : Ex} (pe : PE X (toE N G e (t.s 0)) (tE X.K dr Γ e)) : PS X (toS N G (.ret e) t) (tS X.K dr Γ (.ret e)) := by
  refine PS.imp (ps_ret pe) ?_
  rintro En σ H ⟨B0, ρ, st, o, S, h, gl⟩
  simp only [evS] at h
  split at h
  · cases h
  rename_i hno
  have hno : isOw ρ e = false := by simpa using hno
  obtain ⟨⟨d, s1⟩, h1, rfl⟩ := Option.map_eq_some_iff.mp h
  refine ⟨B0, ρ, st, d, s1, S, h1, fun v H1 p => ?_⟩
  exact gl v H1 (p.kd.wide fun _ z => .inl z) p.dw (Rep.anti (fun b z => .inl (.inl z)) _ _ (p.rep hno))
theorem s_iff {c : Ex} {a b : Sms} (pc : PT X (toE N G c (t.s 0)) (tT X.K dr Γ c)) (pa : PSs X (toSs N G a (t.s 1).ts) (tSs X.K dr Γ a)) (pb : PSs X (toSs N G b (t.s 2).ts) (tSs X.K dr Γ b)) :
    PS X (toS N G (.iff c a b) t) (tS X.K dr Γ (.iff c a b)) := by
  refine PS.imp (ps_if pc pa pb) ?_
  rintro En σ H ⟨B0, ρ, st, o, S, h, gl⟩
  simp only [evS, Option.bind_eq_some_iff] at h
  obtain ⟨⟨d, s1⟩, h1, q, h2, h3⟩ := h
  refine ⟨B0, ρ, st, d, s1, q, S, h1, h2, fun H1 k w => ?_⟩
  cases q with
  | true => exact iteT ⟨B0, ρ, s1, o, S.kd k w, h3, gl.kd S k w⟩
  | false => exact iteF ⟨B0, ρ, s1, o, S.kd k w, h3, gl.kd S k w⟩
theorem s_whl {c : Ex} {body : Sms} (po : PassesOwn (model X.prog X.w) X.A X.env X.xe) (pc : PT X (toE N G c (t.s 0)) (tT X.K dr Γ c)) (pb : PSs X (toSs N G body (t.s 1).ts) (tSs X.K dr Γ body)) :
    PS X (toS N G (.whl c body) t) (tS X.K dr Γ (.whl c body)) := by
  refine PS.imp (ps_while po pc pb) ?_
  rintro En σ H ⟨B0, ρ, st, o, S, h, gl⟩
  simp only [evS] at h
  refine ⟨fun m σ H => ∃ ρ st, Sim X.K dr B0 H ρ σ st ∧ whlRun (fun ρ' s => evE Γ c ρ' s) (fun ρ' s => evSs Γ body ρ' s) m ρ st = some o ∧ Goal X.K dr B0 ρ σ H En o, ⟨fuel, ρ, st, S, h, gl⟩, ?_⟩
  rintro m σ1 H1 ⟨ρ1, st1, S1, h1, gl1⟩
  cases m with
  | zero => simp [whlRun] at h1
  | succ m =>
    simp only [whlRun, Option.bind_eq_some_iff] at h1
    obtain ⟨⟨d, s1⟩, h2, q, h3, h4⟩ := h1
    refine ⟨B0, ρ1, st1, d, s1, q, S1, h2, h3, fun H2 k w => ?_⟩
    have S2 := S1.kd k w
    have gl2 := gl1.kd S1 k w
    cases q with
    | false =>
      rw [if_neg Bool.false_ne_true] at h4
      refine iteF ?_
      cases h4
      exact gl2 _ _ S2 .refl
    | true =>
      rw [if_pos rfl] at h4
      refine iteT ?_
      obtain ⟨o', h5, h6⟩ := Option.bind_eq_some_iff.mp h4
      refine ⟨fun σ H => ∃ ρ st, Sim X.K dr B0 H ρ σ st ∧ whlRun (fun ρ' s => evE Γ c ρ' s) (fun ρ' s => evSs Γ body ρ' s) m ρ st = some o ∧ Goal X.K dr B0 ρ σ H En o, fun σ' H' z => ⟨m, Nat.lt_succ_self m, z⟩, ?_⟩
      refine ⟨B0, ρ1, s1, o', S2, h5, ?_⟩
      cases o' with
      | nx ρ' st' => exact fun σ' H' S' sp => ⟨ρ', st', S', h6, gl2.step sp S2.dn S'.dn⟩
      | ct ρ' st' => exact fun σ' H' S' sp => ⟨ρ', st', S', h6, gl2.step sp S2.dn S'.dn⟩
      | bk ρ' st' =>
        cases h6
        exact fun σ' H' S' sp => gl2 _ _ S' sp
      | rt d st' =>
        cases h6
        exact gl2
theorem s_for {tg : Tg} {it : It} {body : Sms} (hpt : isPair it = true → tg.isTp = true) (po : PassesOwn (model X.prog X.w) X.A X.env X.xe) (hc : X.calm = true) (pi : PI X (toTg N tg (t.s 0)) (toIt N G it (t.s 1)) (tI X.K dr Γ it)) (pg : PG X (toTg N tg (t.s 0)) (gT X.K dr tg))
    (pb : PSs X (toSs N G body (t.s 2).ts) (tSs X.K dr Γ body)) : PS X (toS N G (.for_ tg it body) t) (tS X.K dr Γ (.for_ tg it body)) := by
  refine PS.imp (ps_for po hc pi pg pb (fun x => fold_toIt N G it (t.s 1) X.env x)) ?_
  rintro En σ H ⟨B0, ρ, st, o, S, h, gl⟩
  simp only [evS] at h
  split at h
  · cases h
  rename_i hno
  have hno : isOwI ρ it = false := by simpa using hno
  obtain ⟨⟨items, s1⟩, h1, h⟩ := Option.bind_eq_some_iff.mp h
  refine ⟨B0, ρ, st, items, s1, S, h1, fun J H1 k w wk => ?_⟩
  have S1 := S.kd k w
  have gl1 := gl.kd S k w
  have bWr : ∀ b, Wr dr ρ σ b → BB B0 ρ σ b := fun b z => z.elim (fun e => by rw [e]; exact .inl S.bdr) .inr
  have wkk := fun B' (hB : ∀ b, B' b → BB B0 ρ σ b ∨ H1 b = none) (hW : ∀ b, Wr dr ρ σ b → H1 b ≠ none → B' b) => wk (Wr dr ρ σ) B' (fun b hb n => ⟨bWr b hb, fun z => by rw [hno] at z; cases z⟩) hB hW
  refine ⟨fun i m σi Hi => m = items.length - i ∧ i ≤ items.length ∧ ∃ ρi sti, Sim X.K dr B0 Hi ρi σi sti ∧ Stp dr ρ σ H1 ρi σi Hi ∧ forRun (fun ρ' s => evSs Γ body ρ' s) tg (items.drop i) ρi sti = some o, ⟨items.length, rfl, Nat.zero_le _, ρ, s1, S1, .refl, h⟩, ?_⟩
  rintro i m σi Hi ⟨rfl, hile, ρi, sti, Si, sp, hrun⟩
  have gli := gl1.step sp S1.dn Si.dn
  have W0 := wkk (fun b => BB B0 ρ σ b ∨ BB B0 ρi σi b) (fun b z => z.elim .inl fun z => z.elim (fun z => .inl (.inl z)) fun z => (sp.own b z).imp .inr id) (fun b z _ => .inl (bWr b z))
  by_cases hlt : i < items.length
  · refine .inr ⟨W0.go i Hi sp.kp hlt, ?_⟩
    have ei : items[i]? = some items[i] := List.getElem?_eq_getElem hlt
    rw [List.drop_eq_getElem_cons hlt] at hrun
    simp only [forRun, Option.bind_eq_some_iff] at hrun
    obtain ⟨ρ1, b1, o', b2, b3⟩ := hrun
    refine ⟨fun σ2 H2 => i + 1 ≤ items.length ∧ ∃ ρ2 st2, Sim X.K dr B0 H2 ρ2 σ2 st2 ∧ Stp dr ρ σ H1 ρ2 σ2 H2 ∧ forRun (fun ρ' s => evSs Γ body ρ' s) tg (items.drop (i + 1)) ρ2 st2 = some o, fun σ' H' n => ⟨items.length - (i + 1), by omega, rfl, n⟩, fun x H' y => ?_⟩
    obtain ⟨same1, rx⟩ := W0.yld i Hi x H' items[i] sp.kp ei y
    have S2 := Si.same same1
    have sp2 : Stp dr ρi σi Hi ρi σi H' := .kd (.of_same same1)
    refine ⟨B0, ρi, sti, items[i], ρ1, S2, (RepI.anti (fun b z => .inl (.inr z)) rx).mono hpt, b1, fun σ2 S3 bd => ?_⟩
    have sp3 : Stp dr ρi σi Hi ρ1 σ2 H' := ⟨sp2.kp, fun b z => .inl (bd.ows b z)⟩
    have sp4 : Stp dr ρ σ H1 ρ1 σ2 H' := sp.trans sp3 S1.dn Si.dn
    have gl4 := gli.step sp3 Si.dn S3.dn
    refine ⟨B0, ρ1, sti, o', S3, b2, ?_⟩
    cases o' with
    | nx ρ' st' => exact fun σ' H' S' u => ⟨hlt, ρ', st', S', sp4.trans u S1.dn S3.dn, b3⟩
    | ct ρ' st' => exact fun σ' H' S' u => ⟨hlt, ρ', st', S', sp4.trans u S1.dn S3.dn, b3⟩
    | bk ρ' st' =>
      cases b3
      exact fun σ' H' S' u => gl4 _ _ S' u
    | rt d st' =>
      cases b3
      exact gl4
  · have e : i = items.length := by omega
    subst e
    rw [List.drop_length] at hrun
    simp only [forRun, Option.some.injEq] at hrun
    subst hrun
    exact .inl ⟨W0.stop Hi sp.kp, gli _ _ Si .refl⟩
end
end Pf

namespace Pf
open PySem PySem.Spec PyProof.Rows L2
variable [Mode]

def PD (K : PySem.W.Frag) (dr : Dr) (ρ : List Slot) (σ : L2.St) (st' : DS) (H' : Hp) : Exs → (Addr → Prop) → Hp → List D → List V → Prop
  | .nil, _, H, [], [] => H = H' ∧ DrawOk K dr H' st'
  | .cons e es, B0, H, d :: ds, v :: vs => (isMk e = false ∧ isOw ρ e = false ∧ ∃ H1 st1, PostE K dr (BB B0 ρ σ) H ρ e d st1 v H1 ∧ PD K dr ρ σ st' H' es (nbk B0 e d v) H1 ds vs) ∨
      (isMk e = true ∧ ∃ c u fs H1 st1, KD dr H H1 ∧ DrawOk K dr H1 st1 ∧ H1 c = none ∧ d = .dict fs ∧ v = .ref c ∧ ConD K dr H1 (BB B0 ρ σ) u fs ∧ PD K dr ρ σ st' H' es (fun b => B0 b ∨ b = c) (upd H1 c u) ds vs)
  | _, _, _, _, _ => False
def tDs (K : PySem.W.Frag) (dr : Dr) (Γ : Gam) (es : Exs) : TA := fun σ H Q => ∃ B0 ρ st ds st', Sim K dr B0 H ρ σ st ∧ anyOw ρ es = false ∧ evEs Γ es ρ st = some (ds, st') ∧ ∀ vs H', PD K dr ρ σ st' H' es B0 H ds vs → Q vs H'
section
variable {K : PySem.W.Frag} {dr : Dr} {B0 : Addr → Prop} {H H1 H' : Hp} {ρ ρ1 ρ' : List Slot} {σ σ1 σ' : L2.St} {st st1 st' : DS} {d : D} {v : V} {e : Ex}
theorem none_back {u : HO} {c : Addr} (k : KD dr H H1) (w : DrawOk K dr H1 st1) (hc : H1 c = none) : H c = none := by
  cases z : H c with
  | none => rfl
  | some o =>
    by_cases hd : c = dr.a
    · subst hd
      rw [w.1] at hc
      cases hc
    · rw [k.keep c o hd z] at hc
      cases hc
section
variable {X : Cx} {Γ : Gam} {ea : Expr} {l : List Expr} {es : Exs}
theorem d_nil : PA X [] (tDs X.K dr Γ .nil) := by
  refine PA.imp pa_nil ?_
  rintro σ H Q ⟨B0, ρ, st, ds, st', S, _, h, q⟩
  cases h
  exact q [] H ⟨rfl, S.drw⟩
theorem d_cons (hm : isMk e = false) (ha : PE X ea (tE X.K dr Γ e)) (hr : PA X l (tDs X.K dr Γ es)) (hs : starEach (ea :: l) X.env = (false, eval ea X.env) :: starEach l X.env) : PA X (ea :: l) (tDs X.K dr Γ (.cons e es)) := by
  refine PA.imp (pa_cons ha hr hs) ?_
  rintro σ H Q ⟨B0, ρ, st, ds, st', S, hw, h, q⟩
  simp only [anyOw, Bool.or_eq_false_iff] at hw
  simp only [evEs, Option.bind_eq_some_iff, Option.map_eq_some_iff, Prod.mk.injEq] at h
  obtain ⟨⟨da, s1⟩, h1, ⟨db, s2⟩, h2, rfl, rfl⟩ := h
  refine ⟨B0, ρ, st, da, s1, S, h1, fun v1 H1 p1 => ?_⟩
  exact ⟨nbk B0 e da v1, ρ, s1, db, s2, S.nbk p1, hw.2, h2, fun vs H2 pf => q _ H2 (.inl ⟨hm, hw.1, H1, s1, p1, pf⟩)⟩
theorem d_mk (hm : isMk e = true) (ha : PE X ea (tMk X.K dr Γ e)) (hr : PA X l (tDs X.K dr Γ es)) (hs : starEach (ea :: l) X.env = (false, eval ea X.env) :: starEach l X.env) : PA X (ea :: l) (tDs X.K dr Γ (.cons e es)) := by
  refine PA.imp (pa_cons ha hr hs) ?_
  rintro σ H Q ⟨B0, ρ, st, ds, st', S, hw, h, q⟩
  simp only [anyOw, Bool.or_eq_false_iff] at hw
  simp only [evEs, Option.bind_eq_some_iff, Option.map_eq_some_iff, Prod.mk.injEq] at h
  obtain ⟨⟨da, s1⟩, h1, ⟨db, s2⟩, h2, rfl, rfl⟩ := h
  refine ⟨B0, ρ, st, da, s1, S, h1, fun c u fs H1 k w hc hd c0 => ?_⟩
  have hn := none_back (u := u) k w hc
  have kk : Same H1 (upd H1 c u) := same_new hc
  have k2 : KD dr H (upd H1 c u) := k.trans (.of_same kk)
  exact ⟨fun b => B0 b ∨ b = c, ρ, s1, db, s2, S.add hn k2 (w.same kk) (by rw [upd_same]; exact fun z => by cases z), hw.2, h2, fun vs H2 pf => q _ H2 (.inr ⟨hm, c, u, fs, H1, s1, k, w, hc, hd, rfl, c0, pf⟩)⟩
end
theorem slotOfD_mk {d : D} (h : isMk e = true) : slotOfD e d = .ow d := by unfold slotOfD; rw [if_pos h]
theorem slotOfD_no {d : D} (h : isMk e = false) : slotOfD e d = slotOf (isFr e) d := by unfold slotOfD; rw [if_neg (by rw [h]; exact fun z => by cases z)]
theorem par_simD : ∀ {es : Exs} {is : List Nat} {ds : List D} {vs : List V} {B0 : Addr → Prop} {H : Hp} {st : DS}, PD K dr ρ σ st' H' es B0 H ds vs → Sim K dr B0 H ρ σ st → is.length = es.len → (∀ i ∈ is, i < ρ.length) →
    KD dr H H' ∧ Sim K dr B0 H' (parSetD ρ is es ds) (setV σ is vs) st' ∧ (∀ b, Ows (parSetD ρ is es ds) (setV σ is vs) b → Ows ρ σ b ∨ H b = none) ∧ (parSetD ρ is es ds).length = ρ.length ∧
    ∀ (j : Nat) (f : D) (c : Addr), (parSetD ρ is es ds)[j]? = some (.le f) → (setV σ is vs)[j]? = some (some (.ref c)) → ρ[j]? = some (.le f) ∧ σ[j]? = some (some (.ref c))
  | .nil, is, ds, vs, B0, H, st, p, S, hl, _ => by
    cases ds with
    | cons _ _ => exact p.elim
    | nil =>
      cases vs with
      | cons _ _ => exact p.elim
      | nil =>
        cases is with
        | cons _ _ => simp [Exs.len] at hl
        | nil =>
          obtain ⟨rfl, w⟩ := p
          exact ⟨.refl, S.kd .refl w, fun b z => .inl z, rfl, fun _ _ _ q1 q2 => ⟨q1, q2⟩⟩
  | .cons e es, is, ds, vs, B0, H, st, p, S, hl, hi => by
    cases ds with
    | nil => exact p.elim
    | cons d ds =>
      cases vs with
      | nil => exact p.elim
      | cons v vs =>
        cases is with
        | nil => simp [Exs.len] at hl
        | cons i is =>
          rcases p with ⟨hm, hw, H1, s1, p1, pf⟩ | ⟨hm, c, u, fs, H1, s1, k1, w1, hc, hd, hv, c0, pf⟩
          · have ih := par_simD (is := is) pf (S.nbk p1) (by simpa [Exs.len] using hl) fun j hj => hi j (List.mem_cons_of_mem _ hj)
            obtain ⟨k, S2, ow, ln, lee⟩ := ih
            have old : ∀ b, H1 b = none → H b = none := fun b z => none_back (u := .lst []) p1.kd p1.dw z
            have lee' : ∀ (j : Nat) (f : D) (c : Addr), ((parSetD ρ is es ds).set i (slotOf (isFr e) d))[j]? = some (.le f) → ((setV σ is vs).set i (some v))[j]? = some (some (.ref c)) → ρ[j]? = some (.le f) ∧ σ[j]? = some (some (.ref c)) := fun j f c q1 q2 => by
              rcases set_get q1 with ⟨rfl, _, z⟩ | ⟨ne, q1⟩
              · exfalso
                revert z
                cases isFr e <;> cases d <;> exact fun z => by cases z
              · rcases set_get q2 with ⟨z, _⟩ | ⟨_, q2⟩
                · exact absurd z ne
                · exact lee j f c q1 q2
            have hil : i < (parSetD ρ is es ds).length := by rw [ln]; exact hi i List.mem_cons_self
            have bd : ∀ b, b = dr.a → BB B0 (parSetD ρ is es ds) (setV σ is vs) b := fun b z => .inl (by rw [z]; exact S.bdr)
            have eqS : parSetD ρ (i :: is) (.cons e es) (d :: ds) = (parSetD ρ is es ds).set i (slotOf (isFr e) d) := by
              show (parSetD ρ is es ds).set i (slotOfD e d) = _
              rw [slotOfD_no hm]
            rw [eqS]
            rcases fr_cases e d with h | ⟨h, es', rfl⟩
            · rw [nbk_plain h] at S2
              refine ⟨p1.kd.trans k, ?_, fun b z => ?_, by simp [ln], lee'⟩
              · show Sim K dr B0 H' ((parSetD ρ is es ds).set i (slotOf (isFr e) d)) ((setV σ is vs).set i (some v)) st'
                rw [slotOf_plain h]
                refine S2.setSh hil (Rep.kp k bd _ _ (Rep.anti (fun b z => ?_) _ _ (p1.rep hw)))
                rcases z with z | z
                · exact .inl (.inl z)
                · rcases ow b z with z | z
                  · exact .inl (.inr z)
                  · exact .inr z
              · have z : Ows ((parSetD ρ is es ds).set i (slotOf (isFr e) d)) ((setV σ is vs).set i (some v)) b := z
                rw [slotOf_plain h] at z
                exact (ow b (Ows.sub (by intro _ q; cases q) z)).imp id (old b)
            · obtain ⟨a, ws, rfl, hn, ha, r⟩ := p1.fr h es' rfl
              rw [nbk_fr h] at S2
              have hsl : slotOf (isFr e) (.list es') = .ow (.list es') := by rw [h]; rfl
              refine ⟨p1.kd.trans k, ?_, fun b z => ?_, by simp [ln], lee'⟩
              · show Sim K dr B0 H' ((parSetD ρ is es ds).set i (slotOf (isFr e) (.list es'))) ((setV σ is vs).set i (some (.ref a))) st'
                rw [hsl]
                have nda : a ≠ dr.a := fun z => S.fresh hn (.inl (by rw [z]; exact S.bdr))
                refine S2.setOw (fun z => ?_) S.bdr S.bsp (k.keep a _ nda ha) (Reps.kp k (fun b z => .inl (.inl (by rw [z]; exact S.bdr))) _ _ (Reps.anti (fun b z => ?_) _ _ r)) hil (fun _ z => z) S.bdr S.bsp (fun j f c q1 q2 => ?_)
                · rcases z with z | z
                  · exact S.fresh hn (.inl z)
                  · rcases ow a z with z | z
                    · exact S.fresh hn (.inr z)
                    · rw [ha] at z; cases z
                · rcases z with (z | z) | z
                  · exact .inl (.inl (.inl z))
                  · exact .inl (.inr z)
                  · rcases ow b z with z | z
                    · exact .inl (.inl (.inr z))
                    · exact .inr z
                · obtain ⟨c', e1, nb, nd, o⟩ := S2.le j f q1
                  obtain ⟨z1, z2⟩ := lee j f c q1 q2
                  obtain ⟨c2, e2, nb2, _⟩ := S.le j f z1
                  rw [z2] at e2
                  cases e2
                  exact nb2
              · obtain ⟨j, f, q1, q2⟩ : Ows ((parSetD ρ is es ds).set i (slotOf (isFr e) (.list es'))) ((setV σ is vs).set i (some (.ref a))) b := z
                rcases set_get q2 with ⟨_, _, z2⟩ | ⟨ne, q2⟩
                · cases z2
                  exact .inr hn
                · rcases set_get q1 with ⟨z, _⟩ | ⟨_, q1⟩
                  · exact absurd z ne
                  · exact (ow b ⟨j, f, q1, q2⟩).imp id (old b)
          · subst hd hv
            have hn := none_back (u := u) k1 w1 hc
            have kk : Same H1 (upd H1 c u) := same_new hc
            have k2 : KD dr H (upd H1 c u) := k1.trans (.of_same kk)
            have S1 := S.add hn k2 (w1.same kk) (by rw [upd_same]; exact fun z => by cases z)
            have ih := par_simD (is := is) pf S1 (by simpa [Exs.len] using hl) fun j hj => hi j (List.mem_cons_of_mem _ hj)
            obtain ⟨k, S2, ow, ln, lee⟩ := ih
            have old : ∀ b, upd H1 c u b = none → H b = none := fun b z => by
              by_cases hb : b = c
              · rw [hb]; exact hn
              · rw [upd_ne hb] at z
                exact none_back (u := u) k1 w1 z
            have hil : i < (parSetD ρ is es ds).length := by rw [ln]; exact hi i List.mem_cons_self
            have eqS : parSetD ρ (i :: is) (.cons e es) (.dict fs :: ds) = (parSetD ρ is es ds).set i (.ow (.dict fs)) := by
              show (parSetD ρ is es ds).set i (slotOfD e (.dict fs)) = _
              rw [slotOfD_mk hm]
            rw [eqS]
            refine ⟨k2.trans k, ?_, fun b z => ?_, by simp [ln], fun j f a q1 q2 => ?_⟩
            · show Sim K dr B0 H' ((parSetD ρ is es ds).set i (.ow (.dict fs))) ((setV σ is vs).set i (some (.ref c))) st'
              have nda : c ≠ dr.a := fun z => S.fresh hn (.inl (by rw [z]; exact S.bdr))
              refine S2.setOwG (fun z => ?_) S.bdr S.bsp (dd := .dict fs) ⟨u, k.keep c _ nda upd_same, ConD.kp k (fun b z => .inl (.inl (by rw [z]; exact S.bdr))) ((ConD.anti (fun b z => ?_) c0).same kk)⟩ hil (fun _ z => z) S.bdr S.bsp (fun j f a q1 q2 => ?_)
              · rcases z with z | z
                · exact S.fresh hn (.inl z)
                · rcases ow c z with z | z
                  · exact S.fresh hn (.inr z)
                  · rw [upd_same] at z; cases z
              · rcases z with (z | z) | z
                · exact .inl (.inl z)
                · exact .inr (by rw [z]; exact hc)
                · rcases ow b z with z | z
                  · exact .inl (.inr z)
                  · by_cases hb : b = c
                    · exact .inr (by rw [hb]; exact hc)
                    · rw [upd_ne hb] at z; exact .inr z
              · obtain ⟨c', e1, nb, nd, o⟩ := S2.le j f q1
                obtain ⟨z1, z2⟩ := lee j f a q1 q2
                obtain ⟨c2, e2, nb2, _⟩ := S.le j f z1
                rw [z2] at e2
                cases e2
                exact nb2
            · obtain ⟨j, f, q1, q2⟩ : Ows ((parSetD ρ is es ds).set i (.ow (.dict fs))) ((setV σ is vs).set i (some (.ref c))) b := z
              rcases set_get q2 with ⟨_, _, z2⟩ | ⟨ne, q2⟩
              · cases z2
                exact .inr hn
              · rcases set_get q1 with ⟨z, _⟩ | ⟨_, q1⟩
                · exact absurd z ne
                · exact (ow b ⟨j, f, q1, q2⟩).imp id (old b)
            · rcases set_get q1 with ⟨rfl, _, z⟩ | ⟨ne, q1⟩
              · cases z
              · rcases set_get q2 with ⟨z, _⟩ | ⟨_, q2⟩
                · exact absurd z ne
                · exact lee j f a q1 q2
theorem pd_len {K : PySem.W.Frag} {ρ : List Slot} {σ : L2.St} {st' : DS} {H' : Hp} : ∀ {es : Exs} {B0 : Addr → Prop} {H : Hp} {ds : List D} {vs : List V}, PD K dr ρ σ st' H' es B0 H ds vs → vs.length = es.len
  | .nil, _, _, ds, vs, p => by
    cases ds <;> cases vs <;> first | rfl | exact p.elim
  | .cons e es, _, _, ds, vs, p => by
    cases ds with
    | nil => cases vs <;> exact p.elim
    | cons d ds =>
      cases vs with
      | nil => exact p.elim
      | cons v vs =>
        rcases p with ⟨_, _, _, _, _, pf⟩ | ⟨_, _, _, _, _, _, _, _, _, _, _, _, pf⟩ <;> simp [Exs.len, pd_len pf]
end
section
variable {X : Cx} {dr : Dr} {Γ : Gam} {N : List Str} {G : Nm} {wr : Str → Bool} {t : PTr} {pos : Pos}
theorem s_parD (g : Good N G Γ X.env.scope wr X) {is : List Nat} {es : Exs} (hw : ∀ i ∈ is, i < N.length ∧ wr (nmOf N i) = true) (hs : swappedStores [.Tuple (names N is (t.s 0).ts) (t.s 0).k ((t.s 0).p 0)] (.Tuple (toEs N G es (t.s 1).ts) (t.s 1).k ((t.s 1).p 0)) X.env = pure none) (pa : PA X (toEs N G es (t.s 1).ts) (tDs X.K dr Γ es)) :
    PS X (toS N G (.parD is es) t) (tS X.K dr Γ (.parD is es)) := by
  obtain ⟨n1, n2⟩ := names_len N X.env is (t.s 0).ts
  refine PS.imp (ps_asg (pe_tup pa) (pg_tup (pos := (t.s 0).p 0) (k := (t.s 0).k) g.calm (pgs_names g is (t.s 0).ts hw) n1 n2) rfl hs rfl) ?_
  rintro En σ H ⟨B0, ρ, st, o, S, h, gl⟩
  simp only [evS] at h
  obtain ⟨⟨hw, hl, hnd, hi, hcap⟩, h⟩ := ite_opt h
  obtain ⟨⟨ds, s1⟩, h1, rfl⟩ := Option.map_eq_some_iff.mp h
  refine ⟨B0, ρ, st, ds, s1, S, hw, h1, fun vs H' p => ?_⟩
  have hv := pd_len p
  refine ⟨by rw [hv, ← cap_eq]; exact hcap, fun q hq => ?_⟩
  have hi' : ∀ i ∈ is, i < ρ.length := fun i m => of_decide_eq_true (List.all_eq_true.mp hi i m)
  obtain ⟨k, S', ow, _⟩ := par_simD p S hl hi'
  have kk : Same H' (upd H' q (.tup vs)) := same_new hq
  refine ⟨q, vs, rfl, SqT.of upd_same, by rw [hv, hl], gNs_read (by rw [hv, hl]) ?_⟩
  rw [setF_eq is vs σ hnd]
  exact gl _ _ (S'.same kk) (.kdo (k.trans (.of_same kk)) ow)
end
end Pf

namespace Pf
open PySem PySem.Spec PyProof.Rows L2
variable [Mode]
section
variable {X : Cx} {dr : Dr} {Γ : Gam} {N : List Str} {G : Nm} {wr : Str → Bool} {t : PTr} {pos : Pos}
variable {B0 : Addr → Prop} {H H1 : Hp} {ρ ρ' : List Slot} {σ : L2.St} {s1 s2 : DS} {d : D} {v : V} {k : Ex} {i : Nat}
theorem put_step (S1 : Sim X.K dr B0 H1 ρ σ s1) (h : putV Γ i k d ρ s1 = some (ρ', s2)) (rv : Rep X.K dr H1 (BB B0 ρ σ) v d) {Q : L2.St → Hp → Prop} (fin : ∀ H', Sim X.K dr B0 H' ρ' σ s2 → Stp dr ρ σ H1 ρ' σ H' → (∀ b, Ows ρ' σ b → Ows ρ σ b) → Q σ H') :
    gSub (tVar i) (tE X.K dr Γ k) (fun o i v H Q => rSetL o i v H Q ∨ rSetD o i v H Q) v σ H1 Q := by
  unfold putV at h
  obtain ⟨⟨y, s2'⟩, h2, h⟩ := Option.bind_eq_some_iff.mp h
  split at h
  · rename_i ds n hs hy
    split at h
    rotate_left
    · cases h
    rename_i j hj
    cases h
    obtain ⟨a, ea, na, vs, hvs, r⟩ := S1.ow i _ hs
    refine ⟨.ref a, ea, B0, ρ, s1, y, s2', S1, h2, fun w H2 p2 => ?_⟩
    have S2 := S1.post p2
    have k := p2.kd
    have nda : a ≠ dr.a := fun z => na (by rw [z]; exact S1.bdr)
    have hvs' := k.keep a _ nda hvs
    have hy' : y = .int n := hy
    subst hy'
    have e2 : w = .int n := p2.repT.int
    have wr := S2.write hs ea hvs' (vs' := vs.set j v) (ds := ds.set j d) (Reps.set j (Rep.kp p2.kd S1.bd _ _ rv) (Reps.kp k S1.bd _ _ r))
    refine .inl ⟨a, vs, n, j, rfl, e2, hvs', by rw [r.length]; exact hj, ?_⟩
    have ows : ∀ b, Ows (ρ.set i (.ow (.list (ds.set j d)))) σ b → Ows ρ σ b := fun b ⟨m, f, q1, q2⟩ => by
      rcases set_get q1 with ⟨rfl, _, z⟩ | ⟨ne, q1⟩
      · exact ⟨m, _, hs, q2⟩
      · exact ⟨m, f, q1, q2⟩
    exact fin _ wr.1 ⟨Kp.trans (k.wide fun _ z => .inl z) (wr.2.wide fun b z => .inr ⟨i, _, hs, by rw [z]; exact ea⟩), fun b z => .inl (ows b z)⟩ ows
  · rename_i tt es hs
    obtain ⟨⟨hk, hz⟩, h⟩ := ite_opt h
    cases h
    obtain ⟨a, ea, na, u, hu, c⟩ := S1.ow i _ hs
    refine ⟨.ref a, ea, B0, ρ, s1, y, s2', S1, h2, fun w H2 p2 => ?_⟩
    have S2 := S1.post p2
    have k := p2.kd
    have nda : a ≠ dr.a := fun z => na (by rw [z]; exact S1.bdr)
    have hu' := k.keep a _ nda hu
    obtain ⟨u', pd, nt, c'⟩ := dput_of hu' (c.kp k S1.bd) p2.repT hk (by rw [← cap_eq]; exact hz) (Rep.kp p2.kd S1.bd _ _ rv)
    have ut : ∀ xs, u ≠ .tup xs := by cases c <;> (intro _ z; cases z)
    have uf : ∀ x y, u ≠ .frz x y := by cases c <;> (intro _ _ z; cases z)
    have wr := S2.writeG hs ea hu' ut uf (o' := u') (dd := .dict _) fun H' k' q => ⟨u', q, c'.kp k' fun b z => by subst z; exact .inr ⟨i, _, hs, ea⟩⟩
    refine .inr ⟨a, _, rfl, pd, ?_⟩
    have ows : ∀ (dd : D) (b : Addr), Ows (ρ.set i (.ow dd)) σ b → Ows ρ σ b := fun dd b ⟨m, f, q1, q2⟩ => by
      rcases set_get q1 with ⟨rfl, _, z⟩ | ⟨ne, q1⟩
      · exact ⟨m, _, hs, q2⟩
      · exact ⟨m, f, q1, q2⟩
    exact fin _ wr.1 ⟨Kp.trans (k.wide fun _ z => .inl z) (wr.2.wide fun b z => .inr ⟨i, _, hs, by rw [z]; exact ea⟩), fun b z => .inl (ows _ b z)⟩ (ows _)
  · cases h
theorem sw_subs {a b c d : Expr} {vs : List Expr} {k1 k2 : Nat} {p q p1 p2 : Pos} {env : Env} : swappedStores [.Tuple [.Subscript a b p, .Subscript c d q] k1 p1] (.Tuple vs k2 p2) env = pure none := by
  unfold swappedStores
  simp only [List.filterMap]
  repeat' split
  all_goals first | rfl | (rename_i h; exact absurd rfl h) | skip
  all_goals simp_all
theorem s_put2 (g : Good N G Γ X.env.scope wr X) {e1 e2 k l : Ex} {i j : Nat} (hv : wfE N G (.var i) (.n 0 [] []) X.env.scope = true) (hv2 : wfE N G (.var j) (.n 0 [] []) X.env.scope = true) (pk : PE X (toE N G k ((t.s 0).s 0)) (tE X.K dr Γ k)) (pl : PE X (toE N G l ((t.s 1).s 0)) (tE X.K dr Γ l))
    (pa : PA X (toEs N G (.cons e1 (.cons e2 .nil)) (t.s 2).ts) (tEs X.K dr Γ (.cons e1 (.cons e2 .nil)))) :
    PS X (toS N G (.put2 i k j l (.cons e1 (.cons e2 .nil))) t) (tS X.K dr Γ (.put2 i k j l (.cons e1 (.cons e2 .nil)))) := by
  simp only [wfE, Bool.and_eq_true, decide_eq_true_eq] at hv hv2
  have nb := nameB_of hv.2
  have nb2 := nameB_of hv2.2
  have pv : PE X (.Name (N.getD i Str.empty) ((t.s 0).p 2)) (tVar i) := pe_var (names_get g hv.1.1) (vis_of hv.1.2) nb.1 nb.2
  have pw : PE X (.Name (N.getD j Str.empty) ((t.s 1).p 2)) (tVar j) := pe_var (names_get g hv2.1.1) (vis_of hv2.1.2) nb2.1 nb2.2
  have pg1 := pg_sub (pos := (t.s 0).p 1) pv pk (set_mix g.un) (by intro _; cases k <;> rfl)
  have pg2 := pg_sub (pos := (t.s 1).p 1) pw pl (set_mix g.un) (by intro _; cases l <;> rfl)
  refine PS.imp (ps_asg (pe_tup pa) (pg_tup (pos := (t.s 0).p 0) (k := (t.s 0).k) g.calm (pgs_cons pg1 (pgs_cons pg2 pgs_nil rfl) rfl) rfl rfl) rfl sw_subs rfl) ?_
  rintro En σ H ⟨B0, ρ, st, o, S, h, gl⟩
  simp only [evS] at h
  split at h
  · cases h
  rename_i hno
  have hno : anyOw ρ (.cons e1 (.cons e2 .nil)) = false := by simpa using hno
  obtain ⟨⟨ds, s1⟩, h1, h⟩ := Option.bind_eq_some_iff.mp h
  split at h
  rotate_left
  · cases h
  rename_i d1 d2 hds
  obtain ⟨⟨ρ1, s2⟩, h2, h⟩ := Option.bind_eq_some_iff.mp h
  obtain ⟨⟨ρ2, s3⟩, h3, rfl⟩ := Option.map_eq_some_iff.mp h
  have hds : ds = [d1, d2] := hds
  subst hds
  refine ⟨B0, ρ, st, [d1, d2], s1, S, h1, fun vs H' k w rT rr => ?_⟩
  have rr := rr.1 hno
  cases rr with
  | @cons v1 _ _ _ r1 rs =>
    cases rs with
    | @cons v2 _ _ _ r2 rn =>
      cases rn
      refine ⟨by show 2 ≤ _; decide, fun q hq => ?_⟩
      have kk : Same H' (upd H' q (.tup [v1, v2])) := same_new hq
      have S1 := (S.kd k w).same kk
      refine ⟨q, [v1, v2], rfl, SqT.of upd_same, rfl, ?_⟩
      refine ⟨v1, [v2], rfl, put_step S1 h2 (r1.same kk) fun H2 S2 st2 ow2 => ?_⟩
      have r2' : Rep X.K dr H2 (BB B0 ρ1 σ) v2 d2 := by
        have z := Rep.kp st2.kp (B := BB B0 ρ σ) (fun b z => by
          rcases z with z | z
          · rw [z]; exact .inl S1.bdr
          · exact .inr z) _ _ (r2.same kk)
        exact Rep.anti (fun b z => .inl (z.imp id (ow2 b))) _ _ z
      refine ⟨v2, [], rfl, put_step S2 h3 r2' fun H3 S3 st3 ow3 => ?_⟩
      refine ⟨rfl, gl _ _ S3 ?_⟩
      exact (Stp.kdo (k.trans (.of_same kk)) fun b z => .inl z).trans (st2.trans st3 S1.dn S2.dn) S.dn S1.dn
end
end Pf

namespace Pf
open PySem PySem.Spec PyProof.Rows L2
variable [Mode]
section
variable {K : PySem.W.Frag} {dr : Dr} {H : Hp} {B : Addr → Prop}
theorem RepK.drop (k : Key) : ∀ {kvs : List (Key × V)} {es : List (D × D)}, RepK K dr H B kvs es → RepK K dr H B (dropK kvs k) (ddrop es (keyD k))
  | _, _, .nil => .nil
  | _, _, .cons (k := k') r rs => by
    have ih := RepK.drop k rs
    have e := eqv_key k' k
    unfold dropK ddrop at *
    rw [List.filter_cons, List.filter_cons]
    simp only [e]
    by_cases c : k' = k
    · simp [c]
      simpa using ih
    · simp [c]
      exact .cons r (by simpa using ih)
end
section
variable {X : Cx} {dr : Dr} {Γ : Gam} {N : List Str} {G : Nm} {wr : Str → Bool} {t : PTr}
/-- what a dict's name holds behind d.pop(k) -/
theorem pop_sim {B0 : Addr → Prop} {H H1 : Hp} {ρ : List Slot} {σ : L2.St} {st s1 : DS} {i : Nat} {es : List (D × D)} {y v : D} {w : V} (S : Sim X.K dr B0 H ρ σ st) (hs : ρ[i]? = some (.ow (.dict ((.bool false, .none) :: es)))) (S1 : Sim X.K dr B0 H1 ρ σ s1) (kd : KD dr H H1) (hk : kindOk false y = true) (hv : dfind es y = some v) (ry : RepT X.K dr H1 (BB B0 ρ σ) w y) :
    ∃ (a : Addr) (kvs : List (Key × V)) (k : Key) (x : V), σ[i]? = some (some (.ref a)) ∧ IsD H a ∧ H1 a = some (.dK kvs) ∧ w = kV k ∧ valV kvs k = some x ∧
      Sim X.K dr B0 (upd H1 a (.dK (dropK kvs k))) (ρ.set i (.ow (.dict ((.bool false, .none) :: ddrop es y)))) σ s1 ∧ Kp (fun b => Wr dr ρ σ b) H (upd H1 a (.dK (dropK kvs k))) ∧
      Rep X.K dr (upd H1 a (.dK (dropK kvs k))) (BB B0 (ρ.set i (.ow (.dict ((.bool false, .none) :: ddrop es y)))) σ) x v := by
  obtain ⟨a, ea, na, u, hu, c⟩ := S.ow i _ hs
  cases c with
  | k c =>
    rename_i kvs
    obtain ⟨kk, hk⟩ := Option.isSome_iff_exists.mp (show (keyOf y).isSome = true from hk)
    have e := keyOf_some hk
    have ev := key_val ry hk
    subst e ev
    have nda : a ≠ dr.a := fun z => na (by rw [z]; exact S.bdr)
    have hu' := kd.keep a _ nda hu
    have c1 := RepK.kp kd S.bd _ _ c
    have f := c1.find kk
    rw [hv] at f
    cases hx : valV kvs kk with
    | none => rw [hx] at f; exact f.elim
    | some x =>
      rw [hx] at f
      have f : Rep X.K dr H1 (BB B0 ρ σ) x v := f
      have wr := S1.writeG hs ea hu' (by intro _ z; cases z) (by intro _ _ z; cases z) (o' := .dK (dropK kvs kk)) (dd := .dict _) fun H' k' q => ⟨_, q, (ConD.k (c1.drop kk)).kp k' fun b z => by subst z; exact .inr ⟨i, _, hs, ea⟩⟩
      refine ⟨a, kvs, kk, x, ea, .inl ⟨_, .inl hu⟩, hu', rfl, hx, wr.1, Kp.trans (kd.wide fun _ z => .inl z) (wr.2.wide fun b z => .inr ⟨i, _, hs, by rw [z]; exact ea⟩), ?_⟩
      have il := (List.getElem?_eq_some_iff.mp hs).1
      refine Rep.kp wr.2 (fun b z => .inr ⟨i, _, by rw [List.getElem?_set_self il], by rw [z]; exact ea⟩) _ _ (Rep.anti (fun b z => ?_) _ _ f)
      rcases z with z | ⟨m, f, q1, q2⟩
      · exact .inl (.inl z)
      · rcases set_get q1 with ⟨rfl, _, _⟩ | ⟨_, q1⟩
        · exact .inl (.inr ⟨m, _, hs, q2⟩)
        · exact .inl (.inr ⟨m, f, q1, q2⟩)
theorem pe_pop (g : Good N G Γ X.env.scope wr X) {k : Ex} {i : Nat} {p4 p3 p2 : Pos} (hv : wfE N G (.var i) (.n 0 [] []) X.env.scope = true) (pk : PE X (toE N G k (t.s 0)) (tE X.K dr Γ k)) (hline : (p3.endLine == p2.line) = true) :
    PE X (.Call (.Attribute (.Name (N.getD i Str.empty) p4) "pop" p3) [toE N G k (t.s 0)] [] p2) (tDPop1 (tVar i) (tE X.K dr Γ k)) := by
  simp only [wfE, Bool.and_eq_true, decide_eq_true_eq] at hv
  have nb := nameB_of hv.2
  have pv : PE X (.Name (N.getD i Str.empty) p4) (tVar i) := pe_var (names_get g hv.1.1) (vis_of hv.1.2) nb.1 nb.2
  have hs := star_toE N G k (t.s 0) [] X.env
  exact pe_dpop1 pv pk ⟨rfl, by rw [hs]; rfl, hline, by rw [hs]; rfl⟩
theorem s_popD (g : Good N G Γ X.env.scope wr X) {k : Ex} {i : Nat} (hv : wfE N G (.var i) (.n 0 [] []) X.env.scope = true) (pk : PE X (toE N G k (t.s 0)) (tE X.K dr Γ k)) (hline : ((t.p 2).endLine == (t.p 1).line) = true) :
    PS X (toS N G (.popD i k) t) (tS X.K dr Γ (.popD i k)) := by
  refine PS.imp (ps_expr (pe_pop g hv pk hline)) ?_
  rintro En σ H ⟨B0, ρ, st, o, S, h, gl⟩
  simp only [evS, Option.bind_eq_some_iff] at h
  obtain ⟨⟨y, s1⟩, h1, h⟩ := h
  split at h
  rotate_left
  · cases h
  rename_i es hs
  obtain ⟨hk, h⟩ := ite_opt h
  obtain ⟨v, hv, rfl⟩ := Option.map_eq_some_iff.mp h
  obtain ⟨a, ea, na, u, hu, c⟩ := S.ow i _ hs
  have isd : IsD H a := by
    cases c with
    | k c => exact .inl ⟨_, .inl hu⟩
  refine ⟨.ref a, ea, a, rfl, isd, B0, ρ, st, y, s1, S, h1, fun w H1 p1 => ?_⟩
  have S1 := S.post p1
  obtain ⟨a', kvs, kk, x, ea', _, h2, h3, h4, S2, k2, _⟩ := pop_sim S hs S1 p1.kd hk hv p1.repT
  have e : a' = a := by
    have z := ea'.symm.trans ea
    cases z
    rfl
  subst e
  refine ⟨kvs, kk, x, h2, h3, h4, ?_⟩
  refine gl _ _ S2 ⟨k2, fun b ⟨j, f, q1, q2⟩ => ?_⟩
  rcases set_get q1 with ⟨rfl, _, z⟩ | ⟨ne, q1⟩
  · exact .inl ⟨j, _, hs, q2⟩
  · exact .inl ⟨j, f, q1, q2⟩
theorem s_popV (g : Good N G Γ X.env.scope wr X) {k : Ex} {i j : Nat} (hj : j < N.length) (hl : Loc X.env.scope (nmOf N j)) (hf : X.fn (nmOf N j) = true ∨ X.env.scope.names.lookup (nmOf N j) = some .local) (hv : wfE N G (.var i) (.n 0 [] []) X.env.scope = true) (pk : PE X (toE N G k (t.s 0)) (tE X.K dr Γ k)) (hline : ((t.p 3).endLine == (t.p 2).line) = true) :
    PS X (toS N G (.popV j i k) t) (tS X.K dr Γ (.popV j i k)) := by
  have hn := names_get g hj
  have nd : X.N.Nodup := by rw [g.hN]; exact g.nd
  refine PS.imp (ps_set nd hn hl (pe_pop g hv pk hline) (by rfl) hf) ?_
  rintro En σ H ⟨B0, ρ, st, o, S, h, gl⟩
  simp only [evS] at h
  obtain ⟨⟨hij, hjl⟩, h⟩ := ite_opt h
  simp only [Option.bind_eq_some_iff] at h
  obtain ⟨⟨y, s1⟩, h1, h⟩ := h
  split at h
  rotate_left
  · cases h
  rename_i es hs
  obtain ⟨hk, h⟩ := ite_opt h
  obtain ⟨v, hv, rfl⟩ := Option.map_eq_some_iff.mp h
  obtain ⟨a, ea, na, u, hu, c⟩ := S.ow i _ hs
  have isd : IsD H a := by
    cases c with
    | k c => exact .inl ⟨_, .inl hu⟩
  refine ⟨.ref a, ea, a, rfl, isd, B0, ρ, st, y, s1, S, h1, fun w H1 p1 => ?_⟩
  have S1 := S.post p1
  obtain ⟨a', kvs, kk, x, ea', _, h2, h3, h4, S2, k2, rx⟩ := pop_sim S hs S1 p1.kd hk hv p1.repT
  have e : a' = a := by
    have z := ea'.symm.trans ea
    cases z
    rfl
  subst e
  refine ⟨kvs, kk, x, h2, h3, h4, ?_⟩
  have S3 := S2.setSh (i := j) (by rw [List.length_set]; exact hjl) rx
  refine gl _ _ S3 ⟨k2, fun b q => ?_⟩
  have q := Ows.sub (by intro _ e; cases e) q
  obtain ⟨m, f, q1, q2⟩ := q
  rcases set_get q1 with ⟨rfl, _, _⟩ | ⟨_, q1⟩
  · exact .inl ⟨m, _, hs, q2⟩
  · exact .inl ⟨m, f, q1, q2⟩
end
end Pf

namespace Pf
open PySem PySem.Spec PyProof.Rows L2
variable [Mode]

def isTp : Tg → Bool
  | .tp _ => true
  | _ => false
def nSw (tgs vs : List Expr) : Bool := vs.all (foldedForSure 8) || !(tgs.length == 2 || tgs.length == 3)
/-- no exchange of the stores -/
def swN (tg e : Expr) : Bool := match tg, e with
  | .Tuple tgs _ _, .Tuple vs _ _ => nSw tgs vs
  | .Tuple _ _ _, _ => true
  | _, _ => false
def varB (N : List Str) (sc : Scope) (i : Nat) : Bool := decide (i < N.length) && visB sc (nmOf N i) && nameB (nmOf N i)
def parB (N : List Str) (sc : Scope) (is : List Nat) (es : Exs) (ps : List PTr) (vs : List Expr) : Bool :=
  (is.all fun i => decide (i < N.length) && locB sc (nmOf N i)) && !vs.all (foldedForSure 8) && !vs.all (constantsAlone 8) && (match is, es, ps with
  | [i, j], .cons _ (.cons _ .nil), [p, q] => (q.p 0).line == (p.p 0).line && !(nmOf N j == nmOf N i) && decide (i ≠ j)
  | [i, j, l], .cons _ (.cons _ (.cons _ .nil)), [p, q, r] => (q.p 0).line == (p.p 0).line && (r.p 0).line == (p.p 0).line && !(nmOf N j == nmOf N i) && !(nmOf N l == nmOf N i) && !(nmOf N l == nmOf N j) && decide (i ≠ j) && decide (i ≠ l) && decide (j ≠ l)
  | _, _, _ => false)
def parNB (N : List Str) (sc : Scope) (is : List Nat) (vs : List Expr) : Bool := (is.all fun i => decide (i < N.length) && lcB sc (nmOf N i)) && ((vs.all (foldedForSure 8) || !(is.length == 2 || is.length == 3)) || is.any fun i => decide (sc.names.lookup (nmOf N i) = some .cell))
theorem mem_names {N : List Str} : ∀ {is : List Nat} {ts : List PTr} {i : Nat}, i ∈ is → ∃ p, Expr.Name (nmOf N i) p ∈ names N is ts
  | j :: is, ts, i, h => by
    rcases List.mem_cons.mp h with rfl | h
    · exact ⟨_, List.mem_cons_self⟩
    · obtain ⟨p, hp⟩ := mem_names (ts := ts.tail) h
      exact ⟨p, List.mem_cons_of_mem _ hp⟩
mutual
def wfS (N : List Str) (G : Nm) : Sm → PTr → Scope → Bool
  | .set i e, t, sc => decide (i < N.length) && lcB sc (nmOf N i) && fnB sc && wfE N G e (t.s 0) sc && dcOk sc e (toE N G e (t.s 0)) (nmOf N i) (t.p 1)
  | .setT tg e, t, sc => isTp tg && tgB N (lcB sc) tg && swN (toTg N tg (t.s 0)) (toE N G e (t.s 1)) && wfE N G e (t.s 1) sc
  | .par is es, t, sc => parB N sc is es (t.s 0).ts (toEs N G es (t.s 1).ts) && fnB sc && wfEs N G es (t.s 1).ts sc
  | .parN is es, t, sc => parNB N sc is (toEs N G es (t.s 1).ts) && wfEs N G es (t.s 1).ts sc
  | .parD is es, t, sc => (parNB N sc is (toEs N G es (t.s 1).ts) || (parB N sc is es (t.s 0).ts (toEs N G es (t.s 1).ts) && fnB sc && decide (is.length = 2))) && wfEs N G es (t.s 1).ts sc
  | .app i e, t, sc => varB N sc i && ((t.p 2).endLine == (t.p 1).line) && wfE N G e (t.s 0) sc
  | .ext i e, t, sc => varB N sc i && ((t.p 2).endLine == (t.p 1).line) && wfE N G e (t.s 0) sc
  | .put i k e, t, sc => varB N sc i && wfE N G k (t.s 0) sc && wfE N G e (t.s 1) sc
  | .put2 i k j l es, t, sc => varB N sc i && varB N sc j && wfE N G k ((t.s 0).s 0) sc && wfE N G l ((t.s 1).s 0) sc && wfEs N G es (t.s 2).ts sc && decide (es.len = 2)
  | .setD i e, t, sc => decide (i < N.length) && lcB sc (nmOf N i) && fnB sc && wfE N G e (t.s 0) sc && isMk e && dcOk sc e (toE N G e (t.s 0)) (nmOf N i) (t.p 1)
  | .popS j i, t, sc => decide (j < N.length) && lcB sc (nmOf N j) && fnB sc && varB N sc i && ((t.p 3).endLine == (t.p 2).line)
  | .popD i k, t, sc => varB N sc i && wfE N G k (t.s 0) sc && ((t.p 2).endLine == (t.p 1).line)
  | .popV j i k, t, sc => decide (j < N.length) && lcB sc (nmOf N j) && fnB sc && varB N sc i && wfE N G k (t.s 0) sc && ((t.p 3).endLine == (t.p 2).line)
  | .ret e, t, sc => wfE N G e (t.s 0) sc
  | .iff c a b, t, sc => wfE N G c (t.s 0) sc && tst c && wfSs N G a (t.s 1).ts sc && wfSs N G b (t.s 2).ts sc
  | .for_ tg it body, t, sc => wfI N G it (t.s 1) sc && tgI it tg && tgB N (lcB sc) tg && wfSs N G body (t.s 2).ts sc
  | .whl c body, t, sc => wfE N G c (t.s 0) sc && tst c && wfSs N G body (t.s 1).ts sc
  | .brk, _, _ => true
  | .cnt, _, _ => true
  | .pas, _, _ => true
def wfSs (N : List Str) (G : Nm) : Sms → List PTr → Scope → Bool
  | .nil, _, _ => true
  | .cons s r, ts, sc => wfS N G s (hdT ts) sc && wfSs N G r ts.tail sc
  | .shr _ r, ts, sc => wfSs N G r ts sc
end
section
variable {N : List Str} {G : Nm} {Γ : Gam} (dr : Dr) {X : Cx}
theorem loc_of {sc : Scope} {x : Str} (h : locB sc x = true) : sc.names.lookup x = some .local := of_decide_eq_true h
theorem tg_ok {wr : Str → Bool} (g : Good N G Γ X.env.scope wr X) {tg : Tg} {t : PTr} (h : tgB N wr tg = true) : PG X (toTg N tg t) (gT X.K dr tg) :=
  pg_T g tg t fun i hi => by
    unfold tgB at h
    have z := List.all_eq_true.mp h i hi
    simp only [Bool.and_eq_true, decide_eq_true_eq] at z
    exact z
theorem swN_ok {tg e : Expr} {env : Env} (h : swN tg e = true) : swappedStores [tg] e env = pure none := by
  unfold swN at h
  split at h
  · exact sw_none h
  · rename_i hn
    cases e <;> first
      | rfl
      | exact (hn _ _ _ rfl).elim
  · cases h
theorem s_par {wr : Str → Bool} (g : Good N G Γ X.env.scope wr X) {t : PTr} {is : List Nat} {es : Exs} (hk : fnB X.env.scope = true) (h : parB N X.env.scope is es (t.s 0).ts (toEs N G es (t.s 1).ts) = true)
    (pe : ∀ e ts, wfEs N G (.cons e es) ts X.env.scope = true → True) (hw : wfEs N G es (t.s 1).ts X.env.scope = true) (hse : ∀ e (ts : PTr), wfE N G e ts X.env.scope = true → PE X (toE N G e ts) (tE X.K dr Γ e)) :
    PS X (toS N G (.par is es) t) (tS X.K dr Γ (.par is es)) := by
  have hb : X.env.blockKind = .function := by unfold Env.blockKind; rw [show X.env.scope.kind = .function from of_decide_eq_true hk]; rfl
  have nd : X.N.Nodup := by rw [g.hN]; exact g.nd
  unfold parB at h
  simp only [Bool.and_eq_true, Bool.not_eq_true', List.all_eq_true, decide_eq_true_eq] at h
  obtain ⟨⟨⟨h1, h2⟩, h3⟩, h4⟩ := h
  generalize ht : t.s 0 = t0 at h4
  split at h4
  · rename_i i j e1 e2 p q hp
    simp only [Bool.and_eq_true, Bool.not_eq_true', decide_eq_true_eq] at h4
    obtain ⟨⟨h5, h6⟩, h7⟩ := h4
    obtain ⟨i1, i2⟩ := h1 i (by simp)
    obtain ⟨j1, j2⟩ := h1 j (by simp)
    simp only [wfEs, Bool.and_eq_true] at hw
    have pa : PA X [toE N G e1 (hdT (t.s 1).ts), toE N G e2 (hdT (t.s 1).ts.tail)] (tFs X.K dr Γ (.cons e1 (.cons e2 .nil))) :=
      f_cons (hse _ _ hw.1) (f_cons (hse _ _ hw.2.1) f_nil (star_toE N G e2 _ _ _)) (star_toE N G e1 _ _ _)
    have sw := sw_two (kt := t0.k) (k2 := (t.s 1).k) (pt := t0.p 0) (pt2 := (t.s 1).p 0) hb (loc_of i2) (loc_of j2) h5 h6 (star_toE' N G e1 _) (star_toE' N G e2 _) h2 h3
    have P := ps_par (pos := t.p 0) g.calm nd (names_get g i1) (names_get g j1) h7 (loc_of i2) (loc_of j2) pa sw rfl
    have et : toS N G (.par [i, j] (.cons e1 (.cons e2 .nil))) t = .Assign [.Tuple [.Name (nmOf N i) (p.p 0), .Name (nmOf N j) (q.p 0)] t0.k (t0.p 0)] (.Tuple [toE N G e1 (hdT (t.s 1).ts), toE N G e2 (hdT (t.s 1).ts.tail)] (t.s 1).k ((t.s 1).p 0)) (t.p 0) := by
      simp only [toS, ht, hp, names, hdT, toEs, nmOf]
      rfl
    rw [et]
    refine PS.imp P fun En σ H h => ?_
    obtain ⟨B0, ρ, st, ds, st', S, hw, h, q⟩ := par_read h
    refine ⟨B0, ρ, st, ds, st', S, hw, h, fun vs H' pf => ?_⟩
    have z := q vs H' pf
    match ds, vs, pf, z with
    | [d1, d2], [v1, v2], pf, z =>
      refine ⟨v1, v2, rfl, ?_⟩
      rw [List.set_comm _ _ h7]
      exact z
    | [], [], pf, _ => exact pf.elim
    | [], _ :: _, pf, _ => exact pf.elim
    | _ :: _, [], pf, _ => exact pf.elim
    | [_], [_], pf, _ => obtain ⟨_, _, _, _, pf⟩ := pf; exact pf.elim
    | [_], _ :: _ :: _, pf, _ => obtain ⟨_, _, _, _, pf⟩ := pf; exact pf.elim
    | _ :: _ :: _, [_], pf, _ => obtain ⟨_, _, _, _, pf⟩ := pf; exact pf.elim
    | _ :: _ :: _ :: _, _ :: _ :: _, pf, _ => obtain ⟨_, _, _, _, _, _, _, _, pf⟩ := pf; exact pf.elim
    | [_, _], _ :: _ :: _ :: _, pf, _ => obtain ⟨_, _, _, _, _, _, _, _, pf⟩ := pf; exact pf.elim
  · rename_i i j l e1 e2 e3 p q r hp
    simp only [Bool.and_eq_true, Bool.not_eq_true', decide_eq_true_eq] at h4
    obtain ⟨⟨⟨⟨⟨⟨⟨h5, h5'⟩, h6⟩, h6'⟩, h6''⟩, h7⟩, h8⟩, h9⟩ := h4
    obtain ⟨i1, i2⟩ := h1 i (by simp)
    obtain ⟨j1, j2⟩ := h1 j (by simp)
    obtain ⟨l1, l2⟩ := h1 l (by simp)
    simp only [wfEs, Bool.and_eq_true] at hw
    have pa : PA X [toE N G e1 (hdT (t.s 1).ts), toE N G e2 (hdT (t.s 1).ts.tail), toE N G e3 (hdT (t.s 1).ts.tail.tail)] (tFs X.K dr Γ (.cons e1 (.cons e2 (.cons e3 .nil)))) :=
      f_cons (hse _ _ hw.1) (f_cons (hse _ _ hw.2.1) (f_cons (hse _ _ hw.2.2.1) f_nil (star_toE N G e3 _ _ _)) (star_toE N G e2 _ _ _)) (star_toE N G e1 _ _ _)
    have sw := sw_three (kt := t0.k) (k2 := (t.s 1).k) (pt := t0.p 0) (pt2 := (t.s 1).p 0) hb (loc_of i2) (loc_of j2) (loc_of l2) h5 h5' h6 h6' h6'' (star_toE' N G e1 _) (star_toE' N G e2 _) (star_toE' N G e3 _) h2 h3
    have P := ps_par3 (pos := t.p 0) g.calm nd (names_get g i1) (names_get g j1) (names_get g l1) h7 h8 h9 (loc_of i2) (loc_of j2) (loc_of l2) pa sw rfl
    have et : toS N G (.par [i, j, l] (.cons e1 (.cons e2 (.cons e3 .nil)))) t = .Assign [.Tuple [.Name (nmOf N i) (p.p 0), .Name (nmOf N j) (q.p 0), .Name (nmOf N l) (r.p 0)] t0.k (t0.p 0)] (.Tuple [toE N G e1 (hdT (t.s 1).ts), toE N G e2 (hdT (t.s 1).ts.tail), toE N G e3 (hdT (t.s 1).ts.tail.tail)] (t.s 1).k ((t.s 1).p 0)) (t.p 0) := by
      simp only [toS, ht, hp, names, hdT, toEs, nmOf]
      rfl
    rw [et]
    refine PS.imp P fun En σ H h => ?_
    obtain ⟨B0, ρ, st, ds, st', S, hw, h, q⟩ := par_read h
    refine ⟨B0, ρ, st, ds, st', S, hw, h, fun vs H' pf => ?_⟩
    have z := q vs H' pf
    obtain ⟨d1, ds, rfl⟩ : ∃ d r, ds = d :: r := by
      cases ds with
      | nil => cases vs <;> exact pf.elim
      | cons d r => exact ⟨d, r, rfl⟩
    obtain ⟨v1, vs, rfl⟩ : ∃ d r, vs = d :: r := by
      cases vs with
      | nil => exact pf.elim
      | cons d r => exact ⟨d, r, rfl⟩
    obtain ⟨_, _, _, _, pf⟩ := pf
    obtain ⟨d2, ds, rfl⟩ : ∃ d r, ds = d :: r := by
      cases ds with
      | nil => cases vs <;> exact pf.elim
      | cons d r => exact ⟨d, r, rfl⟩
    obtain ⟨v2, vs, rfl⟩ : ∃ d r, vs = d :: r := by
      cases vs with
      | nil => exact pf.elim
      | cons d r => exact ⟨d, r, rfl⟩
    obtain ⟨_, _, _, _, pf⟩ := pf
    obtain ⟨d3, ds, rfl⟩ : ∃ d r, ds = d :: r := by
      cases ds with
      | nil => cases vs <;> exact pf.elim
      | cons d r => exact ⟨d, r, rfl⟩
    obtain ⟨v3, vs, rfl⟩ : ∃ d r, vs = d :: r := by
      cases vs with
      | nil => exact pf.elim
      | cons d r => exact ⟨d, r, rfl⟩
    obtain ⟨_, _, _, _, pf⟩ := pf
    cases ds with
    | cons _ _ => cases vs <;> exact pf.elim
    | nil =>
      cases vs with
      | cons _ _ => exact pf.elim
      | nil =>
        refine ⟨v1, v2, v3, rfl, ?_⟩
        have e : ((σ.set i (some v1)).set j (some v2)).set l (some v3) = ((σ.set l (some v3)).set j (some v2)).set i (some v1) := by
          rw [List.set_comm _ _ h7, List.set_comm _ _ h8, List.set_comm _ _ h9]
        rw [e]
        exact z
  · cases h4
theorem s_parD2 {wr : Str → Bool} (g : Good N G Γ X.env.scope wr X) {t : PTr} {is : List Nat} {es : Exs} (hk : fnB X.env.scope = true) (h : parB N X.env.scope is es (t.s 0).ts (toEs N G es (t.s 1).ts) = true)
    (h2l : is.length = 2) (hcap : 2 ≤ cap) (pa : PA X (toEs N G es (t.s 1).ts) (tDs X.K dr Γ es)) :
    PS X (toS N G (.parD is es) t) (tS X.K dr Γ (.parD is es)) := by
  have hb : X.env.blockKind = .function := by unfold Env.blockKind; rw [show X.env.scope.kind = .function from of_decide_eq_true hk]; rfl
  have nd : X.N.Nodup := by rw [g.hN]; exact g.nd
  unfold parB at h
  simp only [Bool.and_eq_true, Bool.not_eq_true', List.all_eq_true, decide_eq_true_eq] at h
  obtain ⟨⟨⟨h1, h2⟩, h3⟩, h4⟩ := h
  generalize ht : t.s 0 = t0 at h4
  split at h4
  · rename_i i j e1 e2 p q hp
    simp only [Bool.and_eq_true, Bool.not_eq_true', decide_eq_true_eq] at h4
    obtain ⟨⟨h5, h6⟩, h7⟩ := h4
    obtain ⟨i1, i2⟩ := h1 i (by simp)
    obtain ⟨j1, j2⟩ := h1 j (by simp)
    have pa : PA X [toE N G e1 (hdT (t.s 1).ts), toE N G e2 (hdT (t.s 1).ts.tail)] (tDs X.K dr Γ (.cons e1 (.cons e2 .nil))) := pa
    have sw := sw_two (kt := t0.k) (k2 := (t.s 1).k) (pt := t0.p 0) (pt2 := (t.s 1).p 0) hb (loc_of i2) (loc_of j2) h5 h6 (star_toE' N G e1 _) (star_toE' N G e2 _) h2 h3
    have P := ps_par (pos := t.p 0) g.calm nd (names_get g i1) (names_get g j1) h7 (loc_of i2) (loc_of j2) pa sw rfl
    have et : toS N G (.parD [i, j] (.cons e1 (.cons e2 .nil))) t = .Assign [.Tuple [.Name (nmOf N i) (p.p 0), .Name (nmOf N j) (q.p 0)] t0.k (t0.p 0)] (.Tuple [toE N G e1 (hdT (t.s 1).ts), toE N G e2 (hdT (t.s 1).ts.tail)] (t.s 1).k ((t.s 1).p 0)) (t.p 0) := by
      simp only [toS, ht, hp, names, hdT, toEs, nmOf]
      rfl
    rw [et]
    refine PS.imp P fun En σ H h => ?_
    obtain ⟨B0, ρ, st, o, S, h, gl⟩ := h
    simp only [evS] at h
    obtain ⟨⟨hw, hl, hnd, hi, _⟩, h⟩ := ite_opt h
    obtain ⟨⟨ds, s1⟩, h1, rfl⟩ := Option.map_eq_some_iff.mp h
    refine ⟨B0, ρ, st, ds, s1, S, hw, h1, fun vs H' pf => ?_⟩
    have hi' : ∀ i ∈ _, i < ρ.length := fun i m => of_decide_eq_true (List.all_eq_true.mp hi i m)
    obtain ⟨k, S', ow, _⟩ := par_simD pf S hl hi'
    have z := gl _ _ S' (.kdo k ow)
    have hv := pd_len pf
    match vs, hv, z with
    | [v1, v2], _, z =>
      refine ⟨v1, v2, rfl, ?_⟩
      rw [List.set_comm _ _ h7]
      exact z
    | [], hv, _ => cases hv
    | [_], hv, _ => simp [Exs.len] at hv
    | _ :: _ :: _ :: _, hv, _ => simp [Exs.len] at hv
  · simp at h2l
  · cases h4
theorem sFs {wr : Str → Bool} (g : Good N G Γ X.env.scope wr X) : ∀ (es : Exs) (ts : List PTr), wfEs N G es ts X.env.scope = true → PA X (toEs N G es ts) (tFs X.K dr Γ es)
  | .nil, _, _ => f_nil
  | .cons e es, ts, h => by
    simp only [wfEs, Bool.and_eq_true] at h
    exact f_cons (sE dr e (hdT ts) _ _ X g h.1).pe (sFs g es ts.tail h.2) (star_toE N G e (hdT ts) _ _)
theorem sDs {wr : Str → Bool} (g : Good N G Γ X.env.scope wr X) : ∀ (es : Exs) (ts : List PTr), wfEs N G es ts X.env.scope = true → PA X (toEs N G es ts) (tDs X.K dr Γ es)
  | .nil, _, _ => d_nil
  | .cons e es, ts, h => by
    simp only [wfEs, Bool.and_eq_true] at h
    have S := sE dr e (hdT ts) _ _ X g h.1
    cases hm : isMk e with
    | false => exact d_cons hm S.pe (sDs g es ts.tail h.2) (star_toE N G e (hdT ts) _ _)
    | true => exact d_mk hm (S.mkd hm) (sDs g es ts.tail h.2) (star_toE N G e (hdT ts) _ _)
mutual
theorem sS (po : PassesOwn (model X.prog X.w) X.A X.env X.xe) (g : Good N G Γ X.env.scope (lcB X.env.scope) X) : ∀ (s : Sm) (t : PTr), wfS N G s t X.env.scope = true → PS X (toS N G s t) (tS X.K dr Γ s)
  | .set i e, t, h => by
    simp only [wfS, Bool.and_eq_true, decide_eq_true_eq] at h
    exact s_set g (of_decide_eq_true h.1.1.2) h.1.1.1.1 (lc_of h.1.1.1.2) (g.wrt _ h.1.1.1.2).2 h.2 (sE dr e (t.s 0) _ _ X g h.1.2)
  | .setT tg e, t, h => by
    simp only [wfS, Bool.and_eq_true] at h
    refine s_setT g (tg_ok dr g h.1.1.2) ?_ (swN_ok h.1.2) (sE dr e (t.s 1) _ _ X g h.2).pe
    cases tg with
    | tp gs => exact ⟨gs, rfl⟩
    | nm i => simp [isTp] at h
  | .par is es, t, h => by
    simp only [wfS, Bool.and_eq_true] at h
    exact s_par dr g h.1.2 h.1.1 (fun _ _ _ => trivial) h.2 fun e ts hh => (sE dr e ts _ _ X g hh).pe
  | .parN is es, t, h => by
    simp only [wfS, parNB, Bool.and_eq_true, List.all_eq_true, decide_eq_true_eq] at h
    obtain ⟨⟨h1, h2⟩, h3⟩ := h
    refine s_parN g h1 ?_ (sFs dr g es (t.s 1).ts h3)
    rcases Bool.or_eq_true_iff.mp h2 with h2 | h2
    rotate_left
    · obtain ⟨i, hi, hc⟩ := List.any_eq_true.mp h2
      obtain ⟨p, hp⟩ := mem_names (N := N) (ts := (t.s 0).ts) hi
      exact sw_cellN ⟨_, p, hp, fun z => by rw [of_decide_eq_true hc] at z; cases z⟩
    refine sw_none ?_
    have e : ∀ (is : List Nat) (ts : List PTr), (names N is ts).length = is.length := fun is => by
      induction is with
      | nil => exact fun _ => rfl
      | cons i is ih => exact fun ts => by show (names N is ts.tail).length + 1 = _; rw [ih]; rfl
    rw [e]
    exact h2
  | .parD is es, t, h => by
    simp only [wfS, Bool.and_eq_true, Bool.or_eq_true] at h
    obtain ⟨h, h3⟩ := h
    rcases h with h | h
    rotate_left
    · exact s_parD2 dr g h.1.2 h.1.1 (of_decide_eq_true h.2) (by decide) (sDs dr g es (t.s 1).ts h3)
    simp only [parNB, Bool.and_eq_true, List.all_eq_true, decide_eq_true_eq] at h
    obtain ⟨h1, h2⟩ := h
    have h2 : (((toEs N G es (t.s 1).ts).all (foldedForSure 8) || !(is.length == 2 || is.length == 3)) || is.any fun i => decide (X.env.scope.names.lookup (nmOf N i) = some .cell)) = true := by simpa using h2
    refine s_parD g h1 ?_ (sDs dr g es (t.s 1).ts h3)
    rcases Bool.or_eq_true_iff.mp h2 with h2 | h2
    rotate_left
    · obtain ⟨i, hi, hc⟩ := List.any_eq_true.mp h2
      obtain ⟨p, hp⟩ := mem_names (N := N) (ts := (t.s 0).ts) hi
      exact sw_cellN ⟨_, p, hp, fun z => by rw [of_decide_eq_true hc] at z; cases z⟩
    refine sw_none ?_
    have e : ∀ (is : List Nat) (ts : List PTr), (names N is ts).length = is.length := fun is => by
      induction is with
      | nil => exact fun _ => rfl
      | cons i is ih => exact fun ts => by show (names N is ts.tail).length + 1 = _; rw [ih]; rfl
    rw [e]
    exact h2
  | .app i e, t, h => by
    simp only [wfS, Bool.and_eq_true] at h
    exact s_app g h.1.1 h.1.2 (sE dr e (t.s 0) _ _ X g h.2).pe
  | .ext i e, t, h => by
    simp only [wfS, Bool.and_eq_true] at h
    exact s_ext g h.1.1 h.1.2 (sE dr e (t.s 0) _ _ X g h.2).pe
  | .put i k e, t, h => by
    simp only [wfS, Bool.and_eq_true] at h
    exact s_put g h.1.1 (sE dr k (t.s 0) _ _ X g h.1.2).pe (sE dr e (t.s 1) _ _ X g h.2).pe
  | .put2 i k j l es, t, h => by
    simp only [wfS, Bool.and_eq_true, decide_eq_true_eq] at h
    obtain ⟨⟨⟨⟨⟨h1, h2⟩, h3⟩, h4⟩, h5⟩, h6⟩ := h
    match es, h5, h6 with
    | .cons e1 (.cons e2 .nil), h5, _ => exact s_put2 g h1 h2 (sE dr k _ _ _ X g h3).pe (sE dr l _ _ _ X g h4).pe (sEs dr _ _ _ _ X g h5)
    | .nil, _, h6 => cases h6
    | .cons _ .nil, _, h6 => cases h6
    | .cons _ (.cons _ (.cons _ _)), _, h6 => simp [Exs.len] at h6
  | .setD i e, t, h => by
    simp only [wfS, Bool.and_eq_true, decide_eq_true_eq] at h
    exact s_setD g (of_decide_eq_true h.1.1.1.2) h.1.1.1.1.1 h.1.2 (lc_of h.1.1.1.1.2) (g.wrt _ h.1.1.1.1.2).2 h.2 (sE dr e (t.s 0) _ _ X g h.1.1.2)
  | .popD i k, t, h => by
    simp only [wfS, Bool.and_eq_true] at h
    exact s_popD g h.1.1 (sE dr k _ _ _ X g h.1.2).pe h.2
  | .popV j i k, t, h => by
    simp only [wfS, Bool.and_eq_true] at h
    exact s_popV g (of_decide_eq_true h.1.1.1.1.1) (lc_of h.1.1.1.1.2) (g.wrt _ h.1.1.1.1.2).2 h.1.1.2 (sE dr k _ _ _ X g h.1.2).pe h.2
  | .popS j i, t, h => by
    simp only [wfS, Bool.and_eq_true] at h
    exact s_popS g (of_decide_eq_true h.1.1.2) (of_decide_eq_true h.1.1.1.1) (lc_of h.1.1.1.2) (g.wrt _ h.1.1.1.2).2 h.1.2 h.2
  | .ret e, t, h => by
    simp only [wfS] at h
    exact s_ret (sE dr e (t.s 0) _ _ X g h).pe
  | .iff c a b, t, h => by
    simp only [wfS, Bool.and_eq_true] at h
    exact s_iff ((sE dr c (t.s 0) _ _ X g h.1.1.1).pt h.1.1.2) (sSs po g a (t.s 1).ts h.1.2) (sSs po g b (t.s 2).ts h.2)
  | .for_ tg it body, t, h => by
    simp only [wfS, Bool.and_eq_true] at h
    refine s_for (tgI_pt h.1.1.2) po g.calm (sI dr it (t.s 1) _ _ X g h.1.1.1 _ fun z => ?_) (tg_ok dr g h.1.2) (sSs po g body (t.s 2).ts h.2)
    cases tg with
    | tp gs => exact ⟨_, _, _, rfl⟩
    | nm i =>
      have h3 := h.1.1.2
      cases it <;> simp [tgI, isPair] at h3 z
  | .whl c body, t, h => by
    simp only [wfS, Bool.and_eq_true] at h
    exact s_whl po ((sE dr c (t.s 0) _ _ X g h.1.1).pt h.1.2) (sSs po g body (t.s 1).ts h.2)
  | .brk, t, _ => PS.imp ps_break (by rintro En σ H ⟨B0, ρ, st, o, S, h, gl⟩; cases h; exact gl _ _ S .refl)
  | .cnt, t, _ => PS.imp ps_continue (by rintro En σ H ⟨B0, ρ, st, o, S, h, gl⟩; cases h; exact gl _ _ S .refl)
  | .pas, t, _ => PS.imp ps_pass (by rintro En σ H ⟨B0, ρ, st, o, S, h, gl⟩; cases h; exact gl _ _ S .refl)
theorem sSs (po : PassesOwn (model X.prog X.w) X.A X.env X.xe) (g : Good N G Γ X.env.scope (lcB X.env.scope) X) : ∀ (s : Sms) (ts : List PTr), wfSs N G s ts X.env.scope = true → PSs X (toSs N G s ts) (tSs X.K dr Γ s)
  | .nil, ts, _ => PSs.imp pss_nil (by rintro En σ H ⟨B0, ρ, st, o, S, h, gl⟩; cases h; exact gl _ _ S .refl)
  | .cons s r, ts, h => by
    simp only [wfSs, Bool.and_eq_true] at h
    refine PSs.imp (pss_cons (sS po g s (hdT ts) h.1) (sSs po g r ts.tail h.2)) ?_
    rintro En σ H ⟨B0, ρ, st, o, S, h, gl⟩
    simp only [evSs, Option.bind_eq_some_iff] at h
    obtain ⟨o', h1, h2⟩ := h
    refine ⟨B0, ρ, st, o', S, h1, ?_⟩
    cases o' with
    | nx ρ' st' => exact fun σ' H' S' sp => ⟨B0, ρ', st', o, S', h2, gl.step sp S.dn S'.dn⟩
    | rt d st' => cases h2; exact gl
    | bk ρ' st' => cases h2; exact gl
    | ct ρ' st' => cases h2; exact gl
  | .shr i r, ts, h => by
    simp only [wfSs] at h
    have hp := sSs po g r ts h
    refine ⟨fun pins s σ H En I q => ?_⟩
    obtain ⟨B0, ρ, st, o, S, h, gl⟩ := q
    simp only [evSs] at h
    split at h
    · rename_i d hs
      by_cases hd : ∃ es, d = .dict es
      · obtain ⟨es, rfl⟩ := hd
        obtain ⟨a, u, ea, eu, ⟨B, cu⟩, na, S'⟩ := S.shareD hs
        refine (PSs.lock hp).run pins s σ H En I ⟨a, u, eu, by cases cu <;> trivial, fun od => ?_⟩
        obtain ⟨S2, k⟩ := S' od
        have sp : Stp dr ρ σ H (ρ.set i (.sh (.dict es))) σ (upd H a (.frz od u)) := ⟨k.wide fun b z => .inr (by subst z; exact ⟨i, _, hs, ea⟩), fun b ⟨j, f, q1, q2⟩ => by
          rcases set_get q1 with ⟨_, _, z⟩ | ⟨_, q1⟩
          · cases z
          · exact .inl ⟨j, f, q1, q2⟩⟩
        exact ⟨B0, _, st, o, S2, h, gl.step sp S.dn S2.dn⟩
      · have S' := S.share hs fun es e => hd ⟨es, e⟩
        have sp : Stp dr ρ σ H (ρ.set i (.sh d)) σ H := ⟨.refl, fun b ⟨j, f, q1, q2⟩ => by
          rcases set_get q1 with ⟨_, _, z⟩ | ⟨_, q1⟩
          · cases z
          · exact .inl ⟨j, f, q1, q2⟩⟩
        exact hp.run pins s σ H En I ⟨B0, _, st, o, S', h, gl.step sp S.dn S.dn⟩
    · exact hp.run pins s σ H En I ⟨B0, ρ, st, o, S, h, gl⟩
end
end
end Pf

namespace Pf
open PySem PySem.Spec PyProof.Rows L2
variable [Mode]

def CnsAt (K : PySem.W.Frag) (mg : Str → Option Value) (x : Str) (d : D) : Prop := ∃ v u, mg x = some u ∧ RelV v u ∧ ∀ dr H B, Rep K dr H B v d
structure CallsAt (P : Program) (w : World) (K : PySem.W.Frag) (mg : Str → Option Value) (base : Heap) (k : Nat) (x : Str) (F : Fn) : Prop where
  ex : ∃ f fd ps, FnOk P w K mg base CX0 k f fd ps (spF K F) ∧ mg x = some (.ref f) ∧ PySem.W.keepIn K (.ref f) = true ∧ Binds K fd ps []
section
variable {P : Program} {w : World} {K : PySem.W.Frag} {mg : Str → Option Value} {base : Heap} {k : Nat} {x : Str} {F : Fn}
theorem CallsAt.mono (c : CallsAt P w K mg base k x F) {j : Nat} (h : k ≤ j) : CallsAt P w K mg base j x F := by
  obtain ⟨f, fd, ps, h1, h2⟩ := c.ex
  exact ⟨f, fd, ps, h1.mono h, h2⟩
/-- a weaker function -/
theorem CallsAt.imp (c : CallsAt P w K mg base k x F) {F' : Fn} (h : ∀ ds st r, F' ds st = some r → F ds st = some r) : CallsAt P w K mg base k x F' := by
  obtain ⟨f, fd, ps, h1, h2⟩ := c.ex
  refine ⟨f, fd, ps, h1.imp fun vs H Q E => ?_, h2⟩
  rintro ⟨dr, B0, ds, st, d, st', b1, b2, al, r, w, hF, q⟩
  exact ⟨dr, B0, ds, st, d, st', b1, b2, al, r, w, h _ _ _ hF, q⟩
def rho0 (n : Nat) (ds : List D) : List Slot := ds.map .sh ++ List.replicate (n - ds.length) .no
theorem rho0_sh {n : Nat} {ds : List D} {i : Nat} {s : Slot} (h : (rho0 n ds)[i]? = some s) : s = .no ∨ ∃ d, ds[i]? = some d ∧ s = .sh d := by
  unfold rho0 at h
  by_cases hi : i < ds.length
  · rw [List.getElem?_append_left (by simpa using hi), List.getElem?_map] at h
    obtain ⟨d, h1, h2⟩ := Option.map_eq_some_iff.mp h
    exact .inr ⟨d, h1, h2.symm⟩
  · rw [List.getElem?_append_right (by simpa using hi), List.getElem?_replicate] at h
    split at h <;> cases h
    exact .inl rfl
theorem sim_start {dr : Dr} {B0 : Addr → Prop} {H : Hp} {N : List Str} {vs : List V} {ds : List D} {st : DS} (b1 : B0 dr.a) (b2 : B0 dr.p) (al : ∀ b, B0 b → H b ≠ none) (r : Reps K dr H B0 vs ds) (dw : DrawOk K dr H st) (hl : ds.length ≤ N.length) :
    Sim K dr B0 H (rho0 N.length ds) (start N vs) st ∧ ∀ b, ¬ Ows (rho0 N.length ds) (start N vs) b := by
  have no : ∀ b, ¬ Ows (rho0 N.length ds) (start N vs) b := fun b ⟨i, d, h, _⟩ => by
    rcases rho0_sh h with z | ⟨_, _, z⟩ <;> cases z
  refine ⟨⟨dw, b1, b2, al, fun i d h => ?_, fun i d h => ?_, fun i d h => ?_, fun i j d e a h _ _ _ => ?_, ?_⟩, no⟩
  · rcases rho0_sh h with z | ⟨d', h', z⟩
    · cases z
    · cases z
      obtain ⟨v, e, q⟩ := r.get h'
      refine ⟨v, ?_, Rep.anti (fun b z => z.elim .inl fun z => (no b z).elim) _ _ q⟩
      unfold L2.start
      rw [List.getElem?_append_left (by simpa using (List.getElem?_eq_some_iff.mp e).1), List.getElem?_map, e]
      rfl
  · rcases rho0_sh h with z | ⟨_, _, z⟩ <;> cases z
  · rcases rho0_sh h with z | ⟨_, _, z⟩ <;> cases z
  · rcases rho0_sh h with z | ⟨_, _, z⟩ <;> cases z
  · simp [rho0, L2.start, r.length]
theorem fn_ok {qual : Str} {st : Stmt} {f : Addr} {fd : FuncData} {N ps : List Str} {G : Nm} {Γ : Gam} {body : Sms} {pts : List PTr} (F : Fun K x qual st f fd) (S : FnScope N ps (defScope st))
    (hΓ : ∀ j Fj, Γ.fs[j]? = some Fj → CallsAt P w K mg base k (G.fs.getD j Str.empty) Fj) (hC : ∀ j d, Γ.cs[j]? = some d → CnsAt K mg (G.cs.getD j Str.empty) d) (hL : LibOk G.lib mg) (hb : ∀ x ∈ bltNames, mg x = none) (hw : wfSs N G body pts (defScope st) = true) (ht : toSs N G body pts = defBody st) :
    FnOk P w K mg base CX0 (k + 1) f fd ps (spF K (evF Γ N.length ps.length body)) := by
  refine F.ok S (fun vs H Q E => ?_) fun cdv A outer s H vs Q E hr hsp => ?_
  · rintro ⟨dr, B0, ds, st, d, st', b1, b2, al, r, w, hF, q⟩
    unfold evF at hF
    rw [← r.length] at hF
    split at hF
    · assumption
    · cases hF
  · obtain ⟨dr, B0, ds, st0, d, st', b1, b2, al, r, dw, hF, q⟩ := hsp
    refine ⟨tSs K dr Γ body, ?_, ?_⟩
    · rw [← ht]
      refine sSs (X := (cxOf CX0 P w K mg base N qual (defScope st) f cdv A outer s H E).nox) dr PassesOwn.never ⟨rfl, rfl, S.nd, rfl, fun x h => ?_, ?_, fun j Fj hj => ?_, hC, hL, hb⟩ body pts hw
      · exact ⟨lc_of h, .inl rfl⟩
      · have := hr.un
        show (A.deeper _).units + 200 < cLine
        omega
      · obtain ⟨f', fd', ps', h1, h2, h3, h4⟩ := (hΓ j Fj hj).ex
        exact ⟨k, f', fd', ps', h1, hr, h2, h3, h4⟩
    · unfold evF at hF
      obtain ⟨hl, hF⟩ := ite_opt hF
      obtain ⟨o, h1, h2⟩ := Option.bind_eq_some_iff.mp hF
      have hpl : ps.length ≤ N.length := by have := congrArg List.length S.pre; rw [List.length_take] at this; omega
      obtain ⟨S0, no⟩ := sim_start (N := N) b1 b2 al r dw (by omega)
      refine ⟨B0, _, st0, o, S0, by unfold rho0; rw [hl]; exact h1, ?_⟩
      have low : ∀ {σ' ρ' H'}, Stp dr (rho0 N.length ds) (start N vs) H ρ' σ' H' → KD dr H H' := fun s => s.kp.wide fun b z => z.elim id fun z => (no b z).elim
      cases o with
      | nx ρ' s' =>
        cases h2
        exact fun σ' H' S' sp => q _ _ (low sp) S'.drw .non
      | rt d' s' =>
        cases h2
        exact fun v H' k w r => q v H' (k.wide fun b z => z.elim id fun z => (no b z).elim) w r
      | bk => cases h2
      | ct => cases h2
/-- a def is called -/
theorem calls_ok {qual : Str} {st : Stmt} {f : Addr} {fd : FuncData} {N ps : List Str} {G : Nm} {Γ : Gam} {body : Sms} {pts : List PTr} (F : Fun K x qual st f fd) (S : FnScope N ps (defScope st))
    (hC : ∀ j d, Γ.cs[j]? = some d → CnsAt K mg (G.cs.getD j Str.empty) d) (hL : LibOk G.lib mg) (hb : ∀ x ∈ bltNames, mg x = none) (hm : mg x = some (.ref f)) (hB : Binds K fd ps [])
    (hw : wfSs N G body pts (defScope st) = true) (ht : toSs N G body pts = defBody st) (hΓ : ∀ j Fj, Γ.fs[j]? = some Fj → CallsAt P w K mg base k (G.fs.getD j Str.empty) Fj) : CallsAt P w K mg base (k + 1) x (evF Γ N.length ps.length body) :=
  ⟨f, fd, ps, fn_ok F S hΓ hC hL hb hw ht, hm, F.kp, hB⟩
end
end Pf

namespace Pf
open PySem PySem.Spec PyProof.Rows L2
variable [Mode]

def outV (y m : Int) : Int := y * 69621 % 2147483629 / 7 % m
def DS.setX (st : DS) (x : Int) (h : 0 ≤ x) : DS := { st with x := x, hx := h }
theorem y_ok (a : Int) : 0 ≤ a % 2147483647 ∧ a % 2147483647 < 2147483647 := by omega
def DS.setY (st : DS) (a : Int) : DS := { st with y := a % 2147483647, hy0 := (y_ok a).1, hy1 := (y_ok a).2 }
def DS.more (st : DS) (h : st.i < st.ns.length) : DS := { st with i := st.i + 1, hi := h }
def DS.cell (st : DS) (h : st.i < st.ns.length) : Int := if st.ns[st.i] < 0 then -st.ns[st.i] else st.ns[st.i]
theorem DS.cell_nn {st : DS} (h : st.i < st.ns.length) : 0 ≤ st.cell h := by
  unfold DS.cell
  split <;> omega
def stepDS (st : DS) (m : Int) (hm : 0 < m) : Int × DS :=
  if 0 < st.x then (st.x % m, st.setX (st.x / m) (Int.ediv_nonneg st.hx (Int.le_of_lt hm)))
  else if h : st.i < st.ns.length then
    if 1000000000000000000 ≤ st.cell h then (st.cell h % m, (st.more h).setX (st.cell h / m) (Int.ediv_nonneg (DS.cell_nn h) (Int.le_of_lt hm)))
    else (outV ((st.y * 48271 + st.cell h + 11) % 2147483647) m, (st.more h).setY (st.y * 48271 + st.cell h + 11))
  else (outV ((st.y * 48271 + 12345) % 2147483647) m, st.setY (st.y * 48271 + 12345))
def nextF : Fn := fun ds st => match ds with
  | [.dict [(.none, .none)], .int m] => if h : 0 < m ∧ m.natAbs < 1073741824 then some (.int (stepDS st m h.1).1, (stepDS st m h.1).2) else none
  | _ => none
theorem stepDS_lt (st : DS) {m : Int} (hm : 0 < m) : 0 ≤ (stepDS st m hm).1 ∧ (stepDS st m hm).1 < m := by
  have key : ∀ a : Int, 0 ≤ a % m ∧ a % m < m := fun a => ⟨Int.emod_nonneg a (by omega), Int.emod_lt_of_pos a hm⟩
  unfold stepDS
  split
  · exact key _
  · split
    · split
      · exact key _
      · exact key _
    · exact key _
/-- all that a law's proof needs of it -/
theorem next_some (st : DS) {m : Int} (h0 : 0 < m) (h1 : m < 1073741824) : ∃ r st', nextF [drw, .int m] st = some (.int r, st') ∧ 0 ≤ r ∧ r < m := by
  refine ⟨_, (stepDS st m h0).2, ?_, (stepDS_lt st h0).1, (stepDS_lt st h0).2⟩
  show (if h : 0 < m ∧ m.natAbs < 1073741824 then some (PyData.int (stepDS st m h.1).1, (stepDS st m h.1).2) else none) = _
  rw [dif_pos ⟨h0, by omega⟩]

def nextN : List Str := ["draw", "many", "found", "cell"]
def dx (i : Int) : Ex := .ix (.var 0) (.int i)
def nextB : Sms :=
  .cons (.iff (.cmp .Gt (dx 2) (.int 0)) (.cons (.set 2 (.bin .Mod (.bi .int (.cons (dx 2) .nil)) (.var 1))) (.cons (.put 0 (.int 2) (.bin .FloorDiv (dx 2) (.var 1))) (.cons (.ret (.var 2)) .nil))) .nil)
  (.cons (.iff (.cmp .Lt (dx 1) (.bi .len (.cons (dx 0) .nil)))
    (.cons (.set 3 (.bi .abs (.cons (.ix (dx 0) (dx 1)) .nil))) (.cons (.put 0 (.int 1) (.bin .Add (dx 1) (.int 1)))
      (.cons (.iff (.cmp .GtE (.var 3) (.bin .Pow (.int 10) (.int 18))) (.cons (.put 0 (.int 2) (.bin .FloorDiv (.var 3) (.var 1))) (.cons (.ret (.bin .Mod (.bi .int (.cons (.var 3) .nil)) (.var 1))) .nil)) .nil)
      (.cons (.put 0 (.int 3) (.bin .Mod (.bi .int (.cons (.bin .Add (.bin .Add (.bin .Mult (dx 3) (.int 48271)) (.var 3)) (.int 11)) .nil)) (.int 2147483647))) .nil))))
    (.cons (.put 0 (.int 3) (.bin .Mod (.bi .int (.cons (.bin .Add (.bin .Mult (dx 3) (.int 48271)) (.int 12345)) .nil)) (.int 2147483647))) .nil))
  (.cons (.ret (.bin .Mod (.bin .FloorDiv (.bi .int (.cons (.bin .Mod (.bin .Mult (dx 3) (.int 69621)) (.int 2147483629)) .nil)) (.int 7)) (.var 1))) .nil))
/-- the names' kinds -/
def nextW (sc : Scope) : Bool := locB sc "draw" && locB sc "many" && locB sc "found" && locB sc "cell" && glB sc "int" && glB sc "abs" && glB sc "len"

def dL (dr : Dr) (i x y : Int) : HO := .lst [.ref dr.p, .int i, .int x, .int y]
section
variable {P : Program} {w : World} {K : PySem.W.Frag} {mg : Str → Option Value} {base : Heap}
theorem next_ps {X : Cx} (po : PassesOwn (model X.prog X.w) X.A X.env X.xe) (hc : X.calm = true) (hN : X.N = nextN) (hw : nextW X.env.scope = true) (mi : X.mg "int" = none) (ma : X.mg "abs" = none) (ml : X.mg "len" = none) (ts : List PTr) :
    ∃ t, PSs X (toSs nextN ⟨[], [], []⟩ nextB ts) t ∧ ∀ (dr : Dr) (st : DS) (m : Int) (hm : 0 < m) (H : Hp) (R : VK) (nx : L2.St → Hp → Prop), m < 1073741824 → DrawOk X.K dr H st →
      (∀ H', KD dr H H' → DrawOk X.K dr H' (stepDS st m hm).2 → R (.int (stepDS st m hm).1) H') → t { nx := nx, rt := R } [some (.ref dr.a), some (.int m), none, none] H := by
  have nd : X.N.Nodup := by rw [hN]; decide +kernel
  unfold nextW at hw
  simp only [Bool.and_eq_true] at hw
  obtain ⟨⟨⟨⟨⟨⟨l0, l1⟩, l2⟩, l3⟩, g1⟩, g2⟩, g3⟩ := hw
  have l0 := loc_of l0
  have l1 := loc_of l1
  have l2 := loc_of l2
  have l3 := loc_of l3
  have g1 : Gl X "int" := (show X.env.scope.names.lookup _ = _ from of_decide_eq_true g1)
  have g2 : Gl X "abs" := (show X.env.scope.names.lookup _ = _ from of_decide_eq_true g2)
  have g3 : Gl X "len" := (show X.env.scope.names.lookup _ = _ from of_decide_eq_true g3)
  have n0 : X.N[0]? = some ("draw" : Str) := by rw [hN]; rfl
  have n1 : X.N[1]? = some ("many" : Str) := by rw [hN]; rfl
  have n2 : X.N[2]? = some ("found" : Str) := by rw [hN]; rfl
  have n3 : X.N[3]? = some ("cell" : Str) := by rw [hN]; rfl
  have v0 : ∀ p, PE X (.Name "draw" p) (tVar 0) := fun p => pe_var n0 (.inl l0) (by decide +kernel) (by decide +kernel)
  have v1 : ∀ p, PE X (.Name "many" p) (tVar 1) := fun p => pe_var n1 (.inl l1) (by decide +kernel) (by decide +kernel)
  have v2 : ∀ p, PE X (.Name "found" p) (tVar 2) := fun p => pe_var n2 (.inl l2) (by decide +kernel) (by decide +kernel)
  have v3 : ∀ p, PE X (.Name "cell" p) (tVar 3) := fun p => pe_var n3 (.inl l3) (by decide +kernel) (by decide +kernel)
  have d : ∀ (i : Int) (t : PTr), PE X (toE nextN ⟨[], [], []⟩ (dx i) t) (tOp (rIxL X.K) (tVar 0) (tC (.int i))) := fun i t => pe_ix ix_list (v0 _) pe_int fun _ _ => rfl
  have put : ∀ (i : Int) (e : Ex) (t : PTr) (te : TE), PE X (toE nextN ⟨[], [], []⟩ e (t.s 1)) te → PS X (toS nextN ⟨[], [], []⟩ (.put 0 (.int i) e) t) (tAsg te (gSub (tVar 0) (tC (.int i)) rSetL)) := fun i e t te h =>
    ps_asg h (pg_sub (v0 _) pe_int set_list (by intro _; rfl)) (show swapsWith (toE nextN ⟨[], [], []⟩ e (t.s 1)) (some (.Subscript (.Name (nextN.getD 0 Str.empty) (t.p 2)) (toE nextN ⟨[], [], []⟩ (.int i) (t.s 0)) (t.p 1))) (t.p 0).line X.env = pure false from sw_sub (fun _ _ z => by cases z)) rfl rfl
  refine ⟨_, pss_cons (ps_if (pt_cmpR op_gt (d 2 _) pe_int rfl)
      (pss_cons (ps_set nd n2 (.inl l2) (pe_op op_mod (pe_callTy call_int1 g1 mi (by decide +kernel) (pa_cons (d 2 _) pa_nil)) (v1 _)) rfl (.inr l2)) (pss_cons (put 2 (.bin .FloorDiv (dx 2) (.var 1)) _ _ (pe_op op_fdiv (d 2 _) (v1 _))) (pss_cons (ps_ret (v2 _)) pss_nil))) pss_nil)
    (pss_cons (ps_if (pt_cmpR op_lt (d 1 _) (pe_callB call_len_seq g3 ml PySem.boot_len (pa_cons (d 0 _) pa_nil)) rfl)
      (pss_cons (ps_set nd n3 (.inl l3) (pe_callB call_abs g2 ma (by decide +kernel) (pa_cons (pe_ix ix_list (d 0 _) (d 1 _) fun _ _ => rfl) pa_nil)) rfl (.inr l3))
        (pss_cons (put 1 (.bin .Add (dx 1) (.int 1)) _ _ (pe_op op_add (d 1 _) pe_int))
        (pss_cons (ps_if (pt_cmpR op_ge (v3 _) (pe_op op_pow pe_int pe_int) rfl)
          (pss_cons (put 2 (.bin .FloorDiv (.var 3) (.var 1)) _ _ (pe_op op_fdiv (v3 _) (v1 _))) (pss_cons (ps_ret (pe_op op_mod (pe_callTy call_int1 g1 mi (by decide +kernel) (pa_cons (v3 _) pa_nil)) (v1 _))) pss_nil)) pss_nil)
        (pss_cons (put 3 _ _ _ (pe_op op_mod (pe_callTy call_int1 g1 mi (by decide +kernel) (pa_cons (pe_op op_add (pe_op op_add (pe_op op_mul (d 3 _) pe_int) (v3 _)) pe_int) pa_nil)) pe_int)) pss_nil))))
      (pss_cons (put 3 _ _ _ (pe_op op_mod (pe_callTy call_int1 g1 mi (by decide +kernel) (pa_cons (pe_op op_add (pe_op op_mul (d 3 _) pe_int) pe_int) pa_nil)) pe_int)) pss_nil))
    (pss_cons (ps_ret (pe_op op_mod (pe_op op_fdiv (pe_callTy call_int1 g1 mi (by decide +kernel) (pa_cons (pe_op op_mod (pe_op op_mul (d 3 _) pe_int) pe_int) pa_nil)) pe_int) (v1 _))) pss_nil)), ?_⟩
  intro dr st m hm H R nx hm2 dw q
  obtain ⟨e1, e2, e3⟩ := dw
  have rd : ∀ {σ : L2.St} {H : Hp} {Q : VK} {xs : List V} (k : Int) (v : V), σ[0]? = some (some (.ref dr.a)) → H dr.a = some (.lst xs) → atI xs k = some v → Q v H → tOp (rIxL X.K) (tVar 0) (tC (.int k)) σ H Q :=
    fun k v z1 z2 z3 z => ⟨_, z1, _, _, k, v, rfl, rfl, SqL.of z2, z3, z⟩
  have kd1 : ∀ {H : Hp} {xs : List V} (ys : List V), H dr.a = some (.lst xs) → KD dr H (upd H dr.a (.lst ys)) := fun ys z =>
    ⟨fun b o n e => by rw [upd_ne n]; exact e, fun b xs e => by rw [upd_ne (ne_of e z (by intro z; cases z))]; exact e, fun b o u e => by rw [upd_ne (ne_of e z (by intro z; cases z))]; exact e⟩
  have fin : ∀ (i x y : Int) (st' : DS) (H' : Hp), KD dr H H' → H' dr.a = some (dL dr i x y) → st'.ns = st.ns → ((st'.i : Nat) : Int) = i → st'.x = x → st'.y = y → DrawOk X.K dr H' st' := fun i x y st' H' k z z0 z1 z2 z3 => by
    refine ⟨?_, k.keep _ _ e3 (by rw [z0]; exact e2), e3⟩
    rw [z1, z2, z3]
    exact z
  have out : ∀ (i x y : Int) (f c : Option V) (H' : Hp) (st' : DS), H' dr.a = some (dL dr i x y) → st'.y = y → R (.int (outV y m)) H' → tRet (tOp (rI (fun _ j => 0 < j) fun i j => .int (i % j)) (tOp (rI CDiv fun i j => .int (i / j)) (tCB (fun xs H Q => (∃ i, xs = [V.int i] ∧ Q (V.int i) H) ∨ ∃ k, xs = [V.bl k] ∧ Q (V.int (if k then 1 else 0)) H)
      (tCons (tOp (rI (fun _ j => 0 < j) fun i j => .int (i % j)) (tOp (rI CMul fun i j => .int (i * j)) (tOp (rIxL X.K) (tVar 0) (tC (.int 3))) (tC (.int 69621))) (tC (.int 2147483629))) tNil)) (tC (.int 7))) (tVar 1)) { nx := nx, rt := R } [some (.ref dr.a), some (.int m), f, c] H' := fun i x y f c H' st' z z1 z2 => by
    refine rd 3 _ rfl z rfl ⟨_, _, rfl, rfl, .inr ⟨by decide, by decide⟩, _, _, rfl, rfl, (by decide : (0:Int) < 2147483629), .inl ⟨_, rfl, _, _, rfl, rfl, ⟨by decide, by decide⟩, _, rfl, _, _, rfl, rfl, hm, z2⟩⟩
  refine rd 2 _ rfl e1 rfl ⟨_, _, rfl, rfl, _, rfl, ?_⟩
  by_cases h : 0 < st.x
  · have hs : stepDS st m hm = (st.x % m, st.setX (st.x / m) (Int.ediv_nonneg st.hx (Int.le_of_lt hm))) := by
      unfold stepDS
      rw [if_pos h]
    rw [hs] at q
    rw [decide_eq_true h]
    refine iteT (rd 2 _ rfl e1 rfl (.inl ⟨_, rfl, _, rfl, _, _, rfl, rfl, hm, ?_⟩))
    refine rd 2 _ rfl e1 rfl ⟨_, rfl, _, _, rfl, rfl, ⟨hm, hm2⟩, _, rfl, _, _, _, 2, rfl, rfl, e1, rfl, _, rfl, ?_⟩
    exact q _ (kd1 _ e1) (fin _ _ _ _ _ (kd1 _ e1) upd_same rfl rfl rfl rfl)
  · have hx0 : st.x = 0 := by have := st.hx; omega
    rw [decide_eq_false h]
    refine iteF (rd 1 _ rfl e1 rfl (rd 0 _ rfl e1 rfl ⟨_, _, rfl, .inl (SqL.of e2), _, _, rfl, rfl, _, rfl, ?_⟩))
    rw [List.length_map]
    by_cases h2 : st.i < st.ns.length
    · rw [decide_eq_true (show ((st.i : Nat) : Int) < ((st.ns.length : Nat) : Int) by omega)]
      have ei : atI (st.ns.map V.int) (st.i : Nat) = some (.int st.ns[st.i]) := by
        unfold atI ixN
        rw [if_pos (by omega), if_pos (by rw [List.length_map]; omega)]
        show (st.ns.map V.int)[((st.i : Nat) : Int).toNat]? = _
        rw [Int.toNat_natCast, List.getElem?_map, List.getElem?_eq_getElem h2]
        rfl
      refine iteT (rd 0 _ rfl e1 rfl (rd 1 _ rfl e1 rfl ⟨_, _, _, _, rfl, rfl, SqL.of e2, ei, _, rfl, ?_⟩))
      refine rd 1 _ rfl e1 rfl ⟨_, _, rfl, rfl, _, rfl, _, _, _, 1, rfl, rfl, e1, rfl, ?_⟩
      have k1 := kd1 (([.ref dr.p, .int st.i, .int st.x, .int st.y] : List V).set 1 (.int (st.i + 1))) e1
      refine ⟨_, rfl, _, _, rfl, rfl, ⟨by decide, by decide, by decide⟩, _, _, rfl, rfl, _, rfl, ?_⟩
      have p18 : (10 : Int) ^ (18 : Int).toNat = 1000000000000000000 := by decide
      rw [p18]
      by_cases h3 : 1000000000000000000 ≤ st.cell h2
      · have hs : stepDS st m hm = (st.cell h2 % m, (st.more h2).setX (st.cell h2 / m) (Int.ediv_nonneg (DS.cell_nn h2) (Int.le_of_lt hm))) := by
          unfold stepDS
          rw [if_neg h, dif_pos h2, if_pos h3]
        rw [hs] at q
        have h3' : (1000000000000000000 : Int) ≤ (if st.ns[st.i] < 0 then -st.ns[st.i] else st.ns[st.i]) := h3
        rw [decide_eq_true h3']
        refine iteT ⟨_, rfl, _, rfl, _, _, rfl, rfl, ⟨hm, hm2⟩, _, rfl, _, _, _, 2, rfl, rfl, upd_same, rfl, _, rfl, .inl ⟨_, rfl, _, rfl, _, _, rfl, rfl, hm, ?_⟩⟩
        have k2 := k1.trans (kd1 (([.ref dr.p, .int (st.i + 1), .int st.x, .int st.y] : List V).set 2 (.int (st.cell h2 / m))) upd_same)
        exact q _ k2 (fin _ _ _ _ _ k2 upd_same rfl rfl rfl rfl)
      · have hs : stepDS st m hm = (outV ((st.y * 48271 + st.cell h2 + 11) % 2147483647) m, (st.more h2).setY (st.y * 48271 + st.cell h2 + 11)) := by
          unfold stepDS
          rw [if_neg h, dif_pos h2, if_neg h3]
        rw [hs] at q
        have h3' : ¬ (1000000000000000000 : Int) ≤ (if st.ns[st.i] < 0 then -st.ns[st.i] else st.ns[st.i]) := h3
        rw [decide_eq_false h3']
        refine iteF (rd 3 _ rfl upd_same rfl ⟨_, _, rfl, rfl, .inr ⟨by decide, by decide⟩, _, rfl, _, _, rfl, rfl, _, _, rfl, rfl, .inl ⟨_, rfl, _, _, rfl, rfl, (by decide : (0:Int) < 2147483647), _, rfl, _, _, _, 3, rfl, rfl, upd_same, rfl, ?_⟩⟩)
        have k2 := k1.trans (kd1 (([.ref dr.p, .int (st.i + 1), .int st.x, .int st.y] : List V).set 3 (.int ((st.y * 48271 + st.cell h2 + 11) % 2147483647))) upd_same)
        exact out _ _ _ _ _ _ ((st.more h2).setY (st.y * 48271 + st.cell h2 + 11)) upd_same rfl (q _ k2 (fin _ _ _ _ _ k2 upd_same rfl rfl rfl rfl))
    · have hs : stepDS st m hm = (outV ((st.y * 48271 + 12345) % 2147483647) m, st.setY (st.y * 48271 + 12345)) := by
        unfold stepDS
        rw [if_neg h, dif_neg h2]
      rw [hs] at q
      rw [decide_eq_false (show ¬ ((st.i : Nat) : Int) < ((st.ns.length : Nat) : Int) by omega)]
      refine iteF (rd 3 _ rfl e1 rfl ⟨_, _, rfl, rfl, .inr ⟨by decide, by decide⟩, _, _, rfl, rfl, .inl ⟨_, rfl, _, _, rfl, rfl, (by decide : (0:Int) < 2147483647), _, rfl, _, _, _, 3, rfl, rfl, e1, rfl, ?_⟩⟩)
      exact out _ _ _ _ _ _ (st.setY (st.y * 48271 + 12345)) upd_same rfl (q _ (kd1 _ e1) (fin _ _ _ _ _ (kd1 _ e1) upd_same rfl rfl rfl rfl))
end
end Pf

namespace Pf
open PySem PySem.Spec PyProof.Rows L2
variable [Mode]

def st0 (ns : List Int) : DS := ⟨ns, 0, 0, 17, Nat.zero_le _, by decide, by decide, by decide⟩
def drawN : List Str := ["script"]
def drawB : Sms := .cons (.ret (.lst (.cons (.bi .list (.cons (.var 0) .nil)) (.cons (.int 0) (.cons (.int 0) (.cons (.int 17) .nil)))))) .nil
def drawW (sc : Scope) : Bool := locB sc "script" && glB sc "list"
def spDraw (K : PySem.W.Frag) : Sp := fun vs H Q _ => ∃ (a : Addr) (ns : List Int), vs = [.ref a] ∧ SqL K H a (ns.map V.int) ∧ ∀ p b, H p = none → H b = none → b ≠ p → Q (.ref b) (upd (upd H p (.lst (ns.map V.int))) b (.lst [.ref p, .int 0, .int 0, .int 17]))
def spLaw (K : PySem.W.Frag) : Sp := fun vs H Q _ => ∃ (a : Addr) (ns : List Int), vs = [.ref a] ∧ SqL K H a (ns.map V.int) ∧ ns.length ≤ 63 ∧ ∀ H', Q (.bl true) H'
section
variable {P : Program} {w : World} {K : PySem.W.Frag} {mg : Str → Option Value} {base : Heap} {k : Nat}
theorem draw_ok {qual x : Str} {st : Stmt} {f : Addr} {fd : FuncData} {pts : List PTr} (F : Fun K x qual st f fd) (S : FnScope drawN ["script"] (defScope st)) (ml : mg "list" = none) (hw : drawW (defScope st) = true) (ht : toSs drawN ⟨[], [], []⟩ drawB pts = defBody st) :
    FnOk P w K mg base CX0 (k + 1) f fd ["script"] (spDraw K) := by
  refine F.ok S (fun vs H Q E => ?_) fun cdv A outer s H vs Q E hr hsp => ?_
  · rintro ⟨a, ns, rfl, _⟩
    rfl
  · obtain ⟨a, ns, rfl, hS, q⟩ := hsp
    unfold drawW at hw
    simp only [Bool.and_eq_true] at hw
    rw [← ht]
    have l0 := loc_of hw.1
    let X := (cxOf CX0 P w K mg base drawN qual (defScope st) f cdv A outer s H E).nox
    have g1 : Gl X "list" := (show (defScope st).names.lookup _ = _ from of_decide_eq_true hw.2)
    have v0 : ∀ p, PE X (.Name "script" p) (tVar 0) := fun p => pe_var (X := X) (i := 0) rfl (.inl l0) (by decide +kernel) (by decide +kernel)
    refine ⟨_, pss_one (ps_ret (pe_lst (pa_cons (pe_callTy call_list_of g1 ml (by decide +kernel) (pa_cons (v0 _) pa_nil)) (pa_cons pe_int (pa_cons pe_int (pa_cons pe_int pa_nil)))))), ?_⟩
    refine ⟨_, rfl, a, _, rfl, .inl hS, fun p hp => ?_⟩
    refine ⟨by show 4 ≤ sizeLine; decide, fun b hb => ?_⟩
    have nbp : b ≠ p := fun z => by rw [z, upd_same] at hb; cases hb
    rw [upd_ne nbp] at hb
    exact q p b hp hb nbp
theorem next_ok {qual x : Str} {st : Stmt} {f : Addr} {fd : FuncData} {pts : List PTr} (F : Fun K x qual st f fd) (S : FnScope nextN ["draw", "many"] (defScope st)) (mi : mg "int" = none) (ma : mg "abs" = none) (ml : mg "len" = none) (hw : nextW (defScope st) = true) (ht : toSs nextN ⟨[], [], []⟩ nextB pts = defBody st) :
    FnOk P w K mg base CX0 (k + 1) f fd ["draw", "many"] (spF K nextF) := by
  have open_ : ∀ {ds : List D} {st : DS} {r : D × DS}, nextF ds st = some r → ∃ m, ∃ h : 0 < m, ds = [drw, .int m] ∧ m < 1073741824 ∧ r = (.int (stepDS st m h).1, (stepDS st m h).2) := fun {ds st r} h => by
    unfold nextF at h
    split at h
    · split at h
      · rename_i hm
        cases h
        exact ⟨_, hm.1, rfl, by omega, rfl⟩
      · cases h
    · cases h
  refine F.ok S (fun vs H Q E => ?_) fun cdv A outer s H vs Q E hr hsp => ?_
  · rintro ⟨dr, B0, ds, st, d, st', b1, b2, al, r, w, hF, q⟩
    obtain ⟨m, h, rfl, _⟩ := open_ hF
    have := r.length
    simpa using this
  · obtain ⟨dr, B0, ds, st1, d, st', b1, b2, al, r, dw, hF, q⟩ := hsp
    obtain ⟨m, hm, rfl, hm2, e⟩ := open_ hF
    cases e
    rw [← ht]
    obtain ⟨t, p, h⟩ := next_ps (X := (cxOf CX0 P w K mg base nextN qual (defScope st) f cdv A outer s H E).nox) PassesOwn.never rfl rfl hw mi ma ml pts
    refine ⟨t, p, ?_⟩
    cases r with
    | cons r1 rs =>
      cases rs with
      | cons r2 rs =>
        cases rs
        cases r1
        cases r2
        exact h dr st1 m hm H Q _ hm2 dw fun H' k w => q _ H' k w (.int _)
/-- the law: its first row draws, the rest is run -/
theorem law_ok {qual x dn : Str} {st : Stmt} {f df : Addr} {fd dfd : FuncData} {N : List Str} {G : Nm} {Γ : Gam} {rest : Sms} {p0 p1 p2 p3 p4 : Pos} {pts : List PTr} (F : Fun K x qual st f fd) (S : FnScope N ["script"] (defScope st))
    (DF : FnOk P w K mg base CX0 k df dfd ["script"] (spDraw K)) (dm : mg dn = some (.ref df)) (dk : PySem.W.keepIn K (.ref df) = true) (dB : Binds K dfd ["script"] [])
    (hΓ : ∀ j Fj, Γ.fs[j]? = some Fj → CallsAt P w K mg base k (G.fs.getD j Str.empty) Fj) (hC : ∀ j d, Γ.cs[j]? = some d → CnsAt K mg (G.cs.getD j Str.empty) d) (hL : LibOk G.lib mg) (hb : ∀ x ∈ bltNames, mg x = none)
    (h0 : visB (defScope st) "script" = true) (h1 : lcB (defScope st) (nmOf N 1) = true) (h2 : glB (defScope st) dn = true) (h3 : nameB dn = true) (n0 : N[0]? = some ("script" : Str)) (n1 : 1 < N.length)
    (hw : wfSs N G rest pts (defScope st) = true)
    (ht : .Assign [.Name (nmOf N 1) p0] (.Call (.Name dn p1) [.Name "script" p2] [] p3) p4 :: toSs N G rest pts = defBody st)
    (law : ∀ ns : List Int, ns.length ≤ 63 → ∃ st', evSs Γ rest (.no :: .sh drw :: List.replicate (N.length - 2) .no) (st0 ns) = some (.rt (.bool true) st')) :
    FnOk P w K mg base CX0 (k + 1) f fd ["script"] (spLaw K) := by
  refine F.ok S (fun vs H Q E => ?_) fun cdv A outer s H vs Q E hr hsp => ?_
  · rintro ⟨a, ns, rfl, _⟩
    rfl
  · obtain ⟨a, ns, rfl, hS, hlen, q⟩ := hsp
    rw [← ht]
    let X := (cxOf CX0 P w K mg base N qual (defScope st) f cdv A outer s H E).nox
    have nn := nameB_of h3
    have hn1 : X.N[1]? = some (nmOf N 1) := by
      show N[1]? = _
      unfold nmOf
      rw [List.getD_eq_getElem?_getD, List.getElem?_eq_getElem n1]
      rfl
    have v0 : PE X (.Name "script" p2) (tVar 0) := pe_var (X := X) (i := 0) n0 (vis_of h0) (by decide +kernel) (by decide +kernel)
    have g1 : Gl X dn := (show (defScope st).names.lookup _ = _ from of_decide_eq_true h2)
    have pc : PE X (.Call (.Name dn p1) [.Name "script" p2] [] p3) (tCall (spDraw K) [] E0 (tCons (tVar 0) tNil)) := pe_call (X := X) DF hr g1 dm dk dB .nil pass0 (pa_cons v0 pa_nil) nn.1
    have gd : Good N G Γ X.env.scope (lcB X.env.scope) X := ⟨rfl, rfl, S.nd, rfl, fun x h => ⟨lc_of h, .inl rfl⟩, by have := hr.un; show (A.deeper _).units + 200 < cLine; omega, fun j Fj hj => by
      obtain ⟨f', fd', ps', z1, z2, z3, z4⟩ := (hΓ j Fj hj).ex
      exact ⟨k, f', fd', ps', z1, hr, z2, z3, z4⟩, hC, hL, hb⟩
    have key : ∀ p b, H p = none → H b = none → b ≠ p → tSs K ⟨b, p⟩ Γ rest { nx := fun _ H' => Q .non H', rt := Q } ((L2.start N [.ref a]).set 1 (some (.ref b))) (upd (upd H p (.lst (ns.map V.int))) b (.lst [.ref p, .int 0, .int 0, .int 17])) := fun p b hp hb' nbp => by
      obtain ⟨st', hev⟩ := law ns hlen
      have eσ : (L2.start N [.ref a]).set 1 (some (.ref b)) = some (.ref a) :: some (.ref b) :: List.replicate (N.length - 2) none := by
        unfold L2.start
        obtain ⟨n, hn⟩ : ∃ n, N.length = n + 2 := ⟨N.length - 2, by omega⟩
        rw [hn]
        rfl
      rw [eσ]
      have nsh : ∀ (i : Nat) (z : Slot), (.no :: .sh drw :: List.replicate (N.length - 2) .no : List Slot)[i]? = some z → z = .no ∨ (i = 1 ∧ z = .sh drw) := fun i z h => by
        match i, h with
        | 0, h => cases h; exact .inl rfl
        | 1, h => cases h; exact .inr ⟨rfl, rfl⟩
        | i + 2, h =>
          have h : (List.replicate (N.length - 2) Slot.no)[i]? = some z := h
          rw [List.getElem?_replicate] at h
          split at h <;> cases h
          exact .inl rfl
      have ha : (upd (upd H p (.lst (ns.map V.int))) b (.lst [.ref p, .int 0, .int 0, .int 17])) b = _ := upd_same
      have hp' : (upd (upd H p (.lst (ns.map V.int))) b (.lst [.ref p, .int 0, .int 0, .int 17])) p = some (.lst (ns.map V.int)) := by rw [upd_ne (Ne.symm nbp), upd_same]
      refine ⟨fun c => c = b ∨ c = p, _, st0 ns, _, ⟨⟨ha, hp', Ne.symm nbp⟩, .inl rfl, .inr rfl, fun c z => ?_, fun i d h => ?_, fun i d h => ?_, fun i d h => ?_, fun i j d e c h _ _ _ => ?_, ?_⟩, hev, ?_⟩
      · rcases z with z | z
        · rw [z, ha]; exact fun z => by cases z
        · rw [z, hp']; exact fun z => by cases z
      · rcases nsh i _ h with z | ⟨rfl, z⟩
        · cases z
        · cases z
          exact ⟨_, rfl, .drw⟩
      · rcases nsh i _ h with z | ⟨_, z⟩ <;> cases z
      · rcases nsh i _ h with z | ⟨_, z⟩ <;> cases z
      · rcases nsh i _ h with z | ⟨_, z⟩ <;> cases z
      · simp
      · intro v H' _ _ r
        cases r
        exact q H'
    refine ⟨_, pss_cons (ps_set (X := X) S.nd hn1 (lc_of h1) pc rfl (.inl rfl)) (t := tAsg (tCall (spDraw K) [] E0 (tCons (tVar 0) tNil)) (gName 1)) (u := fun En σ H => ∃ dr, tSs K dr Γ rest En σ H) ⟨fun pins s σ H En I ⟨dr, z⟩ => (sSs (X := X) dr PassesOwn.never gd rest pts hw).run pins s σ H En I z⟩, ?_⟩
    exact ⟨_, rfl, a, ns, rfl, hS, fun p b hp hb' nbp => ⟨⟨b, p⟩, key p b hp hb' nbp⟩⟩
end
end Pf

namespace Pf
open PySem PySem.Spec PyProof.Rows L2
variable [Mode]

mutual
def ptTg : Tg → Expr → PTr
  | .nm _, .Name _ p => .n 0 [p] []
  | .tp gs, .Tuple es k p => .n k [p] (ptTgs gs es)
  | _, _ => .n 0 [] []
def ptTgs : List Tg → List Expr → List PTr
  | g :: gs, e :: es => ptTg g e :: ptTgs gs es
  | _, _ => []
end
def ptNames : List Expr → List PTr
  | .Name _ p :: es => .n 0 [p] [] :: ptNames es
  | _ => []
def ptTy : Expr → PTr
  | .Name _ p => .n 0 [p] []
  | .Tuple es k p => .n k [p] (ptNames es)
  | _ => .n 0 [] []
mutual
def ptE : Ex → Expr → PTr
  | .non, .Constant _ k p => .n k [p] []
  | .bl _, .Constant _ k p => .n k [p] []
  | .int _, .Constant _ k p => .n k [p] []
  | .str _, .Constant _ k p => .n k [p] []
  | .var _, .Name _ p => .n 0 [p] []
  | .gl _, .Name _ p => .n 0 [p] []
  | .gcd a b, .Call (.Name _ p1) [x, y] _ p => .n 0 [p, p1] [ptE a x, ptE b y]
  | .bin _ a b, .BinOp l _ r p => .n 0 [p] [ptE a l, ptE b r]
  | .neg a, .UnaryOp _ e p => .n 0 [p] [ptE a e]
  | .nt a, .UnaryOp _ e p => .n 0 [p] [ptE a e]
  | .cmp _ a b, .Compare l _ [r] p => .n 0 [p] [ptE a l, ptE b r]
  | .isN _ a, .Compare l _ [.Constant _ k p1] p => .n k [p, p1] [ptE a l]
  | .isB _ _ a, .Compare l _ [.Constant _ k p1] p => .n k [p, p1] [ptE a l]
  | .chn _ _ a b c, .Compare l _ [x, y] p => .n 0 [p] [ptE a l, ptE b x, ptE c y]
  | .bop _ es, .BoolOp _ xs p => .n 0 [p] (ptEs es xs)
  | .ife c a b, .IfExp x y z p => .n 0 [p] [ptE c x, ptE a y, ptE b z]
  | .tup es, .Tuple xs k p => .n k [p] (ptEs es xs)
  | .lst es, .List xs p => .n 0 [p] (ptEs es xs)
  | .ix a b, .Subscript x y p => .n 0 [p] [ptE a x, ptE b y]
  | .sl a lo hi, .Subscript x (.Slice l h _ p1) p => .n 0 [p, p1] [ptE a x, ptO lo l, ptO hi h]
  | .lc elt tg it ifs, .ListComp e [⟨t, i, fs, _⟩] sc p => .c sc [p] [ptE elt e, ptTg tg t, ptI it i, .n 0 [] (ptEs ifs fs)]
  | .call _ es, .Call (.Name _ p1) xs _ p => .n 0 [p, p1] (ptEs es xs)
  | .lkc _ _ es, .Call (.Name _ p1) xs _ p => .n 0 [p, p1] (ptEs es xs)
  | .bi _ es, .Call (.Name _ p1) xs _ p => .n 0 [p, p1] (ptEs es xs)
  | .lkb _ _ es, .Call (.Name _ p1) xs _ p => .n 0 [p, p1] (ptEs es xs)
  | .srev a, .Call (.Name _ p1) [x] [⟨_, .Constant _ k p3, p2⟩] p => .n k [p, p1, p2, p3] [ptE a x]
  | .mnd _ a, .Call (.Name _ p1) [x] [⟨_, .Constant _ k p3, p2⟩] p => .n k [p, p1, p2, p3] [ptE a x]
  | .si a, .Call (.Name _ p1) [.Call (.Attribute x _ p3) _ _ p2] _ p => .n 0 [p, p1, p2, p3] [ptE a x]
  | .lset a, .Call (.Name _ p1) [.Call (.Name _ p3) [x] _ p2] _ p => .n 0 [p, p1, p2, p3] [ptE a x]
  | .sset a, .Call (.Name _ p1) [.Call (.Name _ p3) [x] _ p2] _ p => .n 0 [p, p1, p2, p3] [ptE a x]
  | .lcm a b, .Call (.Name _ p1) [x, y] _ p => .n 0 [p, p1] [ptE a x, ptE b y]
  | .rvs a, .Subscript x (.Slice _ _ (some (.UnaryOp _ (.Constant _ k p1) p2)) p3) p => .n k [p, p1, p2, p3] [ptE a x]
  | .cnt a b, .Call (.Attribute x _ p1) [y] _ p => .n 0 [p, p1] [ptE a x, ptE b y]
  | .lrg es, .Call (.Name _ p1) [.Call (.Name _ p3) xs _ p2] _ p => .n 0 [p, p1, p2, p3] (ptEs es xs)
  | .isi e _, .Call (.Name _ p1) [x, y] _ p => .n 0 [p, p1] [ptE e x, ptTy y]
  | .get a es, .Call (.Attribute x _ p1) xs _ p => .n 0 [p, p1] [ptE a x, .n 0 [] (ptEs es xs)]
  | .dic _, .Dict _ _ p => .n 0 [p] []
  | .dof a, .Call (.Name _ p1) [x] _ p => .n 0 [p, p1] [ptE a x]
  | .dofT a, .Call (.Name _ p1) [x] _ p => .n 0 [p, p1] [ptE a x]
  | .dsp k v, .Dict [some x] [y] p => .n 0 [p] [ptE k x, ptE v y]
  | .dc k v tg it ifs, .DictComp kx vx [⟨tx, i, fs, _⟩] sc p => .c sc [p] [ptE k kx, ptE v vx, ptTg tg tx, ptI it i, .n 0 [] (ptEs ifs fs)]
  | _, _ => .n 0 [] []
def ptEs : Exs → List Expr → List PTr
  | .cons e es, x :: xs => ptE e x :: ptEs es xs
  | _, _ => []
def ptO : Exs → Option Expr → PTr
  | .cons e _, some x => ptE e x
  | _, _ => .n 0 [] []
def ptI : It → Expr → PTr
  | .seq e, x => ptE e x
  | .rng es, .Call (.Name _ p1) xs _ p => .n 0 [p, p1] (ptEs es xs)
  | .enm e, .Call (.Name _ p1) [x] _ p => .n 0 [p, p1] [ptE e x]
  | .zip a b, .Call (.Name _ p1) [x, y] _ p => .n 0 [p, p1] [ptE a x, ptE b y]
  | .its a, .Call (.Attribute x _ p1) _ _ p => .n 0 [p, p1] [ptE a x]
  | .vls a, .Call (.Attribute x _ p1) _ _ p => .n 0 [p, p1] [ptE a x]
  | .rev a, .Call (.Name _ p1) [x] _ p => .n 0 [p, p1] [ptE a x]
  | .cmb a r, .Call (.Name _ p1) [x, y] _ p => .n 0 [p, p1] [ptE a x, ptE r y]
  | .cmr es r, .Call (.Name _ p1) [.Call (.Name _ p3) xs _ p2, y] _ p => .n 0 [p, p1, p2, p3] (ptE r y :: ptEs es xs)
  | _, _ => .n 0 [] []
end
mutual
def ptS : Sm → Stmt → PTr
  | .set _ e, .Assign [.Name _ p1] x p => .n 0 [p, p1] [ptE e x]
  | .setT tg e, .Assign [t] x p => .n 0 [p] [ptTg tg t, ptE e x]
  | .par _ es, .Assign [.Tuple ns k pt] (.Tuple xs k2 p2) p => .n 0 [p] [.n k [pt] (ptNames ns), .n k2 [p2] (ptEs es xs)]
  | .parN _ es, .Assign [.Tuple ns k pt] (.Tuple xs k2 p2) p => .n 0 [p] [.n k [pt] (ptNames ns), .n k2 [p2] (ptEs es xs)]
  | .parD _ es, .Assign [.Tuple ns k pt] (.Tuple xs k2 p2) p => .n 0 [p] [.n k [pt] (ptNames ns), .n k2 [p2] (ptEs es xs)]
  | .app _ e, .Expr (.Call (.Attribute (.Name _ p3) _ p2) [x] _ p1) p => .n 0 [p, p1, p2, p3] [ptE e x]
  | .ext _ e, .Expr (.Call (.Attribute (.Name _ p3) _ p2) [x] _ p1) p => .n 0 [p, p1, p2, p3] [ptE e x]
  | .put _ k e, .Assign [.Subscript (.Name _ p2) y p1] x p => .n 0 [p, p1, p2] [ptE k y, ptE e x]
  | .put2 _ k _ l es, .Assign [.Tuple [.Subscript (.Name _ p2) y p1, .Subscript (.Name _ q2) z q1] kk pt] (.Tuple xs k2 pv) p => .n 0 [p] [.n kk [pt, p1, p2] [ptE k y], .n 0 [pt, q1, q2] [ptE l z], .n k2 [pv] (ptEs es xs)]
  | .setD _ e, .Assign [.Name _ p1] x p => .n 0 [p, p1] [ptE e x]
  | .popS _ _, .Assign [.Name _ p1] (.Call (.Attribute (.Name _ p4) _ p3) _ _ p2) p => .n 0 [p, p1, p2, p3, p4] []
  | .popD _ k, .Expr (.Call (.Attribute (.Name _ p3) _ p2) [x] _ p1) p => .n 0 [p, p1, p2, p3] [ptE k x]
  | .popV _ _ k, .Assign [.Name _ p1] (.Call (.Attribute (.Name _ p4) _ p3) [x] _ p2) p => .n 0 [p, p1, p2, p3, p4] [ptE k x]
  | .ret e, .Return (some x) p => .n 0 [p] [ptE e x]
  | .iff c a b, .If x y z p => .n 0 [p] [ptE c x, .n 0 [] (ptSs a y), .n 0 [] (ptSs b z)]
  | .for_ tg it body, .For t i y _ p => .n 0 [p] [ptTg tg t, ptI it i, .n 0 [] (ptSs body y)]
  | .whl c body, .While x y _ p => .n 0 [p] [ptE c x, .n 0 [] (ptSs body y)]
  | .brk, .Break p => .n 0 [p] []
  | .cnt, .Continue p => .n 0 [p] []
  | .pas, .Pass p => .n 0 [p] []
  | _, _ => .n 0 [] []
def ptSs : Sms → List Stmt → List PTr
  | .cons s r, x :: xs => ptS s x :: ptSs r xs
  | .shr _ r, xs => ptSs r xs
  | _, _ => []
end

/-- a token: what depends on it is not looked into -/
structure Tk0 {α : Type} (x : α) : Type where
def bnd {α β : Type} (a : Option α) (f : α → Option β) (_ : Tk0 f) : Option β := a.bind f
def mpp {α β : Type} (a : Option α) (f : α → β) (_ : Tk0 f) : Option β := a.map f
@[simp] theorem bnd_some {α β : Type} {x : α} {f : α → Option β} {t : Tk0 f} : bnd (some x) f t = f x := rfl
@[simp] theorem bnd_none {α β : Type} {f : α → Option β} {t : Tk0 f} : bnd none f t = none := rfl
@[simp] theorem mpp_some {α β : Type} {x : α} {f : α → β} {t : Tk0 f} : mpp (some x) f t = some (f x) := rfl
@[simp] theorem mpp_none {α β : Type} {f : α → β} {t : Tk0 f} : mpp none f t = none := rfl
@[simp] theorem bnd_ite {α β : Type} {c : Prop} [Decidable c] {a b : Option α} {f : α → Option β} {t : Tk0 f} : bnd (if c then a else b) f t = if c then bnd a f t else bnd b f t := by
  by_cases h : c <;> simp [h]
@[simp] theorem mpp_ite {α β : Type} {c : Prop} [Decidable c] {a b : Option α} {f : α → β} {t : Tk0 f} : mpp (if c then a else b) f t = if c then mpp a f t else mpp b f t := by
  by_cases h : c <;> simp [h]
def nth {α : Type} (l : List α) (i : Nat) : Option α := l[i]?
@[simp ↓] theorem nth_0 {α : Type} {x : α} {l : List α} : nth (x :: l) 0 = some x := rfl
@[simp ↓] theorem nth_s {α : Type} {x : α} {l : List α} {n : Nat} : nth (x :: l) (n + 1) = nth l n := rfl
@[simp ↓] theorem nth_n {α : Type} {n : Nat} : nth ([] : List α) n = none := by unfold nth; simp
def getV (ρ : List Slot) (i : Nat) : Option D := getS ρ i
@[simp ↓] theorem getV_sh {d : D} {l : List Slot} : getV (.sh d :: l) 0 = some d := rfl
@[simp ↓] theorem getV_ow {d : D} {l : List Slot} : getV (.ow d :: l) 0 = some d := rfl
@[simp ↓] theorem getV_le {d : D} {l : List Slot} : getV (.le d :: l) 0 = some d := rfl
@[simp ↓] theorem getV_s {x : Slot} {l : List Slot} {n : Nat} : getV (x :: l) (n + 1) = getV l n := rfl
def owV (ρ : List Slot) (n : Nat) : Bool := isOw ρ (.var n)
@[simp ↓] theorem owV_sh {d : D} {l : List Slot} : owV (.sh d :: l) 0 = false := rfl
@[simp ↓] theorem owV_no {l : List Slot} : owV (.no :: l) 0 = false := rfl
@[simp ↓] theorem owV_ow {d : D} {l : List Slot} : owV (.ow d :: l) 0 = true := rfl
@[simp ↓] theorem owV_le {d : D} {l : List Slot} : owV (.le d :: l) 0 = true := rfl
@[simp ↓] theorem owV_s {x : Slot} {l : List Slot} {n : Nat} : owV (x :: l) (n + 1) = owV l n := by unfold owV isOw; simp
def lcE (Γ : Gam) (elt : Ex) (ifs : Exs) (tg : Tg) (ρ : List Slot) (items : List D) (st : DS) : Option (List D × DS) := lcRun (fun ρ' s => evE Γ elt ρ' s) (fun ρ' s => evC Γ ifs ρ' s) tg ρ items st
def dcE (Γ : Gam) (key val : Ex) (ifs : Exs) (tg : Tg) (ρ : List Slot) (items : List D) (acc : List (D × D)) (st : DS) : Option (List (D × D) × DS) := dcRun (fun ρ' s => evE Γ key ρ' s) (fun ρ' s => evE Γ val ρ' s) (fun ρ' s => evC Γ ifs ρ' s) tg ρ items acc st
def forE (Γ : Gam) (body : Sms) (tg : Tg) (items : List D) (ρ : List Slot) (st : DS) : Option Out := forRun (fun ρ' s => evSs Γ body ρ' s) tg items ρ st
def whlE (Γ : Gam) (c : Ex) (body : Sms) (n : Nat) (ρ : List Slot) (st : DS) : Option Out := whlRun (fun ρ' s => evE Γ c ρ' s) (fun ρ' s => evSs Γ body ρ' s) n ρ st
section
set_option autoImplicit true
set_option relaxedAutoImplicit true
@[simp ↓] theorem evE_1 : evE Γ .non ρ sD = (some (.none, sD)) := id rfl
@[simp ↓] theorem evE_2 : evE Γ (.bl b) ρ sD = (some (.bool b, sD)) := id rfl
@[simp ↓] theorem evE_3 : evE Γ (.int i) ρ sD = (some (.int i, sD)) := id rfl
@[simp ↓] theorem evE_4 : evE Γ (.str x) ρ sD = (some (.str x, sD)) := id rfl
@[simp ↓] theorem evE_5 : evE Γ (.var i) ρ sD = (mpp (getV ρ i) (fun d => (d, sD)) ⟨⟩) := id rfl
@[simp ↓] theorem evE_6 : evE Γ (.bin op a b) ρ sD = (bnd (evE Γ a ρ sD) (fun x => bnd (evE Γ b ρ x.2) (fun y => mpp (binD op x.1 y.1) (fun d => (d, y.2)) ⟨⟩) ⟨⟩) ⟨⟩) := id rfl
@[simp ↓] theorem evE_7 : evE Γ (.neg a) ρ sD = (bnd (evE Γ a ρ sD) (fun x => match x.1 with
    | .int i => some (.int (-i), x.2)
    | _ => none) ⟨⟩) := id rfl
@[simp ↓] theorem evE_8 : evE Γ (.nt a) ρ sD = (bnd (evE Γ a ρ sD) (fun x => mpp (truD x.1) (fun b => (.bool (!b), x.2)) ⟨⟩) ⟨⟩) := id rfl
@[simp ↓] theorem evE_9 : evE Γ (.cmp op a b) ρ sD = (bnd (evE Γ a ρ sD) (fun x => bnd (evE Γ b ρ x.2) (fun y => mpp (cmpD op x.1 y.1) (fun d => (.bool d, y.2)) ⟨⟩) ⟨⟩) ⟨⟩) := id rfl
@[simp ↓] theorem evE_10 : evE Γ (.isN yes a) ρ sD = (mpp (evE Γ a ρ sD) (fun x => (.bool (isNoneD x.1 == yes), x.2)) ⟨⟩) := id rfl
@[simp ↓] theorem evE_11 : evE Γ (.isB yes c a) ρ sD = (bnd (evE Γ a ρ sD) (fun x => match x.1 with
    | .bool d => some (.bool ((d == c) == yes), x.2)
    | _ => none) ⟨⟩) := id rfl
@[simp ↓] theorem evE_12 : evE Γ (.chn o1 o2 a b c) ρ sD = (bnd (evE Γ a ρ sD) (fun x => bnd (evE Γ b ρ x.2) (fun y => bnd (cmpD o1 x.1 y.1) (fun q =>
    if q = true then bnd (evE Γ c ρ y.2) (fun z => mpp (cmpD o2 y.1 z.1) (fun d => (.bool d, z.2)) ⟨⟩) ⟨⟩ else some (.bool false, y.2)) ⟨⟩) ⟨⟩) ⟨⟩) := id rfl
@[simp ↓] theorem evE_13 : evE Γ (.bop an es) ρ sD = (evB Γ an es ρ sD) := id rfl
@[simp ↓] theorem evE_14 : evE Γ (.ife c a b) ρ sD = (if isOw ρ a || isOw ρ b then none else bnd (evE Γ c ρ sD) (fun x => bnd (truD x.1) (fun q => if q = true then evE Γ a ρ x.2 else evE Γ b ρ x.2) ⟨⟩) ⟨⟩) := id rfl
@[simp ↓] theorem evE_15 : evE Γ (.tup es) ρ sD = (if anyOw ρ es then none else bnd (evEs Γ es ρ sD) (fun x => if x.1.length ≤ cap then some (.tuple x.1, x.2) else none) ⟨⟩) := id rfl
@[simp ↓] theorem evE_16 : evE Γ (.lst es) ρ sD = (if anyOw ρ es then none else bnd (evEs Γ es ρ sD) (fun x => if x.1.length ≤ cap then some (.list x.1, x.2) else none) ⟨⟩) := id rfl
@[simp ↓] theorem evE_17 : evE Γ (.ix a b) ρ sD = (bnd (evE Γ a ρ sD) (fun x => bnd (evE Γ b ρ x.2) (fun y => mpp (ixD x.1 y.1) (fun d => (d, y.2)) ⟨⟩) ⟨⟩) ⟨⟩) := id rfl
@[simp ↓] theorem evE_18 : evE Γ (.sl a slo shi) ρ sD = (bnd (evE Γ a ρ sD) (fun x => bnd (evO Γ slo ρ x.2) (fun y => bnd (evO Γ shi ρ y.2) (fun z => mpp (slD x.1 y.1 z.1) (fun d => (d, z.2)) ⟨⟩) ⟨⟩) ⟨⟩) ⟨⟩) := id rfl
@[simp ↓] theorem evE_19 : evE Γ (.lc elt tg it ifs) ρ sD = (bnd (evI Γ it ρ sD) (fun x => if isOw (blkR ρ tg.slots) elt = false ∧ x.1.length ≤ cap then
      mpp (lcE Γ elt ifs tg (blkR ρ tg.slots) x.1 x.2) (fun z => (.list z.1, z.2)) ⟨⟩ else none) ⟨⟩) := id rfl
@[simp ↓] theorem evE_20 : evE Γ (.call j es) ρ sD = (bnd (evEs Γ es ρ sD) (fun x => match nth Γ.fs j with
    | none => none
    | some F => if anyOwD ρ es = true then none else bnd (F x.1 x.2) (fun r => if anyOw ρ es = true ∧ flatN deep r.1 = false then none else some r) ⟨⟩) ⟨⟩) := id rfl
@[simp ↓] theorem evE_21 : evE Γ (.gl j) ρ sD = (mpp (nth Γ.cs j) (fun d => (d, sD)) ⟨⟩) := id rfl
@[simp ↓] theorem evE_22 : evE Γ (.gcd a b) ρ sD = (bnd (evE Γ a ρ sD) (fun x => bnd (evE Γ b ρ x.2) (fun y => mpp (gcdD x.1 y.1) (fun d => (d, y.2)) ⟨⟩) ⟨⟩) ⟨⟩) := id rfl
@[simp ↓] theorem evE_lcm : evE Γ (.lcm a b) ρ sD = (bnd (evE Γ a ρ sD) (fun x => bnd (evE Γ b ρ x.2) (fun y => mpp (lcmD x.1 y.1) (fun d => (d, y.2)) ⟨⟩) ⟨⟩) ⟨⟩) := id rfl
@[simp ↓] theorem evE_rvs : evE Γ (.rvs a) ρ sD = (bnd (evE Γ a ρ sD) (fun x => mpp (rvsD x.1) (fun d => (d, x.2)) ⟨⟩) ⟨⟩) := id rfl
@[simp ↓] theorem evE_cnt : evE Γ (.cnt a b) ρ sD = (bnd (evE Γ a ρ sD) (fun x => bnd (evE Γ b ρ x.2) (fun y => mpp (cntD x.1 y.1) (fun d => (d, y.2)) ⟨⟩) ⟨⟩) ⟨⟩) := id rfl
@[simp ↓] theorem evE_lrg : evE Γ (.lrg es) ρ sD = (bnd (evEs Γ es ρ sD) (fun x => mpp (lrgD x.1) (fun d => (d, x.2)) ⟨⟩) ⟨⟩) := id rfl
@[simp ↓] theorem evE_lset : evE Γ (.lset a) ρ sD = (bnd (evE Γ a ρ sD) (fun x => mpp (lsetD x.1) (fun d => (d, x.2)) ⟨⟩) ⟨⟩) := id rfl
theorem lsetD_ints {ns : List Int} (h : ns.length < 64) : lsetD (.list (ns.map .int)) = some (.int (dd ns).length) := by
  have e : ∀ ns : List Int, intsD (ns.map .int) = some ns := fun ns => by
    induction ns with
    | nil => rfl
    | cons n ns ih => rw [List.map_cons, intsD, ih]; rfl
  show (match intsD (ns.map .int) with | some ns => _ | none => _) = _
  rw [e]
  exact if_pos h
@[simp ↓] theorem evE_sset : evE Γ (.sset a) ρ sD = (bnd (evE Γ a ρ sD) (fun x => mpp (ssetD x.1) (fun d => (d, x.2)) ⟨⟩) ⟨⟩) := id rfl
@[simp ↓] theorem evE_mnd {i : Int} : evE Γ (.mnd i a) ρ sD = (bnd (evE Γ a ρ sD) (fun x => mpp (mndD i x.1) (fun d => (d, x.2)) ⟨⟩) ⟨⟩) := id rfl
@[simp ↓] theorem evE_lkb {i : Nat} {b : Bi} : evE Γ (.lkb i b es) ρ sD = (match nth ρ i with
    | some (.ow (.dict ds)) => bnd (evE Γ (.bi b es) (ρ.set i (.sh (.dict ds))) sD) (fun x => if okN deep x.1 = true then some x else none) ⟨⟩
    | _ => none) := id rfl
@[simp ↓] theorem evE_lkc {i j : Nat} : evE Γ (.lkc i j es) ρ sD = (match nth ρ i with
    | some (.ow (.dict ds)) => bnd (evE Γ (.call j es) (ρ.set i (.sh (.dict ds))) sD) (fun x => if okN deep x.1 = true then some x else none) ⟨⟩
    | _ => none) := id rfl
@[simp ↓] theorem evE_si : evE Γ (.si a) ρ sD = (if isOw ρ a = true then none else bnd (evE Γ a ρ sD) (fun x => bnd (itsD x.1) (fun ds => mpp (biD .sorted [.list ds]) (fun d => (d, x.2)) ⟨⟩) ⟨⟩) ⟨⟩) := id rfl
@[simp ↓] theorem evE_23 : evE Γ (.srev a) ρ sD = (bnd (evE Γ a ρ sD) (fun x => mpp (srevD x.1) (fun d => (d, x.2)) ⟨⟩) ⟨⟩) := id rfl
@[simp ↓] theorem evE_24 : evE Γ (.bi b es) ρ sD = (bnd (evEs Γ es ρ sD) (fun x => mpp (biD b x.1) (fun d => (d, x.2)) ⟨⟩) ⟨⟩) := id rfl
@[simp ↓] theorem evE_25 : evE Γ (.isi e ys) ρ sD = (bnd (evE Γ e ρ sD) (fun x => mpp (isiAny x.1 ys) (fun b => (.bool b, x.2)) ⟨⟩) ⟨⟩) := id rfl
@[simp ↓] theorem evE_get : evE Γ (.get a es) ρ sD = (if anyOw ρ es = true then none else bnd (evE Γ a ρ sD) (fun x => bnd (evEs Γ es ρ x.2) (fun y => mpp (getD x.1 y.1) (fun d => (d, y.2)) ⟨⟩) ⟨⟩) ⟨⟩) := id rfl
@[simp ↓] theorem evE_dic : evE Γ (.dic t) ρ sD = (if t = true ∧ Mode.tm = true then none else some (.dict [(.bool t, .none)], sD)) := id rfl
@[simp ↓] theorem evE_dsp : evE Γ (.dsp key val) ρ sD = (bnd (evE Γ key ρ sD) (fun x => bnd (evE Γ val ρ x.2) (fun y => if isOw ρ val = false ∧ kindOk false x.1 = true then some (.dict [(.bool false, .none), (x.1, y.1)], y.2) else none) ⟨⟩) ⟨⟩) := id rfl
@[simp ↓] theorem evE_dof : evE Γ (.dof a) ρ sD = (if isOw ρ a = true then none else bnd (evE Γ a ρ sD) (fun x => mpp (dofD x.1) (fun d => (d, x.2)) ⟨⟩) ⟨⟩) := id rfl
@[simp ↓] theorem evE_dofT : evE Γ (.dofT a) ρ sD = (if isOw ρ a = true then none else bnd (evE Γ a ρ sD) (fun x => mpp (dofTD x.1) (fun d => (d, x.2)) ⟨⟩) ⟨⟩) := id rfl
@[simp ↓] theorem evE_dc : evE Γ (.dc key val tg it ifs) ρ sD = (bnd (evI Γ it ρ sD) (fun x => if isOw (blkR ρ tg.slots) val = false ∧ x.1.length ≤ cap then
      mpp (dcE Γ key val ifs tg (blkR ρ tg.slots) x.1 [] x.2) (fun z => (.dict ((.bool false, .none) :: z.1), z.2)) ⟨⟩ else none) ⟨⟩) := id rfl
@[simp ↓] theorem evI_its : evI Γ (.its a) ρ sD = (if isOw ρ a = true then none else bnd (evE Γ a ρ sD) (fun x => mpp (itsD x.1) (fun d => (d, x.2)) ⟨⟩) ⟨⟩) := id rfl
@[simp ↓] theorem evI_vls : evI Γ (.vls a) ρ sD = (if isOw ρ a = true then none else bnd (evE Γ a ρ sD) (fun x => mpp (vlsD x.1) (fun d => (d, x.2)) ⟨⟩) ⟨⟩) := id rfl
@[simp ↓] theorem evI_rev : evI Γ (.rev a) ρ sD = (bnd (evE Γ a ρ sD) (fun x => mpp (seqD x.1) (fun d => (d.reverse, x.2)) ⟨⟩) ⟨⟩) := id rfl
@[simp ↓] theorem evI_cmb : evI Γ (.cmb a b) ρ sD = (bnd (evE Γ a ρ sD) (fun x => bnd (evE Γ b ρ x.2) (fun y => mpp (cmbD x.1 y.1) (fun d => (d, y.2)) ⟨⟩) ⟨⟩) ⟨⟩) := id rfl
@[simp ↓] theorem evI_cmr {r : Ex} : evI Γ (.cmr es r) ρ sD = (bnd (evEs Γ es ρ sD) (fun x => bnd (evE Γ r ρ x.2) (fun y => mpp (cmrD x.1 y.1) (fun d => (d, y.2)) ⟨⟩) ⟨⟩) ⟨⟩) := id rfl
@[simp] theorem cmbD_L {k : Int} : cmbD (.list xs) (.int k) = cmbL xs k := id rfl
@[simp] theorem cmbD_T {k : Int} : cmbD (.tuple xs) (.int k) = cmbL xs k := id rfl
@[simp] theorem cmrD_eq {d : D} : cmrD xs d = (lrgD xs).bind fun l => cmbD l d := id rfl
@[simp ↓] theorem evS_popS {j k : Nat} : evS Γ (.popS j k) ρ sD = (if k ≠ j ∧ j < ρ.length then (match nth ρ k with
    | some (.ow (.list ds)) => ds.getLast?.map fun d => .nx ((ρ.set k (.ow (.list ds.dropLast))).set j (.sh d)) sD
    | _ => none) else none) := id rfl
@[simp ↓] theorem evS_popD {i : Nat} {k : Ex} : evS Γ (.popD i k) ρ sD = (bnd (evE Γ k ρ sD) (fun y => match nth ρ i with
    | some (.ow (.dict ((.bool false, .none) :: es))) => if kindOk false y.1 = true then mpp (dfind es y.1) (fun _ => .nx (ρ.set i (.ow (.dict ((.bool false, .none) :: ddrop es y.1)))) y.2) ⟨⟩ else none
    | _ => none) ⟨⟩) := id rfl
@[simp ↓] theorem evS_popV {i j : Nat} {k : Ex} : evS Γ (.popV j i k) ρ sD = (if i ≠ j ∧ j < ρ.length then bnd (evE Γ k ρ sD) (fun y => match nth ρ i with
    | some (.ow (.dict ((.bool false, .none) :: es))) => if kindOk false y.1 = true then mpp (dfind es y.1) (fun v => .nx ((ρ.set i (.ow (.dict ((.bool false, .none) :: ddrop es y.1)))).set j (.sh v)) y.2) ⟨⟩ else none
    | _ => none) ⟨⟩ else none) := id rfl
@[simp ↓] theorem evS_put2 {i j : Nat} {k l : Ex} : evS Γ (.put2 i k j l es) ρ sD = (if anyOw ρ es = true then none else bnd (evEs Γ es ρ sD) (fun x => match x.1 with
    | [d1, d2] => bnd (putV Γ i k d1 ρ x.2) (fun y => mpp (putV Γ j l d2 y.1 y.2) (fun z => .nx z.1 z.2) ⟨⟩) ⟨⟩
    | _ => none) ⟨⟩) := id rfl
@[simp ↓] theorem putV_eq {i : Nat} {k : Ex} {d : D} : putV Γ i k d ρ sD = (bnd (evE Γ k ρ sD) (fun y => match nth ρ i, y.1 with
    | some (.ow (.list ds)), .int n => match ixN ds.length n with
      | some j => some (ρ.set i (.ow (.list (ds.set j d))), y.2)
      | none => none
    | some (.ow (.dict ((.bool t, .none) :: es))), k => if kindOk t k = true ∧ es.length < cap then some (ρ.set i (.ow (.dict ((.bool t, .none) :: dput es k d))), y.2) else none
    | _, _ => none) ⟨⟩) := id rfl
@[simp ↓] theorem evS_setD : evS Γ (.setD i e) ρ sD = (if isMk e = true ∧ i < ρ.length then mpp (evE Γ e ρ sD) (fun x => .nx (ρ.set i (.ow x.1)) x.2) ⟨⟩ else none) := id rfl
@[simp ↓] theorem evEs_26 : evEs Γ .nil ρ sD = (some ([], sD)) := id rfl
@[simp ↓] theorem evEs_27 : evEs Γ (.cons e es) ρ sD = (bnd (evE Γ e ρ sD) (fun x => mpp (evEs Γ es ρ x.2) (fun y => (x.1 :: y.1, y.2)) ⟨⟩) ⟨⟩) := id rfl
@[simp ↓] theorem evO_28 : evO Γ .nil ρ sD = (some (none, sD)) := id rfl
@[simp ↓] theorem evO_29 : evO Γ (.cons e u0) ρ sD = (bnd (evE Γ e ρ sD) (fun x => match x.1 with
    | .int i => some (some i, x.2)
    | _ => none) ⟨⟩) := id rfl
@[simp ↓] theorem evB_30 : evB Γ an .nil ρ sD = (none) := id rfl
@[simp ↓] theorem evB_31 : evB Γ an (.cons e .nil) ρ sD = (if isOw ρ e then none else evE Γ e ρ sD) := id rfl
@[simp ↓] theorem evB_32 : evB Γ an (.cons e (.cons e' es)) ρ sD = (if isOw ρ e then none else bnd (evE Γ e ρ sD) (fun x => bnd (truD x.1) (fun q => if q = an then evB Γ an (.cons e' es) ρ x.2 else some x) ⟨⟩) ⟨⟩) := id rfl
@[simp ↓] theorem evC_33 : evC Γ .nil ρ sD = (some (true, sD)) := id rfl
@[simp ↓] theorem evC_34 : evC Γ (.cons e .nil) ρ sD = (bnd (evE Γ e ρ sD) (fun x => mpp (truD x.1) (fun b => (b, x.2)) ⟨⟩) ⟨⟩) := id rfl
@[simp ↓] theorem evC_35 : evC Γ (.cons u0 (.cons u1 u2)) ρ sD = (none) := id rfl
@[simp ↓] theorem evI_36 : evI Γ (.seq e) ρ sD = (bnd (evE Γ e ρ sD) (fun x => mpp (itrD (isOw ρ e) x.1) (fun d => (d, x.2)) ⟨⟩) ⟨⟩) := id rfl
@[simp ↓] theorem evI_37 : evI Γ (.rng es) ρ sD = (bnd (evEs Γ es ρ sD) (fun x => mpp (rngD x.1) (fun d => (d, x.2)) ⟨⟩) ⟨⟩) := id rfl
@[simp ↓] theorem evI_38 : evI Γ (.enm e) ρ sD = (bnd (evE Γ e ρ sD) (fun x => mpp (seqD x.1) (fun d => (enumD 0 d, x.2)) ⟨⟩) ⟨⟩) := id rfl
@[simp ↓] theorem evI_39 : evI Γ (.zip a b) ρ sD = (bnd (evE Γ a ρ sD) (fun x => bnd (evE Γ b ρ x.2) (fun y => mpp (zipS x.1 y.1) (fun e => (e, y.2)) ⟨⟩) ⟨⟩) ⟨⟩) := id rfl
@[simp ↓] theorem evS_40 : evS Γ (.set i e) ρ sD = (if isOw ρ e = false ∧ i < ρ.length then mpp (evE Γ e ρ sD) (fun x => .nx (ρ.set i (slotOf (isFr e) x.1)) x.2) ⟨⟩ else none) := id rfl
@[simp ↓] theorem evS_41 : evS Γ (.setT tg e) ρ sD = (if isOw ρ e then none else bnd (evE Γ e ρ sD) (fun x => mpp (bindT tg x.1 ρ) (fun ρ' => .nx ρ' x.2) ⟨⟩) ⟨⟩) := id rfl
@[simp ↓] theorem evS_42 : evS Γ (.par is es) ρ sD = (if anyOw ρ es = false ∧ is.length = es.len ∧ is.Nodup ∧ (is.all fun i => decide (i < ρ.length)) = true then mpp (evEs Γ es ρ sD) (fun x => .nx (parSet ρ is es x.1) x.2) ⟨⟩ else none) := id rfl
@[simp ↓] theorem evS_43 : evS Γ (.parN is es) ρ sD = (if anyOw ρ es = false ∧ is.length = es.len ∧ is.Nodup ∧ (is.all fun i => decide (i < ρ.length)) = true ∧ es.len ≤ cap then mpp (evEs Γ es ρ sD) (fun x => .nx (parSet ρ is es x.1) x.2) ⟨⟩ else none) := id rfl
@[simp ↓] theorem evS_43D : evS Γ (.parD is es) ρ sD = (if anyOw ρ es = false ∧ is.length = es.len ∧ is.Nodup ∧ (is.all fun i => decide (i < ρ.length)) = true ∧ es.len ≤ cap then mpp (evEs Γ es ρ sD) (fun x => .nx (parSetD ρ is es x.1) x.2) ⟨⟩ else none) := id rfl
@[simp ↓] theorem evS_44 : evS Γ (.app i e) ρ sD = (if isOw ρ e then none else bnd (evE Γ e ρ sD) (fun x => match nth ρ i with
    | some (.ow (.list ds)) => if ds.length < cap then some (.nx (ρ.set i (.ow (.list (ds ++ [x.1])))) x.2) else none
    | _ => none) ⟨⟩) := id rfl
@[simp ↓] theorem evS_45 : evS Γ (.ext i e) ρ sD = (bnd (evE Γ e ρ sD) (fun x => match nth ρ i, x.1 with
    | some (.ow (.list ds)), .list es => if ds.length + es.length ≤ cap then some (.nx (ρ.set i (.ow (.list (ds ++ es)))) x.2) else none
    | _, _ => none) ⟨⟩) := id rfl
@[simp ↓] theorem evS_46 : evS Γ (.put i k e) ρ sD = (if isOw ρ e then none else bnd (evE Γ e ρ sD) (fun x => bnd (evE Γ k ρ x.2) (fun y => match nth ρ i, y.1 with
    | some (.ow (.list ds)), .int n => match ixN ds.length n with
      | some j => some (.nx (ρ.set i (.ow (.list (ds.set j x.1)))) y.2)
      | none => none
    | some (.ow (.dict ((.bool t, .none) :: es))), k => if kindOk t k = true ∧ es.length < cap then some (.nx (ρ.set i (.ow (.dict ((.bool t, .none) :: dput es k x.1)))) y.2) else none
    | _, _ => none) ⟨⟩) ⟨⟩) := id rfl
@[simp ↓] theorem evS_47 : evS Γ (.ret e) ρ sD = (if isOw ρ e then none else mpp (evE Γ e ρ sD) (fun x => .rt x.1 x.2) ⟨⟩) := id rfl
@[simp ↓] theorem evS_48 : evS Γ (.iff c a b) ρ sD = (bnd (evE Γ c ρ sD) (fun x => bnd (truD x.1) (fun q => if q = true then evSs Γ a ρ x.2 else evSs Γ b ρ x.2) ⟨⟩) ⟨⟩) := id rfl
@[simp ↓] theorem evS_49 : evS Γ (.for_ tg it body) ρ sD = (if isOwI ρ it then none else bnd (evI Γ it ρ sD) (fun x => forE Γ body tg x.1 ρ x.2) ⟨⟩) := id rfl
@[simp ↓] theorem evS_50 : evS Γ (.whl c body) ρ sD = (whlE Γ c body fuel ρ sD) := id rfl
@[simp ↓] theorem evS_51 : evS Γ .brk ρ sD = (some (.bk ρ sD)) := id rfl
@[simp ↓] theorem evS_52 : evS Γ .cnt ρ sD = (some (.ct ρ sD)) := id rfl
@[simp ↓] theorem evS_53 : evS Γ .pas ρ sD = (some (.nx ρ sD)) := id rfl
@[simp ↓] theorem evSs_54 : evSs Γ .nil ρ sD = (some (.nx ρ sD)) := id rfl
@[simp ↓] theorem evSs_55 : evSs Γ (.cons s r) ρ sD = (bnd (evS Γ s ρ sD) (fun o => match o with
    | .nx ρ' sD' => evSs Γ r ρ' sD'
    | o => some o) ⟨⟩) := id rfl
@[simp ↓] theorem evSs_56 : evSs Γ (.shr i r) ρ sD = (match nth ρ i with
    | some (.ow d) => evSs Γ r (ρ.set i (.sh d)) sD
    | _ => evSs Γ r ρ sD) := id rfl

end
@[simp ↓] theorem evF_eq {Γ : Gam} {n np : Nat} {body : Sms} {ds : List D} {st : DS} : evF Γ n np body ds st = if ds.length = np then bnd (evSs Γ body (ds.map .sh ++ List.replicate (n - np) .no) st) (fun o => match o with
    | .rt d st' => some (d, st')
    | .nx _ st' => some (.none, st')
    | _ => none) ⟨⟩ else none := id rfl
section
variable {ρ : List Slot} {op : Operator} {cop o1 o2 : CmpOp} {a b c e : Ex} {es lo hi ifs : Exs} {an yes y : Bool} {i j : Int} {n k : Nat} {bi : Bi} {x z : Str} {xs ys : List D} {d d' : D} {tys : List Ty} {tg : Tg} {it : It}
@[simp ↓] theorem isOw_non : isOw ρ .non = false := id rfl
@[simp ↓] theorem isOw_bl : isOw ρ (.bl y) = false := id rfl
@[simp ↓] theorem isOw_int : isOw ρ (.int i) = false := id rfl
@[simp ↓] theorem isOw_str : isOw ρ (.str x) = false := id rfl
@[simp ↓] theorem isOw_bin : isOw ρ (.bin op a b) = false := id rfl
@[simp ↓] theorem isOw_neg : isOw ρ (.neg a) = false := id rfl
@[simp ↓] theorem isOw_nt : isOw ρ (.nt a) = false := id rfl
@[simp ↓] theorem isOw_cmp : isOw ρ (.cmp cop a b) = false := id rfl
@[simp ↓] theorem isOw_isN : isOw ρ (.isN yes a) = false := id rfl
@[simp ↓] theorem isOw_isB : isOw ρ (.isB yes y a) = false := id rfl
@[simp ↓] theorem isOw_chn : isOw ρ (.chn o1 o2 a b c) = false := id rfl
@[simp ↓] theorem isOw_bop : isOw ρ (.bop an es) = false := id rfl
@[simp ↓] theorem isOw_ife : isOw ρ (.ife a b c) = false := id rfl
@[simp ↓] theorem isOw_tup : isOw ρ (.tup es) = false := id rfl
@[simp ↓] theorem isOw_lst : isOw ρ (.lst es) = false := id rfl
@[simp ↓] theorem isOw_ix : isOw ρ (.ix a b) = false := id rfl
@[simp ↓] theorem isOw_sl : isOw ρ (.sl a lo hi) = false := id rfl
@[simp ↓] theorem isOw_lc : isOw ρ (.lc e tg it ifs) = false := id rfl
@[simp ↓] theorem isOw_call : isOw ρ (.call n es) = false := id rfl
@[simp ↓] theorem isOw_get : isOw ρ (.get a es) = false := id rfl
@[simp ↓] theorem isOw_dic : isOw ρ (.dic y) = false := id rfl
@[simp ↓] theorem isOw_dsp : isOw ρ (.dsp key val) = false := id rfl
@[simp ↓] theorem isFr_dsp : isFr (.dsp key val) = false := id rfl
@[simp ↓] theorem isMk_dsp : isMk (.dsp key val) = true := id rfl
@[simp ↓] theorem isOw_dof : isOw ρ (.dof a) = false := id rfl
@[simp ↓] theorem isOw_dofT : isOw ρ (.dofT a) = false := id rfl
@[simp ↓] theorem isOw_dc : isOw ρ (.dc a b tg it ifs) = false := id rfl
@[simp ↓] theorem isFr_dc : isFr (.dc a b tg it ifs) = false := id rfl
@[simp ↓] theorem isMk_dc : isMk (.dc a b tg it ifs) = true := id rfl
@[simp ↓] theorem isFr_get : isFr (.get a es) = false := id rfl
@[simp ↓] theorem isFr_dic : isFr (.dic y) = false := id rfl
@[simp ↓] theorem isFr_dof : isFr (.dof a) = false := id rfl
@[simp ↓] theorem isFr_dofT : isFr (.dofT a) = false := id rfl
@[simp ↓] theorem isMk_dic : isMk (.dic y) = true := id rfl
@[simp ↓] theorem isMk_dof : isMk (.dof a) = true := id rfl
@[simp ↓] theorem isMk_dofT : isMk (.dofT a) = true := id rfl
@[simp ↓] theorem isOwI_its : isOwI ρ (.its a) = isOw ρ a := id rfl
@[simp ↓] theorem isOwI_rev : isOwI ρ (.rev a) = isOw ρ a := id rfl
@[simp ↓] theorem isOwI_vls : isOwI ρ (.vls a) = isOw ρ a := id rfl
@[simp] theorem itr_list {o : Bool} : itrD o (.list xs) = some xs := id rfl
@[simp] theorem itr_tuple {o : Bool} : itrD o (.tuple xs) = some xs := id rfl
@[simp] theorem itr_dict {o q : Bool} {fs : List (D × D)} : itrD o (.dict ((.bool q, .none) :: fs)) = if o = true then none else some (fs.map (·.1)) := id rfl
@[simp] theorem its_dict {fs : List (D × D)} : itsD (.dict ((.bool false, .none) :: fs)) = some (fs.map fun p => .tuple [p.1, p.2]) := id rfl
@[simp] theorem vls_dict {fs : List (D × D)} : vlsD (.dict ((.bool false, .none) :: fs)) = some (fs.map (·.2)) := id rfl
@[simp] theorem len_dict {fs : List (D × D)} : biD .len [.dict ((.bool false, .none) :: fs)] = some (.int fs.length) := id rfl
@[simp] theorem ix_dict {fs : List (D × D)} : ixD (.dict fs) d = (dgetD fs d).bind id := id rfl
@[simp] theorem get_one {fs : List (D × D)} : getD (.dict fs) [d] = (dgetD fs d).map fun o => o.getD .none := id rfl
@[simp] theorem get_two {fs : List (D × D)} : getD (.dict fs) [d, d'] = (dgetD fs d).map fun o => o.getD d' := id rfl
@[simp] theorem in_dict {fs : List (D × D)} : cmpD .In d (.dict fs) = (dgetD fs d).map (·.isSome) := by cases d <;> rfl
@[simp] theorem notin_dict {fs : List (D × D)} : cmpD .NotIn d (.dict fs) = (dgetD fs d).map fun o => !o.isSome := by cases d <;> rfl
@[simp] theorem dgetD_eq {q : Bool} {fs : List (D × D)} : dgetD ((.bool q, .none) :: fs) d = if kindOk q d = true then some (dfind fs d) else none := id rfl
@[simp] theorem kind_int : kindOk false (.int i) = true := id rfl
@[simp] theorem kind_str : kindOk false (.str x) = true := id rfl
@[simp] theorem dof_list : dofD (.list xs) = (dputs [] xs).map fun es => .dict ((.bool false, .none) :: es) := id rfl
@[simp] theorem dof_tuple : dofD (.tuple xs) = if (Mode.tm || !xs.all keyTD) = true then (dputs [] xs).map fun es => .dict ((.bool false, .none) :: es) else none := id rfl
@[simp] theorem dofT_list : dofTD (.list xs) = if Mode.tm = true then none else (dputsU [] xs).map fun es => .dict ((.bool true, .none) :: es) := id rfl
@[simp] theorem dof_dict {fs : List (D × D)} : dofD (.dict ((.bool false, .none) :: fs)) = some (.dict ((.bool false, .none) :: fs)) := id rfl
@[simp ↓] theorem isOw_gl : isOw ρ (.gl n) = false := id rfl
@[simp ↓] theorem isOw_lcm : isOw ρ (.lcm a b) = false := id rfl
@[simp ↓] theorem isFr_lcm : isFr (.lcm a b) = false := id rfl
@[simp ↓] theorem isOw_rvs : isOw ρ (.rvs a) = false := id rfl
@[simp ↓] theorem isFr_rvs : isFr (.rvs a) = true := id rfl
@[simp ↓] theorem isOw_cnt : isOw ρ (.cnt a b) = false := id rfl
@[simp ↓] theorem isFr_cnt : isFr (.cnt a b) = false := id rfl
@[simp ↓] theorem isOw_lrg : isOw ρ (.lrg es) = false := id rfl
@[simp ↓] theorem isFr_lrg : isFr (.lrg es) = true := id rfl
@[simp] theorem rvs_list : rvsD (.list xs) = some (.list xs.reverse) := id rfl
@[simp] theorem rvs_tuple : rvsD (.tuple xs) = some (.tuple xs.reverse) := id rfl
@[simp] theorem lcm_int {i j : Int} : lcmD (.int i) (.int j) = if smallI i && smallI j then some (.int ((Nat.lcm i.natAbs j.natAbs : Nat) : Int)) else none := id rfl
@[simp] theorem lrg_eq {xs : List D} : lrgD xs = (rngD xs).bind fun zs => if zs.length ≤ cap ∧ xs.length < 3 then some (.list zs) else none := id rfl
@[simp ↓] theorem isOw_srev : isOw ρ (.srev a) = false := id rfl
@[simp ↓] theorem isOw_lset : isOw ρ (.lset a) = false := id rfl
@[simp ↓] theorem isFr_lset : isFr (.lset a) = false := id rfl
@[simp ↓] theorem isOw_sset : isOw ρ (.sset a) = false := id rfl
@[simp ↓] theorem isFr_sset : isFr (.sset a) = true := id rfl
@[simp ↓] theorem isOw_mnd {i : Int} : isOw ρ (.mnd i a) = false := id rfl
@[simp ↓] theorem isOw_lkb {i : Nat} {b : Bi} : isOw ρ (.lkb i b es) = false := id rfl
@[simp ↓] theorem isOw_lkc {i j : Nat} : isOw ρ (.lkc i j es) = false := id rfl
@[simp ↓] theorem isFr_lkb {i : Nat} {b : Bi} : isFr (.lkb i b es) = isFr (.bi b es) := by cases b <;> rfl
@[simp ↓] theorem isFr_lkc {i j : Nat} : isFr (.lkc i j es) = false := id rfl
@[simp ↓] theorem isMk_lkb {i : Nat} {b : Bi} : isMk (.lkb i b es) = false := id rfl
@[simp ↓] theorem isMk_lkc {i j : Nat} : isMk (.lkc i j es) = false := id rfl
@[simp ↓] theorem isFr_mnd {i : Int} : isFr (.mnd i a) = false := id rfl
@[simp ↓] theorem isOw_si : isOw ρ (.si a) = false := id rfl
@[simp ↓] theorem isFr_si : isFr (.si a) = true := id rfl
@[simp ↓] theorem isFr_srev : isFr (.srev a) = true := id rfl
@[simp ↓] theorem isOw_gcd : isOw ρ (.gcd a b) = false := id rfl
@[simp ↓] theorem isOw_bi : isOw ρ (.bi bi es) = false := id rfl
@[simp ↓] theorem isOw_isi : isOw ρ (.isi a tys) = false := id rfl
def odV (ρ : List Slot) (n : Nat) : Bool := isOwD ρ (.var n)
@[simp ↓] theorem odV_sh {d : D} {l : List Slot} : odV (.sh d :: l) 0 = false := rfl
@[simp ↓] theorem odV_no {l : List Slot} : odV (.no :: l) 0 = false := rfl
@[simp ↓] theorem odV_owL {l : List Slot} : odV (.ow (.list xs) :: l) 0 = false := rfl
@[simp ↓] theorem odV_leL {l : List Slot} : odV (.le (.list xs) :: l) 0 = false := rfl
@[simp ↓] theorem odV_owD {l : List Slot} {es : List (D × D)} : odV (.ow (.dict es) :: l) 0 = true := rfl
@[simp ↓] theorem odV_leD {l : List Slot} {es : List (D × D)} : odV (.le (.dict es) :: l) 0 = true := rfl
@[simp ↓] theorem odV_s {x : Slot} {l : List Slot} {n : Nat} : odV (x :: l) (n + 1) = odV l n := by unfold odV isOwD; simp
@[simp ↓] theorem isOwD_eq : isOwD ρ e = (match e with | .var n => odV ρ n | _ => false) := by cases e <;> rfl
@[simp ↓] theorem isOw_var : isOw ρ (.var n) = owV ρ n := id rfl
@[simp ↓] theorem isOwI_seq : isOwI ρ (.seq a) = isOw ρ a := id rfl
@[simp ↓] theorem isOwI_rng : isOwI ρ (.rng es) = false := id rfl
@[simp ↓] theorem isOwI_enm : isOwI ρ (.enm a) = isOw ρ a := id rfl
@[simp ↓] theorem isOwI_cmb : isOwI ρ (.cmb a b) = false := id rfl
@[simp ↓] theorem isOwI_cmr {r : Ex} : isOwI ρ (.cmr es r) = false := id rfl
@[simp ↓] theorem isOwI_zip : isOwI ρ (.zip a b) = (isOw ρ a || isOw ρ b) := id rfl
@[simp] theorem slotOfD_eq {e : Ex} {d : D} : slotOfD e d = if isMk e = true then .ow d else slotOf (isFr e) d := id rfl
@[simp] theorem slotOf_f : slotOf false d = .sh d := by cases d <;> rfl
@[simp] theorem slotOf_list (y : Bool) : slotOf y (.list xs) = if y then .ow (.list xs) else .sh (.list xs) := by cases y <;> rfl
@[simp] theorem slotOf_tuple (y : Bool) : slotOf y (.tuple xs) = .sh (.tuple xs) := by cases y <;> rfl
@[simp] theorem slotOf_int (y : Bool) : slotOf y (.int i) = .sh (.int i) := by cases y <;> rfl
@[simp] theorem slotOf_bool (y : Bool) : slotOf y (.bool yes) = .sh (.bool yes) := by cases y <;> rfl
@[simp] theorem slotOf_str (y : Bool) : slotOf y (.str x) = .sh (.str x) := by cases y <;> rfl
@[simp] theorem slotOf_none (y : Bool) : slotOf y .none = .sh .none := by cases y <;> rfl
@[simp ↓] theorem isFr_bin : isFr (.bin op a b) = true := id rfl
@[simp ↓] theorem isFr_lst : isFr (.lst es) = true := id rfl
@[simp ↓] theorem isFr_lc : isFr (.lc e tg it ifs) = true := id rfl
@[simp ↓] theorem isFr_sl : isFr (.sl a lo hi) = true := id rfl
@[simp ↓] theorem isFr_var : isFr (.var n) = false := id rfl
@[simp ↓] theorem isFr_int : isFr (.int i) = false := id rfl
@[simp ↓] theorem isFr_non : isFr .non = false := id rfl
@[simp ↓] theorem isFr_bl : isFr (.bl y) = false := id rfl
@[simp ↓] theorem isFr_str : isFr (.str x) = false := id rfl
@[simp ↓] theorem isFr_tup : isFr (.tup es) = false := id rfl
@[simp ↓] theorem isFr_ix : isFr (.ix a b) = false := id rfl
@[simp ↓] theorem isFr_ife : isFr (.ife a b c) = false := id rfl
@[simp ↓] theorem isFr_call : isFr (.call n es) = false := id rfl
@[simp ↓] theorem isFr_cmp : isFr (.cmp cop a b) = false := id rfl
@[simp ↓] theorem isFr_neg : isFr (.neg a) = false := id rfl
@[simp ↓] theorem isFr_nt : isFr (.nt a) = false := id rfl
@[simp ↓] theorem isFr_bop : isFr (.bop an es) = false := id rfl
@[simp ↓] theorem isFr_gl : isFr (.gl n) = false := id rfl
@[simp ↓] theorem isFr_gcd : isFr (.gcd a b) = false := id rfl
@[simp] theorem gcd_int : gcdD (.int i) (.int j) = some (.int ((Nat.gcd i.natAbs j.natAbs : Nat) : Int)) := id rfl
@[simp ↓] theorem isFr_isi : isFr (.isi a tys) = false := id rfl
@[simp ↓] theorem isFr_list : isFr (.bi .list es) = true := id rfl
@[simp ↓] theorem isFr_sorted : isFr (.bi .sorted es) = true := id rfl
@[simp ↓] theorem isFr_len : isFr (.bi .len es) = false := id rfl
@[simp ↓] theorem isFr_tuple : isFr (.bi .tuple es) = false := id rfl
@[simp ↓] theorem isFr_sum : isFr (.bi .sum es) = false := id rfl
@[simp ↓] theorem isFr_min : isFr (.bi .min es) = false := id rfl
@[simp ↓] theorem isFr_max : isFr (.bi .max es) = false := id rfl
@[simp ↓] theorem isFr_abs : isFr (.bi .abs es) = false := id rfl
@[simp ↓] theorem isFr_bint : isFr (.bi .int es) = false := id rfl
@[simp ↓] theorem isFr_all : isFr (.bi .all es) = false := id rfl
@[simp ↓] theorem isFr_any : isFr (.bi .any es) = false := id rfl
@[simp] theorem bin_add : binD .Add (.int i) (.int j) = some (.int (i + j)) := id rfl
@[simp] theorem bin_sub : binD .Sub (.int i) (.int j) = some (.int (i - j)) := id rfl
@[simp] theorem bin_catL : binD .Add (.list xs) (.list ys) = if xs.length + ys.length ≤ cap then some (.list (xs ++ ys)) else none := id rfl
@[simp] theorem bin_catT : binD .Add (.tuple xs) (.tuple ys) = if xs.length + ys.length ≤ cap then some (.tuple (xs ++ ys)) else none := id rfl
@[simp] theorem bin_mul : binD .Mult (.int i) (.int j) = if (smallI i || smallI j) = true then some (.int (i * j)) else none := id rfl
@[simp] theorem bin_mod : binD .Mod (.int i) (.int j) = if 0 < j then some (.int (i % j)) else none := id rfl
@[simp] theorem bin_div : binD .FloorDiv (.int i) (.int j) = if 0 < j ∧ j.natAbs < 1073741824 then some (.int (i / j)) else none := id rfl
@[simp] theorem bin_repL : binD .Mult (.list xs) (.int j) = if 0 ≤ j ∧ j.natAbs < 9223372036854775808 ∧ xs.length * j.toNat ≤ cap then some (.list (List.replicate j.toNat xs).flatten) else none := id rfl
@[simp] theorem cmp_lt : cmpD .Lt (.int i) (.int j) = some (decide (i < j)) := id rfl
@[simp] theorem cmp_gt : cmpD .Gt (.int i) (.int j) = some (decide (j < i)) := id rfl
@[simp] theorem cmp_le : cmpD .LtE (.int i) (.int j) = some (decide (i ≤ j)) := by
  show some (!decide (j < i)) = _
  congr 1
  by_cases h : j < i
  · rw [decide_eq_true h, decide_eq_false (by omega)]; rfl
  · rw [decide_eq_false h, decide_eq_true (by omega)]; rfl
@[simp] theorem cmp_ge : cmpD .GtE (.int i) (.int j) = some (decide (j ≤ i)) := by
  show some (!decide (i < j)) = _
  congr 1
  by_cases h : i < j
  · rw [decide_eq_true h, decide_eq_false (by omega)]; rfl
  · rw [decide_eq_false h, decide_eq_true (by omega)]; rfl
theorem cmp_eq (h1 : okN deep d = true) (h2 : okN deep d' = true) : cmpD .Eq d d' = some (PyData.eqv d d') := by
  show (if okN deep d = true ∧ okN deep d' = true then some (PyData.eqv d d') else deqD d d') = _
  rw [if_pos ⟨h1, h2⟩]
theorem cmp_ne (h1 : okN deep d = true) (h2 : okN deep d' = true) : cmpD .NotEq d d' = some (!PyData.eqv d d') := by
  show (if okN deep d = true ∧ okN deep d' = true then some (!PyData.eqv d d') else (deqD d d').map (!·)) = _
  rw [if_pos ⟨h1, h2⟩]
@[simp] theorem eq_int : cmpD .Eq (.int i) (.int j) = some (decide (i = j)) := by
  rw [cmp_eq rfl rfl]
  congr 1
@[simp] theorem ne_int : cmpD .NotEq (.int i) (.int j) = some (!decide (i = j)) := by
  rw [cmp_ne rfl rfl]
  congr 1
@[simp] theorem eq_bool (p q : Bool) : cmpD .Eq (.bool p) (.bool q) = some (p == q) := by
  cases p <;> cases q <;> rfl
@[simp] theorem ne_bool (p q : Bool) : cmpD .NotEq (.bool p) (.bool q) = some (p != q) := by
  cases p <;> cases q <;> rfl
@[simp] theorem tru_bool : truD (.bool y) = some y := id rfl
@[simp] theorem tru_none : truD .none = some false := id rfl
@[simp] theorem tru_int : truD (.int i) = some (i != 0) := id rfl
@[simp] theorem tru_dict {es : List (D × D)} : truD (.dict ((.bool false, .none) :: es)) = some (!es.isEmpty) := id rfl
@[simp] theorem tru_list : truD (.list xs) = some (!xs.isEmpty) := id rfl
@[simp] theorem tru_tuple : truD (.tuple xs) = some (!xs.isEmpty) := id rfl
@[simp] theorem ix_listD : ixD (.list xs) (.int i) = atI xs i := id rfl
@[simp] theorem ix_tupleD : ixD (.tuple xs) (.int i) = atI xs i := id rfl
@[simp] theorem sl_listD (l h : Option Int) : slD (.list xs) l h = some (.list (cutD xs l h)) := id rfl
@[simp] theorem sl_tupleD (l h : Option Int) : slD (.tuple xs) l h = some (.tuple (cutD xs l h)) := id rfl
@[simp] theorem bi_lenL : biD .len [.list xs] = some (.int xs.length) := id rfl
@[simp] theorem bi_lenT : biD .len [.tuple xs] = some (.int xs.length) := id rfl
@[simp] theorem bi_tupL : biD .tuple [.list xs] = some (.tuple xs) := id rfl
@[simp] theorem bi_tupT : biD .tuple [.tuple xs] = some (.tuple xs) := id rfl
@[simp] theorem bi_listL : biD .list [.list xs] = some (.list xs) := id rfl
@[simp] theorem bi_listT : biD .list [.tuple xs] = some (.list xs) := id rfl
@[simp] theorem bi_all : biD .all [.list xs] = (boolsD xs).map fun bs => .bool (bs.all id) := id rfl
@[simp] theorem bi_any : biD .any [.list xs] = (boolsD xs).map fun bs => .bool (bs.any id) := id rfl
@[simp] theorem bi_sum : biD .sum [.list xs] = (intsD xs).map fun ns => .int ns.sum := id rfl
@[simp] theorem bi_sumT : biD .sum [.tuple xs] = (intsD xs).map fun ns => .int ns.sum := id rfl
@[simp] theorem bi_min2 : biD .min [.int i, .int j] = some (.int (min i j)) := by
  show some (PyData.int (if j < i then j else i)) = _
  congr 2
  omega
@[simp] theorem bi_max2 : biD .max [.int i, .int j] = some (.int (max i j)) := by
  show some (PyData.int (if j > i then j else i)) = _
  congr 2
  omega
@[simp] theorem bi_abs : biD .abs [.int i] = some (.int (i.natAbs : Int)) := by
  show some (PyData.int (if i < 0 then -i else i)) = _
  congr 2
  omega
@[simp] theorem bi_int : biD .int [.int i] = some (.int i) := id rfl
@[simp] theorem seq_list : seqD (.list xs) = some xs := id rfl
@[simp] theorem seq_tuple : seqD (.tuple xs) = some xs := id rfl
theorem rng_one : rngD [.int i] = if rngOk i = true then some ((List.range i.toNat).map fun k => .int (k : Nat)) else none := id rfl
theorem rng_two : rngD [.int i, .int j] = if (rngOk i && rngOk j) = true then some ((List.range (j - i).toNat).map fun k => .int (i + (k : Nat))) else none := id rfl
@[simp] theorem isN_int : isNoneD (.int i) = false := id rfl
@[simp] theorem isN_none : isNoneD .none = true := id rfl
@[simp] theorem isN_tuple : isNoneD (.tuple xs) = false := id rfl
@[simp] theorem isN_list : isNoneD (.list xs) = false := id rfl
@[simp] theorem isN_str : isNoneD (.str x) = false := id rfl
@[simp] theorem isN_bool : isNoneD (.bool y) = false := id rfl
end
theorem atI_nat {α : Type} {xs : List α} {n : Nat} (h : n < xs.length) : atI xs (n : Int) = some xs[n] := by
  unfold atI ixN
  rw [if_pos (by omega), if_pos (by omega)]
  show xs[(n : Int).toNat]? = _
  rw [Int.toNat_natCast, List.getElem?_eq_getElem h]
theorem atI_zero {α : Type} {x : α} {xs : List α} : atI (x :: xs) 0 = some x := atI_nat (xs := x :: xs) (n := 0) (by simp)
theorem rngOk_of {i : Int} (h0 : -4611686018427387904 < i) (h1 : i < 4611686018427387904) : rngOk i = true := by
  have h : i.natAbs < 4611686018427387904 := by omega
  exact decide_eq_true h


section
variable {Γ : Gam} {elt : Ex} {ifs : Exs} {tg : Tg} {body : Sms} {ρ : List Slot} {items : List D} {st st' : DS}
/-- a comprehension that draws nothing -/
theorem lc_pure {f : D → D} {c : D → Bool} : ∀ {items : List D}, (∀ x ∈ items, ∃ ρ1, bindT tg x ρ = some ρ1 ∧ evC Γ ifs ρ1 st = some (c x, st) ∧ (c x = true → evE Γ elt ρ1 st = some (f x, st))) → lcE Γ elt ifs tg ρ items st = some ((items.filter c).map f, st)
  | [], _ => rfl
  | x :: xs, h => by
    obtain ⟨ρ1, h1, h2, h3⟩ := h x List.mem_cons_self
    have ih := lc_pure (items := xs) fun y hy => h y (List.mem_cons_of_mem _ hy)
    unfold lcE at ih ⊢
    cases hc : c x with
    | false =>
      rw [hc] at h2
      simp [lcRun, h1, h2, ih, hc]
    | true =>
      rw [hc] at h2
      simp [lcRun, h1, h2, h3 hc, ih, hc]
theorem lc_map {f : D → D} (h : ∀ x ∈ items, ∃ ρ1, bindT tg x ρ = some ρ1 ∧ evE Γ elt ρ1 st = some (f x, st)) : lcE Γ elt .nil tg ρ items st = some (items.map f, st) := by
  have z := lc_pure (Γ := Γ) (elt := elt) (ifs := .nil) (tg := tg) (ρ := ρ) (st := st) (f := f) (c := fun _ => true) (items := items) fun x hx => by
    obtain ⟨ρ1, h1, h2⟩ := h x hx
    exact ⟨ρ1, h1, rfl, fun _ => h2⟩
  rw [z, List.filter_eq_self.mpr fun _ _ => rfl]
/-- a comprehension that draws: of each value no more is known than P -/
theorem lc_draw {P : D → D → Prop} : ∀ {items : List D} (st : DS), (∀ x ∈ items, ∀ st, ∃ ρ1 r st', bindT tg x ρ = some ρ1 ∧ evE Γ elt ρ1 st = some (r, st') ∧ P x r) → ∃ rs st', lcE Γ elt .nil tg ρ items st = some (rs, st') ∧ rs.length = items.length ∧ ∀ r ∈ rs, ∃ x ∈ items, P x r
  | [], st, _ => ⟨[], st, rfl, rfl, fun _ h => by cases h⟩
  | x :: xs, st, h => by
    obtain ⟨ρ1, r, s1, h1, h2, h3⟩ := h x List.mem_cons_self st
    obtain ⟨rs, s2, h4, h5, h6⟩ := lc_draw (items := xs) s1 fun y hy => h y (List.mem_cons_of_mem _ hy)
    refine ⟨r :: rs, s2, ?_, by simp [h5], fun q hq => ?_⟩
    · unfold lcE at h4 ⊢
      have hc : evC Γ .nil ρ1 st = some (true, st) := rfl
      rw [lcRun, h1, Option.bind_some, hc, Option.bind_some, if_pos rfl, h2, Option.bind_some, h4]
      rfl
    · rcases List.mem_cons.mp hq with rfl | hq
      · exact ⟨x, List.mem_cons_self, h3⟩
      · obtain ⟨y, hy, hp⟩ := h6 q hq
        exact ⟨y, List.mem_cons_of_mem _ hy, hp⟩
/-- a loop to its end: I is kept turn by turn -/
theorem for_inv (I : Nat → List Slot → DS → Prop) : ∀ {items : List D} {k : Nat} {ρ : List Slot} {st : DS}, I k ρ st → (∀ i x ρ st, items[i]? = some x → I (k + i) ρ st → ∃ ρ1 ρ' st', bindT tg x ρ = some ρ1 ∧ (evSs Γ body ρ1 st = some (.nx ρ' st') ∨ evSs Γ body ρ1 st = some (.ct ρ' st')) ∧ I (k + i + 1) ρ' st') →
    ∃ ρ' st', forE Γ body tg items ρ st = some (.nx ρ' st') ∧ I (k + items.length) ρ' st'
  | [], k, ρ, st, h0, _ => ⟨ρ, st, rfl, h0⟩
  | x :: xs, k, ρ, st, h0, h => by
    obtain ⟨ρ1, ρ', st', h1, h2, h3⟩ := h 0 x ρ st rfl h0
    obtain ⟨ρ2, st2, h4, h5⟩ := for_inv I (items := xs) (k := k + 1) h3 fun i y ρ st hi hI => by
      have z := h (i + 1) y ρ st hi (by rw [show k + (i + 1) = k + 1 + i by omega]; exact hI)
      rw [show k + (i + 1) + 1 = k + 1 + i + 1 by omega] at z
      exact z
    refine ⟨ρ2, st2, ?_, by rw [List.length_cons, show k + (xs.length + 1) = k + 1 + xs.length by omega]; exact h5⟩
    unfold forE at h4 ⊢
    rcases h2 with h2 | h2 <;> simp [forRun, h1, h2, h4]
end
section
variable {op op2 : CmpOp} {oo : Operator} {a b c : Ex} {es es2 : Exs} {j : Nat} {i : Int} {x : Str} {y z bb : Bool} {tg : Tg} {it : It} {w : Bi} {ts : List Ty}
@[simp ↓] theorem isMk_non : isMk .non = false := id rfl
@[simp ↓] theorem isMk_bl : isMk (.bl bb) = false := id rfl
@[simp ↓] theorem isMk_int : isMk (.int i) = false := id rfl
@[simp ↓] theorem isMk_str : isMk (.str x) = false := id rfl
@[simp ↓] theorem isMk_var : isMk (.var j) = false := id rfl
@[simp ↓] theorem isMk_bin : isMk (.bin oo a b) = false := id rfl
@[simp ↓] theorem isMk_neg : isMk (.neg a) = false := id rfl
@[simp ↓] theorem isMk_nt : isMk (.nt a) = false := id rfl
@[simp ↓] theorem isMk_cmp : isMk (.cmp op a b) = false := id rfl
@[simp ↓] theorem isMk_isN : isMk (.isN y a) = false := id rfl
@[simp ↓] theorem isMk_isB : isMk (.isB y z a) = false := id rfl
@[simp ↓] theorem isMk_chn : isMk (.chn op op2 a b c) = false := id rfl
@[simp ↓] theorem isMk_bop : isMk (.bop y es) = false := id rfl
@[simp ↓] theorem isMk_ife : isMk (.ife a b c) = false := id rfl
@[simp ↓] theorem isMk_tup : isMk (.tup es) = false := id rfl
@[simp ↓] theorem isMk_lst : isMk (.lst es) = false := id rfl
@[simp ↓] theorem isMk_ix : isMk (.ix a b) = false := id rfl
@[simp ↓] theorem isMk_sl : isMk (.sl a es es2) = false := id rfl
@[simp ↓] theorem isMk_lc : isMk (.lc a tg it es) = false := id rfl
@[simp ↓] theorem isMk_call : isMk (.call j es) = false := id rfl
@[simp ↓] theorem isMk_gl : isMk (.gl j) = false := id rfl
@[simp ↓] theorem isMk_gcd : isMk (.gcd a b) = false := id rfl
@[simp ↓] theorem isMk_lcm : isMk (.lcm a b) = false := id rfl
@[simp ↓] theorem isMk_rvs : isMk (.rvs a) = false := id rfl
@[simp ↓] theorem isMk_cnt : isMk (.cnt a b) = false := id rfl
@[simp ↓] theorem isMk_lrg : isMk (.lrg es) = false := id rfl
@[simp ↓] theorem isMk_srev : isMk (.srev a) = false := id rfl
@[simp ↓] theorem isMk_si : isMk (.si a) = false := id rfl
@[simp ↓] theorem isMk_mnd : isMk (.mnd i a) = false := id rfl
@[simp ↓] theorem isMk_lset : isMk (.lset a) = false := id rfl
@[simp ↓] theorem isMk_sset : isMk (.sset a) = false := id rfl
@[simp ↓] theorem isMk_bi : isMk (.bi w es) = false := id rfl
@[simp ↓] theorem isMk_isi : isMk (.isi a ts) = false := id rfl
@[simp ↓] theorem isMk_get : isMk (.get a es) = false := id rfl
end
end Pf

namespace Pf
open PySem PySem.Spec PyProof.Rows L2
variable [Mode]

def sameB : Sms :=
  (.cons (.iff (.isi (.var 1) [.list, .tuple]) (.cons (.iff (.bop false (.cons (.cmp .NotEq (.isi (.var 1) [.list]) (.isi (.var 0) [.list])) (.cons (.cmp .NotEq (.isi (.var 1) [.tuple]) (.isi (.var 0) [.tuple])) .nil))) (.cons (.ret (.bl false)) .nil) .nil)
    (.cons (.iff (.cmp .NotEq (.bi .len (.cons (.var 0) .nil)) (.bi .len (.cons (.var 1) .nil))) (.cons (.ret (.bl false)) .nil) .nil)
    (.cons (.ret (.bi .all (.cons (.lc (.call 0 (.cons (.ix (.var 0) (.var 2)) (.cons (.ix (.var 1) (.var 2)) .nil))) (.nm 2) (.rng (.cons (.bi .len (.cons (.var 1) .nil)) .nil)) .nil) .nil))) .nil))) .nil)
  (.cons (.iff (.isN true (.var 1)) (.cons (.ret (.isN true (.var 0))) .nil) .nil) (.cons (.iff (.cmp .NotEq (.isi (.var 1) [.bool]) (.isi (.var 0) [.bool])) (.cons (.ret (.bl false)) .nil) .nil)
  (.cons (.iff (.isi (.var 1) [.str]) (.cons (.ret (.bop true (.cons (.isi (.var 0) [.str]) (.cons (.cmp .Eq (.var 0) (.var 1)) .nil)))) .nil) .nil) (.cons (.ret (.bop true (.cons (.isi (.var 0) [.int]) (.cons (.cmp .Eq (.var 0) (.var 1)) .nil)))) .nil)))))
def sameF : Nat → Fn
  | 0 => fun _ _ => none
  | n + 1 => evF ⟨[sameF n], []⟩ 3 2 sameB
/-- what can be compared -/
def okS : Nat → D → Bool
  | 0, _ => false
  | n + 1, .list xs => decide (xs.length ≤ cap) && xs.all (okS n)
  | n + 1, .tuple xs => decide (xs.length ≤ cap) && xs.all (okS n)
  | _ + 1, .dict _ => false
  | _ + 1, _ => true
theorem boolsD_true {α : Type} : ∀ (items : List α), boolsD (items.map fun _ => .bool true) = some (items.map fun _ => true)
  | [] => rfl
  | _ :: xs => by
    show (boolsD (xs.map fun _ => .bool true)).map (true :: ·) = _
    rw [boolsD_true xs]
    rfl
theorem all_true {α : Type} (items : List α) : (items.map fun _ => true).all id = true := by
  rw [List.all_map]
  exact List.all_eq_true.mpr fun _ _ => rfl
def sameElt : Ex := .call 0 (.cons (.ix (.var 0) (.var 2)) (.cons (.ix (.var 1) (.var 2)) .nil))
theorem same_lc {n : Nat} {xs : List D} {z : D} (hz : z = .list xs ∨ z = .tuple xs) (ih : ∀ x ∈ xs, ∀ st, sameF n [x, x] st = some (.bool true, st)) (st : DS) :
    lcE ⟨[sameF n], []⟩ sameElt .nil (.nm 2) [.sh z, .sh z, .no] ((List.range xs.length).map fun i => .int (i : Nat)) st = some (((List.range xs.length).map fun i => PyData.int (i : Nat)).map fun _ => .bool true, st) := by
  refine lc_map fun x hx => ?_
  obtain ⟨i, hi, rfl⟩ := List.mem_map.mp hx
  have hi : i < xs.length := List.mem_range.mp hi
  refine ⟨[.sh z, .sh z, .sh (.int i)], rfl, ?_⟩
  have e2 := ih xs[i] (List.getElem_mem hi) st
  have e1 := atI_nat hi
  rcases hz with rfl | rfl <;> simp [sameElt, e1, e2]
theorem same_seq {n : Nat} {xs : List D} (hl : xs.length ≤ cap) (ih : ∀ x ∈ xs, ∀ st, sameF n [x, x] st = some (.bool true, st)) (st : DS) {z : D} (hz : z = .list xs ∨ z = .tuple xs) : sameF (n + 1) [z, z] st = some (.bool true, st) := by
  have hc : cap = 16777216 := rfl
  have hr : rngOk (xs.length : Int) = true := rngOk_of (by omega) (by omega)
  have m := same_lc hz ih st
  have b := boolsD_true ((List.range xs.length).map fun i => PyData.int (i : Nat))
  have hl2 : ((List.range xs.length).map fun i => PyData.int (i : Nat)).length ≤ cap := by simpa using hl
  generalize hI : ((List.range xs.length).map fun i => PyData.int (i : Nat)) = items at m b hl2
  have a := all_true items
  rcases hz with rfl | rfl
  · simp [sameF, evF, sameB, isiAny, isiD, rng_one, hr, hI, hl2]
    simp [sameElt] at m
    simp [m, b, a]
  · simp [sameF, evF, sameB, isiAny, isiD, rng_one, hr, hI, hl2]
    simp [sameElt] at m
    simp [m, b, a]
theorem same_refl : ∀ (n : Nat) (d : D), okS n d = true → ∀ st, sameF n [d, d] st = some (.bool true, st)
  | 0, _, h, _ => by cases h
  | n + 1, d, h, st => by
    cases d with
    | list xs =>
      simp only [okS, Bool.and_eq_true, decide_eq_true_eq, List.all_eq_true] at h
      exact same_seq h.1 (fun x hx => same_refl n x (h.2 x hx)) st (.inl rfl)
    | tuple xs =>
      simp only [okS, Bool.and_eq_true, decide_eq_true_eq, List.all_eq_true] at h
      exact same_seq h.1 (fun x hx => same_refl n x (h.2 x hx)) st (.inr rfl)
    | dict _ => cases h
    | none => simp [sameF, evF, sameB, isiAny, isiD]
    | bool b => cases b <;> simp [sameF, evF, sameB, isiAny, isiD]
    | int i => simp [sameF, evF, sameB, isiAny, isiD]
    | str x =>
      have e : cmpD .Eq (.str x) (.str x) = some true := by
        rw [cmp_eq rfl rfl]
        show some (x == x) = some true
        rw [beq_self_eq_true]
      simp [sameF, evF, sameB, isiAny, isiD, e]
end Pf

namespace Pf
open PySem PySem.Spec PyProof.Rows L2
variable [Mode]

structure DefIn (K : PySem.W.Frag) (mg : Str → Option Value) (x : Str) (st : Stmt) (ps : List Str) : Prop where
  ex : ∃ f fd, Fun K x x st f fd ∧ mg x = some (.ref f) ∧ Binds K fd ps [] ∧ ∀ (s : Shared) (us : List Value), us.length = ps.length → BindsTo s fd ⟨us, []⟩ (ps.zip us)
section
variable {P : Program} {w : World} {K : PySem.W.Frag} {mg : Str → Option Value} {base : Heap} {k : Nat} {x : Str} {stm : Stmt} {N ps : List Str} {G : Nm} {Γ : Gam} {body : Sms}
theorem def_in {h : Heap} {f : Addr} {oc : Value} {od an : Option Addr} {osl : Array (Option Value)} {kV doc pm cdv ct : Value} (X : K.In h) (G : h.Ns mainGlobals mg) (a : PySem.W.nsIn K mainGlobals x = some (some (.ref f)))
    (l : K.lookup f = some ⟨oc, od, .func (PySem.W.fnOf x x (defArgs stm) (defBody stm) (defScope stm) .none kV doc pm an cdv ct), osl⟩) (c : PySem.W.codeIn K cdv x = true) (kp : PySem.W.keepIn K (.ref f) = true)
    (hb : ∀ (kV doc pm : Value) (an : Option Addr) (cdv ct : Value) (us : List Value), us.length = ps.length → bindArgs (PySem.W.fnOf x x (defArgs stm) (defBody stm) (defScope stm) .none kV doc pm an cdv ct) ⟨us, []⟩ = pure (ps.zip us)) : DefIn K mg x stm ps := by
  have F := fun_mk (x := x) (qual := x) (st := stm) l c kp
  exact ⟨f, _, F, PySem.W.mg_of X G a, F.binds hb, fun s us hl => .of_eq (hb _ _ _ _ _ _ us hl)⟩
def CallsL (P : Program) (w : World) (K : PySem.W.Frag) (mg : Str → Option Value) (base : Heap) (k : Nat) : List Fn → List Str → Prop
  | F :: Fs, x :: xs => CallsAt P w K mg base k x F ∧ CallsL P w K mg base k Fs xs
  | [], _ => True
  | _ :: _, [] => False
theorem CallsL.at : ∀ {Fs : List Fn} {xs : List Str}, CallsL P w K mg base k Fs xs → ∀ j Fj, Fs[j]? = some Fj → CallsAt P w K mg base k (xs.getD j Str.empty) Fj
  | [], _, _, _, _, h => by simp at h
  | _ :: _, [], h, _, _, _ => h.elim
  | F :: Fs, x :: xs, h, 0, Fj, e => by
    cases e
    exact h.1
  | F :: Fs, x :: xs, h, j + 1, Fj, e => h.2.at j Fj e
def CnsL (K : PySem.W.Frag) (mg : Str → Option Value) : List D → List Str → Prop
  | d :: ds, x :: xs => CnsAt K mg x d ∧ CnsL K mg ds xs
  | [], _ => True
  | _ :: _, [] => False
theorem CnsL.at : ∀ {ds : List D} {xs : List Str}, CnsL K mg ds xs → ∀ j d, ds[j]? = some d → CnsAt K mg (xs.getD j Str.empty) d
  | [], _, _, _, _, h => by simp at h
  | _ :: _, [], h, _, _, _ => h.elim
  | F :: Fs, x :: xs, h, 0, Fj, e => by
    cases e
    exact h.1
  | F :: Fs, x :: xs, h, j + 1, Fj, e => h.2.at j Fj e
theorem cns_int {i : Int} {t : Tok} {h : Heap} (X : K.In h) (G : h.Ns mainGlobals mg) (a : PySem.W.nsIn K mainGlobals x = some (some (.int i t))) : CnsAt K mg x (.int i) := ⟨.int i, .int i t, PySem.W.mg_of X G a, ⟨t, rfl⟩, fun _ _ _ => .int i⟩
theorem cns_str {z : Str} {t : Tok} {h : Heap} (X : K.In h) (G : h.Ns mainGlobals mg) (a : PySem.W.nsIn K mainGlobals x = some (some (.str z t))) : CnsAt K mg x (.str z) := ⟨.str z, .str z t, PySem.W.mg_of X G a, ⟨t, rfl⟩, fun _ _ _ => .str z⟩
theorem noLib : LibOk [] mg := ⟨fun h => absurd h List.not_mem_nil, fun h => absurd h List.not_mem_nil, fun h => absurd h List.not_mem_nil, fun h => absurd h List.not_mem_nil⟩
theorem calls_of (D : DefIn K mg x stm ps) (S : FnScope N ps (defScope stm)) (hb : ∀ x ∈ bltNames, mg x = none) (hw : wfSs N G body (ptSs body (defBody stm)) (defScope stm) = true) (ht : toSs N G body (ptSs body (defBody stm)) = defBody stm)
    (hΓ : CallsL P w K mg base k Γ.fs G.fs) (hC : CnsL K mg Γ.cs G.cs) (hL : LibOk G.lib mg) : CallsAt P w K mg base (k + 1) x (evF Γ N.length ps.length body) := by
  obtain ⟨f, fd, F, hm, hB, hbd⟩ := D.ex
  exact calls_ok F S hC.at hL hb hm hB hw ht hΓ.at
theorem next_calls (D : DefIn K mg x stm ["draw", "many"]) (S : FnScope nextN ["draw", "many"] (defScope stm)) (hb : ∀ x ∈ bltNames, mg x = none) (hw : nextW (defScope stm) = true) (ht : toSs nextN ⟨[], [], []⟩ nextB (ptSs nextB (defBody stm)) = defBody stm) : CallsAt P w K mg base (k + 1) x nextF := by
  obtain ⟨f, fd, F, hm, hB, hbd⟩ := D.ex
  exact ⟨f, fd, _, next_ok F S (hb _ (by decide +kernel)) (hb _ (by decide +kernel)) (hb _ (by decide +kernel)) hw ht, hm, F.kp, hB⟩
theorem same_calls (D : DefIn K mg x stm ps) (hN : N.length = 3) (hp : ps.length = 2) (S : FnScope N ps (defScope stm)) (hb : ∀ x ∈ bltNames, mg x = none) (hw : wfSs N ⟨[x], [], []⟩ sameB (ptSs sameB (defBody stm)) (defScope stm) = true) (ht : toSs N ⟨[x], [], []⟩ sameB (ptSs sameB (defBody stm)) = defBody stm) : ∀ n, CallsAt P w K mg base n x (sameF n)
  | 0 => by
    obtain ⟨f, fd, F, hm, hB, hbd⟩ := D.ex
    refine ⟨f, fd, ps, ⟨?_, ?_⟩, hm, F.kp, hB⟩
    · rintro vs H Q E ⟨dr, B0, ds, st, d, st', _, _, _, _, _, hF, _⟩
      cases hF
    · rintro A outer s H args us vs Q E _ _ _ _ ⟨dr, B0, ds, st, d, st', _, _, _, _, _, hF, _⟩
      cases hF
  | n + 1 => by
    have ih := same_calls D hN hp S hb hw ht n
    have z := calls_of (k := n) (Γ := ⟨[sameF n], []⟩) D S hb hw ht ⟨ih, trivial⟩ trivial noLib
    rw [hN, hp] at z
    exact z
theorem blt_in {h : Heap} (X : K.In h) (G : h.Ns mainGlobals mg) (z0 : PySem.W.nsIn K mainGlobals "len" = some none) (z1 : PySem.W.nsIn K mainGlobals "tuple" = some none) (z2 : PySem.W.nsIn K mainGlobals "list" = some none) (z3 : PySem.W.nsIn K mainGlobals "sorted" = some none) (z4 : PySem.W.nsIn K mainGlobals "all" = some none) (z5 : PySem.W.nsIn K mainGlobals "any" = some none) (z6 : PySem.W.nsIn K mainGlobals "sum" = some none) (z7 : PySem.W.nsIn K mainGlobals "min" = some none) (z8 : PySem.W.nsIn K mainGlobals "max" = some none) (z9 : PySem.W.nsIn K mainGlobals "abs" = some none) (z10 : PySem.W.nsIn K mainGlobals "int" = some none) (z11 : PySem.W.nsIn K mainGlobals "range" = some none) (z12 : PySem.W.nsIn K mainGlobals "enumerate" = some none) (z13 : PySem.W.nsIn K mainGlobals "zip" = some none) (z14 : PySem.W.nsIn K mainGlobals "isinstance" = some none) (z15 : PySem.W.nsIn K mainGlobals "bool" = some none) (z16 : PySem.W.nsIn K mainGlobals "str" = some none) (z17 : PySem.W.nsIn K mainGlobals "dict" = some none) (z18 : PySem.W.nsIn K mainGlobals "reversed" = some none) (z19 : PySem.W.nsIn K mainGlobals "set" = some none) : ∀ x ∈ bltNames, mg x = none := fun x hx => by
  refine PySem.W.mg_none_of X G ?_
  unfold bltNames at hx
  simp only [List.mem_cons, List.not_mem_nil, or_false] at hx
  rcases hx with rfl | rfl | rfl | rfl | rfl | rfl | rfl | rfl | rfl | rfl | rfl | rfl | rfl | rfl | rfl | rfl | rfl | rfl | rfl | rfl <;> assumption
/-- the law's def -/
theorem law_of {dn : Str} {dst : Stmt} {rest : Sms} {p0 p1 p2 p3 p4 : Pos} (D : DefIn K mg x stm ["script"]) (S : FnScope N ["script"] (defScope stm)) (DD : DefIn K mg dn dst ["script"]) (DS : FnScope drawN ["script"] (defScope dst))
    (dw : drawW (defScope dst) = true) (dt : toSs drawN ⟨[], [], []⟩ drawB (ptSs drawB (defBody dst)) = defBody dst)
    (hb : ∀ x ∈ bltNames, mg x = none) (h0 : visB (defScope stm) "script" = true) (h1 : lcB (defScope stm) (nmOf N 1) = true) (h2 : glB (defScope stm) dn = true) (h3 : nameB dn = true) (n0 : N[0]? = some ("script" : Str)) (n1 : 1 < N.length)
    (hw : wfSs N G rest (ptSs rest (defBody stm).tail) (defScope stm) = true)
    (ht : .Assign [.Name (nmOf N 1) p0] (.Call (.Name dn p1) [.Name "script" p2] [] p3) p4 :: toSs N G rest (ptSs rest (defBody stm).tail) = defBody stm)
    (hk : 1 ≤ k) (hΓ : ∀ base, CallsL P w K mg base k Γ.fs G.fs) (hC : CnsL K mg Γ.cs G.cs) (hL : LibOk G.lib mg)
    (law : ∀ ns : List Int, ns.length ≤ 63 → ∃ st', evSs Γ rest (.no :: .sh drw :: List.replicate (N.length - 2) .no) (st0 ns) = some (.rt (.bool true) st')) :
    ∃ f fd, mg x = some (.ref f) ∧ (∀ (s : Shared) (v : Value), BindsTo s fd ⟨[v], []⟩ [("script", v)]) ∧ ∀ base, FnOk P w K mg base CX0 (k + 1) f fd ["script"] (spLaw K) := by
  obtain ⟨f, fd, F, hm, hB, hbd⟩ := D.ex
  obtain ⟨df, dfd, DF, dm, dB, _⟩ := DD.ex
  refine ⟨f, fd, hm, fun s v => hbd s [v] rfl, fun base => ?_⟩
  exact law_ok F S ((draw_ok (k := 0) DF DS (hb _ (by decide +kernel)) dw dt).mono hk) dm DF.kp dB (hΓ base).at hC.at hL hb h0 h1 h2 h3 n0 n1 hw ht law
theorem room_d {kk : Nat} (h : kk ≤ 100) : callerA.depth + 3 * kk + 5 < recursionLimit := by
  have z : callerA.depth + 3 * 100 + 5 < recursionLimit := by decide
  omega
theorem room_u {kk : Nat} (h : kk ≤ 100) : callerA.units + 16 * kk + 200 < cLine := by
  have z : callerA.units + 16 * 100 + 200 < cLine := by decide
  omega
theorem walk {kk : Nat} {l : PySem.W.OpenLaw} {q : Program} {loose : List Str} {XP : (Str → Option Value) → Heap → Prop} {YP : World → Heap → Prop} {d : DefRec} {K : Params → PySem.W.Frag} (hn : l.most = some 63) (hdf : d.params.defaults = []) (h3 : kk ≤ 100)
    (hY : ∀ (w : World) (h : Heap), YP w h → (K w.params).In h)
    (F : ∀ (w : World) (mg : Str → Option Value) (fa : Addr) (h : Heap), (K w.params).In h → h.Ns mainGlobals mg → mg d.name = some (.ref fa) →
      ∃ fd : FuncData, (∀ (s : Shared) (u : Value), BindsTo s fd ⟨[u], []⟩ [("script", u)]) ∧ ∀ base : Heap, (K w.params).In base → base.Ns mainGlobals mg → FnOk l.prog w (K w.params) mg base CX0 kk fa fd ["script"] (spLaw (K w.params))) :
    PySem.W.WalkO q loose XP YP l.row.toRowW d [] (fun f vs => PySem.call f vs) :=
  L2.walk_of (n := 63) (k := kk) (x := "script") (CX := fun _ => CX0) (sp := fun w => spLaw (K w.params)) hn (by decide) hdf ⟨rfl, room_d h3, room_u h3⟩ hY F (fun _ _ a ns hl _ hS => ⟨a, ns, rfl, hS, hl, fun _ => rfl⟩) fun _ _ _ _ _ z => z
end
end Pf

namespace Pf
open PySem PySem.Spec PyProof.Rows L2
variable [Mode]

@[simp] theorem le_cap {n : Nat} (h : n ≤ 16777216) : (n ≤ cap) = True := eq_true h
@[simp] theorem lt_cap {n : Nat} (h : n < 16777216) : (n < cap) = True := eq_true h
@[simp] theorem rng1 {i : Int} (h0 : -4611686018427387904 < i) (h1 : i < 4611686018427387904) : rngD [.int i] = some ((List.range i.toNat).map fun k : Nat => .int (k : Int)) := by
  rw [rng_one, rngOk_of h0 h1, if_pos rfl]
@[simp] theorem rng2 {i j : Int} (h0 : -4611686018427387904 < i) (h1 : i < 4611686018427387904) (h2 : -4611686018427387904 < j) (h3 : j < 4611686018427387904) : rngD [.int i, .int j] = some ((List.range (j - i).toNat).map fun k : Nat => .int (i + (k : Int))) := by
  rw [rng_two, rngOk_of h0 h1, rngOk_of h2 h3, if_pos (by rfl)]
@[simp] theorem ite_ret {α β : Type} {c : Prop} [Decidable c] {a b : α} {s : β} : (if c then some (a, s) else some (b, s)) = some (if c then a else b, s) := by
  by_cases h : c <;> simp [h]
@[simp] theorem ite_bool {c : Prop} [Decidable c] {a b : Bool} : (if c then PyData.bool a else PyData.bool b) = .bool (if c then a else b) := by
  by_cases h : c <;> simp [h]
@[simp] theorem ite_int {c : Prop} [Decidable c] {a b : Int} : (if c then PyData.int a else PyData.int b) = .int (if c then a else b) := by
  by_cases h : c <;> simp [h]
@[simp] theorem ite_and {c : Prop} [Decidable c] {b : Bool} : (if c then b else decide c) = (decide c && b) := by
  by_cases h : c <;> simp [h]
@[simp] theorem ite_or {c : Prop} [Decidable c] {b : Bool} : (if c then decide c else b) = (decide c || b) := by
  by_cases h : c <;> simp [h]
@[simp] theorem ite_andB {c b : Bool} : (if c = true then b else c) = (c && b) := by
  cases c <;> simp
@[simp] theorem ite_orB {c b : Bool} : (if c = true then c else b) = (c || b) := by
  cases c <;> simp
@[simp] theorem ite_nand {c : Prop} [Decidable c] {b : Bool} : (if c then !decide c else b) = (!decide c && b) := by
  by_cases h : c <;> simp [h]
@[simp] theorem ite_nor {c : Prop} [Decidable c] {b : Bool} : (if c then b else !decide c) = (!decide c || b) := by
  by_cases h : c <;> simp [h]
def nv (m : Int) (s : DS) : Int := match nextF [drw, .int m] s with
  | some (.int r, _) => r
  | _ => 0
def nw (m : Int) (s : DS) : DS := match nextF [drw, .int m] s with
  | some (_, s') => s'
  | _ => s
@[simp] theorem next_eq {m : Int} {s : DS} (h0 : 0 < m) (h1 : m < 1073741824) : nextF [drw, .int m] s = some (.int (nv m s), nw m s) := by
  obtain ⟨r, s', h, _⟩ := next_some s h0 h1
  unfold nv nw
  rw [h]
theorem nv_lt {m : Int} (s : DS) (h0 : 0 < m) (h1 : m < 1073741824) : 0 ≤ nv m s ∧ nv m s < m := by
  obtain ⟨r, s', h, h2, h3⟩ := next_some s h0 h1
  unfold nv
  rw [h]
  exact ⟨h2, h3⟩
def stpE (Γ : Gam) (elt : Ex) (ifs : Exs) (tg : Tg) (ρ : List Slot) (x : D) (s : DS) : Option (Option D × DS) :=
  (bindT tg x ρ).bind fun ρ1 => (evC Γ ifs ρ1 s).bind fun q => if q.1 = true then (evE Γ elt ρ1 q.2).map fun r => (some r.1, r.2) else some (none, q.2)
@[simp] def consO (o : Option D) (l : List D) : List D := match o with
  | some d => d :: l
  | none => l
@[simp ↓] theorem stpE_eq {Γ : Gam} {elt : Ex} {ifs : Exs} {tg : Tg} {ρ : List Slot} {x : D} {s : DS} : stpE Γ elt ifs tg ρ x s = bnd (bindT tg x ρ) (fun ρ1 => bnd (evC Γ ifs ρ1 s) (fun q => if q.1 = true then mpp (evE Γ elt ρ1 q.2) (fun r => (some r.1, r.2)) ⟨⟩ else some (none, q.2)) ⟨⟩) ⟨⟩ := id rfl
def goL {α : Type} (F : α → DS → Option (Option D × DS)) : List α → DS → Option (List D × DS)
  | [], s => some ([], s)
  | x :: xs, s => (F x s).bind fun r => (goL F xs r.2).map fun z => (consO r.1 z.1, z.2)
section
variable {Γ : Gam} {elt : Ex} {ifs : Exs} {tg : Tg} {ρ : List Slot} {s : DS} {α β : Type}
@[simp] theorem lcE_nil : lcE Γ elt ifs tg ρ [] s = some ([], s) := rfl
theorem lcE_cons {x : D} {xs : List D} : lcE Γ elt ifs tg ρ (x :: xs) s = (stpE Γ elt ifs tg ρ x s).bind fun r => (lcE Γ elt ifs tg ρ xs r.2).map fun z => (consO r.1 z.1, z.2) := by
  unfold lcE stpE
  rw [lcRun]
  cases bindT tg x ρ with
  | none => rfl
  | some ρ1 =>
    simp only [Option.bind_some]
    cases evC Γ ifs ρ1 s with
    | none => rfl
    | some q =>
      simp only [Option.bind_some]
      by_cases h : q.1 = true
      · simp only [h, if_true]
        cases evE Γ elt ρ1 q.2 with
        | none => rfl
        | some r => rfl
      · simp only [h]
        simp only [Bool.false_eq_true, if_false, Option.bind_some, consO]
        cases lcRun (fun ρ' s => evE Γ elt ρ' s) (fun ρ' s => evC Γ ifs ρ' s) tg ρ xs q.2 <;> rfl
@[simp ↓] theorem lcE_consS {x : D} {xs : List D} : lcE Γ elt ifs tg ρ (x :: xs) s = bnd (stpE Γ elt ifs tg ρ x s) (fun r => mpp (lcE Γ elt ifs tg ρ xs r.2) (fun z => (consO r.1 z.1, z.2)) ⟨⟩) ⟨⟩ := lcE_cons
@[simp] theorem lcE_mapE {e : α → D} : ∀ {xs : List α} {s : DS}, lcE Γ elt ifs tg ρ (xs.map e) s = goL (fun x s => stpE Γ elt ifs tg ρ (e x) s) xs s
  | [], _ => rfl
  | x :: xs, s => by
    rw [List.map_cons, lcE_cons, goL]
    congr 1
    funext r
    rw [lcE_mapE]
@[simp] theorem lcE_drop {e : α → D} {xs : List α} {n : Nat} {s : DS} : lcE Γ elt ifs tg ρ ((xs.map e).drop n) s = goL (fun x s => stpE Γ elt ifs tg ρ (e x) s) (xs.drop n) s := by rw [← List.map_drop, lcE_mapE]
@[simp] theorem lcE_take {e : α → D} {xs : List α} {n : Nat} {s : DS} : lcE Γ elt ifs tg ρ ((xs.map e).take n) s = goL (fun x s => stpE Γ elt ifs tg ρ (e x) s) (xs.take n) s := by rw [← List.map_take, lcE_mapE]
@[simp] theorem lcE_tail {e : α → D} {xs : List α} {s : DS} : lcE Γ elt ifs tg ρ (xs.map e).tail s = goL (fun x s => stpE Γ elt ifs tg ρ (e x) s) xs.tail s := by rw [← List.map_tail, lcE_mapE]
theorem goL_congr {F G : α → DS → Option (Option D × DS)} : ∀ {xs : List α} {s : DS}, (∀ x, x ∈ xs → ∀ s, F x s = G x s) → goL F xs s = goL G xs s
  | [], _, _ => rfl
  | x :: xs, s, h => by
    rw [goL, goL, h x List.mem_cons_self]
    congr 1
    funext r
    rw [goL_congr fun y hy => h y (List.mem_cons_of_mem _ hy)]
@[simp] theorem goL_map {f : α → D} : ∀ {xs : List α} {s : DS}, goL (fun x s => some (some (f x), s)) xs s = some (xs.map f, s)
  | [], _ => rfl
  | x :: xs, s => by simp [goL, goL_map, consO]
@[simp] theorem goL_filter {f : α → D} {p : α → Prop} [DecidablePred p] : ∀ {xs : List α} {s : DS}, goL (fun x s => some (if p x then some (f x) else none, s)) xs s = some ((xs.filter fun x => decide (p x)).map f, s)
  | [], _ => rfl
  | x :: xs, s => by
    by_cases h : p x <;> simp [goL, goL_filter, h, consO]
/-- a comprehension that draws: what it gives, and where the draw then stands -/
def drawV (f : α → DS → D) (g : α → DS → DS) : List α → DS → List D
  | [], _ => []
  | x :: xs, s => f x s :: drawV f g xs (g x s)
def drawS (g : α → DS → DS) : List α → DS → DS
  | [], s => s
  | x :: xs, s => drawS g xs (g x s)
@[simp] theorem goL_go {f : α → DS → D} {g : α → DS → DS} : ∀ {xs : List α} {s : DS}, goL (fun x s => some (some (f x s), g x s)) xs s = some (drawV f g xs s, drawS g xs s)
  | [], _ => rfl
  | x :: xs, s => by simp [goL, goL_go, drawV, drawS]
theorem drawV_ex {f : α → DS → D} {g : α → DS → DS} {e : β → D} {P : α → β → Prop} : ∀ {xs : List α} {s : DS} {V : List D}, drawV f g xs s = V → (∀ x ∈ xs, ∀ s, ∃ b, f x s = e b ∧ P x b) → ∃ bs : List β, V = bs.map e ∧ bs.length = xs.length ∧ ∀ b ∈ bs, ∃ x ∈ xs, P x b
  | [], _, _, h, _ => ⟨[], h.symm, rfl, fun _ q => by cases q⟩
  | x :: xs, s, V, h, hP => by
    obtain ⟨b, h1, h2⟩ := hP x List.mem_cons_self s
    obtain ⟨bs, h3, h4, h5⟩ := drawV_ex (xs := xs) (s := g x s) rfl fun y hy => hP y (List.mem_cons_of_mem _ hy)
    refine ⟨b :: bs, ?_, by simp [h4], fun c hc => ?_⟩
    · rw [← h, drawV, h3, h1]
      rfl
    · rcases List.mem_cons.mp hc with rfl | hc
      · exact ⟨x, List.mem_cons_self, h2⟩
      · obtain ⟨y, hy, q⟩ := h5 c hc
        exact ⟨y, List.mem_cons_of_mem _ hy, q⟩
/-- a comprehension that draws -/
theorem goL_draw {F : α → DS → Option (Option D × DS)} {e : β → D} {P : α → β → Prop} : ∀ {xs : List α} (s : DS), (∀ x ∈ xs, ∀ s, ∃ b s', F x s = some (some (e b), s') ∧ P x b) → ∃ (bs : List β) (s' : DS), goL F xs s = some (bs.map e, s') ∧ bs.length = xs.length ∧ ∀ b ∈ bs, ∃ x ∈ xs, P x b
  | [], s, _ => ⟨[], s, rfl, rfl, fun _ h => by cases h⟩
  | x :: xs, s, h => by
    obtain ⟨b, s1, h1, h2⟩ := h x List.mem_cons_self s
    obtain ⟨bs, s2, h3, h4, h5⟩ := goL_draw (xs := xs) s1 fun y hy => h y (List.mem_cons_of_mem _ hy)
    refine ⟨b :: bs, s2, by simp [goL, h1, h3, consO], by simp [h4], fun c hc => ?_⟩
    rcases List.mem_cons.mp hc with rfl | hc
    · exact ⟨x, List.mem_cons_self, h2⟩
    · obtain ⟨y, hy, q⟩ := h5 c hc
      exact ⟨y, List.mem_cons_of_mem _ hy, q⟩
end
end Pf
namespace Pf
open PySem PySem.Spec PyProof.Rows L2
variable [Mode]
section
variable {α β : Type}
@[simp] theorem intsD_of {f : α → Int} : ∀ {xs : List α}, intsD (xs.map fun x => .int (f x)) = some (xs.map f)
  | [] => rfl
  | x :: l => by
    show (intsD (l.map fun x => .int (f x))).map (f x :: ·) = _
    rw [intsD_of]
    rfl
@[simp] theorem intsD_id : ∀ {xs : List Int}, intsD (xs.map PyData.int) = some xs
  | [] => rfl
  | x :: l => by
    show (intsD (l.map PyData.int)).map (x :: ·) = _
    rw [intsD_id]
    rfl
@[simp] theorem intsD_drop {f : α → Int} {xs : List α} {n : Nat} : intsD ((xs.map fun x => .int (f x)).drop n) = some ((xs.drop n).map f) := by rw [← List.map_drop, intsD_of]
@[simp] theorem intsD_take {f : α → Int} {xs : List α} {n : Nat} : intsD ((xs.map fun x => .int (f x)).take n) = some ((xs.take n).map f) := by rw [← List.map_take, intsD_of]
@[simp] theorem intsD_dropI {xs : List Int} {n : Nat} : intsD ((xs.map PyData.int).drop n) = some (xs.drop n) := by rw [← List.map_drop, intsD_id]
@[simp] theorem intsD_takeI {xs : List Int} {n : Nat} : intsD ((xs.map PyData.int).take n) = some (xs.take n) := by rw [← List.map_take, intsD_id]
@[simp] theorem zipD_map {e : α → D} {f : β → D} : ∀ {xs : List α} {ys : List β}, zipD (xs.map e) (ys.map f) = (xs.zip ys).map fun p => .tuple [e p.1, f p.2]
  | [], _ => by simp
  | _ :: _, [] => by simp
  | x :: xs, y :: ys => by simp [zipD_map]
@[simp] theorem zipD_mapD {e : α → D} {f : β → D} {xs : List α} {ys : List β} {n : Nat} : zipD (xs.map e) ((ys.map f).drop n) = (xs.zip (ys.drop n)).map fun p => .tuple [e p.1, f p.2] := by rw [← List.map_drop, zipD_map]
@[simp] theorem zipD_mapT {e : α → D} {f : β → D} {xs : List α} {ys : List β} : zipD (xs.map e) (ys.map f).tail = (xs.zip ys.tail).map fun p => .tuple [e p.1, f p.2] := by rw [← List.map_tail, zipD_map]
@[simp] theorem zipS_LL {xs ys : List D} : zipS (.list xs) (.list ys) = some (zipD xs ys) := id rfl
@[simp] theorem zipS_TT {xs ys : List D} : zipS (.tuple xs) (.tuple ys) = some (zipD xs ys) := id rfl
@[simp] theorem intsD_tail {f : α → Int} {xs : List α} : intsD (xs.map fun x => .int (f x)).tail = some (xs.tail.map f) := by rw [← List.map_tail, intsD_of]
@[simp] theorem intsD_tailI {xs : List Int} : intsD (xs.map PyData.int).tail = some xs.tail := by rw [← List.map_tail, intsD_id]
theorem enumD_map {e : α → D} : ∀ {xs : List α} {n : Nat}, enumD n (xs.map e) = (xs.zipIdx n).map fun p => .tuple [.int (p.2 : Nat), e p.1]
  | [], _ => by simp
  | x :: xs, n => by simp [enumD_map]
@[simp] theorem enumD_mapS {e : α → D} {xs : List α} : enumD 0 (xs.map e) = (xs.zipIdx).map fun p => .tuple [.int (p.2 : Nat), e p.1] := enumD_map
@[simp] theorem boolsD_of {f : α → Bool} : ∀ {xs : List α}, boolsD (xs.map fun x => .bool (f x)) = some (xs.map f)
  | [] => rfl
  | x :: l => by
    show (boolsD (l.map fun x => .bool (f x))).map (f x :: ·) = _
    rw [boolsD_of]
    rfl
end
end Pf

namespace Pf
open PySem PySem.Spec PyProof.Rows L2
variable [Mode]
section
variable {Γ : Gam} {body : Sms} {tg : Tg} {ρ : List Slot} {s : DS} {α β : Type}
theorem forE_nil : forE Γ body tg [] ρ s = some (.nx ρ s) := rfl
theorem forE_cons {x : D} {xs : List D} : forE Γ body tg (x :: xs) ρ s = (bindT tg x ρ).bind fun ρ1 => (evSs Γ body ρ1 s).bind fun o => match o with
    | .nx ρ' s' => forE Γ body tg xs ρ' s'
    | .ct ρ' s' => forE Γ body tg xs ρ' s'
    | .bk ρ' s' => some (.nx ρ' s')
    | .rt d s' => some (.rt d s') := rfl
theorem for_step {x : D} {xs : List D} {ρ1 ρ2 : List Slot} {s2 : DS} (h1 : bindT tg x ρ = some ρ1) (h2 : evSs Γ body ρ1 s = some (.nx ρ2 s2)) : forE Γ body tg (x :: xs) ρ s = forE Γ body tg xs ρ2 s2 := by
  rw [forE_cons, h1, Option.bind_some, h2]
  rfl
/-- a loop that looks for something to return; only its own name changes -/
theorem for_find {e : α → D} {p : α → Bool} {g : α → D} {S : Slot → List Slot} : ∀ {xs : List α} {k : Slot},
    (∀ x ∈ xs, ∀ k, ∃ ρ1, bindT tg (e x) (S k) = some ρ1 ∧ evSs Γ body ρ1 s = if p x = true then some (.rt (g x) s) else some (.nx (S (.sh (e x))) s)) →
    ∃ k', forE Γ body tg (xs.map e) (S k) s = match xs.find? p with
      | some x => some (.rt (g x) s)
      | none => some (.nx (S k') s)
  | [], k, _ => ⟨k, rfl⟩
  | x :: xs, k, h => by
    obtain ⟨ρ1, h1, h2⟩ := h x List.mem_cons_self k
    obtain ⟨k', ih⟩ := for_find (xs := xs) (k := .sh (e x)) fun y hy => h y (List.mem_cons_of_mem _ hy)
    refine ⟨k', ?_⟩
    rw [List.map_cons, forE_cons, h1, Option.bind_some, h2, List.find?_cons]
    cases hp : p x with
    | true => rfl
    | false => simpa using ih
/-- a loop to its end: what counts of the state goes by f; J is what does not count; I of the state and what is left -/
theorem for_go {e : α → D} {σ J : Type} (S : σ → J → List Slot) (f : σ → α → σ) (I : σ → List α → Prop) (h : ∀ a x r j, I a (x :: r) → (∃ ρ1 j', bindT tg (e x) (S a j) = some ρ1 ∧ evSs Γ body ρ1 s = some (.nx (S (f a x) j') s)) ∧ I (f a x) r) :
    ∀ (xs : List α) (a : σ) (j : J), I a xs → ∃ j', forE Γ body tg (xs.map e) (S a j) s = some (.nx (S (xs.foldl f a) j') s) ∧ I (xs.foldl f a) []
  | [], a, j, hI => ⟨j, rfl, hI⟩
  | x :: xs, a, j, hI => by
    obtain ⟨⟨ρ1, j1, h1, h2⟩, h3⟩ := h a x xs j hI
    obtain ⟨j2, h4, h5⟩ := for_go S f I h xs (f a x) j1 h3
    exact ⟨j2, (for_step h1 h2).trans h4, h5⟩
/-- the same, where each turn is as it is without more -/
theorem for_fold {e : α → D} {σ J : Type} (S : σ → J → List Slot) (f : σ → α → σ) (xs : List α) (h : ∀ a x j, x ∈ xs → ∃ ρ1 j', bindT tg (e x) (S a j) = some ρ1 ∧ evSs Γ body ρ1 s = some (.nx (S (f a x) j') s)) (a : σ) (j : J) :
    ∃ j', forE Γ body tg (xs.map e) (S a j) s = some (.nx (S (xs.foldl f a) j') s) := by
  obtain ⟨j', h1, _⟩ := for_go (s := s) (Γ := Γ) (body := body) (tg := tg) (e := e) S f (fun _ r => ∀ y ∈ r, y ∈ xs) (fun a x r j hI => ⟨h a x j (hI x List.mem_cons_self), fun y hy => hI y (List.mem_cons_of_mem _ hy)⟩) xs a j fun _ hy => hy
  exact ⟨j', h1⟩
/-- a loop to its end, turn by turn; I of the state and what is left -/
theorem for_steps {e : α → D} {σ : Type} (S : σ → List Slot) (f : σ → α → σ) (I : σ → List α → Prop) : ∀ {xs : List α} {a : σ}, I a xs →
    (∀ a x r, I a (x :: r) → (∃ ρ1, bindT tg (e x) (S a) = some ρ1 ∧ evSs Γ body ρ1 s = some (.nx (S (f a x)) s)) ∧ I (f a x) r) →
    forE Γ body tg (xs.map e) (S a) s = some (.nx (S (xs.foldl f a)) s) ∧ I (xs.foldl f a) []
  | [], a, h, _ => ⟨rfl, h⟩
  | x :: xs, a, h, hs => by
    obtain ⟨⟨ρ1, h1, h2⟩, h3⟩ := hs a x xs h
    obtain ⟨h4, h5⟩ := for_steps S f I h3 hs
    refine ⟨?_, h5⟩
    rw [List.map_cons, forE_cons, h1, Option.bind_some, h2]
    exact h4
end
end Pf

namespace Pf
open PySem PySem.Spec PyProof.Rows L2
variable [Mode]

/-- data of one shape, that can be ordered and compared -/
structure OrdN (n : Nat) {α : Type} (e : α → D) : Prop where
  al : ∀ a b, PySem.W.alike (e a) (e b) = true
  ok : ∀ a, okN n (e a) = true
  inj : ∀ a b, PyData.eqv (e a) (e b) = true → a = b
  sh : (∀ a, ∃ x xs, e a = .tuple (x :: xs)) ∨ (∀ a, match e a with | .tuple _ => False | .none => False | _ => True)
abbrev OrdE {α : Type} (e : α → D) : Prop := OrdN 20 e
/-- a < b, a ≤ b as Python says -/
def ltB {α : Type} (e : α → D) (a b : α) : Bool := PySem.W.dataLt (e a) (e b)
def leB {α : Type} (e : α → D) (a b : α) : Bool := !PySem.W.dataLt (e b) (e a)
mutual
theorem okN_mono : ∀ (n m : Nat) (d : D), n ≤ m → okN n d = true → okN m d = true
  | _, _, .none, _, _ => by simp [okN]
  | _, _, .bool _, _, _ => by simp [okN]
  | _, _, .int _, _, _ => by simp [okN]
  | _, _, .str _, _, _ => by simp [okN]
  | 0, _, .list _, _, h => by simp [okN] at h
  | 0, _, .tuple _, _, h => by simp [okN] at h
  | n + 1, 0, .list _, h, _ => by omega
  | n + 1, 0, .tuple _, h, _ => by omega
  | n + 1, m + 1, .list xs, h, q => by
    simp only [okN] at q ⊢
    exact okN_monoL n m xs (by omega) q
  | n + 1, m + 1, .tuple xs, h, q => by
    simp only [okN] at q ⊢
    exact okN_monoL n m xs (by omega) q
  | n, _, .dict _, _, h => by cases n <;> simp [okN] at h
theorem okN_monoL : ∀ (n m : Nat) (ds : List D), n ≤ m → ds.all (okN n) = true → ds.all (okN m) = true
  | _, _, [], _, _ => rfl
  | n, m, d :: ds, h, q => by
    simp only [List.all_cons, Bool.and_eq_true] at q ⊢
    exact ⟨okN_mono n m d h q.1, okN_monoL n m ds h q.2⟩
end
mutual
theorem eqv_refl : ∀ (n : Nat) (d : D), okN n d = true → PyData.eqv d d = true
  | _, .none, _ => rfl
  | _, .bool b, _ => by simp [PyData.eqv]
  | _, .int _, _ => by simp [PyData.eqv]
  | _, .str _, _ => by simp [PyData.eqv]
  | 0, .list _, h => by simp [okN] at h
  | 0, .tuple _, h => by simp [okN] at h
  | n + 1, .list xs, h => by
    simp only [okN] at h
    simp only [PyData.eqv]
    exact eqv_reflL n xs h
  | n + 1, .tuple xs, h => by
    simp only [okN] at h
    simp only [PyData.eqv]
    exact eqv_reflL n xs h
  | n, .dict _, h => by cases n <;> simp [okN] at h
theorem eqv_reflL : ∀ (n : Nat) (ds : List D), ds.all (okN n) = true → PyData.eqvAll ds ds = true
  | _, [], _ => rfl
  | n, d :: ds, h => by
    simp only [List.all_cons, Bool.and_eq_true] at h
    simp only [PyData.eqvAll, Bool.and_eq_true]
    exact ⟨eqv_refl n d h.1, eqv_reflL n ds h.2⟩
end
section
variable {α β : Type} {e : α → D} {f : β → D} {xs : List α}
theorem OrdN.deep (h : OrdE e) (a : α) : okN deep (e a) = true := okN_mono 20 40 _ (by decide) (h.ok a)
theorem OrdN.eqv (h : OrdE e) [DecidableEq α] (a b : α) : PyData.eqv (e a) (e b) = decide (a = b) := by
  by_cases q : a = b
  · subst q
    rw [eqv_refl 20 _ (h.ok a)]
    simp
  · cases z : PyData.eqv (e a) (e b) with
    | true => exact absurd (h.inj a b z) q
    | false => simp [q]
theorem OrdN.eq (h : OrdE e) [DecidableEq α] (a b : α) : cmpD .Eq (e a) (e b) = some (decide (a = b)) := by rw [cmp_eq (h.deep a) (h.deep b), h.eqv]
theorem OrdN.ne (h : OrdE e) [DecidableEq α] (a b : α) : cmpD .NotEq (e a) (e b) = some (!decide (a = b)) := by rw [cmp_ne (h.deep a) (h.deep b), h.eqv]
theorem OrdN.int {n : Nat} : OrdN n PyData.int := ⟨fun _ _ => rfl, fun _ => by cases n <;> rfl, fun a b h => by simpa [PyData.eqv] using h, .inr fun _ => trivial⟩
theorem OrdN.str {n : Nat} : OrdN n PyData.str := ⟨fun _ _ => rfl, fun _ => by cases n <;> rfl, fun a b h => by simpa [PyData.eqv] using h, .inr fun _ => trivial⟩
theorem leB_le : PySem.W.dataLe false e = leB e := rfl
theorem leB_total (e : α → D) : PySem.W.TotalLe (leB e) := PySem.W.sortLe_total (PyProof.Rows.listOrd PyProof.Rows.itemOrd) false fun b => PySem.W.keyToks (e b)
theorem leB_sorted (e : α → D) (xs : List α) : (xs.mergeSort (leB e)).Pairwise fun a b => leB e a b = true := PySem.W.sort_pairwise (leB_total e) xs
theorem sortD_map : sortD (xs.map e) = (xs.mergeSort (leB e)).map e := (PySem.W.sort_maps e fun _ _ _ _ => rfl).symm
theorem srt_id (h : xs.Pairwise fun a b => leB e a b = true) : xs.mergeSort (leB e) = xs := List.mergeSort_of_pairwise h
theorem OrdN.alikeL (h : OrdE e) (xs : List α) : Pf.alikeL (xs.map e) = true := by
  unfold Pf.alikeL
  simp only [List.all_eq_true]
  rintro x hx y hy
  obtain ⟨a, _, rfl⟩ := List.mem_map.mp hx
  obtain ⟨b, _, rfl⟩ := List.mem_map.mp hy
  exact h.al a b
theorem OrdN.sortable (h : OrdE e) (xs : List α) : Pf.sortable (xs.map e) = true := by
  unfold Pf.sortable
  rw [Bool.or_eq_true]
  rcases h.sh with q | q
  · left
    simp only [List.all_eq_true]
    rintro x hx
    obtain ⟨a, _, rfl⟩ := List.mem_map.mp hx
    obtain ⟨y, ys, e⟩ := q a
    rw [e]
  · right
    simp only [List.all_eq_true]
    rintro x hx
    obtain ⟨a, _, rfl⟩ := List.mem_map.mp hx
    have := q a
    revert this
    cases e a <;> simp
theorem OrdN.okAll (h : OrdE e) (xs : List α) : (xs.map e).all (okN Pf.deep) = true := by
  simp only [List.all_eq_true]
  rintro x hx
  obtain ⟨a, _, rfl⟩ := List.mem_map.mp hx
  exact h.deep a
theorem OrdN.sortedL (h : OrdE e) : biD .sorted [.list (xs.map e)] = some (.list ((xs.mergeSort (leB e)).map e)) := by
  show (if (Pf.alikeL (xs.map e) && Pf.sortable (xs.map e) && (xs.map e).all (okN Pf.deep)) = true then some (PyData.list (sortD (xs.map e))) else none) = _
  rw [h.alikeL, h.sortable, h.okAll, if_pos (show (true && true && true) = true from rfl), sortD_map]
theorem OrdN.sortedT (h : OrdE e) : biD .sorted [.tuple (xs.map e)] = some (.list ((xs.mergeSort (leB e)).map e)) := by
  show (if (Pf.alikeL (xs.map e) && Pf.sortable (xs.map e) && (xs.map e).all (okN Pf.deep)) = true then some (PyData.list (sortD (xs.map e))) else none) = _
  rw [h.alikeL, h.sortable, h.okAll, if_pos (show (true && true && true) = true from rfl), sortD_map]
def geB {α : Type} (e : α → D) (a b : α) : Bool := leB e b a
theorem srevD_map : (xs.map e).mergeSort (PySem.W.dataLe true id) = (xs.mergeSort (geB e)).map e := (PySem.W.sort_maps e fun _ _ _ _ => rfl).symm
theorem OrdN.srevL (h : OrdE e) : srevD (.list (xs.map e)) = some (.list ((xs.mergeSort (geB e)).map e)) := by
  show (if (Pf.alikeL (xs.map e) && Pf.sortable (xs.map e) && (xs.map e).all (okN Pf.deep)) = true then some (PyData.list ((xs.map e).mergeSort (PySem.W.dataLe true id))) else none) = _
  rw [h.alikeL, h.sortable, h.okAll, if_pos (show (true && true && true) = true from rfl), srevD_map]
theorem OrdN.srevT (h : OrdE e) : srevD (.tuple (xs.map e)) = some (.list ((xs.mergeSort (geB e)).map e)) := by
  show (if (Pf.alikeL (xs.map e) && Pf.sortable (xs.map e) && (xs.map e).all (okN Pf.deep)) = true then some (PyData.list ((xs.map e).mergeSort (PySem.W.dataLe true id))) else none) = _
  rw [h.alikeL, h.sortable, h.okAll, if_pos (show (true && true && true) = true from rfl), srevD_map]
theorem keyToks_inj (h : OrdE e) {a b : α} (h1 : leB e a b = true) (h2 : leB e b a = true) : a = b := by
  have t := PySem.W.toks_eqv (e a) (e b) (h.al a b)
  cases z : PyData.eqv (e a) (e b) with
  | true => exact h.inj a b z
  | false =>
    exfalso
    have h1' : PySem.W.dataLt (e b) (e a) = false := by simpa [leB] using h1
    have h2' : PySem.W.dataLt (e a) (e b) = false := by simpa [leB] using h2
    have tt := PyProof.Rows.lex_total _ _ h2' h1'
    have k := t.2 z [.inl 0] [.inl 1]
    rw [tt] at k
    rw [PySem.W.lex_pre] at k
    rw [PyProof.Rows.lex_irrefl] at k
    revert k
    decide
/-- the one list in order -/
theorem srt_unique (h : OrdE e) {xs ys : List α} (p : xs.Perm ys) (hx : xs.Pairwise fun a b => leB e a b = true) (hy : ys.Pairwise fun a b => leB e a b = true) : xs = ys :=
  p.eq_of_pairwise (fun a b _ _ h1 h2 => keyToks_inj h h1 h2) hx hy
theorem srt_eq (h : OrdE e) {xs ys : List α} (p : xs.Perm ys) (hy : ys.Pairwise fun a b => leB e a b = true) : xs.mergeSort (leB e) = ys :=
  srt_unique h ((List.mergeSort_perm _ _).trans p) (leB_sorted e xs) hy
theorem srev_eq (h : OrdE e) {xs ys : List α} (p : xs.Perm ys) (hy : ys.Pairwise fun a b => leB e b a = true) : xs.mergeSort (geB e) = ys := by
  have t : PySem.W.TotalLe (geB e) := ⟨fun a b c h1 h2 => (leB_total e).trans c b a h2 h1, fun a b => (leB_total e).total b a⟩
  exact ((List.mergeSort_perm xs (geB e)).trans p).eq_of_pairwise (fun a b _ _ h1 h2 => keyToks_inj h h2 h1) (PySem.W.sort_pairwise t xs) hy
theorem ltD_of {x y : D} (h1 : PySem.W.alike x y = true) (h2 : okN Pf.deep x = true) (h3 : okN Pf.deep y = true) (h4 : ordered x = true) : ltD x y = some (PySem.W.dataLt x y) := by
  unfold ltD
  split
  · rw [PySem.W.dataLt_int]
  · unfold ltG
    rw [h1, h2, h3, h4]
    rfl
theorem OrdN.lt (h : OrdE e) (hb : ∀ a, ordered (e a) = true) (a b : α) : cmpD .Lt (e a) (e b) = some (ltB e a b) := ltD_of (h.al a b) (h.deep a) (h.deep b) (hb a)
theorem OrdN.gt (h : OrdE e) (hb : ∀ a, ordered (e a) = true) (a b : α) : cmpD .Gt (e a) (e b) = some (ltB e b a) := ltD_of (h.al b a) (h.deep b) (h.deep a) (hb b)
theorem OrdN.le (h : OrdE e) (hb : ∀ a, ordered (e a) = true) (a b : α) : cmpD .LtE (e a) (e b) = some (leB e a b) := by
  show (ltD (e b) (e a)).map (!·) = _
  rw [ltD_of (h.al b a) (h.deep b) (h.deep a) (hb b)]
  rfl
theorem OrdN.ge (h : OrdE e) (hb : ∀ a, ordered (e a) = true) (a b : α) : cmpD .GtE (e a) (e b) = some (leB e b a) := by
  show (ltD (e a) (e b)).map (!·) = _
  rw [ltD_of (h.al a b) (h.deep a) (h.deep b) (hb a)]
  rfl
def leastB (lt : α → α → Bool) : α → List α → α
  | m, [] => m
  | m, x :: xs => leastB lt (if lt x m then x else m) xs
def mostB (lt : α → α → Bool) : α → List α → α
  | m, [] => m
  | m, x :: xs => mostB lt (if lt m x then x else m) xs
theorem leastD_map (e : α → D) : ∀ (xs : List α) (m : α), leastD (e m) (xs.map e) = e (leastB (ltB e) m xs)
  | [], _ => rfl
  | x :: xs, m => by
    show leastD (if PySem.W.dataLt (e x) (e m) then e x else e m) (xs.map e) = e (leastB (ltB e) (if ltB e x m then x else m) xs)
    rw [← leastD_map e xs]
    congr 1
    show (if ltB e x m = true then e x else e m) = _
    by_cases h : ltB e x m = true <;> simp [h]
theorem mostD_map (e : α → D) : ∀ (xs : List α) (m : α), mostD (e m) (xs.map e) = e (mostB (ltB e) m xs)
  | [], _ => rfl
  | x :: xs, m => by
    show mostD (if PySem.W.dataLt (e m) (e x) then e x else e m) (xs.map e) = e (mostB (ltB e) (if ltB e m x then x else m) xs)
    rw [← mostD_map e xs]
    congr 1
    show (if ltB e m x = true then e x else e m) = _
    by_cases h : ltB e m x = true <;> simp [h]
theorem OrdN.orderable (h : OrdE e) (hb : ∀ a, orderedT (e a) = true) (xs : List α) : Pf.orderable (xs.map e) = true := by
  unfold Pf.orderable
  rw [h.alikeL, h.okAll]
  simp only [Bool.and_self, Bool.true_and, List.all_eq_true]
  rintro x hx
  obtain ⟨a, _, rfl⟩ := List.mem_map.mp hx
  exact hb a
theorem OrdN.min (h : OrdE e) (hb : ∀ a, orderedT (e a) = true) {m : α} : biD .min [.list (e m :: xs.map e)] = some (e (leastB (ltB e) m xs)) := by
  have o := h.orderable hb (m :: xs)
  rw [List.map_cons] at o
  show (if Pf.orderable (e m :: xs.map e) = true then some (leastD (e m) (xs.map e)) else none) = _
  rw [if_pos o, leastD_map]
theorem OrdN.max (h : OrdE e) (hb : ∀ a, orderedT (e a) = true) {m : α} : biD .max [.list (e m :: xs.map e)] = some (e (mostB (ltB e) m xs)) := by
  have o := h.orderable hb (m :: xs)
  rw [List.map_cons] at o
  show (if Pf.orderable (e m :: xs.map e) = true then some (mostD (e m) (xs.map e)) else none) = _
  rw [if_pos o, mostD_map]
end
@[simp] theorem at0 {α : Type} {x0 : α} {r : List α} : atI (x0 :: r) 0 = some x0 := atI_nat (xs := x0 :: r) (n := 0) (by simp)
@[simp] theorem at1 {α : Type} {x0 x1 : α} {r : List α} : atI (x0 :: x1 :: r) 1 = some x1 := atI_nat (xs := x0 :: x1 :: r) (n := 1) (by simp)
@[simp] theorem at2 {α : Type} {x0 x1 x2 : α} {r : List α} : atI (x0 :: x1 :: x2 :: r) 2 = some x2 := atI_nat (xs := x0 :: x1 :: x2 :: r) (n := 2) (by simp)
@[simp] theorem at3 {α : Type} {x0 x1 x2 x3 : α} {r : List α} : atI (x0 :: x1 :: x2 :: x3 :: r) 3 = some x3 := atI_nat (xs := x0 :: x1 :: x2 :: x3 :: r) (n := 3) (by simp)
@[simp] theorem at4 {α : Type} {x0 x1 x2 x3 x4 : α} {r : List α} : atI (x0 :: x1 :: x2 :: x3 :: x4 :: r) 4 = some x4 := atI_nat (xs := x0 :: x1 :: x2 :: x3 :: x4 :: r) (n := 4) (by simp)
@[simp] theorem at5 {α : Type} {x0 x1 x2 x3 x4 x5 : α} {r : List α} : atI (x0 :: x1 :: x2 :: x3 :: x4 :: x5 :: r) 5 = some x5 := atI_nat (xs := x0 :: x1 :: x2 :: x3 :: x4 :: x5 :: r) (n := 5) (by simp)
@[simp] theorem at6 {α : Type} {x0 x1 x2 x3 x4 x5 x6 : α} {r : List α} : atI (x0 :: x1 :: x2 :: x3 :: x4 :: x5 :: x6 :: r) 6 = some x6 := atI_nat (xs := x0 :: x1 :: x2 :: x3 :: x4 :: x5 :: x6 :: r) (n := 6) (by simp)
@[simp] theorem at7 {α : Type} {x0 x1 x2 x3 x4 x5 x6 x7 : α} {r : List α} : atI (x0 :: x1 :: x2 :: x3 :: x4 :: x5 :: x6 :: x7 :: r) 7 = some x7 := atI_nat (xs := x0 :: x1 :: x2 :: x3 :: x4 :: x5 :: x6 :: x7 :: r) (n := 7) (by simp)
@[simp] theorem at8 {α : Type} {x0 x1 x2 x3 x4 x5 x6 x7 x8 : α} {r : List α} : atI (x0 :: x1 :: x2 :: x3 :: x4 :: x5 :: x6 :: x7 :: x8 :: r) 8 = some x8 := atI_nat (xs := x0 :: x1 :: x2 :: x3 :: x4 :: x5 :: x6 :: x7 :: x8 :: r) (n := 8) (by simp)
@[simp] theorem at9 {α : Type} {x0 x1 x2 x3 x4 x5 x6 x7 x8 x9 : α} {r : List α} : atI (x0 :: x1 :: x2 :: x3 :: x4 :: x5 :: x6 :: x7 :: x8 :: x9 :: r) 9 = some x9 := atI_nat (xs := x0 :: x1 :: x2 :: x3 :: x4 :: x5 :: x6 :: x7 :: x8 :: x9 :: r) (n := 9) (by simp)
@[simp] theorem at10 {α : Type} {x0 x1 x2 x3 x4 x5 x6 x7 x8 x9 x10 : α} {r : List α} : atI (x0 :: x1 :: x2 :: x3 :: x4 :: x5 :: x6 :: x7 :: x8 :: x9 :: x10 :: r) 10 = some x10 := atI_nat (xs := x0 :: x1 :: x2 :: x3 :: x4 :: x5 :: x6 :: x7 :: x8 :: x9 :: x10 :: r) (n := 10) (by simp)
@[simp] theorem at11 {α : Type} {x0 x1 x2 x3 x4 x5 x6 x7 x8 x9 x10 x11 : α} {r : List α} : atI (x0 :: x1 :: x2 :: x3 :: x4 :: x5 :: x6 :: x7 :: x8 :: x9 :: x10 :: x11 :: r) 11 = some x11 := atI_nat (xs := x0 :: x1 :: x2 :: x3 :: x4 :: x5 :: x6 :: x7 :: x8 :: x9 :: x10 :: x11 :: r) (n := 11) (by simp)
@[simp] theorem at12 {α : Type} {x0 x1 x2 x3 x4 x5 x6 x7 x8 x9 x10 x11 x12 : α} {r : List α} : atI (x0 :: x1 :: x2 :: x3 :: x4 :: x5 :: x6 :: x7 :: x8 :: x9 :: x10 :: x11 :: x12 :: r) 12 = some x12 := atI_nat (xs := x0 :: x1 :: x2 :: x3 :: x4 :: x5 :: x6 :: x7 :: x8 :: x9 :: x10 :: x11 :: x12 :: r) (n := 12) (by simp)
@[simp] theorem at13 {α : Type} {x0 x1 x2 x3 x4 x5 x6 x7 x8 x9 x10 x11 x12 x13 : α} {r : List α} : atI (x0 :: x1 :: x2 :: x3 :: x4 :: x5 :: x6 :: x7 :: x8 :: x9 :: x10 :: x11 :: x12 :: x13 :: r) 13 = some x13 := atI_nat (xs := x0 :: x1 :: x2 :: x3 :: x4 :: x5 :: x6 :: x7 :: x8 :: x9 :: x10 :: x11 :: x12 :: x13 :: r) (n := 13) (by simp)
@[simp] theorem at14 {α : Type} {x0 x1 x2 x3 x4 x5 x6 x7 x8 x9 x10 x11 x12 x13 x14 : α} {r : List α} : atI (x0 :: x1 :: x2 :: x3 :: x4 :: x5 :: x6 :: x7 :: x8 :: x9 :: x10 :: x11 :: x12 :: x13 :: x14 :: r) 14 = some x14 := atI_nat (xs := x0 :: x1 :: x2 :: x3 :: x4 :: x5 :: x6 :: x7 :: x8 :: x9 :: x10 :: x11 :: x12 :: x13 :: x14 :: r) (n := 14) (by simp)
@[simp] theorem at15 {α : Type} {x0 x1 x2 x3 x4 x5 x6 x7 x8 x9 x10 x11 x12 x13 x14 x15 : α} {r : List α} : atI (x0 :: x1 :: x2 :: x3 :: x4 :: x5 :: x6 :: x7 :: x8 :: x9 :: x10 :: x11 :: x12 :: x13 :: x14 :: x15 :: r) 15 = some x15 := atI_nat (xs := x0 :: x1 :: x2 :: x3 :: x4 :: x5 :: x6 :: x7 :: x8 :: x9 :: x10 :: x11 :: x12 :: x13 :: x14 :: x15 :: r) (n := 15) (by simp)
@[simp] theorem at_last {α : Type} {xs : List α} {x : α} : atI (xs ++ [x]) (-1) = some x := by
  unfold atI ixN
  rw [if_neg (by omega), if_pos (by simp; omega)]
  show (xs ++ [x])[(-1 + ((xs ++ [x]).length : Int)).toNat]? = _
  rw [List.length_append, List.length_singleton, show (-1 + ((xs.length + 1 : Nat) : Int)).toNat = xs.length by omega]
  simp
theorem at_neg {α : Type} {xs : List α} (n : Nat) (h : n < xs.length) : atI xs (-(n : Int) - 1) = xs[xs.length - n - 1]? := by
  unfold atI ixN
  rw [if_neg (by omega), if_pos (by omega)]
  show xs[(-(n : Int) - 1 + (xs.length : Int)).toNat]? = _
  congr 1
  omega
@[simp] theorem at_map {α β : Type} {f : α → β} {xs : List α} {i : Int} : atI (xs.map f) i = (atI xs i).map f := by
  unfold atI
  rw [List.length_map]
  cases ixN xs.length i with
  | none => rfl
  | some j => simp
theorem at_get {α : Type} {xs : List α} {i : Int} (h0 : 0 ≤ i) (h1 : i < xs.length) : atI xs i = some (xs[i.toNat]'(by omega)) := by
  obtain ⟨n, rfl⟩ : ∃ n : Nat, i = n := ⟨i.toNat, by omega⟩
  exact atI_nat (by omega)
theorem cut_take {xs : List D} {n : Nat} : cutD xs none (some (n : Int)) = xs.take n := by
  unfold cutD
  rw [HT.sIx_none, HT.sIx_nat]
  simp only [List.drop_zero, Nat.sub_zero]
  rcases Nat.le_total n xs.length with h | h
  · rw [Nat.min_eq_left h]
  · rw [Nat.min_eq_right h, List.take_length, List.take_of_length_le h]
theorem cut_drop {xs : List D} {n : Nat} : cutD xs (some (n : Int)) none = xs.drop n := by
  unfold cutD
  rw [HT.sIx_none, HT.sIx_nat]
  rcases Nat.le_total n xs.length with h | h
  · rw [Nat.min_eq_left h, List.take_of_length_le (by simp)]
  · rw [Nat.min_eq_right h]
    simp [List.drop_eq_nil_of_le h]
@[simp] theorem cut_to {xs : List D} {i : Int} (h : 0 ≤ i) : cutD xs none (some i) = xs.take i.toNat := by
  obtain ⟨n, rfl⟩ : ∃ n : Nat, i = n := ⟨i.toNat, by omega⟩
  exact cut_take
@[simp] theorem cut_from {xs : List D} {i : Int} (h : 0 ≤ i) : cutD xs (some i) none = xs.drop i.toNat := by
  obtain ⟨n, rfl⟩ : ∃ n : Nat, i = n := ⟨i.toNat, by omega⟩
  exact cut_drop
@[simp] theorem cut_mid {xs : List D} {i j : Int} (h : 0 ≤ i) (h2 : 0 ≤ j) : cutD xs (some i) (some j) = (xs.take j.toNat).drop i.toNat := by
  obtain ⟨n, rfl⟩ : ∃ n : Nat, i = n := ⟨i.toNat, by omega⟩
  obtain ⟨m, rfl⟩ : ∃ m : Nat, j = m := ⟨j.toNat, by omega⟩
  unfold cutD
  rw [HT.sIx_nat, HT.sIx_nat, Int.toNat_natCast, Int.toNat_natCast]
  apply List.ext_getElem?
  intro k
  simp only [List.getElem?_take, List.getElem?_drop]
  by_cases h1 : k < min m xs.length - min n xs.length
  · rw [if_pos h1, if_pos (by omega)]
    congr 1
    omega
  · rw [if_neg h1]
    by_cases h2 : n + k < m
    · rw [if_pos h2, List.getElem?_eq_none (by omega)]
    · rw [if_neg h2]
@[simp] theorem cut_neg {xs : List D} {i : Int} (h : i < 0) : cutD xs none (some i) = xs.take ((xs.length : Int) + i).toNat := by
  unfold cutD
  rw [HT.sIx_none]
  have e : HT.sIx xs.length xs.length (some i) = ((xs.length : Int) + i).toNat := by
    show (if i < 0 then (i + (xs.length : Int)).toNat else min i.toNat xs.length) = _
    rw [if_pos h, Int.add_comm]
  rw [e]
  simp
@[simp] theorem cut_midN {xs : List D} {i j : Int} (h : 0 ≤ i) (h2 : j < 0) : cutD xs (some i) (some j) = (xs.take ((xs.length : Int) + j).toNat).drop i.toNat := by
  have e : cutD xs (some i) (some j) = cutD xs (some i) (some (((xs.length : Int) + j).toNat : Int)) := by
    unfold cutD
    have e : HT.sIx xs.length xs.length (some j) = ((xs.length : Int) + j).toNat := by
      show (if j < 0 then (j + (xs.length : Int)).toNat else min j.toNat xs.length) = _
      rw [if_pos h2, Int.add_comm]
    rw [e, HT.sIx_nat, Nat.min_eq_left (by omega)]
  rw [e, cut_mid h (by omega), Int.toNat_natCast]
@[simp] theorem cut_tail {xs : List D} {i : Int} (h : i < 0) : cutD xs (some i) none = xs.drop ((xs.length : Int) + i).toNat := by
  have e : cutD xs (some i) none = cutD xs (some (((xs.length : Int) + i).toNat : Int)) none := by
    unfold cutD
    have e : HT.sIx xs.length 0 (some i) = ((xs.length : Int) + i).toNat := by
      show (if i < 0 then (i + (xs.length : Int)).toNat else min i.toNat xs.length) = _
      rw [if_pos h, Int.add_comm]
    rw [e, HT.sIx_nat, Nat.min_eq_left (by omega)]
  rw [e, cut_from (by omega), Int.toNat_natCast]
@[simp] theorem cut_all {xs : List D} : cutD xs none none = xs := by
  unfold cutD
  rw [HT.sIx_none, HT.sIx_none]
  simp
def e2 {α β : Type} (f : α → D) (g : β → D) (p : α × β) : D := .tuple [f p.1, g p.2]
def e3 {α β γ : Type} (f : α → D) (g : β → D) (h : γ → D) (p : α × β × γ) : D := .tuple [f p.1, g p.2.1, h p.2.2]
def e4 {α β γ δ : Type} (f : α → D) (g : β → D) (h : γ → D) (k : δ → D) (p : α × β × γ × δ) : D := .tuple [f p.1, g p.2.1, h p.2.2.1, k p.2.2.2]
def eL {α : Type} (f : α → D) (l : List α) : D := .list (l.map f)
def eT {α : Type} (f : α → D) (l : List α) : D := .tuple (l.map f)
def eO {α : Type} (f : α → D) : Option α → D
  | none => .none
  | some x => f x
section
variable {α β γ δ : Type} {f : α → D} {g : β → D} {h : γ → D} {k : δ → D} {n : Nat}
@[simp] theorem e2_eq {p : α × β} : e2 f g p = .tuple [f p.1, g p.2] := rfl
@[simp] theorem e3_eq {p : α × β × γ} : e3 f g h p = .tuple [f p.1, g p.2.1, h p.2.2] := rfl
@[simp] theorem e4_eq {p : α × β × γ × δ} : e4 f g h k p = .tuple [f p.1, g p.2.1, h p.2.2.1, k p.2.2.2] := rfl
@[simp] theorem eL_eq {l : List α} : eL f l = .list (l.map f) := rfl
@[simp] theorem eT_eq {l : List α} : eT f l = .tuple (l.map f) := rfl
@[simp] theorem eO_none : eO f none = .none := rfl
@[simp] theorem eO_some {x : α} : eO f (some x) = f x := rfl
theorem OrdN.e2 (a : OrdN n f) (b : OrdN n g) : OrdN (n + 1) (e2 f g) :=
  ⟨fun x y => by simp [PySem.W.alike, PySem.W.alikeAll, a.al, b.al], fun x => by simp [okN, a.ok, b.ok],
   fun x y q => by
    simp only [e2_eq, PyData.eqv, PyData.eqvAll, Bool.and_eq_true] at q
    exact Prod.ext (a.inj _ _ q.1) (b.inj _ _ q.2.1), .inl fun x => ⟨_, _, rfl⟩⟩
theorem OrdN.e3 (a : OrdN n f) (b : OrdN n g) (c : OrdN n h) : OrdN (n + 1) (e3 f g h) :=
  ⟨fun x y => by simp [PySem.W.alike, PySem.W.alikeAll, a.al, b.al, c.al], fun x => by simp [okN, a.ok, b.ok, c.ok],
   fun x y q => by
    simp only [e3_eq, PyData.eqv, PyData.eqvAll, Bool.and_eq_true] at q
    exact Prod.ext (a.inj _ _ q.1) (Prod.ext (b.inj _ _ q.2.1) (c.inj _ _ q.2.2.1)), .inl fun x => ⟨_, _, rfl⟩⟩
theorem OrdN.e4 (a : OrdN n f) (b : OrdN n g) (c : OrdN n h) (d : OrdN n k) : OrdN (n + 1) (e4 f g h k) :=
  ⟨fun x y => by simp [PySem.W.alike, PySem.W.alikeAll, a.al, b.al, c.al, d.al], fun x => by simp [okN, a.ok, b.ok, c.ok, d.ok],
   fun x y q => by
    simp only [e4_eq, PyData.eqv, PyData.eqvAll, Bool.and_eq_true] at q
    exact Prod.ext (a.inj _ _ q.1) (Prod.ext (b.inj _ _ q.2.1) (Prod.ext (c.inj _ _ q.2.2.1) (d.inj _ _ q.2.2.2.1))), .inl fun x => ⟨_, _, rfl⟩⟩
end
theorem leastB_snoc {α : Type} {lt : α → α → Bool} : ∀ (xs : List α) (m x : α), leastB lt m (xs ++ [x]) = if lt x (leastB lt m xs) = true then x else leastB lt m xs
  | [], _, _ => rfl
  | y :: xs, m, x => leastB_snoc xs _ x
theorem mostB_snoc {α : Type} {lt : α → α → Bool} : ∀ (xs : List α) (m x : α), mostB lt m (xs ++ [x]) = if lt (mostB lt m xs) x = true then x else mostB lt m xs
  | [], _, _ => rfl
  | y :: xs, m, x => mostB_snoc xs _ x
theorem mostB_mem {α : Type} {lt : α → α → Bool} : ∀ (xs : List α) (m : α), mostB lt m xs ∈ m :: xs
  | [], _ => List.mem_cons_self
  | y :: xs, m => by
    have := mostB_mem (lt := lt) xs (if lt m y then y else m)
    rw [mostB]
    rcases List.mem_cons.mp this with h | h
    · rw [h]
      by_cases c : lt m y = true <;> simp [c]
    · exact List.mem_cons_of_mem _ (List.mem_cons_of_mem _ h)
theorem leastB_mem {α : Type} {lt : α → α → Bool} : ∀ (xs : List α) (m : α), leastB lt m xs ∈ m :: xs
  | [], _ => List.mem_cons_self
  | y :: xs, m => by
    have := leastB_mem (lt := lt) xs (if lt y m then y else m)
    rw [leastB]
    rcases List.mem_cons.mp this with h | h
    · rw [h]
      by_cases c : lt y m = true <;> simp [c]
    · exact List.mem_cons_of_mem _ (List.mem_cons_of_mem _ h)
theorem leB_trans {α : Type} {e : α → D} {a b c : α} (h1 : leB e a b = true) (h2 : leB e b c = true) : leB e a c = true := (leB_total e).trans a b c h1 h2
theorem leB_refl {α : Type} {e : α → D} (a : α) : leB e a a = true := (leB_total e).refl a
theorem leB_not {α : Type} {e : α → D} {a b : α} (h : ltB e a b = true) : leB e a b = true := by
  rcases (leB_total e).total a b with q | q
  · exact q
  · rw [leB, ← ltB, h] at q; cases q
/-- the least one is at most each -/
theorem leastB_le {α : Type} {e : α → D} : ∀ (xs : List α) (m x : α), x ∈ m :: xs → leB e (leastB (ltB e) m xs) x = true
  | [], m, x, h => by
    obtain rfl : x = m := by simpa using h
    exact leB_refl _
  | y :: xs, m, x, h => by
    rw [leastB]
    have key : leB e (if ltB e y m = true then y else m) m = true ∧ leB e (if ltB e y m = true then y else m) y = true := by
      by_cases c : ltB e y m = true
      · rw [if_pos c]; exact ⟨leB_not c, leB_refl _⟩
      · rw [if_neg c]; exact ⟨leB_refl _, by rw [leB, ← ltB]; simpa using c⟩
    have ih := leastB_le (e := e) xs (if ltB e y m = true then y else m)
    rcases List.mem_cons.mp h with rfl | h
    · exact leB_trans (ih _ List.mem_cons_self) key.1
    · rcases List.mem_cons.mp h with rfl | h
      · exact leB_trans (ih _ List.mem_cons_self) key.2
      · exact ih x (List.mem_cons_of_mem _ h)
/-- the greatest one is at least each -/
theorem mostB_ge {α : Type} {e : α → D} : ∀ (xs : List α) (m x : α), x ∈ m :: xs → leB e x (mostB (ltB e) m xs) = true
  | [], m, x, h => by
    obtain rfl : x = m := by simpa using h
    exact leB_refl _
  | y :: xs, m, x, h => by
    rw [mostB]
    have key : leB e m (if ltB e m y = true then y else m) = true ∧ leB e y (if ltB e m y = true then y else m) = true := by
      by_cases c : ltB e m y = true
      · rw [if_pos c]; exact ⟨leB_not c, leB_refl _⟩
      · rw [if_neg c]; exact ⟨leB_refl _, by rw [leB, ← ltB]; simpa using c⟩
    have ih := mostB_ge (e := e) xs (if ltB e m y = true then y else m)
    rcases List.mem_cons.mp h with rfl | h
    · exact leB_trans key.1 (ih _ List.mem_cons_self)
    · rcases List.mem_cons.mp h with rfl | h
      · exact leB_trans key.2 (ih _ List.mem_cons_self)
      · exact ih x (List.mem_cons_of_mem _ h)
theorem OrdN.maxE {α : Type} {e : α → D} (h : OrdE e) (hb : ∀ a, orderedT (e a) = true) {xs : List α} (hx : xs ≠ []) : ∃ m, m ∈ xs ∧ biD .max [.list (xs.map e)] = some (e m) ∧ ∀ x ∈ xs, leB e x m = true := by
  cases xs with
  | nil => exact absurd rfl hx
  | cons x xs => exact ⟨_, mostB_mem xs x, h.max hb, fun y hy => mostB_ge xs x y hy⟩
theorem OrdN.minE {α : Type} {e : α → D} (h : OrdE e) (hb : ∀ a, orderedT (e a) = true) {xs : List α} (hx : xs ≠ []) : ∃ m, m ∈ xs ∧ biD .min [.list (xs.map e)] = some (e m) ∧ ∀ x ∈ xs, leB e m x = true := by
  cases xs with
  | nil => exact absurd rfl hx
  | cons x xs => exact ⟨_, leastB_mem xs x, h.min hb, fun y hy => leastB_le xs x y hy⟩
theorem pick {W : List D} {F : D → Prop} (h : ∀ e ∈ W, F e) {w : Int} (h0 : 0 ≤ w) (h1 : w < W.length) : ∃ e, atI W w = some e ∧ F e := by
  obtain ⟨n, rfl⟩ : ∃ n : Nat, w = n := ⟨w.toNat, by omega⟩
  have hn : n < W.length := by omega
  exact ⟨W[n], atI_nat hn, h _ (List.getElem_mem hn)⟩
theorem ltB_int (a b : Int) : ltB PyData.int a b = decide (a < b) := PySem.W.dataLt_int a b
theorem leB_int (a b : Int) : leB PyData.int a b = decide (a ≤ b) := by
  unfold leB
  rw [PySem.W.dataLt_int, PySem.W.not_lt_int]
theorem dataLt_tup {x y : D} {xs ys : List D} (h : PySem.W.alike x y = true) : PySem.W.dataLt (.tuple (x :: xs)) (.tuple (y :: ys)) = if PyData.eqv x y = true then PySem.W.dataLt (.tuple xs) (.tuple ys) else PySem.W.dataLt x y := by
  rw [PySem.W.dataLt_tuple, PySem.W.dataLt_tuple, PySem.W.dataLt_cons h]
theorem dataLt_lst {x y : D} {xs ys : List D} (h : PySem.W.alike x y = true) : PySem.W.dataLt (.list (x :: xs)) (.list (y :: ys)) = if PyData.eqv x y = true then PySem.W.dataLt (.list xs) (.list ys) else PySem.W.dataLt x y := by
  rw [PySem.W.dataLt_list, PySem.W.dataLt_list, PySem.W.dataLt_cons h]
@[simp] theorem dataLt_tup_int {i j : Int} {xs ys : List D} : PySem.W.dataLt (.tuple (.int i :: xs)) (.tuple (.int j :: ys)) = (decide (i < j) || (decide (i = j) && PySem.W.dataLt (.tuple xs) (.tuple ys))) := by
  rw [dataLt_tup (by rfl), PySem.W.dataLt_int]
  simp only [PyData.eqv, beq_iff_eq]
  by_cases h : i = j
  · subst h; simp
  · simp [h]
@[simp] theorem same_int {i : Int} {s : DS} : sameF 8 [.int i, .int i] s = some (.bool true, s) := same_refl 8 _ rfl s
@[simp] theorem same_none {s : DS} : sameF 8 [.none, .none] s = some (.bool true, s) := same_refl 8 _ rfl s
@[simp] theorem same_bool {i : Bool} {s : DS} : sameF 8 [.bool i, .bool i] s = some (.bool true, s) := same_refl 8 _ rfl s
@[simp] theorem dataLt_tup_nil : PySem.W.dataLt (.tuple []) (.tuple []) = false := PyProof.Rows.lex_irrefl _
@[simp] theorem dataLt_intS (x y : Int) : PySem.W.dataLt (.int x) (.int y) = decide (x < y) := PySem.W.dataLt_int x y
end Pf

namespace Pf
open PySem PySem.Spec PyProof.Rows L2
variable [Mode]

structure OrdW (n : Nat) {α : Type} (e : α → D) : Prop where
  al : ∀ a b, PySem.W.alike (e a) (e b) = true
  ok : ∀ a, okN n (e a) = true
  inj : ∀ a b, PyData.eqv (e a) (e b) = true → a = b
section
variable {α β γ δ : Type} {f : α → D} {g : β → D} {h : γ → D} {k : δ → D} {n : Nat}
theorem OrdN.w (h : OrdN n f) : OrdW n f := ⟨h.al, h.ok, h.inj⟩
theorem OrdW.int : OrdW n PyData.int := OrdN.int.w
theorem OrdW.str : OrdW n PyData.str := OrdN.str.w
theorem OrdW.bool : OrdW n PyData.bool := ⟨fun _ _ => rfl, fun _ => by cases n <;> rfl, fun a b h => by cases a <;> cases b <;> first | rfl | cases h⟩
theorem OrdW.nt (a : OrdW n f) (h : ∀ a, match f a with | .tuple _ => False | .none => False | _ => True) : OrdN n f := ⟨a.al, a.ok, a.inj, .inr h⟩
theorem OrdW.e2 (a : OrdW n f) (b : OrdW n g) : OrdN (n + 1) (e2 f g) :=
  ⟨fun x y => by simp [PySem.W.alike, PySem.W.alikeAll, a.al, b.al], fun x => by simp [okN, a.ok, b.ok],
   fun x y q => by
    simp only [e2_eq, PyData.eqv, PyData.eqvAll, Bool.and_eq_true] at q
    exact Prod.ext (a.inj _ _ q.1) (b.inj _ _ q.2.1), .inl fun x => ⟨_, _, rfl⟩⟩
theorem OrdW.e3 (a : OrdW n f) (b : OrdW n g) (c : OrdW n h) : OrdN (n + 1) (e3 f g h) :=
  ⟨fun x y => by simp [PySem.W.alike, PySem.W.alikeAll, a.al, b.al, c.al], fun x => by simp [okN, a.ok, b.ok, c.ok],
   fun x y q => by
    simp only [e3_eq, PyData.eqv, PyData.eqvAll, Bool.and_eq_true] at q
    exact Prod.ext (a.inj _ _ q.1) (Prod.ext (b.inj _ _ q.2.1) (c.inj _ _ q.2.2.1)), .inl fun x => ⟨_, _, rfl⟩⟩
theorem OrdW.e4 (a : OrdW n f) (b : OrdW n g) (c : OrdW n h) (d : OrdW n k) : OrdN (n + 1) (e4 f g h k) :=
  ⟨fun x y => by simp [PySem.W.alike, PySem.W.alikeAll, a.al, b.al, c.al, d.al], fun x => by simp [okN, a.ok, b.ok, c.ok, d.ok],
   fun x y q => by
    simp only [e4_eq, PyData.eqv, PyData.eqvAll, Bool.and_eq_true] at q
    exact Prod.ext (a.inj _ _ q.1) (Prod.ext (b.inj _ _ q.2.1) (Prod.ext (c.inj _ _ q.2.2.1) (d.inj _ _ q.2.2.2.1))), .inl fun x => ⟨_, _, rfl⟩⟩
theorem OrdW.alAll (a : OrdW n f) : ∀ (xs ys : List α), PySem.W.alikeAll (xs.map f) (ys.map f) = true
  | [], [] => rfl
  | [], _ :: _ => rfl
  | _ :: _, [] => rfl
  | x :: xs, y :: ys => by
    have := a.alAll xs ys
    simp [PySem.W.alikeAll, a.al, this]
theorem OrdW.okAll (a : OrdW n f) (xs : List α) : (xs.map f).all (okN n) = true := by
  rw [List.all_map]
  exact List.all_eq_true.mpr fun x _ => a.ok x
theorem OrdW.injAll (a : OrdW n f) : ∀ (xs ys : List α), PyData.eqvAll (xs.map f) (ys.map f) = true → xs = ys
  | [], [], _ => rfl
  | [], _ :: _, h => by simp [PyData.eqvAll] at h
  | _ :: _, [], h => by simp [PyData.eqvAll] at h
  | x :: xs, y :: ys, h => by
    simp only [List.map_cons, PyData.eqvAll, Bool.and_eq_true] at h
    rw [a.inj _ _ h.1, a.injAll xs ys h.2]
theorem OrdW.eT (a : OrdW n f) : OrdW (n + 1) (eT f) :=
  ⟨fun x y => a.alAll x y, fun x => a.okAll x, fun x y h => a.injAll x y h⟩
theorem OrdW.eL (a : OrdW n f) : OrdW (n + 1) (eL f) :=
  ⟨fun x y => a.alAll x y, fun x => a.okAll x, fun x y h => a.injAll x y h⟩
theorem OrdW.mono (a : OrdW n f) {m : Nat} (h : n ≤ m) : OrdW m f := ⟨a.al, fun x => okN_mono n m _ h (a.ok x), a.inj⟩
theorem OrdN.mono (a : OrdN n f) {m : Nat} (h : n ≤ m) : OrdN m f := ⟨a.al, fun x => okN_mono n m _ h (a.ok x), a.inj, a.sh⟩
theorem OrdW.deep (h : OrdW 20 f) (a : α) : okN deep (f a) = true := okN_mono 20 40 _ (by decide) (h.ok a)
theorem OrdW.eqv (h : OrdW 20 f) [DecidableEq α] (a b : α) : PyData.eqv (f a) (f b) = decide (a = b) := by
  by_cases q : a = b
  · subst q
    rw [eqv_refl 20 _ (h.ok a)]
    simp
  · cases z : PyData.eqv (f a) (f b) with
    | true => exact absurd (h.inj _ _ z) q
    | false => simp [q]
theorem OrdW.eq (h : OrdW 20 f) [DecidableEq α] (a b : α) : cmpD .Eq (f a) (f b) = some (decide (a = b)) := by rw [cmp_eq (h.deep a) (h.deep b), h.eqv]
theorem OrdW.ne (h : OrdW 20 f) [DecidableEq α] (a b : α) : cmpD .NotEq (f a) (f b) = some (!decide (a = b)) := by rw [cmp_ne (h.deep a) (h.deep b), h.eqv]
theorem OrdW.anyE (h : OrdW 20 f) [DecidableEq α] (a : α) : ∀ xs : List α, ((xs.map f).any fun z => PyData.eqv z (f a)) = decide (a ∈ xs)
  | [] => rfl
  | x :: xs => by
    have := h.anyE a xs
    simp only [List.map_cons, List.any_cons, this, h.eqv, List.mem_cons, Bool.decide_or]
    congr 1
    exact decide_eq_decide.mpr ⟨Eq.symm, Eq.symm⟩
theorem OrdW.okL (h : OrdW 20 f) (xs : List α) : okN Pf.deep (.list (xs.map f)) = true := okN_mono 21 40 _ (by decide) ((OrdW.eL h).ok xs)
theorem OrdW.okT (h : OrdW 20 f) (xs : List α) : okN Pf.deep (.tuple (xs.map f)) = true := okN_mono 21 40 _ (by decide) ((OrdW.eT h).ok xs)
theorem OrdW.inL (h : OrdW 20 f) [DecidableEq α] (a : α) (xs : List α) : cmpD .In (f a) (.list (xs.map f)) = some (decide (a ∈ xs)) := by
  have e : cmpD .In (f a) (.list (xs.map f)) = if okN Pf.deep (f a) = true ∧ okN Pf.deep (.list (xs.map f)) = true then some ((xs.map f).any fun z => PyData.eqv z (f a)) else none := by cases f a <;> rfl
  rw [e, if_pos ⟨h.deep a, h.okL xs⟩, h.anyE]
theorem OrdW.inT (h : OrdW 20 f) [DecidableEq α] (a : α) (xs : List α) : cmpD .In (f a) (.tuple (xs.map f)) = some (decide (a ∈ xs)) := by
  have e : cmpD .In (f a) (.tuple (xs.map f)) = if okN Pf.deep (f a) = true ∧ okN Pf.deep (.tuple (xs.map f)) = true then some ((xs.map f).any fun z => PyData.eqv z (f a)) else none := by cases f a <;> rfl
  rw [e, if_pos ⟨h.deep a, h.okT xs⟩, h.anyE]
theorem OrdW.notinL (h : OrdW 20 f) [DecidableEq α] (a : α) (xs : List α) : cmpD .NotIn (f a) (.list (xs.map f)) = some (!decide (a ∈ xs)) := by
  have e : cmpD .NotIn (f a) (.list (xs.map f)) = if okN Pf.deep (f a) = true ∧ okN Pf.deep (.list (xs.map f)) = true then some (!(xs.map f).any fun z => PyData.eqv z (f a)) else none := by cases f a <;> rfl
  rw [e, if_pos ⟨h.deep a, h.okL xs⟩, h.anyE]
theorem OrdW.notinT (h : OrdW 20 f) [DecidableEq α] (a : α) (xs : List α) : cmpD .NotIn (f a) (.tuple (xs.map f)) = some (!decide (a ∈ xs)) := by
  have e : cmpD .NotIn (f a) (.tuple (xs.map f)) = if okN Pf.deep (f a) = true ∧ okN Pf.deep (.tuple (xs.map f)) = true then some (!(xs.map f).any fun z => PyData.eqv z (f a)) else none := by cases f a <;> rfl
  rw [e, if_pos ⟨h.deep a, h.okT xs⟩, h.anyE]
theorem OrdW.alikeL (h : OrdW 20 f) (xs : List α) : Pf.alikeL (xs.map f) = true := by
  unfold Pf.alikeL
  rw [List.all_map]
  refine List.all_eq_true.mpr fun x _ => ?_
  show ((xs.map f).all fun y => PySem.W.alike (f x) y) = true
  rw [List.all_map]
  exact List.all_eq_true.mpr fun y _ => h.al x y
theorem OrdW.okD (h : OrdW 20 f) (xs : List α) : (xs.map f).all (okN Pf.deep) = true := by
  rw [List.all_map]
  exact List.all_eq_true.mpr fun x _ => h.deep x
theorem OrdW.orderable (h : OrdW 20 f) (hb : ∀ a, orderedT (f a) = true) (xs : List α) : Pf.orderable (xs.map f) = true := by
  unfold Pf.orderable
  rw [h.alikeL, h.okD, List.all_map]
  exact List.all_eq_true.mpr fun x _ => hb x
theorem OrdW.minE (h : OrdW 20 f) (hb : ∀ a, orderedT (f a) = true) {xs : List α} (hx : xs ≠ []) : ∃ m, m ∈ xs ∧ biD .min [.list (xs.map f)] = some (f m) ∧ ∀ x ∈ xs, leB f m x = true := by
  cases xs with
  | nil => exact absurd rfl hx
  | cons x xs =>
    refine ⟨_, leastB_mem (lt := ltB f) xs x, ?_, fun y hy => leastB_le xs x y hy⟩
    have := h.orderable hb (x :: xs)
    rw [List.map_cons] at this
    show (if Pf.orderable (f x :: xs.map f) = true then some (leastD (f x) (xs.map f)) else none) = _
    rw [if_pos this, leastD_map]
theorem OrdW.maxE (h : OrdW 20 f) (hb : ∀ a, orderedT (f a) = true) {xs : List α} (hx : xs ≠ []) : ∃ m, m ∈ xs ∧ biD .max [.list (xs.map f)] = some (f m) ∧ ∀ x ∈ xs, leB f x m = true := by
  cases xs with
  | nil => exact absurd rfl hx
  | cons x xs =>
    refine ⟨_, mostB_mem (lt := ltB f) xs x, ?_, fun y hy => mostB_ge xs x y hy⟩
    have := h.orderable hb (x :: xs)
    rw [List.map_cons] at this
    show (if Pf.orderable (f x :: xs.map f) = true then some (mostD (f x) (xs.map f)) else none) = _
    rw [if_pos this, mostD_map]
theorem OrdW.lt (h : OrdW 20 f) (hb : ∀ a, ordered (f a) = true) (a b : α) : cmpD .Lt (f a) (f b) = some (ltB f a b) := ltD_of (h.al a b) (h.deep a) (h.deep b) (hb a)
theorem OrdW.gt (h : OrdW 20 f) (hb : ∀ a, ordered (f a) = true) (a b : α) : cmpD .Gt (f a) (f b) = some (ltB f b a) := ltD_of (h.al b a) (h.deep b) (h.deep a) (hb b)
theorem OrdW.toks_inj (h : OrdW 20 f) {a b : α} (h1 : leB f a b = true) (h2 : leB f b a = true) : a = b := by
  have t := PySem.W.toks_eqv (f a) (f b) (h.al a b)
  cases z : PyData.eqv (f a) (f b) with
  | true => exact h.inj a b z
  | false =>
    exfalso
    have h1' : PySem.W.dataLt (f b) (f a) = false := by simpa [leB] using h1
    have h2' : PySem.W.dataLt (f a) (f b) = false := by simpa [leB] using h2
    have tt := PyProof.Rows.lex_total _ _ h2' h1'
    have k := t.2 z [.inl 0] [.inl 1]
    rw [tt] at k
    rw [PySem.W.lex_pre] at k
    rw [PyProof.Rows.lex_irrefl] at k
    revert k
    decide
/-- the least one, told by what it is -/
theorem OrdW.min_eq (h : OrdW 20 f) (hb : ∀ a, orderedT (f a) = true) {xs : List α} {m : α} (hm : m ∈ xs) (hl : ∀ x ∈ xs, leB f m x = true) : biD .min [.list (xs.map f)] = some (f m) := by
  obtain ⟨k, k1, k2, k3⟩ := h.minE hb (xs := xs) (by intro z; rw [z] at hm; cases hm)
  rw [k2, h.toks_inj (k3 m hm) (hl k k1)]
theorem OrdW.max_eq (h : OrdW 20 f) (hb : ∀ a, orderedT (f a) = true) {xs : List α} {m : α} (hm : m ∈ xs) (hl : ∀ x ∈ xs, leB f x m = true) : biD .max [.list (xs.map f)] = some (f m) := by
  obtain ⟨k, k1, k2, k3⟩ := h.maxE hb (xs := xs) (by intro z; rw [z] at hm; cases hm)
  rw [k2, h.toks_inj (hl k k1) (k3 m hm)]
end
section
variable {κ α : Type} [DecidableEq κ]
def kput (l : List (κ × α)) (k : κ) (v : α) : List (κ × α) := if (l.any fun p => decide (p.1 = k)) = true then l.map fun p => if p.1 = k then (p.1, v) else p else l ++ [(k, v)]
def kget (l : List (κ × α)) (k : κ) : Option α := (l.find? fun p => decide (p.1 = k)).map (·.2)
def dmk (l : List (κ × α)) : List (κ × α) := l.foldl (fun a p => kput a p.1 p.2) []
def eD (g : κ → D) (f : α → D) (l : List (κ × α)) : List (D × D) := l.map fun p => (g p.1, f p.2)
variable {g : κ → D} {f : α → D}
theorem eD_any (hg : OrdW 20 g) (k : κ) : ∀ l : List (κ × α), ((eD g f l).any fun p => PyData.eqv p.1 (g k)) = l.any fun p => decide (p.1 = k)
  | [] => rfl
  | p :: l => by
    have := eD_any hg k l
    unfold eD at *
    simp only [List.map_cons, List.any_cons, hg.eqv, this]
theorem dput_enc (hg : OrdW 20 g) (l : List (κ × α)) (k : κ) (v : α) : dput (eD g f l) (g k) (f v) = eD g f (kput l k v) := by
  unfold dput kput
  rw [eD_any hg]
  by_cases h : (l.any fun p => decide (p.1 = k)) = true
  · rw [if_pos h, if_pos h]
    unfold eD
    rw [List.map_map, List.map_map]
    refine List.map_congr_left fun p _ => ?_
    simp only [Function.comp, hg.eqv]
    by_cases e : p.1 = k <;> simp [e]
  · rw [if_neg h, if_neg h]
    simp [eD]
theorem dfind_enc (hg : OrdW 20 g) (k : κ) : ∀ l : List (κ × α), dfind (eD g f l) (g k) = (kget l k).map f
  | [] => rfl
  | p :: l => by
    have ih := dfind_enc hg k l
    unfold dfind kget eD at *
    simp only [List.map_cons, List.find?_cons, hg.eqv]
    by_cases e : p.1 = k
    · simp [e]
    · simp only [e, decide_false]
      exact ih
theorem kget_put (l : List (κ × α)) (k k' : κ) (v : α) : kget (kput l k v) k' = if k' = k then some v else kget l k' := by
  have hm : ∀ l : List (κ × α), kget (l.map fun p => if p.1 = k then (p.1, v) else p) k' = if k' = k then (if (l.any fun p => decide (p.1 = k)) = true then some v else none) else kget l k' := by
    intro l
    unfold kget
    induction l with
    | nil => simp
    | cons p l ih =>
      rw [List.map_cons, List.find?_cons, List.find?_cons, List.any_cons]
      by_cases ep : p.1 = k
      · by_cases e : k' = k
        · subst e; simp [ep]
        · have e2 : ¬ k = k' := Ne.symm e
          simp only [ep, if_true, e2, decide_false, e, if_false] at ih ⊢
          exact ih
      · by_cases e : k' = k
        · subst e
          simp only [ep, if_false, decide_false, if_true, Bool.false_or] at ih ⊢
          exact ih
        · by_cases eq : p.1 = k'
          · simp [ep, eq, e]
          · simp only [ep, eq, if_false, decide_false, e] at ih ⊢
            exact ih
  unfold kput
  by_cases h : (l.any fun p => decide (p.1 = k)) = true
  · rw [if_pos h, hm]
    by_cases e : k' = k <;> simp [e, h]
  · rw [if_neg h]
    have hn : l.find? (fun p => decide (p.1 = k)) = none := List.find?_eq_none.mpr fun p hp z => h (List.any_eq_true.mpr ⟨p, hp, z⟩)
    unfold kget
    rw [List.find?_append]
    by_cases e : k' = k
    · subst e
      simp [hn]
    · have e2 : ¬ k = k' := Ne.symm e
      simp [e, e2]
theorem kput_new {l : List (κ × α)} {k : κ} {v : α} (h : k ∉ l.map (·.1)) : kput l k v = l ++ [(k, v)] := by
  unfold kput
  rw [if_neg]
  intro z
  obtain ⟨p, hp, e⟩ := List.any_eq_true.mp z
  exact h (List.mem_map.mpr ⟨p, hp, of_decide_eq_true e⟩)
theorem dmk_go : ∀ (l acc : List (κ × α)), ((acc ++ l).map (·.1)).Nodup → l.foldl (fun a p => kput a p.1 p.2) acc = acc ++ l
  | [], acc, _ => by simp
  | p :: l, acc, h => by
    rw [List.foldl_cons, kput_new, dmk_go l (acc ++ [(p.1, p.2)])]
    · simp
    · simpa using h
    · intro z
      simp only [List.map_append, List.map_cons] at h
      have := (List.nodup_append.mp h).2.2 _ z _ List.mem_cons_self
      exact this rfl
theorem dmk_nodup {l : List (κ × α)} (h : (l.map (·.1)).Nodup) : dmk l = l := dmk_go l [] h
theorem dputs_enc (hg : OrdW 20 g) (hk : ∀ k, kindOk false (g k) = true) : ∀ (l acc : List (κ × α)), dputs (eD g f acc) (l.map fun p => .tuple [g p.1, f p.2]) = some (eD g f (l.foldl (fun a p => kput a p.1 p.2) acc))
  | [], _ => rfl
  | p :: l, acc => by
    have ih := dputs_enc hg hk l (kput acc p.1 p.2)
    rw [List.map_cons, dputs, if_pos (hk _), dput_enc hg, ih]
    rfl
theorem dputs_new (hg : OrdW 20 g) (hk : ∀ k, kindOk false (g k) = true) (l : List (κ × α)) (h : (l.map (·.1)).Nodup) : dputs [] (l.map fun p => .tuple [g p.1, f p.2]) = some (eD g f l) := by
  have z := dputs_enc (f := f) hg hk l []
  have z2 : l.foldl (fun a p => kput a p.1 p.2) [] = l := dmk_nodup h
  rw [z2] at z
  exact z
theorem kget_mem {l : List (κ × α)} (h : (l.map (·.1)).Nodup) {k : κ} {v : α} (hm : (k, v) ∈ l) : kget l k = some v := by
  induction l with
  | nil => cases hm
  | cons p l ih =>
    unfold kget at *
    rw [List.map_cons, List.nodup_cons] at h
    rcases List.mem_cons.mp hm with rfl | hm
    · simp
    · have : p.1 ≠ k := fun e => h.1 (by rw [e]; exact List.mem_map.mpr ⟨_, hm, rfl⟩)
      simp only [List.find?_cons, this, decide_false]
      exact ih h.2 hm
theorem kget_none {l : List (κ × α)} {k : κ} (h : k ∉ l.map (·.1)) : kget l k = none := by
  unfold kget
  rw [List.find?_eq_none.mpr]
  · rfl
  · intro p hp e
    exact h (List.mem_map.mpr ⟨p, hp, of_decide_eq_true e⟩)
end
section
variable {α β : Type} {Γ : Gam} {kx vx : Ex} {ifs : Exs} {tg : Tg} {ρ : List Slot} {s : DS}
/-- a dict comprehension that draws nothing and tests nothing -/
theorem dcE_map {e : α → D} {K V : α → D} : ∀ {xs : List α} {acc : List (D × D)}, (∀ x ∈ xs, ∃ ρ1, bindT tg (e x) ρ = some ρ1 ∧ evE Γ kx ρ1 s = some (K x, s) ∧ evE Γ vx ρ1 s = some (V x, s) ∧ kindOk false (K x) = true) →
    dcE Γ kx vx .nil tg ρ (xs.map e) acc s = some (xs.foldl (fun a x => dput a (K x) (V x)) acc, s)
  | [], _, _ => rfl
  | x :: xs, acc, h => by
    obtain ⟨ρ1, h1, h2, h3, h4⟩ := h x List.mem_cons_self
    have ih := dcE_map (xs := xs) (acc := dput acc (K x) (V x)) fun y hy => h y (List.mem_cons_of_mem _ hy)
    unfold dcE at ih ⊢
    have hc : evC Γ .nil ρ1 s = some (true, s) := rfl
    simp only [List.map_cons, dcRun, h1, Option.bind_some, hc, if_pos, h2, h3, h4, List.foldl_cons]
    exact ih
theorem dcE_new {κ : Type} [DecidableEq κ] {e : α → D} {g : κ → D} {f : β → D} {K : α → κ} {V : α → β} {xs : List α} (hg : OrdW 20 g) (hd : (xs.map K).Nodup) (h : ∀ x ∈ xs, ∃ ρ1, bindT tg (e x) ρ = some ρ1 ∧ evE Γ kx ρ1 s = some (g (K x), s) ∧ evE Γ vx ρ1 s = some (f (V x), s) ∧ kindOk false (g (K x)) = true) :
    dcE Γ kx vx .nil tg ρ (xs.map e) [] s = some (eD g f (xs.map fun x => (K x, V x)), s) := by
  rw [dcE_map h]
  congr 2
  have : ∀ (xs : List α) (acc : List (κ × β)), xs.foldl (fun a x => dput a (g (K x)) (f (V x))) (eD g f acc) = eD g f ((xs.map fun x => (K x, V x)).foldl (fun a p => kput a p.1 p.2) acc) := by
    intro xs
    induction xs with
    | nil => intro acc; rfl
    | cons x xs ih => intro acc; rw [List.foldl_cons, dput_enc hg, ih]; rfl
  have z := this xs []
  have z2 : (xs.map fun x => (K x, V x)).foldl (fun a p => kput a p.1 p.2) [] = _ := dmk_nodup (by rw [List.map_map]; exact hd)
  rw [z2] at z
  exact z
/-- a comprehension that draws, place by place -/
theorem goL_pi {F : α → DS → Option (Option D × DS)} {e : β → D} {π : β → α} {P : β → Prop} : ∀ {xs : List α} (s : DS), (∀ x ∈ xs, ∀ s, ∃ b s', F x s = some (some (e b), s') ∧ π b = x ∧ P b) → ∃ (bs : List β) (s' : DS), goL F xs s = some (bs.map e, s') ∧ bs.map π = xs ∧ ∀ b ∈ bs, P b
  | [], s, _ => ⟨[], s, rfl, rfl, fun _ h => by cases h⟩
  | x :: xs, s, h => by
    obtain ⟨b, s1, h1, h2, h3⟩ := h x List.mem_cons_self s
    obtain ⟨bs, s2, h4, h5, h6⟩ := goL_pi (xs := xs) s1 fun y hy => h y (List.mem_cons_of_mem _ hy)
    refine ⟨b :: bs, s2, ?_, by rw [List.map_cons, h2, h5], fun q hq => ?_⟩
    · rw [goL, h1]
      simp [h4]
    · rcases List.mem_cons.mp hq with rfl | hq
      · exact h3
      · exact h6 q hq
/-- a comprehension that draws to choose: a part of what there is, in its order -/
theorem goL_sub {F : α → DS → Option (Option D × DS)} {f : α → D} : ∀ {xs : List α} (s : DS), (∀ x ∈ xs, ∀ s, ∃ (c : Bool) (s' : DS), F x s = some (if c = true then some (f x) else none, s')) → ∃ (bs : List α) (s' : DS), goL F xs s = some (bs.map f, s') ∧ bs.Sublist xs
  | [], s, _ => ⟨[], s, rfl, .slnil⟩
  | x :: xs, s, h => by
    obtain ⟨c, s1, h1⟩ := h x List.mem_cons_self s
    obtain ⟨bs, s2, h4, h5⟩ := goL_sub (xs := xs) s1 fun y hy => h y (List.mem_cons_of_mem _ hy)
    cases c with
    | true =>
      refine ⟨x :: bs, s2, ?_, h5.cons₂ _⟩
      rw [goL, h1]
      simp [h4]
    | false =>
      refine ⟨bs, s2, ?_, h5.cons _⟩
      rw [goL, h1]
      simp [h4]
end
end Pf

namespace Pf
open PySem PySem.Spec PyProof.Rows L2
variable [Mode]
section
variable {Γ : Gam} {elt : Ex} {ifs : Exs} {tg : Tg} {ρ : List Slot} {s ds : DS} {α β : Type} {d : D} {lo hi i : Int}
/-- a comprehension, item by item, by what is known of its items -/
theorem lcT {e : α → D} {f : α → D} : ∀ {xs : List α}, (∀ x ∈ xs, ∃ ρ1, bindT tg (e x) ρ = some ρ1 ∧ evE Γ elt ρ1 s = some (f x, s)) → lcE Γ elt .nil tg ρ (xs.map e) s = some (xs.map f, s)
  | [], _ => rfl
  | x :: xs, h => by
    obtain ⟨ρ1, h1, h2⟩ := h x List.mem_cons_self
    have ih := lcT (xs := xs) fun y hy => h y (List.mem_cons_of_mem _ hy)
    unfold lcE at ih ⊢
    have hc : evC Γ .nil ρ1 s = some (true, s) := rfl
    simp only [List.map_cons, lcRun, h1, Option.bind_some, hc, if_pos, h2, ih, Option.map_some]
theorem lcF {e : α → D} {f : α → D} {c : α → Bool} : ∀ {xs : List α}, (∀ x ∈ xs, ∃ ρ1, bindT tg (e x) ρ = some ρ1 ∧ evC Γ ifs ρ1 s = some (c x, s) ∧ (c x = true → evE Γ elt ρ1 s = some (f x, s))) → lcE Γ elt ifs tg ρ (xs.map e) s = some ((xs.filter c).map f, s)
  | [], _ => rfl
  | x :: xs, h => by
    obtain ⟨ρ1, h1, h2, h3⟩ := h x List.mem_cons_self
    have ih := lcF (xs := xs) fun y hy => h y (List.mem_cons_of_mem _ hy)
    unfold lcE at ih ⊢
    cases hc : c x with
    | false =>
      rw [hc] at h2
      simp [lcRun, h1, h2, ih, hc]
    | true =>
      rw [hc] at h2
      simp [lcRun, h1, h2, h3 hc, ih, hc]
@[simp] theorem goL_filterN {f : α → D} {p : α → Prop} [DecidablePred p] : ∀ {xs : List α} {s : DS}, goL (fun x s => some (if p x then none else some (f x), s)) xs s = some ((xs.filter fun x => !decide (p x)).map f, s)
  | [], _ => rfl
  | x :: xs, s => by
    by_cases h : p x
    · simp [goL, goL_filterN, h]
    · simp [goL, goL_filterN, h]
@[simp] theorem intsD_append : ∀ {xs ys : List D}, intsD (xs ++ ys) = (intsD xs).bind fun a => (intsD ys).map fun c => a ++ c
  | [], ys => by simp
  | x :: xs, ys => by
    cases x <;> simp [intsD_append (xs := xs) (ys := ys)]
    cases intsD xs <;> cases intsD ys <;> simp
omit [Mode] in
theorem perm_sumI {xs ys : List Int} (h : xs.Perm ys) : xs.sum = ys.sum := by
  induction h with
  | nil => rfl
  | cons x _ ih => rw [List.sum_cons, List.sum_cons, ih]
  | swap x y l => simp only [List.sum_cons]; omega
  | trans _ _ a b => exact a.trans b
theorem ne_nilL {f : α → D} (h : OrdW 20 f) (xs : List α) : cmpD .NotEq (.list (xs.map f)) (.list []) = some (!xs.isEmpty) := by
  have z : cmpD .NotEq (.list (xs.map f)) (.list []) = if okN deep (.list (xs.map f)) = true ∧ okN deep (.list []) = true then some (!PyData.eqv (.list (xs.map f)) (.list [])) else (deqD (.list (xs.map f)) (.list [])).map (!·) := rfl
  rw [z, if_pos ⟨h.okL xs, rfl⟩]
  cases xs <;> rfl
theorem eq_nilL {f : α → D} (h : OrdW 20 f) (xs : List α) : cmpD .Eq (.list (xs.map f)) (.list []) = some xs.isEmpty := by
  have z : cmpD .Eq (.list (xs.map f)) (.list []) = if okN deep (.list (xs.map f)) = true ∧ okN deep (.list []) = true then some (PyData.eqv (.list (xs.map f)) (.list [])) else deqD (.list (xs.map f)) (.list []) := rfl
  rw [z, if_pos ⟨h.okL xs, rfl⟩]
  cases xs <;> rfl
theorem eq_nil_ok {xs : List D} (h : xs.all (okN 39) = true) : cmpD .Eq (.list xs) (.list []) = some xs.isEmpty := by
  have z : cmpD .Eq (.list xs) (.list []) = if okN deep (.list xs) = true ∧ okN deep (.list []) = true then some (PyData.eqv (.list xs) (.list [])) else deqD (.list xs) (.list []) := rfl
  rw [z, if_pos ⟨h, rfl⟩]
  cases xs <;> rfl
theorem ne_nilT_ok {xs : List D} (h : xs.all (okN 39) = true) : cmpD .NotEq (.tuple xs) (.tuple []) = some (!xs.isEmpty) := by
  have z : cmpD .NotEq (.tuple xs) (.tuple []) = if okN deep (.tuple xs) = true ∧ okN deep (.tuple []) = true then some (!PyData.eqv (.tuple xs) (.tuple [])) else (deqD (.tuple xs) (.tuple [])).map (!·) := rfl
  rw [z, if_pos ⟨h, rfl⟩]
  cases xs <;> rfl
theorem ne_nil_ok {xs : List D} (h : xs.all (okN 39) = true) : cmpD .NotEq (.list xs) (.list []) = some (!xs.isEmpty) := by
  have z : cmpD .NotEq (.list xs) (.list []) = if okN deep (.list xs) = true ∧ okN deep (.list []) = true then some (!PyData.eqv (.list xs) (.list [])) else (deqD (.list xs) (.list [])).map (!·) := rfl
  rw [z, if_pos ⟨h, rfl⟩]
  cases xs <;> rfl
@[simp] theorem flat_bool {b : Bool} : flatN deep (.bool b) = true := rfl
@[simp] theorem flat_int : flatN deep (.int i) = true := rfl
@[simp] theorem flat_str {x : Str} : flatN deep (.str x) = true := rfl
@[simp] theorem flat_none : flatN deep .none = true := rfl
def sIntF : Fn := evF ⟨[], []⟩ 1 1 (.cons (.ret (.bop true (.cons (.isi (.var 0) [.int]) (.cons (.nt (.isi (.var 0) [.bool])) .nil)))) .nil)
def sNumF : Fn := evF ⟨[sIntF], []⟩ 3 3 (.cons (.ret (.bop true (.cons (.call 0 (.cons (.var 0) .nil)) (.cons (.cmp .GtE (.var 0) (.var 1)) (.cons (.bop false (.cons (.isN true (.var 2)) (.cons (.cmp .LtE (.var 0) (.var 2)) .nil))) .nil))))) .nil)
def sNameF : Fn := evF ⟨[], [.str "abcdefghijklmnopqrstuvwxyz"]⟩ 2 1 (.cons (.iff (.bop false (.cons (.nt (.isi (.var 0) [.str])) (.cons (.nt (.chn .LtE .LtE (.int 1) (.bi .len (.cons (.var 0) .nil)) (.int 8))) .nil))) (.cons (.ret (.bl false)) .nil) .nil) (.cons (.ret (.bi .all (.cons (.lc (.cmp .In (.var 1) (.gl 0)) (.nm 1) (.seq (.var 0)) .nil) .nil))) .nil))
def sRowF : Fn := evF ⟨[], []⟩ 3 3 (.cons (.ret (.bop true (.cons (.isi (.var 0) [.tuple]) (.cons (.chn .LtE .LtE (.var 1) (.bi .len (.cons (.var 0) .nil)) (.var 2)) .nil)))) .nil)
def sAscB : Sms := (.cons (.ret (.bi .all (.cons (.lc (.cmp .Lt (.var 1) (.var 2)) (.tp [(.nm 1), (.nm 2)]) (.zip (.var 0) (.sl (.var 0) (.cons (.int 1) .nil) .nil)) .nil) .nil))) .nil)
def sAscF : Fn := evF ⟨[], []⟩ 3 1 sAscB
theorem lcE_raw (xs : List D) : lcE Γ elt ifs tg ρ xs s = goL (fun x s => stpE Γ elt ifs tg ρ x s) xs s := by
  have := lcE_mapE (Γ := Γ) (elt := elt) (ifs := ifs) (tg := tg) (ρ := ρ) (e := fun d : D => d) (xs := xs) (s := s)
  rw [List.map_id'] at this
  exact this
def rowN (n : Nat) : D → Bool
  | .tuple xs => xs.length == n
  | _ => false
def isI : D → Bool
  | .int _ => true
  | _ => false
def num1 (lo : Int) : D → Bool
  | .int i => decide (lo ≤ i)
  | _ => false
def num2 (lo hi : Int) : D → Bool
  | .int i => decide (lo ≤ i) && decide (i ≤ hi)
  | _ => false
def nd : D → Bool
  | .dict _ => false
  | _ => true
@[simp] theorem nd0 : nd .none = true := id rfl
@[simp] theorem nd1 {b : Bool} : nd (.bool b) = true := id rfl
@[simp] theorem nd2 {b : Int} : nd (.int b) = true := id rfl
@[simp] theorem nd3 {b : Str} : nd (.str b) = true := id rfl
@[simp] theorem nd4 {b : List D} : nd (.list b) = true := id rfl
@[simp] theorem nd5 {b : List D} : nd (.tuple b) = true := id rfl
@[simp] theorem nd6 {b : List (D × D)} : nd (.dict b) = false := id rfl
@[simp] theorem isI_int : isI (.int i) = true := id rfl
@[simp] theorem isI_str {x : Str} : isI (.str x) = false := id rfl
@[simp] theorem isI_none : isI .none = false := id rfl
@[simp] theorem isI_bool {x : Bool} : isI (.bool x) = false := id rfl
@[simp] theorem isI_tuple {x : List D} : isI (.tuple x) = false := id rfl
@[simp] theorem isI_list {x : List D} : isI (.list x) = false := id rfl
@[simp] theorem num1_int : num1 lo (.int i) = decide (lo ≤ i) := id rfl
@[simp] theorem num1_str {x : Str} : num1 lo (.str x) = false := id rfl
@[simp] theorem num1_none : num1 lo .none = false := id rfl
@[simp] theorem num1_bool {x : Bool} : num1 lo (.bool x) = false := id rfl
@[simp] theorem num1_tuple {x : List D} : num1 lo (.tuple x) = false := id rfl
@[simp] theorem num1_list {x : List D} : num1 lo (.list x) = false := id rfl
@[simp] theorem num2_int : num2 lo hi (.int i) = (decide (lo ≤ i) && decide (i ≤ hi)) := id rfl
@[simp] theorem num2_str {x : Str} : num2 lo hi (.str x) = false := id rfl
@[simp] theorem num2_none : num2 lo hi .none = false := id rfl
@[simp] theorem num2_bool {x : Bool} : num2 lo hi (.bool x) = false := id rfl
@[simp] theorem num2_tuple {x : List D} : num2 lo hi (.tuple x) = false := id rfl
@[simp] theorem num2_list {x : List D} : num2 lo hi (.list x) = false := id rfl
theorem e_integer (h : nd d = true) : sIntF [d] ds = some (.bool (isI d), ds) := by
  cases d <;> simp at h <;> simp [sIntF, isiAny, isiD, isI]
theorem e_num1 (h : nd d = true) : sNumF [d, .int lo, .none] ds = some (.bool (num1 lo d), ds) := by
  cases d <;> simp at h <;> simp [sNumF, e_integer, isI, num1]
theorem e_num2 (h : nd d = true) : sNumF [d, .int lo, .int hi] ds = some (.bool (num2 lo hi d), ds) := by
  cases d <;> simp at h <;> simp [sNumF, e_integer, isI, num2]
def rowB (lo hi : Int) : D → Bool
  | .tuple xs => decide (lo ≤ xs.length) && decide ((xs.length : Int) ≤ hi)
  | _ => false
@[simp] theorem rowB_tuple {x : List D} : rowB lo hi (.tuple x) = (decide (lo ≤ x.length) && decide ((x.length : Int) ≤ hi)) := id rfl
@[simp] theorem rowB_list {x : List D} : rowB lo hi (.list x) = false := id rfl
@[simp] theorem rowB_none : rowB lo hi .none = false := id rfl
@[simp] theorem rowB_int : rowB lo hi (.int i) = false := id rfl
@[simp] theorem rowB_str {x : Str} : rowB lo hi (.str x) = false := id rfl
@[simp] theorem rowB_bool {x : Bool} : rowB lo hi (.bool x) = false := id rfl
theorem e_row (h : nd d = true) : sRowF [d, .int lo, .int hi] ds = some (.bool (rowB lo hi d), ds) := by
  cases d <;> simp at h <;> simp [sRowF, isiAny, isiD, rowB]
@[simp] theorem sInt_int : sIntF [(.int i)] ds = some (.bool (isI (.int i)), ds) := e_integer rfl
@[simp] theorem sNum1_int : sNumF [(.int i), .int lo, .none] ds = some (.bool (num1 lo (.int i)), ds) := e_num1 rfl
@[simp] theorem sNum2_int : sNumF [(.int i), .int lo, .int hi] ds = some (.bool (num2 lo hi (.int i)), ds) := e_num2 rfl
@[simp] theorem sRow_int : sRowF [(.int i), .int lo, .int hi] ds = some (.bool (rowB lo hi (.int i)), ds) := e_row rfl
@[simp] theorem sInt_str {x : Str} : sIntF [(.str x)] ds = some (.bool (isI (.str x)), ds) := e_integer rfl
@[simp] theorem sNum1_str {x : Str} : sNumF [(.str x), .int lo, .none] ds = some (.bool (num1 lo (.str x)), ds) := e_num1 rfl
@[simp] theorem sNum2_str {x : Str} : sNumF [(.str x), .int lo, .int hi] ds = some (.bool (num2 lo hi (.str x)), ds) := e_num2 rfl
@[simp] theorem sRow_str {x : Str} : sRowF [(.str x), .int lo, .int hi] ds = some (.bool (rowB lo hi (.str x)), ds) := e_row rfl
@[simp] theorem sInt_none : sIntF [.none] ds = some (.bool (isI .none), ds) := e_integer rfl
@[simp] theorem sNum1_none : sNumF [.none, .int lo, .none] ds = some (.bool (num1 lo .none), ds) := e_num1 rfl
@[simp] theorem sNum2_none : sNumF [.none, .int lo, .int hi] ds = some (.bool (num2 lo hi .none), ds) := e_num2 rfl
@[simp] theorem sRow_none : sRowF [.none, .int lo, .int hi] ds = some (.bool (rowB lo hi .none), ds) := e_row rfl
@[simp] theorem sInt_bool {x : Bool} : sIntF [(.bool x)] ds = some (.bool (isI (.bool x)), ds) := e_integer rfl
@[simp] theorem sNum1_bool {x : Bool} : sNumF [(.bool x), .int lo, .none] ds = some (.bool (num1 lo (.bool x)), ds) := e_num1 rfl
@[simp] theorem sNum2_bool {x : Bool} : sNumF [(.bool x), .int lo, .int hi] ds = some (.bool (num2 lo hi (.bool x)), ds) := e_num2 rfl
@[simp] theorem sRow_bool {x : Bool} : sRowF [(.bool x), .int lo, .int hi] ds = some (.bool (rowB lo hi (.bool x)), ds) := e_row rfl
@[simp] theorem sInt_tuple {x : List D} : sIntF [(.tuple x)] ds = some (.bool (isI (.tuple x)), ds) := e_integer rfl
@[simp] theorem sNum1_tuple {x : List D} : sNumF [(.tuple x), .int lo, .none] ds = some (.bool (num1 lo (.tuple x)), ds) := e_num1 rfl
@[simp] theorem sNum2_tuple {x : List D} : sNumF [(.tuple x), .int lo, .int hi] ds = some (.bool (num2 lo hi (.tuple x)), ds) := e_num2 rfl
@[simp] theorem sRow_tuple {x : List D} : sRowF [(.tuple x), .int lo, .int hi] ds = some (.bool (rowB lo hi (.tuple x)), ds) := e_row rfl
@[simp] theorem sInt_list {x : List D} : sIntF [(.list x)] ds = some (.bool (isI (.list x)), ds) := e_integer rfl
@[simp] theorem sNum1_list {x : List D} : sNumF [(.list x), .int lo, .none] ds = some (.bool (num1 lo (.list x)), ds) := e_num1 rfl
@[simp] theorem sNum2_list {x : List D} : sNumF [(.list x), .int lo, .int hi] ds = some (.bool (num2 lo hi (.list x)), ds) := e_num2 rfl
@[simp] theorem sRow_list {x : List D} : sRowF [(.list x), .int lo, .int hi] ds = some (.bool (rowB lo hi (.list x)), ds) := e_row rfl
@[simp] theorem len_str {x : Str} (h : x.length ≤ 16777216) : biD .len [.str x] = some (.int x.length) := if_pos h
@[simp] theorem itr_str {o : Bool} {x : Str} : itrD o (.str x) = some (x.cps.toList.map fun c => .str ⟨#[c]⟩) := id rfl
@[simp] theorem in_str {x y : Str} : cmpD .In (.str x) (.str y) = some (occS x y) := id rfl
@[simp] theorem notin_str {x y : Str} : cmpD .NotIn (.str x) (.str y) = some (!occS x y) := id rfl
@[simp] theorem cps_size {x : Str} : x.cps.size = x.length := id rfl
def nameOk (x : Str) : Bool := decide (1 ≤ x.length) && decide (x.length ≤ 8) && x.cps.toList.all fun c => occS ⟨#[c]⟩ (Str.ofString "abcdefghijklmnopqrstuvwxyz")
theorem e_name {x : Str} (h : x.length ≤ 16777216) : sNameF [.str x] ds = some (.bool (nameOk x), ds) := by
  have h1 : x.length ≤ cap := h
  simp [sNameF, isiAny, isiD, h, h1]
  have e1 : decide ((x.length : Int) < 1) = !decide (1 ≤ x.length) := by rw [Bool.eq_iff_iff]; simp; omega
  have e2 : decide (8 < (x.length : Int)) = !decide (x.length ≤ 8) := by rw [Bool.eq_iff_iff]; simp; omega
  have e3 : (x.cps.toList.all fun c => occS ⟨#[c]⟩ (Str.ofString "abcdefghijklmnopqrstuvwxyz")) = x.cps.all (fun x => occS { cps := #[x] } (Str.ofString "abcdefghijklmnopqrstuvwxyz")) 0 x.length := (Array.all_toList ..).trans rfl
  rw [nameOk, e1, e2, e3, Bool.not_not, Bool.not_not]
theorem e_nameN (h : nd d = true) (hs : ∀ x, d ≠ .str x) : sNameF [d] ds = some (.bool false, ds) := by
  cases d <;> simp at h <;> simp at hs <;> simp [sNameF, isiAny, isiD]
def nmOk (d : D) : Bool := match d with | .str x => nameOk x | _ => false
def short : D → Bool
  | .str x => decide (x.length ≤ 16777216)
  | _ => true
@[simp] theorem short_int : short (.int i) = true := id rfl
@[simp] theorem short_none : short .none = true := id rfl
@[simp] theorem short_bool {b : Bool} : short (.bool b) = true := id rfl
@[simp] theorem short_tuple {b : List D} : short (.tuple b) = true := id rfl
@[simp] theorem short_list {b : List D} : short (.list b) = true := id rfl
@[simp] theorem nmOk_int : nmOk (.int i) = false := id rfl
@[simp] theorem nmOk_none : nmOk .none = false := id rfl
@[simp] theorem nmOk_bool {b : Bool} : nmOk (.bool b) = false := id rfl
@[simp] theorem nmOk_tuple {b : List D} : nmOk (.tuple b) = false := id rfl
@[simp] theorem nmOk_list {b : List D} : nmOk (.list b) = false := id rfl
@[simp] theorem nmOk_str {x : Str} : nmOk (.str x) = nameOk x := id rfl
theorem e_nm (h : nd d = true) (hs : short d = true) : sNameF [d] ds = some (.bool (nmOk d), ds) := by
  by_cases c : ∃ x, d = .str x
  · obtain ⟨x, rfl⟩ := c
    exact e_name (by simpa [short] using hs)
  · rw [e_nameN h fun x e => c ⟨x, e⟩]
    cases d <;> first | rfl | exact absurd ⟨_, rfl⟩ c
@[simp] theorem e_nmS {x : Str} (h : nameOk x = true) : sNameF [.str x] ds = some (.bool true, ds) := by
  rw [e_name, h]
  simp only [nameOk, Bool.and_eq_true, decide_eq_true_eq] at h
  omega
@[simp] theorem e_nmF {x : Str} (h : nameOk x = false) (hl : x.length ≤ 16777216) : sNameF [.str x] ds = some (.bool false, ds) := by
  rw [e_name hl, h]
@[simp] theorem e_nmI : sNameF [.int i] ds = some (.bool false, ds) := e_nm rfl rfl
@[simp] theorem e_nmN : sNameF [.none] ds = some (.bool false, ds) := e_nm rfl rfl
@[simp] theorem e_nmT {b : List D} : sNameF [.tuple b] ds = some (.bool false, ds) := e_nm rfl rfl
/-- each one less than the next -/
def ascB {α : Type} (e : α → D) (N : List α) : Bool := (N.zip N.tail).all fun p => ltB e p.1 p.2
theorem e_asc {e : α → D} (o : OrdW 20 e) (hb : ∀ a, ordered (e a) = true) {xs : List α} (h : xs.length ≤ 16777216) : sAscF [.list (xs.map e)] ds = some (.bool (ascB e xs), ds) := by
  have hl : ∀ x y : α, cmpD .Lt (e x) (e y) = some (ltB e x y) := fun x y => o.lt hb x y
  simp (disch := omega) [sAscF, sAscB, hl, ascB]
theorem e_ascT {e : α → D} (o : OrdW 20 e) (hb : ∀ a, ordered (e a) = true) {xs : List α} (h : xs.length ≤ 16777216) : sAscF [.tuple (xs.map e)] ds = some (.bool (ascB e xs), ds) := by
  have hl : ∀ x y : α, cmpD .Lt (e x) (e y) = some (ltB e x y) := fun x y => o.lt hb x y
  simp (disch := omega) [sAscF, sAscB, hl, ascB]
theorem ascB_true {e : α → D} {xs : List α} (h : xs.Pairwise fun a b => ltB e a b = true) : ascB e xs = true := by
  unfold ascB
  refine List.all_eq_true.mpr fun p hp => ?_
  obtain ⟨n, hn, rfl⟩ := List.mem_iff_getElem.mp hp
  simp at hn ⊢
  exact List.pairwise_iff_getElem.mp h n (n + 1) (by omega) (by omega) (by omega)
theorem asc_zip {e : β → D} {g : α → β} (xs : List α) : ((xs.zip xs.tail).all fun p => ltB e (g p.1) (g p.2)) = ascB e (xs.map g) := by
  unfold ascB
  rw [← List.map_tail, List.zip_map, List.all_map]
  rfl
@[simp] theorem lt_str {x y : Str} : cmpD .Lt (.str x) (.str y) = some (ltB PyData.str x y) := OrdN.str.lt (fun _ => rfl) x y
@[simp] theorem eq_str {x y : Str} : cmpD .Eq (.str x) (.str y) = some (decide (x = y)) := OrdW.str.eq x y
@[simp] theorem ne_str {x y : Str} : cmpD .NotEq (.str x) (.str y) = some (!decide (x = y)) := OrdW.str.ne x y
theorem ix_strN {x : Str} {k : Nat} (h : k < x.length) (hc : x.length ≤ 16777216) : ixD (.str x) (.int (k : Int)) = some (.str ⟨#[x.cps.toList[k]?.getD 0]⟩) := by
  have h1 : x.length ≤ cap := hc
  have h2 : k < x.cps.toList.length := by simpa using h
  show (if x.length ≤ cap then (atI x.cps.toList (k : Int)).map fun c => PyData.str ⟨#[c]⟩ else none) = _
  rw [if_pos h1, Pf.atI_nat h2, List.getElem?_eq_getElem h2]
  rfl
@[simp] theorem bin_str {x y : Str} : binD .Add (.str x) (.str y) = if x.length + y.length ≤ cap then some (.str (x ++ y)) else none := id rfl
@[simp] theorem len_one {c : Nat} : (Str.mk #[c]).length = 1 := rfl
/-- a comprehension that draws, place by place -/
theorem lcE_pi {γ : Type} {e' : γ → D} {e : β → D} {π : β → γ} {P : β → Prop} : ∀ {xs : List γ} (s : DS), (∀ x ∈ xs, ∀ s, ∃ b s' ρ1, bindT tg (e' x) ρ = some ρ1 ∧ evE Γ elt ρ1 s = some (e b, s') ∧ π b = x ∧ P b) → ∃ (bs : List β) (s' : DS), lcE Γ elt .nil tg ρ (xs.map e') s = some (bs.map e, s') ∧ bs.map π = xs ∧ ∀ b ∈ bs, P b
  | [], s, _ => ⟨[], s, rfl, rfl, fun _ h => by cases h⟩
  | x :: xs, s, h => by
    obtain ⟨b, s1, ρ1, h0, h1, h2, h3⟩ := h x List.mem_cons_self s
    obtain ⟨bs, s2, h4, h5, h6⟩ := lcE_pi (xs := xs) s1 fun y hy => h y (List.mem_cons_of_mem _ hy)
    refine ⟨b :: bs, s2, ?_, by rw [List.map_cons, h2, h5], fun q hq => ?_⟩
    · have hc : evC Γ .nil ρ1 s = some (true, s) := rfl
      unfold lcE at h4 ⊢
      simp only [List.map_cons, lcRun, h0, Option.bind_some, hc, if_pos, h1, h4, Option.map_some]
    · rcases List.mem_cons.mp hq with rfl | hq
      · exact h3
      · exact h6 q hq
/-- a comprehension that draws to choose -/
theorem lcE_sub {e' : α → D} {f : α → D} : ∀ {xs : List α} (s : DS), (∀ x ∈ xs, ∀ s, ∃ (c : Bool) (s' : DS) (ρ1 : List Slot), bindT tg (e' x) ρ = some ρ1 ∧ evC Γ ifs ρ1 s = some (c, s') ∧ ∀ s, evE Γ elt ρ1 s = some (f x, s)) → ∃ (bs : List α) (s' : DS), lcE Γ elt ifs tg ρ (xs.map e') s = some (bs.map f, s') ∧ bs.Sublist xs
  | [], s, _ => ⟨[], s, rfl, .slnil⟩
  | x :: xs, s, h => by
    obtain ⟨c, s1, ρ1, h0, h1, h2⟩ := h x List.mem_cons_self s
    obtain ⟨bs, s2, h4, h5⟩ := lcE_sub (xs := xs) s1 fun y hy => h y (List.mem_cons_of_mem _ hy)
    cases c with
    | true =>
      refine ⟨x :: bs, s2, ?_, h5.cons₂ _⟩
      unfold lcE at h4 ⊢
      simp only [List.map_cons, lcRun, h0, Option.bind_some, h1, if_pos, h2, h4, Option.map_some]
    | false =>
      refine ⟨bs, s2, ?_, h5.cons _⟩
      unfold lcE at h4 ⊢
      simp [List.map_cons, lcRun, h0, h1, h4]
end
end Pf

namespace Pf
open PySem PySem.Spec PyProof.Rows L2
variable [Mode]
def sRatioF : Fn := evF ⟨[], []⟩ 3 2 (.cons (.iff (.cmp .Lt (.var 1) (.int 0)) (.cons (.par [0, 1] (.cons (.neg (.var 0)) (.cons (.neg (.var 1)) .nil))) .nil) .nil) (.cons (.set 2 (.gcd (.var 0) (.var 1))) (.cons (.ret (.tup (.cons (.bin .FloorDiv (.var 0) (.var 2)) (.cons (.bin .FloorDiv (.var 1) (.var 2)) .nil)))) .nil)))
def lowB : Sms := (.cons (.par [2, 3] (.cons (.var 3) (.cons (.bin .Mod (.var 2) (.var 3)) .nil))) (.shr 3 .nil))
def lowC : Ex := (.cmp .Gt (.var 3) (.int 0))
def sLowF : Fn := evF ⟨[], []⟩ 4 2 (.cons (.iff (.cmp .Lt (.var 1) (.int 0)) (.cons (.par [0, 1] (.cons (.bin .Sub (.int 0) (.var 0)) (.cons (.bin .Sub (.int 0) (.var 1)) .nil))) (.shr 0 (.shr 1 .nil))) .nil) (.cons (.par [2, 3] (.cons (.bi .abs (.cons (.var 0) .nil)) (.cons (.var 1) .nil))) (.cons (.whl lowC lowB) (.cons (.ret (.tup (.cons (.bin .FloorDiv (.var 0) (.var 2)) (.cons (.bin .FloorDiv (.var 1) (.var 2)) .nil)))) .nil))))
def lessB : Sms := (.cons (.ret (.cmp .Lt (.bin .Mult (.ix (.var 0) (.int 0)) (.ix (.var 1) (.int 1))) (.bin .Mult (.ix (.var 1) (.int 0)) (.ix (.var 0) (.int 1))))) .nil)
def sLessF : Fn := evF ⟨[], []⟩ 2 2 lessB
def addB : Sms := (.cons (.ret (.call 0 (.cons (.bin .Add (.bin .Mult (.ix (.var 0) (.int 0)) (.ix (.var 1) (.int 1))) (.bin .Mult (.ix (.var 1) (.int 0)) (.ix (.var 0) (.int 1)))) (.cons (.bin .Mult (.ix (.var 0) (.int 1)) (.ix (.var 1) (.int 1))) .nil)))) .nil)
def subB : Sms := (.cons (.ret (.call 0 (.cons (.bin .Sub (.bin .Mult (.ix (.var 0) (.int 0)) (.ix (.var 1) (.int 1))) (.bin .Mult (.ix (.var 1) (.int 0)) (.ix (.var 0) (.int 1)))) (.cons (.bin .Mult (.ix (.var 0) (.int 1)) (.ix (.var 1) (.int 1))) .nil)))) .nil)
def mulB : Sms := (.cons (.ret (.call 0 (.cons (.bin .Mult (.ix (.var 0) (.int 0)) (.ix (.var 1) (.int 0))) (.cons (.bin .Mult (.ix (.var 0) (.int 1)) (.ix (.var 1) (.int 1))) .nil)))) .nil)
def sAddF : Fn := evF ⟨[sRatioF], []⟩ 2 2 addB
def sSubF : Fn := evF ⟨[sRatioF], []⟩ 2 2 subB
def sMulF : Fn := evF ⟨[sRatioF], []⟩ 2 2 mulB
def sLAddF : Fn := evF ⟨[sLowF], []⟩ 2 2 addB
def sLSubF : Fn := evF ⟨[sLowF], []⟩ 2 2 subB
def sLMulF : Fn := evF ⟨[sLowF], []⟩ 2 2 mulB
def lsumB : Sms := (.cons (.set 1 (.call 0 (.cons (.var 1) (.cons (.var 2) .nil)))) .nil)
def sLSumF : Fn := evF ⟨[sLAddF], []⟩ 3 1 (.cons (.set 1 (.tup (.cons (.int 0) (.cons (.int 1) .nil)))) (.cons (.for_ (.nm 2) (.seq (.var 0)) lsumB) (.cons (.ret (.var 1)) .nil)))
def sRatB : Sms := (.cons (.iff (.bop false (.cons (.isi (.var 1) [.bool]) (.cons (.nt (.isi (.var 1) [.int])) .nil))) (.cons (.ret (.bl false)) .nil) .nil) .nil)
def sIsRatF : Fn := evF ⟨[], []⟩ 2 1 (.cons (.iff (.bop false (.cons (.nt (.isi (.var 0) [.tuple])) (.cons (.cmp .NotEq (.bi .len (.cons (.var 0) .nil)) (.int 2)) .nil))) (.cons (.ret (.bl false)) .nil) .nil) (.cons (.for_ (.nm 1) (.seq (.var 0)) sRatB) (.cons (.ret (.bop true (.cons (.cmp .GtE (.ix (.var 0) (.int 1)) (.int 1)) (.cons (.cmp .Eq (.gcd (.ix (.var 0) (.int 0)) (.ix (.var 0) (.int 1))) (.int 1)) .nil)))) .nil)))
/-- in lowest terms -/
def low (n b : Int) : Int × Int := (n / (Nat.gcd n.natAbs b.natAbs : Nat), b / (Nat.gcd n.natAbs b.natAbs : Nat))
abbrev eF : Int × Int → D := e2 .int .int
theorem oF : OrdE eF := .e2 .int .int
section
variable {n b m d : Int} {p q : Int × Int} {ds : DS}
theorem gcd_bd (hb : 0 < b) : 0 < ((Nat.gcd n.natAbs b.natAbs : Nat) : Int) ∧ ((Nat.gcd n.natAbs b.natAbs : Nat) : Int) ≤ b := by
  have h1 : 0 < Nat.gcd n.natAbs b.natAbs := Nat.gcd_pos_of_pos_right _ (by omega)
  have h2 : Nat.gcd n.natAbs b.natAbs ≤ b.natAbs := Nat.gcd_le_right _ (by omega)
  omega
@[simp] theorem ratio_eq (hb : 0 < b) (hl : b < 1073741824) : sRatioF [.int n, .int b] ds = some (.tuple [.int (low n b).1, .int (low n b).2], ds) := by
  obtain ⟨g1, g2⟩ := gcd_bd (n := n) hb
  have h0 : ¬ b < 0 := by omega
  simp (disch := omega) [sRatioF, h0, low, g1]
  omega
theorem low_whl : ∀ (k : Nat) (fu : Nat) (a c : Nat) (x y : Slot), c ≤ k → c < fu → whlE ⟨[], []⟩ lowC lowB fu [x, y, .sh (.int (a : Int)), .sh (.int (c : Int))] ds = some (.nx [x, y, .sh (.int (Nat.gcd a c : Nat)), .sh (.int 0)] ds)
  | k, 0, a, c, x, y, h, hf => by omega
  | k, fu + 1, a, c, x, y, h, hf => by
    by_cases hc : c = 0
    · subst hc
      simp [whlE, whlRun, lowC]
    · have ih := fun h1 h2 => low_whl (k - 1) fu c (a % c) x y h1 h2
      have hlt : a % c < c := Nat.mod_lt _ (by omega)
      have ih := ih (by omega) (by omega)
      have c0 : (0 : Int) < (c : Int) := by omega
      have hb : evSs ⟨[], []⟩ lowB [x, y, .sh (.int (a : Int)), .sh (.int (c : Int))] ds = some (.nx [x, y, .sh (.int (c : Int)), .sh (.int ((a % c : Nat) : Int))] ds) := by
        simp (disch := omega) [lowB, c0]
        omega
      have hc2 : evE ⟨[], []⟩ lowC [x, y, .sh (.int (a : Int)), .sh (.int (c : Int))] ds = some (.bool true, ds) := by
        simp [lowC, c0]
        omega
      unfold whlE at ih ⊢
      simp only [whlRun, hc2, Option.bind_some, tru_bool, if_pos, hb, ih]
      rw [Nat.gcd_comm a c, Nat.gcd_rec c a, Nat.gcd_comm (a % c) c]
@[simp] theorem low_eq (hb : 0 < b) (hl : b < 1000000) : sLowF [.int n, .int b] ds = some (.tuple [.int (low n b).1, .int (low n b).2], ds) := by
  obtain ⟨g1, g2⟩ := gcd_bd (n := n) hb
  have h0 : ¬ b < 0 := by omega
  have z := low_whl (ds := ds) b.natAbs fuel n.natAbs b.natAbs (.sh (.int n)) (.sh (.int b)) (by omega) (by unfold fuel; omega)
  have eb : ((b.natAbs : Nat) : Int) = b := by omega
  rw [eb] at z
  simp (disch := omega) [sLowF, h0, z, low, g1]
  omega
theorem low_pos (hb : 0 < b) : 0 < (low n b).2 := by
  obtain ⟨g1, g2⟩ := gcd_bd (n := n) hb
  exact Int.ediv_pos_of_pos_of_dvd hb (Int.le_of_lt g1) (Int.ofNat_dvd_left.mpr (Nat.gcd_dvd_right _ _))
theorem low_le (hb : 0 < b) : (low n b).2 ≤ b := by
  obtain ⟨g1, g2⟩ := gcd_bd (n := n) hb
  exact Int.ediv_le_self _ (Int.le_of_lt hb)
theorem low_num : (low n b).1 * (Nat.gcd n.natAbs b.natAbs : Nat) = n := Int.ediv_mul_cancel (Int.ofNat_dvd_left.mpr (Nat.gcd_dvd_left _ _))
theorem low_den : (low n b).2 * (Nat.gcd n.natAbs b.natAbs : Nat) = b := Int.ediv_mul_cancel (Int.ofNat_dvd_left.mpr (Nat.gcd_dvd_right _ _))
theorem low_cross (hb : 0 < b) : n * (low n b).2 = (low n b).1 * b := by
  have h1 := low_num (n := n) (b := b)
  have h2 := low_den (n := n) (b := b)
  generalize ((Nat.gcd n.natAbs b.natAbs : Nat) : Int) = g at h1 h2
  calc n * (low n b).2 = ((low n b).1 * g) * (low n b).2 := by rw [h1]
    _ = (low n b).1 * ((low n b).2 * g) := by rw [Int.mul_assoc, Int.mul_comm g]
    _ = (low n b).1 * b := by rw [h2]
theorem low_gcd (hb : 0 < b) : Nat.gcd (low n b).1.natAbs (low n b).2.natAbs = 1 := by
  obtain ⟨g1, g2⟩ := gcd_bd (n := n) hb
  have h1 := congrArg Int.natAbs (low_num (n := n) (b := b))
  have h2 := congrArg Int.natAbs (low_den (n := n) (b := b))
  rw [Int.natAbs_mul, Int.natAbs_natCast] at h1 h2
  have g := Nat.gcd_mul_right (low n b).1.natAbs (Nat.gcd n.natAbs b.natAbs) (low n b).2.natAbs
  rw [h1, h2] at g
  have gp : 0 < Nat.gcd n.natAbs b.natAbs := by omega
  have : 1 * Nat.gcd n.natAbs b.natAbs = Nat.gcd (low n b).1.natAbs (low n b).2.natAbs * Nat.gcd n.natAbs b.natAbs := by omega
  exact (Nat.eq_of_mul_eq_mul_right gp this).symm
/-- in lowest terms already -/
theorem low_id (h : Nat.gcd n.natAbs b.natAbs = 1) : low n b = (n, b) := by
  unfold low
  rw [h]
  simp
/-- equal ratios are one in lowest terms -/
theorem low_congr (hb : 0 < b) (hd : 0 < d) (h : n * d = m * b) : low n b = low m d := by
  have p1 := low_pos (n := n) hb
  have p2 := low_pos (n := m) hd
  have c1 := low_cross (n := n) hb
  have c2 := low_cross (n := m) hd
  have g1 := low_gcd (n := n) hb
  have g2 := low_gcd (n := m) hd
  generalize low n b = u at *
  generalize low m d = v at *
  have key : u.1 * v.2 = v.1 * u.2 := by
    have e1 : u.1 * v.2 * (b * d) = v.1 * u.2 * (b * d) := by
      calc u.1 * v.2 * (b * d) = (u.1 * b) * (v.2 * d) := by simp only [Int.mul_assoc, Int.mul_comm, Int.mul_left_comm]
        _ = (n * u.2) * (v.2 * d) := by rw [c1]
        _ = (n * d) * (u.2 * v.2) := by simp only [Int.mul_assoc, Int.mul_comm, Int.mul_left_comm]
        _ = (m * b) * (u.2 * v.2) := by rw [h]
        _ = (m * v.2) * (u.2 * b) := by simp only [Int.mul_assoc, Int.mul_comm, Int.mul_left_comm]
        _ = (v.1 * d) * (u.2 * b) := by rw [c2]
        _ = v.1 * u.2 * (b * d) := by simp only [Int.mul_assoc, Int.mul_comm, Int.mul_left_comm]
    exact Int.eq_of_mul_eq_mul_right (Int.ne_of_gt (Int.mul_pos hb hd)) e1
  have kn := congrArg Int.natAbs key
  rw [Int.natAbs_mul, Int.natAbs_mul] at kn
  have d1 : u.2.natAbs ∣ v.2.natAbs := by
    have : u.2.natAbs ∣ u.1.natAbs * v.2.natAbs := by rw [kn]; exact Nat.dvd_mul_left _ _
    exact (Nat.Coprime.dvd_of_dvd_mul_left (by rw [Nat.coprime_iff_gcd_eq_one, Nat.gcd_comm]; exact g1) this)
  have d2 : v.2.natAbs ∣ u.2.natAbs := by
    have : v.2.natAbs ∣ v.1.natAbs * u.2.natAbs := by rw [← kn]; exact Nat.dvd_mul_left _ _
    exact (Nat.Coprime.dvd_of_dvd_mul_left (by rw [Nat.coprime_iff_gcd_eq_one, Nat.gcd_comm]; exact g2) this)
  have e2 : u.2 = v.2 := by have := Nat.dvd_antisymm d1 d2; omega
  rw [e2] at key
  have e1 : u.1 = v.1 := Int.eq_of_mul_eq_mul_right (Int.ne_of_gt p2) key
  exact Prod.ext e1 e2
theorem low_iff (hb : 0 < b) (hd : 0 < d) : low n b = low m d ↔ n * d = m * b := by
  refine ⟨fun h => ?_, low_congr hb hd⟩
  have p1 := low_pos (n := n) hb
  have c1 := low_cross (n := n) hb
  have c2 := low_cross (n := m) hd
  rw [← h] at c2
  have e : n * d * (low n b).2 = m * b * (low n b).2 := by
    calc n * d * (low n b).2 = (n * (low n b).2) * d := by simp only [Int.mul_assoc, Int.mul_comm, Int.mul_left_comm]
      _ = ((low n b).1 * d) * b := by rw [c1]; simp only [Int.mul_assoc, Int.mul_comm, Int.mul_left_comm]
      _ = (m * (low n b).2) * b := by rw [c2]
      _ = m * b * (low n b).2 := by simp only [Int.mul_assoc, Int.mul_comm, Int.mul_left_comm]
  exact Int.eq_of_mul_eq_mul_right (Int.ne_of_gt p1) e
/-- the less ratio -/
theorem low_lt (hb : 0 < b) (c k : Int) : (low n b).1 * k < c * (low n b).2 ↔ n * k < c * b := by
  obtain ⟨g1, g2⟩ := gcd_bd (n := n) hb
  have h1 := low_num (n := n) (b := b)
  have h2 := low_den (n := n) (b := b)
  generalize ((Nat.gcd n.natAbs b.natAbs : Nat) : Int) = g at h1 h2 g1
  have e1 : n * k = (low n b).1 * k * g := by rw [← h1, h1]; conv => lhs; rw [← h1]
                                              simp only [Int.mul_assoc, Int.mul_comm, Int.mul_left_comm]
  have e2 : c * b = c * (low n b).2 * g := by conv => lhs; rw [← h2]
                                              simp only [Int.mul_assoc, Int.mul_comm, Int.mul_left_comm]
  rw [e1, e2]
  exact ⟨fun h => Int.mul_lt_mul_of_pos_right h g1, fun h => Int.lt_of_mul_lt_mul_right h (Int.le_of_lt g1)⟩
theorem lt_low (hb : 0 < b) (c k : Int) : c * (low n b).2 < (low n b).1 * k ↔ c * b < n * k := by
  obtain ⟨g1, g2⟩ := gcd_bd (n := n) hb
  have h1 := low_num (n := n) (b := b)
  have h2 := low_den (n := n) (b := b)
  generalize ((Nat.gcd n.natAbs b.natAbs : Nat) : Int) = g at h1 h2 g1
  have e1 : n * k = (low n b).1 * k * g := by conv => lhs; rw [← h1]
                                              simp only [Int.mul_assoc, Int.mul_comm, Int.mul_left_comm]
  have e2 : c * b = c * (low n b).2 * g := by conv => lhs; rw [← h2]
                                              simp only [Int.mul_assoc, Int.mul_comm, Int.mul_left_comm]
  rw [e1, e2]
  exact ⟨fun h => Int.mul_lt_mul_of_pos_right h g1, fun h => Int.lt_of_mul_lt_mul_right h (Int.le_of_lt g1)⟩
theorem smallI_of (h0 : -1073741824 < b) (h1 : b < 1073741824) : smallI b = true := decide_eq_true (by omega)
@[simp] theorem less_eq (h1 : 0 < b) (h2 : b < 1073741824) (h3 : 0 < d) (h4 : d < 1073741824) : sLessF [.tuple [.int n, .int b], .tuple [.int m, .int d]] ds = some (.bool (decide (n * d < m * b)), ds) := by
  have s1 : smallI b = true := smallI_of (by omega) h2
  have s2 : smallI d = true := smallI_of (by omega) h4
  simp [sLessF, lessB, s1, s2]
section
variable (h1 : 0 < b) (h2 : b < 1000) (h3 : 0 < d) (h4 : d < 1000)
include h1 h2 h3 h4
theorem den_bd : 0 < b * d ∧ b * d < 1000000 := by
  have p : 0 < b * d := Int.mul_pos h1 h3
  have : b * d ≤ 999 * 999 := Int.mul_le_mul (by omega) (by omega) (by omega) (by omega)
  omega
@[simp] theorem add_eq : sAddF [.tuple [.int n, .int b], .tuple [.int m, .int d]] ds = some (.tuple [.int (low (n * d + m * b) (b * d)).1, .int (low (n * d + m * b) (b * d)).2], ds) := by
  obtain ⟨p1, p2⟩ := den_bd h1 h2 h3 h4
  have s1 : smallI b = true := smallI_of (by omega) (by omega)
  have s2 : smallI d = true := smallI_of (by omega) (by omega)
  simp (disch := omega) [sAddF, addB, s1, s2]
@[simp] theorem sub_eq : sSubF [.tuple [.int n, .int b], .tuple [.int m, .int d]] ds = some (.tuple [.int (low (n * d - m * b) (b * d)).1, .int (low (n * d - m * b) (b * d)).2], ds) := by
  obtain ⟨p1, p2⟩ := den_bd h1 h2 h3 h4
  have s1 : smallI b = true := smallI_of (by omega) (by omega)
  have s2 : smallI d = true := smallI_of (by omega) (by omega)
  simp (disch := omega) [sSubF, subB, s1, s2]
@[simp] theorem ladd_eq : sLAddF [.tuple [.int n, .int b], .tuple [.int m, .int d]] ds = some (.tuple [.int (low (n * d + m * b) (b * d)).1, .int (low (n * d + m * b) (b * d)).2], ds) := by
  obtain ⟨p1, p2⟩ := den_bd h1 h2 h3 h4
  have s1 : smallI b = true := smallI_of (by omega) (by omega)
  have s2 : smallI d = true := smallI_of (by omega) (by omega)
  simp (disch := omega) [sLAddF, addB, s1, s2]
@[simp] theorem lsub_eq : sLSubF [.tuple [.int n, .int b], .tuple [.int m, .int d]] ds = some (.tuple [.int (low (n * d - m * b) (b * d)).1, .int (low (n * d - m * b) (b * d)).2], ds) := by
  obtain ⟨p1, p2⟩ := den_bd h1 h2 h3 h4
  have s1 : smallI b = true := smallI_of (by omega) (by omega)
  have s2 : smallI d = true := smallI_of (by omega) (by omega)
  simp (disch := omega) [sLSubF, subB, s1, s2]
@[simp] theorem mul_eq (h5 : smallI n = true) : sMulF [.tuple [.int n, .int b], .tuple [.int m, .int d]] ds = some (.tuple [.int (low (n * m) (b * d)).1, .int (low (n * m) (b * d)).2], ds) := by
  obtain ⟨p1, p2⟩ := den_bd h1 h2 h3 h4
  have s1 : smallI b = true := smallI_of (by omega) (by omega)
  simp (disch := omega) [sMulF, mulB, s1, h5]
@[simp] theorem lmul_eq (h5 : smallI n = true) : sLMulF [.tuple [.int n, .int b], .tuple [.int m, .int d]] ds = some (.tuple [.int (low (n * m) (b * d)).1, .int (low (n * m) (b * d)).2], ds) := by
  obtain ⟨p1, p2⟩ := den_bd h1 h2 h3 h4
  have s1 : smallI b = true := smallI_of (by omega) (by omega)
  simp (disch := omega) [sLMulF, mulB, s1, h5]
end
@[simp] theorem isRat_ints : sIsRatF [.tuple [.int n, .int b]] ds = some (.bool (decide (1 ≤ b) && decide (Nat.gcd n.natAbs b.natAbs = 1)), ds) := by
  have e : ((Nat.gcd n.natAbs b.natAbs : Nat) : Int) = 1 ↔ Nat.gcd n.natAbs b.natAbs = 1 := by omega
  simp [sIsRatF, isiAny, isiD, forE_cons, forE_nil, sRatB, e]
theorem isRat_low (hb : 0 < b) : sIsRatF [.tuple [.int (low n b).1, .int (low n b).2]] ds = some (.bool true, ds) := by
  have p := low_pos (n := n) hb
  have g := low_gcd (n := n) hb
  have p1 : 1 ≤ (low n b).2 := by omega
  simp [g, p1]
end
end Pf

namespace Pf
open PySem PySem.Spec PyProof.Rows L2
variable [Mode]
theorem zipIdx_range {α : Type} (xs : List α) (x0 : α) : xs.zipIdx = (List.range xs.length).map fun k => (xs[k]?.getD x0, k) := by
  apply List.ext_getElem?
  intro i
  rw [List.getElem?_zipIdx, List.getElem?_map]
  by_cases h : i < xs.length
  · rw [List.getElem?_eq_getElem h, List.getElem?_range h]
    simp [List.getElem?_eq_getElem h]
  · rw [List.getElem?_eq_none (by omega), List.getElem?_eq_none (by simp; omega)]
    rfl
/-- enumerate, by places -/
theorem enum_range {α : Type} {e : α → D} (xs : List α) (x0 : α) : ((xs.zipIdx).map fun p => PyData.tuple [.int (p.2 : Nat), e p.1]) = (List.range xs.length).map fun k : Nat => PyData.tuple [.int (k : Int), e (xs[k]?.getD x0)] := by
  rw [zipIdx_range xs x0, List.map_map]
  rfl
theorem at_getD {α : Type} {e : α → D} {xs : List α} {k : Nat} (x0 : α) (h : k < xs.length) : atI (xs.map e) (k : Int) = some (e (xs[k]?.getD x0)) := by
  rw [at_map, Pf.atI_nat h, List.getElem?_eq_getElem h]
  rfl
theorem atD_getD {α : Type} {xs : List α} {k : Nat} (x0 : α) (h : k < xs.length) : atI xs (k : Int) = some (xs[k]?.getD x0) := by
  rw [Pf.atI_nat h, List.getElem?_eq_getElem h]
  rfl
theorem two {a b : Str} {i : Int} (h0 : 0 ≤ i) (h1 : i < 2) : ∃ x, atI [PyData.str a, .str b] i = some (.str x) ∧ (x = a ∨ x = b) := by
  have : i = 0 ∨ i = 1 := by omega
  rcases this with rfl | rfl
  · exact ⟨a, by simp, .inl rfl⟩
  · exact ⟨b, by simp, .inr rfl⟩
theorem three {a b c : Str} {i : Int} (h0 : 0 ≤ i) (h1 : i < 3) : ∃ x, atI [PyData.str a, .str b, .str c] i = some (.str x) ∧ (x = a ∨ x = b ∨ x = c) := by
  have : i = 0 ∨ i = 1 ∨ i = 2 := by omega
  rcases this with rfl | rfl | rfl
  · exact ⟨a, by simp, .inl rfl⟩
  · exact ⟨b, by simp, .inr (.inl rfl)⟩
  · exact ⟨c, by simp, .inr (.inr rfl)⟩
theorem four {a b c d : Str} {i : Int} (h0 : 0 ≤ i) (h1 : i < 4) : ∃ x, atI [PyData.str a, .str b, .str c, .str d] i = some (.str x) ∧ (x = a ∨ x = b ∨ x = c ∨ x = d) := by
  have : i = 0 ∨ i = 1 ∨ i = 2 ∨ i = 3 := by omega
  rcases this with rfl | rfl | rfl | rfl
  · exact ⟨a, by simp, .inl rfl⟩
  · exact ⟨b, by simp, .inr (.inl rfl)⟩
  · exact ⟨c, by simp, .inr (.inr (.inl rfl))⟩
  · exact ⟨d, by simp, .inr (.inr (.inr rfl))⟩
theorem same_okL {α : Type} {f : α → D} {xs : List α} (h : ∀ x ∈ xs, okS 7 (f x) = true) (hl : xs.length ≤ 10000000) (s : DS) : sameF 8 [.list (xs.map f), .list (xs.map f)] s = some (.bool true, s) := same_refl 8 _ (by
  show (decide _ && _) = true
  rw [Bool.and_eq_true, List.all_map]
  exact ⟨decide_eq_true (by rw [List.length_map]; show _ ≤ 16777216; omega), List.all_eq_true.mpr h⟩) s
theorem okS_T {α : Type} {f : α → D} {xs : List α} {n : Nat} (h : ∀ x ∈ xs, okS n (f x) = true) (hl : xs.length ≤ 10000000) : okS (n + 1) (.tuple (xs.map f)) = true := by
  show (decide _ && _) = true
  rw [Bool.and_eq_true, List.all_map]
  exact ⟨decide_eq_true (by rw [List.length_map]; show _ ≤ 16777216; omega), List.all_eq_true.mpr h⟩
theorem okS_L {α : Type} {f : α → D} {xs : List α} {n : Nat} (h : ∀ x ∈ xs, okS n (f x) = true) (hl : xs.length ≤ 10000000) : okS (n + 1) (.list (xs.map f)) = true := by
  show (decide _ && _) = true
  rw [Bool.and_eq_true, List.all_map]
  exact ⟨decide_eq_true (by rw [List.length_map]; show _ ≤ 16777216; omega), List.all_eq_true.mpr h⟩
theorem same_okT {α : Type} {f : α → D} {xs : List α} (h : ∀ x ∈ xs, okS 7 (f x) = true) (hl : xs.length ≤ 10000000) (s : DS) : sameF 8 [.tuple (xs.map f), .tuple (xs.map f)] s = some (.bool true, s) := same_refl 8 _ (okS_T h hl) s
/-- the least of whole numbers, by min -/
theorem leastB_min : ∀ (xs : List Int) (m : Int), leastB (ltB PyData.int) m xs = xs.foldl min m
  | [], _ => rfl
  | x :: xs, m => by
    rw [leastB, List.foldl_cons, leastB_min xs, ltB_int]
    congr 1
    by_cases h : x < m
    · simp only [h, decide_true, if_true]; omega
    · simp only [h, decide_false]; show m = min m x; omega
theorem mostB_max : ∀ (xs : List Int) (m : Int), mostB (ltB PyData.int) m xs = xs.foldl max m
  | [], _ => rfl
  | x :: xs, m => by
    rw [mostB, List.foldl_cons, mostB_max xs, ltB_int]
    congr 1
    by_cases h : m < x
    · simp only [h, decide_true, if_true]; omega
    · simp only [h, decide_false]; show m = max m x; omega
theorem min_ints {m : Int} {xs : List Int} : biD .min [.list (.int m :: xs.map .int)] = some (.int (xs.foldl min m)) := by
  have z : biD .min [.list (PyData.int m :: xs.map PyData.int)] = _ := OrdN.int.min (fun _ => rfl)
  rw [z, leastB_min]
theorem max_ints {m : Int} {xs : List Int} : biD .max [.list (.int m :: xs.map .int)] = some (.int (xs.foldl max m)) := by
  have z : biD .max [.list (PyData.int m :: xs.map PyData.int)] = _ := OrdN.int.max (fun _ => rfl)
  rw [z, mostB_max]
omit [Mode] in
theorem le_foldMin {p : Int} : ∀ (xs : List Int) (m : Int), p ≤ xs.foldl min m ↔ p ≤ m ∧ ∀ x ∈ xs, p ≤ x
  | [], m => by simp
  | x :: xs, m => by
    rw [List.foldl_cons, le_foldMin xs]
    simp only [List.mem_cons, forall_eq_or_imp]
    constructor
    · rintro ⟨a, b⟩; exact ⟨by omega, by omega, b⟩
    · rintro ⟨a, b, c⟩; exact ⟨by omega, c⟩
omit [Mode] in
theorem foldMax_le {p : Int} : ∀ (xs : List Int) (m : Int), xs.foldl max m ≤ p ↔ m ≤ p ∧ ∀ x ∈ xs, x ≤ p
  | [], m => by simp
  | x :: xs, m => by
    rw [List.foldl_cons, foldMax_le xs]
    simp only [List.mem_cons, forall_eq_or_imp]
    constructor
    · rintro ⟨a, b⟩; exact ⟨by omega, by omega, b⟩
    · rintro ⟨a, b, c⟩; exact ⟨by omega, c⟩
omit [Mode] in
theorem foldMax_mem : ∀ (xs : List Int) (m : Int), xs.foldl max m ∈ m :: xs
  | [], m => List.mem_cons_self
  | x :: xs, m => by
    rw [List.foldl_cons]
    have := foldMax_mem xs (max m x)
    rcases List.mem_cons.mp this with h | h
    · rw [h]
      by_cases c : m ≤ x
      · rw [show max m x = x by omega]; exact List.mem_cons_of_mem _ List.mem_cons_self
      · rw [show max m x = m by omega]; exact List.mem_cons_self
    · exact List.mem_cons_of_mem _ (List.mem_cons_of_mem _ h)
omit [Mode] in
theorem foldMin_mem : ∀ (xs : List Int) (m : Int), xs.foldl min m ∈ m :: xs
  | [], m => List.mem_cons_self
  | x :: xs, m => by
    rw [List.foldl_cons]
    have := foldMin_mem xs (min m x)
    rcases List.mem_cons.mp this with h | h
    · rw [h]
      by_cases c : m ≤ x
      · rw [show min m x = m by omega]; exact List.mem_cons_self
      · rw [show min m x = x by omega]; exact List.mem_cons_of_mem _ List.mem_cons_self
    · exact List.mem_cons_of_mem _ (List.mem_cons_of_mem _ h)
omit [Mode] in
theorem nodup_len {α : Type} [DecidableEq α] : ∀ (l M : List α), l.Nodup → (∀ x ∈ l, x ∈ M) → l.length ≤ M.length
  | [], M, _, _ => Nat.zero_le _
  | x :: l, M, hn, hs => by
    rw [List.nodup_cons] at hn
    have hx := hs x List.mem_cons_self
    have ih := nodup_len l (M.erase x) hn.2 fun y hy => by
      have hne : y ≠ x := fun e => hn.1 (by rw [← e]; exact hy)
      exact (List.mem_erase_of_ne hne).mpr (hs y (List.mem_cons_of_mem _ hy))
    have hl := List.length_erase_of_mem hx
    have hp : 0 < M.length := List.length_pos_of_mem hx
    rw [List.length_cons]
    omega
omit [Mode] in
theorem perm_of_sub {α : Type} [DecidableEq α] {l M : List α} (hn : l.Nodup) (hm : M.Nodup) (hs : ∀ x ∈ l, x ∈ M) (hl : M.length ≤ l.length) : l.Perm M := by
  refine (List.perm_ext_iff_of_nodup hn hm).mpr fun x => ⟨hs x, fun hx => ?_⟩
  refine Classical.byContradiction fun n => ?_
  have := nodup_len (x :: l) M (List.nodup_cons.mpr ⟨n, hn⟩) fun y hy => by
    rcases List.mem_cons.mp hy with rfl | hy
    · exact hx
    · exact hs y hy
  rw [List.length_cons] at this
  omega
end Pf

namespace Pf
open PySem PySem.Spec PyProof.Rows L2
variable [Mode]
variable {Γ : Gam} {body : Sms} {tg : Tg} {α J : Type} {s : DS}
theorem for_any (S : J → List Slot) : ∀ {items : List D} {j : J} {s : DS}, (∀ x ∈ items, ∀ j s, ∃ ρ1 j' s', bindT tg x (S j) = some ρ1 ∧ evSs Γ body ρ1 s = some (.nx (S j') s')) → ∃ j' s', forE Γ body tg items (S j) s = some (.nx (S j') s')
  | [], j, s, _ => ⟨j, s, rfl⟩
  | x :: xs, j, s, h => by
    obtain ⟨ρ1, j1, s1, h1, h2⟩ := h x List.mem_cons_self j s
    obtain ⟨j2, s2, h3⟩ := for_any S (items := xs) (j := j1) (s := s1) fun y hy => h y (List.mem_cons_of_mem _ hy)
    exact ⟨j2, s2, by rw [for_step h1 h2, h3]⟩
theorem for_ret {x : D} {xs : List D} {ρ ρ1 : List Slot} {r : D} (h1 : bindT tg x ρ = some ρ1) (h2 : evSs Γ body ρ1 s = some (.rt r s)) : forE Γ body tg (x :: xs) ρ s = some (.rt r s) := by
  rw [forE_cons, h1, Option.bind_some, h2]
  rfl
theorem for_all {e : α → D} {ok : α → Bool} {r : D} (S : J → List Slot) : ∀ {xs : List α} {j : J}, (∀ x ∈ xs, ∀ j, ∃ ρ1 j', bindT tg (e x) (S j) = some ρ1 ∧ evSs Γ body ρ1 s = some (if ok x = true then .nx (S j') s else .rt r s)) →
    ∃ j', forE Γ body tg (xs.map e) (S j) s = some (if xs.all ok = true then .nx (S j') s else .rt r s)
  | [], j, _ => ⟨j, rfl⟩
  | x :: xs, j, h => by
    obtain ⟨ρ1, j1, h1, h2⟩ := h x List.mem_cons_self j
    by_cases c : ok x = true
    · rw [if_pos c] at h2
      obtain ⟨j2, h3⟩ := for_all S (xs := xs) (j := j1) fun y hy => h y (List.mem_cons_of_mem _ hy)
      refine ⟨j2, ?_⟩
      rw [List.map_cons, for_step h1 h2, h3, List.all_cons, c, Bool.true_and]
    · rw [if_neg c] at h2
      refine ⟨j, ?_⟩
      rw [List.map_cons, for_ret h1 h2, List.all_cons, Bool.eq_false_iff.mpr c, Bool.false_and]
      rfl
theorem for_brk {x : D} {xs : List D} {ρ ρ1 ρ2 : List Slot} {s2 : DS} (h1 : bindT tg x ρ = some ρ1) (h2 : evSs Γ body ρ1 s = some (.bk ρ2 s2)) : forE Γ body tg (x :: xs) ρ s = some (.nx ρ2 s2) := by
  rw [forE_cons, h1, Option.bind_some, h2]
  rfl
section
variable {κ α : Type} [DecidableEq κ]
theorem kput_mem {l : List (κ × α)} {k : κ} {v : α} {p : κ × α} (h : p ∈ kput l k v) : p ∈ l ∨ p = (k, v) := by
  unfold kput at h
  split at h
  · obtain ⟨q, hq, rfl⟩ := List.mem_map.mp h
    split
    · rename_i e
      exact .inr (by rw [e])
    · exact .inl hq
  · rcases List.mem_append.mp h with h | h
    · exact .inl h
    · exact .inr (List.mem_singleton.mp h)
theorem kput_keys {l : List (κ × α)} {k : κ} {v : α} (h : k ∈ l.map (·.1)) : (kput l k v).map (·.1) = l.map (·.1) := by
  unfold kput
  have : (l.any fun p => decide (p.1 = k)) = true := by
    obtain ⟨q, hq, e⟩ := List.mem_map.mp h
    exact List.any_eq_true.mpr ⟨q, hq, by simpa using e⟩
  rw [if_pos this, List.map_map]
  refine List.map_congr_left fun p _ => ?_
  show (if p.1 = k then (p.1, v) else p).1 = p.1
  split <;> rfl
theorem kput_nodup {l : List (κ × α)} {k : κ} {v : α} (h : (l.map (·.1)).Nodup) : ((kput l k v).map (·.1)).Nodup := by
  by_cases c : k ∈ l.map (·.1)
  · rw [kput_keys c]
    exact h
  · rw [kput_new c, List.map_append]
    refine List.nodup_append.mpr ⟨h, by simp, fun a ha b hb => ?_⟩
    obtain rfl : b = k := by simpa using hb
    exact fun e => c (by rw [← e]; exact ha)
theorem kput_len {l : List (κ × α)} {k : κ} {v : α} : (kput l k v).length ≤ l.length + 1 ∧ 1 ≤ (kput l k v).length := by
  unfold kput
  split
  · rename_i h
    obtain ⟨q, hq, _⟩ := List.any_eq_true.mp h
    have := List.length_pos_of_mem hq
    rw [List.length_map]
    omega
  · simp
theorem dmk_all : ∀ (l acc : List (κ × α)), (acc.map (·.1)).Nodup → ((l.foldl (fun a p => kput a p.1 p.2) acc).map (·.1)).Nodup ∧ (∀ p ∈ l.foldl (fun a p => kput a p.1 p.2) acc, p ∈ acc ∨ p ∈ l) ∧ (l.foldl (fun a p => kput a p.1 p.2) acc).length ≤ acc.length + l.length ∧ (1 ≤ acc.length + l.length → 1 ≤ (l.foldl (fun a p => kput a p.1 p.2) acc).length)
  | [], acc, h => ⟨h, fun p hp => .inl hp, Nat.le_refl _, fun h => h⟩
  | x :: l, acc, h => by
    obtain ⟨h1, h2, h3, h4⟩ := dmk_all l (kput acc x.1 x.2) (kput_nodup h)
    have hk := kput_len (l := acc) (k := x.1) (v := x.2)
    rw [List.foldl_cons]
    refine ⟨h1, fun p hp => ?_, by rw [List.length_cons]; omega, fun _ => h4 (by omega)⟩
    rcases h2 p hp with h | h
    · rcases kput_mem h with h | h
      · exact .inl h
      · exact .inr (by rw [h]; exact List.mem_cons_self)
    · exact .inr (List.mem_cons_of_mem _ h)
end
theorem dof_pairs {κ α : Type} [DecidableEq κ] {g : κ → D} {f : α → D} (hg : OrdW 20 g) (hk : ∀ k, kindOk false (g k) = true) (l : List (κ × α)) : dofD (.list (l.map (e2 g f))) = some (.dict ((.bool false, .none) :: eD g f (dmk l))) := by
  rw [dof_list]
  have z := dputs_enc (f := f) hg hk l []
  have e : l.map (e2 g f) = l.map fun p => .tuple [g p.1, f p.2] := rfl
  have e0 : eD g f ([] : List (κ × α)) = [] := rfl
  rw [e0] at z
  rw [e, z]
  rfl
end Pf

namespace Pf
open PySem PySem.Spec PyProof.Rows L2
variable [Mode]
section
variable {Γ : Gam} {elt : Ex} {tg : Tg} {it : It} {ifs : Exs} {ρ : List Slot} {s s' s1 : DS} {items r : List D}
/-- a comprehension, from its walk -/
theorem lcx (h1 : evI Γ it ρ s = some (items, s1)) (ho : isOw (blkR ρ tg.slots) elt = false) (hl : items.length ≤ 16777216) (h2 : lcE Γ elt ifs tg (blkR ρ tg.slots) items s1 = some (r, s')) : evE Γ (.lc elt tg it ifs) ρ s = some (.list r, s') := by
  rw [evE_19, h1, bnd_some, if_pos ⟨ho, hl⟩]
  show mpp (lcE Γ elt ifs tg (blkR ρ tg.slots) items s1) _ _ = _
  rw [h2]
  rfl
theorem lcs (h1 : evI Γ it ρ s = some (items, s)) (ho : isOw (blkR ρ tg.slots) elt = false) (hl : items.length ≤ 16777216) (h2 : lcE Γ elt ifs tg (blkR ρ tg.slots) items s = some (r, s)) : evE Γ (.lc elt tg it ifs) ρ s = some (.list r, s) := lcx h1 ho hl h2
end
section
variable {α : Type} {p : α → Bool} {xs : List α}
@[simp] theorem lend_no : lend .no = .no := rfl
@[simp] theorem lend_sh {d : D} : lend (.sh d) = .sh d := rfl
@[simp] theorem lend_ow {d : D} : lend (.ow d) = .le d := rfl
@[simp] theorem lend_le {d : D} : lend (.le d) = .le d := rfl
@[simp] theorem all_idm : (xs.map p).all id = xs.all p := by rw [List.all_map]; rfl
@[simp] theorem any_idm : (xs.map p).any id = xs.any p := by rw [List.any_map]; rfl
end
end Pf

namespace Pf
open PySem PySem.Spec PyProof.Rows L2
variable [Mode]
section
variable {Γ : Gam} {c : Ex} {body : Sms} {ρ ρ2 : List Slot} {s s1 s2 : DS} {d : D} {n : Nat}
theorem whl_step (h1 : evE Γ c ρ s = some (d, s1)) (ht : truD d = some true) (h2 : evSs Γ body ρ s1 = some (.nx ρ2 s2)) : whlE Γ c body (n + 1) ρ s = whlE Γ c body n ρ2 s2 := by
  show whlRun _ _ (n + 1) ρ s = _
  rw [whlRun]
  show (evE Γ c ρ s).bind _ = _
  rw [h1, Option.bind_some, ht, Option.bind_some, if_pos rfl]
  show (evSs Γ body ρ s1).bind _ = _
  rw [h2]
  rfl
theorem whl_end (h1 : evE Γ c ρ s = some (d, s1)) (ht : truD d = some false) : whlE Γ c body (n + 1) ρ s = some (.nx ρ s1) := by
  show whlRun _ _ (n + 1) ρ s = _
  rw [whlRun]
  show (evE Γ c ρ s).bind _ = _
  rw [h1, Option.bind_some, ht]
  rfl
theorem whl_ret {r : D} (h1 : evE Γ c ρ s = some (d, s1)) (ht : truD d = some true) (h2 : evSs Γ body ρ s1 = some (.rt r s2)) : whlE Γ c body (n + 1) ρ s = some (.rt r s2) := by
  show whlRun _ _ (n + 1) ρ s = _
  rw [whlRun]
  show (evE Γ c ρ s).bind _ = _
  rw [h1, Option.bind_some, ht, Option.bind_some, if_pos rfl]
  show (evSs Γ body ρ s1).bind _ = _
  rw [h2]
  rfl
theorem whl_bk (h1 : evE Γ c ρ s = some (d, s1)) (ht : truD d = some true) (h2 : evSs Γ body ρ s1 = some (.bk ρ2 s2)) : whlE Γ c body (n + 1) ρ s = some (.nx ρ2 s2) := by
  show whlRun _ _ (n + 1) ρ s = _
  rw [whlRun]
  show (evE Γ c ρ s).bind _ = _
  rw [h1, Option.bind_some, ht, Option.bind_some, if_pos rfl]
  show (evSs Γ body ρ s1).bind _ = _
  rw [h2]
  rfl
/-- a loop that ends by its test: what holds of the state at each turn holds at the end -/
theorem whl_inv {σ J : Type} (S : σ → J → List Slot) (b : σ → Bool) (f : σ → σ) (m : σ → Nat) (I : σ → Prop) (tr : σ → D) (htr : ∀ a, truD (tr a) = some (b a))
    (hc : ∀ a j, I a → evE Γ c (S a j) s = some (tr a, s)) (hs : ∀ a j, I a → b a = true → (∃ j', evSs Γ body (S a j) s = some (.nx (S (f a) j') s)) ∧ I (f a) ∧ m (f a) < m a) :
    ∀ (n : Nat) (a : σ) (j : J), I a → m a < n → ∃ a' j', whlE Γ c body n (S a j) s = some (.nx (S a' j') s) ∧ I a' ∧ b a' = false
  | 0, a, j, hI, h => absurd h (Nat.not_lt_zero _)
  | n + 1, a, j, hI, h => by
    cases hb : b a with
    | false => exact ⟨a, j, whl_end (hc a j hI) ((htr a).trans (by rw [hb])), hI, hb⟩
    | true =>
      obtain ⟨⟨j', h1⟩, h2, h3⟩ := hs a j hI hb
      obtain ⟨a', j'', q, q2, q3⟩ := whl_inv S b f m I tr htr hc hs n (f a) j' h2 (by omega)
      exact ⟨a', j'', (whl_step (hc a j hI) ((htr a).trans (by rw [hb])) h1).trans q, q2, q3⟩
end
def ins (x : Int) : List Int → List Int
  | [] => [x]
  | y :: ys => if x ≤ y then x :: y :: ys else y :: ins x ys
def isort : List Int → List Int
  | [] => []
  | x :: xs => ins x (isort xs)
theorem ins_perm (x : Int) : ∀ l : List Int, (ins x l).Perm (x :: l)
  | [] => .refl _
  | y :: ys => by
    rw [ins]
    split
    · exact .refl _
    · exact ((ins_perm x ys).cons y).trans (.swap x y ys)
theorem isort_perm : ∀ l : List Int, (isort l).Perm l
  | [] => .refl _
  | x :: xs => (ins_perm x _).trans ((isort_perm xs).cons x)
theorem ins_sorted (x : Int) : ∀ l : List Int, l.Pairwise (· ≤ ·) → (ins x l).Pairwise (· ≤ ·)
  | [], _ => by simp [ins]
  | y :: ys, h => by
    obtain ⟨h1, h2⟩ := List.pairwise_cons.mp h
    rw [ins]
    split
    · rename_i c
      refine List.pairwise_cons.mpr ⟨fun z hz => ?_, h⟩
      rcases List.mem_cons.mp hz with rfl | hz
      · exact c
      · have := h1 z hz; omega
    · rename_i c
      refine List.pairwise_cons.mpr ⟨fun z hz => ?_, ins_sorted x ys h2⟩
      rcases List.mem_cons.mp ((ins_perm x ys).mem_iff.mp hz) with rfl | hz
      · omega
      · exact h1 z hz
theorem isort_sorted : ∀ l : List Int, (isort l).Pairwise (· ≤ ·)
  | [] => .nil
  | x :: xs => ins_sorted x _ (isort_sorted xs)
theorem srt_isort (l : List Int) : l.mergeSort (leB PyData.int) = isort l :=
  srt_eq OrdN.int (isort_perm l).symm ((isort_sorted l).imp fun h => by rw [leB_int]; exact decide_eq_true h)
theorem isort_id {l : List Int} (h : l.Pairwise (· ≤ ·)) : isort l = l := by
  rw [← srt_isort]
  exact srt_id (h.imp fun h => by rw [leB_int]; exact decide_eq_true h)
@[simp] theorem sorted_ints {l : List Int} : biD .sorted [.list (l.map .int)] = some (.list ((isort l).map .int)) := by rw [← srt_isort]; exact OrdN.int.sortedL
@[simp] theorem sorted_intsT {l : List Int} : biD .sorted [.tuple (l.map .int)] = some (.list ((isort l).map .int)) := by rw [← srt_isort]; exact OrdN.int.sortedT
theorem sset_ints {l : List Int} (h : l.length < 64) : ssetQ (l.map .int) = some (.list ((ssetI l).map .int)) := by
  unfold ssetQ
  cases l with
  | nil => simp [prsD, ssetL, ssetI, dd]
  | cons x l =>
    have e : prsD ((x :: l).map PyData.int) = none := rfl
    rw [e]
    simp only
    rw [intsD_id, Option.bind_some, if_pos h]
@[simp] theorem ssetD_L {xs : List D} : ssetD (.list xs) = ssetS xs := id rfl
theorem ssetS_ints {l : List Int} (h : l.length < 64) : ssetS (l.map .int) = some (.list ((ssetI l).map .int)) := by
  unfold ssetS
  rw [sset_ints h]
@[simp] theorem ssetD_T {xs : List D} : ssetD (.tuple xs) = ssetQ xs := id rfl
end Pf

namespace Pf
open PySem PySem.Spec PyProof.Rows L2
variable [Mode]
@[simp] theorem bi_sortedK {es : List (D × D)} : biD .sorted [.dict ((.bool false, .none) :: es)] = skD (es.map (·.1)) := id rfl
@[simp] theorem bi_sortedKT {es : List (D × D)} : biD .sorted [.dict ((.bool true, .none) :: es)] = biD .sorted [.list (es.map (·.1))] := id rfl
theorem skD_ints {ns : List Int} (h : ns.length < 64) : skD (ns.map .int) = some (.list ((isort ns).map .int)) := by
  unfold skD
  rw [intsD_id]
  simp only
  rw [if_pos h, sortD_map, srt_isort]
theorem strsD_id : ∀ {xs : List Str}, strsD (xs.map PyData.str) = some xs
  | [] => rfl
  | x :: xs => by
    show (strsD (xs.map PyData.str)).map (x :: ·) = _
    rw [strsD_id]
    rfl
theorem skD_strs {xs : List Str} (hne : xs ≠ []) (h : xs.length < 64) : skD (xs.map .str) = some (.list ((xs.mergeSort (leB PyData.str)).map .str)) := by
  unfold skD
  have e : intsD (xs.map PyData.str) = none := by
    cases xs with
    | nil => exact absurd rfl hne
    | cons x xs => rfl
  rw [e, strsD_id]
  simp only
  rw [if_pos h, sortD_map]
theorem eD_keys {κ α : Type} {g : κ → D} {f : α → D} (l : List (κ × α)) : (eD g f l).map (·.1) = (l.map (·.1)).map g := by
  unfold eD
  rw [List.map_map, List.map_map]
  rfl
def ssetZ (zs : List Str) : List Str := (dd zs).mergeSort (leB PyData.str)
theorem ssetS_strs {zs : List Str} (h : zs.length < 64) : ssetS (zs.map .str) = some (.list ((ssetZ zs).map .str)) := by
  unfold ssetS ssetQ
  cases zs with
  | nil => simp [prsD, ssetL, ssetZ, dd]
  | cons x l =>
    have e : prsD ((x :: l).map PyData.str) = none := rfl
    have e2 : intsD ((x :: l).map PyData.str) = none := rfl
    rw [e]
    simp only [e2, Option.bind_none]
    rw [strsD_id, Option.bind_some, if_pos h, sortD_map]
    rfl
theorem ssetZ_perm (zs : List Str) : (ssetZ zs).Perm (dd zs) := List.mergeSort_perm _ _
theorem ssetZ_mem {zs : List Str} {x : Str} : x ∈ ssetZ zs ↔ x ∈ zs := (ssetZ_perm zs).mem_iff.trans dd_mem
theorem ssetZ_nodup (zs : List Str) : (ssetZ zs).Nodup := (ssetZ_perm zs).nodup_iff.mpr dd_nodup
/-- d != {} of a dict of numbers -/
theorem ne_dict0 {es : List (D × D)} (h : (es.all fun p => isInt p.2) = true) : cmpD .NotEq (.dict ((.bool false, .none) :: es)) (.dict [(.bool false, .none)]) = some (!es.isEmpty) := by
  have z : cmpD .NotEq (.dict ((.bool false, .none) :: es)) (.dict [(.bool false, .none)]) = (if (es.all fun p => isInt p.2) = true ∧ (([] : List (D × D)).all fun p => isInt p.2) = true then some (es.length == 0 && deqE [] es) else none).map (!·) := rfl
  rw [z, if_pos ⟨h, rfl⟩]
  cases es <;> rfl
end Pf

namespace Pf
open PySem PySem.Spec PyProof.Rows L2
variable [Mode]
section
variable {α β γ : Type} {Γ : Gam} {ρ : List Slot} {s ds : DS} {i : Nat} {elt : Ex} {ifs : Exs} {tg : Tg}
theorem getS_V {d : D} (h : getS ρ i = some d) : getV ρ i = some d := h
theorem zip_tail {xs : List α} {e : α → D} (h : getS ρ i = some (.tuple (xs.map e))) :
    evI Γ (.zip (.var i) (.sl (.var i) (.cons (.int 1) .nil) .nil)) ρ s = some ((xs.zip xs.tail).map fun p => .tuple [e p.1, e p.2], s) := by
  rw [← zipD_mapT]
  have h := getS_V h
  generalize xs.map e = X at *
  simp [h]
theorem zip_mem {w : List α} {p : α × α} (h : p ∈ w.zip w.tail) : p.1 ∈ w ∧ p.2 ∈ w :=
  ⟨(List.of_mem_zip h).1, List.mem_of_mem_tail (List.of_mem_zip h).2⟩
theorem all_of {f : α → Bool} {xs : List α} : biD .all [.list (xs.map fun x => .bool (f x))] = some (.bool (xs.all f)) := by
  rw [bi_all, boolsD_of, Option.map_some, all_idm]
theorem any_of {f : α → Bool} {xs : List α} : biD .any [.list (xs.map fun x => .bool (f x))] = some (.bool (xs.any f)) := by
  rw [bi_any, boolsD_of, Option.map_some, any_idm]
omit [Mode] in
theorem any_not {f : α → Bool} {xs : List α} : (xs.any fun x => !f x) = !xs.all f := by
  induction xs with
  | nil => rfl
  | cons x xs ih => rw [List.any_cons, List.all_cons, ih, Bool.not_and]
theorem any_nof {f : α → Bool} {xs : List α} : biD .any [.list (xs.map fun x => .bool (!f x))] = some (.bool (!xs.all f)) := by
  rw [any_of, any_not]
/-- a comprehension that draws to choose, and draws what it makes -/
theorem lcE_dr {e' : γ → D} {e : β → D} {π : β → γ} {P : β → Prop} : ∀ {xs : List γ} (s : DS), (∀ x ∈ xs, ∀ s, ∃ (ρ1 : List Slot) (c : Bool) (s1 : DS), bindT tg (e' x) ρ = some ρ1 ∧ evC Γ ifs ρ1 s = some (c, s1) ∧ (c = true → ∃ b s2, evE Γ elt ρ1 s1 = some (e b, s2) ∧ π b = x ∧ P b)) →
    ∃ (bs : List β) (s' : DS), lcE Γ elt ifs tg ρ (xs.map e') s = some (bs.map e, s') ∧ (bs.map π).Sublist xs ∧ ∀ b ∈ bs, P b
  | [], s, _ => ⟨[], s, rfl, .slnil, fun _ h => by cases h⟩
  | x :: xs, s, h => by
    obtain ⟨ρ1, c, s1, h0, h1, h2⟩ := h x List.mem_cons_self s
    cases c with
    | true =>
      obtain ⟨b, s2, k1, k2, k3⟩ := h2 rfl
      obtain ⟨bs, s3, h4, h5, h6⟩ := lcE_dr (xs := xs) s2 fun y hy => h y (List.mem_cons_of_mem _ hy)
      refine ⟨b :: bs, s3, ?_, by rw [List.map_cons, k2]; exact h5.cons₂ _, fun q hq => ?_⟩
      · unfold lcE at h4 ⊢
        simp only [List.map_cons, lcRun, h0, Option.bind_some, h1, if_pos, k1, h4, Option.map_some]
      · rcases List.mem_cons.mp hq with rfl | hq
        · exact k3
        · exact h6 q hq
    | false =>
      obtain ⟨bs, s3, h4, h5, h6⟩ := lcE_dr (xs := xs) s1 fun y hy => h y (List.mem_cons_of_mem _ hy)
      refine ⟨bs, s3, ?_, h5.cons _, h6⟩
      unfold lcE at h4 ⊢
      simp [List.map_cons, lcRun, h0, h1, h4]
theorem dcx {it : It} {items : List D} {key val : Ex} {r : List (D × D)} (h1 : evI Γ it ρ s = some (items, s)) (ho : isOw (blkR ρ tg.slots) val = false) (hl : items.length ≤ 16777216) (h2 : dcE Γ key val ifs tg (blkR ρ tg.slots) items [] s = some (r, s)) :
    evE Γ (.dc key val tg it ifs) ρ s = some (.dict ((.bool false, .none) :: r), s) := by
  rw [evE_dc, h1, bnd_some, if_pos ⟨ho, hl⟩]
  show mpp (dcE Γ key val ifs tg (blkR ρ tg.slots) items [] s) _ _ = _
  rw [h2]
  rfl
end
end Pf

namespace Pf
open PySem PySem.Spec PyProof.Rows L2
variable [Mode]
def eQ (q : Rat) : D := .tuple [.int q.num, .int (q.den : Int)]
section
variable {ds : DS} {n b : Int} {p q : Rat}
omit [Mode] in
theorem low_rat (hb : 0 < b) : low n b = ((Rat.divInt n b).num, ((Rat.divInt n b).den : Int)) := by
  unfold low
  have s1 : b.sign = 1 := Int.sign_eq_one_of_pos hb
  have g : Int.gcd b n = Nat.gcd n.natAbs b.natAbs := by rw [Int.gcd_comm]; rfl
  rw [Rat.num_divInt, Rat.den_divInt, s1, Int.one_mul, if_neg (by omega), g]
  refine Prod.ext rfl ?_
  show b / _ = ((b.natAbs / Nat.gcd n.natAbs b.natAbs : Nat) : Int)
  rw [Int.natCast_ediv, Int.natAbs_of_nonneg (Int.le_of_lt hb)]
theorem eQ_low (hb : 0 < b) : PyData.tuple [.int (low n b).1, .int (low n b).2] = eQ (Rat.divInt n b) := by
  rw [low_rat hb]
  rfl
/-- the greatest common part, step by step: two steps halve -/
theorem low_whl2 : ∀ (k : Nat) (fu : Nat) (a c : Nat) (x y : Slot), c < 2 ^ k → 2 * k < fu → whlE ⟨[], []⟩ lowC lowB fu [x, y, .sh (.int (a : Int)), .sh (.int (c : Int))] ds = some (.nx [x, y, .sh (.int (Nat.gcd a c : Nat)), .sh (.int 0)] ds)
  | 0, fu, a, c, x, y, h, hf => by
    have : c = 0 := by simpa using h
    exact low_whl 0 fu a c x y (by omega) (by omega)
  | k + 1, fu, a, c, x, y, h, hf => by
    have one : ∀ (fu a c : Nat), 0 < c → whlE ⟨[], []⟩ lowC lowB (fu + 1) [x, y, .sh (.int (a : Int)), .sh (.int (c : Int))] ds = whlE ⟨[], []⟩ lowC lowB fu [x, y, .sh (.int (c : Int)), .sh (.int ((a % c : Nat) : Int))] ds := fun fu a c h0 => by
      have c0 : (0 : Int) < (c : Int) := by omega
      have hb : evSs ⟨[], []⟩ lowB [x, y, .sh (.int (a : Int)), .sh (.int (c : Int))] ds = some (.nx [x, y, .sh (.int (c : Int)), .sh (.int ((a % c : Nat) : Int))] ds) := by
        simp (disch := omega) [lowB, c0]
        omega
      have hc2 : evE ⟨[], []⟩ lowC [x, y, .sh (.int (a : Int)), .sh (.int (c : Int))] ds = some (.bool true, ds) := by
        simp [lowC, c0]
        omega
      exact whl_step hc2 rfl hb
    by_cases hc : c = 0
    · subst hc
      exact low_whl 0 fu a 0 x y (by omega) (by omega)
    · obtain ⟨fu, rfl⟩ : ∃ f, fu = f + 1 + 1 := ⟨fu - 2, by omega⟩
      rw [one _ _ _ (by omega), Nat.gcd_comm a c, Nat.gcd_rec c a, Nat.gcd_comm (a % c) c]
      have hm := Nat.mod_lt a (show 0 < c by omega)
      by_cases hr : a % c = 0
      · rw [hr]
        exact low_whl 0 (fu + 1) c 0 x y (by omega) (by omega)
      · rw [one _ _ _ (by omega), Nat.gcd_comm c (a % c), Nat.gcd_rec (a % c) c, Nat.gcd_comm (c % (a % c)) (a % c)]
        refine low_whl2 k fu (a % c) (c % (a % c)) x y ?_ (by omega)
        rw [Nat.pow_succ] at h
        have h1 := Nat.mod_lt c (show 0 < a % c by omega)
        by_cases h2 : 2 * (a % c) ≤ c
        · omega
        · have h3 : c % (a % c) = c - a % c := by
            rw [Nat.mod_eq_sub_mod (by omega), Nat.mod_eq_of_lt (by omega)]
          omega
theorem lowQ (hb : 0 < b) (hl : b < 1073741824) : sLowF [.int n, .int b] ds = some (eQ (Rat.divInt n b), ds) := by
  obtain ⟨g1, g2⟩ := gcd_bd (n := n) hb
  have h0 : ¬ b < 0 := by omega
  have z := low_whl2 (ds := ds) 30 fuel n.natAbs b.natAbs (.sh (.int n)) (.sh (.int b)) (by show _ < 1073741824; omega) (by unfold fuel; omega)
  have eb : ((b.natAbs : Nat) : Int) = b := by omega
  rw [eb] at z
  rw [← eQ_low hb]
  simp (disch := omega) [sLowF, h0, z, low, g1]
  omega
theorem ratioQ (hb : 0 < b) (hl : b < 1073741824) : sRatioF [.int n, .int b] ds = some (eQ (Rat.divInt n b), ds) := by
  rw [ratio_eq hb hl, eQ_low hb]
theorem dpos (q : Rat) : (0 : Int) < q.den := by have := q.den_pos; omega
theorem den_lt {p q : Rat} {m : Int} (h : ((p.den * q.den : Nat) : Int) < m) : (p.den : Int) < m ∧ (q.den : Int) < m := by
  have h1 := Nat.le_mul_of_pos_right p.den q.den_pos
  have h2 := Nat.le_mul_of_pos_left q.den p.den_pos
  omega
theorem addI (p q : Rat) : Rat.divInt (p.num * q.den + q.num * p.den) (p.den * q.den) = p + q := by
  have a := Rat.divInt_add_divInt p.num q.num (d₁ := p.den) (d₂ := q.den) (by have := dpos p; omega) (by have := dpos q; omega)
  rw [← a, Rat.num_divInt_den, Rat.num_divInt_den]
theorem mulI (p q : Rat) : Rat.divInt (p.num * q.num) (p.den * q.den) = p * q := by
  rw [← Rat.divInt_mul_divInt, Rat.num_divInt_den, Rat.num_divInt_den]
theorem addQ (h : ((p.den * q.den : Nat) : Int) < 1073741824) : sAddF [eQ p, eQ q] ds = some (eQ (p + q), ds) := by
  obtain ⟨h1, h2⟩ := den_lt h
  have p1 := dpos p
  have p2 := dpos q
  have s1 : smallI (p.den : Int) = true := smallI_of (by omega) h1
  have s2 : smallI (q.den : Int) = true := smallI_of (by omega) h2
  rw [Int.natCast_mul] at h
  have z := fun n => ratioQ (ds := ds) (n := n) (Int.mul_pos p1 p2) h
  rw [← addI]
  unfold eQ at *
  simp (disch := omega) [sAddF, addB, s1, s2, z, -ratio_eq]
theorem laddQ (h : ((p.den * q.den : Nat) : Int) < 1073741824) : sLAddF [eQ p, eQ q] ds = some (eQ (p + q), ds) := by
  obtain ⟨h1, h2⟩ := den_lt h
  have p1 := dpos p
  have p2 := dpos q
  have s1 : smallI (p.den : Int) = true := smallI_of (by omega) h1
  have s2 : smallI (q.den : Int) = true := smallI_of (by omega) h2
  rw [Int.natCast_mul] at h
  have z := fun n => lowQ (ds := ds) (n := n) (Int.mul_pos p1 p2) h
  rw [← addI]
  unfold eQ at *
  simp (disch := omega) [sLAddF, addB, s1, s2, z, -low_eq]
theorem mulQ (h : ((p.den * q.den : Nat) : Int) < 1073741824) (hn : smallI p.num = true) : sMulF [eQ p, eQ q] ds = some (eQ (p * q), ds) := by
  obtain ⟨h1, h2⟩ := den_lt h
  have p1 := dpos p
  have p2 := dpos q
  have s1 : smallI (p.den : Int) = true := smallI_of (by omega) h1
  rw [Int.natCast_mul] at h
  have z := fun n => ratioQ (ds := ds) (n := n) (Int.mul_pos p1 p2) h
  rw [← mulI]
  unfold eQ at *
  simp (disch := omega) [sMulF, mulB, s1, hn, z, -ratio_eq]
theorem lmulQ (h : ((p.den * q.den : Nat) : Int) < 1073741824) (hn : smallI p.num = true) : sLMulF [eQ p, eQ q] ds = some (eQ (p * q), ds) := by
  obtain ⟨h1, h2⟩ := den_lt h
  have p1 := dpos p
  have p2 := dpos q
  have s1 : smallI (p.den : Int) = true := smallI_of (by omega) h1
  rw [Int.natCast_mul] at h
  have z := fun n => lowQ (ds := ds) (n := n) (Int.mul_pos p1 p2) h
  rw [← mulI]
  unfold eQ at *
  simp (disch := omega) [sLMulF, mulB, s1, hn, z, -low_eq]
theorem lessQ (h1 : (p.den : Int) < 1073741824) (h2 : (q.den : Int) < 1073741824) : sLessF [eQ p, eQ q] ds = some (.bool (decide (p < q)), ds) := by
  have z := less_eq (ds := ds) (n := p.num) (m := q.num) (dpos p) h1 (dpos q) h2
  unfold eQ
  rw [z]
  congr 3
  exact decide_eq_decide.mpr (Rat.lt_iff p q).symm
def Dv (D : Nat) (q : Rat) : Prop := ∃ k : Int, q = Rat.divInt k D
omit [Mode] in
theorem Dv.den {D : Nat} (hD : 0 < D) {q : Rat} (h : Dv D q) : q.den ≤ D := by
  obtain ⟨k, rfl⟩ := h
  rw [Rat.den_divInt, if_neg (by omega)]
  exact Nat.div_le_self _ _
omit [Mode] in
theorem Dv.add {D : Nat} (hD : 0 < D) {p q : Rat} (h1 : Dv D p) (h2 : Dv D q) : Dv D (p + q) := by
  obtain ⟨k, rfl⟩ := h1
  obtain ⟨l, rfl⟩ := h2
  refine ⟨k + l, ?_⟩
  rw [Rat.divInt_add_divInt _ _ (by omega) (by omega), ← Int.add_mul]
  exact Rat.divInt_mul_right (by omega)
omit [Mode] in
theorem Dv.mul {D E : Nat} {p q : Rat} (h1 : Dv D p) (h2 : Dv E q) : Dv (D * E) (p * q) := by
  obtain ⟨k, rfl⟩ := h1
  obtain ⟨l, rfl⟩ := h2
  exact ⟨k * l, by rw [Rat.divInt_mul_divInt, Int.natCast_mul]⟩
omit [Mode] in
theorem Dv.wide {D E : Nat} (hE : 0 < E) {q : Rat} (h : Dv D q) : Dv (D * E) q := by
  obtain ⟨k, rfl⟩ := h
  exact ⟨k * E, by rw [Int.natCast_mul, Rat.divInt_mul_right (by omega)]⟩
omit [Mode] in
theorem Dv.zero (D : Nat) : Dv D 0 := ⟨0, by rw [Rat.zero_divInt]⟩
omit [Mode] in
theorem Dv.one {D : Nat} (h : 0 < D) : Dv D 1 := ⟨D, by rw [Rat.divInt_self' (by omega)]⟩
omit [Mode] in
theorem num_le {q : Rat} (h0 : 0 ≤ q) (h1 : q ≤ 1) : 0 ≤ q.num ∧ q.num ≤ q.den := by
  refine ⟨Rat.num_nonneg.mpr h0, ?_⟩
  have := (Rat.le_iff q 1).mp h1
  simpa using this
omit [Mode] in
theorem eQ_inj {p q : Rat} (h : eQ p = eQ q) : p = q := by
  unfold eQ at h
  injection h with h
  injection h with h1 h2
  injection h2 with h2 _
  injection h1 with h1
  injection h2 with h2
  exact Rat.ext h1 (by omega)
theorem oQ : OrdE eQ := by
  have o := oF
  have e : ∀ q : Rat, eQ q = eF (q.num, (q.den : Int)) := fun _ => rfl
  exact ⟨fun a b => o.al (a.num, (a.den : Int)) (b.num, (b.den : Int)), fun a => o.ok (a.num, (a.den : Int)), fun a b h => by
    have := o.inj (a.num, (a.den : Int)) (b.num, (b.den : Int)) h
    exact Rat.ext (congrArg Prod.fst this) (by have := congrArg Prod.snd this; simp only at this; omega), .inl fun a => ⟨_, _, rfl⟩⟩
end
end Pf

namespace Pf
open PySem PySem.Spec PyProof.Rows L2
variable [Mode]
section
variable {α : Type}
def subsG (ks : List α) (a : List (List α)) : List (List α) := ks.foldl (fun a k => a ++ a.map (· ++ [k])) a
omit [Mode] in
theorem subsG_mem : ∀ (ks : List α) (a : List (List α)) (x : List α), x ∈ subsG ks a ↔ ∃ y ∈ a, ∃ z, z.Sublist ks ∧ x = y ++ z
  | [], a, x => by
    show x ∈ a ↔ _
    constructor
    · intro h
      exact ⟨x, h, [], .slnil, by rw [List.append_nil]⟩
    · rintro ⟨y, hy, z, hz, rfl⟩
      rw [List.sublist_nil.mp hz, List.append_nil]
      exact hy
  | k :: ks, a, x => by
    show x ∈ subsG ks (a ++ a.map (· ++ [k])) ↔ _
    rw [subsG_mem ks]
    constructor
    · rintro ⟨y, hy, z, hz, rfl⟩
      rcases List.mem_append.mp hy with hy | hy
      · exact ⟨y, hy, z, hz.cons _, rfl⟩
      · obtain ⟨w, hw, rfl⟩ := List.mem_map.mp hy
        exact ⟨w, hw, k :: z, hz.cons₂ _, by simp⟩
    · rintro ⟨y, hy, z, hz, rfl⟩
      cases hz with
      | cons _ h => exact ⟨y, List.mem_append.mpr (.inl hy), z, h, rfl⟩
      | cons_cons _ h =>
        rename_i z
        exact ⟨y ++ [k], List.mem_append.mpr (.inr (List.mem_map.mpr ⟨y, hy, rfl⟩)), z, h, by simp⟩
omit [Mode] in
theorem subs0_mem {ks : List α} {x : List α} : x ∈ subsG ks [[]] ↔ x.Sublist ks := by
  rw [subsG_mem]
  constructor
  · rintro ⟨y, hy, z, hz, rfl⟩
    rw [List.mem_singleton.mp hy]
    exact hz
  · intro h
    exact ⟨[], List.mem_singleton.mpr rfl, x, h, rfl⟩
omit [Mode] in
theorem subsG_nodup : ∀ (ks : List α) (a : List (List α)), a.Nodup → ks.Nodup → (∀ y ∈ a, ∀ k ∈ ks, k ∉ y) → (subsG ks a).Nodup
  | [], a, h, _, _ => h
  | k :: ks, a, h, hk, hd => by
    rw [List.nodup_cons] at hk
    refine subsG_nodup ks _ ?_ hk.2 fun y hy k' hk' hm => ?_
    · refine List.nodup_append.mpr ⟨h, ?_, fun x hx y hy e => ?_⟩
      · exact List.pairwise_map.mpr (h.imp fun hne e => hne (List.append_cancel_right e))
      · obtain ⟨w, hw, rfl⟩ := List.mem_map.mp hy
        exact hd x hx k List.mem_cons_self (by rw [e]; simp)
    · rcases List.mem_append.mp hy with hy | hy
      · exact hd y hy k' (List.mem_cons_of_mem _ hk') hm
      · obtain ⟨w, hw, rfl⟩ := List.mem_map.mp hy
        rcases List.mem_append.mp hm with hm | hm
        · exact hd w hw k' (List.mem_cons_of_mem _ hk') hm
        · rw [List.mem_singleton.mp hm] at hk'
          exact hk.1 hk'
omit [Mode] in
theorem subsG_len : ∀ (ks : List α) (a : List (List α)), (subsG ks a).length = 2 ^ ks.length * a.length
  | [], a => by show a.length = _; simp
  | k :: ks, a => by
    show (subsG ks (a ++ a.map (· ++ [k]))).length = _
    rw [subsG_len ks, List.length_append, List.length_map, List.length_cons, Nat.pow_succ, Nat.mul_assoc]
    congr 1
    omega
omit [Mode] in
theorem subs0_nodup {ks : List α} (h : ks.Nodup) : (subsG ks [[]]).Nodup := subsG_nodup ks _ (by simp) h fun y hy k _ hm => by
  rw [List.mem_singleton.mp hy] at hm
  cases hm
end
section
variable {κ β : Type} [DecidableEq κ] {g : κ → D} {f : β → D}
theorem dputsU_enc (hg : OrdW 20 g) (hk : ∀ k, kindOk true (g k) = true) : ∀ (l acc : List (κ × β)), dputsU (eD g f acc) (l.map fun p => .tuple [g p.1, f p.2]) = some (eD g f (l.foldl (fun a p => kput a p.1 p.2) acc))
  | [], _ => rfl
  | p :: l, acc => by
    have ih := dputsU_enc hg hk l (kput acc p.1 p.2)
    rw [List.map_cons, dputsU, if_pos (hk _), dput_enc hg, ih]
    rfl
theorem dofT_pairs (m : Mode.tm = false) (hg : OrdW 20 g) (hk : ∀ k, kindOk true (g k) = true) (l : List (κ × β)) : dofTD (.list (l.map (e2 g f))) = some (.dict ((.bool true, .none) :: eD g f (dmk l))) := by
  rw [dofT_list, m, if_neg (by decide)]
  have z := dputsU_enc (f := f) hg hk l []
  have e : l.map (e2 g f) = l.map fun p => .tuple [g p.1, f p.2] := rfl
  have e0 : eD g f ([] : List (κ × β)) = [] := rfl
  rw [e0] at z
  rw [e, z]
  rfl
end
end Pf

namespace C21
open PySem PySem.Spec PyProof.Rows L2 Pf
instance mode : Mode := ⟨true⟩
@[simp] theorem tm_eq : Mode.tm = true := rfl
def top (i : Nat) : Stmt := PySem.Challenge.pw_craftlands_k21_rules_with_few_marks.main.body.getD i (.Pass ⟨0, 0, 0, 0⟩)
abbrev s_measures : Stmt := top 2
abbrev s_is_whole : Stmt := top 3
abbrev s_is_plain : Stmt := top 4
abbrev s_fewest_marks : Stmt := top 5
abbrev s_shortest_plain : Stmt := top 6
abbrev s_can_go : Stmt := top 7
abbrev s_law_draw : Stmt := top 9
abbrev s_law_next : Stmt := top 10
abbrev s_law_same : Stmt := top 11
abbrev s_law_measures : Stmt := top 12
abbrev s_law_rules : Stmt := top 13
abbrev s_law : Stmt := top 14
theorem sc_law_draw : FnScope drawN ["script"] (defScope s_law_draw) := ⟨rfl, rfl, rfl, by decide +kernel, rfl, by decide +kernel, by decide +kernel⟩
theorem sc_law_next : FnScope nextN ["draw", "many"] (defScope s_law_next) := ⟨rfl, rfl, rfl, by decide +kernel, rfl, by decide +kernel, by decide +kernel⟩
theorem t_law_draw : toSs drawN ⟨[], [], []⟩ drawB (ptSs drawB (defBody s_law_draw)) = defBody s_law_draw := rfl
theorem t_law_next : toSs nextN ⟨[], [], []⟩ nextB (ptSs nextB (defBody s_law_next)) = defBody s_law_next := rfl
def n_measures : List Str := ["rule", "one", "other"]
def g_measures : Nm := ⟨[], [], ["combinations"]⟩
def x_measures_1 : Ex := .lc (.bin .Sub (.var 2) (.var 1)) (.tp [(.nm 1), (.nm 2)]) (.cmb (.var 0) (.int 2)) .nil
@[simp ↓] theorem ox_measures_1 {ρ : List Slot} : isOw ρ x_measures_1 = false := rfl
@[simp ↓ high] theorem dx_measures_1 {ρ : List Slot} : isOwD ρ x_measures_1 = false := rfl
@[simp ↓] theorem fx_measures_1 : isFr x_measures_1 = true := rfl
@[simp ↓] theorem mx_measures_1 : isMk x_measures_1 = false := rfl
def b_measures : Sms := (.cons (.ret (.sset x_measures_1)) .nil)
theorem sc_measures : FnScope n_measures ["rule"] (defScope s_measures) := ⟨rfl, rfl, rfl, by decide +kernel, rfl, by decide +kernel, by decide +kernel⟩
theorem w_measures : wfSs n_measures g_measures b_measures (ptSs b_measures (defBody s_measures)) (defScope s_measures) = true := by decide +kernel
theorem t_measures : toSs n_measures g_measures b_measures (ptSs b_measures (defBody s_measures)) = (defBody s_measures) := rfl
def G_measures : Gam := ⟨[], []⟩
@[simp] theorem Gf_measures : G_measures.fs = [] := rfl
@[simp] theorem Gc_measures : G_measures.cs = [] := rfl
def F_measures : Fn := evF G_measures 3 1 b_measures
def n_is_whole : List Str := ["rule"]
def g_is_whole : Nm := ⟨["measures"], [], []⟩
def b_is_whole : Sms := (.cons (.ret (.cmp .Eq (.call 0 (.cons (.var 0) .nil)) (.lrg (.cons (.int 1) (.cons (.bin .Add (.ix (.var 0) (.neg (.int 1))) (.int 1)) .nil))))) .nil)
theorem sc_is_whole : FnScope n_is_whole ["rule"] (defScope s_is_whole) := ⟨rfl, rfl, rfl, by decide +kernel, rfl, by decide +kernel, by decide +kernel⟩
theorem w_is_whole : wfSs n_is_whole g_is_whole b_is_whole (ptSs b_is_whole (defBody s_is_whole)) (defScope s_is_whole) = true := by decide +kernel
theorem t_is_whole : toSs n_is_whole g_is_whole b_is_whole (ptSs b_is_whole (defBody s_is_whole)) = (defBody s_is_whole) := rfl
def G_is_whole : Gam := ⟨[F_measures], []⟩
@[simp] theorem Gf_is_whole : G_is_whole.fs = [F_measures] := rfl
@[simp] theorem Gc_is_whole : G_is_whole.cs = [] := rfl
def F_is_whole : Fn := evF G_is_whole 1 1 b_is_whole
def n_is_plain : List Str := ["rule"]
def g_is_plain : Nm := ⟨["measures"], [], []⟩
def b_is_plain : Sms := (.cons (.ret (.cmp .Eq (.bi .len (.cons (.call 0 (.cons (.var 0) .nil)) .nil)) (.bin .FloorDiv (.bin .Mult (.bi .len (.cons (.var 0) .nil)) (.bin .Sub (.bi .len (.cons (.var 0) .nil)) (.int 1))) (.int 2)))) .nil)
theorem sc_is_plain : FnScope n_is_plain ["rule"] (defScope s_is_plain) := ⟨rfl, rfl, rfl, by decide +kernel, rfl, by decide +kernel, by decide +kernel⟩
theorem w_is_plain : wfSs n_is_plain g_is_plain b_is_plain (ptSs b_is_plain (defBody s_is_plain)) (defScope s_is_plain) = true := by decide +kernel
theorem t_is_plain : toSs n_is_plain g_is_plain b_is_plain (ptSs b_is_plain (defBody s_is_plain)) = (defBody s_is_plain) := rfl
def G_is_plain : Gam := ⟨[F_measures], []⟩
@[simp] theorem Gf_is_plain : G_is_plain.fs = [F_measures] := rfl
@[simp] theorem Gc_is_plain : G_is_plain.cs = [] := rfl
def F_is_plain : Fn := evF G_is_plain 1 1 b_is_plain
def n_fewest_marks : List Str := ["length", "many", "some", "rule"]
def g_fewest_marks : Nm := ⟨["is_whole"], [], ["combinations"]⟩
def b_fewest_marks_1 : Sms := (.cons (.set 3 (.bin .Add (.bin .Add (.tup (.cons (.int 0) .nil)) (.var 2)) (.tup (.cons (.var 0) .nil)))) (.shr 3 (.cons (.iff (.call 0 (.cons (.var 3) .nil)) (.cons (.ret (.var 3)) .nil) .nil) .nil)))
def b_fewest_marks_2 : Sms := (.cons (.for_ (.nm 2) (.cmr (.cons (.int 1) (.cons (.var 0) .nil)) (.var 1)) b_fewest_marks_1) .nil)
def b_fewest_marks : Sms := (.cons (.for_ (.nm 1) (.rng (.cons (.var 0) .nil)) b_fewest_marks_2) (.cons (.ret .non) .nil))
theorem sc_fewest_marks : FnScope n_fewest_marks ["length"] (defScope s_fewest_marks) := ⟨rfl, rfl, rfl, by decide +kernel, rfl, by decide +kernel, by decide +kernel⟩
theorem w_fewest_marks : wfSs n_fewest_marks g_fewest_marks b_fewest_marks (ptSs b_fewest_marks (defBody s_fewest_marks)) (defScope s_fewest_marks) = true := by decide +kernel
theorem t_fewest_marks : toSs n_fewest_marks g_fewest_marks b_fewest_marks (ptSs b_fewest_marks (defBody s_fewest_marks)) = (defBody s_fewest_marks) := rfl
def G_fewest_marks : Gam := ⟨[F_is_whole], []⟩
@[simp] theorem Gf_fewest_marks : G_fewest_marks.fs = [F_is_whole] := rfl
@[simp] theorem Gc_fewest_marks : G_fewest_marks.cs = [] := rfl
def F_fewest_marks : Fn := evF G_fewest_marks 4 1 b_fewest_marks
def n_shortest_plain : List Str := ["marks", "length", "some", "rule"]
def g_shortest_plain : Nm := ⟨["is_plain"], [], ["combinations"]⟩
def c_shortest_plain_1 : Ex := (.bl true)
def b_shortest_plain_1 : Sms := (.cons (.set 3 (.bin .Add (.bin .Add (.tup (.cons (.int 0) .nil)) (.var 2)) (.tup (.cons (.var 1) .nil)))) (.shr 3 (.cons (.iff (.call 0 (.cons (.var 3) .nil)) (.cons (.ret (.var 3)) .nil) .nil) .nil)))
def b_shortest_plain_2 : Sms := (.cons (.for_ (.nm 2) (.cmr (.cons (.int 1) (.cons (.var 1) .nil)) (.bin .Sub (.bi .int (.cons (.var 0) .nil)) (.int 2))) b_shortest_plain_1) (.cons (.set 1 (.bin .Add (.var 1) (.int 1))) (.shr 1 .nil)))
def b_shortest_plain : Sms := (.cons (.set 1 (.bin .Sub (.var 0) (.int 1))) (.shr 1 (.cons (.whl c_shortest_plain_1 b_shortest_plain_2) .nil)))
theorem sc_shortest_plain : FnScope n_shortest_plain ["marks"] (defScope s_shortest_plain) := ⟨rfl, rfl, rfl, by decide +kernel, rfl, by decide +kernel, by decide +kernel⟩
theorem w_shortest_plain : wfSs n_shortest_plain g_shortest_plain b_shortest_plain (ptSs b_shortest_plain (defBody s_shortest_plain)) (defScope s_shortest_plain) = true := by decide +kernel
theorem t_shortest_plain : toSs n_shortest_plain g_shortest_plain b_shortest_plain (ptSs b_shortest_plain (defBody s_shortest_plain)) = (defBody s_shortest_plain) := rfl
def G_shortest_plain : Gam := ⟨[F_is_plain], []⟩
@[simp] theorem Gf_shortest_plain : G_shortest_plain.fs = [F_is_plain] := rfl
@[simp] theorem Gc_shortest_plain : G_shortest_plain.cs = [] := rfl
def F_shortest_plain : Fn := evF G_shortest_plain 4 1 b_shortest_plain
def n_can_go : List Str := ["rule", "mark", "other"]
def g_can_go : Nm := ⟨["is_whole"], [], []⟩
def x_can_go_1 : Ex := .lc (.var 2) (.nm 2) (.seq (.var 0)) (.cons (.cmp .NotEq (.var 2) (.var 1)) .nil)
@[simp ↓] theorem ox_can_go_1 {ρ : List Slot} : isOw ρ x_can_go_1 = false := rfl
@[simp ↓ high] theorem dx_can_go_1 {ρ : List Slot} : isOwD ρ x_can_go_1 = false := rfl
@[simp ↓] theorem fx_can_go_1 : isFr x_can_go_1 = true := rfl
@[simp ↓] theorem mx_can_go_1 : isMk x_can_go_1 = false := rfl
def x_can_go_2 : Ex := .lc (.var 1) (.nm 1) (.seq (.sl (.var 0) (.cons (.int 1) .nil) (.cons (.neg (.int 1)) .nil))) (.cons (.call 0 (.cons (.bi .tuple (.cons x_can_go_1 .nil)) .nil)) .nil)
@[simp ↓] theorem ox_can_go_2 {ρ : List Slot} : isOw ρ x_can_go_2 = false := rfl
@[simp ↓ high] theorem dx_can_go_2 {ρ : List Slot} : isOwD ρ x_can_go_2 = false := rfl
@[simp ↓] theorem fx_can_go_2 : isFr x_can_go_2 = true := rfl
@[simp ↓] theorem mx_can_go_2 : isMk x_can_go_2 = false := rfl
def b_can_go : Sms := (.cons (.ret x_can_go_2) .nil)
theorem sc_can_go : FnScope n_can_go ["rule"] (defScope s_can_go) := ⟨rfl, rfl, rfl, by decide +kernel, rfl, by decide +kernel, by decide +kernel⟩
theorem w_can_go : wfSs n_can_go g_can_go b_can_go (ptSs b_can_go (defBody s_can_go)) (defScope s_can_go) = true := by decide +kernel
theorem t_can_go : toSs n_can_go g_can_go b_can_go (ptSs b_can_go (defBody s_can_go)) = (defBody s_can_go) := rfl
def G_can_go : Gam := ⟨[F_is_whole], []⟩
@[simp] theorem Gf_can_go : G_can_go.fs = [F_is_whole] := rfl
@[simp] theorem Gc_can_go : G_can_go.cs = [] := rfl
def F_can_go : Fn := evF G_can_go 3 1 b_can_go
def n_law_same : List Str := ["actual", "due", "k"]
def g_law_same : Nm := ⟨["_law_same"], [], []⟩
theorem sc_law_same : FnScope n_law_same ["actual", "due"] (defScope s_law_same) := ⟨rfl, rfl, rfl, by decide +kernel, rfl, by decide +kernel, by decide +kernel⟩
theorem w_law_same : wfSs n_law_same g_law_same sameB (ptSs sameB (defBody s_law_same)) (defScope s_law_same) = true := by decide +kernel
theorem t_law_same : toSs n_law_same g_law_same sameB (ptSs sameB (defBody s_law_same)) = (defBody s_law_same) := rfl
def n_law_measures : List Str := ["rule", "found", "one", "other"]
def g_law_measures : Nm := ⟨[], [], []⟩
def x_law_measures_1 : Ex := .lc (.bin .Sub (.var 3) (.var 2)) (.nm 3) (.seq (.var 0)) (.cons (.cmp .Gt (.var 3) (.var 2)) .nil)
@[simp ↓] theorem ox_law_measures_1 {ρ : List Slot} : isOw ρ x_law_measures_1 = false := rfl
@[simp ↓ high] theorem dx_law_measures_1 {ρ : List Slot} : isOwD ρ x_law_measures_1 = false := rfl
@[simp ↓] theorem fx_law_measures_1 : isFr x_law_measures_1 = true := rfl
@[simp ↓] theorem mx_law_measures_1 : isMk x_law_measures_1 = false := rfl
def b_law_measures_1 : Sms := (.cons (.set 1 (.bin .Add (.var 1) x_law_measures_1)) (.shr 1 .nil))
def b_law_measures : Sms := (.cons (.set 1 (.lst .nil)) (.shr 1 (.cons (.for_ (.nm 2) (.seq (.var 0)) b_law_measures_1) (.cons (.ret (.var 1)) .nil))))
theorem sc_law_measures : FnScope n_law_measures ["rule"] (defScope s_law_measures) := ⟨rfl, rfl, rfl, by decide +kernel, rfl, by decide +kernel, by decide +kernel⟩
theorem w_law_measures : wfSs n_law_measures g_law_measures b_law_measures (ptSs b_law_measures (defBody s_law_measures)) (defScope s_law_measures) = true := by decide +kernel
theorem t_law_measures : toSs n_law_measures g_law_measures b_law_measures (ptSs b_law_measures (defBody s_law_measures)) = (defBody s_law_measures) := rfl
def G_law_measures : Gam := ⟨[], []⟩
@[simp] theorem Gf_law_measures : G_law_measures.fs = [] := rfl
@[simp] theorem Gc_law_measures : G_law_measures.cs = [] := rfl
def F_law_measures : Fn := evF G_law_measures 4 1 b_law_measures
def n_law_rules : List Str := ["length", "many", "rows", "k", "longer", "row", "mark"]
def g_law_rules : Nm := ⟨[], [], []⟩
def x_law_rules_1 : Ex := .lc (.bin .Add (.var 5) (.tup (.cons (.var 6) .nil))) (.nm 6) (.rng (.cons (.bin .Add (.ix (.var 5) (.neg (.int 1))) (.int 1)) (.cons (.var 0) .nil))) .nil
@[simp ↓] theorem ox_law_rules_1 {ρ : List Slot} : isOw ρ x_law_rules_1 = false := rfl
@[simp ↓ high] theorem dx_law_rules_1 {ρ : List Slot} : isOwD ρ x_law_rules_1 = false := rfl
@[simp ↓] theorem fx_law_rules_1 : isFr x_law_rules_1 = true := rfl
@[simp ↓] theorem mx_law_rules_1 : isMk x_law_rules_1 = false := rfl
def b_law_rules_1 : Sms := (.cons (.set 4 (.bin .Add (.var 4) x_law_rules_1)) (.shr 4 .nil))
def b_law_rules_2 : Sms := (.cons (.set 4 (.lst .nil)) (.shr 4 (.cons (.for_ (.nm 5) (.seq (.var 2)) b_law_rules_1) (.cons (.set 2 (.var 4)) .nil))))
def x_law_rules_2 : Ex := .lc (.bin .Add (.var 5) (.tup (.cons (.var 0) .nil))) (.nm 5) (.seq (.var 2)) .nil
@[simp ↓] theorem ox_law_rules_2 {ρ : List Slot} : isOw ρ x_law_rules_2 = false := rfl
@[simp ↓ high] theorem dx_law_rules_2 {ρ : List Slot} : isOwD ρ x_law_rules_2 = false := rfl
@[simp ↓] theorem fx_law_rules_2 : isFr x_law_rules_2 = true := rfl
@[simp ↓] theorem mx_law_rules_2 : isMk x_law_rules_2 = false := rfl
def b_law_rules : Sms := (.cons (.set 2 (.lst (.cons (.tup (.cons (.int 0) .nil)) .nil))) (.shr 2 (.cons (.for_ (.nm 3) (.rng (.cons (.bin .Sub (.var 1) (.int 2)) .nil)) b_law_rules_2) (.cons (.ret x_law_rules_2) .nil))))
theorem sc_law_rules : FnScope n_law_rules ["length", "many"] (defScope s_law_rules) := ⟨rfl, rfl, rfl, by decide +kernel, rfl, by decide +kernel, by decide +kernel⟩
theorem w_law_rules : wfSs n_law_rules g_law_rules b_law_rules (ptSs b_law_rules (defBody s_law_rules)) (defScope s_law_rules) = true := by decide +kernel
theorem t_law_rules : toSs n_law_rules g_law_rules b_law_rules (ptSs b_law_rules (defBody s_law_rules)) = (defBody s_law_rules) := rfl
def G_law_rules : Gam := ⟨[], []⟩
@[simp] theorem Gf_law_rules : G_law_rules.fs = [] := rfl
@[simp] theorem Gc_law_rules : G_law_rules.cs = [] := rfl
def F_law_rules : Fn := evF G_law_rules 7 2 b_law_rules
def n_law : List Str := ["script", "draw", "marks", "k", "rule", "told", "length", "due", "many", "row", "best", "gone", "mark", "other"]
def g_law : Nm := ⟨["_law_next", "_law_measures", "_law_same", "measures", "is_plain", "is_whole", "_law_rules", "fewest_marks", "shortest_plain", "can_go"], [], []⟩
def x_law_1 : Ex := .lc (.bin .Add (.int 1) (.call 0 (.cons (.var 1) (.cons (.int 12) .nil)))) (.nm 3) (.rng (.cons (.bin .Add (.int 1) (.call 0 (.cons (.var 1) (.cons (.int 5) .nil)))) .nil)) .nil
@[simp ↓] theorem ox_law_1 {ρ : List Slot} : isOw ρ x_law_1 = false := rfl
@[simp ↓ high] theorem dx_law_1 {ρ : List Slot} : isOwD ρ x_law_1 = false := rfl
@[simp ↓] theorem fx_law_1 : isFr x_law_1 = true := rfl
@[simp ↓] theorem mx_law_1 : isMk x_law_1 = false := rfl
def b_law_1 : Sms := (.cons (.iff (.bop true (.cons (.isN true (.var 7)) (.cons (.cmp .Eq (.lset (.call 1 (.cons (.var 9) .nil))) (.var 6)) .nil))) (.cons (.set 7 (.var 9)) .nil) .nil) .nil)
def b_law_2 : Sms := (.cons (.for_ (.nm 9) (.seq (.call 6 (.cons (.var 6) (.cons (.var 8) .nil)))) b_law_1) .nil)
def b_law_3 : Sms := (.cons (.iff (.bop true (.cons (.isN true (.var 10)) (.cons (.cmp .Eq (.lset (.call 1 (.cons (.var 9) .nil))) (.bi .len (.cons (.call 1 (.cons (.var 9) .nil)) .nil))) .nil))) (.cons (.set 10 (.var 9)) .nil) .nil) .nil)
def b_law_4 : Sms := (.cons (.for_ (.nm 9) (.seq (.call 6 (.cons (.var 6) (.cons (.var 8) .nil)))) b_law_3) .nil)
def x_law_2 : Ex := .lc (.call 0 (.cons (.var 1) (.cons (.bin .Add (.ix (.var 7) (.neg (.int 1))) (.int 1)) .nil))) (.nm 3) (.rng (.cons (.call 0 (.cons (.var 1) (.cons (.int 4) .nil))) .nil)) .nil
@[simp ↓] theorem ox_law_2 {ρ : List Slot} : isOw ρ x_law_2 = false := rfl
@[simp ↓ high] theorem dx_law_2 {ρ : List Slot} : isOwD ρ x_law_2 = false := rfl
@[simp ↓] theorem fx_law_2 : isFr x_law_2 = true := rfl
@[simp ↓] theorem mx_law_2 : isMk x_law_2 = false := rfl
def x_law_3 : Ex := .lc (.var 13) (.nm 13) (.seq (.var 9)) (.cons (.cmp .NotEq (.var 13) (.var 12)) .nil)
@[simp ↓] theorem ox_law_3 {ρ : List Slot} : isOw ρ x_law_3 = false := rfl
@[simp ↓ high] theorem dx_law_3 {ρ : List Slot} : isOwD ρ x_law_3 = false := rfl
@[simp ↓] theorem fx_law_3 : isFr x_law_3 = true := rfl
@[simp ↓] theorem mx_law_3 : isMk x_law_3 = false := rfl
def x_law_4 : Ex := .lc (.var 12) (.nm 12) (.seq (.sl (.var 9) (.cons (.int 1) .nil) (.cons (.neg (.int 1)) .nil))) (.cons (.cmp .Eq (.lset (.call 1 (.cons x_law_3 .nil))) (.ix (.var 9) (.neg (.int 1)))) .nil)
@[simp ↓] theorem ox_law_4 {ρ : List Slot} : isOw ρ x_law_4 = false := rfl
@[simp ↓ high] theorem dx_law_4 {ρ : List Slot} : isOwD ρ x_law_4 = false := rfl
@[simp ↓] theorem fx_law_4 : isFr x_law_4 = true := rfl
@[simp ↓] theorem mx_law_4 : isMk x_law_4 = false := rfl
def r_law_13 : Sms := (.cons (.ret (.call 2 (.cons (.call 9 (.cons (.var 9) .nil)) (.cons (.var 11) .nil)))) .nil)
def r_law_12 : Sms := (.cons (.set 11 x_law_4) (.shr 11 r_law_13))
def r_law_11 : Sms := (.cons (.set 9 (.bi .tuple (.cons (.sset (.bin .Add (.bi .list (.cons (.var 7) .nil)) x_law_2)) .nil))) r_law_12)
def r_law_10 : Sms := (.cons (.iff (.nt (.call 2 (.cons (.call 8 (.cons (.var 8) .nil)) (.cons (.var 10) .nil)))) (.cons (.ret (.bl false)) .nil) .nil) r_law_11)
def r_law_9 : Sms := (.cons (.for_ (.nm 6) (.rng (.cons (.bin .Sub (.var 8) (.int 1)) (.cons (.int 12) .nil))) b_law_4) r_law_10)
def r_law_8 : Sms := (.cons (.par [8, 10] (.cons (.bin .Add (.int 2) (.call 0 (.cons (.var 1) (.cons (.int 3) .nil)))) (.cons .non .nil))) (.shr 8 r_law_9))
def r_law_7 : Sms := (.cons (.iff (.nt (.call 2 (.cons (.call 7 (.cons (.var 6) .nil)) (.cons (.var 7) .nil)))) (.cons (.ret (.bl false)) .nil) .nil) r_law_8)
def r_law_6 : Sms := (.cons (.for_ (.nm 8) (.rng (.cons (.int 2) (.cons (.int 8) .nil))) b_law_2) r_law_7)
def r_law_5 : Sms := (.cons (.parN [6, 7] (.cons (.bin .Add (.int 1) (.call 0 (.cons (.var 1) (.cons (.int 9) .nil)))) (.cons .non .nil))) (.shr 6 r_law_6))
def r_law_4 : Sms := (.cons (.iff (.bop false (.cons (.nt (.call 2 (.cons (.call 5 (.cons (.var 4) .nil)) (.cons (.cmp .Eq (.sset (.var 5)) (.lrg (.cons (.int 1) (.cons (.bin .Add (.ix (.var 4) (.neg (.int 1))) (.int 1)) .nil)))) .nil)))) (.cons (.nt (.call 2 (.cons (.call 4 (.cons (.var 4) .nil)) (.cons (.cmp .Eq (.lset (.var 5)) (.bi .len (.cons (.var 5) .nil))) .nil)))) .nil))) (.cons (.ret (.bl false)) .nil) .nil) r_law_5)
def r_law_3 : Sms := (.cons (.iff (.nt (.call 2 (.cons (.call 3 (.cons (.var 4) .nil)) (.cons (.sset (.var 5)) .nil)))) (.cons (.ret (.bl false)) .nil) .nil) r_law_4)
def r_law_2 : Sms := (.cons (.set 5 (.call 1 (.cons (.var 4) .nil))) r_law_3)
def r_law_1 : Sms := (.cons (.set 4 (.bi .tuple (.cons (.bin .Add (.lst (.cons (.int 0) .nil)) (.var 2)) .nil))) r_law_2)
def b_law : Sms := (.cons (.set 2 (.sset x_law_1)) (.shr 2 r_law_1))
theorem sc_law : FnScope n_law ["script"] (defScope s_law) := ⟨rfl, rfl, rfl, by decide +kernel, rfl, by decide +kernel, by decide +kernel⟩
theorem w_law : wfSs n_law g_law b_law (ptSs b_law (defBody s_law).tail) (defScope s_law) = true := by decide +kernel
theorem t_law : toSs n_law g_law b_law (ptSs b_law (defBody s_law).tail) = (defBody s_law).tail := rfl
def G_law : Gam := ⟨[nextF, F_law_measures, sameF 8, F_measures, F_is_plain, F_is_whole, F_law_rules, F_fewest_marks, F_shortest_plain, F_can_go], []⟩
@[simp] theorem Gf_law : G_law.fs = [nextF, F_law_measures, sameF 8, F_measures, F_is_plain, F_is_whole, F_law_rules, F_fewest_marks, F_shortest_plain, F_can_go] := rfl
@[simp] theorem Gc_law : G_law.cs = [] := rfl
section
variable {P : Program} {w : World} {K : PySem.W.Frag} {mg : Str → Option Value} {base : Heap}
structure Txt (K : PySem.W.Frag) (mg : Str → Option Value) : Prop where
  blt : ∀ x ∈ bltNames, mg x = none
  d_law_draw : DefIn K mg "_law_draw" s_law_draw ["script"]
  d_law_next : DefIn K mg "_law_next" s_law_next ["draw", "many"]
  d_measures : DefIn K mg "measures" s_measures ["rule"]
  d_is_whole : DefIn K mg "is_whole" s_is_whole ["rule"]
  d_is_plain : DefIn K mg "is_plain" s_is_plain ["rule"]
  d_fewest_marks : DefIn K mg "fewest_marks" s_fewest_marks ["length"]
  d_shortest_plain : DefIn K mg "shortest_plain" s_shortest_plain ["marks"]
  d_can_go : DefIn K mg "can_go" s_can_go ["rule"]
  d_law_same : DefIn K mg "_law_same" s_law_same ["actual", "due"]
  d_law_measures : DefIn K mg "_law_measures" s_law_measures ["rule"]
  d_law_rules : DefIn K mg "_law_rules" s_law_rules ["length", "many"]
  d_law : DefIn K mg "law" s_law ["script"]
  m_combinations : mg "combinations" = some (.type "itertools.combinations")
theorem c_law_next (T : Txt K mg) : CallsAt P w K mg base 1 "_law_next" nextF := next_calls T.d_law_next sc_law_next T.blt (by decide +kernel) t_law_next
theorem c_measures (T : Txt K mg) : CallsAt P w K mg base 1 "measures" F_measures := calls_of (k := 0) (Γ := G_measures) T.d_measures sc_measures T.blt w_measures t_measures trivial trivial ⟨fun h => absurd h (by decide), fun h => absurd h (by decide), fun _ => T.m_combinations, fun h => absurd h (by decide)⟩
theorem c_is_whole (T : Txt K mg) : CallsAt P w K mg base 2 "is_whole" F_is_whole := calls_of (k := 1) (Γ := G_is_whole) T.d_is_whole sc_is_whole T.blt w_is_whole t_is_whole ⟨(c_measures T).mono (by decide), trivial⟩ trivial noLib
theorem c_is_plain (T : Txt K mg) : CallsAt P w K mg base 2 "is_plain" F_is_plain := calls_of (k := 1) (Γ := G_is_plain) T.d_is_plain sc_is_plain T.blt w_is_plain t_is_plain ⟨(c_measures T).mono (by decide), trivial⟩ trivial noLib
theorem c_fewest_marks (T : Txt K mg) : CallsAt P w K mg base 3 "fewest_marks" F_fewest_marks := calls_of (k := 2) (Γ := G_fewest_marks) T.d_fewest_marks sc_fewest_marks T.blt w_fewest_marks t_fewest_marks ⟨(c_is_whole T).mono (by decide), trivial⟩ trivial ⟨fun h => absurd h (by decide), fun h => absurd h (by decide), fun _ => T.m_combinations, fun h => absurd h (by decide)⟩
theorem c_shortest_plain (T : Txt K mg) : CallsAt P w K mg base 3 "shortest_plain" F_shortest_plain := calls_of (k := 2) (Γ := G_shortest_plain) T.d_shortest_plain sc_shortest_plain T.blt w_shortest_plain t_shortest_plain ⟨(c_is_plain T).mono (by decide), trivial⟩ trivial ⟨fun h => absurd h (by decide), fun h => absurd h (by decide), fun _ => T.m_combinations, fun h => absurd h (by decide)⟩
theorem c_can_go (T : Txt K mg) : CallsAt P w K mg base 3 "can_go" F_can_go := calls_of (k := 2) (Γ := G_can_go) T.d_can_go sc_can_go T.blt w_can_go t_can_go ⟨(c_is_whole T).mono (by decide), trivial⟩ trivial noLib
theorem c_law_same (T : Txt K mg) : CallsAt P w K mg base 8 "_law_same" (sameF 8) := same_calls T.d_law_same rfl rfl sc_law_same T.blt w_law_same t_law_same 8
theorem c_law_measures (T : Txt K mg) : CallsAt P w K mg base 1 "_law_measures" F_law_measures := calls_of (k := 0) (Γ := G_law_measures) T.d_law_measures sc_law_measures T.blt w_law_measures t_law_measures trivial trivial noLib
theorem c_law_rules (T : Txt K mg) : CallsAt P w K mg base 1 "_law_rules" F_law_rules := calls_of (k := 0) (Γ := G_law_rules) T.d_law_rules sc_law_rules T.blt w_law_rules t_law_rules trivial trivial noLib
def Law : Prop := ∀ ns : List Int, ns.length ≤ 63 → ∃ st', evSs G_law b_law (.no :: .sh drw :: List.replicate 12 .no) (st0 ns) = some (.rt (.bool true) st')
theorem end_law (h : Law) (T : Txt K mg) : ∃ f fd, mg "law" = some (.ref f) ∧ (∀ (s : Shared) (v : Value), BindsTo s fd ⟨[v], []⟩ [("script", v)]) ∧ ∀ base, FnOk P w K mg base CX0 9 f fd ["script"] (spLaw K) :=
  law_of (k := 8) (dn := "_law_draw") (Γ := G_law) (rest := b_law) T.d_law sc_law T.d_law_draw sc_law_draw (by decide +kernel) t_law_draw T.blt (by decide +kernel) (by decide +kernel) (by decide +kernel) (by decide +kernel) rfl (by decide) w_law rfl (by decide) (fun base => ⟨(c_law_next T).mono (by decide), ⟨(c_law_measures T).mono (by decide), ⟨(c_law_same T).mono (by decide), ⟨(c_measures T).mono (by decide), ⟨(c_is_plain T).mono (by decide), ⟨(c_is_whole T).mono (by decide), ⟨(c_law_rules T).mono (by decide), ⟨(c_fewest_marks T).mono (by decide), ⟨(c_shortest_plain T).mono (by decide), ⟨(c_can_go T).mono (by decide), trivial⟩⟩⟩⟩⟩⟩⟩⟩⟩⟩) trivial noLib h
end
theorem all_mk (h : Law) {l : PySem.W.OpenLaw} {w : World} {K : PySem.W.Frag} {mg : Str → Option Value} {fa : Addr} (hfa : mg "law" = some (.ref fa)) (T : Txt K mg) :
    ∃ fd : FuncData, (∀ (s : Shared) (v : Value), BindsTo s fd ⟨[v], []⟩ [("script", v)]) ∧ ∀ base : Heap, K.In base → base.Ns mainGlobals mg → FnOk l.prog w K mg base CX0 9 fa fd ["script"] (spLaw K) := by
  obtain ⟨f, fd, hm, hb, F⟩ := end_law (P := l.prog) (w := w) h T
  rw [hfa] at hm
  cases hm
  exact ⟨fd, hb, fun base _ _ => F base⟩
end C21

namespace C21
open PySem PySem.Spec PyProof.Rows L2 Pf
/-- what can be measured -/
def gaps : List Int → List Int
  | [] => []
  | x :: xs => xs.map (· - x) ++ gaps xs
/-- the law's way -/
def gapsL (rule : List Int) : List Int := rule.flatMap fun one => (rule.filter fun other => decide (one < other)).map (· - one)
abbrev Up (l : List Int) : Prop := l.Pairwise (· < ·)
theorem gaps_sub : ∀ rule : List Int, (subL 2 rule).map (fun t => t.getD 1 0 - t.getD 0 0) = gaps rule
  | [] => rfl
  | x :: xs => by
    have h1 : ∀ ys : List Int, subL 1 ys = ys.map fun y => [y] := fun ys => by
      induction ys with
      | nil => rfl
      | cons y ys ih => simp [subL, ih]
    rw [subL, List.map_append, gaps_sub xs, gaps, h1]
    simp
theorem gapsL_pre (pre : List Int) : ∀ rule : List Int, Up (pre ++ rule) → rule.flatMap (fun one => ((pre ++ rule).filter fun other => decide (one < other)).map (· - one)) = gaps rule
  | [], _ => rfl
  | x :: xs, h => by
    have ih := gapsL_pre (pre ++ [x]) xs (by simpa using h)
    rw [List.append_assoc, List.singleton_append] at ih
    rw [List.flatMap_cons, ih, gaps]
    congr 1
    rw [List.filter_append]
    have h' := List.pairwise_append.mp h
    have e1 : pre.filter (fun other => decide (x < other)) = [] := List.filter_eq_nil_iff.mpr fun a ha => by
      have := h'.2.2 a ha x (by simp)
      simp
      omega
    have e2 : (x :: xs).filter (fun other => decide (x < other)) = xs := by
      rw [List.filter_cons_of_neg (by simp)]
      exact List.filter_eq_self.mpr fun a ha => by
        have := (List.pairwise_cons.mp h'.2.1).1 a ha
        simpa using this
    rw [e1, e2]
    rfl
theorem gapsL_eq {rule : List Int} (h : Up rule) : gapsL rule = gaps rule := gapsL_pre [] rule h
theorem gaps_len : ∀ rule : List Int, (gaps rule).length * 2 = rule.length * (rule.length - 1)
  | [] => rfl
  | x :: xs => by
    have := gaps_len xs
    simp [gaps, Nat.add_mul, this]
    cases xs with
    | nil => rfl
    | cons y ys =>
      simp
      grind
theorem gaps_in : ∀ {rule : List Int} {L : Int}, Up rule → (∀ x ∈ rule, 0 ≤ x ∧ x ≤ L) → ∀ g ∈ gaps rule, 1 ≤ g ∧ g ≤ L
  | [], _, _, _, g, hg => by simp [gaps] at hg
  | x :: xs, L, h, hb, g, hg => by
    rw [gaps, List.mem_append, List.mem_map] at hg
    rcases hg with ⟨y, hy, rfl⟩ | hg
    · have h1 := (List.pairwise_cons.mp h).1 y hy
      have h2 := hb x (by simp)
      have h3 := hb y (by simp [hy])
      omega
    · exact gaps_in (List.pairwise_cons.mp h).2 (fun z hz => hb z (by simp [hz])) g hg
def rg (n : Nat) : List Int := (List.range n).map fun (i : Nat) => 1 + (i : Int)
theorem up_full : ∀ (n : Nat) (a : Int) (l : List Int), Up l → (∀ x ∈ l, a ≤ x ∧ x < a + n) → l.length = n → l = (List.range n).map fun (i : Nat) => a + (i : Int)
  | 0, a, l, _, _, h => by simpa using h
  | n + 1, a, [], _, _, h => by simp at h
  | n + 1, a, x :: l, hu, hb, h => by
    have hu' := List.pairwise_cons.mp hu
    have hx := hb x (by simp)
    have hl : l.length = n := by simpa using h
    have key : ∀ (m : Nat) (c : Int) (l : List Int), Up l → (∀ x ∈ l, c ≤ x ∧ x < c + m) → l.length ≤ m := by
      intro m
      induction m with
      | zero =>
        intro c l hl hb
        cases l with
        | nil => simp
        | cons y ys =>
          have := hb y (by simp)
          omega
      | succ m ih =>
        intro c l hl hb
        cases l with
        | nil => simp
        | cons y ys =>
          have := ih (c + 1) ys (List.pairwise_cons.mp hl).2 fun z hz => by
            have h1 := (List.pairwise_cons.mp hl).1 z hz
            have h2 := hb z (by simp [hz])
            have h3 := hb y (by simp)
            omega
          simp
          omega
    have hxa : x = a := by
      refine Classical.byContradiction fun hne => ?_
      have := key n (a + 1) (x :: l) hu fun z hz => by
        have h2 := hb z hz
        rcases List.mem_cons.mp hz with rfl | hz
        · omega
        · have := hu'.1 z hz
          omega
      simp at this
      omega
    subst hxa
    rw [up_full n (x + 1) l hu'.2 (fun z hz => by
      have h1 := hu'.1 z hz
      have h2 := hb z (by simp [hz])
      omega) hl, List.range_succ_eq_map]
    simp
    intro i hi
    omega
/-- all lengths up to n are there -/
theorem full_iff {gs : List Int} {n : Nat} (h : ∀ g ∈ gs, 1 ≤ g ∧ g ≤ (n : Int)) : ssetI gs = rg n ↔ (dd gs).length = n := by
  have e : (ssetI gs).length = (dd gs).length := (sseti_perm gs).length_eq
  constructor
  · intro z
    rw [← e, z]
    simp [rg]
  · intro z
    exact up_full n 1 (ssetI gs) (sseti_lt gs) (fun x hx => by
      have := h x (sseti_mem.mp hx)
      omega) (by rw [e, z])
def whole (rule : List Int) : Bool := decide ((dd (gaps rule)).length = (rule.getLast?.getD 0).toNat)
def plain (rule : List Int) : Bool := decide ((dd (gaps rule)).length = (gaps rule).length)
/-- the rules of a length with some marks within, in their order -/
def rulesK (length k : Nat) : List (List Int) := (subL k (rg (length - 1))).map fun s => 0 :: (s ++ [(length : Int)])
def firstW : Nat → List (List Int) := fun length => (List.range length).flatMap fun k => (rulesK length k).filter whole
def rowsS (length : Int) (rows : List (List Int)) : List (List Int) := rows.flatMap fun row => (List.range (length - (row.getLast?.getD 0 + 1)).toNat).map fun (i : Nat) => row ++ [row.getLast?.getD 0 + 1 + (i : Int)]
def rowsN (length : Int) : Nat → List (List Int)
  | 0 => [[0]]
  | n + 1 => rowsS length (rowsN length n)
def rulesL (length : Int) (many : Nat) : List (List Int) := (rowsN length (many - 2)).map (· ++ [length])
def dues (length : Nat) : List (List Int) := [2, 3, 4, 5, 6, 7].flatMap fun many => (rulesL length many).filter fun row => decide ((dd (gapsL row)).length = length)
def okDue (length : Nat) : Bool := match (dues length).head? with
  | none => false
  | some d => decide ((firstW length).head? = some d) && decide (d.head? = some 0) && decide (d.getLast? = some (length : Int)) && decide (d.length ≤ 7) && decide (Up d) && decide (2 ≤ d.length)
theorem dues_all : ([1, 2, 3, 4, 5, 6, 7, 8, 9].all okDue) = true := by decide +kernel
theorem dues_ok {length : Nat} (h1 : 1 ≤ length) (h9 : length ≤ 9) : ∃ d, (dues length).head? = some d ∧ (firstW length).head? = some d ∧ d.head? = some 0 ∧ d.getLast? = some (length : Int) ∧ d.length ≤ 7 ∧ Up d ∧ 2 ≤ d.length := by
  have h : okDue length = true := List.all_eq_true.mp dues_all length (by
    have : length = 1 ∨ length = 2 ∨ length = 3 ∨ length = 4 ∨ length = 5 ∨ length = 6 ∨ length = 7 ∨ length = 8 ∨ length = 9 := by omega
    rcases this with h | h | h | h | h | h | h | h | h <;> simp [h])
  unfold okDue at h
  split at h
  · cases h
  · rename_i d hd
    simp only [Bool.and_eq_true, decide_eq_true_eq] at h
    exact ⟨d, hd, h.1.1.1.1.1, h.1.1.1.1.2, h.1.1.1.2, h.1.1.2, h.1.2, h.2⟩
/-- the plain ones -/
def bests (many : Nat) : List (List Int) := ((List.range (13 - many)).map fun i : Nat => i + (many - 1)).flatMap fun length : Nat => (rulesL (length : Int) many).filter fun row => decide ((dd (gapsL row)).length = (gapsL row).length)
def firstP (many : Nat) : List (List Int) := ((List.range (13 - many)).map fun i : Nat => i + (many - 1)).flatMap fun length : Nat => (rulesK length (many - 2)).filter plain
theorem bests_all : ([2, 3, 4].all fun many => decide ((bests many).head? = (firstP many).head?) && (firstP many).head?.isSome) = true := by decide +kernel
end C21

namespace C21
open PySem PySem.Spec PyProof.Rows L2 Pf
variable {ds : DS} {rule : List Int}
abbrev eT (l : List Int) : D := .tuple (l.map .int)
theorem gaps_le (h : rule.length ≤ 10) : (gaps rule).length ≤ 45 := by
  have := gaps_len rule
  have h2 : rule.length * (rule.length - 1) ≤ 10 * 9 := Nat.mul_le_mul h (by omega)
  omega
theorem x_meas (h : rule.length ≤ 10) : ∀ (b c : Slot), evE G_measures x_measures_1 [.sh (eT rule), b, c] ds = some (.list ((gaps rule).map .int), ds) := fun b c => by
  have e : (gaps rule).map PyData.int = (subL 2 rule).map fun t => .int (t.getD 1 0 - t.getD 0 0) := by rw [← gaps_sub, List.map_map]; rfl
  have hl : (subL 2 rule).length = (gaps rule).length := by rw [← gaps_sub, List.length_map]
  rw [e]
  refine lcs (items := (subL 2 rule).map eT) ?_ rfl (by rw [List.length_map, hl]; have := gaps_le h; omega) (lcT fun t ht => ?_)
  · simp [cmbL, subL_map]
    omega
  · obtain ⟨h1, _⟩ := subL_sub _ _ _ ht
    match t, h1 with
    | [x, y], _ => exact ⟨_, rfl, by simp⟩
theorem e_measures (h : rule.length ≤ 10) : F_measures [eT rule] ds = some (.list ((ssetI (gaps rule)).map .int), ds) := by
  have := gaps_le h
  simp (disch := omega) [F_measures, b_measures, x_meas h, ssetS_ints]
/-- is_whole, as the code asks -/
def wh (rule : List Int) : Bool := decide (ssetI (gaps rule) = rg (rule.getLast?.getD 0).toNat)
theorem oL : OrdW 20 (Pf.eL PyData.int) := OrdW.eL (n := 19) OrdW.int
theorem cmp_ints (xs ys : List Int) : cmpD .Eq (.list (xs.map .int)) (.list (ys.map .int)) = some (decide (xs = ys)) := oL.eq xs ys
theorem at_end {l : List Int} {L : Int} (h : l.getLast? = some L) : atI (l.map PyData.int) (-1) = some (.int L) := by
  obtain ⟨pre, rfl⟩ := List.getLast?_eq_some_iff.mp h
  rw [List.map_append]
  exact at_last
theorem rg_map (L : Nat) : ((List.range L).map fun (k : Nat) => PyData.int (1 + (k : Int))) = (rg L).map .int := by
  unfold rg
  rw [List.map_map]
  rfl
theorem e_is_whole (h : rule.length ≤ 10) {L : Nat} (hL : rule.getLast? = some (L : Int)) (hb : L ≤ 100) : F_is_whole [eT rule] ds = some (.bool (wh rule), ds) := by
  have hc : cmpD .Eq (.list ((ssetI (gaps rule)).map .int)) (.list ((List.range L).map fun (k : Nat) => .int (1 + (k : Int)))) = some (wh rule) := by
    rw [rg_map, cmp_ints]
    unfold wh
    rw [hL]
    rfl
  simp (disch := omega) [F_is_whole, b_is_whole, e_measures h, at_end hL, hc]
theorem e_is_plain (h : rule.length ≤ 10) : F_is_plain [eT rule] ds = some (.bool (plain rule), ds) := by
  have h1 := gaps_len rule
  have h2 : (ssetI (gaps rule)).length = (dd (gaps rule)).length := (sseti_perm _).length_eq
  have h3 : smallI (rule.length : Int) = true := decide_eq_true (by omega)
  have h4 : ((rule.length : Int) * ((rule.length : Int) - 1)) / 2 = ((gaps rule).length : Int) := by
    cases rule with
    | nil => rfl
    | cons x xs =>
      have e : (((x :: xs).length : Int)) - 1 = (((x :: xs).length - 1 : Nat) : Int) := by simp
      rw [e]
      omega
  simp (disch := omega) [F_is_plain, b_is_plain, e_measures h, h3, h4, plain, h2]
  exact ⟨fun h => by omega, fun h => by omega⟩
theorem x_lawm (one : Int) : ∀ (a : D) (b d : Slot) (rule : List Int), (a = eT rule ∨ a = .list (rule.map .int)) → rule.length ≤ 1000 → evE G_law_measures x_law_measures_1 [.sh a, b, .sh (.int one), d] ds = some (.list (((rule.filter fun other => decide (one < other)).map (· - one)).map .int), ds) := by
  intro a b d rule ha hl
  rw [List.map_map]
  refine lcs (items := rule.map .int) ?_ rfl (by simp; omega) (lcF fun x hx => ⟨_, rfl, by simp, fun _ => by simp⟩)
  rcases ha with rfl | rfl <;> simp
theorem l_lawm (a : D) (rule : List Int) (ha : a = eT rule ∨ a = .list (rule.map .int)) (hl : rule.length ≤ 10) : ∀ (r found : List Int) (k c : Slot), found.length + 10 * r.length ≤ 1000 →
    ∃ k' c', forE G_law_measures b_law_measures_1 (.nm 2) (r.map .int) [.sh a, .sh (.list (found.map .int)), k, c] ds = some (.nx [.sh a, .sh (.list ((found ++ r.flatMap fun one => (rule.filter fun other => decide (one < other)).map (· - one)).map .int)), k', c'] ds)
  | [], found, k, c, h => ⟨k, c, by simp; rfl⟩
  | x :: r, found, k, c, h => by
    simp at h
    have hf : (rule.filter fun other => decide (x < other)).length ≤ 10 := Nat.le_trans (List.length_filter_le _ _) hl
    obtain ⟨k', c', ih⟩ := l_lawm a rule ha hl r (found ++ (rule.filter fun other => decide (x < other)).map (· - x)) (.sh (.int x)) c (by simp; omega)
    refine ⟨k', c', ?_⟩
    rw [List.flatMap_cons, ← List.append_assoc, ← ih]
    refine for_step rfl ?_
    have z := x_lawm (ds := ds) x a (.sh (.list (found.map .int))) c rule ha (by omega)
    have hy : ((rule.filter fun other => decide (x < other)).map (· - x)).length ≤ 10 := by rw [List.length_map]; exact hf
    generalize (rule.filter fun other => decide (x < other)).map (· - x) = ys at z hy ⊢
    have hc : cap = 16777216 := rfl
    simp (disch := omega) [b_law_measures_1, z]
theorem e_lawm (a : D) {rule : List Int} (ha : a = eT rule ∨ a = .list (rule.map .int)) (hl : rule.length ≤ 10) : F_law_measures [a] ds = some (.list ((gapsL rule).map .int), ds) := by
  obtain ⟨k', c', z⟩ := l_lawm (ds := ds) a rule ha hl rule [] .no .no (by simp; omega)
  simp at z
  have hi : itrD false a = some (rule.map .int) := by rcases ha with rfl | rfl <;> rfl
  simp (disch := omega) [F_law_measures, b_law_measures, hi, z, gapsL]
end C21

namespace C21
open PySem PySem.Spec PyProof.Rows L2 Pf
variable {ds : DS} {length : Int}
def nextR (length : Int) (row : List Int) : List (List Int) := (List.range (length - (row.getLast?.getD 0 + 1)).toNat).map fun (i : Nat) => row ++ [row.getLast?.getD 0 + 1 + (i : Int)]
theorem rowsS_eq (rows : List (List Int)) : rowsS length rows = rows.flatMap (nextR length) := rfl
/-- rows of n + 1 marks -/
def OkR (n : Nat) (rows : List (List Int)) : Prop := ∀ row ∈ rows, row.length = n + 1 ∧ ∃ m, row.getLast? = some m ∧ 0 ≤ m ∧ m ≤ 12
theorem nextR_len {row : List Int} {m : Int} (h : row.getLast? = some m) (h0 : 0 ≤ m) (hl : length ≤ 12) : (nextR length row).length ≤ 12 := by
  unfold nextR
  rw [h]
  simp
  omega
theorem okR_S {n : Nat} {rows : List (List Int)} (h : OkR n rows) (hl : length ≤ 12) : OkR (n + 1) (rowsS length rows) ∧ (rowsS length rows).length ≤ 12 * rows.length := by
  rw [rowsS_eq]
  constructor
  · intro row hr
    obtain ⟨r0, h0, h1⟩ := List.mem_flatMap.mp hr
    obtain ⟨hn, m, hm, hm0, _⟩ := h r0 h0
    unfold nextR at h1
    rw [hm] at h1
    obtain ⟨i, hi, rfl⟩ := List.mem_map.mp h1
    have hi := List.mem_range.mp hi
    simp only [Option.getD_some] at hi ⊢
    exact ⟨by simp [hn], m + 1 + i, by simp, by omega, by omega⟩
  · induction rows with
    | nil => simp
    | cons r rows ih =>
      obtain ⟨hn, m, hm, hm0, _⟩ := h r (by simp)
      have := nextR_len (length := length) hm hm0 hl
      have := ih fun x hx => h x (by simp [hx])
      rw [List.flatMap_cons, List.length_append, List.length_cons]
      omega
theorem okR_N (hl : length ≤ 12) : ∀ n, OkR n (rowsN length n) ∧ (rowsN length n).length ≤ 12 ^ n
  | 0 => ⟨fun row hr => by
      simp [rowsN] at hr
      subst hr
      exact ⟨rfl, 0, rfl, by omega, by omega⟩, by simp [rowsN]⟩
  | n + 1 => by
    obtain ⟨h1, h2⟩ := okR_N hl n
    obtain ⟨h3, h4⟩ := okR_S h1 hl
    refine ⟨h3, Nat.le_trans h4 ?_⟩
    rw [Nat.pow_succ]
    omega
theorem x_lr1 {row : List Int} {m : Int} (h : row.getLast? = some m) (h0 : 0 ≤ m) (h2 : m ≤ 12) (hl : length ≤ 12) (hl0 : 0 ≤ length) (hn : row.length ≤ 100) (b c d e f : Slot) : evE G_law_rules x_law_rules_1 [.sh (.int length), b, c, d, e, .sh (eT row), f] ds = some (.list ((nextR length row).map eT), ds) := by
  unfold nextR
  rw [h, List.map_map]
  refine lcs (items := (List.range (length - (m + 1)).toNat).map fun (i : Nat) => .int (m + 1 + (i : Int))) ?_ rfl (by simp; omega) (lcT fun i hi => ⟨_, rfl, by have hc : cap = 16777216 := rfl; simp; omega⟩)
  have r1 : rngOk (m + 1) = true := decide_eq_true (by omega)
  have r2 : rngOk length = true := decide_eq_true (by omega)
  have r3 : rngD [.int (m + 1), .int length] = some ((List.range (length - (m + 1)).toNat).map fun (i : Nat) => .int (m + 1 + (i : Int))) := by
    show (if (rngOk (m + 1) && rngOk length) = true then _ else none) = _
    rw [r1, r2]
    exact if_pos rfl
  simp [at_end h, r3]
theorem l_lr1 (hl : length ≤ 12) (hl0 : 0 ≤ length) {n : Nat} (hn5 : n ≤ 5) (b c d : Slot) : ∀ (r longer : List (List Int)) (k f : Slot), OkR n r → longer.length + 12 * r.length ≤ 4000000 →
    ∃ k' f', forE G_law_rules b_law_rules_1 (.nm 5) (r.map eT) [.sh (.int length), b, c, d, .sh (.list (longer.map eT)), k, f] ds = some (.nx [.sh (.int length), b, c, d, .sh (.list ((longer ++ r.flatMap (nextR length)).map eT)), k', f'] ds)
  | [], longer, k, f, _, h => ⟨k, f, by simp; rfl⟩
  | x :: r, longer, k, f, ho, h => by
    simp at h
    obtain ⟨hn, m, hm, hm0, hm1⟩ := ho x (by simp)
    have hy := nextR_len (length := length) hm hm0 hl
    obtain ⟨k', f', ih⟩ := l_lr1 hl hl0 hn5 b c d r (longer ++ nextR length x) (.sh (eT x)) f (fun y hy => ho y (by simp [hy])) (by simp; omega)
    refine ⟨k', f', ?_⟩
    rw [List.flatMap_cons, ← List.append_assoc, ← ih]
    refine for_step rfl ?_
    have z := x_lr1 (ds := ds) hm hm0 hm1 hl hl0 (by omega) b c d (.sh (.list (longer.map eT))) f
    generalize nextR length x = ys at z hy ⊢
    have hc : cap = 16777216 := rfl
    rw [List.map_append]
    generalize hA : longer.map eT = A at z ⊢
    generalize hB : ys.map eT = B at z ⊢
    have hA2 : A.length = longer.length := by rw [← hA, List.length_map]
    have hB2 : B.length = ys.length := by rw [← hB, List.length_map]
    show evSs _ _ [.sh (.int length), b, c, d, .sh (.list A), .sh (eT x), f] ds = _
    generalize eT x = X at z ⊢
    simp (disch := omega) [b_law_rules_1, z]
theorem l_lr2 (hl : length ≤ 12) (hl0 : 0 ≤ length) (b : Slot) : ∀ (xs : List D) (j : Nat) (k e c f : Slot), j + xs.length ≤ 5 →
    ∃ k' e' c' f', forE G_law_rules b_law_rules_2 (.nm 3) xs [.sh (.int length), b, .sh (.list ((rowsN length j).map eT)), k, e, c, f] ds = some (.nx [.sh (.int length), b, .sh (.list ((rowsN length (j + xs.length)).map eT)), k', e', c', f'] ds)
  | [], j, k, e, c, f, h => ⟨k, e, c, f, rfl⟩
  | x :: xs, j, k, e, c, f, h => by
    simp at h
    obtain ⟨h1, h2⟩ := okR_N hl j
    have h3 : 12 ^ j ≤ 12 ^ 5 := Nat.pow_le_pow_right (by decide) (by omega)
    obtain ⟨c1, f1, z⟩ := l_lr1 (ds := ds) hl hl0 (n := j) (by omega) b (.sh (.list ((rowsN length j).map eT))) (.sh x) (rowsN length j) [] c f h1 (by simp; omega)
    obtain ⟨k', e', c', f', ih⟩ := l_lr2 hl hl0 b xs (j + 1) (.sh x) (.sh (.list ((rowsN length (j + 1)).map eT))) c1 f1 (by omega)
    refine ⟨k', e', c', f', ?_⟩
    rw [show j + (x :: xs).length = j + 1 + xs.length from by simp; omega, ← ih]
    refine for_step rfl ?_
    have e1 : rowsN length (j + 1) = (rowsN length j).flatMap (nextR length) := rfl
    rw [List.nil_append, ← e1] at z
    generalize hA : (rowsN length j).map eT = A at z ⊢
    generalize (rowsN length (j + 1)).map eT = B at z ⊢
    simp at z
    simp (disch := omega) [b_law_rules_2, z]
theorem x_lr2 (rows : List (List Int)) (hr : rows.length ≤ 1000000) (ho : ∀ r ∈ rows, r.length ≤ 100) (b d e f g : Slot) : evE G_law_rules x_law_rules_2 [.sh (.int length), b, .sh (.list (rows.map eT)), d, e, f, g] ds = some (.list ((rows.map (· ++ [length])).map eT), ds) := by
  rw [List.map_map]
  refine lcs (items := rows.map eT) ?_ rfl (by simp; omega) (lcT fun x hx => ⟨_, rfl, by have hc : cap = 16777216 := rfl; have := ho x hx; simp; omega⟩)
  generalize rows.map eT = A
  simp
theorem e_law_rules (hl : length ≤ 12) (hl0 : 0 ≤ length) {many : Nat} (hm : 2 ≤ many) (hm7 : many ≤ 7) : F_law_rules [.int length, .int many] ds = some (.list ((rulesL length many).map eT), ds) := by
  have h3 : 12 ^ (many - 2) ≤ 12 ^ 5 := Nat.pow_le_pow_right (by decide) (by omega)
  obtain ⟨k', e', c', f', z⟩ := l_lr2 (ds := ds) hl hl0 (.sh (.int many)) ((List.range (many - 2)).map fun i : Nat => .int (i : Int)) 0 .no .no .no .no (by simp; omega)
  simp only [List.length_map, List.length_range, Nat.zero_add] at z
  have z2 := x_lr2 (ds := ds) (length := length) (rowsN length (many - 2)) (by have := (okR_N hl (many - 2)).2; omega) (fun r hr => by have := ((okR_N hl (many - 2)).1 r hr).1; omega) (.sh (.int many)) k' e' c' f'
  have e0 : (rowsN length 0).map eT = [.tuple [.int 0]] := rfl
  rw [e0] at z
  unfold rulesL
  generalize (rowsN length (many - 2)).map eT = A at z z2
  have r1 : rngOk ((many : Int) - 2) = true := decide_eq_true (by omega)
  have r2 : ((many : Int) - 2).toNat = many - 2 := by omega
  simp (disch := omega) [F_law_rules, b_law_rules, r1, r2, z, z2]
end C21

namespace C21
open PySem PySem.Spec PyProof.Rows L2 Pf
variable {ds : DS}
def wr (L : Nat) (s : List Int) : List Int := 0 :: (s ++ [(L : Int)])
theorem wr_last (L : Nat) (s : List Int) : (wr L s).getLast? = some (L : Int) := by
  unfold wr
  rw [List.getLast?_cons]
  simp
theorem subL_lst {α : Type} : ∀ (k : Nat) (xs s : List α), s ∈ subL k xs → s.Sublist xs
  | 0, xs, s, h => by
    simp [subL] at h
    subst h
    exact List.nil_sublist _
  | _ + 1, [], s, h => by simp [subL] at h
  | k + 1, x :: xs, s, h => by
    simp only [subL, List.mem_append, List.mem_map] at h
    rcases h with ⟨t, ht, rfl⟩ | h
    · exact (subL_lst k xs t ht).cons_cons x
    · exact (subL_lst (k + 1) xs s h).cons x
theorem rg_up (n : Nat) : Up (rg n) := by
  unfold rg
  exact List.pairwise_map.mpr (List.pairwise_lt_range.imp fun h => by omega)
theorem rg_mem {n : Nat} {x : Int} (h : x ∈ rg n) : 1 ≤ x ∧ x ≤ n := by
  unfold rg at h
  obtain ⟨i, hi, rfl⟩ := List.mem_map.mp h
  have := List.mem_range.mp hi
  omega
theorem wr_up {L k : Nat} (hL : 1 ≤ L) {s : List Int} (h : s ∈ subL k (rg (L - 1))) : Up (wr L s) ∧ ∀ x ∈ wr L s, 0 ≤ x ∧ x ≤ (L : Int) := by
  have hs := subL_lst _ _ _ h
  have hm : ∀ x ∈ s, 1 ≤ x ∧ x ≤ ((L - 1 : Nat) : Int) := fun x hx => rg_mem (hs.subset hx)
  have hu : Up s := (rg_up _).sublist hs
  unfold wr
  refine ⟨List.pairwise_cons.mpr ⟨fun x hx => ?_, List.pairwise_append.mpr ⟨hu, List.pairwise_singleton _ _, fun x hx y hy => ?_⟩⟩, fun x hx => ?_⟩
  · rcases List.mem_append.mp hx with hx | hx
    · have := hm x hx
      omega
    · rw [List.mem_singleton.mp hx]
      omega
  · rw [List.mem_singleton.mp hy]
    have := hm x hx
    omega
  · rcases List.mem_cons.mp hx with rfl | hx
    · omega
    · rcases List.mem_append.mp hx with hx | hx
      · have := hm x hx
        omega
      · rw [List.mem_singleton.mp hx]
        omega
theorem wh_eq {rule : List Int} {L : Nat} (hu : Up rule) (hb : ∀ x ∈ rule, 0 ≤ x ∧ x ≤ (L : Int)) (hL : rule.getLast? = some (L : Int)) : wh rule = whole rule := by
  unfold wh whole
  rw [hL]
  have := full_iff (gs := gaps rule) (n := L) (gaps_in hu hb)
  simp only [Option.getD_some, Int.toNat_natCast]
  by_cases h : ssetI (gaps rule) = rg L
  · simp [h, this.mp h]
  · simp [h]
    exact fun z => h (this.mpr z)
theorem cmr_rg {L k : Nat} (hL : 1 ≤ L) (hL2 : L ≤ 100) (hk : k ≤ 100) : cmrD [.int 1, .int (L : Int)] (.int (k : Int)) = some ((subL k (rg (L - 1))).map eT) := by
  have r2 : rngOk (L : Int) = true := decide_eq_true (by omega)
  have r3 : rngD [.int 1, .int (L : Int)] = some ((rg (L - 1)).map .int) := by
    show (if (rngOk 1 && rngOk (L : Int)) = true then _ else none) = _
    rw [r2, if_pos (by decide), ← rg_map]
    rw [show ((L : Int) - 1).toNat = L - 1 from by omega]
  have hl : (rg (L - 1)).length ≤ 100 := by unfold rg; simp; omega
  have r4 : lrgD [.int 1, .int (L : Int)] = some (.list ((rg (L - 1)).map .int)) := by
    unfold lrgD
    rw [r3, Option.bind_some, if_pos ⟨by rw [List.length_map]; have hc : cap = 16777216 := rfl; omega, by show 2 < 3; decide⟩]
  unfold cmrD
  rw [r4, Option.bind_some]
  show cmbL _ _ = _
  unfold cmbL
  rw [if_pos ⟨by omega, by omega, by rw [List.length_map]; omega⟩, Int.toNat_natCast, subL_map, List.map_map]
  rfl
theorem l_fw1 {L : Nat} (hL : 1 ≤ L) (hL2 : L ≤ 9) {k : Nat} (hk : k ≤ 8) (b : Slot) : ∀ (ss : List (List Int)) (c d : Slot), (∀ s ∈ ss, s ∈ subL k (rg (L - 1))) →
    (∀ r, (ss.map (wr L)).find? whole = some r → forE G_fewest_marks b_fewest_marks_1 (.nm 2) (ss.map eT) [.sh (.int (L : Int)), b, c, d] ds = some (.rt (eT r) ds)) ∧
    ((ss.map (wr L)).find? whole = none → ∃ c' d', forE G_fewest_marks b_fewest_marks_1 (.nm 2) (ss.map eT) [.sh (.int (L : Int)), b, c, d] ds = some (.nx [.sh (.int (L : Int)), b, c', d'] ds))
  | [], c, d, _ => ⟨fun r h => by simp at h, fun _ => ⟨c, d, rfl⟩⟩
  | s :: ss, c, d, h => by
    have hs := h s (by simp)
    have hn := (subL_sub _ _ _ hs).1
    have hw := wr_up hL hs
    have e := e_is_whole (ds := ds) (rule := wr L s) (by unfold wr; simp; omega) (wr_last L s) (by omega)
    rw [wh_eq hw.1 hw.2 (wr_last L s)] at e
    obtain ⟨i1, i2⟩ := l_fw1 hL hL2 hk b ss (.sh (eT s)) (.sh (eT (wr L s))) fun x hx => h x (by simp [hx])
    have hc : cap = 16777216 := rfl
    have body : evSs G_fewest_marks b_fewest_marks_1 [.sh (.int (L : Int)), b, .sh (eT s), d] ds = if whole (wr L s) = true then some (.rt (eT (wr L s)) ds) else some (.nx [.sh (.int (L : Int)), b, .sh (eT s), .sh (eT (wr L s))] ds) := by
      have e2 : eT (wr L s) = .tuple (.int 0 :: (s.map .int ++ [.int (L : Int)])) := by unfold wr; simp
      generalize whole (wr L s) = q at e ⊢
      rw [e2] at e ⊢
      have hl : (s.map PyData.int).length = k := by rw [List.length_map]; exact hn
      show evSs _ _ [.sh (.int (L : Int)), b, .sh (.tuple (s.map .int)), d] ds = _
      generalize hS : s.map PyData.int = S at e hl ⊢
      cases q <;> simp (disch := omega) [b_fewest_marks_1, e, hS]
    simp only [List.map_cons, List.find?_cons]
    cases hq : whole (wr L s) with
    | true =>
      rw [hq] at body
      refine ⟨fun r hr => ?_, fun hr => by cases hr⟩
      obtain rfl := Option.some.inj hr
      rw [forE_cons]
      show (evSs G_fewest_marks b_fewest_marks_1 [.sh (.int (L : Int)), b, .sh (eT s), d] ds).bind _ = _
      rw [body]
      rfl
    | false =>
      rw [hq] at body
      refine ⟨fun r hr => ?_, fun hr => ?_⟩
      · exact (for_step rfl body).trans (i1 r hr)
      · obtain ⟨c', d', z⟩ := i2 hr
        exact ⟨c', d', (for_step rfl body).trans z⟩
theorem rulesK_wr (L k : Nat) : rulesK L k = (subL k (rg (L - 1))).map (wr L) := rfl
theorem l_fw2 {L : Nat} (hL : 1 ≤ L) (hL2 : L ≤ 9) : ∀ (ks : List Nat) (b c d : Slot), (∀ k ∈ ks, k ≤ 8) →
    (∀ r, (ks.flatMap (rulesK L)).find? whole = some r → forE G_fewest_marks b_fewest_marks_2 (.nm 1) (ks.map fun k : Nat => .int (k : Int)) [.sh (.int (L : Int)), b, c, d] ds = some (.rt (eT r) ds)) ∧
    ((ks.flatMap (rulesK L)).find? whole = none → ∃ b' c' d', forE G_fewest_marks b_fewest_marks_2 (.nm 1) (ks.map fun k : Nat => .int (k : Int)) [.sh (.int (L : Int)), b, c, d] ds = some (.nx [.sh (.int (L : Int)), b', c', d'] ds))
  | [], b, c, d, _ => ⟨fun r h => by simp at h, fun _ => ⟨b, c, d, rfl⟩⟩
  | k :: ks, b, c, d, h => by
    have hk := h k (by simp)
    obtain ⟨a1, a2⟩ := l_fw1 (ds := ds) hL hL2 hk (.sh (.int (k : Int))) (subL k (rg (L - 1))) c d fun s hs => hs
    have hi := cmr_rg hL (by omega) (k := k) (by omega)
    simp only [List.flatMap_cons, List.find?_append, List.map_cons]
    rw [← rulesK_wr] at a1 a2
    generalize (subL k (rg (L - 1))).map eT = items at a1 a2 hi
    cases hf : (rulesK L k).find? whole with
    | some r0 =>
      have z := a1 r0 hf
      refine ⟨fun r hr => ?_, fun hr => by simp at hr⟩
      have hr : r0 = r := by simpa using hr
      subst hr
      have body : evSs G_fewest_marks b_fewest_marks_2 [.sh (.int (L : Int)), .sh (.int (k : Int)), c, d] ds = some (.rt (eT r0) ds) := by
        generalize eT r0 = R at z
        simp [b_fewest_marks_2, hi, z, -cmrD_eq]
      rw [forE_cons]
      show (evSs G_fewest_marks b_fewest_marks_2 [.sh (.int (L : Int)), .sh (.int (k : Int)), c, d] ds).bind _ = _
      rw [body]
      rfl
    | none =>
      obtain ⟨c', d', z⟩ := a2 hf
      have body : evSs G_fewest_marks b_fewest_marks_2 [.sh (.int (L : Int)), .sh (.int (k : Int)), c, d] ds = some (.nx [.sh (.int (L : Int)), .sh (.int (k : Int)), c', d'] ds) := by
        simp [b_fewest_marks_2, hi, z, -cmrD_eq]
      obtain ⟨i1, i2⟩ := l_fw2 hL hL2 ks (.sh (.int (k : Int))) c' d' fun x hx => h x (by simp [hx])
      refine ⟨fun r hr => (for_step rfl body).trans (i1 r (by simpa using hr)), fun hr => ?_⟩
      obtain ⟨b2, c2, d2, z2⟩ := i2 (by simpa using hr)
      exact ⟨b2, c2, d2, (for_step rfl body).trans z2⟩
theorem firstW_eq (L : Nat) : (firstW L).head? = ((List.range L).flatMap (rulesK L)).find? whole := by
  unfold firstW
  rw [← List.head?_filter, List.filter_flatMap]
theorem e_fewest {L : Nat} (hL : 1 ≤ L) (hL2 : L ≤ 9) {r : List Int} (h : (firstW L).head? = some r) : F_fewest_marks [.int (L : Int)] ds = some (eT r, ds) := by
  have z := (l_fw2 (ds := ds) hL hL2 (List.range L) .no .no .no fun k hk => by have := List.mem_range.mp hk; omega).1 r (by rw [← firstW_eq]; exact h)
  have r2 : rngOk (L : Int) = true := decide_eq_true (by omega)
  have r3 : rngD [.int (L : Int)] = some ((List.range L).map fun k : Nat => .int (k : Int)) := by
    show (if rngOk (L : Int) = true then some ((List.range (L : Int).toNat).map fun k : Nat => PyData.int (k : Int)) else none) = _
    rw [r2, if_pos rfl, Int.toNat_natCast]
  generalize eT r = R at z
  simp [F_fewest_marks, b_fewest_marks, r3, z]
theorem l_sp1 {L : Nat} (hL2 : L ≤ 11) {k : Nat} (hk : k ≤ 2) (b : Slot) : ∀ (ss : List (List Int)) (c d : Slot), (∀ s ∈ ss, s ∈ subL k (rg (L - 1))) →
    (∀ r, (ss.map (wr L)).find? plain = some r → forE G_shortest_plain b_shortest_plain_1 (.nm 2) (ss.map eT) [b, .sh (.int (L : Int)), c, d] ds = some (.rt (eT r) ds)) ∧
    ((ss.map (wr L)).find? plain = none → ∃ c' d', forE G_shortest_plain b_shortest_plain_1 (.nm 2) (ss.map eT) [b, .sh (.int (L : Int)), c, d] ds = some (.nx [b, .sh (.int (L : Int)), c', d'] ds))
  | [], c, d, _ => ⟨fun r h => by simp at h, fun _ => ⟨c, d, rfl⟩⟩
  | s :: ss, c, d, h => by
    have hs := h s (by simp)
    have hn := (subL_sub _ _ _ hs).1
    have e := e_is_plain (ds := ds) (rule := wr L s) (by unfold wr; simp; omega)
    obtain ⟨i1, i2⟩ := l_sp1 hL2 hk b ss (.sh (eT s)) (.sh (eT (wr L s))) fun x hx => h x (by simp [hx])
    have hc : cap = 16777216 := rfl
    have body : evSs G_shortest_plain b_shortest_plain_1 [b, .sh (.int (L : Int)), .sh (eT s), d] ds = if plain (wr L s) = true then some (.rt (eT (wr L s)) ds) else some (.nx [b, .sh (.int (L : Int)), .sh (eT s), .sh (eT (wr L s))] ds) := by
      have e2 : eT (wr L s) = .tuple (.int 0 :: (s.map .int ++ [.int (L : Int)])) := by unfold wr; simp
      generalize plain (wr L s) = q at e ⊢
      rw [e2] at e ⊢
      have hl : (s.map PyData.int).length = k := by rw [List.length_map]; exact hn
      show evSs _ _ [b, .sh (.int (L : Int)), .sh (.tuple (s.map .int)), d] ds = _
      generalize hS : s.map PyData.int = S at e hl ⊢
      cases q <;> simp (disch := omega) [b_shortest_plain_1, e, hS]
    simp only [List.map_cons, List.find?_cons]
    cases hq : plain (wr L s) with
    | true =>
      rw [hq] at body
      refine ⟨fun r hr => ?_, fun hr => by cases hr⟩
      obtain rfl := Option.some.inj hr
      rw [forE_cons]
      show (evSs G_shortest_plain b_shortest_plain_1 [b, .sh (.int (L : Int)), .sh (eT s), d] ds).bind _ = _
      rw [body]
      rfl
    | false =>
      rw [hq] at body
      refine ⟨fun r hr => ?_, fun hr => ?_⟩
      · exact (for_step rfl body).trans (i1 r hr)
      · obtain ⟨c', d', z⟩ := i2 hr
        exact ⟨c', d', (for_step rfl body).trans z⟩
theorem l_sp2 {k : Nat} (hk : k ≤ 2) : ∀ (m L N : Nat) (c d : Slot) (r : List Int), m < N → 1 ≤ L → L + m ≤ 12 → (((List.range m).map fun i : Nat => i + L).flatMap fun L : Nat => rulesK L k).find? plain = some r →
    whlE G_shortest_plain c_shortest_plain_1 b_shortest_plain_2 N [.sh (.int ((k : Int) + 2)), .sh (.int (L : Int)), c, d] ds = some (.rt (eT r) ds)
  | 0, L, N, c, d, r, _, _, _, h => by simp at h
  | m + 1, L, 0, c, d, r, hN, _, _, _ => by omega
  | m + 1, L, N + 1, c, d, r, hN, hL, hm, h => by
    have e1 : ((List.range (m + 1)).map fun i : Nat => i + L) = L :: (List.range m).map fun i : Nat => i + (L + 1) := by
      rw [List.range_succ_eq_map, List.map_cons, List.map_map, Nat.zero_add]
      congr 1
      exact List.map_congr_left fun i _ => by simp only [Function.comp]; omega
    rw [e1, List.flatMap_cons, List.find?_append] at h
    obtain ⟨a1, a2⟩ := l_sp1 (ds := ds) (L := L) (by omega) hk (.sh (.int ((k : Int) + 2))) (subL k (rg (L - 1))) c d fun s hs => hs
    have hi := cmr_rg hL (by omega) (k := k) (by omega)
    have hk2 : (k : Int) + 2 - 2 = k := by omega
    rw [← rulesK_wr] at a1 a2
    generalize (subL k (rg (L - 1))).map eT = items at a1 a2 hi
    cases hf : (rulesK L k).find? plain with
    | some r0 =>
      have z := a1 r0 hf
      rw [hf] at h
      have hr : r0 = r := by simpa using h
      subst hr
      generalize eT r0 = R at z ⊢
      exact whl_ret (d := .bool true) (s1 := ds) rfl rfl (by simp [b_shortest_plain_2, hi, z, hk2, -cmrD_eq])
    | none =>
      rw [hf] at h
      obtain ⟨c', d', z⟩ := a2 hf
      refine (whl_step (ρ2 := [.sh (.int ((k : Int) + 2)), .sh (.int ((L + 1 : Nat) : Int)), c', d']) (s2 := ds) (d := .bool true) (s1 := ds) rfl rfl ?_).trans (l_sp2 hk m (L + 1) N c' d' r (by omega) (by omega) (by omega) (by simpa using h))
      simp [b_shortest_plain_2, hi, z, hk2, -cmrD_eq]
theorem firstP_eq (many : Nat) : (firstP many).head? = (((List.range (13 - many)).map fun i : Nat => i + (many - 1)).flatMap fun L : Nat => rulesK L (many - 2)).find? plain := by
  unfold firstP
  rw [← List.head?_filter, List.filter_flatMap]
theorem e_shortest {many : Nat} (h2 : 2 ≤ many) (h4 : many ≤ 4) {r : List Int} (h : (firstP many).head? = some r) : F_shortest_plain [.int (many : Int)] ds = some (eT r, ds) := by
  rw [firstP_eq] at h
  have z := l_sp2 (ds := ds) (k := many - 2) (by omega) (13 - many) (many - 1) fuel .no .no r (by have : fuel = 1000000 := rfl; omega) (by omega) (by omega) h
  rw [show (((many - 2 : Nat) : Int) + 2) = (many : Int) from by omega, show ((many - 1 : Nat) : Int) = (many : Int) - 1 from by omega] at z
  generalize eT r = R at z ⊢
  simp [F_shortest_plain, b_shortest_plain, z]
end C21

namespace C21
open PySem PySem.Spec PyProof.Rows L2 Pf
variable {ds : DS}
/-- a row with its ends -/
def full (L : Nat) (mid : List Int) : List Int := 0 :: (mid ++ [(L : Int)])
def without (row : List Int) (m : Int) : List Int := row.filter fun x => decide (x ≠ m)
def goes (L : Nat) (mid : List Int) (m : Int) : Bool := decide ((dd (gaps (without (full L mid) m))).length = L)
theorem without_facts {L : Nat} {mid : List Int} (hu : Up (full L mid)) {m : Int} (hm : m ∈ mid) : Up (without (full L mid) m) ∧ (∀ x ∈ without (full L mid) m, 0 ≤ x ∧ x ≤ (L : Int)) ∧ (without (full L mid) m).getLast? = some (L : Int) := by
  have h1 := List.pairwise_cons.mp hu
  have h2 := List.pairwise_append.mp h1.2
  have hml : m < L := h2.2.2 m hm L (by simp)
  have h0 : 0 < m := h1.1 m (by simp [hm])
  refine ⟨hu.sublist List.filter_sublist, fun x hx => ?_, ?_⟩
  · have hx := (List.mem_filter.mp hx).1
    rcases List.mem_cons.mp hx with rfl | hx
    · omega
    · have := h1.1 x hx
      rcases List.mem_append.mp hx with hx | hx
      · have := h2.2.2 x hx L (by simp)
        omega
      · rw [List.mem_singleton.mp hx]
        omega
  · unfold without full
    rw [← List.cons_append, List.filter_append]
    have : ([(L : Int)].filter fun x => decide (x ≠ m)) = [(L : Int)] := by
      simp
      omega
    rw [this]
    simp
theorem goes_wh {L : Nat} {mid : List Int} (hu : Up (full L mid)) {m : Int} (hm : m ∈ mid) : wh (without (full L mid) m) = goes L mid m := by
  obtain ⟨h1, h2, h3⟩ := without_facts hu hm
  rw [wh_eq h1 h2 h3]
  unfold whole goes
  rw [h3]
  rfl
theorem mid_cut (L : Nat) (mid : List Int) : (List.take (((full L mid).length : Int) + -1).toNat (List.map PyData.int (full L mid))).tail = mid.map .int := by
  have e : (((full L mid).length : Int) + -1).toNat = mid.length + 1 := by
    unfold full
    simp
    omega
  rw [e]
  unfold full
  simp
theorem x_cg1 {row : List Int} (hl : row.length ≤ 100) (m : Int) (c : Slot) : evE G_can_go x_can_go_1 [.sh (eT row), .sh (.int m), c] ds = some (.list ((without row m).map .int), ds) := by
  unfold without
  refine lcs (items := row.map .int) (by simp) rfl (by simp; omega) (lcF fun x hx => ⟨_, rfl, by simp, fun _ => by simp⟩)
theorem x_cg2 {L : Nat} {mid : List Int} (hL : L ≤ 9) (hu : Up (full L mid)) (hl : mid.length ≤ 8) (b c : Slot) : evE G_can_go x_can_go_2 [.sh (eT (full L mid)), b, c] ds = some (.list ((mid.filter (goes L mid)).map .int), ds) := by
  have hfl : (full L mid).length ≤ 10 := by unfold full; simp; omega
  refine lcs (items := mid.map .int) ?_ rfl (by simp; omega) (lcF fun x hx => ⟨_, rfl, ?_, fun _ => by simp⟩)
  · simp
    exact mid_cut L mid
  · have z := x_cg1 (ds := ds) (row := full L mid) (by omega) x (lend c)
    have e := e_is_whole (ds := ds) (rule := without (full L mid) x) (Nat.le_trans (List.length_filter_le _ _) hfl) (without_facts hu hx).2.2 (by omega)
    rw [goes_wh hu hx] at e
    have e : F_is_whole [.tuple ((without (full L mid) x).map .int)] ds = some (.bool (goes L mid x), ds) := e
    generalize (without (full L mid) x).map PyData.int = W at z e
    show evC _ _ [.sh (eT (full L mid)), .sh (.int x), lend c] ds = _
    generalize eT (full L mid) = A at z ⊢
    generalize lend c = c1 at z ⊢
    simp [z, e]
theorem e_can_go {L : Nat} {mid : List Int} (hL : L ≤ 9) (hu : Up (full L mid)) (hl : mid.length ≤ 8) : F_can_go [eT (full L mid)] ds = some (.list ((mid.filter (goes L mid)).map .int), ds) := by
  have z := x_cg2 (ds := ds) hL hu hl .no .no
  generalize eT (full L mid) = A at z
  simp [F_can_go, b_can_go, z]
end C21

namespace C21
open PySem PySem.Spec PyProof.Rows L2 Pf
variable {ds : DS}
theorem u_1 {r2 r4 r5 r6 r7 r8 r9 r10 r11 r12 r13: Slot} : ∃ (ms : List Int) (s' : DS), evE G_law x_law_1 (.no :: .sh drw :: r2 :: .no :: r4 :: r5 :: r6 :: r7 :: r8 :: r9 :: r10 :: r11 :: r12 :: [r13]) ds = some (.list (ms.map .int), s') ∧ (∀ m ∈ ms, 1 ≤ m ∧ m ≤ 12) ∧ 1 ≤ ms.length ∧ ms.length ≤ 5 := by
  obtain ⟨v0, v1⟩ := nv_lt (m := 5) ds (by decide) (by decide)
  obtain ⟨bs, s', h1, h2, h3⟩ := lcE_pi (Γ := G_law) (elt := .bin .Add (.int 1) (.call 0 (.cons (.var 1) (.cons (.int 12) .nil)))) (tg := .nm 3) (ρ := blkR (.no :: .sh drw :: r2 :: .no :: r4 :: r5 :: r6 :: r7 :: r8 :: r9 :: r10 :: r11 :: r12 :: [r13]) (Tg.nm 3).slots)
    (e' := fun k : Nat => PyData.int (k : Int)) (e := fun b : Nat × Int => .int b.2) (π := fun b => b.1) (P := fun b => 1 ≤ b.2 ∧ b.2 ≤ 12) (xs := List.range (1 + nv 5 ds).toNat) (nw 5 ds) (fun x hx s => by
    obtain ⟨w0, w1⟩ := nv_lt (m := 12) s (by decide) (by decide)
    refine ⟨(x, 1 + nv 12 s), nw 12 s, _, rfl, ?_, rfl, by simp only; omega, by simp only; omega⟩
    simp -dsimp -implicitDefEqProofs (disch := omega))
  have hlen := congrArg List.length h2
  rw [List.length_map, List.length_range] at hlen
  refine ⟨bs.map (·.2), s', ?_, fun m hm => ?_, by rw [List.length_map]; omega, by rw [List.length_map]; omega⟩
  · rw [List.map_map]
    exact lcx (items := (List.range (1 + nv 5 ds).toNat).map fun k : Nat => PyData.int (k : Int)) (s1 := nw 5 ds) (by simp -dsimp -implicitDefEqProofs (disch := omega)) rfl (by rw [List.length_map, List.length_range]; omega) h1
  · obtain ⟨b, hb, rfl⟩ := List.mem_map.mp hm
    exact h3 b hb
theorem u_2 {d : List Int} {L : Nat} (hL : L ≤ 9) (hd : d.getLast? = some (L : Int)) {r2 r4 r5 r6 r8 r9 r10 r11 r12 r13: Slot} : ∃ (ms : List Int) (s' : DS), evE G_law x_law_2 (.no :: .sh drw :: r2 :: .no :: r4 :: r5 :: r6 :: .sh (eT d) :: r8 :: r9 :: r10 :: r11 :: r12 :: [r13]) ds = some (.list (ms.map .int), s') ∧ (∀ m ∈ ms, 0 ≤ m ∧ m ≤ (L : Int)) ∧ ms.length ≤ 3 := by
  obtain ⟨v0, v1⟩ := nv_lt (m := 4) ds (by decide) (by decide)
  have hx := at_end hd
  obtain ⟨bs, s', h1, h2, h3⟩ := lcE_pi (Γ := G_law) (elt := .call 0 (.cons (.var 1) (.cons (.bin .Add (.ix (.var 7) (.neg (.int 1))) (.int 1)) .nil))) (tg := .nm 3) (ρ := blkR (.no :: .sh drw :: r2 :: .no :: r4 :: r5 :: r6 :: .sh (eT d) :: r8 :: r9 :: r10 :: r11 :: r12 :: [r13]) (Tg.nm 3).slots)
    (e' := fun k : Nat => PyData.int (k : Int)) (e := fun b : Nat × Int => .int b.2) (π := fun b => b.1) (P := fun b => 0 ≤ b.2 ∧ b.2 ≤ (L : Int)) (xs := List.range (nv 4 ds).toNat) (nw 4 ds) (fun x _ s => by
    obtain ⟨w0, w1⟩ := nv_lt (m := (L : Int) + 1) s (by omega) (by omega)
    refine ⟨(x, nv ((L : Int) + 1) s), nw ((L : Int) + 1) s, _, rfl, ?_, rfl, by simp only; omega, by simp only; omega⟩
    show evE _ _ (_ :: _ :: _ :: _ :: _ :: _ :: _ :: .sh (.tuple (d.map .int)) :: _) s = _
    generalize d.map PyData.int = A at hx ⊢
    simp -dsimp -implicitDefEqProofs (disch := omega) [hx])
  have hlen := congrArg List.length h2
  rw [List.length_map, List.length_range] at hlen
  refine ⟨bs.map (·.2), s', ?_, fun m hm => ?_, by rw [List.length_map]; omega⟩
  · rw [List.map_map]
    refine lcx (items := (List.range (nv 4 ds).toNat).map fun k : Nat => PyData.int (k : Int)) (s1 := nw 4 ds) ?_ rfl (by rw [List.length_map, List.length_range]; omega) h1
    generalize eT d = A
    simp -dsimp -implicitDefEqProofs (disch := omega)
  · obtain ⟨b, hb, rfl⟩ := List.mem_map.mp hm
    exact h3 b hb
theorem u_3 {row : List Int} (hl : row.length ≤ 100) (m : Int) {r2 r3 r4 r5 r6 r7 r8 r10 r11 r13: Slot} : evE G_law x_law_3 (.no :: .sh drw :: r2 :: r3 :: r4 :: r5 :: r6 :: r7 :: r8 :: .sh (eT row) :: r10 :: r11 :: .sh (.int m) :: [r13]) ds = some (.list ((without row m).map .int), ds) := by
  unfold without
  exact lcs (items := row.map .int) (by simp) rfl (by simp; omega) (lcF fun x hx => ⟨_, rfl, by simp, fun _ => by simp⟩)
theorem gapsL_le {row : List Int} (h : row.length ≤ 7) : (gapsL row).length ≤ 49 := by
  unfold gapsL
  have key : ∀ r : List Int, (r.flatMap fun one => (row.filter fun other => decide (one < other)).map (· - one)).length ≤ 7 * r.length := fun r => by
    induction r with
    | nil => simp
    | cons x r ih =>
      have := List.length_filter_le (fun other => decide (x < other)) row
      rw [List.flatMap_cons, List.length_append, List.length_map, List.length_cons]
      omega
  have := key row
  omega
theorem u_4 {L : Nat} {mid : List Int} (hL : L ≤ 9) (hu : Up (full L mid)) (hl : mid.length ≤ 8) {r2 r3 r4 r5 r6 r7 r8 r10 r11 r12 r13: Slot} : evE G_law x_law_4 (.no :: .sh drw :: r2 :: r3 :: r4 :: r5 :: r6 :: r7 :: r8 :: .sh (eT (full L mid)) :: r10 :: r11 :: r12 :: [r13]) ds = some (.list ((mid.filter (goes L mid)).map .int), ds) := by
  have hfl : (full L mid).length ≤ 10 := by unfold full; simp; omega
  have hlast : (full L mid).getLast? = some (L : Int) := by
    unfold full
    rw [List.getLast?_cons]
    simp
  refine lcs (items := mid.map .int) ?_ rfl (by simp; omega) (lcF fun x hx => ⟨_, rfl, ?_, fun _ => by simp⟩)
  · simp
    exact mid_cut L mid
  · have hw := without_facts hu hx
    have e := e_lawm (ds := ds) (.list ((without (full L mid) x).map .int)) (rule := without (full L mid) x) (.inr rfl) (Nat.le_trans (List.length_filter_le _ _) hfl)
    rw [gapsL_eq hw.1] at e
    have hg := gaps_le (rule := without (full L mid) x) (Nat.le_trans (List.length_filter_le _ _) hfl)
    have hs := lsetD_ints (ns := gaps (without (full L mid) x)) (by omega)
    have hx := at_end hlast
    have z := fun {r2 r3 r4 r5 r6 r7 r8 r10 r11 r13: Slot} => u_3 (ds := ds) (row := full L mid) (by omega) x (r2 := r2) (r3 := r3) (r4 := r4) (r5 := r5) (r6 := r6) (r7 := r7) (r8 := r8) (r10 := r10) (r11 := r11) (r13 := r13)
    have hgo : goes L mid x = decide (((dd (gaps (without (full L mid) x))).length : Int) = (L : Int)) := by
      unfold goes
      by_cases h : (dd (gaps (without (full L mid) x))).length = L
      · simp [h]
      · rw [decide_eq_false h, decide_eq_false (by omega)]
    rw [hgo]
    generalize (without (full L mid) x).map PyData.int = W at z e
    generalize (gaps (without (full L mid) x)).map PyData.int = Gp at e hs
    generalize (dd (gaps (without (full L mid) x))).length = n at hs
    have z : ∀ {r2 r3 r4 r5 r6 r7 r8 r10 r11 r13: Slot}, evE G_law x_law_3 (.no :: .sh drw :: r2 :: r3 :: r4 :: r5 :: r6 :: r7 :: r8 :: .sh (.tuple ((full L mid).map .int)) :: r10 :: r11 :: .sh (.int x) :: [r13]) ds = some (.list W, ds) := z
    show evC _ _ (_ :: _ :: _ :: _ :: _ :: _ :: _ :: _ :: _ :: .sh (.tuple ((full L mid).map .int)) :: _) ds = _
    generalize (full L mid).map PyData.int = A at z hx ⊢
    simp -dsimp -implicitDefEqProofs [z, e, hs, hx]
end C21

namespace C21
open PySem PySem.Spec PyProof.Rows L2 Pf
variable {ds : DS}
theorem rulesL_len {L : Int} (hl : L ≤ 12) {many : Nat} (h2 : 2 ≤ many) : ∀ row ∈ rulesL L many, row.length = many := fun row hr => by
  unfold rulesL at hr
  obtain ⟨r, h, rfl⟩ := List.mem_map.mp hr
  have := ((okR_N hl (many - 2)).1 r h).1
  rw [List.length_append, this]
  simp
  omega
def pF (L : Nat) (row : List Int) : Bool := decide ((dd (gapsL row)).length = L)
def pP (row : List Int) : Bool := decide ((dd (gapsL row)).length = (gapsL row).length)
theorem b1 {L : Nat} {row : List Int} (hl : row.length ≤ 7) (o : Option (List Int)) {r2 r3 r4 r5 r8 r10 r11 r12 r13: Slot} : evSs G_law b_law_1 (.no :: .sh drw :: r2 :: r3 :: r4 :: r5 :: .sh (.int (L : Int)) :: .sh (eO eT o) :: r8 :: .sh (eT row) :: r10 :: r11 :: r12 :: [r13]) ds = some (.nx (.no :: .sh drw :: r2 :: r3 :: r4 :: r5 :: .sh (.int (L : Int)) :: .sh (eO eT (o.or (if pF L row = true then some row else none))) :: r8 :: .sh (eT row) :: r10 :: r11 :: r12 :: [r13]) ds) := by
  cases o with
  | some d =>
    show evSs _ _ (_ :: _ :: _ :: _ :: _ :: _ :: _ :: .sh (.tuple (d.map .int)) :: _) ds = some (.nx (_ :: _ :: _ :: _ :: _ :: _ :: _ :: .sh (.tuple (d.map .int)) :: _) ds)
    generalize d.map PyData.int = A
    simp -dsimp -implicitDefEqProofs [b_law_1]
  | none =>
    have e := e_lawm (ds := ds) (eT row) (.inl rfl) (by omega)
    have hg := gapsL_le hl
    have hs := lsetD_ints (ns := gapsL row) (by omega)
    have hp : pF L row = decide (((dd (gapsL row)).length : Int) = (L : Int)) := by
      unfold pF
      by_cases h : (dd (gapsL row)).length = L
      · simp [h]
      · rw [decide_eq_false h, decide_eq_false (by omega)]
    generalize (gapsL row).map PyData.int = Gp at e hs
    generalize (dd (gapsL row)).length = n at hs hp
    rw [hp, Option.none_or]
    generalize hT : eT row = T at e ⊢
    by_cases h : ((n : Int) = (L : Int))
    · simp -dsimp -implicitDefEqProofs [b_law_1, e, hs, h, eO, hT]
    · simp -dsimp -implicitDefEqProofs [b_law_1, e, hs, h, eO, hT]
theorem l_b1 {L : Nat} {r2 r3 r4 r5 r8 r10 r11 r12 r13: Slot} : ∀ (rows : List (List Int)) (o : Option (List Int)) (r9 : Slot), (∀ row ∈ rows, row.length ≤ 7) → ∃ k9, forE G_law b_law_1 (.nm 9) (rows.map eT) (.no :: .sh drw :: r2 :: r3 :: r4 :: r5 :: .sh (.int (L : Int)) :: .sh (eO eT o) :: r8 :: r9 :: r10 :: r11 :: r12 :: [r13]) ds = some (.nx (.no :: .sh drw :: r2 :: r3 :: r4 :: r5 :: .sh (.int (L : Int)) :: .sh (eO eT (o.or (rows.find? (pF L)))) :: r8 :: k9 :: r10 :: r11 :: r12 :: [r13]) ds)
  | [], o, r9, _ => ⟨r9, by simp; rfl⟩
  | row :: rows, o, r9, h => by
    obtain ⟨k9, ih⟩ := l_b1 rows (o.or (if pF L row = true then some row else none)) (.sh (eT row)) (fun x hx => h x (by simp [hx]))
    refine ⟨k9, (for_step rfl (b1 (h row (by simp)) o)).trans (ih.trans ?_)⟩
    have e : (o.or (if pF L row = true then some row else none)).or (rows.find? (pF L)) = o.or ((row :: rows).find? (pF L)) := by
      rw [Option.or_assoc, List.find?_cons]
      cases pF L row <;> rfl
    rw [e]
theorem l_b2 {L : Nat} (hL : L ≤ 9) {r2 r3 r4 r5 r10 r11 r12 r13: Slot} : ∀ (ms : List Nat) (o : Option (List Int)) (r8 r9 : Slot), (∀ m ∈ ms, 2 ≤ m ∧ m ≤ 7) → ∃ k8 k9, forE G_law b_law_2 (.nm 8) (ms.map fun m : Nat => .int (m : Int)) (.no :: .sh drw :: r2 :: r3 :: r4 :: r5 :: .sh (.int (L : Int)) :: .sh (eO eT o) :: r8 :: r9 :: r10 :: r11 :: r12 :: [r13]) ds = some (.nx (.no :: .sh drw :: r2 :: r3 :: r4 :: r5 :: .sh (.int (L : Int)) :: .sh (eO eT (o.or ((ms.flatMap (rulesL (L : Int))).find? (pF L)))) :: k8 :: k9 :: r10 :: r11 :: r12 :: [r13]) ds)
  | [], o, r8, r9, _ => ⟨r8, r9, by simp; rfl⟩
  | m :: ms, o, r8, r9, h => by
    obtain ⟨h2, h7⟩ := h m (by simp)
    have e := e_law_rules (ds := ds) (length := (L : Int)) (by omega) (by omega) h2 h7
    obtain ⟨k9, z⟩ := l_b1 (ds := ds) (L := L) (rulesL (L : Int) m) o r9 (fun row hr => by rw [rulesL_len (by omega) h2 row hr]; exact h7) (r8 := .sh (.int (m : Int))) (r2 := r2) (r3 := r3) (r4 := r4) (r5 := r5) (r10 := r10) (r11 := r11) (r12 := r12) (r13 := r13)
    obtain ⟨k8', k9', ih⟩ := l_b2 hL ms (o.or ((rulesL (L : Int) m).find? (pF L))) (.sh (.int (m : Int))) k9 (fun x hx => h x (by simp [hx]))
    refine ⟨k8', k9', (for_step rfl (ρ2 := (.no :: .sh drw :: r2 :: r3 :: r4 :: r5 :: .sh (.int (L : Int)) :: .sh (eO eT (o.or ((rulesL (L : Int) m).find? (pF L)))) :: .sh (.int (m : Int)) :: k9 :: r10 :: r11 :: r12 :: [r13])) ?_).trans (ih.trans ?_)⟩
    · generalize (rulesL (L : Int) m).map eT = items at e z
      generalize eO eT o = O at z ⊢
      generalize eO eT (o.or ((rulesL (L : Int) m).find? (pF L))) = O2 at z ⊢
      show evSs _ _ (_ :: _ :: _ :: _ :: _ :: _ :: _ :: _ :: .sh (.int (m : Int)) :: _) ds = _
      simp -dsimp -implicitDefEqProofs [b_law_2, e, z]
    · rw [List.flatMap_cons, List.find?_append, Option.or_assoc]
theorem b3 {row : List Int} (hl : row.length ≤ 7) (o : Option (List Int)) {r2 r3 r4 r5 r6 r7 r8 r11 r12 r13: Slot} : evSs G_law b_law_3 (.no :: .sh drw :: r2 :: r3 :: r4 :: r5 :: r6 :: r7 :: r8 :: .sh (eT row) :: .sh (eO eT o) :: r11 :: r12 :: [r13]) ds = some (.nx (.no :: .sh drw :: r2 :: r3 :: r4 :: r5 :: r6 :: r7 :: r8 :: .sh (eT row) :: .sh (eO eT (o.or (if pP row = true then some row else none))) :: r11 :: r12 :: [r13]) ds) := by
  cases o with
  | some d =>
    show evSs _ _ (_ :: _ :: _ :: _ :: _ :: _ :: _ :: _ :: _ :: _ :: .sh (.tuple (d.map .int)) :: _) ds = some (.nx (_ :: _ :: _ :: _ :: _ :: _ :: _ :: _ :: _ :: _ :: .sh (.tuple (d.map .int)) :: _) ds)
    generalize d.map PyData.int = A
    simp -dsimp -implicitDefEqProofs [b_law_3]
  | none =>
    have e := e_lawm (ds := ds) (eT row) (.inl rfl) (by omega)
    have hg := gapsL_le hl
    have hs := lsetD_ints (ns := gapsL row) (by omega)
    have hlen : ((gapsL row).map PyData.int).length = (gapsL row).length := List.length_map ..
    have hp : pP row = decide (((dd (gapsL row)).length : Int) = ((gapsL row).length : Int)) := by
      unfold pP
      by_cases h : (dd (gapsL row)).length = (gapsL row).length
      · simp [h]
      · rw [decide_eq_false h, decide_eq_false (by omega)]
    generalize (gapsL row).map PyData.int = Gp at e hs hlen
    generalize (dd (gapsL row)).length = n at hs hp
    generalize (gapsL row).length = q at hlen hp
    rw [hp, Option.none_or]
    generalize hT : eT row = T at e ⊢
    by_cases h : ((n : Int) = (q : Int))
    · simp -dsimp -implicitDefEqProofs [b_law_3, e, hs, h, eO, hT, hlen]
    · simp -dsimp -implicitDefEqProofs [b_law_3, e, hs, h, eO, hT, hlen]
theorem l_b3 {r2 r3 r4 r5 r6 r7 r8 r11 r12 r13: Slot} : ∀ (rows : List (List Int)) (o : Option (List Int)) (r9 : Slot), (∀ row ∈ rows, row.length ≤ 7) → ∃ k9, forE G_law b_law_3 (.nm 9) (rows.map eT) (.no :: .sh drw :: r2 :: r3 :: r4 :: r5 :: r6 :: r7 :: r8 :: r9 :: .sh (eO eT o) :: r11 :: r12 :: [r13]) ds = some (.nx (.no :: .sh drw :: r2 :: r3 :: r4 :: r5 :: r6 :: r7 :: r8 :: k9 :: .sh (eO eT (o.or (rows.find? pP))) :: r11 :: r12 :: [r13]) ds)
  | [], o, r9, _ => ⟨r9, by simp; rfl⟩
  | row :: rows, o, r9, h => by
    obtain ⟨k9, ih⟩ := l_b3 rows (o.or (if pP row = true then some row else none)) (.sh (eT row)) (fun x hx => h x (by simp [hx]))
    refine ⟨k9, (for_step rfl (b3 (h row (by simp)) o)).trans (ih.trans ?_)⟩
    have e : (o.or (if pP row = true then some row else none)).or (rows.find? pP) = o.or ((row :: rows).find? pP) := by
      rw [Option.or_assoc, List.find?_cons]
      cases pP row <;> rfl
    rw [e]
theorem l_b4 {many : Nat} (h2 : 2 ≤ many) (h7 : many ≤ 7) {r2 r3 r4 r5 r7 r11 r12 r13: Slot} : ∀ (ls : List Nat) (o : Option (List Int)) (r6 r9 : Slot), (∀ l ∈ ls, l ≤ 12) → ∃ k6 k9, forE G_law b_law_4 (.nm 6) (ls.map fun m : Nat => .int (m : Int)) (.no :: .sh drw :: r2 :: r3 :: r4 :: r5 :: r6 :: r7 :: .sh (.int (many : Int)) :: r9 :: .sh (eO eT o) :: r11 :: r12 :: [r13]) ds = some (.nx (.no :: .sh drw :: r2 :: r3 :: r4 :: r5 :: k6 :: r7 :: .sh (.int (many : Int)) :: k9 :: .sh (eO eT (o.or ((ls.flatMap fun l : Nat => rulesL (l : Int) many).find? pP))) :: r11 :: r12 :: [r13]) ds)
  | [], o, r6, r9, _ => ⟨r6, r9, by simp; rfl⟩
  | l :: ls, o, r6, r9, h => by
    have hl := h l (by simp)
    have e := e_law_rules (ds := ds) (length := (l : Int)) (by omega) (by omega) h2 h7
    obtain ⟨k9, z⟩ := l_b3 (ds := ds) (rulesL (l : Int) many) o r9 (fun row hr => by rw [rulesL_len (by omega) h2 row hr]; exact h7) (r6 := .sh (.int (l : Int))) (r8 := .sh (.int (many : Int))) (r2 := r2) (r3 := r3) (r4 := r4) (r5 := r5) (r7 := r7) (r11 := r11) (r12 := r12) (r13 := r13)
    obtain ⟨k6', k9', ih⟩ := l_b4 h2 h7 ls (o.or ((rulesL (l : Int) many).find? pP)) (.sh (.int (l : Int))) k9 (fun x hx => h x (by simp [hx]))
    refine ⟨k6', k9', (for_step rfl (ρ2 := (.no :: .sh drw :: r2 :: r3 :: r4 :: r5 :: .sh (.int (l : Int)) :: r7 :: .sh (.int (many : Int)) :: k9 :: .sh (eO eT (o.or ((rulesL (l : Int) many).find? pP))) :: r11 :: r12 :: [r13])) ?_).trans (ih.trans ?_)⟩
    · generalize (rulesL (l : Int) many).map eT = items at e z
      generalize eO eT o = O at z ⊢
      generalize eO eT (o.or ((rulesL (l : Int) many).find? pP)) = O2 at z ⊢
      show evSs _ _ (_ :: _ :: _ :: _ :: _ :: _ :: .sh (.int (l : Int)) :: _) ds = _
      simp -dsimp -implicitDefEqProofs [b_law_4, e, z]
    · rw [List.flatMap_cons, List.find?_append, Option.or_assoc]
end C21

namespace C21
open PySem PySem.Spec PyProof.Rows L2 Pf
variable {ds : DS}
theorem same_ints (xs : List Int) (hl : xs.length ≤ 1000) (s : DS) : sameF 8 [.list (xs.map .int), .list (xs.map .int)] s = some (.bool true, s) := same_okL (fun _ _ => rfl) (by omega) s
theorem same_tup (xs : List Int) (hl : xs.length ≤ 1000) (s : DS) : sameF 8 [eT xs, eT xs] s = some (.bool true, s) := same_okT (fun _ _ => rfl) (by omega) s
theorem full_of {l : List Int} {L : Nat} (hu : Up l) (hb : ∀ x ∈ l, 0 ≤ x ∧ x ≤ (L : Int)) (h0 : (0 : Int) ∈ l) (hL : (L : Int) ∈ l) (h1 : 1 ≤ L) : ∃ mid, l = full L mid := by
  cases l with
  | nil => cases h0
  | cons x xs =>
    have hu' := List.pairwise_cons.mp hu
    have hx : x = 0 := by
      rcases List.mem_cons.mp h0 with h | h
      · exact h.symm
      · have := hu'.1 0 h
        have := hb x (by simp)
        omega
    subst hx
    have hLx : (L : Int) ∈ xs := by
      rcases List.mem_cons.mp hL with h | h
      · omega
      · exact h
    have hne : xs ≠ [] := fun z => by rw [z] at hLx; cases hLx
    have hlast : xs.getLast hne = (L : Int) := by
      have e := List.dropLast_concat_getLast hne
      have hm := List.getLast_mem hne
      have hb2 := hb _ (List.mem_cons_of_mem 0 hm)
      rw [← e] at hLx hu'
      rcases List.mem_append.mp hLx with h | h
      · have := (List.pairwise_append.mp hu'.2).2.2 _ h (xs.getLast hne) (by simp)
        omega
      · exact (List.mem_singleton.mp h).symm
    refine ⟨xs.dropLast, ?_⟩
    unfold full
    rw [← hlast, List.dropLast_concat_getLast hne]
theorem t_12 {L : Nat} {mid : List Int} (hL : L ≤ 9) (hu : Up (full L mid)) (hl : mid.length ≤ 8) {r2 r3 r4 r5 r6 r7 r8 r10 r11 r12 r13: Slot} : evSs G_law r_law_12 (.no :: .sh drw :: r2 :: r3 :: r4 :: r5 :: r6 :: r7 :: r8 :: .sh (eT (full L mid)) :: r10 :: r11 :: r12 :: [r13]) ds = some (.rt (.bool true) ds) := by
  have z := fun {r2 r3 r4 r5 r6 r7 r8 r10 r11 r12 r13: Slot} => u_4 (ds := ds) hL hu hl (r2 := r2) (r3 := r3) (r4 := r4) (r5 := r5) (r6 := r6) (r7 := r7) (r8 := r8) (r10 := r10) (r11 := r11) (r12 := r12) (r13 := r13)
  have e := e_can_go (ds := ds) hL hu hl
  have hs := same_ints (mid.filter (goes L mid)) (Nat.le_trans (List.length_filter_le _ _) (by omega)) ds
  generalize (mid.filter (goes L mid)).map PyData.int = W at z e hs
  have z : ∀ {r2 r3 r4 r5 r6 r7 r8 r10 r11 r12 r13: Slot}, evE G_law x_law_4 (.no :: .sh drw :: r2 :: r3 :: r4 :: r5 :: r6 :: r7 :: r8 :: .sh (.tuple ((full L mid).map .int)) :: r10 :: r11 :: r12 :: [r13]) ds = some (.list W, ds) := z
  have e : F_can_go [.tuple ((full L mid).map .int)] ds = some (.list W, ds) := e
  show evSs _ _ (_ :: _ :: _ :: _ :: _ :: _ :: _ :: _ :: _ :: .sh (.tuple ((full L mid).map .int)) :: _) ds = _
  generalize (full L mid).map PyData.int = A at z e ⊢
  simp -dsimp -implicitDefEqProofs [r_law_12, r_law_13, z, e, hs]
theorem dd_le (l : List Int) : (dd l).length ≤ l.length := by
  induction l with
  | nil => simp [dd]
  | cons x l ih =>
    unfold dd
    split
    · rw [List.length_cons]
      omega
    · rw [List.length_cons, List.length_cons]
      omega
theorem t_11 {L : Nat} {d : List Int} (h1 : 1 ≤ L) (hL : L ≤ 9) (h0 : d.head? = some 0) (hd : d.getLast? = some (L : Int)) (hl : d.length ≤ 7) (hu : Up d) {r2 r4 r5 r6 r8 r9 r10 r11 r12 r13: Slot} : ∃ s', evSs G_law r_law_11 (.no :: .sh drw :: r2 :: .no :: r4 :: r5 :: r6 :: .sh (eT d) :: r8 :: r9 :: r10 :: r11 :: r12 :: [r13]) ds = some (.rt (.bool true) s') := by
  obtain ⟨ms, s', z, hm, hml⟩ := u_2 (ds := ds) hL hd (r2 := r2) (r4 := r4) (r5 := r5) (r6 := r6) (r8 := r8) (r9 := r9) (r10 := r10) (r11 := r11) (r12 := r12) (r13 := r13)
  have hsort : ssetS (d.map .int ++ ms.map .int) = some (.list ((ssetI (d ++ ms)).map .int)) := by
    rw [← List.map_append]
    exact ssetS_ints (by rw [List.length_append]; omega)
  have hd0 : (0 : Int) ∈ d := List.mem_of_head? h0
  have hdL : (L : Int) ∈ d := List.mem_of_getLast? hd
  have hdb : ∀ x ∈ d, 0 ≤ x ∧ x ≤ (L : Int) := fun x hx => by
    constructor
    · cases d with
      | nil => cases hx
      | cons y ys =>
        have hy : y = 0 := by simpa using h0
        subst hy
        rcases List.mem_cons.mp hx with h | h
        · omega
        · have := (List.pairwise_cons.mp hu).1 x h
          omega
    · obtain ⟨pre, rfl⟩ := List.getLast?_eq_some_iff.mp hd
      rcases List.mem_append.mp hx with h | h
      · have := (List.pairwise_append.mp hu).2.2 x h L (by simp)
        omega
      · rw [List.mem_singleton.mp h]
        omega
  obtain ⟨mid, hmid⟩ := full_of (l := ssetI (d ++ ms)) (sseti_lt _) (fun x hx => by
    rcases List.mem_append.mp (sseti_mem.mp hx) with h | h
    · exact hdb x h
    · exact hm x h) (sseti_mem.mpr (List.mem_append_left _ hd0)) (sseti_mem.mpr (List.mem_append_left _ hdL)) h1
  have hml2 : mid.length ≤ 8 := by
    have e1 : (ssetI (d ++ ms)).length = (dd (d ++ ms)).length := (sseti_perm _).length_eq
    have e2 := dd_le (d ++ ms)
    rw [hmid] at e1
    unfold full at e1
    simp at e1 e2
    omega
  have hu2 : Up (full L mid) := hmid ▸ sseti_lt (d ++ ms)
  rw [hmid] at hsort
  have t12 := fun {r2 r3 r4 r5 r6 r7 r8 r10 r11 r12 r13: Slot} => t_12 (ds := s') hL hu2 hml2 (r2 := r2) (r3 := r3) (r4 := r4) (r5 := r5) (r6 := r6) (r7 := r7) (r8 := r8) (r10 := r10) (r11 := r11) (r12 := r12) (r13 := r13)
  have hdl : (d.map PyData.int).length + (ms.map PyData.int).length ≤ 10 := by rw [List.length_map, List.length_map]; omega
  have t12 : ∀ {r2 r3 r4 r5 r6 r7 r8 r10 r11 r12 r13: Slot}, evSs G_law r_law_12 (.no :: .sh drw :: r2 :: r3 :: r4 :: r5 :: r6 :: r7 :: r8 :: .sh (.tuple ((full L mid).map .int)) :: r10 :: r11 :: r12 :: [r13]) s' = some (.rt (.bool true) s') := t12
  have z : evE G_law x_law_2 (.no :: .sh drw :: r2 :: .no :: r4 :: r5 :: r6 :: .sh (.tuple (d.map .int)) :: r8 :: r9 :: r10 :: r11 :: r12 :: [r13]) ds = some (.list (ms.map .int), s') := z
  refine ⟨s', ?_⟩
  show evSs _ _ (.no :: .sh drw :: r2 :: .no :: r4 :: r5 :: r6 :: .sh (.tuple (d.map .int)) :: r8 :: r9 :: r10 :: r11 :: r12 :: [r13]) ds = _
  have hc : cap = 16777216 := rfl
  generalize d.map PyData.int = A at z hsort hdl ⊢
  generalize ms.map PyData.int = B at z hsort hdl
  generalize (full L mid).map PyData.int = C at t12 hsort
  simp -dsimp -implicitDefEqProofs (disch := omega) [r_law_11, z, hsort, t12]
theorem rg2 {a b : Int} (ha : 0 ≤ a) (hb : b ≤ 100) (hab : a ≤ 100) (hb0 : 0 ≤ b) : rngD [.int a, .int b] = some ((List.range (b - a).toNat).map fun i : Nat => .int (a + (i : Int))) := by
  have r1 : rngOk a = true := decide_eq_true (by omega)
  have r2 : rngOk b = true := decide_eq_true (by omega)
  show (if (rngOk a && rngOk b) = true then _ else none) = _
  rw [r1, r2]
  exact if_pos rfl
theorem t_9 {L : Nat} {d : List Int} (h1 : 1 ≤ L) (hL : L ≤ 9) (h0 : d.head? = some 0) (hd : d.getLast? = some (L : Int)) (hl : d.length ≤ 7) (hu : Up d) {many : Nat} (h2 : 2 ≤ many) (h4 : many ≤ 4) {r2 r4 r5 r6 r9 r11 r12 r13: Slot} : ∃ s', evSs G_law r_law_9 (.no :: .sh drw :: r2 :: .no :: r4 :: r5 :: r6 :: .sh (eT d) :: .sh (.int (many : Int)) :: r9 :: .sh .none :: r11 :: r12 :: [r13]) ds = some (.rt (.bool true) s') := by
  obtain ⟨k6, k9, z⟩ := l_b4 (ds := ds) h2 (by omega) ((List.range (13 - many)).map fun i : Nat => i + (many - 1)) none r6 r9 (fun l hl => by
    obtain ⟨i, hi, rfl⟩ := List.mem_map.mp hl
    have := List.mem_range.mp hi
    omega) (r3 := .no) (r7 := .sh (eT d)) (r2 := r2) (r4 := r4) (r5 := r5) (r11 := r11) (r12 := r12) (r13 := r13)
  have hb := List.all_eq_true.mp bests_all many (by
    have : many = 2 ∨ many = 3 ∨ many = 4 := by omega
    rcases this with h | h | h <;> simp [h])
  rw [Bool.and_eq_true] at hb
  obtain ⟨r, hr⟩ := Option.isSome_iff_exists.mp hb.2
  have hbe := of_decide_eq_true hb.1
  have hf : (((List.range (13 - many)).map fun i : Nat => i + (many - 1)).flatMap fun l : Nat => rulesL (l : Int) many).find? pP = some r := by
    rw [← hr, ← hbe]
    unfold bests
    rw [← List.head?_filter, List.filter_flatMap]
    rfl
  have hrl : r.length ≤ 1000 := by
    have hm := List.mem_of_find?_eq_some hf
    obtain ⟨l, hl, hm⟩ := List.mem_flatMap.mp hm
    obtain ⟨i, hi, rfl⟩ := List.mem_map.mp hl
    have := List.mem_range.mp hi
    have := rulesL_len (by omega) h2 r hm
    omega
  rw [hf, Option.none_or] at z
  have e := e_shortest (ds := ds) h2 h4 hr
  have hs := same_tup r hrl ds
  have hrg := rg2 (a := (many : Int) - 1) (b := 12) (by omega) (by omega) (by omega) (by omega)
  have hit : ((List.range (12 - ((many : Int) - 1)).toNat).map fun i : Nat => PyData.int ((many : Int) - 1 + (i : Int))) = ((List.range (13 - many)).map fun i : Nat => i + (many - 1)).map fun m : Nat => .int (m : Int) := by
    rw [List.map_map, show (12 - ((many : Int) - 1)).toNat = 13 - many from by omega]
    refine List.map_congr_left fun i _ => ?_
    simp only [Function.comp]
    congr 1
    omega
  rw [hit] at hrg
  obtain ⟨s', t⟩ := t_11 (ds := ds) h1 hL h0 hd hl hu (r6 := k6) (r8 := .sh (.int (many : Int))) (r9 := k9) (r10 := .sh (eT r)) (r2 := r2) (r4 := r4) (r5 := r5) (r11 := r11) (r12 := r12) (r13 := r13)
  refine ⟨s', ?_⟩
  generalize ((List.range (13 - many)).map fun i : Nat => i + (many - 1)).map (fun m : Nat => PyData.int (m : Int)) = items at z hrg
  have z : forE G_law b_law_4 (.nm 6) items (.no :: .sh drw :: r2 :: .no :: r4 :: r5 :: r6 :: .sh (.tuple (d.map .int)) :: .sh (.int (many : Int)) :: r9 :: .sh .none :: r11 :: r12 :: [r13]) ds = some (.nx (.no :: .sh drw :: r2 :: .no :: r4 :: r5 :: k6 :: .sh (.tuple (d.map .int)) :: .sh (.int (many : Int)) :: k9 :: .sh (.tuple (r.map .int)) :: r11 :: r12 :: [r13]) ds) := z
  have t : evSs G_law r_law_11 (.no :: .sh drw :: r2 :: .no :: r4 :: r5 :: k6 :: .sh (.tuple (d.map .int)) :: .sh (.int (many : Int)) :: k9 :: .sh (.tuple (r.map .int)) :: r11 :: r12 :: [r13]) ds = some (.rt (.bool true) s') := t
  have e : F_shortest_plain [.int (many : Int)] ds = some (.tuple (r.map .int), ds) := e
  have hs : sameF 8 [.tuple (r.map .int), .tuple (r.map .int)] ds = some (.bool true, ds) := hs
  show evSs _ _ (.no :: .sh drw :: r2 :: .no :: r4 :: r5 :: r6 :: .sh (.tuple (d.map .int)) :: .sh (.int (many : Int)) :: r9 :: .sh .none :: r11 :: r12 :: [r13]) ds = _
  generalize d.map PyData.int = A at z t ⊢
  generalize r.map PyData.int = R at z t e hs
  simp -dsimp -implicitDefEqProofs (disch := omega) [r_law_9, hrg, z]
  simp -dsimp -implicitDefEqProofs (disch := omega) [r_law_10, e, hs, t]
theorem t_8 {L : Nat} {d : List Int} (h1 : 1 ≤ L) (hL : L ≤ 9) (h0 : d.head? = some 0) (hd : d.getLast? = some (L : Int)) (hl : d.length ≤ 7) (hu : Up d) {r8 : Slot} {r2 r4 r5 r6 r9 r11 r12 r13: Slot} : ∃ s', evSs G_law r_law_8 (.no :: .sh drw :: r2 :: .no :: r4 :: r5 :: r6 :: .sh (eT d) :: r8 :: r9 :: .no :: r11 :: r12 :: [r13]) ds = some (.rt (.bool true) s') := by
  obtain ⟨v0, v1⟩ := nv_lt (m := 3) ds (by decide) (by decide)
  obtain ⟨s', t⟩ := t_9 (ds := nw 3 ds) h1 hL h0 hd hl hu (many := (2 + nv 3 ds).toNat) (by omega) (by omega) (r2 := r2) (r4 := r4) (r5 := r5) (r6 := r6) (r9 := r9) (r11 := r11) (r12 := r12) (r13 := r13)
  rw [show (((2 + nv 3 ds).toNat : Nat) : Int) = 2 + nv 3 ds from by omega] at t
  refine ⟨s', ?_⟩
  have t : evSs G_law r_law_9 (.no :: .sh drw :: r2 :: .no :: r4 :: r5 :: r6 :: .sh (.tuple (d.map .int)) :: .sh (.int (2 + nv 3 ds)) :: r9 :: .sh .none :: r11 :: r12 :: [r13]) (nw 3 ds) = some (.rt (.bool true) s') := t
  show evSs _ _ (.no :: .sh drw :: r2 :: .no :: r4 :: r5 :: r6 :: .sh (.tuple (d.map .int)) :: r8 :: r9 :: .no :: r11 :: r12 :: [r13]) ds = _
  generalize d.map PyData.int = A at t ⊢
  simp -dsimp -implicitDefEqProofs (disch := omega) [r_law_8, t]
end C21

namespace C21
open PySem PySem.Spec PyProof.Rows L2 Pf
variable {ds : DS}
theorem t_6 {L : Nat} (h1 : 1 ≤ L) (hL : L ≤ 9) {r2 r4 r5 r8 r9 r11 r12 r13: Slot} : ∃ s', evSs G_law r_law_6 (.no :: .sh drw :: r2 :: .no :: r4 :: r5 :: .sh (.int (L : Int)) :: .sh .none :: r8 :: r9 :: .no :: r11 :: r12 :: [r13]) ds = some (.rt (.bool true) s') := by
  obtain ⟨d, hd1, hd2, h0, hd, hl, hu, _⟩ := dues_ok h1 hL
  obtain ⟨k8, k9, z⟩ := l_b2 (ds := ds) hL [2, 3, 4, 5, 6, 7] none r8 r9 (fun m hm => by
    simp at hm
    omega) (r3 := .no) (r10 := .no) (r2 := r2) (r4 := r4) (r5 := r5) (r11 := r11) (r12 := r12) (r13 := r13)
  have hf : ([2, 3, 4, 5, 6, 7].flatMap (rulesL (L : Int))).find? (pF L) = some d := by
    rw [← hd1]
    unfold dues
    rw [← List.head?_filter, List.filter_flatMap]
    rfl
  rw [hf, Option.none_or] at z
  have e := e_fewest (ds := ds) h1 hL hd2
  have hs := same_tup d (by omega) ds
  have hrg : rngD [.int 2, .int 8] = some ([2, 3, 4, 5, 6, 7].map fun m : Nat => PyData.int (m : Int)) := by
    rw [rg2 (by omega) (by omega) (by omega) (by omega)]
    rfl
  obtain ⟨s', t⟩ := t_8 (ds := ds) h1 hL h0 hd hl hu (r6 := .sh (.int (L : Int))) (r8 := k8) (r9 := k9) (r2 := r2) (r4 := r4) (r5 := r5) (r11 := r11) (r12 := r12) (r13 := r13)
  refine ⟨s', ?_⟩
  generalize [2, 3, 4, 5, 6, 7].map (fun m : Nat => PyData.int (m : Int)) = items at z hrg
  have z : forE G_law b_law_2 (.nm 8) items (.no :: .sh drw :: r2 :: .no :: r4 :: r5 :: .sh (.int (L : Int)) :: .sh .none :: r8 :: r9 :: .no :: r11 :: r12 :: [r13]) ds = some (.nx (.no :: .sh drw :: r2 :: .no :: r4 :: r5 :: .sh (.int (L : Int)) :: .sh (.tuple (d.map .int)) :: k8 :: k9 :: .no :: r11 :: r12 :: [r13]) ds) := z
  have t : evSs G_law r_law_8 (.no :: .sh drw :: r2 :: .no :: r4 :: r5 :: .sh (.int (L : Int)) :: .sh (.tuple (d.map .int)) :: k8 :: k9 :: .no :: r11 :: r12 :: [r13]) ds = some (.rt (.bool true) s') := t
  have e : F_fewest_marks [.int (L : Int)] ds = some (.tuple (d.map .int), ds) := e
  have hs : sameF 8 [.tuple (d.map .int), .tuple (d.map .int)] ds = some (.bool true, ds) := hs
  generalize d.map PyData.int = A at z t e hs
  simp -dsimp -implicitDefEqProofs (disch := omega) [r_law_6, hrg, z]
  simp -dsimp -implicitDefEqProofs (disch := omega) [r_law_7, e, hs, t]
theorem t_5 {r2 r4 r5 r8 r9 r11 r12 r13: Slot} : ∃ s', evSs G_law r_law_5 (.no :: .sh drw :: r2 :: .no :: r4 :: r5 :: .no :: .no :: r8 :: r9 :: .no :: r11 :: r12 :: [r13]) ds = some (.rt (.bool true) s') := by
  obtain ⟨v0, v1⟩ := nv_lt (m := 9) ds (by decide) (by decide)
  obtain ⟨s', t⟩ := t_6 (ds := nw 9 ds) (L := (1 + nv 9 ds).toNat) (by omega) (by omega) (r2 := r2) (r4 := r4) (r5 := r5) (r8 := r8) (r9 := r9) (r11 := r11) (r12 := r12) (r13 := r13)
  rw [show (((1 + nv 9 ds).toNat : Nat) : Int) = 1 + nv 9 ds from by omega] at t
  refine ⟨s', ?_⟩
  simp -dsimp -implicitDefEqProofs (disch := omega) [r_law_5, t]
theorem t_2 {ms : List Int} (hm : ∀ m ∈ ms, 1 ≤ m ∧ m ≤ 12) (h1 : 1 ≤ ms.length) (h5 : ms.length ≤ 5) {r2 r8 r9 r11 r12 r13: Slot} : ∃ s', evSs G_law r_law_2 (.no :: .sh drw :: r2 :: .no :: .sh (eT (0 :: ssetI ms)) :: .no :: .no :: .no :: r8 :: r9 :: .no :: r11 :: r12 :: [r13]) ds = some (.rt (.bool true) s') := by
  have hl : (ssetI ms).length ≤ 5 := by
    have e1 : (ssetI ms).length = (dd ms).length := (sseti_perm _).length_eq
    have := dd_le ms
    omega
  have hmem : ∀ x ∈ ssetI ms, 1 ≤ x ∧ x ≤ 12 := fun x hx => hm x (sseti_mem.mp hx)
  have hu : Up (0 :: ssetI ms) := List.pairwise_cons.mpr ⟨fun x hx => by have := hmem x hx; omega, sseti_lt ms⟩
  obtain ⟨L, hL, hL12⟩ : ∃ L : Nat, (0 :: ssetI ms).getLast? = some (L : Int) ∧ L ≤ 12 := by
    obtain ⟨x, hx⟩ : ∃ x, (0 :: ssetI ms).getLast? = some x := by
      cases h : (0 :: ssetI ms).getLast? with
      | none => rw [List.getLast?_eq_none_iff] at h; cases h
      | some x => exact ⟨x, rfl⟩
    have hb : 0 ≤ x ∧ x ≤ 12 := by
      rcases List.mem_cons.mp (List.mem_of_getLast? hx) with h | h
      · omega
      · have := hmem x h
        omega
    exact ⟨x.toNat, by rw [hx]; congr 1; omega, by omega⟩
  have hrl : (0 :: ssetI ms).length ≤ 6 := by rw [List.length_cons]; omega
  generalize 0 :: ssetI ms = rule at hu hL hrl ⊢
  have eg := gaps_le (rule := rule) (by omega)
  have e1 := e_lawm (ds := ds) (eT rule) (.inl rfl) (by omega)
  rw [gapsL_eq hu] at e1
  have e2 := e_measures (ds := ds) (rule := rule) (by omega)
  have e3 := e_is_whole (ds := ds) (by omega) hL (by omega)
  have e4 := e_is_plain (ds := ds) (rule := rule) (by omega)
  have hss := ssetS_ints (l := gaps rule) (by omega)
  have hls := lsetD_ints (ns := gaps rule) (by omega)
  have hsl : (ssetI (gaps rule)).length ≤ 1000 := by
    have e1 : (ssetI (gaps rule)).length = (dd (gaps rule)).length := (sseti_perm _).length_eq
    have := dd_le (gaps rule)
    omega
  have hsa := same_ints (ssetI (gaps rule)) hsl ds
  have hcm : cmpD .Eq (.list ((ssetI (gaps rule)).map .int)) (.list ((List.range L).map fun (k : Nat) => PyData.int (1 + (k : Int)))) = some (wh rule) := by
    rw [rg_map, cmp_ints]
    unfold wh
    rw [hL]
    rfl
  have hpl : plain rule = decide (((dd (gaps rule)).length : Int) = ((gaps rule).length : Int)) := by
    unfold plain
    by_cases h : (dd (gaps rule)).length = (gaps rule).length
    · simp [h]
    · rw [decide_eq_false h, decide_eq_false (by omega)]
  have hlen : ((gaps rule).map PyData.int).length = (gaps rule).length := List.length_map ..
  have hx := at_end hL
  have hsb : ∀ b : Bool, sameF 8 [.bool b, .bool b] ds = some (.bool true, ds) := fun b => same_bool
  have e1 : F_law_measures [.tuple (rule.map .int)] ds = some (.list ((gaps rule).map .int), ds) := e1
  have e2 : F_measures [.tuple (rule.map .int)] ds = some (.list ((ssetI (gaps rule)).map .int), ds) := e2
  have e3 : F_is_whole [.tuple (rule.map .int)] ds = some (.bool (wh rule), ds) := e3
  have e4 : F_is_plain [.tuple (rule.map .int)] ds = some (.bool (plain rule), ds) := e4
  show ∃ s', evSs _ _ (.no :: .sh drw :: r2 :: .no :: .sh (.tuple (rule.map .int)) :: .no :: .no :: .no :: r8 :: r9 :: .no :: r11 :: r12 :: [r13]) ds = _
  generalize wh rule = W at *
  generalize hP : plain rule = Pl at *
  generalize (ssetI (gaps rule)).map PyData.int = S at *
  generalize (gaps rule).map PyData.int = Gp at *
  generalize (gaps rule).length = q at *
  generalize (dd (gaps rule)).length = n at *
  generalize rule.map PyData.int = A at *
  obtain ⟨s', t⟩ := t_5 (ds := ds) (r4 := .sh (.tuple A)) (r5 := .sh (.list Gp)) (r2 := r2) (r8 := r8) (r9 := r9) (r11 := r11) (r12 := r12) (r13 := r13)
  refine ⟨s', ?_⟩
  simp -dsimp -implicitDefEqProofs (disch := omega) [r_law_2, e1]
  simp -dsimp -implicitDefEqProofs (disch := omega) [r_law_3, e2, hss, hsa]
  simp -dsimp -implicitDefEqProofs (disch := omega) [r_law_4, e3, e4, hss, hx, hcm, hls, hlen, ← hpl, hsb, t]
theorem law_true : Law := by
  intro ns hns
  obtain ⟨ms, s1, z, hm, h1, h5⟩ := u_1 (ds := st0 ns) (r2 := .no) (r4 := .no) (r5 := .no) (r6 := .no) (r7 := .no) (r8 := .no) (r9 := .no) (r10 := .no) (r11 := .no) (r12 := .no) (r13 := .no)
  have hss := ssetS_ints (l := ms) (by omega)
  obtain ⟨s', t⟩ := t_2 (ds := s1) hm h1 h5 (r2 := .sh (.list ((ssetI ms).map .int))) (r8 := .no) (r9 := .no) (r11 := .no) (r12 := .no) (r13 := .no)
  refine ⟨s', ?_⟩
  have t : evSs G_law r_law_2 (.no :: .sh drw :: .sh (.list ((ssetI ms).map .int)) :: .no :: .sh (.tuple (.int 0 :: (ssetI ms).map .int)) :: .no :: .no :: .no :: .no :: .no :: .no :: .no :: .no :: [.no]) s1 = some (.rt (.bool true) s') := t
  have hl : ((ssetI ms).map PyData.int).length ≤ 5 := by
    have e1 : (ssetI ms).length = (dd ms).length := (sseti_perm _).length_eq
    have := dd_le ms
    rw [List.length_map]
    omega
  show evSs _ _ (.no :: .sh drw :: .no :: .no :: .no :: .no :: .no :: .no :: .no :: .no :: .no :: .no :: .no :: [.no]) _ = _
  have hc : cap = 16777216 := rfl
  generalize (ssetI ms).map PyData.int = S at *
  generalize ms.map PyData.int = M at *
  simp -dsimp -implicitDefEqProofs (disch := omega) [b_law, z, hss]
  simp -dsimp -implicitDefEqProofs (disch := omega) [r_law_1, t]
end C21

open PySem PySem.W PyProof.Rows in
set_option maxRecDepth 100000 in
set_option maxHeartbeats 0 in
theorem PySem.Challenge.cw_craftlands_k21_rules_with_few_marks_holds : PySem.Challenge.rw_craftlands_k21_rules_with_few_marks.Holds := by
  w_on; o_law; k_head; (case hw => w_witness2)
  k_fill
  refine Pf.walk (kk := 9) (l := PySem.Challenge.rw_craftlands_k21_rules_with_few_marks) rfl rfl (by decide) (fun w h Y => PySem.W.kIn_of Y) ?F
  case F =>
    intro w mg fa h KX G hmg
    refine' C21.all_mk C21.law_true hmg ⟨Pf.blt_in KX G ?z0 ?z1 ?z2 ?z3 ?z4 ?z5 ?z6 ?z7 ?z8 ?z9 ?z10 ?z11 ?z12 ?z13 ?z14 ?z15 ?z16 ?z17 ?z18 ?z19, ?d_law_draw, ?d_law_next, ?d_measures, ?d_is_whole, ?d_is_plain, ?d_fewest_marks, ?d_shortest_plain, ?d_can_go, ?d_law_same, ?d_law_measures, ?d_law_rules, ?d_law, ?m_combinations⟩
    (case z0 => k_is)
    (case z1 => k_is)
    (case z2 => k_is)
    (case z3 => k_is)
    (case z4 => k_is)
    (case z5 => k_is)
    (case z6 => k_is)
    (case z7 => k_is)
    (case z8 => k_is)
    (case z9 => k_is)
    (case z10 => k_is)
    (case z11 => k_is)
    (case z12 => k_is)
    (case z13 => k_is)
    (case z14 => k_is)
    (case z15 => k_is)
    (case z16 => k_is)
    (case z17 => k_is)
    (case z18 => k_is)
    (case z19 => k_is)
    case d_law_draw =>
      refine' Pf.def_in KX G ?a ?l ?c ?k (fun _ _ _ _ _ _ us hl => match us, hl with | [_], _ => rfl)
      (case a => k_is)
      (case l => k_is)
      (case c => k_is)
      (case k => k_is)
    case d_law_next =>
      refine' Pf.def_in KX G ?a ?l ?c ?k (fun _ _ _ _ _ _ us hl => match us, hl with | [_, _], _ => rfl)
      (case a => k_is)
      (case l => k_is)
      (case c => k_is)
      (case k => k_is)
    case d_measures =>
      refine' Pf.def_in KX G ?a ?l ?c ?k (fun _ _ _ _ _ _ us hl => match us, hl with | [_], _ => rfl)
      (case a => k_is)
      (case l => k_is)
      (case c => k_is)
      (case k => k_is)
    case d_is_whole =>
      refine' Pf.def_in KX G ?a ?l ?c ?k (fun _ _ _ _ _ _ us hl => match us, hl with | [_], _ => rfl)
      (case a => k_is)
      (case l => k_is)
      (case c => k_is)
      (case k => k_is)
    case d_is_plain =>
      refine' Pf.def_in KX G ?a ?l ?c ?k (fun _ _ _ _ _ _ us hl => match us, hl with | [_], _ => rfl)
      (case a => k_is)
      (case l => k_is)
      (case c => k_is)
      (case k => k_is)
    case d_fewest_marks =>
      refine' Pf.def_in KX G ?a ?l ?c ?k (fun _ _ _ _ _ _ us hl => match us, hl with | [_], _ => rfl)
      (case a => k_is)
      (case l => k_is)
      (case c => k_is)
      (case k => k_is)
    case d_shortest_plain =>
      refine' Pf.def_in KX G ?a ?l ?c ?k (fun _ _ _ _ _ _ us hl => match us, hl with | [_], _ => rfl)
      (case a => k_is)
      (case l => k_is)
      (case c => k_is)
      (case k => k_is)
    case d_can_go =>
      refine' Pf.def_in KX G ?a ?l ?c ?k (fun _ _ _ _ _ _ us hl => match us, hl with | [_], _ => rfl)
      (case a => k_is)
      (case l => k_is)
      (case c => k_is)
      (case k => k_is)
    case d_law_same =>
      refine' Pf.def_in KX G ?a ?l ?c ?k (fun _ _ _ _ _ _ us hl => match us, hl with | [_, _], _ => rfl)
      (case a => k_is)
      (case l => k_is)
      (case c => k_is)
      (case k => k_is)
    case d_law_measures =>
      refine' Pf.def_in KX G ?a ?l ?c ?k (fun _ _ _ _ _ _ us hl => match us, hl with | [_], _ => rfl)
      (case a => k_is)
      (case l => k_is)
      (case c => k_is)
      (case k => k_is)
    case d_law_rules =>
      refine' Pf.def_in KX G ?a ?l ?c ?k (fun _ _ _ _ _ _ us hl => match us, hl with | [_, _], _ => rfl)
      (case a => k_is)
      (case l => k_is)
      (case c => k_is)
      (case k => k_is)
    case d_law =>
      refine' Pf.def_in KX G ?a ?l ?c ?k (fun _ _ _ _ _ _ us hl => match us, hl with | [_], _ => rfl)
      (case a => k_is)
      (case l => k_is)
      (case c => k_is)
      (case k => k_is)
    case m_combinations =>
      refine' PySem.W.mg_of KX G ?a
      (case a => k_is)

