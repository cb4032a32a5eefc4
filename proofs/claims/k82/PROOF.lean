import PyProof.Rows.All
import PyProof.ZipIter
import PyProof.CallType
import PyProof.Walk
import PyProof.WalkLemmas
import PyProof.TupleOfSeq
import HandS.RepeatKit
import Wide.All
import OpenK.AllK
import Wide.FinOn
import HandS.ForMost
import HandS.Evl
import HandS.Deep
import HandS.TupAny
import HandS.IsInst
import HandS.Flow
import HandS.Records
import HandS.Zip
import HandS.Style
import HandS.Words
import HandS.Lambda
import HandS.Nested
import HandS.Star
import HandS.OwnEq
import HandS.DictComp
import HandS.Iter
import KE.KDictPairs
import HandS.ListItems
import KE.KItemsList
import KE.KDictZip
import KE.GoesZip
import KE.GoesMore
import HandS.EndTab
import KE.KNestM
import PySem.Challenge.RW_keysout_k82_who_is_above_whom
set_option Elab.async false
set_option linter.all false
set_option maxRecDepth 100000
set_option maxHeartbeats 2000000
namespace Comb
open PySem PySem.Spec
open Sem (wp)
theorem mro_c : mroOf (.type "itertools.combinations") = pure [.type "itertools.combinations", .type "object"] := by rw [mroOf_type]; kernel_rfl
theorem lookup_c_new : typeLookup (.type "itertools.combinations") "__new__" = pure (some (.builtin "itertools.combinations.__new__")) := by rw [typeLookup_type, builtinLookup_eq_fast]; kernel_rfl
theorem slot_c_init : Slot "itertools.combinations" "__init__" "object.__init__" :=
  .of (owner := "object") (n := "__init__") (by rw [typeLookup_type, builtinLookup_eq_fast]; kernel_rfl) (by decide +kernel) (by decide +kernel) (by decide +kernel)
    (by first | exact .inl (by decide +kernel) | exact .inr (by decide +kernel)) (by rw [isSubtype_type]; kernel_rfl)
theorem sub_c : isSubtype (.type "itertools.combinations") (.type "itertools.combinations") = pure true := by rw [isSubtype_type]; kernel_rfl
theorem called_c : TypeCalled "itertools.combinations" "itertools.combinations.__new__" "object.__init__" :=
  ⟨by decide +kernel, by decide +kernel, ⟨_, _, mro_c⟩, madeBy_type mro_c lookup_c_new (by decide +kernel), by decide +kernel, sub_c, slot_c_init⟩
theorem typeCall_c_2 (a b : Value) : checkTypeCall "itertools.combinations" ⟨[a, b], []⟩ = pure () := by kernel_rfl
theorem newCall_c_2 (a b : Value) : checkBuiltinCall "itertools.combinations.__new__" ⟨[.type "itertools.combinations", a, b], []⟩ = pure () := by kernel_rfl
theorem entry_c_new : entryFor table "itertools.combinations.__new__" = some Builtin.«itertools.combinations.__new__» := entryFor_of_tree (by kernel_rfl)
theorem slot_c_iter : Slot "itertools.combinations" "__iter__" "itertools.combinations.__iter__" :=
  .of (owner := "itertools.combinations") (n := "__iter__") (by rw [typeLookup_type, builtinLookup_eq_fast]; kernel_rfl) (by decide +kernel) (by decide +kernel) (by decide +kernel)
    (by first | exact .inl (by decide +kernel) | exact .inr (by decide +kernel)) sub_c
theorem slot_c_next : Slot "itertools.combinations" "__next__" "itertools.combinations.__next__" :=
  .of (owner := "itertools.combinations") (n := "__next__") (by rw [typeLookup_type, builtinLookup_eq_fast]; kernel_rfl) (by decide +kernel) (by decide +kernel) (by decide +kernel)
    (by first | exact .inl (by decide +kernel) | exact .inr (by decide +kernel)) sub_c
theorem entry_c_iter : entryFor table "itertools.combinations.__iter__" = some Builtin.«dict_keyiterator.__iter__» :=
  entryFor_alias (id' := "dict_keyiterator.__iter__") (by kernel_rfl) (by first | rfl | decide +kernel | (unfold String.splitOn; simp +decide [String.splitOnAux])) (by decide +kernel) (by kernel_rfl)
theorem entry_c_next : entryFor table "itertools.combinations.__next__" = some Builtin.«itertools.combinations.__next__» := entryFor_of_tree (by kernel_rfl)
theorem owner_c : Manifest.owners.lookup (String.ofList ['s', 'n', 'o', 'i', 't', 'a', 'n', 'i', 'b', 'm', 'o', 'c', '.', 's', 'l', 'o', 'o', 't', 'r', 'e', 't', 'i'].reverse) = some Manifest.sig_itertools_combinations := by kernel_rfl
theorem args_c_iter (a : Value) : argsOk "itertools.combinations.__iter__" ⟨[a], []⟩ := by
  unfold argsOk; rw [signature?_of (id := "itertools.combinations.__iter__") (n := ['_', '_', 'r', 'e', 't', 'i', '_', '_']) (o := ['s', 'n', 'o', 'i', 't', 'a', 'n', 'i', 'b', 'm', 'o', 'c', '.', 's', 'l', 'o', 'o', 't', 'r', 'e', 't', 'i']) (by kernel_rfl) owner_c]; kernel_rfl
theorem args_c_next (a : Value) : argsOk "itertools.combinations.__next__" ⟨[a], []⟩ := by
  unfold argsOk; rw [signature?_of (id := "itertools.combinations.__next__") (n := ['_', '_', 't', 'x', 'e', 'n', '_', '_']) (o := ['s', 'n', 'o', 'i', 't', 'a', 'n', 'i', 'b', 'm', 'o', 'c', '.', 's', 'l', 'o', 'o', 't', 'r', 'e', 't', 'i']) (by kernel_rfl) owner_c]; kernel_rfl
theorem noDict_c : typeHasDict (.type "itertools.combinations") = false := by decide +kernel
/-- the record: the pool, its state, the last result, the indices -/
abbrev IsC (h : Heap) (it pool : Addr) (st : Int) (res : Value) (idx : List Nat) : Prop :=
  h.get? it = some { cls := .type "itertools.combinations", dict := none, data := .fields (([.ref pool, rawInt st, res] ++ idx.map fun (i : Nat) => rawInt i).toArray), slots := #[] }
/-! ### the next indices -/
/-- the next choice of places, in the order of places -/
def nextR (n : Nat) : List Nat → Option (List Nat)
  | [] => none
  | x :: rest => match nextR n rest with
    | some r => some (x :: r)
    | none => if x + rest.length + 1 = n then none else some ((List.range (rest.length + 1)).map fun j => x + 1 + j)
def nextF (n : Nat) (idx : List Nat) : Option (List Nat) :=
  ((List.range idx.length).reverse.find? fun i => idx.getD i 0 != i + n - idx.length).map fun i => idx.take i ++ (List.range (idx.length - i)).map fun j => idx.getD i 0 + 1 + j
theorem find_map {α β : Type} (f : α → β) (p : β → Bool) : ∀ l : List α, (l.map f).find? p = (l.find? fun a => p (f a)).map f
  | [] => rfl
  | x :: l => by
    rw [List.map_cons, List.find?_cons, List.find?_cons, find_map f p l]
    cases p (f x) <;> rfl
theorem nextF_eq (n : Nat) : ∀ idx : List Nat, (∀ x ∈ idx, x < n) → idx.length ≤ n → nextF n idx = nextR n idx
  | [], _, _ => rfl
  | x :: rest, h, hl => by
    have ih := nextF_eq n rest (fun y hy => h y (List.mem_cons_of_mem _ hy)) (by simp at hl; omega)
    have hl : rest.length + 1 ≤ n := by simpa using hl
    unfold nextR
    rw [← ih]
    unfold nextF
    rw [List.length_cons, List.range_succ_eq_map, List.reverse_cons, List.find?_append, ← List.map_reverse, find_map]
    have e : (fun a : Nat => (x :: rest).getD a.succ 0 != a.succ + n - (rest.length + 1)) = fun i => rest.getD i 0 != i + n - rest.length := by
      funext i
      rw [show (x :: rest).getD i.succ 0 = rest.getD i 0 from rfl, show i.succ + n - (rest.length + 1) = i + n - rest.length by omega]
    rw [e]
    cases hf : (List.range rest.length).reverse.find? fun i => rest.getD i 0 != i + n - rest.length with
    | some i =>
      show some ((x :: rest).take (i + 1) ++ (List.range (rest.length + 1 - (i + 1))).map fun j => (x :: rest).getD (i + 1) 0 + 1 + j) = some (x :: _)
      rw [List.take_succ_cons, show rest.length + 1 - (i + 1) = rest.length - i by omega]
      rfl
    | none =>
      show ((none : Option Nat).or (List.find? _ [0])).map _ = if x + rest.length + 1 = n then none else _
      rw [Option.none_or, List.find?_cons]
      have hx := h x List.mem_cons_self
      show Option.map _ (match x != 0 + n - (rest.length + 1) with | true => some 0 | false => List.find? _ []) = _
      by_cases hq : x + rest.length + 1 = n
      · have : (x != 0 + n - (rest.length + 1)) = false := by rw [bne_eq_false_iff_eq]; omega
        rw [if_pos hq, this]
        rfl
      · have : (x != 0 + n - (rest.length + 1)) = true := by rw [bne_iff_ne]; omega
        rw [if_neg hq, this, ← List.range_succ_eq_map]
        rfl
/-- all choices of r, in the order of places -/
def combL {α : Type} : Nat → List α → List (List α)
  | 0, _ => [[]]
  | _ + 1, [] => []
  | r + 1, x :: l => (combL r l).map (x :: ·) ++ combL (r + 1) l
theorem combL_map {α β : Type} (f : α → β) : ∀ (r : Nat) (l : List α), combL r (l.map f) = (combL r l).map (List.map f)
  | 0, l => by cases l <;> rfl
  | r + 1, [] => rfl
  | r + 1, x :: l => by
    show (combL r (l.map f)).map (f x :: ·) ++ combL (r + 1) (l.map f) = ((combL r l).map (x :: ·) ++ combL (r + 1) l).map (List.map f)
    rw [combL_map f r l, combL_map f (r + 1) l, List.map_append, List.map_map, List.map_map]
    rfl
theorem combL_long {α : Type} : ∀ {r : Nat} {l : List α}, l.length < r → combL r l = []
  | 0, _, h => by omega
  | r + 1, [], _ => rfl
  | r + 1, x :: l, h => by
    have h : l.length < r := by simpa using h
    show (combL r l).map (x :: ·) ++ combL (r + 1) l = []
    rw [combL_long h, combL_long (by omega)]
    rfl
theorem combL_len {α : Type} : ∀ {r : Nat} {l : List α} {c : List α}, c ∈ combL r l → c.length = r ∧ ∀ x ∈ c, x ∈ l
  | 0, l, c, h => by
    have : c = [] := by cases l <;> simpa [combL] using h
    subst this
    exact ⟨rfl, fun x hx => by simp at hx⟩
  | r + 1, [], c, h => by simp [combL] at h
  | r + 1, y :: l, c, h => by
    rcases List.mem_append.mp (show c ∈ (combL r l).map (y :: ·) ++ combL (r + 1) l from h) with h | h
    · obtain ⟨c', h', rfl⟩ := List.mem_map.mp h
      obtain ⟨h1, h2⟩ := combL_len h'
      exact ⟨by rw [List.length_cons, h1], fun x hx => (List.mem_cons.mp hx).elim (fun e => e ▸ List.mem_cons_self) fun hx => List.mem_cons_of_mem _ (h2 x hx)⟩
    · obtain ⟨h1, h2⟩ := combL_len h
      exact ⟨h1, fun x hx => List.mem_cons_of_mem _ (h2 x hx)⟩
/-- each is followed by the next, the last by e -/
def Lnk (n : Nat) (e : Option (List Nat)) : List (List Nat) → Prop
  | [] => True
  | [a] => nextR n a = e
  | a :: b :: l => nextR n a = some b ∧ Lnk n e (b :: l)
theorem Lnk.app {n : Nat} {e : Option (List Nat)} : ∀ {A B : List (List Nat)} {b : List Nat}, Lnk n (some b) A → Lnk n e (b :: B) → Lnk n e (A ++ b :: B)
  | [], B, b, _, h => h
  | [a], B, b, h1, h2 => ⟨h1, h2⟩
  | a :: a' :: A, B, b, h1, h2 => ⟨h1.1, Lnk.app (A := a' :: A) h1.2 h2⟩
theorem Lnk.map {n lo r : Nat} {e : Option (List Nat)} (he : e = if lo + r + 1 = n then none else some ((List.range (r + 1)).map fun j => lo + 1 + j)) : ∀ {A : List (List Nat)}, (∀ a ∈ A, a.length = r) → Lnk n none A → Lnk n e (A.map (lo :: ·))
  | [], _, _ => trivial
  | [a], hl, h => by
    show nextR n (lo :: a) = e
    unfold nextR
    rw [show nextR n a = none from h, hl a List.mem_cons_self, he]
  | a :: b :: A, hl, h => by
    refine ⟨?_, Lnk.map he (A := b :: A) (fun x hx => hl x (List.mem_cons_of_mem _ hx)) h.2⟩
    show nextR n (lo :: a) = some (lo :: b)
    unfold nextR
    rw [h.1]
theorem combL_lnk : ∀ (m r lo : Nat), r ≤ m → ∃ B, combL r (List.range' lo m) = List.range' lo r :: B ∧ Lnk (lo + m) none (List.range' lo r :: B)
  | m, 0, lo, _ => ⟨[], by unfold combL; rfl, rfl⟩
  | 0, r + 1, lo, h => by omega
  | m + 1, r + 1, lo, h => by
    obtain ⟨A, e1, l1⟩ := combL_lnk m r (lo + 1) (by omega)
    have eL : combL (r + 1) (List.range' lo (m + 1)) = (combL r (List.range' (lo + 1) m)).map (lo :: ·) ++ combL (r + 1) (List.range' (lo + 1) m) := by
      rw [List.range'_succ]; rfl
    have en : lo + 1 + m = lo + (m + 1) := by omega
    rw [en] at l1
    have hlen : ∀ a ∈ (List.range' (lo + 1) r :: A), a.length = r := fun a ha => (combL_len (by rw [e1]; exact ha)).1
    rw [eL, e1]
    by_cases hr : r = m
    · subst hr
      rw [combL_long (r := r + 1) (by simp), List.append_nil, List.map_cons]
      refine ⟨A.map (lo :: ·), by rw [List.range'_succ], ?_⟩
      have := Lnk.map (n := lo + (r + 1)) (lo := lo) (r := r) (e := none) (by rw [if_pos (by omega)]) hlen l1
      rw [List.range'_succ]
      exact this
    · obtain ⟨B, e2, l2⟩ := combL_lnk m (r + 1) (lo + 1) (by omega)
      rw [en] at l2
      rw [e2]
      refine ⟨A.map (lo :: ·) ++ (List.range' (lo + 1) (r + 1) :: B), by rw [List.range'_succ]; rfl, ?_⟩
      have := Lnk.map (n := lo + (m + 1)) (lo := lo) (r := r) (e := some (List.range' (lo + 1) (r + 1))) (by
        rw [if_neg (by omega), List.range'_eq_map_range]) hlen l1
      have h2 := Lnk.app this l2
      rw [List.range'_succ]
      exact h2
theorem Lnk.at {n : Nat} : ∀ {L : List (List Nat)} {i : Nat} {a : List Nat}, Lnk n none L → L[i]? = some a → nextR n a = L[i + 1]?
  | [], _, _, _, h => by simp at h
  | [a], 0, _, h, e => by simp at e; subst e; exact h
  | [a], i + 1, _, _, e => by simp at e
  | a :: b :: L, 0, _, h, e => by simp at e; subst e; exact h.1
  | a :: b :: L, i + 1, x, h, e => Lnk.at (L := b :: L) (i := i) h.2 (by simpa using e)
section
variable {prog : Program} {w : World} {A : Around} {E : Value → Shared → Prop} {s : Shared}
abbrev recC (pool : Addr) (st : Int) (res : Value) (idx : List Nat) : Obj := { cls := .type "itertools.combinations", dict := none, data := .fields (([.ref pool, rawInt st, res] ++ idx.map fun (i : Nat) => rawInt i).toArray), slots := #[] }
theorem rec_set1 (pool : Addr) (st st' : Int) (res : Value) (idx : List Nat) : Obj.mapFields (fun x => x.setIfInBounds 1 (rawInt st')) (recC pool st res idx) = recC pool st' res idx := by
  simp [Obj.mapFields, recC]
theorem rec_set2 (pool : Addr) (st : Int) (res res' : Value) (idx : List Nat) : Obj.mapFields (fun x => x.setIfInBounds 2 res') (recC pool st res idx) = recC pool st res' idx := by
  simp [Obj.mapFields, recC]
theorem rec_setN (pool : Addr) (st : Int) (res : Value) (idx idx' : List Nat) : Obj.mapFields (fun fs => fs.extract 0 3 ++ (idx'.map fun (n : Nat) => rawInt n).toArray) (recC pool st res idx) = recC pool st res idx' := by
  simp [Obj.mapFields, recC]
theorem nums_of (idx : List Nat) : (idx.map fun (i : Nat) => rawInt i).map (fun v => match v with | .int n _ => n.toNat | _ => 0) = idx := by
  rw [List.map_map]
  conv => rhs; rw [← List.map_id idx]
  congr 1
/-- the hand-out: a new tuple of the items at the places -/
theorem c_hand {it pool : Addr} {st : Int} {res : Value} {idx : List Nat} {items : Array Value} {Q : Fin → Shared → Prop} (hit : IsC s.heap it pool st res idx) (hp : s.heap.IsTuple pool items) (hne : it ≠ pool) (hz : idx.length ≤ sizeLine)
    (h : ∀ h', IsC h' it pool st (.ref s.heap.objs.size) idx → h'.get? s.heap.objs.size = some { cls := .type "tuple", data := .seq (idx.map fun i => items.getD i .none).toArray } → (∀ b o, b ≠ it → s.heap.get? b = some o → h'.get? b = some o) → Q (.done (.ret (.ref s.heap.objs.size))) { s with heap := h' }) :
    wpAny (model prog w) A (((Builtin.Itertools.itPoolItems (.ref pool) >>= fun items => newTuple (idx.map fun i => items.getD i .none)) >>= fun result => do
        let before ← field (.ref it) 2
        setField (.ref it) 2 result
        letGo [before] [result]
        ret result) : Sem Fin) Q E s := by
  obtain ⟨op, e1, e2, n, e3⟩ := hp
  refine wpAny_bind (wpAny_bind ?_)
  unfold Builtin.Itertools.itPoolItems
  refine wpAny_bind (wpAny_seqItems e1 e3 ?_)
  refine wpAny_pure (wpAny_newTuple ?_ (by rw [List.length_map]; exact hz))
  have hl : it ≠ s.heap.objs.size := Nat.ne_of_lt (Heap.lt_size hit)
  have hit2 : IsC (s.heap.push { cls := .type "tuple", data := .seq (idx.map fun i => items.getD i .none).toArray }) it pool st res idx := Heap.get?_push_of_some _ hit
  refine wpAny_bind (wpAny_field hit2 rfl (x := res) (by simp) ?_)
  refine wpAny_bind (wpAny_setField hit2 rfl (by simp) ?_)
  refine wpAny_bind (wpAny_letGo ?_)
  refine wpAny_pure (h _ ?_ ?_ fun b o hb e => ?_)
  · show Heap.get? _ it = some (recC pool st _ idx)
    rw [← rec_set2 pool st res]
    exact Heap.get?_update_self _ hit2 rfl
  · rw [Heap.get?_update_other _ _ hl]
    exact Heap.get?_push_size _ rfl
  · rw [Heap.get?_update_other _ _ (Ne.symm hb)]
    exact Heap.get?_push_of_some _ e
theorem c_nums {it pool : Addr} {st : Int} {res : Value} {idx : List Nat} {Q : List Nat → Shared → Prop} (hit : IsC s.heap it pool st res idx) (h : Q idx s) : wpAny (model prog w) A (Builtin.Itertools.itNumbersFrom (.ref it) 3) Q E s := by
  unfold Builtin.Itertools.itNumbersFrom
  refine wpAny_bind (wpAny_load hit ?_)
  refine wpAny_pure ?_
  exact (congrArg (fun l => Q l s) (nums_of idx)).mpr h
theorem c_next0 {it pool : Addr} {res : Value} {idx : List Nat} {items : Array Value} {Q : Option Value → Shared → Prop} (hit : IsC s.heap it pool 0 res idx) (hp : s.heap.IsTuple pool items) (hne : it ≠ pool) (hz : idx.length ≤ sizeLine)
    (h : ∀ h', IsC h' it pool 1 (.ref s.heap.objs.size) idx → h'.get? s.heap.objs.size = some { cls := .type "tuple", data := .seq (idx.map fun i => items.getD i .none).toArray } → (∀ b o, b ≠ it → s.heap.get? b = some o → h'.get? b = some o) → Q (some (.ref s.heap.objs.size)) { s with heap := h' }) :
    wpAny (model prog w) A (callSpecial? (.ref it) "__next__") Q E s := by
  have hT : s.TypeIs (.ref it) "itertools.combinations" := ⟨_, hit, rfl⟩
  refine wpAny_callSpecial?_slot (name := Str.ofString "__next__") hT slot_c_next (wpAny_call_entry slot_c_next hT entry_c_next ?_ (args_c_next _))
  show wpAny _ _ (field (.ref it) 0 >>= _) _ _ s
  refine wpAny_bind (wpAny_field hit rfl (x := .ref pool) rfl ?_)
  refine wpAny_bind (c_nums hit ?_)
  show wpAny _ _ (Builtin.Itertools.itIntField (.ref it) 1 >>= _) _ _ s
  refine wpAny_bind ?_
  unfold Builtin.Itertools.itIntField
  refine wpAny_bind (wpAny_field hit rfl (x := rawInt 0) rfl (wpAny_pure ?_))
  show wpAny _ _ (setField (.ref it) 1 (rawInt 1) >>= _) _ _ s
  refine wpAny_bind (wpAny_setField hit rfl (by simp) ?_)
  have hit2 : IsC (s.heap.update it (Obj.mapFields fun x => x.setIfInBounds 1 (rawInt 1))) it pool 1 res idx := by
    show Heap.get? _ it = some (recC pool 1 res idx)
    rw [← rec_set1 pool 0]
    exact Heap.get?_update_self _ hit rfl
  have hp2 : (s.heap.update it (Obj.mapFields fun x => x.setIfInBounds 1 (rawInt 1))).IsTuple pool items := by
    obtain ⟨o, e1, e2⟩ := hp
    exact ⟨o, by rw [Heap.get?_update_other _ _ hne]; exact e1, e2⟩
  refine c_hand hit2 hp2 hne hz fun h' a1 a2 a3 => ?_
  rw [Heap.size_update] at a1 a2 ⊢
  exact ⟨_, rfl, h h' a1 a2 fun b o hb e => a3 b o hb (by rw [Heap.get?_update_other _ _ (Ne.symm hb)]; exact e)⟩
theorem c_nextS {it pool : Addr} {res : Value} {idx next : List Nat} {items : Array Value} {Q : Option Value → Shared → Prop} (hit : IsC s.heap it pool 1 res idx) (hp : s.heap.IsTuple pool items) (hne : it ≠ pool) (hi : ∀ x ∈ idx, x < items.size) (hl : idx.length ≤ items.size) (hn : nextR items.size idx = some next) (hz : next.length ≤ sizeLine)
    (h : ∀ h', IsC h' it pool 1 (.ref s.heap.objs.size) next → h'.get? s.heap.objs.size = some { cls := .type "tuple", data := .seq (next.map fun i => items.getD i .none).toArray } → (∀ b o, b ≠ it → s.heap.get? b = some o → h'.get? b = some o) → Q (some (.ref s.heap.objs.size)) { s with heap := h' }) :
    wpAny (model prog w) A (callSpecial? (.ref it) "__next__") Q E s := by
  have hT : s.TypeIs (.ref it) "itertools.combinations" := ⟨_, hit, rfl⟩
  refine wpAny_callSpecial?_slot (name := Str.ofString "__next__") hT slot_c_next (wpAny_call_entry slot_c_next hT entry_c_next ?_ (args_c_next _))
  show wpAny _ _ (field (.ref it) 0 >>= _) _ _ s
  refine wpAny_bind (wpAny_field hit rfl (x := .ref pool) rfl ?_)
  refine wpAny_bind (c_nums hit ?_)
  show wpAny _ _ (Builtin.Itertools.itIntField (.ref it) 1 >>= _) _ _ s
  refine wpAny_bind ?_
  unfold Builtin.Itertools.itIntField
  refine wpAny_bind (wpAny_field hit rfl (x := rawInt 1) rfl (wpAny_pure ?_))
  show wpAny _ _ (Builtin.Itertools.itPoolItems (.ref pool) >>= _) _ _ s
  obtain ⟨op, e1, e2, n, e3⟩ := id hp
  refine wpAny_bind ?_
  unfold Builtin.Itertools.itPoolItems
  refine wpAny_bind (wpAny_seqItems e1 e3 (wpAny_pure ?_))
  split
  · rename_i next' hq
    have hq : nextF items.size idx = some next' := Eq.trans (by kernel_rfl) hq
    rw [nextF_eq _ _ hi hl, hn] at hq
    cases hq
    refine wpAny_bind ?_
    unfold Builtin.Itertools.itSetNumbersFrom
    refine wpAny_updateFields hit rfl ?_ (by simp; omega)
    have hit2 : IsC (s.heap.update it (Obj.mapFields fun fs => fs.extract 0 3 ++ (next.map fun (n : Nat) => rawInt n).toArray)) it pool 1 res next := by
      show Heap.get? _ it = some (recC pool 1 res next)
      rw [← rec_setN pool 1 res idx]
      exact Heap.get?_update_self _ hit rfl
    have hp2 : (s.heap.update it (Obj.mapFields fun fs => fs.extract 0 3 ++ (next.map fun (n : Nat) => rawInt n).toArray)).IsTuple pool items := by
      obtain ⟨o, e1, e2⟩ := hp
      exact ⟨o, by rw [Heap.get?_update_other _ _ hne]; exact e1, e2⟩
    refine c_hand hit2 hp2 hne hz fun h' a1 a2 a3 => ?_
    rw [Heap.size_update] at a1 a2 ⊢
    exact ⟨_, rfl, h h' a1 a2 fun b o hb e => a3 b o hb (by rw [Heap.get?_update_other _ _ (Ne.symm hb)]; exact e)⟩
  · rename_i hq
    have hq : nextF items.size idx = none := Eq.trans (by kernel_rfl) hq
    rw [nextF_eq _ _ hi hl, hn] at hq
    cases hq
theorem c_stop {it : Addr} {Q : Fin → Shared → Prop} {E : Value → Shared → Prop} {s : Shared} (hh : A.handled = none)
    (hQ : ∀ e h', CpRep.StopE e h' → (∀ b o, s.heap.get? b = some o → h'.get? b = some o) → E e { s with heap := h' }) : wpAny (model prog w) A (Builtin.Itertools.itStop : Sem Fin) Q E s := by
  unfold Builtin.Itertools.itStop
  refine wpAny_bind ?_
  simp only [newExc, newTuple]
  refine wpAny_bind (wpAny_newObj_type ?_ (by size_fits))
  refine wpAny_bind (m := firstArgMember _ _) (wpAny_of_eq (a := Value.none) (by first | rfl | (simp only [firstArgMember]; rfl)) ?_)
  refine wpAny_newObj_type ?_ (by size_fits)
  simp only [raiseNew]
  refine wpAny_bind (wpAny_handled ?_)
  rw [hh]
  refine wpAny_bind (wpAny_pure (wpAny_throw ?_))
  exact hQ _ _ ⟨_, _, _, rfl, Heap.get?_push_size _ rfl, rfl, rfl, rfl⟩ fun b o e => Heap.get?_push_of_some _ (Heap.get?_push_of_some _ e)
theorem c_end {it pool : Addr} {st : Int} {res : Value} {idx : List Nat} {items : Array Value} {Q : Option Value → Shared → Prop} (hh : A.handled = none) (hit : IsC s.heap it pool st res idx) (hp : s.heap.IsTuple pool items)
    (hs : st = 2 ∨ (st = 1 ∧ (∀ x ∈ idx, x < items.size) ∧ idx.length ≤ items.size ∧ nextR items.size idx = none))
    (hQ : ∀ e h', CpRep.StopE e h' → (∀ b o, b ≠ it → s.heap.get? b = some o → h'.get? b = some o) → E e { s with heap := h' }) : wpAny (model prog w) A (callSpecial? (.ref it) "__next__") Q E s := by
  have hT : s.TypeIs (.ref it) "itertools.combinations" := ⟨_, hit, rfl⟩
  refine wpAny_callSpecial?_slot (name := Str.ofString "__next__") hT slot_c_next (wpAny_call_entry slot_c_next hT entry_c_next ?_ (args_c_next _))
  show wpAny _ _ (field (.ref it) 0 >>= _) _ _ s
  refine wpAny_bind (wpAny_field hit rfl (x := .ref pool) rfl ?_)
  refine wpAny_bind (c_nums hit ?_)
  show wpAny _ _ (Builtin.Itertools.itIntField (.ref it) 1 >>= _) _ _ s
  refine wpAny_bind ?_
  unfold Builtin.Itertools.itIntField
  rcases hs with rfl | ⟨rfl, hi, hl, hn⟩
  · refine wpAny_bind (wpAny_field hit rfl (x := rawInt 2) rfl (wpAny_pure ?_))
    show wpAny _ _ (rule _ >>= fun _ => Builtin.Itertools.itStop) _ _ s
    refine wpAny_bind (wpAny_rule ?_)
    exact c_stop (it := it) hh fun e h' a1 a2 => hQ e h' a1 fun b o _ q => a2 b o q
  · refine wpAny_bind (wpAny_field hit rfl (x := rawInt 1) rfl (wpAny_pure ?_))
    show wpAny _ _ (Builtin.Itertools.itPoolItems (.ref pool) >>= _) _ _ s
    obtain ⟨op, e1, e2, n, e3⟩ := id hp
    refine wpAny_bind ?_
    unfold Builtin.Itertools.itPoolItems
    refine wpAny_bind (wpAny_seqItems e1 e3 (wpAny_pure ?_))
    split
    · rename_i next' hq
      have hq : nextF items.size idx = some next' := Eq.trans (by kernel_rfl) hq
      rw [nextF_eq _ _ hi hl, hn] at hq
      cases hq
    · refine wpAny_bind (wpAny_setField hit rfl (by simp) ?_)
      exact c_stop (it := it) hh fun e h' a1 a2 => hQ e h' a1 fun b o hb q => a2 b o (by rw [Heap.get?_update_other _ _ (Ne.symm hb)]; exact q)
theorem py_next0 {it pool : Addr} {res : Value} {idx : List Nat} {items : Array Value} {Q : Option Value → Shared → Prop} (hit : IsC s.heap it pool 0 res idx) (hp : s.heap.IsTuple pool items) (hne : it ≠ pool) (hz : idx.length ≤ sizeLine)
    (h : ∀ h', IsC h' it pool 1 (.ref s.heap.objs.size) idx → h'.get? s.heap.objs.size = some { cls := .type "tuple", data := .seq (idx.map fun i => items.getD i .none).toArray } → (∀ b o, b ≠ it → s.heap.get? b = some o → h'.get? b = some o) → Q (some (.ref s.heap.objs.size)) { s with heap := h' }) :
    wpAny (model prog w) A (pyNext (.ref it)) Q E s := by
  unfold pyNext
  exact wpAny_bind (wpAny_attempt (c_next0 hit hp hne hz fun h' a1 a2 a3 => wpAny_pure (h h' a1 a2 a3)))
theorem py_nextS {it pool : Addr} {res : Value} {idx next : List Nat} {items : Array Value} {Q : Option Value → Shared → Prop} (hit : IsC s.heap it pool 1 res idx) (hp : s.heap.IsTuple pool items) (hne : it ≠ pool) (hi : ∀ x ∈ idx, x < items.size) (hl : idx.length ≤ items.size) (hn : nextR items.size idx = some next) (hz : next.length ≤ sizeLine)
    (h : ∀ h', IsC h' it pool 1 (.ref s.heap.objs.size) next → h'.get? s.heap.objs.size = some { cls := .type "tuple", data := .seq (next.map fun i => items.getD i .none).toArray } → (∀ b o, b ≠ it → s.heap.get? b = some o → h'.get? b = some o) → Q (some (.ref s.heap.objs.size)) { s with heap := h' }) :
    wpAny (model prog w) A (pyNext (.ref it)) Q E s := by
  unfold pyNext
  exact wpAny_bind (wpAny_attempt (c_nextS hit hp hne hi hl hn hz fun h' a1 a2 a3 => wpAny_pure (h h' a1 a2 a3)))
theorem py_end {it pool : Addr} {st : Int} {res : Value} {idx : List Nat} {items : Array Value} {Q : Option Value → Shared → Prop} (hh : A.handled = none) (hit : IsC s.heap it pool st res idx) (hp : s.heap.IsTuple pool items)
    (hs : st = 2 ∨ (st = 1 ∧ (∀ x ∈ idx, x < items.size) ∧ idx.length ≤ items.size ∧ nextR items.size idx = none))
    (hQ : ∀ h', (∀ b o, b ≠ it → s.heap.get? b = some o → h'.get? b = some o) → Q none { s with heap := h' }) : wpAny (model prog w) A (pyNext (.ref it)) Q E s := by
  unfold pyNext
  refine wpAny_bind (wpAny_attempt (c_end hh hit hp hs fun e h' he hk => ?_))
  obtain ⟨a, o, vs, rfl, ho, hc, _⟩ := he
  refine wpAny_bind (wpAny_isInstance (T := "StopIteration") (b := true) ⟨o, ho, hc⟩ isSubtype_stop ?_)
  exact wpAny_pure (hQ _ hk)
/-- it is made -/
theorem meets_c_new (l : Addr) (o : Obj) (items : Array Value) (n : Nat) (T : String) (hT : T = "list" ∨ T = "tuple") (hc : o.cls = .type T) (hd : o.data = .seq items n) (hz : items.size ≤ sizeLine) (r : Nat) (t : Tok) (hr : r ≤ 1000) :
    Meets (Builtin.«itertools.combinations.__new__» ⟨[.type "itertools.combinations", .ref l, .int r t], []⟩)
      (fun _ R s => s.heap.get? l = some o ∧ ∀ (h' : Heap), (∀ b o', s.heap.get? b = some o' → h'.get? b = some o') →
        R (.ok (.ret (.ref (h'.objs.size + 1)))) { s with heap := (h'.push { cls := .type "tuple", data := .seq items }).push (recC h'.objs.size (if r > items.size then 2 else 0) .none (List.range r)) }) :=
  .of_wp fun prog w A R s h => by
    obtain ⟨ho, h⟩ := h
    obtain ⟨hp, g, dd, tk, os⟩ := s
    have hsub : isSubtype (.type "itertools.combinations") (.type ("itertools." ++ "combinations")) = pure true := sub_c
    have hd' := noDict_c
    repeat (first
      | wp_step
      | simp only [List.head?_cons, Option.some_or, List.getElem?_cons_succ, List.getElem?_cons_zero, List.length_cons, List.length_nil, List.forIn_nil])
    have h1 : ¬ ((decide ((r : Int) < -2 ^ 63) || decide ((r : Int) ≥ 2 ^ 63)) = true) := by
      rw [decide_eq_false (by omega), decide_eq_false (by omega)]; decide
    rw [if_neg h1]
    refine wpAny_pure ?_
    refine wpAny_bind ?_
    refine wpAny_collect_seq l hT ho hc hd (fun h' hk => ?_) hz
    have h2 : ¬ ((r : Int) < 0) := by omega
    rw [if_neg h2]
    have h3 : ¬ (Builtin.Itertools.itTooMany (r : Int) = true) := by
      unfold Builtin.Itertools.itTooMany
      rw [decide_eq_true_iff]
      omega
    rw [if_neg h3]
    refine wpAny_bind (wpAny_newTuple ?_ (by simpa using hz))
    refine wpAny_pure ?_
    refine wpAny_bind ?_
    unfold Builtin.Itertools.itNewRecord
    show wpAny _ _ (if (!typeHasDict (Value.type "itertools.combinations")) = true then _ else _) _ _ _
    rw [hd', if_pos (by rfl)]
    refine wpAny_newObj_type ?_ ?_
    · refine wpAny_pure ⟨_, rfl, ?_⟩
      have e := h h' hk
      have e1 : items.toList.toArray = items := Array.toArray_toList
      have e2 : items.toList.length = items.size := Array.length_toList
      have e3 : ((r : Nat) : Int).toNat = r := Int.toNat_natCast r
      simp only [e1, e2, e3, Heap.size_push]
      exact e
    · simp only [Int.toNat_natCast]
      show (([_, _, _] ++ List.map (fun (i : Nat) => rawInt (i : Int)) (List.range r)).toArray).size ≤ _
      rw [List.size_toArray, List.length_append, List.length_map, List.length_range]
      have := PySem.sizeLine_eq
      simp only [List.length_cons, List.length_nil]
      omega
theorem call_c {l : Addr} {o : Obj} {items : Array Value} {n : Nat} {T : String} {r : Nat} {t : Tok} {Q : Value → Shared → Prop} (hT : T = "list" ∨ T = "tuple") (ho : s.heap.get? l = some o) (hc : o.cls = .type T) (hd : o.data = .seq items n) (hz : items.size ≤ sizeLine) (hr : r ≤ 1000)
    (h : ∀ (h' : Heap), (∀ b o', s.heap.get? b = some o' → h'.get? b = some o') → Q (.ref (h'.objs.size + 1)) { s with heap := (h'.push { cls := .type "tuple", data := .seq items }).push (recC h'.objs.size (if r > items.size then 2 else 0) .none (List.range r)) }) :
    wpAny (model prog w) A (call (.type "itertools.combinations") [.ref l, .int r t]) Q E s := by
  refine callType_new called_c (by decide +kernel) (typeCall_c_2 _ _) (newCall_c_2 _ _) (fun obj => F.args_object_init_3 obj _ _) entry_c_new (meets_c_new l o items n T hT hc hd hz r t hr) ⟨ho, fun h' hk => ?_⟩
  have e : ((h'.push { cls := .type "tuple", data := .seq items }).push (recC h'.objs.size (if r > items.size then 2 else 0) .none (List.range r))).get? (h'.objs.size + 1) = some (recC h'.objs.size (if r > items.size then 2 else 0) .none (List.range r)) := by
    have := Heap.get?_push_size (h'.push { cls := .type "tuple", data := .seq items }) (o := recC h'.objs.size (if r > items.size then 2 else 0) .none (List.range r)) rfl
    rwa [Heap.size_push] at this
  exact ⟨⟨_, e, rfl⟩, h h' hk⟩
theorem iter_c {it pool : Addr} {st : Int} {res : Value} {idx : List Nat} {Q : Value → Shared → Prop} (hit : IsC s.heap it pool st res idx) (h : Q (.ref it) s) : wpAny (model prog w) A (pyIter (.ref it)) Q E s := by
  have hT : s.TypeIs (.ref it) "itertools.combinations" := ⟨_, hit, rfl⟩
  refine wpAny_pyIter_slot hT slot_c_iter (wpAny_call_entry slot_c_iter hT entry_c_iter ?_ (args_c_iter _))
  show wpAny _ _ (ret (.ref it)) _ _ s
  exact wpAny_pure ⟨_, rfl, "itertools.combinations", _, hT, slot_c_next.lookup, h⟩
end
end Comb
set_option Elab.async false
set_option linter.all false
set_option maxRecDepth 100000
set_option maxHeartbeats 4000000
/-! DLa: data values over the hand layer; what a piece of code evaluates to, as a plain function of the names' data. -/
namespace DL
open PySem L2 Evl

/-- data: what a value stands for, whatever the addresses -/
inductive D where
  | non | bl (b : Bool) | int (i : Int) | str (x : Str)
  | tup (l : List D) | lst (l : List D)
  /-- the script: a list of ints that is only read -/
  | scr (ns : List Int)
  | dic (ks : List Key) (l : List D)
  /-- an instance of the class of that number, its fields in order -/
  | ins (c : Nat) (l : List D)
  /-- the one object that the world tracks -/
  | ob
  /-- a tuple whose object is known (only a field's; it is read as a tuple) -/
  | pt (l : List D)
instance : Inhabited D := ⟨.non⟩

/-- what is fixed in a frame: the classes by number (address, fields), the world, what may be called as a test, what the frame itself may change -/
structure Wo where
  W : Type
  FP : Addr → Prop
  ok : W → Hp → Prop
  loc : ∀ {w : W} {H H' : Hp}, ok w H → (∀ a, FP a → H' a = H a) → (∀ a φ, H a = some (.ext φ) → H' a = some (.ext φ)) → ok w H'
  dom : ∀ {w : W} {H : Hp} {a : Addr}, ok w H → FP a → H a ≠ none
structure CT where
  K : PySem.W.Frag
  ad : Nat → Addr
  fd : Nat → List Str
  ob : Addr
structure Cfg where
  T : CT
  Z : Wo
  /-- what is known from the start -/
  B : Hp → Prop
  Bm : ∀ {H H' : Hp}, Ex H H' → B H → B H'
  C : V → (D → Option Bool) → Prop
  S : Addr → Prop

mutual
def Rep (T : CT) (H : Hp) : D → V → Prop
  | .non, v => v = .non
  | .bl b, v => v = .bl b
  | .int i, v => v = .int i
  | .str x, v => v = .str x
  | .tup l, v => ∃ a vs, v = .ref a ∧ SqT T.K H a vs ∧ RepL T H l vs
  | .lst l, v => ∃ a vs, v = .ref a ∧ H a = some (.lst vs) ∧ RepL T H l vs
  | .scr ns, v => ∃ a, v = .ref a ∧ SqL T.K H a (ns.map V.int)
  | .dic ks l, v => ∃ a o vs, v = .ref a ∧ H a = some (.frz o (.dK (ks.zip vs))) ∧ ks.length = l.length ∧ RepL T H l vs
  | .ins c l, v => ∃ a dx vs, v = .ref a ∧ H a = some (.ins (T.ad c) dx ((T.fd c).zip vs)) ∧ (T.fd c).length = l.length ∧ RepL T H l vs
  | .ob, v => v = .ref T.ob
  | .pt l, v => ∃ a o vs, v = .ref a ∧ H a = some (.frz o (.tup vs)) ∧ o.dict = none ∧ RepL T H l vs
def RepL (T : CT) (H : Hp) : List D → List V → Prop
  | [], vs => vs = []
  | d :: l, vs => ∃ v r, vs = v :: r ∧ Rep T H d v ∧ RepL T H l r
end

section
variable {T : CT} {H H' : Hp}
mutual
theorem Rep.mono (e : Ex H H') : ∀ {d : D} {v : V}, Rep T H d v → Rep T H' d v
  | .non, _, h => h
  | .bl _, _, h => h
  | .int _, _, h => h
  | .str _, _, h => h
  | .tup _, _, ⟨a, vs, h1, h2, h3⟩ => ⟨a, vs, h1, ex_t e h2, RepL.mono e h3⟩
  | .lst _, _, ⟨a, vs, h1, h2, h3⟩ => ⟨a, vs, h1, e _ _ h2, RepL.mono e h3⟩
  | .scr _, _, ⟨a, h1, h2⟩ => ⟨a, h1, ex_l e h2⟩
  | .dic _ _, _, ⟨a, o, vs, h1, h2, h4, h3⟩ => ⟨a, o, vs, h1, e _ _ h2, h4, RepL.mono e h3⟩
  | .ins _ _, _, ⟨a, dx, vs, h1, h2, h4, h3⟩ => ⟨a, dx, vs, h1, e _ _ h2, h4, RepL.mono e h3⟩
  | .ob, _, h => h
  | .pt _, _, ⟨a, o, vs, h1, h2, h4, h3⟩ => ⟨a, o, vs, h1, e _ _ h2, h4, RepL.mono e h3⟩
theorem RepL.mono (e : Ex H H') : ∀ {l : List D} {vs : List V}, RepL T H l vs → RepL T H' l vs
  | [], _, h => h
  | _ :: _, _, ⟨v, r, h1, h2, h3⟩ => ⟨v, r, h1, Rep.mono e h2, RepL.mono e h3⟩
end
theorem RepL.nil : RepL T H [] [] := rfl
theorem RepL.cons {d : D} {v : V} {l : List D} {vs : List V} (h : Rep T H d v) (t : RepL T H l vs) : RepL T H (d :: l) (v :: vs) := ⟨v, vs, rfl, h, t⟩
theorem RepL.length : ∀ {l : List D} {vs : List V}, RepL T H l vs → vs.length = l.length
  | [], _, h => by rw [show _ = [] from h]; rfl
  | _ :: _, _, ⟨v, r, h1, h2, h3⟩ => by rw [h1, List.length_cons, List.length_cons, RepL.length h3]
theorem RepL.get : ∀ {l : List D} {vs : List V} {i : Nat} {d : D}, RepL T H l vs → l[i]? = some d → ∃ v, vs[i]? = some v ∧ Rep T H d v
  | [], _, _, _, _, h => by simp at h
  | _ :: _, _, 0, d, ⟨v, r, h1, h2, h3⟩, h => by
    simp at h; subst h; subst h1; exact ⟨v, rfl, h2⟩
  | _ :: l, _, i + 1, d, ⟨v, r, h1, h2, h3⟩, h => by
    subst h1
    obtain ⟨v', e, q⟩ := RepL.get (i := i) h3 (by simpa using h)
    exact ⟨v', by simpa using e, q⟩
theorem RepL.get' {l : List D} {vs : List V} {i : Nat} {v : V} (h : RepL T H l vs) (e : vs[i]? = some v) : ∃ d, l[i]? = some d ∧ Rep T H d v := by
  have hi : i < l.length := by
    have := (List.getElem?_eq_some_iff.mp e).1
    rw [h.length] at this; exact this
  obtain ⟨v', e', q⟩ := h.get (List.getElem?_eq_getElem hi)
  rw [e] at e'; cases e'
  exact ⟨_, List.getElem?_eq_getElem hi, q⟩
theorem RepL.append : ∀ {l m : List D} {vs us : List V}, RepL T H l vs → RepL T H m us → RepL T H (l ++ m) (vs ++ us)
  | [], _, _, _, h, q => by rw [show _ = [] from h]; exact q
  | _ :: _, _, _, _, ⟨v, r, h1, h2, h3⟩, q => by subst h1; exact ⟨v, r ++ _, rfl, h2, RepL.append h3 q⟩
theorem RepL.snoc {l : List D} {vs : List V} {d : D} {v : V} (h : RepL T H l vs) (q : Rep T H d v) : RepL T H (l ++ [d]) (vs ++ [v]) := h.append (.cons q .nil)
theorem RepL.take : ∀ {l : List D} {vs : List V} (n : Nat), RepL T H l vs → RepL T H (l.take n) (vs.take n)
  | _, _, 0, _ => rfl
  | [], _, _ + 1, h => by rw [show _ = [] from h]; rfl
  | _ :: _, _, n + 1, ⟨v, r, h1, h2, h3⟩ => by subst h1; exact ⟨v, r.take n, rfl, h2, RepL.take n h3⟩
theorem RepL.drop : ∀ {l : List D} {vs : List V} (n : Nat), RepL T H l vs → RepL T H (l.drop n) (vs.drop n)
  | _, _, 0, h => h
  | [], _, _ + 1, h => by rw [show _ = [] from h]; rfl
  | _ :: _, _, n + 1, ⟨v, r, h1, h2, h3⟩ => by subst h1; exact RepL.drop n h3
theorem RepL.of_ints {l : List D} {vs : List V} (h : RepL T H l vs) : ∀ {ns : List Int}, l = ns.map D.int → vs = ns.map V.int := by
  intro ns
  induction ns generalizing l vs with
  | nil => intro e; subst e; exact h
  | cons n r ih =>
    intro e; subst e
    obtain ⟨v, r', h1, h2, h3⟩ := h
    subst h1
    rw [ih h3 rfl, show v = V.int n from h2]
    rfl
theorem RepL.ints : ∀ ns : List Int, RepL T H (ns.map D.int) (ns.map V.int)
  | [] => rfl
  | n :: r => ⟨_, _, rfl, rfl, RepL.ints r⟩
end

/-- as it is read -/
def nrm : D → D
  | .pt l => .tup l
  | d => d
theorem nrm_rep {T : CT} {H : Hp} {d : D} {v : V} (h : Rep T H d v) : Rep T H (nrm d) v := by
  cases d with
  | pt l => obtain ⟨a, o, vs, h1, h2, _, h3⟩ := h; exact ⟨a, vs, h1, .inl (.inr ⟨o, h2⟩), h3⟩
  | _ => exact h
/-! ### what is known -/
/-- what is known (Hk) within what there is (H) -/
structure Gd (Z : Wo) (Hk H : Hp) : Prop where
  e : Ex Hk H
  nf : ∀ a, Hk a ≠ none → ¬ Z.FP a
  dm : ∀ a, Z.FP a → H a ≠ none
/-- from one state to a later one -/
structure Stp (Z : Wo) (Hk H Hk' H' : Hp) : Prop where
  k : Ex Hk Hk'
  g : Gd Z Hk' H'
  new : ∀ a, Hk' a ≠ none → Hk a ≠ none ∨ H a = none
  keep : ∀ a o, ¬ Z.FP a → H a = some o → H' a = some o
/-- .. in which nothing at all is changed -/
structure StpP (Z : Wo) (Hk H Hk' H' : Hp) : Prop where
  s : Stp Z Hk H Hk' H'
  all : Ex H H'
theorem ne_none {H : Hp} {a : Addr} {o : HO} (h : H a = some o) : H a ≠ none := by rw [h]; simp
theorem some_of_ne {H : Hp} {a : Addr} (h : H a ≠ none) : ∃ o, H a = some o := by
  cases q : H a with
  | none => exact absurd q h
  | some o => exact ⟨o, rfl⟩
section
variable {Z : Wo} {Hk H Hk1 H1 Hk2 H2 : Hp}
theorem Stp.refl (g : Gd Z Hk H) : Stp Z Hk H Hk H := ⟨Ex.refl _, g, fun _ h => .inl h, fun _ _ _ h => h⟩
theorem Stp.trans (a : Stp Z Hk H Hk1 H1) (b : Stp Z Hk1 H1 Hk2 H2) : Stp Z Hk H Hk2 H2 where
  k := a.k.trans b.k
  g := b.g
  new := fun x h => by
    rcases b.new x h with q | q
    · exact a.new x q
    · by_cases f : Z.FP x
      · exact absurd f (b.g.nf x h)
      · cases e : H x with
        | none => exact .inr rfl
        | some o => rw [a.keep x o f e] at q; cases q
  keep := fun x o f h => b.keep x o f (a.keep x o f h)
theorem StpP.refl (g : Gd Z Hk H) : StpP Z Hk H Hk H := ⟨Stp.refl g, Ex.refl _⟩
theorem StpP.trans (a : StpP Z Hk H Hk1 H1) (b : StpP Z Hk1 H1 Hk2 H2) : StpP Z Hk H Hk2 H2 := ⟨a.s.trans b.s, a.all.trans b.all⟩
theorem StpP.ok {w : Z.W} (a : StpP Z Hk H Hk1 H1) (h : Z.ok w H) : Z.ok w H1 := Z.loc h (fun x f => by
  obtain ⟨o, e⟩ := some_of_ne (Z.dom h f)
  rw [a.all x o e, e]) fun x φ e => a.all x _ e
/-- a new object, known -/
theorem StpP.new {p : Addr} {o : HO} (g : Gd Z Hk H) (hp : H p = none) : StpP Z Hk H (upd Hk p o) (upd H p o) where
  s := {
    k := Ex.new (by
      cases e : Hk p with
      | none => rfl
      | some u => rw [g.e p u e] at hp; cases hp)
    g := {
      e := fun a u h => by
        by_cases q : a = p
        · subst q; rw [upd_same] at h ⊢; exact h
        · rw [upd_ne q] at h ⊢; exact g.e a u h
      nf := fun a h f => by
        by_cases q : a = p
        · subst q; exact g.dm _ f hp
        · rw [upd_ne q] at h; exact g.nf a h f
      dm := fun a f => by
        by_cases q : a = p
        · subst q; rw [upd_same]; simp
        · rw [upd_ne q]; exact g.dm a f }
    new := fun a h => by
      by_cases q : a = p
      · subst q; exact .inr hp
      · rw [upd_ne q] at h; exact .inl h
    keep := fun a u _ h => by rw [upd_ne (ne_of_none h hp)]; exact h }
  all := Ex.new hp
/-- a new object, not (yet) known -/
theorem StpP.own {p : Addr} {o : HO} (g : Gd Z Hk H) (hp : H p = none) : StpP Z Hk H Hk (upd H p o) where
  s := {
    k := Ex.refl _
    g := {
      e := fun a u h => by rw [upd_ne (ne_of_none (g.e a u h) hp)]; exact g.e a u h
      nf := g.nf
      dm := fun a f => by
        by_cases q : a = p
        · subst q; rw [upd_same]; simp
        · rw [upd_ne q]; exact g.dm a f }
    new := fun a h => .inl h
    keep := fun a u _ h => by rw [upd_ne (ne_of_none h hp)]; exact h }
  all := Ex.new hp
/-- an object that stands becomes known -/
theorem StpP.know {p : Addr} {o : HO} (g : Gd Z Hk H) (hp : H p = some o) (hk : Hk p = none) (f : ¬ Z.FP p) : Gd Z (upd Hk p o) H where
  e := fun a u h => by
    by_cases q : a = p
    · subst q; rw [upd_same] at h; cases h; exact hp
    · rw [upd_ne q] at h; exact g.e a u h
  nf := fun a h f' => by
    by_cases q : a = p
    · subst q; exact f f'
    · rw [upd_ne q] at h; exact g.nf a h f'
  dm := g.dm
end

/-! ### slots -/
/-- what a name holds: nothing; data; a list, a dict of its own, that may still change; an instance that is made; a test that may be called -/
inductive Sl where
  | un | val (d : D) | own (l : List D) | ownd (ks : List Key) (l : List D) | obj (c : Nat) (l : List D) | fn (f : D → Option Bool)
instance : Inhabited Sl := ⟨.un⟩
abbrev Env' := List Sl
/-- the slots of which the object changes -/
def Sl.mut : Sl → Bool
  | .own _ => true
  | .ownd _ _ => true
  | .obj _ _ => true
  | _ => false
structure Mine (c : Cfg) (H0 Hk H : Hp) (p : Addr) (o : HO) : Prop where
  h0 : H0 p = none ∨ c.S p
  hk : Hk p = none
  nf : ¬ c.Z.FP p
  at_ : H p = some o
def SlR (c : Cfg) (H0 Hk H : Hp) : Sl → Option (Option V) → Prop
  | .un, _ => True
  | .val d, x => ∃ v, x = some (some v) ∧ Rep c.T Hk d v
  | .own l, x => ∃ p vs, x = some (some (.ref p)) ∧ Mine c H0 Hk H p (.lst vs) ∧ RepL c.T Hk l vs
  | .ownd ks l, x => ∃ p vs, x = some (some (.ref p)) ∧ Mine c H0 Hk H p (.dK (ks.zip vs)) ∧ ks.length = l.length ∧ RepL c.T Hk l vs
  | .obj k l, x => ∃ p dx vs, x = some (some (.ref p)) ∧ Mine c H0 Hk H p (.ins (c.T.ad k) dx ((c.T.fd k).zip vs)) ∧ c.S p ∧ l.length ≤ (c.T.fd k).length ∧ RepL c.T Hk l vs
  | .fn f, x => ∃ v, x = some (some v) ∧ c.C v f

structure Pre (c : Cfg) (Hk0 H0 : Hp) (env : Env') (w : c.Z.W) (σ : L2.St) (Hk H : Hp) : Prop where
  k : Ex Hk0 Hk
  base : c.B Hk
  g : Gd c.Z Hk H
  new : ∀ a, Hk a ≠ none → Hk0 a ≠ none ∨ H0 a = none
  keep : ∀ a o, ¬ c.Z.FP a → ¬ c.S a → H0 a = some o → H a = some o
  self : ∀ a, c.S a → Hk a = none ∧ (∃ C dx fs, H a = some (.ins C dx fs)) ∧ ¬ c.Z.FP a
  w : c.Z.ok w H
  len : env.length = σ.length
  sl : ∀ (i : Nat) (s : Sl), env[i]? = some s → SlR c H0 Hk H s σ[i]?
  ap : ∀ (i j : Nat) (p : Addr) (s t : Sl), i ≠ j → env[i]? = some s → env[j]? = some t → s.mut = true → t.mut = true → σ[i]? = some (some (.ref p)) → σ[j]? ≠ some (some (.ref p))
section
variable {c : Cfg} {Hk0 H0 Hk H Hk1 H1 : Hp} {env : Env'} {w w1 : c.Z.W} {σ : L2.St}
theorem Mine.step {p : Addr} {o : HO} (a : Stp c.Z Hk H Hk1 H1) (h : Mine c H0 Hk H p o) : Mine c H0 Hk1 H1 p o := by
  refine ⟨h.h0, ?_, h.nf, a.keep _ _ h.nf h.at_⟩
  cases q : Hk1 p with
  | none => rfl
  | some u =>
    rcases a.new p (ne_none q) with z | z
    · exact absurd h.hk z
    · rw [h.at_] at z; cases z
theorem SlR.step {s : Sl} {x : Option (Option V)} (a : Stp c.Z Hk H Hk1 H1) (h : SlR c H0 Hk H s x) : SlR c H0 Hk1 H1 s x := by
  cases s with
  | un => trivial
  | val d => obtain ⟨v, e, r⟩ := h; exact ⟨v, e, r.mono a.k⟩
  | own l => obtain ⟨p, vs, e, m, r⟩ := h; exact ⟨p, vs, e, m.step a, r.mono a.k⟩
  | ownd ks l => obtain ⟨p, vs, e, m, hl, r⟩ := h; exact ⟨p, vs, e, m.step a, hl, r.mono a.k⟩
  | obj k l => obtain ⟨p, dx, vs, e, m, hs, hl, r⟩ := h; exact ⟨p, dx, vs, e, m.step a, hs, hl, r.mono a.k⟩
  | fn f => exact h
theorem Pre.step (p : Pre c Hk0 H0 env w σ Hk H) (a : Stp c.Z Hk H Hk1 H1) (hw : c.Z.ok w1 H1) : Pre c Hk0 H0 env w1 σ Hk1 H1 where
  k := p.k.trans a.k
  base := c.Bm a.k p.base
  g := a.g
  new := fun x h => by
    rcases a.new x h with q | q
    · exact p.new x q
    · cases e : H0 x with
      | none => exact .inr rfl
      | some o =>
        by_cases f : c.Z.FP x
        · exact absurd f (a.g.nf x h)
        · by_cases s : c.S x
          · obtain ⟨_, ⟨_, _, _, z⟩, _⟩ := p.self x s
            rw [z] at q; cases q
          · rw [p.keep x o f s e] at q; cases q
  keep := fun x o f s h => a.keep x o f (p.keep x o f s h)
  self := fun x s => by
    obtain ⟨h1, ⟨C, dx, fs, e⟩, h3⟩ := p.self x s
    refine ⟨?_, ⟨C, dx, fs, a.keep x _ h3 e⟩, h3⟩
    cases q : Hk1 x with
    | none => rfl
    | some u =>
      rcases a.new x (ne_none q) with z | z
      · exact absurd h1 z
      · rw [e] at z; cases z
  w := hw
  len := p.len
  sl := fun i s e => (p.sl i s e).step a
  ap := p.ap
end
/-! ### expressions -/
/-- an expression's meaning: by the slots' data and the world, its value and the world behind it -/
abbrev EM (W : Type) := Env' → W → Option (D × W)
abbrev TM (W : Type) := Env' → W → Option (Bool × W)
abbrev AM (W : Type) := Env' → W → Option (List D × W)
def EOk (c : Cfg) (t : TE) (φ : EM c.Z.W) : Prop :=
  ∀ Hk0 H0 env w σ Hk H, Pre c Hk0 H0 env w σ Hk H → ∀ d w', φ env w = some (d, w') →
    ∀ Q : VK, (∀ v Hk' H', Stp c.Z Hk H Hk' H' → c.Z.ok w' H' → Rep c.T Hk' d v → Q v H') → t σ H Q
/-- a new list, not yet known -/
def LOk (c : Cfg) (t : TE) (φ : AM c.Z.W) : Prop :=
  ∀ Hk0 H0 env w σ Hk H, Pre c Hk0 H0 env w σ Hk H → ∀ l w', φ env w = some (l, w') →
    ∀ Q : VK, (∀ p vs Hk' H', Stp c.Z Hk H Hk' H' → c.Z.ok w' H' → H p = none → Hk' p = none → H' p = some (.lst vs) → RepL c.T Hk' l vs → Q (.ref p) H') → t σ H Q
def TOk (c : Cfg) (t : TT) (φ : TM c.Z.W) : Prop :=
  ∀ Hk0 H0 env w σ Hk H, Pre c Hk0 H0 env w σ Hk H → ∀ b w', φ env w = some (b, w') →
    ∀ Q : Bool → Hp → Prop, (∀ Hk' H', Stp c.Z Hk H Hk' H' → c.Z.ok w' H' → Q b H') → t σ H Q
def AOk (c : Cfg) (t : TA) (φ : AM c.Z.W) : Prop :=
  ∀ Hk0 H0 env w σ Hk H, Pre c Hk0 H0 env w σ Hk H → ∀ l w', φ env w = some (l, w') →
    ∀ Q : List V → Hp → Prop, (∀ vs Hk' H', Stp c.Z Hk H Hk' H' → c.Z.ok w' H' → RepL c.T Hk' l vs → Q vs H') → t σ H Q

structure DE (X : Cx) (c : Cfg) (e : Expr) (t : TE) (φ : EM c.Z.W) : Prop where
  p : PE X e t
  k : EOk c t φ
structure DL' (X : Cx) (c : Cfg) (e : Expr) (t : TE) (φ : AM c.Z.W) : Prop where
  p : PE X e t
  k : LOk c t φ
structure DT (X : Cx) (c : Cfg) (e : Expr) (t : TT) (φ : TM c.Z.W) : Prop where
  p : PT X e t
  k : TOk c t φ
structure DA (X : Cx) (c : Cfg) (es : List Expr) (t : TA) (φ : AM c.Z.W) : Prop where
  p : PA X es t
  k : AOk c t φ

theorem bind_some {α β : Type} {x : Option α} {f : α → Option β} {y : β} (h : x.bind f = some y) : ∃ a, x = some a ∧ f a = some y := by
  cases x with
  | none => cases h
  | some a => exact ⟨a, rfl, h⟩
theorem map_some {α β : Type} {x : Option α} {f : α → β} {y : β} (h : x.map f = some y) : ∃ a, x = some a ∧ f a = y := by
  cases x with
  | none => cases h
  | some a => exact ⟨a, rfl, Option.some.inj h⟩

section
variable {X : Cx} {c : Cfg}
/-! #### names, constants -/
def eVar {W : Type} (i : Nat) : EM W := fun env w => match env[i]? with
  | some (.val d) => some (d, w)
  | _ => none
theorem eVar_ok (i : Nat) : EOk c (tVar i) (eVar i) := by
  intro Hk0 H0 env w σ Hk H p d w' h Q q
  unfold eVar at h
  split at h
  · rename_i d' e
    cases h
    obtain ⟨v, ev, r⟩ := p.sl i _ e
    exact ⟨v, ev, q v Hk H (Stp.refl p.g) p.w r⟩
  · cases h
theorem de_var (i : Nat) {x : Str} {pos : Pos} (hN : X.N[i]? = some x := by rfl) (hv : Vis X.env.scope x := by first | exact Or.inl rfl | exact Or.inr (Or.inl rfl) | exact Or.inr (Or.inr rfl))
    (hd : (x == ("__debug__" : Str)) = false := by decide) (hcd : (x == ("__classdict__" : Str)) = false := by decide) : DE X c (.Name x pos) (tVar i) (eVar i) :=
  ⟨pe_var hN hv hd hcd, eVar_ok i⟩
def eC {W : Type} (d : D) : EM W := fun _ w => some (d, w)
theorem eC_ok {d : D} {v : V} (h : ∀ Hk, Rep c.T Hk d v) : EOk c (tC v) (eC d) := by
  intro Hk0 H0 env w σ Hk H p d' w' e Q q
  cases e
  exact q v Hk H (Stp.refl p.g) p.w (h Hk)
theorem de_int {i j pos} : DE X c (.Constant (.int i) j pos) (tC (.int i)) (eC (.int i)) := ⟨pe_int, eC_ok fun _ => rfl⟩
theorem de_bl {b j pos} : DE X c (.Constant (.bool b) j pos) (tC (.bl b)) (eC (.bl b)) := ⟨pe_bl, eC_ok fun _ => rfl⟩
theorem de_non {j pos} : DE X c (.Constant .none j pos) (tC .non) (eC .non) := ⟨pe_non, eC_ok fun _ => rfl⟩
theorem de_str {x j pos} : DE X c (.Constant (.str x) j pos) (tC (.str x)) (eC (.str x)) := ⟨pe_str, eC_ok fun _ => rfl⟩
/-- a constant of the module -/
theorem de_glob {x : Str} {d : D} {v : V} {u : Value} {pos : Pos} (hg : Gl X x) (hm : X.mg x = some u) (r : RelV v u) (h : ∀ Hk, Rep c.T Hk d v) (hd : (x == ("__debug__" : Str)) = false := by decide) : DE X c (.Name x pos) (tC v) (eC d) :=
  ⟨pe_glob hg hm r hd, eC_ok h⟩

/-! #### argument lists, displays -/
def aNil {W : Type} : AM W := fun _ w => some ([], w)
def aCons {W : Type} (f : EM W) (g : AM W) : AM W := fun env w => (f env w).bind fun p => (g env p.2).bind fun q => some (p.1 :: q.1, q.2)
theorem aNil_ok : AOk c tNil aNil := by
  intro Hk0 H0 env w σ Hk H p l w' e Q q
  cases e
  exact q [] Hk H (Stp.refl p.g) p.w rfl
theorem aCons_ok {te : TE} {ta : TA} {f : EM c.Z.W} {g : AM c.Z.W} (h1 : EOk c te f) (h2 : AOk c ta g) : AOk c (tCons te ta) (aCons f g) := by
  intro Hk0 H0 env w σ Hk H p l w' e Q q
  obtain ⟨⟨d, w1⟩, e1, e⟩ := bind_some e
  obtain ⟨⟨r, w2⟩, e2, e⟩ := bind_some e
  cases e
  refine h1 _ _ _ _ _ _ _ p d w1 e1 _ fun v Hk1 H1 s1 o1 r1 => ?_
  refine h2 _ _ _ _ _ _ _ (p.step s1 o1) r w2 e2 _ fun vs Hk2 H2 s2 o2 r2 => ?_
  exact q (v :: vs) Hk2 H2 (s1.trans s2) o2 (.cons (r1.mono s2.k) r2)
theorem da_nil : DA X c [] tNil aNil := ⟨pa_nil, aNil_ok⟩
theorem da_cons {e : Expr} {es : List Expr} {f : EM c.Z.W} {g : AM c.Z.W} {te1 : TE} (h1 : DE X c e te1 f) {te2 : TA} (h2 : DA X c es te2 g)
    (hs : starEach (e :: es) X.env = (false, eval e X.env) :: starEach es X.env := by rfl) : DA X c (e :: es) (tCons te1 te2) (aCons f g) := by
  obtain ⟨p1, k1⟩ := h1
  obtain ⟨p2, k2⟩ := h2
  exact ⟨pa_cons p1 p2 hs, aCons_ok k1 k2⟩
def eTup {W : Type} (f : AM W) : EM W := fun env w => (f env w).bind fun p => if p.1.length ≤ sizeLine then some (.tup p.1, p.2) else none
theorem de_tup {es : List Expr} {x1} {pos : Pos} {f : AM c.Z.W} {te1 : TA} (h : DA X c es te1 f) : DE X c (.Tuple es x1 pos) (tTup te1) (eTup f) := by
  obtain ⟨p1, k⟩ := h
  refine ⟨pe_tup p1, ?_⟩
  intro Hk0 H0 env w σ Hk H p d w' e Q q
  obtain ⟨⟨l, w1⟩, e1, e⟩ := bind_some e
  split at e
  · rename_i hl
    cases e
    refine k _ _ _ _ _ _ _ p _ _ e1 _ fun vs Hk1 H1 s1 o1 r1 => ?_
    refine ⟨by rw [r1.length]; exact hl, fun a ha => ?_⟩
    have s2 := StpP.new (o := .tup vs) s1.g ha
    exact q _ _ _ (s1.trans s2.s) (s2.ok o1) ⟨a, vs, rfl, SqT.of upd_same, r1.mono s2.s.k⟩
  · cases e
def lLst {W : Type} (f : AM W) : AM W := fun env w => (f env w).bind fun p => if p.1.length ≤ sizeLine then some p else none
theorem dl_lst {es : List Expr} {pos : Pos} {f : AM c.Z.W} {te1 : TA} (h : DA X c es te1 f) : DL' X c (.List es pos) (tLst te1) (lLst f) := by
  obtain ⟨p1, k⟩ := h
  refine ⟨pe_lst p1, ?_⟩
  intro Hk0 H0 env w σ Hk H p l w' e Q q
  obtain ⟨⟨l', w1⟩, e1, e⟩ := bind_some e
  split at e
  · rename_i hl
    cases e
    refine k _ _ _ _ _ _ _ p _ _ e1 _ fun vs Hk1 H1 s1 o1 r1 => ?_
    refine ⟨by rw [r1.length]; exact hl, fun a ha => ?_⟩
    have s2 := StpP.own (o := .lst vs) s1.g ha
    have ha0 : H a = none := by
      cases q : H a with
      | none => rfl
      | some o =>
        by_cases f : c.Z.FP a
        · exact absurd ha (s1.g.dm a f)
        · rw [s1.keep a o f q] at ha; cases ha
    have hk : Hk1 a = none := by
      cases q : Hk1 a with
      | none => rfl
      | some o => rw [s1.g.e a o q] at ha; cases ha
    exact q a vs _ _ (s1.trans s2.s) (s2.ok o1) ha0 hk upd_same r1
  · cases e
/-- a new list as a value -/
def eL {W : Type} (f : AM W) : EM W := fun env w => (f env w).map fun p => (.lst p.1, p.2)
theorem DL'.de {e : Expr} {f : AM c.Z.W} {te1 : TE} (h : DL' X c e te1 f) : DE X c e te1 (eL f) := by
  obtain ⟨p1, k⟩ := h
  refine ⟨p1, ?_⟩
  intro Hk0 H0 env w σ Hk H p d w' e Q q
  obtain ⟨⟨l, w1⟩, e1, e⟩ := map_some e
  cases e
  refine k _ _ _ _ _ _ _ p _ _ e1 _ fun a vs Hk1 H1 s1 o1 h0 hk h1 r => ?_
  have hf : ¬ c.Z.FP a := fun f => p.g.dm a f h0
  have hx : Ex Hk1 (upd Hk1 a (.lst vs)) := Ex.new hk
  refine q _ (upd Hk1 a (.lst vs)) H1 ⟨s1.k.trans hx, StpP.know s1.g h1 hk hf, fun b hb => ?_, s1.keep⟩ o1 ⟨a, vs, rfl, upd_same, r.mono hx⟩
  by_cases z : b = a
  · subst z; exact .inr h0
  · rw [upd_ne z] at hb; exact s1.new b hb
end
end DL
set_option Elab.async false
set_option linter.all false
set_option maxRecDepth 100000
set_option maxHeartbeats 4000000
/-! DLb: operators, comparisons. -/
namespace DL
open PySem L2 Evl

/-! ### data that is compared: its form in the library -/
mutual
def D.py : D → PyData
  | .non => .none
  | .bl b => .bool b
  | .int i => .int i
  | .str x => .str x
  | .tup l => .tuple (D.pys l)
  | .lst l => .list (D.pys l)
  | .scr ns => .list (ns.map .int)
  | .dic _ _ => .none
  | .ins _ _ => .none
  | .ob => .none
  | .pt _ => .none
def D.pys : List D → List PyData
  | [] => []
  | d :: l => d.py :: D.pys l
end
mutual
/-- no dict, no instance in it; no deeper than so much -/
def D.okn : D → Nat → Bool
  | .non, _ => true
  | .bl _, _ => true
  | .int _, _ => true
  | .str x, _ => PyData.strOk x
  | .tup _, 0 => false
  | .tup l, n + 1 => D.okns l n
  | .lst _, 0 => false
  | .lst l, n + 1 => D.okns l n
  | .scr _, 0 => false
  | .scr _, _ + 1 => true
  | .dic _ _, _ => false
  | .ins _ _, _ => false
  | .ob, _ => false
  | .pt _, _ => false
def D.okns : List D → Nat → Bool
  | [], _ => true
  | d :: l, n => d.okn n && D.okns l n
end
theorem ints_py (ns : List Int) : PyData.canLayAll0 (ns.map .int) = true ∧ PyData.depthAll (ns.map .int) = 0 := by
  induction ns with
  | nil => simp [PyData.canLayAll0, PyData.depthAll]
  | cons n r ih => simp [PyData.canLayAll0, PyData.depthAll, PyData.canLay0, PyData.depth, ih]
mutual
theorem okn_py : ∀ (d : D) (n : Nat), d.okn n = true → d.py.canLay0 = true ∧ d.py.depth ≤ n
  | .non, n, _ => by simp [D.py, PyData.canLay0, PyData.depth]
  | .bl _, n, _ => by simp [D.py, PyData.canLay0, PyData.depth]
  | .int _, n, _ => by simp [D.py, PyData.canLay0, PyData.depth]
  | .str _, n, h => by simp only [D.okn] at h; simp [D.py, PyData.canLay0, PyData.depth, h]
  | .tup _, 0, h => by simp [D.okn] at h
  | .tup l, n + 1, h => by
    have q := okns_py l n (by simpa [D.okn] using h)
    simp only [D.py, PyData.canLay0, PyData.depth]
    exact ⟨q.1, by omega⟩
  | .lst _, 0, h => by simp [D.okn] at h
  | .lst l, n + 1, h => by
    have q := okns_py l n (by simpa [D.okn] using h)
    simp only [D.py, PyData.canLay0, PyData.depth]
    exact ⟨q.1, by omega⟩
  | .scr _, 0, h => by simp [D.okn] at h
  | .scr ns, n + 1, h => by
    have q := ints_py ns
    simp only [D.py, PyData.canLay0, PyData.depth]
    exact ⟨q.1, by omega⟩
  | .dic _ _, _, h => by simp [D.okn] at h
  | .ins _ _, _, h => by simp [D.okn] at h
  | .ob, _, h => by simp [D.okn] at h
  | .pt _, _, h => by simp [D.okn] at h
theorem okns_py : ∀ (l : List D) (n : Nat), D.okns l n = true → PyData.canLayAll0 (D.pys l) = true ∧ PyData.depthAll (D.pys l) ≤ n
  | [], n, _ => by simp [D.pys, PyData.canLayAll0, PyData.depthAll]
  | d :: l, n, h => by
    simp only [D.okns, Bool.and_eq_true] at h
    have q1 := okn_py d n h.1
    have q2 := okns_py l n h.2
    simp only [D.pys, PyData.canLayAll0, PyData.depthAll, Bool.and_eq_true]
    exact ⟨⟨q1.1, q2.1⟩, by omega⟩
end
theorem okn_shaped {d : D} (h : d.okn 60 = true) : SeqAt.shaped d.py = true := by
  have q := okn_py d 60 h
  show (d.py.canLay0 && decide (d.py.depth ≤ 64)) = true
  rw [Bool.and_eq_true]
  exact ⟨q.1, decide_eq_true (by omega)⟩
section
variable {T : CT} {H : Hp}
theorem dp_ints (ns : List Int) : DpAll T.K H (ns.map V.int) (ns.map .int) := by
  induction ns with
  | nil => exact .nil
  | cons n r ih => exact .cons (.int n) ih
mutual
theorem dp_of : ∀ (d : D) (v : V) (n : Nat), d.okn n = true → Rep T H d v → Dp T.K H v d.py
  | .non, v, _, _, h => by rw [show v = V.non from h]; exact .non
  | .bl b, v, _, _, h => by rw [show v = V.bl b from h]; exact .bl b
  | .int i, v, _, _, h => by rw [show v = V.int i from h]; exact .int i
  | .str x, v, _, _, h => by rw [show v = V.str x from h]; exact .str x
  | .tup _, v, 0, h, _ => by simp [D.okn] at h
  | .tup l, v, n + 1, h, ⟨a, vs, e, hs, r⟩ => by subst e; exact .tup hs (dps_of l vs n (by simpa [D.okn] using h) r)
  | .lst _, v, 0, h, _ => by simp [D.okn] at h
  | .lst l, v, n + 1, h, ⟨a, vs, e, hs, r⟩ => by subst e; exact .lst (SqL.of hs) (dps_of l vs n (by simpa [D.okn] using h) r)
  | .scr _, v, 0, h, _ => by simp [D.okn] at h
  | .scr ns, v, n + 1, h, ⟨a, e, hs⟩ => by subst e; exact .lst hs (dp_ints ns)
  | .dic _ _, _, _, h, _ => by simp [D.okn] at h
  | .ins _ _, _, _, h, _ => by simp [D.okn] at h
  | .ob, _, _, h, _ => by simp [D.okn] at h
  | .pt _, _, _, h, _ => by simp [D.okn] at h
theorem dps_of : ∀ (l : List D) (vs : List V) (n : Nat), D.okns l n = true → RepL T H l vs → DpAll T.K H vs (D.pys l)
  | [], vs, _, _, h => by rw [show vs = [] from h]; exact .nil
  | d :: l, vs, n, h, ⟨v, r, e, h1, h2⟩ => by
    subst e
    simp only [D.okns, Bool.and_eq_true] at h
    exact .cons (dp_of d v n h.1 h1) (dps_of l r n h.2 h2)
end
end

/-! ### two-place operations on values -/
def RD (c : Cfg) (r : R2) (f : D → D → Option D) : Prop :=
  ∀ Hk H x y dx dy d, Gd c.Z Hk H → Rep c.T Hk dx x → Rep c.T Hk dy y → f dx dy = some d →
    ∀ Q : VK, (∀ v Hk' H', StpP c.Z Hk H Hk' H' → Rep c.T Hk' d v → Q v H') → r x y H Q
def eOp {W : Type} (f : D → D → Option D) (a b : EM W) : EM W := fun env w =>
  (a env w).bind fun p => (b env p.2).bind fun q => (f p.1 q.1).map fun d => (d, q.2)
section
variable {X : Cx} {c : Cfg}
theorem eOp_ok {r : R2} {f : D → D → Option D} (hr : RD c r f) {ta tb : TE} {a b : EM c.Z.W} (ha : EOk c ta a) (hb : EOk c tb b) : EOk c (tOp r ta tb) (eOp f a b) := by
  intro Hk0 H0 env w σ Hk H p d w' e Q q
  obtain ⟨⟨dx, w1⟩, e1, e⟩ := bind_some e
  obtain ⟨⟨dy, w2⟩, e2, e⟩ := bind_some e
  obtain ⟨d', e3, e⟩ := map_some e
  cases e
  refine ha _ _ _ _ _ _ _ p _ _ e1 _ fun x Hk1 H1 s1 o1 r1 => ?_
  refine hb _ _ _ _ _ _ _ (p.step s1 o1) _ _ e2 _ fun y Hk2 H2 s2 o2 r2 => ?_
  exact hr Hk2 H2 x y dx dy d s2.g (r1.mono s2.k) r2 e3 Q fun v Hk3 H3 s3 r3 => q v Hk3 H3 ((s1.trans s2).trans s3.s) (s3.ok o2) r3
theorem de_bin {op : Operator} {r : R2} {f : D → D → Option D} {a b : Expr} {φ ψ : EM c.Z.W} {pos : Pos} (ho : OpR X (binaryOp op) r) (hr : RD c r f) {te1 : TE} (ha : DE X c a te1 φ) {te2 : TE} (hb : DE X c b te2 ψ) : DE X c (.BinOp a op b pos) (tOp r te1 te2) (eOp f φ ψ) := by
  obtain ⟨pa, ka⟩ := ha
  obtain ⟨pb, kb⟩ := hb
  exact ⟨pe_op ho pa pb, eOp_ok hr ka kb⟩
theorem de_cmp {op : CmpOp} {r : R2} {f : D → D → Option D} {a b : Expr} {φ ψ : EM c.Z.W} {pos : Pos} (ho : OpR X (compareOp op) r) (hr : RD c r f) {te1 : TE} (ha : DE X c a te1 φ) {te2 : TE} (hb : DE X c b te2 ψ)
    (hm : behindInMarks op b = false := by first | exact nomark _ (by decide) (by decide) | rfl) : DE X c (.Compare a [op] [b] pos) (tOp r te1 te2) (eOp f φ ψ) := by
  obtain ⟨pa, ka⟩ := ha
  obtain ⟨pb, kb⟩ := hb
  exact ⟨pe_cmpR ho pa pb hm, eOp_ok hr ka kb⟩
/-- a bool as a test -/
def asB : D → Option Bool
  | .bl b => some b
  | _ => none
def tOf {W : Type} (f : EM W) : TM W := fun env w => (f env w).bind fun p => (asB p.1).map fun b => (b, p.2)
theorem tOf_ok {t : TE} {φ : EM c.Z.W} (h : EOk c t φ) : TOk c (tTest t) (tOf φ) := by
  intro Hk0 H0 env w σ Hk H p b w' e Q q
  obtain ⟨⟨d, w1⟩, e1, e⟩ := bind_some e
  obtain ⟨b', e2, e⟩ := map_some e
  cases e
  refine h _ _ _ _ _ _ _ p _ _ e1 _ fun v Hk1 H1 s1 o1 r1 => ?_
  cases d <;> simp only [asB, reduceCtorEq, Option.some.injEq] at e2
  subst e2
  exact ⟨_, r1, q Hk1 H1 s1 o1⟩
theorem dt_cmp {op : CmpOp} {r : R2} {f : D → D → Option D} {a b : Expr} {φ ψ : EM c.Z.W} {pos : Pos} (ho : OpR X (compareOp op) r) (hr : RD c r f) {te1 : TE} (ha : DE X c a te1 φ) {te2 : TE} (hb : DE X c b te2 ψ)
    (hm : behindInMarks op b = false := by first | exact nomark _ (by decide) (by decide) | rfl) : DT X c (.Compare a [op] [b] pos) (tTest (tOp r te1 te2)) (tOf (eOp f φ ψ)) := by
  obtain ⟨pa, ka⟩ := ha
  obtain ⟨pb, kb⟩ := hb
  exact ⟨pt_cmpR ho pa pb hm, tOf_ok (eOp_ok hr ka kb)⟩
/-- an expression that gives a bool, as a test -/
theorem dt_val {e : Expr} {φ : EM c.Z.W} {te1 : TE} (h : DE X c e te1 φ) (he : ∀ whole, isTrue e X.env whole = (do let v ← whole; standAt e.pos; holding [v] (truthy v)) := by intro _; rfl) : DT X c e (tB te1) (tOf φ) := by
  obtain ⟨p, k⟩ := h
  exact ⟨pt_val p he, tOf_ok k⟩
/-! #### chains a < b < c -/
def eChain {W : Type} (f g : D → D → Option D) (a b z : EM W) : EM W := fun env w =>
  (a env w).bind fun p => (b env p.2).bind fun q => (f p.1 q.1).bind fun d => (asB d).bind fun k =>
    if k = true then (z env q.2).bind fun r => (g q.1 r.1).map fun d => (d, r.2) else some (.bl false, q.2)
theorem eChain_ok {r r' : R2} {f g : D → D → Option D} (hr : RD c r f) (hr' : RD c r' g) {ta tb tc : TE} {a b z : EM c.Z.W} (ha : EOk c ta a) (hb : EOk c tb b) (hc : EOk c tc z) : EOk c (tChain r r' ta tb tc) (eChain f g a b z) := by
  intro Hk0 H0 env w σ Hk H p d w' e Q q
  obtain ⟨⟨dx, w1⟩, e1, e⟩ := bind_some e
  obtain ⟨⟨dy, w2⟩, e2, e⟩ := bind_some e
  obtain ⟨d1, e3, e⟩ := bind_some e
  obtain ⟨k, e4, e⟩ := bind_some e
  refine ha _ _ _ _ _ _ _ p _ _ e1 _ fun x Hk1 H1 s1 o1 r1 => ?_
  have p1 := p.step s1 o1
  refine hb _ _ _ _ _ _ _ p1 _ _ e2 _ fun y Hk2 H2 s2 o2 r2 => ?_
  have p2 := p1.step s2 o2
  refine hr Hk2 H2 x y dx dy d1 s2.g (r1.mono s2.k) r2 e3 _ fun v Hk3 H3 s3 r3 => ?_
  have p3 := p2.step s3.s (s3.ok o2)
  cases d1 <;> simp only [asB, reduceCtorEq, Option.some.injEq] at e4
  subst e4
  refine ⟨_, r3, ?_⟩
  split at e
  · rename_i hk
    rw [if_pos hk]
    obtain ⟨⟨dz, w3⟩, e5, e⟩ := bind_some e
    obtain ⟨d', e6, e⟩ := map_some e
    cases e
    refine hc _ _ _ _ _ _ _ p3 _ _ e5 _ fun u Hk4 H4 s4 o4 r4 => ?_
    exact hr' Hk4 H4 y u dy dz d s4.g (r2.mono (s3.s.k.trans s4.k)) r4 e6 Q fun v' Hk5 H5 s5 r5 => q v' Hk5 H5 ((((s1.trans s2).trans s3.s).trans s4).trans s5.s) (s5.ok o4) r5
  · rename_i hk
    rw [if_neg hk]
    cases e
    exact q _ Hk3 H3 ((s1.trans s2).trans s3.s) (s3.ok o2) rfl
theorem de_chain {op op' : CmpOp} {r r' : R2} {f g : D → D → Option D} {a b z : Expr} {φ ψ χ : EM c.Z.W} {pos : Pos} (ho : OpR X (compareOp op) r) (ho' : OpR X (compareOp op') r') (hr : RD c r f) (hr' : RD c r' g) {te1 : TE} (ha : DE X c a te1 φ) {te2 : TE} (hb : DE X c b te2 ψ) {te3 : TE} (hz : DE X c z te3 χ)
    (hm : lastMarks [op, op'] [b, z] = false := by with_unfolding_all rfl) : DE X c (.Compare a [op, op'] [b, z] pos) (tChain r r' te1 te2 te3) (eChain f g φ ψ χ) := by
  obtain ⟨pa, ka⟩ := ha
  obtain ⟨pb, kb⟩ := hb
  obtain ⟨pz, kz⟩ := hz
  exact ⟨pe_chain ho ho' pa pb pz hm, eChain_ok hr hr' ka kb kz⟩
theorem dt_chain {op op' : CmpOp} {r r' : R2} {f g : D → D → Option D} {a b z : Expr} {φ ψ χ : EM c.Z.W} {pos : Pos} (ho : OpR X (compareOp op) r) (ho' : OpR X (compareOp op') r') (hr : RD c r f) (hr' : RD c r' g) {te1 : TE} (ha : DE X c a te1 φ) {te2 : TE} (hb : DE X c b te2 ψ) {te3 : TE} (hz : DE X c z te3 χ)
    (hm : lastMarks [op, op'] [b, z] = false := by with_unfolding_all rfl) : DT X c (.Compare a [op, op'] [b, z] pos) (tTest (tChain r r' te1 te2 te3)) (tOf (eChain f g φ ψ χ)) := by
  obtain ⟨pa, ka⟩ := ha
  obtain ⟨pb, kb⟩ := hb
  obtain ⟨pz, kz⟩ := hz
  exact ⟨pt_chain ho ho' pa pb pz hm, tOf_ok (eChain_ok hr hr' ka kb kz)⟩

/-! #### the operators -/
section
variable {c : Cfg}
def fI (g : Int → Int → D) : D → D → Option D
  | .int i, .int j => some (g i j)
  | _, _ => none
theorem rep_int {T : CT} {H : Hp} {i : Int} {v : V} (h : Rep T H (.int i) v) : v = .int i := h
theorem rd_I0 {g : Int → Int → V} {f : Int → Int → D} (h : ∀ i j Hk, Rep c.T Hk (f i j) (g i j)) : RD c (rI0 g) (fI f) := by
  intro Hk H x y dx dy d gd rx ry e Q q
  cases dx <;> cases dy <;> simp only [fI, reduceCtorEq, Option.some.injEq] at e
  subst e
  exact ⟨_, _, rx, ry, q _ _ _ (StpP.refl gd) (h _ _ _)⟩
def fIC (C : Int → Int → Bool) (g : Int → Int → D) : D → D → Option D
  | .int i, .int j => if C i j = true then some (g i j) else none
  | _, _ => none
theorem rd_IC {C : Int → Int → Prop} {Cb : Int → Int → Bool} (hC : ∀ i j, Cb i j = true → C i j) {g : Int → Int → V} {f : Int → Int → D} (h : ∀ i j Hk, Rep c.T Hk (f i j) (g i j)) : RD c (rI C g) (fIC Cb f) := by
  intro Hk H x y dx dy d gd rx ry e Q q
  cases dx <;> cases dy <;> simp only [fIC, reduceCtorEq] at e
  split at e
  · rename_i hc
    cases e
    exact ⟨_, _, rx, ry, hC _ _ hc, q _ _ _ (StpP.refl gd) (h _ _ _)⟩
  · cases e
def fSub : D → D → Option D := fI fun i j => .int (i - j)
theorem rd_sub : RD c (rI0 fun i j => .int (i - j)) fSub := rd_I0 fun _ _ _ => rfl
def smallI (i : Int) : Bool := decide (-(2 ^ 64) < i ∧ i < 2 ^ 64)
def fMul : D → D → Option D := fIC (fun i j => smallI i || smallI j) fun i j => .int (i * j)
theorem rd_mul : RD c (rI CMul fun i j => .int (i * j)) fMul := rd_IC (fun i j h => by
  rcases Bool.or_eq_true_iff.mp h with h | h
  · exact .inl (of_decide_eq_true h)
  · exact .inr (of_decide_eq_true h)) fun _ _ _ => rfl
def fDiv : D → D → Option D := fIC (fun _ j => decide (j ≠ 0 ∧ j.natAbs < 1073741824)) fun i j => .int (i.fdiv j)
theorem rd_div : RD c (rI CDivN fun i j => .int (i.fdiv j)) fDiv := rd_IC (fun i j h => show j ≠ 0 ∧ j.natAbs < 1073741824 from of_decide_eq_true h) fun _ _ _ => rfl
def fMod : D → D → Option D := fIC (fun _ j => decide (j ≠ 0)) fun i j => .int (i.fmod j)
theorem rd_mod : RD c (rI (fun _ j => j ≠ 0) fun i j => .int (i.fmod j)) fMod := rd_IC (fun _ _ h => of_decide_eq_true h) fun _ _ _ => rfl
def fPow : D → D → Option D := fIC (fun i j => decide (0 ≤ j ∧ j ≤ 1000000 ∧ i.natAbs < 2 ^ 64)) fun i j => .int (i ^ j.toNat)
theorem rd_pow : RD c (rI CPow fun i j => .int (i ^ j.toNat)) fPow := rd_IC (fun i j h => show 0 ≤ j ∧ j ≤ 1000000 ∧ i.natAbs < 2 ^ 64 from of_decide_eq_true h) fun _ _ _ => rfl
def fLt : D → D → Option D := fI fun i j => .bl (decide (i < j))
def fLe : D → D → Option D := fI fun i j => .bl (decide (i ≤ j))
def fGt : D → D → Option D := fI fun i j => .bl (decide (j < i))
def fGe : D → D → Option D := fI fun i j => .bl (decide (j ≤ i))
theorem rd_lt : RD c (rI0 fun i j => .bl (decide (i < j))) fLt := rd_I0 fun _ _ _ => rfl
theorem rd_le : RD c (rI0 fun i j => .bl (decide (i ≤ j))) fLe := rd_I0 fun _ _ _ => rfl
theorem rd_gt : RD c (rI0 fun i j => .bl (decide (j < i))) fGt := rd_I0 fun _ _ _ => rfl
theorem rd_ge : RD c (rI0 fun i j => .bl (decide (j ≤ i))) fGe := rd_I0 fun _ _ _ => rfl
end
/-- +: ints, texts, lists, tuples -/
def rAddA (K : PySem.W.Frag) : R2 := fun x y H Q => rI0 (fun i j => .int (i + j)) x y H Q ∨ (∃ i j, x = .str i ∧ y = .str j ∧ i.length + j.length ≤ sizeLine ∧ Q (.str (i ++ j)) H) ∨ rCat x y H Q ∨ rCatA K x y H Q
theorem op_addA_0 : OpR X (binaryOp .Add) (rAddA X.K) := op_add.or (op_add_str.or (op_cat.or op_catA))
theorem op_addA {K : PySem.W.Frag} (hK : X.K = K := by rfl) : OpR X (binaryOp .Add) (rAddA K) :=
  hK ▸ op_addA_0 
def fAdd : D → D → Option D
  | .int i, .int j => some (.int (i + j))
  | .str a, .str b => if a.length + b.length ≤ sizeLine then some (.str (a ++ b)) else none
  | .lst a, .lst b => if a.length + b.length ≤ sizeLine then some (.lst (a ++ b)) else none
  | .tup a, .tup b => if a.length + b.length ≤ sizeLine then some (.tup (a ++ b)) else none
  | _, _ => none
theorem RepL.nil_iff {T : CT} {H : Hp} {l : List D} {vs : List V} (r : RepL T H l vs) : vs = [] ↔ l = [] := by
  have := r.length
  constructor
  · intro e; subst e; exact List.length_eq_zero_iff.mp this.symm
  · intro e; subst e; exact List.length_eq_zero_iff.mp this
theorem rd_add (hK : c.T.K = c.T.K) : RD c (rAddA c.T.K) fAdd := by
  intro Hk H x y dx dy d gd rx ry e Q q
  rw [hK]
  cases dx <;> cases dy <;> simp only [fAdd, reduceCtorEq, Option.some.injEq] at e
  · subst e; exact .inl ⟨_, _, rx, ry, q _ _ _ (StpP.refl gd) rfl⟩
  · split at e
    · rename_i hl
      cases e; exact .inr (.inl ⟨_, _, rx, ry, hl, q _ _ _ (StpP.refl gd) rfl⟩)
    · cases e
  · split at e
    · rename_i l m hl
      cases e
      obtain ⟨a, vs, e1, h1, r1⟩ := rx
      obtain ⟨b, us, e2, h2, r2⟩ := ry
      subst e1 e2
      refine .inr (.inr (.inr ⟨a, b, vs, us, rfl, rfl, ?_, ?_, by rw [r1.length, r2.length]; exact hl, fun z => ?_, fun _ z => ?_, fun _ _ p hp => ?_⟩))
      · exact ex_t gd.e h1
      · exact ex_t gd.e h2
      · have := r1.nil_iff.mp z; subst this
        exact q _ _ _ (StpP.refl gd) ⟨b, us, rfl, h2, by simpa using r2⟩
      · have := r2.nil_iff.mp z; subst this
        exact q _ _ _ (StpP.refl gd) ⟨a, vs, rfl, h1, by simpa using r1⟩
      · have s := StpP.new (o := .tup (vs ++ us)) gd hp
        exact q _ _ _ s ⟨p, _, rfl, SqT.of upd_same, (r1.append r2).mono s.s.k⟩
    · cases e
  · split at e
    · rename_i l m hl
      cases e
      obtain ⟨a, vs, e1, h1, r1⟩ := rx
      obtain ⟨b, us, e2, h2, r2⟩ := ry
      subst e1 e2
      refine .inr (.inr (.inl ⟨a, b, vs, us, rfl, rfl, gd.e _ _ h1, gd.e _ _ h2, by rw [r1.length, r2.length]; exact hl, fun p hp => ?_⟩))
      have s := StpP.new (o := .lst (vs ++ us)) gd hp
      exact q _ _ _ s ⟨p, _, rfl, upd_same, (r1.append r2).mono s.s.k⟩
    · cases e

/-! #### == and != of data -/
/-- == by data: texts and numbers as they are, all else through the library's form -/
def eqD : D → D → Option Bool
  | .str a, .str b => some (decide (a = b))
  | .int a, .int b => some (decide (a = b))
  | a, b => if a.okn 60 && b.okn 60 then some (PyData.eqv a.py b.py) else none
def fEq : D → D → Option D := fun a b => (eqD a b).map .bl
def fNe : D → D → Option D := fun a b => (eqD a b).map fun k => .bl (!k)
def rEqA (K : PySem.W.Frag) : R2 := fun x y H Q => rEq x y H Q ∨ rEqD K x y H Q
def rNeA (K : PySem.W.Frag) : R2 := fun x y H Q => rNe x y H Q ∨ rNeD K x y H Q
theorem op_eqA_0 (hu : X.A.units + 64 < cLine) : OpR X (compareOp .Eq) (rEqA X.K) := op_eq.or (op_eqD hu)
theorem op_eqA {K : PySem.W.Frag} (hu : X.A.units + 64 < cLine) (hK : X.K = K := by rfl) : OpR X (compareOp .Eq) (rEqA K) :=
  hK ▸ op_eqA_0 hu
theorem op_neA_0 (hu : X.A.units + 64 < cLine) : OpR X (compareOp .NotEq) (rNeA X.K) := op_ne.or (op_neD hu)
theorem op_neA {K : PySem.W.Frag} (hu : X.A.units + 64 < cLine) (hK : X.K = K := by rfl) : OpR X (compareOp .NotEq) (rNeA K) :=
  hK ▸ op_neA_0 hu
theorem eqD_of {a b : D} {k : Bool} (e : eqD a b = some k) : (∃ x y, a = .str x ∧ b = .str y ∧ k = decide (x = y)) ∨ (∃ x y, a = .int x ∧ b = .int y ∧ k = decide (x = y)) ∨ (a.okn 60 = true ∧ b.okn 60 = true ∧ k = PyData.eqv a.py b.py) := by
  unfold eqD at e
  split at e
  · cases e; exact .inl ⟨_, _, rfl, rfl, rfl⟩
  · cases e; exact .inr (.inl ⟨_, _, rfl, rfl, rfl⟩)
  · split at e
    · rename_i h
      rw [Bool.and_eq_true] at h
      cases e; exact .inr (.inr ⟨h.1, h.2, rfl⟩)
    · cases e
theorem dp_mono {K : PySem.W.Frag} {H H' : Hp} (e : Ex H H') {v : V} {d : PyData} (h : Dp K H v d) : Dp K H' v d := by
  refine Dp.rec (motive_1 := fun v d _ => Dp K H' v d) (motive_2 := fun vs ds _ => DpAll K H' vs ds) ?_ ?_ ?_ ?_ ?_ ?_ ?_ ?_ h
  · exact .non
  · exact .bl
  · exact .int
  · exact .str
  · intro a xs ds h1 _ h2; exact .lst (ex_l e h1) h2
  · intro a xs ds h1 _ h2; exact .tup (ex_t e h1) h2
  · exact .nil
  · intro v vs d ds _ _ h1 h2; exact .cons h1 h2
theorem rd_eq (hK : c.T.K = c.T.K) : RD c (rEqA c.T.K) fEq := by
  intro Hk H x y dx dy d gd rx ry e Q q
  obtain ⟨k, ek, e'⟩ := map_some e
  subst e'
  rcases eqD_of ek with ⟨a, b, rfl, rfl, rfl⟩ | ⟨a, b, rfl, rfl, rfl⟩ | ⟨h1, h2, rfl⟩
  · obtain rfl : x = V.str a := rx
    obtain rfl : y = V.str b := ry
    exact .inl ⟨rfl, q _ _ _ (StpP.refl gd) (by rw [show decide (V.str a = V.str b) = decide (a = b) by simp]; rfl)⟩
  · obtain rfl : x = V.int a := rx
    obtain rfl : y = V.int b := ry
    exact .inl ⟨rfl, q _ _ _ (StpP.refl gd) (by rw [show decide (V.int a = V.int b) = decide (a = b) by simp]; rfl)⟩
  · rw [hK]
    exact .inr ⟨_, _, dp_mono gd.e (dp_of _ _ 60 h1 rx), dp_mono gd.e (dp_of _ _ 60 h2 ry), okn_shaped h1, okn_shaped h2, q _ _ _ (StpP.refl gd) rfl⟩
theorem rd_ne (hK : c.T.K = c.T.K) : RD c (rNeA c.T.K) fNe := by
  intro Hk H x y dx dy d gd rx ry e Q q
  obtain ⟨k, ek, e'⟩ := map_some e
  subst e'
  rcases eqD_of ek with ⟨a, b, rfl, rfl, rfl⟩ | ⟨a, b, rfl, rfl, rfl⟩ | ⟨h1, h2, rfl⟩
  · obtain rfl : x = V.str a := rx
    obtain rfl : y = V.str b := ry
    exact .inl ⟨rfl, q _ _ _ (StpP.refl gd) (by rw [show decide (V.str a = V.str b) = decide (a = b) by simp]; rfl)⟩
  · obtain rfl : x = V.int a := rx
    obtain rfl : y = V.int b := ry
    exact .inl ⟨rfl, q _ _ _ (StpP.refl gd) (by rw [show decide (V.int a = V.int b) = decide (a = b) by simp]; rfl)⟩
  · rw [hK]
    exact .inr ⟨_, _, dp_mono gd.e (dp_of _ _ 60 h1 rx), dp_mono gd.e (dp_of _ _ 60 h2 ry), okn_shaped h1, okn_shaped h2, q _ _ _ (StpP.refl gd) rfl⟩

/-! #### in, not in -/
def D.flat : D → Bool
  | .non => true
  | .bl _ => true
  | .int _ => true
  | .str _ => true
  | _ => false
/-- == of flat data -/
def eqF : D → D → Bool
  | .non, .non => true
  | .bl a, .bl b => a == b
  | .bl a, .int b => (if a then 1 else 0) == b
  | .int a, .bl b => a == (if b then 1 else 0)
  | .int a, .int b => a == b
  | .str a, .str b => a == b
  | _, _ => false
section
variable {T : CT} {H : Hp}
theorem flat_rep {d : D} {v : V} (h : Rep T H d v) (f : d.flat = true) : flatV v = true := by
  cases d <;> simp only [D.flat, Bool.false_eq_true, reduceCtorEq] at f
  · obtain rfl : v = V.non := h; rfl
  · obtain rfl : v = V.bl _ := h; rfl
  · obtain rfl : v = V.int _ := h; rfl
  · obtain rfl : v = V.str _ := h; rfl
theorem flats_rep : ∀ {l : List D} {vs : List V}, RepL T H l vs → l.all D.flat = true → vs.all flatV = true
  | [], _, h, _ => by rw [show _ = [] from h]; rfl
  | d :: l, _, ⟨v, r, e, h1, h2⟩, f => by
    subst e
    rw [List.all_cons, Bool.and_eq_true] at f ⊢
    exact ⟨flat_rep h1 f.1, flats_rep h2 f.2⟩
theorem eqF_rep {d e : D} {v u : V} (h : Rep T H d v) (h' : Rep T H e u) (f : d.flat = true) (f' : e.flat = true) : eqV v u = eqF d e := by
  cases d <;> simp only [D.flat, Bool.false_eq_true, reduceCtorEq] at f <;> cases e <;> simp only [D.flat, Bool.false_eq_true, reduceCtorEq] at f' <;> (rw [show v = _ from h, show u = _ from h']; rfl)
theorem inF_rep {d : D} {v : V} (h : Rep T H d v) (f : d.flat = true) : ∀ {l : List D} {vs : List V}, RepL T H l vs → l.all D.flat = true → inV v vs = l.any fun y => eqF y d
  | [], _, r, _ => by rw [show _ = [] from r]; rfl
  | e :: l, _, ⟨u, r, q, h1, h2⟩, g => by
    subst q
    rw [List.all_cons, Bool.and_eq_true] at g
    have ih := inF_rep h f h2 g.2
    unfold inV at ih ⊢
    rw [List.any_cons, List.any_cons, eqF_rep h1 h g.1 f, ih]
end
def inD : D → D → Option Bool
  | x, .tup l => if x.flat && l.all D.flat then some (l.any fun y => eqF y x) else none
  | x, .lst l => if x.flat && l.all D.flat then some (l.any fun y => eqF y x) else if x.okn 60 && D.okns l 59 then some ((D.pys l).any fun y => PyData.eqv y x.py) else none
  | .str x, .str z => if x.length = 1 then some (decide (x.cps.getD 0 0 ∈ z.cps.toList)) else none
  | _, _ => none
def fIn : D → D → Option D := fun a b => (inD a b).map .bl
def fNotIn : D → D → Option D := fun a b => (inD a b).map fun k => .bl (!k)
def rInA (K : PySem.W.Frag) : R2 := fun x y H Q => rIn K false x y H Q ∨ rInD K x y H Q ∨ (∃ (c : Nat) (z : Str), x = .str ⟨#[c]⟩ ∧ y = .str z ∧ Q (.bl (decide (c ∈ z.cps.toList))) H)
def rNotInA (K : PySem.W.Frag) : R2 := fun x y H Q => rIn K true x y H Q ∨ rNotInD K x y H Q ∨ (∃ (c : Nat) (z : Str), x = .str ⟨#[c]⟩ ∧ y = .str z ∧ Q (.bl (!decide (c ∈ z.cps.toList))) H)
theorem op_inA_0 (hu : X.A.units + 65 < cLine) : OpR X (compareOp .In) (rInA X.K) := op_in_seq.or ((op_inD hu).or op_in_sign)
theorem op_inA {K : PySem.W.Frag} (hu : X.A.units + 65 < cLine) (hK : X.K = K := by rfl) : OpR X (compareOp .In) (rInA K) :=
  hK ▸ op_inA_0 hu
theorem op_notInA_0 (hu : X.A.units + 65 < cLine) : OpR X (compareOp .NotIn) (rNotInA X.K) := op_notIn_seq.or ((op_notInD hu).or op_notIn_sign)
theorem op_notInA {K : PySem.W.Frag} (hu : X.A.units + 65 < cLine) (hK : X.K = K := by rfl) : OpR X (compareOp .NotIn) (rNotInA K) :=
  hK ▸ op_notInA_0 hu
theorem one_sign {x : Str} (h : x.length = 1) : x = ⟨#[x.cps.getD 0 0]⟩ := by
  obtain ⟨cps⟩ := x
  have h' : cps.size = 1 := h
  have e : cps = #[cps.getD 0 0] := by
    apply Array.ext
    · simpa using h'
    · intro i h1 h2
      have : i = 0 := by omega
      subst this
      simp [Array.getD, h']
  exact congrArg Str.mk e
theorem inD_of {a b : D} {k : Bool} (e : inD a b = some k) :
    (∃ l, (b = .tup l ∨ b = .lst l) ∧ a.flat = true ∧ l.all D.flat = true ∧ k = l.any fun y => eqF y a) ∨
    (∃ l, b = .lst l ∧ a.okn 60 = true ∧ D.okns l 59 = true ∧ k = (D.pys l).any fun y => PyData.eqv y a.py) ∨
    (∃ x z, a = .str x ∧ b = .str z ∧ x.length = 1 ∧ k = decide (x.cps.getD 0 0 ∈ z.cps.toList)) := by
  unfold inD at e
  split at e
  · split at e
    · rename_i h; rw [Bool.and_eq_true] at h; cases e; exact .inl ⟨_, .inl rfl, h.1, h.2, rfl⟩
    · cases e
  · split at e
    · rename_i h; rw [Bool.and_eq_true] at h; cases e; exact .inl ⟨_, .inr rfl, h.1, h.2, rfl⟩
    · split at e
      · rename_i h; rw [Bool.and_eq_true] at h; cases e; exact .inr (.inl ⟨_, rfl, h.1, h.2, rfl⟩)
      · cases e
  · split at e
    · rename_i h; cases e; exact .inr (.inr ⟨_, _, rfl, rfl, h, rfl⟩)
    · cases e
  · cases e
theorem rd_in_any (neg : Bool) (hK : c.T.K = c.T.K) {Hk H : Hp} {x y : V} {dx dy : D} {k : Bool} (gd : Gd c.Z Hk H) (rx : Rep c.T Hk dx x) (ry : Rep c.T Hk dy y) (e : inD dx dy = some k) {Q : VK}
    (q : Q (.bl (if neg then !k else k)) H) : rIn c.T.K neg x y H Q ∨ (∃ d ds, Dp c.T.K H x d ∧ Dp c.T.K H y (.list ds) ∧ SeqAt.shaped d = true ∧ SeqAt.shaped (.list ds) = true ∧ Q (.bl (if neg then !(ds.any fun z => PyData.eqv z d) else ds.any fun z => PyData.eqv z d)) H) ∨
      (∃ (c : Nat) (z : Str), x = .str ⟨#[c]⟩ ∧ y = .str z ∧ Q (.bl (if neg then !decide (c ∈ z.cps.toList) else decide (c ∈ z.cps.toList))) H) := by
  rcases inD_of e with ⟨l, hb, f1, f2, rfl⟩ | ⟨l, rfl, o1, o2, rfl⟩ | ⟨a, b, rfl, rfl, hl, rfl⟩
  · rw [hK]
    rcases hb with rfl | rfl
    · obtain ⟨p, vs, e1, h1, r1⟩ := ry
      subst e1
      refine .inl ⟨p, vs, rfl, .inr (ex_t gd.e h1), flat_rep rx f1, flats_rep r1 f2, ?_⟩
      rw [inF_rep rx f1 r1 f2]; exact q
    · obtain ⟨p, vs, e1, h1, r1⟩ := ry
      subst e1
      refine .inl ⟨p, vs, rfl, .inl (SqL.of (gd.e _ _ h1)), flat_rep rx f1, flats_rep r1 f2, ?_⟩
      rw [inF_rep rx f1 r1 f2]; exact q
  · rw [hK]
    have ok : (D.lst l).okn 60 = true := by simpa [D.okn] using o2
    have hp := dp_mono gd.e (dp_of _ _ 60 ok ry)
    have hs := okn_shaped ok
    exact .inr (.inl ⟨_, _, dp_mono gd.e (dp_of _ _ 60 o1 rx), by simpa [D.py] using hp, okn_shaped o1, by simpa [D.py] using hs, q⟩)
  · refine .inr (.inr ⟨a.cps.getD 0 0, b, ?_, ry, q⟩)
    rw [show x = V.str a from rx, ← one_sign hl]
theorem rd_in (hK : c.T.K = c.T.K) : RD c (rInA c.T.K) fIn := by
  intro Hk H x y dx dy d gd rx ry e Q q
  obtain ⟨k, ek, e'⟩ := map_some e
  subst e'
  exact rd_in_any false hK gd rx ry ek (q _ _ _ (StpP.refl gd) rfl)
theorem rd_notIn (hK : c.T.K = c.T.K) : RD c (rNotInA c.T.K) fNotIn := by
  intro Hk H x y dx dy d gd rx ry e Q q
  obtain ⟨k, ek, e'⟩ := map_some e
  subst e'
  exact rd_in_any true hK gd rx ry ek (q _ _ _ (StpP.refl gd) rfl)
/-- is None, is not None -/
def D.isNon : D → Bool
  | .non => true
  | _ => false
def fIsN : D → D → Option D := fun x y => if y.isNon = true then some (.bl x.isNon) else none
def fNotN : D → D → Option D := fun x y => if y.isNon = true then some (.bl (!x.isNon)) else none
theorem rep_non {T : CT} {H : Hp} {d : D} {v : V} (h : Rep T H d v) : decide (v = .non) = d.isNon := by
  cases d with
  | non => rw [show v = V.non from h]; rfl
  | bl _ => rw [show v = V.bl _ from h]; rfl
  | int _ => rw [show v = V.int _ from h]; rfl
  | str _ => rw [show v = V.str _ from h]; rfl
  | tup _ => obtain ⟨_, _, e, _⟩ := h; rw [e]; rfl
  | lst _ => obtain ⟨_, _, e, _⟩ := h; rw [e]; rfl
  | scr _ => obtain ⟨_, e, _⟩ := h; rw [e]; rfl
  | dic _ _ => obtain ⟨_, _, _, e, _⟩ := h; rw [e]; rfl
  | ins _ _ => obtain ⟨_, _, _, e, _⟩ := h; rw [e]; rfl
  | ob => rw [show v = V.ref _ from h]; rfl
  | pt _ => obtain ⟨_, _, _, e, _⟩ := h; rw [e]; rfl
theorem isNon_eq {d : D} (h : d.isNon = true) : d = .non := by cases d <;> first | rfl | cases h
theorem rd_isN : RD c (fun x y H Q => y = .non ∧ Q (.bl (decide (x = .non))) H) fIsN := by
  intro Hk H x y dx dy d gd rx ry e Q q
  unfold fIsN at e
  split at e
  · rename_i h
    obtain rfl := isNon_eq h
    cases e
    exact ⟨ry, q _ _ _ (StpP.refl gd) (by rw [rep_non rx]; rfl)⟩
  · cases e
theorem rd_notN : RD c (fun x y H Q => y = .non ∧ Q (.bl (!decide (x = .non))) H) fNotN := by
  intro Hk H x y dx dy d gd rx ry e Q q
  unfold fNotN at e
  split at e
  · rename_i h
    obtain rfl := isNon_eq h
    cases e
    exact ⟨ry, q _ _ _ (StpP.refl gd) (by rw [rep_non rx]; rfl)⟩
  · cases e
end
end DL
set_option Elab.async false
set_option linter.all false
set_option maxRecDepth 100000
set_option maxHeartbeats 4000000
/-! DLc: and, or, not, truth, if-expressions, subscripts, slices, attributes, calls of built-ins. -/
namespace DL
open PySem L2 Evl
section
variable {X : Cx} {c : Cfg}

/-! ### and, or, not as values -/
def eAnd {W : Type} (a b : EM W) : EM W := fun env w => (a env w).bind fun p => (asB p.1).bind fun k => if k = true then b env p.2 else some (.bl false, p.2)
def eOr {W : Type} (a b : EM W) : EM W := fun env w => (a env w).bind fun p => (asB p.1).bind fun k => if k = true then some (.bl true, p.2) else b env p.2
def eNot {W : Type} (a : EM W) : EM W := fun env w => (a env w).bind fun p => (asB p.1).map fun k => (.bl (!k), p.2)
theorem asB_rep {T : CT} {H : Hp} {d : D} {v : V} {k : Bool} (h : Rep T H d v) (e : asB d = some k) : v = .bl k := by
  cases d <;> simp only [asB, reduceCtorEq, Option.some.injEq] at e
  subst e; exact h
theorem de_one {op} {a : Expr} {φ : EM c.Z.W} {pos : Pos} {te1 : TE} (h : DE X c a te1 φ) : DE X c (.BoolOp op [a] pos) te1 φ := by
  obtain ⟨p, k⟩ := h
  exact ⟨pe_one p, k⟩
theorem de_and {a b : Expr} {rest : List Expr} {φ ψ : EM c.Z.W} {pos : Pos} {te1 : TE} (ha : DE X c a te1 φ) {te2 : TE} (hb : DE X c (.BoolOp .And (b :: rest) pos) te2 ψ) : DE X c (.BoolOp .And (a :: b :: rest) pos) (tAndV te1 te2) (eAnd φ ψ) := by
  obtain ⟨pa, ka⟩ := ha
  obtain ⟨pb, kb⟩ := hb
  refine ⟨pe_and pa pb, ?_⟩
  intro Hk0 H0 env w σ Hk H p d w' e Q q
  obtain ⟨⟨dx, w1⟩, e1, e⟩ := bind_some e
  obtain ⟨k, e2, e⟩ := bind_some e
  refine ka _ _ _ _ _ _ _ p _ _ e1 _ fun x Hk1 H1 s1 o1 r1 => ⟨k, asB_rep r1 e2, ?_⟩
  split at e
  · rename_i hk
    rw [if_pos hk]
    exact kb _ _ _ _ _ _ _ (p.step s1 o1) _ _ e Q fun v Hk2 H2 s2 o2 r2 => q v Hk2 H2 (s1.trans s2) o2 r2
  · rename_i hk
    rw [if_neg hk]
    cases e
    exact q _ Hk1 H1 s1 o1 rfl
theorem de_or {a b : Expr} {rest : List Expr} {φ ψ : EM c.Z.W} {pos : Pos} {te1 : TE} (ha : DE X c a te1 φ) {te2 : TE} (hb : DE X c (.BoolOp .Or (b :: rest) pos) te2 ψ) : DE X c (.BoolOp .Or (a :: b :: rest) pos) (tOrV te1 te2) (eOr φ ψ) := by
  obtain ⟨pa, ka⟩ := ha
  obtain ⟨pb, kb⟩ := hb
  refine ⟨pe_or pa pb, ?_⟩
  intro Hk0 H0 env w σ Hk H p d w' e Q q
  obtain ⟨⟨dx, w1⟩, e1, e⟩ := bind_some e
  obtain ⟨k, e2, e⟩ := bind_some e
  refine ka _ _ _ _ _ _ _ p _ _ e1 _ fun x Hk1 H1 s1 o1 r1 => ⟨k, asB_rep r1 e2, ?_⟩
  split at e
  · rename_i hk
    rw [if_pos hk]
    cases e
    exact q _ Hk1 H1 s1 o1 rfl
  · rename_i hk
    rw [if_neg hk]
    exact kb _ _ _ _ _ _ _ (p.step s1 o1) _ _ e Q fun v Hk2 H2 s2 o2 r2 => q v Hk2 H2 (s1.trans s2) o2 r2
theorem de_not {a : Expr} {φ : EM c.Z.W} {pos : Pos} {te1 : TE} (ha : DE X c a te1 φ) : DE X c (.UnaryOp .Not a pos) (tNotV te1) (eNot φ) := by
  obtain ⟨pa, ka⟩ := ha
  refine ⟨pe_not pa, ?_⟩
  intro Hk0 H0 env w σ Hk H p d w' e Q q
  obtain ⟨⟨dx, w1⟩, e1, e⟩ := bind_some e
  obtain ⟨k, e2, e⟩ := map_some e
  cases e
  exact ka _ _ _ _ _ _ _ p _ _ e1 _ fun x Hk1 H1 s1 o1 r1 => ⟨k, asB_rep r1 e2, q _ Hk1 H1 s1 o1 rfl⟩
def fNeg : D → Option D
  | .int i => some (.int (-i))
  | _ => none
def eUn {W : Type} (f : D → Option D) (a : EM W) : EM W := fun env w => (a env w).bind fun p => (f p.1).map fun d => (d, p.2)
theorem de_neg {a : Expr} {φ : EM c.Z.W} {pos : Pos} {te1 : TE} (ha : DE X c a te1 φ) : DE X c (.UnaryOp .USub a pos) (tUn (rU fun i => .int (-i)) te1) (eUn fNeg φ) := by
  obtain ⟨pa, ka⟩ := ha
  refine ⟨pe_un un_neg pa, ?_⟩
  intro Hk0 H0 env w σ Hk H p d w' e Q q
  obtain ⟨⟨dx, w1⟩, e1, e⟩ := bind_some e
  obtain ⟨d', e2, e⟩ := map_some e
  cases e
  refine ka _ _ _ _ _ _ _ p _ _ e1 _ fun x Hk1 H1 s1 o1 r1 => ?_
  cases dx <;> simp only [fNeg, reduceCtorEq, Option.some.injEq] at e2
  subst e2
  exact ⟨_, r1, q _ Hk1 H1 s1 o1 rfl⟩

/-! ### tests -/
structure DW (X : Cx) (c : Cfg) (e : Expr) (t : TT) (φ : TM c.Z.W) : Prop where
  p : PW X e t
  k : TOk c t φ
theorem DW.dt {e : Expr} {φ : TM c.Z.W} {te1 : TT} (h : DW X c e te1 φ) : DT X c e te1 φ := by
  obtain ⟨p, k⟩ := h
  exact ⟨p.pt, k⟩
def bAnd {W : Type} (a b : TM W) : TM W := fun env w => (a env w).bind fun p => if p.1 = true then b env p.2 else some (false, p.2)
def bOr {W : Type} (a b : TM W) : TM W := fun env w => (a env w).bind fun p => if p.1 = true then some (true, p.2) else b env p.2
def bNot {W : Type} (a : TM W) : TM W := fun env w => (a env w).map fun p => (!p.1, p.2)
theorem dw_and1 {a : Expr} {φ : TM c.Z.W} {pos : Pos} {te1 : TT} (h : DT X c a te1 φ) : DW X c (.BoolOp .And [a] pos) te1 φ := by
  obtain ⟨p, k⟩ := h
  exact ⟨pw_and1 p, k⟩
theorem dw_or1 {a : Expr} {φ : TM c.Z.W} {pos : Pos} {te1 : TT} (h : DT X c a te1 φ) : DW X c (.BoolOp .Or [a] pos) te1 φ := by
  obtain ⟨p, k⟩ := h
  exact ⟨pw_or1 p, k⟩
theorem dw_and {a b : Expr} {rest : List Expr} {φ ψ : TM c.Z.W} {pos : Pos} {te1 : TT} (ha : DT X c a te1 φ) {te2 : TT} (hb : DW X c (.BoolOp .And (b :: rest) pos) te2 ψ) : DW X c (.BoolOp .And (a :: b :: rest) pos) (tAnd te1 te2) (bAnd φ ψ) := by
  obtain ⟨pa, ka⟩ := ha
  obtain ⟨pb, kb⟩ := hb
  refine ⟨pw_and pa pb, ?_⟩
  intro Hk0 H0 env w σ Hk H p b w' e Q q
  obtain ⟨⟨k, w1⟩, e1, e⟩ := bind_some e
  refine ka _ _ _ _ _ _ _ p _ _ e1 _ fun Hk1 H1 s1 o1 => ?_
  split at e
  · rename_i hk
    rw [if_pos hk]
    exact kb _ _ _ _ _ _ _ (p.step s1 o1) _ _ e Q fun Hk2 H2 s2 o2 => q Hk2 H2 (s1.trans s2) o2
  · rename_i hk
    rw [if_neg hk]
    cases e
    exact q Hk1 H1 s1 o1
theorem dw_or {a b : Expr} {rest : List Expr} {φ ψ : TM c.Z.W} {pos : Pos} {te1 : TT} (ha : DT X c a te1 φ) {te2 : TT} (hb : DW X c (.BoolOp .Or (b :: rest) pos) te2 ψ) : DW X c (.BoolOp .Or (a :: b :: rest) pos) (tOr te1 te2) (bOr φ ψ) := by
  obtain ⟨pa, ka⟩ := ha
  obtain ⟨pb, kb⟩ := hb
  refine ⟨pw_or pa pb, ?_⟩
  intro Hk0 H0 env w σ Hk H p b w' e Q q
  obtain ⟨⟨k, w1⟩, e1, e⟩ := bind_some e
  refine ka _ _ _ _ _ _ _ p _ _ e1 _ fun Hk1 H1 s1 o1 => ?_
  split at e
  · rename_i hk
    rw [if_pos hk]
    cases e
    exact q Hk1 H1 s1 o1
  · rename_i hk
    rw [if_neg hk]
    exact kb _ _ _ _ _ _ _ (p.step s1 o1) _ _ e Q fun Hk2 H2 s2 o2 => q Hk2 H2 (s1.trans s2) o2
theorem dt_not {a : Expr} {φ : TM c.Z.W} {pos : Pos} {te1 : TT} (ha : DT X c a te1 φ) : DT X c (.UnaryOp .Not a pos) (tNot te1) (bNot φ) := by
  obtain ⟨pa, ka⟩ := ha
  refine ⟨pt_not pa, ?_⟩
  intro Hk0 H0 env w σ Hk H p b w' e Q q
  obtain ⟨⟨k, w1⟩, e1, e⟩ := map_some e
  cases e
  exact ka _ _ _ _ _ _ _ p _ _ e1 _ fun Hk1 H1 s1 o1 => q Hk1 H1 s1 o1
/-- truth of data; TI: of instances, by their class -/
def tru (ti : Nat → Option Bool) : D → Option Bool
  | .non => some false
  | .bl b => some b
  | .int i => some (i != 0)
  | .str x => if x.length ≤ sizeLine then some ((x.length : Int) != 0) else none
  | .lst l => some (!l.isEmpty)
  | .tup l => some (!l.isEmpty)
  | .scr l => some (!l.isEmpty)
  | .dic _ _ => none
  | .ins k _ => ti k
  | .ob => none
  | .pt _ => none
/-- a truth's rule for values -/
def TrD (X : Cx) (c : Cfg) (r : V → Hp → (Bool → Hp → Prop) → Prop) (ti : Nat → Option Bool) : Prop := TruR X r ∧ ∀ Hk H x d b w, Gd c.Z Hk H → c.B Hk → c.Z.ok w H → Rep c.T Hk d x → tru ti d = some b →
  ∀ Q : Bool → Hp → Prop, (∀ Hk' H', Stp c.Z Hk H Hk' H' → c.Z.ok w H' → Q b H') → r x H Q
def noI : Nat → Option Bool := fun _ => none
theorem isEmpty_rep {T : CT} {H : Hp} {l : List D} {vs : List V} (r : RepL T H l vs) : vs.isEmpty = l.isEmpty := by
  have := r.length
  cases vs <;> cases l <;> simp at this <;> rfl
theorem tru_base_0 (hK : X.K = c.T.K) : TrD X c (fun x H Q => ∃ k, TruV X.K x H k ∧ Q k H) noI := by
  refine ⟨tru_ok, ?_⟩
  intro Hk H x d b w gd _ ow r e Q q
  refine ⟨b, ?_, q Hk H (Stp.refl gd) ow⟩
  rw [hK]
  cases d <;> simp only [tru, Option.some.injEq, noI, reduceCtorEq] at e
  · rw [show x = V.non from r]; exact e.symm
  · rw [show x = V.bl _ from r]; exact e.symm
  · rw [show x = V.int _ from r]; exact e.symm
  · split at e
    · rename_i h; cases e; rw [show x = V.str _ from r]; exact ⟨h, rfl⟩
    · cases e
  · obtain ⟨a, vs, e1, h, r1⟩ := r
    subst e1; subst e
    exact .inr (.inl ⟨vs, ex_t gd.e h, by rw [isEmpty_rep r1]⟩)
  · obtain ⟨a, vs, e1, h, r1⟩ := r
    subst e1; subst e
    exact .inl ⟨vs, SqL.of (gd.e _ _ h), by rw [isEmpty_rep r1]⟩
  · obtain ⟨a, e1, h⟩ := r
    subst e1; subst e
    exact .inl ⟨_, ex_l gd.e h, by rw [List.isEmpty_map]⟩
theorem tru_base (hK : X.K = c.T.K) : TrD X c (fun x H Q => ∃ k, TruV c.T.K x H k ∧ Q k H) noI :=
  hK ▸ tru_base_0 hK
def tTru {W : Type} (ti : Nat → Option Bool) (f : EM W) : TM W := fun env w => (f env w).bind fun p => (tru ti p.1).map fun b => (b, p.2)
theorem dt_truth {r : V → Hp → (Bool → Hp → Prop) → Prop} {ti : Nat → Option Bool} (ht : TrD X c r ti) {a : Expr} {φ : EM c.Z.W} {te1 : TE} (ha : DE X c a te1 φ) (he : ∀ whole, isTrue a X.env whole = (do let v ← whole; standAt a.pos; holding [v] (truthy v)) := by intro _; rfl) : DT X c a (fun σ H Q => te1 σ H fun x H' => r x H' Q) (tTru ti φ) := by
  obtain ⟨p1, k1⟩ := ha
  obtain ⟨hr, hr2⟩ := ht
  refine ⟨pt_truthR p1 hr he, ?_⟩
  intro Hk0 H0 env w σ Hk H p b w' e Q q
  obtain ⟨⟨d, w1⟩, e1, e⟩ := bind_some e
  obtain ⟨b', e2, e⟩ := map_some e
  cases e
  refine k1 _ _ _ _ _ _ _ p _ _ e1 _ fun v Hk1 H1 s1 o1 r1 => ?_
  exact hr2 Hk1 H1 v d b _ s1.g (c.Bm s1.k p.base) o1 r1 e2 Q fun Hk2 H2 s2 o2 => q Hk2 H2 (s1.trans s2) o2
/-- not e, by truth, as a value -/
theorem pe_notR {a : Expr} {ta : TE} {r : V → Hp → (Bool → Hp → Prop) → Prop} {pos : Pos} (ha : PE X a ta) (hr : TruR X r) : PE X (.UnaryOp .Not a pos) (fun σ H Q => ta σ H fun x H' => r x H' fun b H2 => Q (.bl (!b)) H2) := by
  refine ⟨fun pins s σ H Q I h => ?_⟩
  refine PyProof.Rows.UnaryOp_ (thn (ha.run pins s σ H _ I h) fun v s1 ⟨x, H1, I1, r1, q1⟩ => ?_)
  exact PyProof.Rows.not_of (thn (hr pins s1 σ H1 x v (fun c H2 => Q (.bl (!c)) H2) I1 r1 q1) fun c s2 ⟨H2, I2, q2⟩ => ⟨.bl (!c), H2, I2, rfl, q2⟩)
def eNotT {W : Type} (ti : Nat → Option Bool) (f : EM W) : EM W := fun env w => (f env w).bind fun p => (tru ti p.1).map fun b => (.bl (!b), p.2)
theorem de_notT {r : V → Hp → (Bool → Hp → Prop) → Prop} {ti : Nat → Option Bool} (ht : TrD X c r ti) {a : Expr} {φ : EM c.Z.W} {pos : Pos} {te1 : TE} (ha : DE X c a te1 φ) : DE X c (.UnaryOp .Not a pos) (fun σ H Q => te1 σ H fun x H' => r x H' fun b H2 => Q (.bl (!b)) H2) (eNotT ti φ) := by
  obtain ⟨p1, k1⟩ := ha
  obtain ⟨hr, hr2⟩ := ht
  refine ⟨pe_notR p1 hr, ?_⟩
  intro Hk0 H0 env w σ Hk H p b w' e Q q
  obtain ⟨⟨d, w1⟩, e1, e⟩ := bind_some e
  obtain ⟨b', e2, e⟩ := map_some e
  cases e
  refine k1 _ _ _ _ _ _ _ p _ _ e1 _ fun v Hk1 H1 s1 o1 r1 => ?_
  exact hr2 Hk1 H1 v d b' _ s1.g (c.Bm s1.k p.base) o1 r1 e2 _ fun Hk2 H2 s2 o2 => q _ Hk2 H2 (s1.trans s2) o2 rfl
def eIf {W : Type} (t : TM W) (a b : EM W) : EM W := fun env w => (t env w).bind fun p => if p.1 = true then a env p.2 else b env p.2
theorem de_if {t a b : Expr} {χ : TM c.Z.W} {φ ψ : EM c.Z.W} {pos : Pos} {te1 : TT} (ht : DT X c t te1 χ) {te2 : TE} (ha : DE X c a te2 φ) {te3 : TE} (hb : DE X c b te3 ψ) : DE X c (.IfExp t a b pos) (tIf te1 te2 te3) (eIf χ φ ψ) := by
  obtain ⟨pt, kt⟩ := ht
  obtain ⟨pa, ka⟩ := ha
  obtain ⟨pb, kb⟩ := hb
  refine ⟨pe_ifExp pt pa pb, ?_⟩
  intro Hk0 H0 env w σ Hk H p d w' e Q q
  obtain ⟨⟨k, w1⟩, e1, e⟩ := bind_some e
  refine kt _ _ _ _ _ _ _ p _ _ e1 _ fun Hk1 H1 s1 o1 => ?_
  split at e
  · rename_i hk
    rw [if_pos hk]
    exact ka _ _ _ _ _ _ _ (p.step s1 o1) _ _ e Q fun v Hk2 H2 s2 o2 r2 => q v Hk2 H2 (s1.trans s2) o2 r2
  · rename_i hk
    rw [if_neg hk]
    exact kb _ _ _ _ _ _ _ (p.step s1 o1) _ _ e Q fun v Hk2 H2 s2 o2 r2 => q v Hk2 H2 (s1.trans s2) o2 r2

/-! ### subscripts -/
def fIx : D → D → Option D
  | .tup l, .int i => atI l i
  | .lst l, .int i => atI l i
  | .scr ns, .int i => (atI ns i).map .int
  | .str x, .int i => if x.length ≤ sizeLine then (atI x.cps.toList i).map fun s => .str ⟨#[s]⟩ else none
  | _, _ => none
theorem atI_rep {T : CT} {H : Hp} {l : List D} {vs : List V} {i : Int} {d : D} (r : RepL T H l vs) (e : atI l i = some d) : ∃ v, atI vs i = some v ∧ Rep T H d v := by
  unfold atI at e ⊢
  rw [r.length]
  obtain ⟨j, e1, e2⟩ := bind_some e
  rw [e1]
  exact r.get e2
theorem rd_ix (hK : X.K = c.T.K) : RD c (rIx X.K) fIx := by
  intro Hk H x y dx dy d gd rx ry e Q q
  rw [hK]
  cases dx <;> cases dy <;> simp only [fIx, reduceCtorEq] at e
  · split at e
    · rename_i h
      obtain ⟨s, e1, e⟩ := map_some e
      subst e
      exact .inr (.inr ⟨_, _, s, rx, ry, h, e1, q _ _ _ (StpP.refl gd) rfl⟩)
    · cases e
  · obtain ⟨a, vs, e1, h, r1⟩ := rx
    obtain ⟨v, e2, r2⟩ := atI_rep r1 e
    exact .inr (.inl ⟨a, vs, _, v, e1, ry, ex_t gd.e h, e2, q _ _ _ (StpP.refl gd) r2⟩)
  · obtain ⟨a, vs, e1, h, r1⟩ := rx
    obtain ⟨v, e2, r2⟩ := atI_rep r1 e
    exact .inl ⟨a, vs, _, v, e1, ry, SqL.of (gd.e _ _ h), e2, q _ _ _ (StpP.refl gd) r2⟩
  · obtain ⟨a, e1, h⟩ := rx
    obtain ⟨n, e2, e⟩ := map_some e
    subst e
    refine .inl ⟨a, _, _, .int n, e1, ry, ex_l gd.e h, ?_, q _ _ _ (StpP.refl gd) rfl⟩
    unfold atI at e2 ⊢
    obtain ⟨j, e3, e4⟩ := bind_some e2
    rw [List.length_map, e3]
    show (List.map V.int _)[j]? = _
    rw [List.getElem?_map, e4]
    rfl
theorem de_ix_0 (hK : X.K = c.T.K) {a b : Expr} {φ ψ : EM c.Z.W} {pos : Pos} {te1 : TE} (ha : DE X c a te1 φ) {te2 : TE} (hb : DE X c b te2 ψ) (hs : PlainIx b := by exact fun _ _ => rfl) : DE X c (.Subscript a b pos) (tOp (rIx X.K) te1 te2) (eOp fIx φ ψ) := by
  obtain ⟨pa, ka⟩ := ha
  obtain ⟨pb, kb⟩ := hb
  exact ⟨pe_ix ix_seq pa pb hs, eOp_ok (rd_ix hK) ka kb⟩
theorem de_ix (hK : X.K = c.T.K) {a b : Expr} {φ ψ : EM c.Z.W} {pos : Pos} {te1 : TE} (ha : DE X c a te1 φ) {te2 : TE} (hb : DE X c b te2 ψ) (hs : PlainIx b := by exact fun _ _ => rfl) : DE X c (.Subscript a b pos) (tOp (rIx c.T.K) te1 te2) (eOp fIx φ ψ) :=
  hK ▸ de_ix_0 hK ha hb hs
/-- d[k], the key a text or an int -/
def keyD : D → Option Key
  | .int i => some (.inl i)
  | .str x => some (.inr x)
  | _ => none
def lookD (ks : List Key) (l : List D) (k : Key) : Option D := ((ks.zip l).find? fun p => decide (p.1 = k)).map (·.2)
def fGet : D → D → Option D
  | .dic ks l, k => (keyD k).bind fun k => lookD ks l k
  | _, _ => none
theorem keyD_rep {T : CT} {H : Hp} {d : D} {v : V} {k : Key} (h : Rep T H d v) (e : keyD d = some k) : v = kV k := by
  cases d <;> simp only [keyD, reduceCtorEq, Option.some.injEq] at e
  · subst e; exact h
  · subst e; exact h
theorem lookD_rep {T : CT} {H : Hp} {k : Key} : ∀ {ks : List Key} {l : List D} {vs : List V}, RepL T H l vs → ks.length = l.length →
    (∀ d, lookD ks l k = some d → ∃ v, valV (ks.zip vs) k = some v ∧ Rep T H d v) ∧ (lookD ks l k = none → valV (ks.zip vs) k = none)
  | [], _, _, _, _ => ⟨fun d e => by simp [lookD] at e, fun _ => rfl⟩
  | k' :: ks, [], _, _, h => by simp at h
  | k' :: ks, d :: l, _, ⟨v, r, e, h1, h2⟩, hl => by
    subst e
    have ih := lookD_rep (k := k) h2 (by simpa using hl)
    by_cases hk : k' = k
    · subst hk
      refine ⟨fun d' e => ⟨v, by simp [valV], ?_⟩, fun e => by simp [lookD] at e⟩
      have : d = d' := by simpa [lookD] using e
      subst this; exact h1
    · have e1 : lookD (k' :: ks) (d :: l) k = lookD ks l k := by simp [lookD, List.find?_cons, hk]
      have e2 : valV ((k' :: ks).zip (v :: r)) k = valV (ks.zip r) k := by simp [valV, List.find?_cons, hk]
      rw [e1, e2]; exact ih
theorem de_get (hu : X.A.units + 1 < cLine) {a b : Expr} {φ ψ : EM c.Z.W} {pos : Pos} {te1 : TE} (ha : DE X c a te1 φ) {te2 : TE} (hb : DE X c b te2 ψ) (hs : NoSl b := by exact fun _ _ => rfl) : DE X c (.Subscript a b pos) (tDGet te1 te2) (eOp fGet φ ψ) := by
  obtain ⟨pa, ka⟩ := ha
  obtain ⟨pb, kb⟩ := hb
  refine ⟨pe_dget hu pa pb hs, ?_⟩
  intro Hk0 H0 env w σ Hk H p d w' e Q q
  obtain ⟨⟨dx, w1⟩, e1, e⟩ := bind_some e
  obtain ⟨⟨dy, w2⟩, e2, e⟩ := bind_some e
  obtain ⟨d', e3, e⟩ := map_some e
  cases e
  refine ka _ _ _ _ _ _ _ p _ _ e1 _ fun x Hk1 H1 s1 o1 r1 => ?_
  refine kb _ _ _ _ _ _ _ (p.step s1 o1) _ _ e2 _ fun y Hk2 H2 s2 o2 r2 => ?_
  cases dx <;> simp only [fGet, reduceCtorEq] at e3
  obtain ⟨k, e4, e5⟩ := bind_some e3
  obtain ⟨a', oo, vs, ea, ha', hl, rl⟩ := r1.mono s2.k
  obtain ⟨v, ev, rv⟩ := (lookD_rep rl hl).1 d e5
  refine ⟨a', v, ea, ?_, q v Hk2 H2 (s1.trans s2) o2 rv⟩
  rw [keyD_rep r2 e4, ← ev]
  exact .inl ⟨_, k, .inr ⟨oo, s2.g.e _ _ ha'⟩, rfl, rfl⟩
/-- k in d, k not in d -/
def fHas (neg : Bool) : D → D → Option D
  | k, .dic ks l => (keyD k).map fun k => .bl (if neg then !(lookD ks l k).isSome else (lookD ks l k).isSome)
  | _, _ => none
theorem valV_isSome {T : CT} {H : Hp} {k : Key} {ks : List Key} {l : List D} {vs : List V} (r : RepL T H l vs) (h : ks.length = l.length) : (valV (ks.zip vs) k).isSome = (lookD ks l k).isSome := by
  have q := lookD_rep (k := k) r h
  cases e : lookD ks l k with
  | none => rw [q.2 e]; rfl
  | some d => obtain ⟨v, ev, _⟩ := q.1 d e; rw [ev]; rfl
theorem has_ok {neg : Bool} {ta tb : TE} {φ ψ : EM c.Z.W} (ka : EOk c ta φ) (kb : EOk c tb ψ) : EOk c (fun σ H Q => ta σ H fun y H1 => tb σ H1 fun x H2 => ∃ a o, x = .ref a ∧ DGet H2 a y o ∧ Q (.bl (if neg then !o.isSome else o.isSome)) H2) (eOp (fHas neg) φ ψ) := by
  intro Hk0 H0 env w σ Hk H p d w' e Q q
  obtain ⟨⟨dx, w1⟩, e1, e⟩ := bind_some e
  obtain ⟨⟨dy, w2⟩, e2, e⟩ := bind_some e
  obtain ⟨d', e3, e⟩ := map_some e
  cases e
  refine ka _ _ _ _ _ _ _ p _ _ e1 _ fun x Hk1 H1 s1 o1 r1 => ?_
  refine kb _ _ _ _ _ _ _ (p.step s1 o1) _ _ e2 _ fun y Hk2 H2 s2 o2 r2 => ?_
  cases dy <;> simp only [fHas, reduceCtorEq] at e3
  obtain ⟨k, e4, e5⟩ := map_some e3
  subst e5
  obtain ⟨a', oo, vs, ea, ha', hl, rl⟩ := r2
  refine ⟨a', _, ea, by rw [keyD_rep r1 e4]; exact .inl ⟨_, k, .inr ⟨oo, s2.g.e _ _ ha'⟩, rfl, rfl⟩, ?_⟩
  refine q _ Hk2 H2 (s1.trans s2) o2 ?_
  rw [valV_isSome rl hl]
  exact rfl
theorem de_has (hu : X.A.units + 1 < cLine) {a b : Expr} {φ ψ : EM c.Z.W} {pos : Pos} {te1 : TE} (ha : DE X c a te1 φ) {te2 : TE} (hb : DE X c b te2 ψ) (h1 : behindInMarks .In b = false := by rfl) : DE X c (.Compare a [.In] [b] pos) (tDIn te1 te2) (eOp (fHas false) φ ψ) := by
  obtain ⟨pa, ka⟩ := ha
  obtain ⟨pb, kb⟩ := hb
  exact ⟨pe_cmp (pc_din hu pa pb) h1, has_ok (neg := false) ka kb⟩
theorem dt_has (hu : X.A.units + 1 < cLine) {a b : Expr} {φ ψ : EM c.Z.W} {pos : Pos} {te1 : TE} (ha : DE X c a te1 φ) {te2 : TE} (hb : DE X c b te2 ψ) (h1 : behindInMarks .In b = false := by rfl) : DT X c (.Compare a [.In] [b] pos) (tB (tDIn te1 te2)) (tOf (eOp (fHas false) φ ψ)) := by
  obtain ⟨pa, ka⟩ := ha
  obtain ⟨pb, kb⟩ := hb
  exact ⟨pt_cmp (pc_din hu pa pb) h1, tOf_ok (has_ok (neg := false) ka kb)⟩
theorem de_hasNot (hu : X.A.units + 1 < cLine) {a b : Expr} {φ ψ : EM c.Z.W} {pos : Pos} {te1 : TE} (ha : DE X c a te1 φ) {te2 : TE} (hb : DE X c b te2 ψ) (h1 : behindInMarks .NotIn b = false := by rfl) : DE X c (.Compare a [.NotIn] [b] pos) (tDNotIn te1 te2) (eOp (fHas true) φ ψ) := by
  obtain ⟨pa, ka⟩ := ha
  obtain ⟨pb, kb⟩ := hb
  exact ⟨pe_cmp (pc_dnotin hu pa pb) h1, has_ok (neg := true) ka kb⟩
theorem dt_hasNot (hu : X.A.units + 1 < cLine) {a b : Expr} {φ ψ : EM c.Z.W} {pos : Pos} {te1 : TE} (ha : DE X c a te1 φ) {te2 : TE} (hb : DE X c b te2 ψ) (h1 : behindInMarks .NotIn b = false := by rfl) : DT X c (.Compare a [.NotIn] [b] pos) (tB (tDNotIn te1 te2)) (tOf (eOp (fHas true) φ ψ)) := by
  obtain ⟨pa, ka⟩ := ha
  obtain ⟨pb, kb⟩ := hb
  exact ⟨pt_cmp (pc_dnotin hu pa pb) h1, tOf_ok (has_ok (neg := true) ka kb)⟩
end
end DL
set_option Elab.async false
set_option linter.all false
set_option maxRecDepth 100000
set_option maxHeartbeats 4000000
/-! DLd: slices, attributes, built-in functions by values, isinstance. -/
namespace DL
open PySem L2 Evl
section
variable {X : Cx} {c : Cfg}
/-! ### slices -/
abbrev PM (W : Type) := Env' → W → Option (Option Int × W)
def POk (c : Cfg) (t : TO) (φ : PM c.Z.W) : Prop :=
  ∀ Hk0 H0 env w σ Hk H, Pre c Hk0 H0 env w σ Hk H → ∀ o w', φ env w = some (o, w') →
    ∀ Q : Option Int → Hp → Prop, (∀ Hk' H', Stp c.Z Hk H Hk' H' → c.Z.ok w' H' → Q o H') → t σ H Q
structure DP (X : Cx) (c : Cfg) (e : Option Expr) (t : TO) (φ : PM c.Z.W) : Prop where
  p : PO X e t
  k : POk c t φ
def pNone {W : Type} : PM W := fun _ w => some (none, w)
def asI : D → Option Int
  | .int i => some i
  | _ => none
theorem asI_eq {d : D} {i : Int} (h : asI d = some i) : d = .int i := by
  cases d <;> simp only [asI, reduceCtorEq, Option.some.injEq] at h
  rw [h]
def pSome {W : Type} (f : EM W) : PM W := fun env w => (f env w).bind fun p => (asI p.1).map fun i => (some i, p.2)
theorem dp_none : DP X c none tNoPart pNone := by
  refine ⟨po_none, ?_⟩
  intro Hk0 H0 env w σ Hk H p o w' e Q q
  cases e
  exact q Hk H (Stp.refl p.g) p.w
theorem dp_some {e : Expr} {φ : EM c.Z.W} {te1 : TE} (h : DE X c e te1 φ) : DP X c (some e) (tPart te1) (pSome φ) := by
  obtain ⟨p1, k⟩ := h
  refine ⟨po_some p1, ?_⟩
  intro Hk0 H0 env w σ Hk H p o w' e Q q
  obtain ⟨⟨d, w1⟩, e1, e⟩ := bind_some e
  obtain ⟨i, e2, e⟩ := map_some e
  cases e
  refine k _ _ _ _ _ _ _ p _ _ e1 _ fun v Hk1 H1 s1 o1 r1 => ?_
  have e3 : d = .int i := asI_eq e2
  subst e3
  exact ⟨i, r1, q Hk1 H1 s1 o1⟩
def cutL {α : Type} (xs : List α) (lo hi : Option Int) : List α := (xs.drop (HT.sIx xs.length 0 lo)).take (HT.sIx xs.length xs.length hi - HT.sIx xs.length 0 lo)
theorem cutL_rep {T : CT} {H : Hp} {l : List D} {vs : List V} (lo hi : Option Int) (r : RepL T H l vs) : RepL T H (cutL l lo hi) (cutV vs lo hi) := by
  unfold cutL cutV
  rw [r.length]
  exact (r.drop _).take _
def fCut : D → Option Int → Option Int → Option D
  | .lst l, lo, hi => some (.lst (cutL l lo hi))
  | .tup l, lo, hi => some (.tup (cutL l lo hi))
  | _, _, _ => none
def eCut {W : Type} (a : EM W) (lo hi : PM W) : EM W := fun env w => (a env w).bind fun p => (lo env p.2).bind fun q => (hi env q.2).bind fun r => (fCut p.1 q.1 r.1).map fun d => (d, r.2)
theorem cutL_whole {α : Type} {xs : List α} {lo hi : Option Int} (h : HT.sIx xs.length 0 lo = 0 ∧ HT.sIx xs.length xs.length hi = xs.length) : cutL xs lo hi = xs := by
  unfold cutL
  rw [h.1, h.2]
  simp
theorem de_cut_0 (hK : X.K = c.T.K) {a : Expr} {lo hi : Option Expr} {φ : EM c.Z.W} {χ ψ : PM c.Z.W} {p2 pos : Pos} {te1 : TE} (ha : DE X c a te1 φ) {te2 : TO} (hl : DP X c lo te2 χ) {te3 : TO} (hh : DP X c hi te3 ψ) : DE X c (.Subscript a (.Slice lo hi none p2) pos) (tSl (fun x lo hi H Q => rSlL X.K x lo hi H Q ∨ rSlA X.K x lo hi H Q) te1 te2 te3) (eCut φ χ ψ) := by
  obtain ⟨pa, ka⟩ := ha
  obtain ⟨pl, kl⟩ := hl
  obtain ⟨ph, kh⟩ := hh
  refine ⟨pe_slice (sl_list.or sl_tupA) pa pl ph, ?_⟩
  intro Hk0 H0 env w σ Hk H p d w' e Q q
  obtain ⟨⟨dx, w1⟩, e1, e⟩ := bind_some e
  obtain ⟨⟨l, w2⟩, e2, e⟩ := bind_some e
  obtain ⟨⟨u, w3⟩, e3, e⟩ := bind_some e
  obtain ⟨d', e4, e⟩ := map_some e
  cases e
  refine ka _ _ _ _ _ _ _ p _ _ e1 _ fun x Hk1 H1 s1 o1 r1 => ?_
  have p1 := p.step s1 o1
  refine kl _ _ _ _ _ _ _ p1 _ _ e2 _ fun Hk2 H2 s2 o2 => ?_
  have p2 := p1.step s2 o2
  refine kh _ _ _ _ _ _ _ p2 _ _ e3 _ fun Hk3 H3 s3 o3 => ?_
  have r3 := (r1.mono s2.k).mono s3.k
  have s := (s1.trans s2).trans s3
  rw [hK]
  cases dx <;> simp only [fCut, reduceCtorEq, Option.some.injEq] at e4
  · subst e4
    obtain ⟨a', vs, ea, ha', ra⟩ := r3
    subst ea
    refine .inr ⟨a', vs, rfl, ex_t s3.g.e ha', fun hw => ?_, fun _ b hb => ?_⟩
    · refine q _ Hk3 H3 s o3 ⟨a', vs, rfl, ha', ?_⟩
      rw [cutL_whole (by rw [← ra.length]; exact hw)]
      exact ra
    · have s4 := StpP.new (o := .tup (cutV vs l u)) s3.g hb
      exact q _ _ _ (s.trans s4.s) (s4.ok o3) ⟨b, _, rfl, SqT.of upd_same, (cutL_rep l u ra).mono s4.s.k⟩
  · subst e4
    obtain ⟨a', vs, ea, ha', ra⟩ := r3
    subst ea
    refine .inl ⟨a', vs, rfl, SqL.of (s3.g.e _ _ ha'), fun b hb => ?_⟩
    have s4 := StpP.new (o := .lst (cutV vs l u)) s3.g hb
    exact q _ _ _ (s.trans s4.s) (s4.ok o3) ⟨b, _, rfl, upd_same, (cutL_rep l u ra).mono s4.s.k⟩

theorem de_cut (hK : X.K = c.T.K) {a : Expr} {lo hi : Option Expr} {φ : EM c.Z.W} {χ ψ : PM c.Z.W} {p2 pos : Pos} {te1 : TE} (ha : DE X c a te1 φ) {te2 : TO} (hl : DP X c lo te2 χ) {te3 : TO} (hh : DP X c hi te3 ψ) : DE X c (.Subscript a (.Slice lo hi none p2) pos) (tSl (fun x lo hi H Q => rSlL c.T.K x lo hi H Q ∨ rSlA c.T.K x lo hi H Q) te1 te2 te3) (eCut φ χ ψ) :=
  hK ▸ de_cut_0 hK ha hl hh
/-! ### attributes -/
/-- what the text's classes below N must have -/
structure ClsOk (T : CT) (N : Nat) : Prop where
  cl : ∀ k, k < N → Cls T.K (T.ad k)
  no : ∀ k, k < N → ∀ f, f ∈ T.fd k → NoAttr T.K (T.ad k) f
def fldD (N : Nat) (fd : Nat → List Str) (f : Str) : D → Option D
  | .ins k l => if k < N then (((fd k).zip l).lookup f).map nrm else none
  | _ => none
theorem lookup_zip {T : CT} {H : Hp} {f : Str} : ∀ {ks : List Str} {l : List D} {vs : List V} {d : D}, RepL T H l vs → (ks.zip l).lookup f = some d → f ∈ ks ∧ ∃ v, (ks.zip vs).lookup f = some v ∧ Rep T H d v
  | [], _, _, _, _, e => by simp at e
  | k :: ks, [], _, _, _, e => by simp at e
  | k :: ks, x :: l, _, d, ⟨v, r, e1, h1, h2⟩, e => by
    subst e1
    rw [List.zip_cons_cons, List.lookup_cons] at e
    rw [List.zip_cons_cons, List.lookup_cons]
    split at e
    · rename_i hk
      cases e
      exact ⟨by simp only [beq_iff_eq] at hk; rw [hk]; exact List.mem_cons_self, v, rfl, h1⟩
    · rename_i hk
      obtain ⟨m, u, hu, ru⟩ := lookup_zip h2 e
      exact ⟨List.mem_cons_of_mem _ m, u, hu, ru⟩
theorem de_fld_0 {N : Nat} (C : ClsOk c.T N) (hK : X.K = c.T.K) {a : Expr} {f : Str} {φ : EM c.Z.W} {pos : Pos} {te1 : TE} (ha : DE X c a te1 φ) (hb : attributeBase a f X.env (eval a X.env) = eval a X.env := by rfl) : DE X c (.Attribute a f pos) (tFld X.K te1 f) (eUn (fldD N c.T.fd f) φ) := by
  obtain ⟨pa, ka⟩ := ha
  refine ⟨pe_fld pa hb, ?_⟩
  intro Hk0 H0 env w σ Hk H p d w' e Q q
  obtain ⟨⟨dx, w1⟩, e1, e⟩ := bind_some e
  obtain ⟨d', e2, e⟩ := map_some e
  cases e
  refine ka _ _ _ _ _ _ _ p _ _ e1 _ fun x Hk1 H1 s1 o1 r1 => ?_
  have h : ∃ k l d0, dx = .ins k l ∧ k < N ∧ ((c.T.fd k).zip l).lookup f = some d0 ∧ nrm d0 = d := by
    cases dx <;> simp only [fldD, reduceCtorEq] at e2
    split at e2
    · obtain ⟨d0, e4, e5⟩ := map_some e2
      exact ⟨_, _, d0, rfl, by assumption, e4, e5⟩
    · cases e2
  obtain ⟨k, l, d0, rfl, hk, e3, rfl⟩ := h
  obtain ⟨a', dx, vs, ea, hi, hl, rl⟩ := r1
  obtain ⟨m, v, hv, rv⟩ := lookup_zip rl e3
  rw [hK]
  exact ⟨a', _, dx, _, v, ea, s1.g.e _ _ hi, C.cl k hk, C.no k hk f m, hv, q v Hk1 H1 s1 o1 (nrm_rep rv)⟩

theorem de_fld {N : Nat} (C : ClsOk c.T N) (hK : X.K = c.T.K) {a : Expr} {f : Str} {φ : EM c.Z.W} {pos : Pos} {te1 : TE} (ha : DE X c a te1 φ) (hb : attributeBase a f X.env (eval a X.env) = eval a X.env := by rfl) : DE X c (.Attribute a f pos) (tFld c.T.K te1 f) (eUn (fldD N c.T.fd f) φ) :=
  hK ▸ de_fld_0 C hK ha hb
/-! ### built-in functions and types, by values -/
def RCD (c : Cfg) (r : List V → Hp → VK → Prop) (f : List D → Option D) : Prop :=
  ∀ Hk H vs ds d, Gd c.Z Hk H → RepL c.T Hk ds vs → f ds = some d →
    ∀ Q : VK, (∀ v Hk' H', StpP c.Z Hk H Hk' H' → Rep c.T Hk' d v → Q v H') → r vs H Q
/-- .. giving a new list, not yet known -/
def RCL (c : Cfg) (r : List V → Hp → VK → Prop) (f : List D → Option (List D)) : Prop :=
  ∀ Hk H vs ds l, Gd c.Z Hk H → RepL c.T Hk ds vs → f ds = some l →
    ∀ Q : VK, (∀ p us Hk' H', StpP c.Z Hk H Hk' H' → H p = none → Hk' p = none → H' p = some (.lst us) → RepL c.T Hk' l us → Q (.ref p) H') → r vs H Q
def eCall {W : Type} (f : List D → Option D) (a : AM W) : EM W := fun env w => (a env w).bind fun p => (f p.1).map fun d => (d, p.2)
def lCall {W : Type} (f : List D → Option (List D)) (a : AM W) : AM W := fun env w => (a env w).bind fun p => (f p.1).map fun d => (d, p.2)
theorem eCall_ok {r : List V → Hp → VK → Prop} {f : List D → Option D} (hr : RCD c r f) {t : TA} {φ : AM c.Z.W} (h : AOk c t φ) : EOk c (tCB r t) (eCall f φ) := by
  intro Hk0 H0 env w σ Hk H p d w' e Q q
  obtain ⟨⟨l, w1⟩, e1, e⟩ := bind_some e
  obtain ⟨d', e2, e⟩ := map_some e
  cases e
  refine h _ _ _ _ _ _ _ p _ _ e1 _ fun vs Hk1 H1 s1 o1 r1 => ?_
  exact hr Hk1 H1 vs l d s1.g r1 e2 Q fun v Hk2 H2 s2 r2 => q v Hk2 H2 (s1.trans s2.s) (s2.ok o1) r2
theorem lCall_ok {r : List V → Hp → VK → Prop} {f : List D → Option (List D)} (hr : RCL c r f) {t : TA} {φ : AM c.Z.W} (h : AOk c t φ) : LOk c (tCB r t) (lCall f φ) := by
  intro Hk0 H0 env w σ Hk H p d w' e Q q
  obtain ⟨⟨l, w1⟩, e1, e⟩ := bind_some e
  obtain ⟨d', e2, e⟩ := map_some e
  cases e
  refine h _ _ _ _ _ _ _ p _ _ e1 _ fun vs Hk1 H1 s1 o1 r1 => ?_
  refine hr Hk1 H1 vs l d s1.g r1 e2 Q fun a us Hk2 H2 s2 h0 hk h2 r2 => ?_
  refine q a us Hk2 H2 (s1.trans s2.s) (s2.ok o1) ?_ hk h2 r2
  cases z : H a with
  | none => rfl
  | some o =>
    by_cases f : c.Z.FP a
    · exact absurd h0 (s1.g.dm a f)
    · rw [s1.keep a o f z] at h0; cases h0
theorem de_callB {r : List V → Hp → VK → Prop} {f : List D → Option D} {id : String} {x : Str} {e : Expr} {es : List Expr} {φ : AM c.Z.W} {p pos : Pos} (hc : CallR X (.builtin id) r) (hr : RCD c r f) (hg : Gl X x) (hm : X.mg x = none) (hv : bootBuiltins x = some (.builtin id)) {te1 : TA} (ha : DA X c (e :: es) te1 φ)
    (hn : x ≠ "__name__" := by decide) (hdb : (x == ("__debug__" : Str)) = false := by decide)
    (he : starEach (e :: es) X.env = (false, eval e X.env) :: starEach es X.env := by rfl) (hpl : (backTo pos (starEach es X.env)).any (·.1) = false := by rfl) : DE X c (.Call (.Name x p) (e :: es) [] pos) (tCB r te1) (eCall f φ) := by
  obtain ⟨p1, k⟩ := ha
  exact ⟨pe_callB hc hg hm hv p1 hn hdb he hpl, eCall_ok hr k⟩
theorem de_callTy {r : List V → Hp → VK → Prop} {f : List D → Option D} {T : String} {x : Str} {e : Expr} {es : List Expr} {φ : AM c.Z.W} {p pos : Pos} (hc : CallR X (.type T) r) (hr : RCD c r f) (hg : Gl X x) (hm : X.mg x = none) (hv : bootBuiltins x = some (.type T)) {te1 : TA} (ha : DA X c (e :: es) te1 φ)
    (hn : x ≠ "__name__" := by decide) (hdb : (x == ("__debug__" : Str)) = false := by decide)
    (he : starEach (e :: es) X.env = (false, eval e X.env) :: starEach es X.env := by rfl) (hpl : (backTo pos (starEach es X.env)).any (·.1) = false := by rfl) : DE X c (.Call (.Name x p) (e :: es) [] pos) (tCB r te1) (eCall f φ) := by
  obtain ⟨p1, k⟩ := ha
  exact ⟨pe_callTy hc hg hm hv p1 hn hdb he hpl, eCall_ok hr k⟩
theorem dl_callB {r : List V → Hp → VK → Prop} {f : List D → Option (List D)} {id : String} {x : Str} {e : Expr} {es : List Expr} {φ : AM c.Z.W} {p pos : Pos} (hc : CallR X (.builtin id) r) (hr : RCL c r f) (hg : Gl X x) (hm : X.mg x = none) (hv : bootBuiltins x = some (.builtin id)) {te1 : TA} (ha : DA X c (e :: es) te1 φ)
    (hn : x ≠ "__name__" := by decide) (hdb : (x == ("__debug__" : Str)) = false := by decide)
    (he : starEach (e :: es) X.env = (false, eval e X.env) :: starEach es X.env := by rfl) (hpl : (backTo pos (starEach es X.env)).any (·.1) = false := by rfl) : DL' X c (.Call (.Name x p) (e :: es) [] pos) (tCB r te1) (lCall f φ) := by
  obtain ⟨p1, k⟩ := ha
  exact ⟨pe_callB hc hg hm hv p1 hn hdb he hpl, lCall_ok hr k⟩
theorem dl_callTy {r : List V → Hp → VK → Prop} {f : List D → Option (List D)} {T : String} {x : Str} {e : Expr} {es : List Expr} {φ : AM c.Z.W} {p pos : Pos} (hc : CallR X (.type T) r) (hr : RCL c r f) (hg : Gl X x) (hm : X.mg x = none) (hv : bootBuiltins x = some (.type T)) {te1 : TA} (ha : DA X c (e :: es) te1 φ)
    (hn : x ≠ "__name__" := by decide) (hdb : (x == ("__debug__" : Str)) = false := by decide)
    (he : starEach (e :: es) X.env = (false, eval e X.env) :: starEach es X.env := by rfl) (hpl : (backTo pos (starEach es X.env)).any (·.1) = false := by rfl) : DL' X c (.Call (.Name x p) (e :: es) [] pos) (tCB r te1) (lCall f φ) := by
  obtain ⟨p1, k⟩ := ha
  exact ⟨pe_callTy hc hg hm hv p1 hn hdb he hpl, lCall_ok hr k⟩
theorem RepL.one {T : CT} {H : Hp} {d : D} {vs : List V} (h : RepL T H [d] vs) : ∃ v, vs = [v] ∧ Rep T H d v := by
  obtain ⟨v, r, e, h1, h2⟩ := h
  rw [show r = [] from h2] at e
  exact ⟨v, e, h1⟩
theorem RepL.two {T : CT} {H : Hp} {d d' : D} {vs : List V} (h : RepL T H [d, d'] vs) : ∃ v u, vs = [v, u] ∧ Rep T H d v ∧ Rep T H d' u := by
  obtain ⟨v, r, e, h1, h2⟩ := h
  obtain ⟨u, e2, h3⟩ := RepL.one h2
  subst e2
  exact ⟨v, u, e, h1, h3⟩
/-- len -/
def fLen : List D → Option D
  | [.lst l] => some (.int l.length)
  | [.tup l] => some (.int l.length)
  | [.scr l] => some (.int l.length)
  | [.str x] => if x.length ≤ sizeLine then some (.int x.length) else none
  | [.dic ks _] => some (.int ks.length)
  | _ => none
def rLenA (K : PySem.W.Frag) : List V → Hp → VK → Prop := fun xs H Q => (∃ p ys, xs = [.ref p] ∧ (SqL K H p ys ∨ SqT K H p ys) ∧ Q (.int ys.length) H) ∨ (∃ z, xs = [.str z] ∧ z.length ≤ sizeLine ∧ Q (.int z.length) H) ∨
  ∃ d kvs, xs = [.ref d] ∧ Rd H d (.dK kvs) ∧ Q (.int kvs.length) H
theorem call_lenA_0 : CallR X (.builtin "len") (rLenA X.K) := call_len_seq.or (call_len_str.or (fun pins s σ H xs us Q I r h => by
  obtain ⟨d, kvs, rfl, e, q⟩ := h
  obtain ⟨u, rfl, r1⟩ := vals1 r
  cases r1
  exact d_len I e fun t s' I' => ⟨.int kvs.length, H, I', ⟨t, rfl⟩, q⟩))
theorem call_lenA {K : PySem.W.Frag} (hK : X.K = K := by rfl) : CallR X (.builtin "len") (rLenA K) :=
  hK ▸ call_lenA_0 
theorem rc_len (hK : c.T.K = c.T.K) : RCD c (rLenA c.T.K) fLen := by
  intro Hk H vs ds d gd r e Q q
  rw [hK]
  unfold fLen at e
  split at e
  · cases e
    obtain ⟨v, ev, a, us, ea, h, rl⟩ := r.one
    subst ev ea
    exact .inl ⟨a, us, rfl, .inl (SqL.of (gd.e _ _ h)), q _ _ _ (StpP.refl gd) (by rw [rl.length]; rfl)⟩
  · cases e
    obtain ⟨v, ev, a, us, ea, h, rl⟩ := r.one
    subst ev ea
    exact .inl ⟨a, us, rfl, .inr (ex_t gd.e h), q _ _ _ (StpP.refl gd) (by rw [rl.length]; rfl)⟩
  · cases e
    obtain ⟨v, ev, a, ea, h⟩ := r.one
    subst ev ea
    exact .inl ⟨a, _, rfl, .inl (ex_l gd.e h), q _ _ _ (StpP.refl gd) (by rw [List.length_map]; rfl)⟩
  · split at e
    · rename_i hl
      cases e
      obtain ⟨v, ev, ea⟩ := r.one
      subst ev
      exact .inr (.inl ⟨_, by rw [show v = V.str _ from ea], hl, q _ _ _ (StpP.refl gd) rfl⟩)
    · cases e
  · cases e
    rename_i ks l
    obtain ⟨v, ev, a, oo, us, ea, h, hl, rl⟩ := r.one
    subst ev ea
    refine .inr (.inr ⟨a, _, rfl, .inr ⟨oo, gd.e _ _ h⟩, q _ _ _ (StpP.refl gd) ?_⟩)
    have := rl.length
    rw [List.length_zip, Nat.min_eq_left (by omega)]
    rfl
  · cases e
/-! lists of bools, of numbers, of texts -/
def asBls : List D → Option (List Bool)
  | [] => some []
  | .bl b :: l => (asBls l).map (b :: ·)
  | _ => none
def asInts : List D → Option (List Int)
  | [] => some []
  | .int b :: l => (asInts l).map (b :: ·)
  | _ => none
def asStrs : List D → Option (List Str)
  | [] => some []
  | .str b :: l => (asStrs l).map (b :: ·)
  | _ => none
theorem bls_eq : ∀ {l : List D} {bs : List Bool}, asBls l = some bs → l = bs.map .bl
  | [], _, e => by cases e; rfl
  | .bl b :: l, bs, e => by
    obtain ⟨r, e1, e2⟩ := map_some (show (asBls l).map (b :: ·) = some bs from e)
    subst e2
    rw [List.map_cons, ← bls_eq e1]
  | .non :: _, _, e => by cases e
  | .int _ :: _, _, e => by cases e
  | .str _ :: _, _, e => by cases e
  | .tup _ :: _, _, e => by cases e
  | .lst _ :: _, _, e => by cases e
  | .scr _ :: _, _, e => by cases e
  | .dic _ _ :: _, _, e => by cases e
  | .ins _ _ :: _, _, e => by cases e
theorem ints_eq : ∀ {l : List D} {bs : List Int}, asInts l = some bs → l = bs.map .int
  | [], _, e => by cases e; rfl
  | .int b :: l, bs, e => by
    obtain ⟨r, e1, e2⟩ := map_some (show (asInts l).map (b :: ·) = some bs from e)
    subst e2
    rw [List.map_cons, ← ints_eq e1]
  | .non :: _, _, e => by cases e
  | .bl _ :: _, _, e => by cases e
  | .str _ :: _, _, e => by cases e
  | .tup _ :: _, _, e => by cases e
  | .lst _ :: _, _, e => by cases e
  | .scr _ :: _, _, e => by cases e
  | .dic _ _ :: _, _, e => by cases e
  | .ins _ _ :: _, _, e => by cases e
theorem strs_eq : ∀ {l : List D} {bs : List Str}, asStrs l = some bs → l = bs.map .str
  | [], _, e => by cases e; rfl
  | .str b :: l, bs, e => by
    obtain ⟨r, e1, e2⟩ := map_some (show (asStrs l).map (b :: ·) = some bs from e)
    subst e2
    rw [List.map_cons, ← strs_eq e1]
  | .non :: _, _, e => by cases e
  | .bl _ :: _, _, e => by cases e
  | .int _ :: _, _, e => by cases e
  | .tup _ :: _, _, e => by cases e
  | .lst _ :: _, _, e => by cases e
  | .scr _ :: _, _, e => by cases e
  | .dic _ _ :: _, _, e => by cases e
  | .ins _ _ :: _, _, e => by cases e
@[simp] theorem bls_map : ∀ bs : List Bool, asBls (bs.map .bl) = some bs
  | [] => rfl
  | b :: r => by rw [List.map_cons]; show (asBls (r.map .bl)).map (b :: ·) = _; rw [bls_map r]; rfl
@[simp] theorem ints_map : ∀ bs : List Int, asInts (bs.map .int) = some bs
  | [] => rfl
  | b :: r => by rw [List.map_cons]; show (asInts (r.map .int)).map (b :: ·) = _; rw [ints_map r]; rfl
@[simp] theorem strs_map : ∀ bs : List Str, asStrs (bs.map .str) = some bs
  | [] => rfl
  | b :: r => by rw [List.map_cons]; show (asStrs (r.map .str)).map (b :: ·) = _; rw [strs_map r]; rfl
theorem reps_bl {T : CT} {H : Hp} : ∀ {bs : List Bool} {vs : List V}, RepL T H (bs.map .bl) vs → vs = bs.map V.bl
  | [], _, h => h
  | b :: r, _, ⟨v, us, e, h1, h2⟩ => by subst e; rw [show v = V.bl b from h1, reps_bl h2]; rfl
theorem reps_int {T : CT} {H : Hp} : ∀ {bs : List Int} {vs : List V}, RepL T H (bs.map .int) vs → vs = bs.map V.int
  | [], _, h => h
  | b :: r, _, ⟨v, us, e, h1, h2⟩ => by subst e; rw [show v = V.int b from h1, reps_int h2]; rfl
theorem reps_str {T : CT} {H : Hp} : ∀ {bs : List Str} {vs : List V}, RepL T H (bs.map .str) vs → vs = bs.map V.str
  | [], _, h => h
  | b :: r, _, ⟨v, us, e, h1, h2⟩ => by subst e; rw [show v = V.str b from h1, reps_str h2]; rfl
theorem strs_reps {T : CT} {H : Hp} : ∀ (bs : List Str), RepL T H (bs.map .str) (bs.map V.str)
  | [] => rfl
  | b :: r => ⟨_, _, rfl, rfl, strs_reps r⟩
def fAny : List D → Option D
  | [.lst l] => (asBls l).map fun bs => .bl (bs.any id)
  | _ => none
def fAll : List D → Option D
  | [.lst l] => (asBls l).map fun bs => .bl (bs.all id)
  | _ => none
def fSum : List D → Option D
  | [.lst l] => (asInts l).map fun bs => .int bs.sum
  | _ => none
theorem rc_any (hK : c.T.K = c.T.K) : RCD c (rAny c.T.K) fAny := by
  intro Hk H vs ds d gd r e Q q
  rw [hK]
  unfold fAny at e
  split at e
  · obtain ⟨bs, e1, e⟩ := map_some e
    cases e
    obtain ⟨v, ev, a, us, ea, h, rl⟩ := r.one
    subst ev ea
    have := bls_eq e1
    subst this
    have := reps_bl rl
    subst this
    exact ⟨a, bs, rfl, SqL.of (gd.e _ _ h), q _ _ _ (StpP.refl gd) rfl⟩
  · cases e
theorem rc_all (hK : c.T.K = c.T.K) : RCD c (rAll c.T.K) fAll := by
  intro Hk H vs ds d gd r e Q q
  rw [hK]
  unfold fAll at e
  split at e
  · obtain ⟨bs, e1, e⟩ := map_some e
    cases e
    obtain ⟨v, ev, a, us, ea, h, rl⟩ := r.one
    subst ev ea
    have := bls_eq e1
    subst this
    have := reps_bl rl
    subst this
    exact ⟨a, bs, rfl, SqL.of (gd.e _ _ h), q _ _ _ (StpP.refl gd) rfl⟩
  · cases e
theorem rc_sum (hK : c.T.K = c.T.K) : RCD c (rSum c.T.K) fSum := by
  intro Hk H vs ds d gd r e Q q
  rw [hK]
  unfold fSum at e
  split at e
  · obtain ⟨bs, e1, e⟩ := map_some e
    cases e
    obtain ⟨v, ev, a, us, ea, h, rl⟩ := r.one
    subst ev ea
    have := ints_eq e1
    subst this
    have := reps_int rl
    subst this
    exact ⟨a, bs, rfl, SqL.of (gd.e _ _ h), q _ _ _ (StpP.refl gd) rfl⟩
  · cases e
/-- list(..), tuple(..) of a list, a tuple -/
def lList : List D → Option (List D)
  | [.lst l] => some l
  | [.tup l] => some l
  | _ => none
theorem hk_none {Z : Wo} {Hk H : Hp} (g : Gd Z Hk H) {p : Addr} (h : H p = none) : Hk p = none := by
  cases e : Hk p with
  | none => rfl
  | some o => rw [g.e p o e] at h; cases h
theorem rc_list (hK : c.T.K = c.T.K) : RCL c (fun xs H Q => ∃ p ys, xs = [.ref p] ∧ (SqL c.T.K H p ys ∨ SqT c.T.K H p ys) ∧ ∀ l, H l = none → Q (.ref l) (upd H l (.lst ys))) lList := by
  intro Hk H vs ds d gd r e Q q
  rw [hK]
  unfold lList at e
  split at e
  · cases e
    obtain ⟨v, ev, a, us, ea, h, rl⟩ := r.one
    subst ev ea
    exact ⟨a, us, rfl, .inl (SqL.of (gd.e _ _ h)), fun p hp => q p us Hk _ (StpP.own gd hp) hp (hk_none gd hp) upd_same rl⟩
  · cases e
    obtain ⟨v, ev, a, us, ea, h, rl⟩ := r.one
    subst ev ea
    exact ⟨a, us, rfl, .inr (ex_t gd.e h), fun p hp => q p us Hk _ (StpP.own gd hp) hp (hk_none gd hp) upd_same rl⟩
  · cases e
def fTuple : List D → Option D
  | [.lst l] => some (.tup l)
  | [.tup l] => some (.tup l)
  | _ => none
theorem rc_tuple (hK : c.T.K = c.T.K) : RCD c (fun xs H Q => ∃ p ys, xs = [.ref p] ∧ ((SqL c.T.K H p ys ∧ ∀ l, H l = none → Q (.ref l) (upd H l (.tup ys))) ∨ (SqT c.T.K H p ys ∧ Q (.ref p) H))) fTuple := by
  intro Hk H vs ds d gd r e Q q
  rw [hK]
  unfold fTuple at e
  split at e
  · cases e
    obtain ⟨v, ev, a, us, ea, h, rl⟩ := r.one
    subst ev ea
    refine ⟨a, us, rfl, .inl ⟨SqL.of (gd.e _ _ h), fun p hp => ?_⟩⟩
    have s := StpP.new (o := .tup us) gd hp
    exact q _ _ _ s ⟨p, us, rfl, SqT.of upd_same, rl.mono s.s.k⟩
  · cases e
    obtain ⟨v, ev, a, us, ea, h, rl⟩ := r.one
    subst ev ea
    exact ⟨a, us, rfl, .inr ⟨ex_t gd.e h, q _ _ _ (StpP.refl gd) ⟨a, us, rfl, h, rl⟩⟩⟩
  · cases e
/-- min, max of two asInts, of a list of asInts -/
def minI : List Int → Option Int
  | [] => none
  | n :: r => some (r.foldl (fun a b => if b < a then b else a) n)
def maxI : List Int → Option Int
  | [] => none
  | n :: r => some (r.foldl (fun a b => if a < b then b else a) n)
theorem minI_spec : ∀ (r : List Int) (n : Int), (r.foldl (fun a b => if b < a then b else a) n) ∈ n :: r ∧ ∀ y ∈ n :: r, r.foldl (fun a b => if b < a then b else a) n ≤ y
  | [], n => ⟨by simp, fun y h => by simp at h; subst h; exact Int.le_refl _⟩
  | m :: r, n => by
    rw [List.foldl_cons]
    by_cases h : m < n
    · rw [if_pos h]
      obtain ⟨h1, h2⟩ := minI_spec r m
      refine ⟨by simp only [List.mem_cons] at h1 ⊢; exact .inr h1, fun y hy => ?_⟩
      rcases List.mem_cons.mp hy with e | hy
      · subst e; have := h2 m List.mem_cons_self; omega
      · exact h2 y hy
    · rw [if_neg h]
      obtain ⟨h1, h2⟩ := minI_spec r n
      refine ⟨by simp only [List.mem_cons] at h1 ⊢; rcases h1 with h1 | h1; exact .inl h1; exact .inr (.inr h1), fun y hy => ?_⟩
      rcases List.mem_cons.mp hy with e | hy
      · subst e; exact h2 _ List.mem_cons_self
      · rcases List.mem_cons.mp hy with e | hy
        · subst e; have := h2 n List.mem_cons_self; omega
        · exact h2 y (List.mem_cons_of_mem _ hy)
theorem maxI_spec : ∀ (r : List Int) (n : Int), (r.foldl (fun a b => if a < b then b else a) n) ∈ n :: r ∧ ∀ y ∈ n :: r, y ≤ r.foldl (fun a b => if a < b then b else a) n
  | [], n => ⟨by simp, fun y h => by simp at h; subst h; exact Int.le_refl _⟩
  | m :: r, n => by
    rw [List.foldl_cons]
    by_cases h : n < m
    · rw [if_pos h]
      obtain ⟨h1, h2⟩ := maxI_spec r m
      refine ⟨by simp only [List.mem_cons] at h1 ⊢; exact .inr h1, fun y hy => ?_⟩
      rcases List.mem_cons.mp hy with e | hy
      · subst e; have := h2 m List.mem_cons_self; omega
      · exact h2 y hy
    · rw [if_neg h]
      obtain ⟨h1, h2⟩ := maxI_spec r n
      refine ⟨by simp only [List.mem_cons] at h1 ⊢; rcases h1 with h1 | h1; exact .inl h1; exact .inr (.inr h1), fun y hy => ?_⟩
      rcases List.mem_cons.mp hy with e | hy
      · subst e; exact h2 _ List.mem_cons_self
      · rcases List.mem_cons.mp hy with e | hy
        · subst e; have := h2 n List.mem_cons_self; omega
        · exact h2 y (List.mem_cons_of_mem _ hy)
def fMin : List D → Option D
  | [.int i, .int j] => some (.int (if j < i then j else i))
  | [.lst l] => (asInts l).bind fun ns => (minI ns).map .int
  | _ => none
def fMax : List D → Option D
  | [.int i, .int j] => some (.int (if j > i then j else i))
  | [.lst l] => (asInts l).bind fun ns => (maxI ns).map .int
  | _ => none
def rMin2 : List V → Hp → VK → Prop := fun xs H Q => ∃ i j, xs = [.int i, .int j] ∧ Q (.int (if j < i then j else i)) H
def rMax2' : List V → Hp → VK → Prop := fun xs H Q => ∃ i j, xs = [.int i, .int j] ∧ Q (.int (if j > i then j else i)) H
def rMinA (K : PySem.W.Frag) : List V → Hp → VK → Prop := fun xs H Q => rMin2 xs H Q ∨ L2.rMin K xs H Q
def rMaxA (K : PySem.W.Frag) : List V → Hp → VK → Prop := fun xs H Q => rMax2' xs H Q ∨ L2.rMax K xs H Q
theorem call_minA_0 (hc : X.calm = true) : CallR X (.builtin "min") (rMinA X.K) := (call_min2 hc).or (cr_min hc)
theorem call_minA {K : PySem.W.Frag} (hc : X.calm = true) (hK : X.K = K := by rfl) : CallR X (.builtin "min") (rMinA K) :=
  hK ▸ call_minA_0 hc
theorem call_maxA_0 (hc : X.calm = true) : CallR X (.builtin "max") (rMaxA X.K) := (call_max2 hc).or (cr_max hc)
theorem call_maxA {K : PySem.W.Frag} (hc : X.calm = true) (hK : X.K = K := by rfl) : CallR X (.builtin "max") (rMaxA K) :=
  hK ▸ call_maxA_0 hc
theorem rc_min (hK : c.T.K = c.T.K) : RCD c (rMinA c.T.K) fMin := by
  intro Hk H vs ds d gd r e Q q
  rw [hK]
  unfold fMin at e
  split at e
  · cases e
    obtain ⟨v, u, ev, h1, h2⟩ := r.two
    exact .inl ⟨_, _, by rw [ev, show v = V.int _ from h1, show u = V.int _ from h2], q _ _ _ (StpP.refl gd) rfl⟩
  · obtain ⟨ns, e1, e⟩ := bind_some e
    obtain ⟨m, e2, e⟩ := map_some e
    cases e
    obtain ⟨v, ev, a, us, ea, h, rl⟩ := r.one
    subst ev ea
    have := ints_eq e1
    subst this
    have := reps_int rl
    subst this
    cases ns with
    | nil => cases e2
    | cons n ns =>
      cases e2
      refine .inr ⟨a, n :: ns, rfl, SqL.of (gd.e _ _ h), by simp, fun m hm hle => ?_⟩
      obtain ⟨s1, s2⟩ := minI_spec ns n
      have : m = ns.foldl (fun a b => if b < a then b else a) n := Int.le_antisymm (hle _ s1) (s2 _ hm)
      exact q _ _ _ (StpP.refl gd) (by rw [this]; rfl)
  · cases e
theorem rc_max (hK : c.T.K = c.T.K) : RCD c (rMaxA c.T.K) fMax := by
  intro Hk H vs ds d gd r e Q q
  rw [hK]
  unfold fMax at e
  split at e
  · cases e
    obtain ⟨v, u, ev, h1, h2⟩ := r.two
    exact .inl ⟨_, _, by rw [ev, show v = V.int _ from h1, show u = V.int _ from h2], q _ _ _ (StpP.refl gd) rfl⟩
  · obtain ⟨ns, e1, e⟩ := bind_some e
    obtain ⟨m, e2, e⟩ := map_some e
    cases e
    obtain ⟨v, ev, a, us, ea, h, rl⟩ := r.one
    subst ev ea
    have := ints_eq e1
    subst this
    have := reps_int rl
    subst this
    cases ns with
    | nil => cases e2
    | cons n ns =>
      cases e2
      refine .inr ⟨a, n :: ns, rfl, SqL.of (gd.e _ _ h), by simp, fun m hm hle => ?_⟩
      obtain ⟨s1, s2⟩ := maxI_spec ns n
      have : m = ns.foldl (fun a b => if a < b then b else a) n := Int.le_antisymm (s2 _ hm) (hle _ s1)
      exact q _ _ _ (StpP.refl gd) (by rw [this]; rfl)
  · cases e
/-- int(n), int(flag); str(n) -/
def fInt : List D → Option D
  | [.int i] => some (.int i)
  | [.bl b] => some (.int (if b then 1 else 0))
  | _ => none
theorem rc_int : RCD c (fun xs H Q => (∃ i, xs = [.int i] ∧ Q (.int i) H) ∨ ∃ k, xs = [.bl k] ∧ Q (.int (if k then 1 else 0)) H) fInt := by
  intro Hk H vs ds d gd r e Q q
  unfold fInt at e
  split at e
  · cases e
    obtain ⟨v, ev, h⟩ := r.one
    exact .inl ⟨_, by rw [ev, show v = V.int _ from h], q _ _ _ (StpP.refl gd) rfl⟩
  · cases e
    obtain ⟨v, ev, h⟩ := r.one
    exact .inr ⟨_, by rw [ev, show v = V.bl _ from h], q _ _ _ (StpP.refl gd) rfl⟩
  · cases e
def fStr : List D → Option D
  | [.int i] => if i.natAbs.log2 < 1920 then some (.str (toString i)) else none
  | _ => none
theorem rc_str : RCD c (fun xs H Q => ∃ i, xs = [.int i] ∧ i.natAbs.log2 < 1920 ∧ Q (.str (toString i)) H) fStr := by
  intro Hk H vs ds d gd r e Q q
  unfold fStr at e
  split at e
  · split at e
    · rename_i hl
      cases e
      obtain ⟨v, ev, h⟩ := r.one
      exact ⟨_, by rw [ev, show v = V.int _ from h], hl, q _ _ _ (StpP.refl gd) rfl⟩
    · cases e
  · cases e
end
end DL
set_option Elab.async false
set_option linter.all false
set_option maxRecDepth 100000
set_option maxHeartbeats 4000000
/-! DLe: targets, what is walked, list comprehensions. -/
namespace DL
open PySem L2 Evl
/-! ### slots set, wiped -/
def wipeE (env : Env') : List Nat → Env'
  | [] => env
  | v :: vs => (wipeE env vs).set v .un
theorem wipeE_length (env : Env') : ∀ vs : List Nat, (wipeE env vs).length = env.length
  | [] => rfl
  | v :: vs => by unfold wipeE; rw [List.length_set, wipeE_length env vs]
theorem wipe_get (σ : L2.St) (j : Nat) : ∀ vs : List Nat, (wipe σ vs)[j]? = if j ∈ vs ∧ j < σ.length then some none else σ[j]?
  | [] => by simp [wipe]
  | v :: vs => by
    unfold wipe
    by_cases h : v = j
    · subst h
      by_cases hl : v < σ.length
      · rw [List.getElem?_set_self (by rw [wipe_length]; exact hl), if_pos ⟨List.mem_cons_self, hl⟩]
      · rw [List.getElem?_eq_none (by rw [List.length_set, wipe_length]; omega), if_neg (fun z => hl z.2), List.getElem?_eq_none (by omega)]
    · rw [List.getElem?_set_ne h, wipe_get σ j vs]
      by_cases hm : j ∈ vs ∧ j < σ.length
      · rw [if_pos hm, if_pos ⟨List.mem_cons_of_mem _ hm.1, hm.2⟩]
      · rw [if_neg hm, if_neg (fun z => hm ⟨(List.mem_cons.mp z.1).resolve_left (fun e => h e.symm), z.2⟩)]
theorem wipeE_get (env : Env') (j : Nat) : ∀ vs : List Nat, (wipeE env vs)[j]? = if j ∈ vs ∧ j < env.length then some .un else env[j]?
  | [] => by simp [wipeE]
  | v :: vs => by
    unfold wipeE
    by_cases h : v = j
    · subst h
      by_cases hl : v < env.length
      · rw [List.getElem?_set_self (by rw [wipeE_length]; exact hl), if_pos ⟨List.mem_cons_self, hl⟩]
      · rw [List.getElem?_eq_none (by rw [List.length_set, wipeE_length]; omega), if_neg (fun z => hl z.2), List.getElem?_eq_none (by omega)]
    · rw [List.getElem?_set_ne h, wipeE_get env j vs]
      by_cases hm : j ∈ vs ∧ j < env.length
      · rw [if_pos hm, if_pos ⟨List.mem_cons_of_mem _ hm.1, hm.2⟩]
      · rw [if_neg hm, if_neg (fun z => hm ⟨(List.mem_cons.mp z.1).resolve_left (fun e => h e.symm), z.2⟩)]
theorem wipe_wipe (σ : L2.St) (vs : List Nat) : wipe (wipe σ vs) vs = wipe σ vs := by
  apply List.ext_getElem?
  intro j
  rw [wipe_get, wipe_length]
  by_cases h : j ∈ vs ∧ j < σ.length
  · rw [if_pos h, wipe_get, if_pos h]
  · rw [if_neg h]
theorem wipe_set {σ : L2.St} {i : Nat} {x : Option V} {vs : List Nat} (h : i ∈ vs) : wipe (σ.set i x) vs = wipe σ vs := by
  apply List.ext_getElem?
  intro j
  rw [wipe_get, wipe_get, List.length_set]
  by_cases hj : j ∈ vs ∧ j < σ.length
  · rw [if_pos hj, if_pos hj]
  · rw [if_neg hj, if_neg hj]
    by_cases e : i = j
    · subst e
      have : ¬ i < σ.length := fun z => hj ⟨h, z⟩
      rw [List.getElem?_eq_none (by rw [List.length_set]; omega), List.getElem?_eq_none (by omega)]
    · rw [List.getElem?_set_ne e]
section
variable {c : Cfg} {Hk0 H0 Hk H Hk1 H1 : Hp} {env : Env'} {w w1 : c.Z.W} {σ : L2.St}
theorem Pre.wipe (p : Pre c Hk0 H0 env w σ Hk H) (vs : List Nat) : Pre c Hk0 H0 (wipeE env vs) w (wipe σ vs) Hk H where
  k := p.k
  base := p.base
  g := p.g
  new := p.new
  keep := p.keep
  self := p.self
  w := p.w
  len := by rw [wipeE_length, wipe_length]; exact p.len
  sl := fun i s e => by
    rw [wipeE_get] at e
    rw [wipe_get]
    by_cases h : i ∈ vs ∧ i < env.length
    · rw [if_pos h] at e
      cases e
      trivial
    · rw [if_neg h] at e
      rw [if_neg (fun z => h ⟨z.1, by rw [p.len]; exact z.2⟩)]
      exact p.sl i s e
  ap := fun i j q s t hij e1 e2 m1 m2 h => by
    rw [wipeE_get] at e1 e2
    rw [wipe_get] at h ⊢
    by_cases hi : i ∈ vs ∧ i < env.length
    · rw [if_pos hi] at e1; cases e1; cases m1
    · by_cases hj : j ∈ vs ∧ j < env.length
      · rw [if_pos hj] at e2; cases e2; cases m2
      · rw [if_neg hi] at e1
        rw [if_neg hj] at e2
        rw [if_neg (fun z => hi ⟨z.1, by rw [p.len]; exact z.2⟩)] at h
        rw [if_neg (fun z => hj ⟨z.1, by rw [p.len]; exact z.2⟩)]
        exact p.ap i j q s t hij e1 e2 m1 m2 h
/-- a slot gets data -/
theorem Pre.set (p : Pre c Hk0 H0 env w σ Hk H) (i : Nat) {d : D} {v : V} (r : Rep c.T Hk d v) : Pre c Hk0 H0 (env.set i (.val d)) w (σ.set i (some v)) Hk H where
  k := p.k
  base := p.base
  g := p.g
  new := p.new
  keep := p.keep
  self := p.self
  w := p.w
  len := by rw [List.length_set, List.length_set]; exact p.len
  sl := fun j s e => by
    by_cases h : i = j
    · subst h
      by_cases hl : i < env.length
      · rw [List.getElem?_set_self hl] at e
        cases e
        rw [List.getElem?_set_self (by rw [← p.len]; exact hl)]
        exact ⟨v, rfl, r⟩
      · rw [List.getElem?_eq_none (by rw [List.length_set]; omega)] at e; cases e
    · rw [List.getElem?_set_ne h] at e ⊢
      exact p.sl j s e
  ap := fun a b q s t hab e1 e2 m1 m2 h => by
    by_cases ha : i = a
    · subst ha
      by_cases hl : i < env.length
      · rw [List.getElem?_set_self hl] at e1; cases e1; cases m1
      · rw [List.getElem?_eq_none (by rw [List.length_set]; omega)] at e1; cases e1
    · by_cases hb : i = b
      · subst hb
        by_cases hl : i < env.length
        · rw [List.getElem?_set_self hl] at e2; cases e2; cases m2
        · rw [List.getElem?_eq_none (by rw [List.length_set]; omega)] at e2; cases e2
      · rw [List.getElem?_set_ne ha] at e1 h
        rw [List.getElem?_set_ne hb] at e2 ⊢
        exact p.ap a b q s t hab e1 e2 m1 m2 h
end

/-! ### targets -/
abbrev GM := D → Env' → Option Env'
abbrev GMs := List D → Env' → Option Env'
def GOk (c : Cfg) (g : TG) (γ : GM) (ts : List Nat) : Prop :=
  ∀ Hk0 H0 env w σ Hk H, Pre c Hk0 H0 env w σ Hk H → ∀ d v env', Rep c.T Hk d v → γ d env = some env' →
    ∀ Q : L2.St → Hp → Prop, (∀ σ', Pre c Hk0 H0 env' w σ' Hk H → (∀ vs, (∀ i ∈ ts, i ∈ vs) → wipe σ' vs = wipe σ vs) → Q σ' H) → g v σ H Q
def GsOk (c : Cfg) (g : TGs) (γ : GMs) (ts : List Nat) : Prop :=
  ∀ Hk0 H0 env w σ Hk H, Pre c Hk0 H0 env w σ Hk H → ∀ l vs env', RepL c.T Hk l vs → γ l env = some env' →
    ∀ Q : L2.St → Hp → Prop, (∀ σ', Pre c Hk0 H0 env' w σ' Hk H → (∀ us, (∀ i ∈ ts, i ∈ us) → wipe σ' us = wipe σ us) → Q σ' H) → g vs σ H Q
structure DG (X : Cx) (c : Cfg) (tg : Expr) (g : TG) (γ : GM) (ts : List Nat) : Prop where
  p : PG X tg g
  k : GOk c g γ ts
structure DGs (X : Cx) (c : Cfg) (tgs : List Expr) (g : TGs) (γ : GMs) (ts : List Nat) : Prop where
  p : PGs X tgs g
  k : GsOk c g γ ts
def gmName (i : Nat) : GM := fun d env => some (env.set i (.val d))
def gmNil : GMs := fun l env => if l.isEmpty then some env else none
def gmCons (γ : GM) (δ : GMs) : GMs
  | d :: l, env => (γ d env).bind fun env => δ l env
  | [], _ => none
def gmTup (n : Nat) (γ : GMs) : GM
  | .tup l, env => if l.length = n then γ l env else none
  | _, _ => none
section
variable {X : Cx} {c : Cfg}
theorem dg_name (i : Nat) {x : Str} {pos : Pos} (hN : X.N.Nodup) (hi : X.N[i]? = some x := by rfl) (hx : Loc X.env.scope x := by first | exact Or.inl rfl | exact Or.inr rfl) (hf : X.fn x = true ∨ X.env.scope.names.lookup x = some .local := by first | exact .inl rfl | exact .inr rfl | assumption) :
    DG X c (.Name x pos) (gName i) (gmName i) [i] := by
  refine ⟨pg_name hN hi hx hf, ?_⟩
  intro Hk0 H0 env w σ Hk H p d v env' r e Q q
  cases e
  exact q _ (p.set i r) fun vs h => wipe_set (h i (by simp))
theorem dgs_nil : DGs X c [] gNil gmNil [] := by
  refine ⟨pgs_nil, ?_⟩
  intro Hk0 H0 env w σ Hk H p l vs env' r e Q q
  unfold gmNil at e
  split at e
  · rename_i h
    cases e
    have hl : l = [] := List.isEmpty_iff.mp h
    subst hl
    exact ⟨r, q σ p fun _ _ => rfl⟩
  · cases e
theorem dgs_cons {e : Expr} {es : List Expr} {g : TG} {gs : TGs} {γ : GM} {δ : GMs} {ts us : List Nat} (h1 : DG X c e g γ ts) (h2 : DGs X c es gs δ us)
    (hs : (assignEach (e :: es) X.env).map (·.2) = assign e X.env :: (assignEach es X.env).map (·.2) := by rfl) : DGs X c (e :: es) (gCons g gs) (gmCons γ δ) (ts ++ us) := by
  refine ⟨pgs_cons h1.p h2.p hs, ?_⟩
  intro Hk0 H0 env w σ Hk H p l vs env' r e Q q
  cases l with
  | nil => cases e
  | cons d l =>
    obtain ⟨env1, e1, e2⟩ := bind_some (show (γ d env).bind (fun env => δ l env) = some env' from e)
    obtain ⟨v, us', ev, rv, rs⟩ := r
    refine ⟨v, us', ev, h1.k _ _ _ _ _ _ _ p d v env1 rv e1 _ fun σ1 p1 w1 => ?_⟩
    refine h2.k _ _ _ _ _ _ _ p1 l us' env' rs e2 _ fun σ2 p2 w2 => q σ2 p2 fun vs h => ?_
    rw [w2 vs fun i hi => h i (List.mem_append_right _ hi), w1 vs fun i hi => h i (List.mem_append_left _ hi)]
theorem dg_tup_0 {es : List Expr} {k : Nat} {pos : Pos} {gs : TGs} {γ : GMs} {ts : List Nat} {n : Nat} (hK : X.K = c.T.K) (hc : X.calm = true) (h : DGs X c es gs γ ts)
    (hn : (assignEach es X.env).length = n := by rfl) (hst : (assignEach es X.env).findIdx? (·.1) = none := by rfl) : DG X c (.Tuple es k pos) (gTup X.K n gs) (gmTup n γ) ts := by
  refine ⟨pg_tup hc h.p hn hst, ?_⟩
  intro Hk0 H0 env w σ Hk H p d v env' r e Q q
  have h' : ∃ l, d = .tup l ∧ l.length = n ∧ γ l env = some env' := by
    cases d <;> simp only [gmTup, reduceCtorEq] at e
    split at e
    · exact ⟨_, rfl, by assumption, e⟩
    · cases e
  obtain ⟨l, rfl, hl, e1⟩ := h'
  obtain ⟨a, vs, ev, hs, rl⟩ := r
  subst ev
  rw [hK]
  exact ⟨a, vs, rfl, ex_t p.g.e hs, by rw [rl.length]; exact hl, h.k _ _ _ _ _ _ _ p l vs env' rl e1 Q q⟩
theorem dg_tup {es : List Expr} {k : Nat} {pos : Pos} {gs : TGs} {γ : GMs} {ts : List Nat} {n : Nat} (hK : X.K = c.T.K) (hc : X.calm = true) (h : DGs X c es gs γ ts)
    (hn : (assignEach es X.env).length = n := by rfl) (hst : (assignEach es X.env).findIdx? (·.1) = none := by rfl) : DG X c (.Tuple es k pos) (gTup c.T.K n gs) (gmTup n γ) ts :=
  hK ▸ dg_tup_0 hK hc h hn hst
end

/-! ### what is walked -/
/-- the iterator J yields just these items, wherever P holds of what is known and what there is -/
structure WalkD (c : Cfg) (J : It) (items : List D) (P : Hp → Hp → Prop) : Prop where
  go : ∀ i Hk H, P Hk H → i < items.length → J.go i H
  stop : ∀ Hk H, P Hk H → J.stop items.length H
  yld : ∀ i Hk H x H' d, P Hk H → items[i]? = some d → J.yld i H x H' → ∃ Hk', StpP c.Z Hk H Hk' H' ∧ Rep c.T Hk' d x
/-- walked while all that stands stays (a comprehension) -/
def ICk (c : Cfg) (wi : TI) (ι : AM c.Z.W) : Prop :=
  ∀ Hk0 H0 env w σ Hk H, Pre c Hk0 H0 env w σ Hk H → ∀ l w', ι env w = some (l, w') →
    ∀ R : It → Hp → Prop, (∀ J Hk1 H1, Stp c.Z Hk H Hk1 H1 → c.Z.ok w' H1 → (∀ P : Hp → Hp → Prop, (∀ Hk2 H2, P Hk2 H2 → Stp c.Z Hk1 H1 Hk2 H2) → WalkD c J l P) → R J H1) → wi σ H R
/-- walked while what is known stays (a for) -/
def IOk (c : Cfg) (wi : TI) (ι : AM c.Z.W) : Prop :=
  ∀ Hk0 H0 env w σ Hk H, Pre c Hk0 H0 env w σ Hk H → ∀ l w', ι env w = some (l, w') →
    ∀ R : It → Hp → Prop, (∀ J Hk1 H1, Stp c.Z Hk H Hk1 H1 → c.Z.ok w' H1 → (∀ P : Hp → Hp → Prop, (∀ Hk2 H2, P Hk2 H2 → Gd c.Z Hk2 H2 ∧ Ex Hk1 Hk2) → WalkD c J l P) → R J H1) → wi σ H R
theorem IOk.ick {c : Cfg} {wi : TI} {ι : AM c.Z.W} (h : IOk c wi ι) : ICk c wi ι := fun Hk0 H0 env w σ Hk H p l w' e R q =>
  h Hk0 H0 env w σ Hk H p l w' e R fun J Hk1 H1 s o k => q J Hk1 H1 s o fun P hP => k P fun Hk2 H2 z => ⟨(hP Hk2 H2 z).g, (hP Hk2 H2 z).k⟩
structure DIc (X : Cx) (c : Cfg) (tg iter : Expr) (wi : TI) (ι : AM c.Z.W) : Prop where
  p : PI X tg iter wi
  k : ICk c wi ι
structure DI (X : Cx) (c : Cfg) (tg iter : Expr) (wi : TI) (ι : AM c.Z.W) : Prop where
  p : PI X tg iter wi
  k : IOk c wi ι
theorem DI.c {X : Cx} {c : Cfg} {tg iter : Expr} {wi : TI} {ι : AM c.Z.W} (h : DI X c tg iter wi ι) : DIc X c tg iter wi ι := ⟨h.p, h.k.ick⟩
theorem PI.or {X : Cx} {tg iter : Expr} {w1 w2 : TI} (h1 : PI X tg iter w1) (h2 : PI X tg iter w2) : PI X tg iter (fun σ H R => w1 σ H R ∨ w2 σ H R) :=
  ⟨fun pins s σ H R I h => h.elim (fun h => h1.run pins s σ H R I h) fun h => h2.run pins s σ H R I h⟩
end DL
set_option Elab.async false
set_option linter.all false
set_option maxRecDepth 100000
set_option maxHeartbeats 4000000
/-! DLf: walks of sequences, ranges, pairs; the comprehension. -/
namespace DL
open PySem L2 Evl RZ
section
variable {X : Cx} {c : Cfg}
/-! ### sequences -/
def seqD : D → Option (List D)
  | .lst l => some l
  | .tup l => some l
  | .scr ns => some (ns.map .int)
  | .str x => some (x.cps.toList.map fun s => .str ⟨#[s]⟩)
  | _ => none
def iSeq {W : Type} (f : EM W) : AM W := fun env w => (f env w).bind fun p => (seqD p.1).map fun l => (l, p.2)
theorem walk_l {a : Addr} {l : List D} {vs : List V} {Hk1 : Hp} (h : Hk1 a = some (.lst vs)) (r : RepL c.T Hk1 l vs) (P : Hp → Hp → Prop) (hP : ∀ Hk2 H2, P Hk2 H2 → Gd c.Z Hk2 H2 ∧ Ex Hk1 Hk2) : WalkD c (Itl c.T.K a) l P where
  go := fun i Hk H p hi => by
    obtain ⟨g, e⟩ := hP _ _ p
    have hv : i < vs.length := by rw [r.length]; exact hi
    exact ⟨vs, vs[i], SqL.of (g.e _ _ (e _ _ h)), List.getElem?_eq_getElem hv⟩
  stop := fun Hk H p => by
    obtain ⟨g, e⟩ := hP _ _ p
    exact ⟨vs, SqL.of (g.e _ _ (e _ _ h)), by rw [r.length]; exact Nat.le_refl _⟩
  yld := fun i Hk H x H' d p hd y => by
    obtain ⟨g, e⟩ := hP _ _ p
    obtain ⟨e1, y⟩ := y
    subst e1
    have hx := y vs (SqL.of (g.e _ _ (e _ _ h)))
    obtain ⟨v, hv, rv⟩ := r.get hd
    rw [hx] at hv
    cases hv
    exact ⟨Hk, StpP.refl g, rv.mono e⟩
theorem walk_t {a : Addr} {l : List D} {vs : List V} {Hk1 : Hp} (h : SqT c.T.K Hk1 a vs) (r : RepL c.T Hk1 l vs) (P : Hp → Hp → Prop) (hP : ∀ Hk2 H2, P Hk2 H2 → Gd c.Z Hk2 H2 ∧ Ex Hk1 Hk2) : WalkD c (Itt c.T.K a) l P where
  go := fun i Hk H p hi => by
    obtain ⟨g, e⟩ := hP _ _ p
    have hv : i < vs.length := by rw [r.length]; exact hi
    exact ⟨vs, vs[i], ex_t g.e (ex_t e h), List.getElem?_eq_getElem hv⟩
  stop := fun Hk H p => by
    obtain ⟨g, e⟩ := hP _ _ p
    exact ⟨vs, ex_t g.e (ex_t e h), by rw [r.length]; exact Nat.le_refl _⟩
  yld := fun i Hk H x H' d p hd y => by
    obtain ⟨g, e⟩ := hP _ _ p
    obtain ⟨e1, y⟩ := y
    subst e1
    have hx := y vs (ex_t g.e (ex_t e h))
    obtain ⟨v, hv, rv⟩ := r.get hd
    rw [hx] at hv
    cases hv
    exact ⟨Hk, StpP.refl g, rv.mono e⟩
theorem walk_s {a : Addr} {ns : List Int} {Hk1 : Hp} (h : SqL c.T.K Hk1 a (ns.map V.int)) (P : Hp → Hp → Prop) (hP : ∀ Hk2 H2, P Hk2 H2 → Gd c.Z Hk2 H2 ∧ Ex Hk1 Hk2) : WalkD c (Itl c.T.K a) (ns.map .int) P where
  go := fun i Hk H p hi => by
    obtain ⟨g, e⟩ := hP _ _ p
    have hv : i < (ns.map V.int).length := by rw [List.length_map] at hi ⊢; exact hi
    exact ⟨_, (ns.map V.int)[i], ex_l g.e (ex_l e h), List.getElem?_eq_getElem hv⟩
  stop := fun Hk H p => by
    obtain ⟨g, e⟩ := hP _ _ p
    exact ⟨_, ex_l g.e (ex_l e h), by rw [List.length_map, List.length_map]; exact Nat.le_refl _⟩
  yld := fun i Hk H x H' d p hd y => by
    obtain ⟨g, e⟩ := hP _ _ p
    obtain ⟨e1, y⟩ := y
    subst e1
    have hx := y _ (ex_l g.e (ex_l e h))
    rw [List.getElem?_map] at hd hx
    cases hn : ns[i]? with
    | none => rw [hn] at hd; cases hd
    | some n =>
      rw [hn] at hd hx
      cases hd
      cases hx
      exact ⟨Hk, StpP.refl g, rfl⟩
theorem walk_str {x : Str} (P : Hp → Hp → Prop) (hP : ∀ Hk2 H2, P Hk2 H2 → Gd c.Z Hk2 H2) : WalkD c (Its x) (x.cps.toList.map fun s => .str ⟨#[s]⟩) P where
  go := fun i Hk H p hi => by
    show i < x.cps.size
    simpa using hi
  stop := fun Hk H p => by
    show x.cps.size ≤ _
    simp
  yld := fun i Hk H v H' d p hd y => by
    obtain ⟨e1, s, hs, ev⟩ := y
    subst e1 ev
    refine ⟨Hk, StpP.refl (hP _ _ p), ?_⟩
    rw [List.getElem?_map] at hd
    have : x.cps.toList[i]? = some s := by simpa using hs
    rw [this] at hd
    cases hd
    exact rfl
theorem di_seq_0 (hK : X.K = c.T.K) {tg e : Expr} {t : TE} {φ : EM c.Z.W} (h : DE X c e t φ) : DI X c tg e (fun σ H R => iList X.K t σ H R ∨ iTup X.K t σ H R ∨ iStr t σ H R) (iSeq φ) := by
  refine ⟨PI.or (pi_list h.p) (PI.or (pi_tup h.p) (pi_str h.p)), ?_⟩
  intro Hk0 H0 env w σ Hk H p l w' e Q q
  obtain ⟨⟨d, w1⟩, e1, e⟩ := bind_some e
  obtain ⟨l', e2, e⟩ := map_some e
  cases e
  have k := h.k _ _ _ _ _ _ _ p _ _ e1
  rw [hK]
  cases d <;> simp only [seqD, reduceCtorEq, Option.some.injEq] at e2
  · subst e2
    refine .inr (.inr (k _ fun v Hk1 H1 s1 o1 r1 => ⟨_, r1, q _ Hk1 H1 s1 o1 fun P hP => walk_str P fun a b z => (hP a b z).1⟩))
  · subst e2
    refine .inr (.inl (k _ fun v Hk1 H1 s1 o1 r1 => ?_))
    obtain ⟨a, vs, ev, h1, rl⟩ := r1
    exact ⟨a, ev, ⟨vs, ex_t s1.g.e h1⟩, q _ Hk1 H1 s1 o1 fun P hP => walk_t h1 rl P hP⟩
  · subst e2
    refine .inl (k _ fun v Hk1 H1 s1 o1 r1 => ?_)
    obtain ⟨a, vs, ev, h1, rl⟩ := r1
    exact ⟨a, ev, ⟨vs, SqL.of (s1.g.e _ _ h1)⟩, q _ Hk1 H1 s1 o1 fun P hP => walk_l h1 rl P hP⟩
  · subst e2
    refine .inl (k _ fun v Hk1 H1 s1 o1 r1 => ?_)
    obtain ⟨a, ev, h1⟩ := r1
    exact ⟨a, ev, ⟨_, ex_l s1.g.e h1⟩, q _ Hk1 H1 s1 o1 fun P hP => walk_s h1 P hP⟩
theorem di_seq (hK : X.K = c.T.K) {tg e : Expr} {t : TE} {φ : EM c.Z.W} (h : DE X c e t φ) : DI X c tg e (fun σ H R => iList c.T.K t σ H R ∨ iTup c.T.K t σ H R ∨ iStr t σ H R) (iSeq φ) :=
  hK ▸ di_seq_0 hK h
/-- a list of the frame's own, walked by a comprehension -/
def iOwn {W : Type} (i : Nat) : AM W := fun env w => match env[i]? with
  | some (.own l) => some (l, w)
  | _ => none
theorem di_own_0 (hK : X.K = c.T.K) (i : Nat) {tg : Expr} {x : Str} {pos : Pos} (hN : X.N[i]? = some x := by rfl) (hv : Vis X.env.scope x := by first | exact Or.inl rfl | exact Or.inr (Or.inl rfl) | exact Or.inr (Or.inr rfl))
    (hd : (x == ("__debug__" : Str)) = false := by decide) (hcd : (x == ("__classdict__" : Str)) = false := by decide) : DIc X c tg (.Name x pos) (iList X.K (tVar i)) (iOwn i) := by
  refine ⟨pi_list (pe_var hN hv hd hcd), ?_⟩
  intro Hk0 H0 env w σ Hk H p l w' e Q q
  have h : env[i]? = some (.own l) ∧ w' = w := by
    unfold iOwn at e
    split at e
    · rename_i l' e1; cases e; exact ⟨e1, rfl⟩
    · cases e
  obtain ⟨e1, rfl⟩ := h
  obtain ⟨a, vs, ev, m, rl⟩ := p.sl i _ e1
  rw [hK]
  refine ⟨_, ev, a, rfl, ⟨vs, SqL.of m.at_⟩, q _ Hk H (Stp.refl p.g) p.w fun P hP => ?_⟩
  have at2 : ∀ Hk2 H2, P Hk2 H2 → H2 a = some (.lst vs) := fun Hk2 H2 z => (hP Hk2 H2 z).keep _ _ m.nf m.at_
  exact {
    go := fun j Hk2 H2 z hj => ⟨vs, vs[j]'(by rw [rl.length]; exact hj), SqL.of (at2 _ _ z), List.getElem?_eq_getElem _⟩
    stop := fun Hk2 H2 z => ⟨vs, SqL.of (at2 _ _ z), by rw [rl.length]; exact Nat.le_refl _⟩
    yld := fun j Hk2 H2 x H' d z hd y => by
      obtain ⟨e2, y⟩ := y
      subst e2
      have hx := y vs (SqL.of (at2 _ _ z))
      obtain ⟨v, hv', rv⟩ := rl.get hd
      rw [hx] at hv'
      cases hv'
      exact ⟨Hk2, StpP.refl (hP _ _ z).g, rv.mono (hP _ _ z).k⟩ }
theorem di_own (hK : X.K = c.T.K) (i : Nat) {tg : Expr} {x : Str} {pos : Pos} (hN : X.N[i]? = some x := by rfl) (hv : Vis X.env.scope x := by first | exact Or.inl rfl | exact Or.inr (Or.inl rfl) | exact Or.inr (Or.inr rfl))
    (hd : (x == ("__debug__" : Str)) = false := by decide) (hcd : (x == ("__classdict__" : Str)) = false := by decide) : DIc X c tg (.Name x pos) (iList c.T.K (tVar i)) (iOwn i) :=
  hK ▸ di_own_0 hK i hN hv hd hcd
/-! ### ranges -/
def intsFrom (lo : Int) (n : Nat) : List D := (List.range n).map fun (i : Nat) => D.int (lo + (i : Int))
def inR (i : Int) : Bool := decide (-(2 ^ 62) ≤ i ∧ i < 2 ^ 62)
def rng1 : List D → Option (List D)
  | [.int j] => if inR j then some (intsFrom 0 j.toNat) else none
  | _ => none
def rng2 : List D → Option (List D)
  | [.int i, .int j] => if inR i && inR j then some (intsFrom i (j - i).toNat) else none
  | _ => none
def rng3 : List D → Option (List D)
  | [.int i, .int j, .int k] => if k ≠ 0 ∧ k.natAbs < 1073741824 ∧ Builtin.Range.small i j k = true ∧ 0 ≤ Builtin.Range.rangeSize i j k then some ((List.range (Builtin.Range.rangeSize i j k).toNat).map fun (m : Nat) => D.int (i + (m : Int) * k)) else none
  | _ => none
def iRng {W : Type} (g : List D → Option (List D)) (f : AM W) : AM W := fun env w => (f env w).bind fun p => (g p.1).map fun l => (l, p.2)
theorem walk_r (lo : Int) (n : Nat) (P : Hp → Hp → Prop) (hP : ∀ Hk2 H2, P Hk2 H2 → Gd c.Z Hk2 H2) : WalkD c (Itr lo n) (intsFrom lo n) P where
  go := fun i Hk H p hi => by
    show i < n
    simpa [intsFrom] using hi
  stop := fun Hk H p => by
    show n ≤ _
    simp [intsFrom]
  yld := fun i Hk H x H' d p hd y => by
    obtain ⟨e1, ev⟩ := y
    subst e1 ev
    refine ⟨Hk, StpP.refl (hP _ _ p), ?_⟩
    unfold intsFrom at hd
    rw [List.getElem?_map] at hd
    cases hr : (List.range n)[i]? with
    | none => rw [hr] at hd; cases hd
    | some j =>
      rw [hr] at hd
      cases hd
      obtain ⟨hj, ej⟩ := List.getElem?_eq_some_iff.mp hr
      rw [List.getElem_range] at ej
      subst ej
      exact rfl
theorem walk_c (lo k : Int) (n : Nat) (P : Hp → Hp → Prop) (hP : ∀ Hk2 H2, P Hk2 H2 → Gd c.Z Hk2 H2) : WalkD c (Itc lo k n) ((List.range n).map fun (m : Nat) => D.int (lo + (m : Int) * k)) P where
  go := fun i Hk H p hi => by
    show i < n
    simpa using hi
  stop := fun Hk H p => by
    show n ≤ _
    simp
  yld := fun i Hk H x H' d p hd y => by
    obtain ⟨e1, ev⟩ := y
    subst e1 ev
    refine ⟨Hk, StpP.refl (hP _ _ p), ?_⟩
    rw [List.getElem?_map] at hd
    cases hr : (List.range n)[i]? with
    | none => rw [hr] at hd; cases hd
    | some j =>
      rw [hr] at hd
      cases hd
      obtain ⟨hj, ej⟩ := List.getElem?_eq_some_iff.mp hr
      rw [List.getElem_range] at ej
      subst ej
      exact rfl
theorem RepL.three {T : CT} {H : Hp} {d d' d2 : D} {vs : List V} (h : RepL T H [d, d', d2] vs) : ∃ v u t, vs = [v, u, t] ∧ Rep T H d v ∧ Rep T H d' u ∧ Rep T H d2 t := by
  obtain ⟨v, r, e, h1, h2⟩ := h
  obtain ⟨u, t, e2, h3, h4⟩ := RepL.two h2
  subst e2
  exact ⟨v, u, t, e, h1, h3, h4⟩
theorem di_range1 {tg a : Expr} {ta : TA} {φ : AM c.Z.W} {p pos : Pos} (hg : Gl X "range") (hm : X.mg "range" = none) (ha : DA X c [a] ta φ) (hs : starEach [a] X.env = [(false, eval a X.env)] := by rfl) : DI X c tg (.Call (.Name "range" p) [a] [] pos) (iRng1 ta) (iRng rng1 φ) := by
  refine ⟨pi_range1 hg hm ha.p hs, ?_⟩
  intro Hk0 H0 env w σ Hk H p l w' e Q q
  obtain ⟨⟨ds, w1⟩, e1, e⟩ := bind_some e
  obtain ⟨l', e2, e⟩ := map_some e
  cases e
  refine ha.k _ _ _ _ _ _ _ p _ _ e1 _ fun vs Hk1 H1 s1 o1 r1 => ?_
  have e2 : rng1 ds = some l := e2
  unfold rng1 at e2
  split at e2
  · split at e2
    · rename_i h
      cases e2
      obtain ⟨v, ev, h1⟩ := r1.one
      have h' := of_decide_eq_true h
      exact ⟨_, by rw [ev, show v = V.int _ from h1], h'.1, h'.2, q _ Hk1 H1 s1 o1 fun P hP => walk_r _ _ P fun a b z => (hP a b z).1⟩
    · cases e2
  · cases e2
theorem di_range2 {tg a b : Expr} {ta : TA} {φ : AM c.Z.W} {p pos : Pos} (hg : Gl X "range") (hm : X.mg "range" = none) (ha : DA X c [a, b] ta φ) (hs : starEach [a, b] X.env = [(false, eval a X.env), (false, eval b X.env)] := by rfl) (hs2 : starEach [b] X.env = [(false, eval b X.env)] := by rfl) :
    DI X c tg (.Call (.Name "range" p) [a, b] [] pos) (iRng2 ta) (iRng rng2 φ) := by
  refine ⟨pi_range2 hg hm ha.p hs hs2, ?_⟩
  intro Hk0 H0 env w σ Hk H p l w' e Q q
  obtain ⟨⟨ds, w1⟩, e1, e⟩ := bind_some e
  obtain ⟨l', e2, e⟩ := map_some e
  cases e
  refine ha.k _ _ _ _ _ _ _ p _ _ e1 _ fun vs Hk1 H1 s1 o1 r1 => ?_
  have e2 : rng2 ds = some l := e2
  unfold rng2 at e2
  split at e2
  · split at e2
    · rename_i h
      cases e2
      rw [Bool.and_eq_true] at h
      obtain ⟨v, u, ev, h1, h2⟩ := r1.two
      have ha' := of_decide_eq_true h.1
      have hb' := of_decide_eq_true h.2
      exact ⟨_, _, by rw [ev, show v = V.int _ from h1, show u = V.int _ from h2], ⟨ha'.1, ha'.2, hb'.1, hb'.2⟩, q _ Hk1 H1 s1 o1 fun P hP => walk_r _ _ P fun a b z => (hP a b z).1⟩
    · cases e2
  · cases e2
theorem di_range3 {tg a b z : Expr} {ta : TA} {φ : AM c.Z.W} {p pos : Pos} (hg : Gl X "range") (hm : X.mg "range" = none) (ha : DA X c [a, b, z] ta φ)
    (hs : starEach [a, b, z] X.env = (false, eval a X.env) :: starEach [b, z] X.env := by rfl) (hpl : (backTo pos (starEach [b, z] X.env)).any (·.1) = false := by rfl) :
    DI X c tg (.Call (.Name "range" p) [a, b, z] [] pos) (iRng3 ta) (iRng rng3 φ) := by
  refine ⟨pi_range3 hg hm ha.p hs hpl, ?_⟩
  intro Hk0 H0 env w σ Hk H p l w' e Q q
  obtain ⟨⟨ds, w1⟩, e1, e⟩ := bind_some e
  obtain ⟨l', e2, e⟩ := map_some e
  cases e
  refine ha.k _ _ _ _ _ _ _ p _ _ e1 _ fun vs Hk1 H1 s1 o1 r1 => ?_
  have e2 : rng3 ds = some l := e2
  unfold rng3 at e2
  split at e2
  · split at e2
    · rename_i h
      cases e2
      obtain ⟨v, u, t, ev, h1, h2, h3⟩ := r1.three
      refine ⟨_, _, _, _, by rw [ev, show v = V.int _ from h1, show u = V.int _ from h2, show t = V.int _ from h3], ⟨h.1, h.2.1, h.2.2.1, ?_⟩, q _ Hk1 H1 s1 o1 fun P hP => walk_c _ _ _ P fun a b z => (hP a b z).1⟩
      have := h.2.2.2
      omega
    · cases e2
  · cases e2
/-! ### pairs: zip, enumerate -/
def pairD (p : D × D) : D := .tup [p.1, p.2]
def zipL : List D → Option (List D)
  | [.lst a, .lst b] => some ((a.zip b).map pairD)
  | [.tup a, .tup b] => some ((a.zip b).map pairD)
  | _ => none
theorem zip_rep {l m : List D} {i : Nat} {d : D} (h : ((l.zip m).map pairD)[i]? = some d) : ∃ x y, l[i]? = some x ∧ m[i]? = some y ∧ d = .tup [x, y] := by
  rw [List.getElem?_map] at h
  cases e : (l.zip m)[i]? with
  | none => rw [e] at h; cases h
  | some p =>
    rw [e] at h
    cases h
    obtain ⟨e1, e2⟩ := List.getElem?_zip_eq_some.mp e
    exact ⟨p.1, p.2, e1, e2, rfl⟩
theorem new_pair {Hk H : Hp} {T : Addr} {x y : V} {dx dy : D} (g : Gd c.Z Hk H) (hT : H T = none) (rx : Rep c.T Hk dx x) (ry : Rep c.T Hk dy y) :
    ∃ Hk', StpP c.Z Hk H Hk' (upd H T (.tup [x, y])) ∧ Rep c.T Hk' (.tup [dx, dy]) (.ref T) := by
  have s := StpP.new (o := .tup [x, y]) g hT
  exact ⟨_, s, T, _, rfl, SqT.of upd_same, .cons (rx.mono s.s.k) (.cons (ry.mono s.s.k) .nil)⟩
theorem di_zip_0 (hK : X.K = c.T.K) {elts : List Expr} {kk : Nat} {tpos : Pos} {e e2 : Expr} {ta : TA} {φ : AM c.Z.W} {p pos : Pos} (hg : Gl X "zip") (hm : X.mg "zip" = none) (ha : DA X c [e, e2] ta φ)
    (hs : starEach [e, e2] X.env = (false, eval e X.env) :: starEach [e2] X.env := by rfl) (hpl : (backTo pos (starEach [e2] X.env)).any (·.1) = false := by rfl) :
    DI X c (.Tuple elts kk tpos) (.Call (.Name "zip" p) [e, e2] [] pos) (iZipA X.K ta) (iRng zipL φ) := by
  refine ⟨pi_zipA hg hm ha.p hs hpl, ?_⟩
  intro Hk0 H0 env w σ Hk H p l w' e Q q
  obtain ⟨⟨ds, w1⟩, e1, e⟩ := bind_some e
  obtain ⟨l', e2, e⟩ := map_some e
  cases e
  refine ha.k _ _ _ _ _ _ _ p _ _ e1 _ fun vs Hk1 H1 s1 o1 r1 => ?_
  rw [hK]
  have e2 : zipL ds = some l := e2
  unfold zipL at e2
  split at e2
  · rename_i la lb
    cases e2
    obtain ⟨v, u, ev, ⟨a, xs, ea, ha1, ra⟩, ⟨b, ys, eb, hb1, rb⟩⟩ := r1.two
    subst ev ea eb
    refine ⟨a, b, xs, ys, rfl, .inl ⟨SqL.of (s1.g.e _ _ ha1), SqL.of (s1.g.e _ _ hb1), q _ Hk1 H1 s1 o1 fun P hP => ?_⟩⟩
    exact {
      go := fun i Hk2 H2 z hi => by
        obtain ⟨g, ex⟩ := hP _ _ z
        rw [List.length_map, List.length_zip] at hi
        have hx : i < xs.length := by rw [ra.length]; omega
        have hy : i < ys.length := by rw [rb.length]; omega
        exact ⟨xs, ys, xs[i], ys[i], SqL.of (g.e _ _ (ex _ _ ha1)), SqL.of (g.e _ _ (ex _ _ hb1)), List.getElem?_eq_getElem hx, List.getElem?_eq_getElem hy⟩
      stop := fun Hk2 H2 z => by
        obtain ⟨g, ex⟩ := hP _ _ z
        refine ⟨xs, ys, SqL.of (g.e _ _ (ex _ _ ha1)), SqL.of (g.e _ _ (ex _ _ hb1)), ?_⟩
        rw [List.length_map, List.length_zip, ra.length, rb.length]
        omega
      yld := fun i Hk2 H2 x H' d z hd y => by
        obtain ⟨g, ex⟩ := hP _ _ z
        obtain ⟨dx, dy, h1, h2, rfl⟩ := zip_rep hd
        obtain ⟨T, x', y', e3, hT, e4, h3, h4⟩ := y
        subst e3 e4
        obtain ⟨v1, q1, r3⟩ := ra.get h1
        obtain ⟨v2, q2, r4⟩ := rb.get h2
        have z1 := h3 _ (SqL.of (g.e _ _ (ex _ _ ha1)))
        have z2 := h4 _ (SqL.of (g.e _ _ (ex _ _ hb1)))
        rw [q1] at z1
        rw [q2] at z2
        cases z1
        cases z2
        exact new_pair g hT (r3.mono ex) (r4.mono ex) }
  · rename_i la lb
    cases e2
    obtain ⟨v, u, ev, ⟨a, xs, ea, ha1, ra⟩, ⟨b, ys, eb, hb1, rb⟩⟩ := r1.two
    subst ev ea eb
    refine ⟨a, b, xs, ys, rfl, .inr ⟨ex_t s1.g.e ha1, ex_t s1.g.e hb1, q _ Hk1 H1 s1 o1 fun P hP => ?_⟩⟩
    exact {
      go := fun i Hk2 H2 z hi => by
        obtain ⟨g, ex⟩ := hP _ _ z
        rw [List.length_map, List.length_zip] at hi
        have hx : i < xs.length := by rw [ra.length]; omega
        have hy : i < ys.length := by rw [rb.length]; omega
        exact ⟨xs, ys, xs[i], ys[i], ex_t g.e (ex_t ex ha1), ex_t g.e (ex_t ex hb1), List.getElem?_eq_getElem hx, List.getElem?_eq_getElem hy⟩
      stop := fun Hk2 H2 z => by
        obtain ⟨g, ex⟩ := hP _ _ z
        refine ⟨xs, ys, ex_t g.e (ex_t ex ha1), ex_t g.e (ex_t ex hb1), ?_⟩
        rw [List.length_map, List.length_zip, ra.length, rb.length]
        omega
      yld := fun i Hk2 H2 x H' d z hd y => by
        obtain ⟨g, ex⟩ := hP _ _ z
        obtain ⟨dx, dy, h1, h2, rfl⟩ := zip_rep hd
        obtain ⟨T, x', y', e3, hT, e4, h3, h4⟩ := y
        subst e3 e4
        obtain ⟨v1, q1, r3⟩ := ra.get h1
        obtain ⟨v2, q2, r4⟩ := rb.get h2
        have z1 := h3 _ (ex_t g.e (ex_t ex ha1))
        have z2 := h4 _ (ex_t g.e (ex_t ex hb1))
        rw [q1] at z1
        rw [q2] at z2
        cases z1
        cases z2
        exact new_pair g hT (r3.mono ex) (r4.mono ex) }
  · cases e2
theorem di_zip (hK : X.K = c.T.K) {elts : List Expr} {kk : Nat} {tpos : Pos} {e e2 : Expr} {ta : TA} {φ : AM c.Z.W} {p pos : Pos} (hg : Gl X "zip") (hm : X.mg "zip" = none) (ha : DA X c [e, e2] ta φ)
    (hs : starEach [e, e2] X.env = (false, eval e X.env) :: starEach [e2] X.env := by rfl) (hpl : (backTo pos (starEach [e2] X.env)).any (·.1) = false := by rfl) :
    DI X c (.Tuple elts kk tpos) (.Call (.Name "zip" p) [e, e2] [] pos) (iZipA c.T.K ta) (iRng zipL φ) :=
  hK ▸ di_zip_0 hK hg hm ha hs hpl
/-- enumerate of a list -/
def enumL : List D → Option (List D)
  | [.lst a] => some (a.mapIdx fun i d => .tup [.int (i : Nat), d])
  | _ => none
theorem di_enum_0 (hK : X.K = c.T.K) {elts : List Expr} {kk : Nat} {tpos : Pos} {e : Expr} {ta : TA} {φ : AM c.Z.W} {p pos : Pos} (hg : Gl X "enumerate") (hm : X.mg "enumerate" = none) (ha : DA X c [e] ta φ) (hs : starEach [e] X.env = [(false, eval e X.env)] := by rfl) :
    DI X c (.Tuple elts kk tpos) (.Call (.Name "enumerate" p) [e] [] pos) (iEnum X.K ta) (iRng enumL φ) := by
  refine ⟨pi_enum hg hm ha.p hs, ?_⟩
  intro Hk0 H0 env w σ Hk H p l w' e Q q
  obtain ⟨⟨ds, w1⟩, e1, e⟩ := bind_some e
  obtain ⟨l', e2, e⟩ := map_some e
  cases e
  refine ha.k _ _ _ _ _ _ _ p _ _ e1 _ fun vs Hk1 H1 s1 o1 r1 => ?_
  rw [hK]
  have e2 : enumL ds = some l := e2
  unfold enumL at e2
  split at e2
  · cases e2
    obtain ⟨v, ev, a, xs, ea, ha1, ra⟩ := r1.one
    subst ev ea
    refine ⟨a, xs, rfl, SqL.of (s1.g.e _ _ ha1), q _ Hk1 H1 s1 o1 fun P hP => ?_⟩
    exact {
      go := fun i Hk2 H2 z hi => by
        obtain ⟨g, ex⟩ := hP _ _ z
        rw [List.length_mapIdx] at hi
        have hx : i < xs.length := by rw [ra.length]; omega
        exact ⟨xs, xs[i], SqL.of (g.e _ _ (ex _ _ ha1)), List.getElem?_eq_getElem hx⟩
      stop := fun Hk2 H2 z => by
        obtain ⟨g, ex⟩ := hP _ _ z
        exact ⟨xs, SqL.of (g.e _ _ (ex _ _ ha1)), by rw [List.length_mapIdx, ra.length]; exact Nat.le_refl _⟩
      yld := fun i Hk2 H2 x H' d z hd y => by
        obtain ⟨g, ex⟩ := hP _ _ z
        rw [List.getElem?_mapIdx] at hd
        obtain ⟨d0, e5, e6⟩ := map_some hd
        subst e6
        obtain ⟨T, x', e3, hT, e4, h3⟩ := y
        subst e3 e4
        obtain ⟨v1, q1, r3⟩ := ra.get e5
        have z1 := h3 _ (SqL.of (g.e _ _ (ex _ _ ha1)))
        rw [q1] at z1
        cases z1
        exact new_pair g hT rfl (r3.mono ex) }
  · cases e2
theorem di_enum (hK : X.K = c.T.K) {elts : List Expr} {kk : Nat} {tpos : Pos} {e : Expr} {ta : TA} {φ : AM c.Z.W} {p pos : Pos} (hg : Gl X "enumerate") (hm : X.mg "enumerate" = none) (ha : DA X c [e] ta φ) (hs : starEach [e] X.env = [(false, eval e X.env)] := by rfl) :
    DI X c (.Tuple elts kk tpos) (.Call (.Name "enumerate" p) [e] [] pos) (iEnum c.T.K ta) (iRng enumL φ) :=
  hK ▸ di_enum_0 hK hg hm ha hs
end

/-! ### the comprehension -/
def lcGo {W : Type} (γ : GM) (tt : TM W) (te : EM W) : List D → Env' → W → Option (List D × W)
  | [], _, w => some ([], w)
  | d :: r, env, w => (γ d env).bind fun env1 => (tt env1 w).bind fun p =>
      if p.1 = true then (te env1 p.2).bind fun q => (lcGo γ tt te r env q.2).map fun z => (q.1 :: z.1, z.2) else lcGo γ tt te r env p.2
def lLc {W : Type} (vs : List Nat) (ι : AM W) (γ : GM) (tt : TM W) (te : EM W) : AM W := fun env w =>
  (ι env w).bind fun p => if p.1.length ≤ sizeLine then lcGo γ tt te p.1 (wipeE env vs) p.2 else none
def tYesM {W : Type} : TM W := fun _ w => some (true, w)
section
variable {X : Cx} {c : Cfg}
structure DTs (X : Cx) (c : Cfg) (ifs : List Expr) (t : TT) (φ : TM c.Z.W) : Prop where
  p : PTs X ifs t
  k : TOk c t φ
theorem dts_nil : DTs X c [] tYes tYesM := ⟨pts_nil, fun _ _ _ _ _ Hk H p _ _ e _ q => by cases e; exact q Hk H (Stp.refl p.g) p.w⟩
theorem dts_one {e : Expr} {t : TT} {φ : TM c.Z.W} (h : DT X c e t φ) : DTs X c [e] t φ := ⟨pts_one h.p, h.k⟩
theorem drop_cons {α : Type} {l : List α} {i : Nat} (h : i < l.length) : l.drop i = l[i] :: l.drop (i + 1) := List.drop_eq_getElem_cons h
/-- a fresh object of ours is changed -/
theorem Stp.mut {Z : Wo} {Hk1 H1 Hk H : Hp} {D : Addr} {o : HO} (s : Stp Z Hk1 H1 Hk H) (h1 : H1 D = none) (hk : Hk D = none) (hD : H D ≠ none) : Stp Z Hk1 H1 Hk (upd H D o) where
  k := s.k
  g := {
    e := fun a u h => by rw [upd_ne (fun z => by rw [z, hk] at h; cases h)]; exact s.g.e a u h
    nf := s.g.nf
    dm := fun a f => by
      by_cases z : a = D
      · subst z; rw [upd_same]; simp
      · rw [upd_ne z]; exact s.g.dm a f }
  new := s.new
  keep := fun a u f h => by rw [upd_ne (ne_of_none h h1)]; exact s.keep a u f h
theorem ok_mut {Z : Wo} {w : Z.W} {H : Hp} {D : Addr} {o : HO} (h : Z.ok w H) (f : ¬ Z.FP D) (hx : ∀ φ, H D ≠ some (.ext φ)) : Z.ok w (upd H D o) :=
  Z.loc h (fun a fa => upd_ne fun z => f (by rw [← z]; exact fa)) fun a φ e => (upd_ne fun z : a = D => hx φ (z ▸ e)).trans e
theorem lc_ok {wi : TI} {g : TG} {tt : TT} {te : TE} {vs : List Nat} {ι : AM c.Z.W} {γ : GM} {χ : TM c.Z.W} {φ : EM c.Z.W} {ts : List Nat} (hi : ICk c wi ι) (hg : GOk c g γ ts) (hts : ∀ i ∈ ts, i ∈ vs) (ht : TOk c tt χ) (he : EOk c te φ) :
    LOk c (tLc wi g tt te vs) (lLc vs ι γ χ φ) := by
  intro Hk0 H0 env w σ Hk H p l w' e Q q
  obtain ⟨⟨items, w1⟩, e1, e⟩ := bind_some e
  split at e
  · rename_i hsz
    have hsz : items.length ≤ sizeLine := hsz
    refine hi _ _ _ _ _ _ _ p items w1 e1 _ fun J Hk1 H1 s1 o1 wk D hD => ?_
    have fD : ¬ c.Z.FP D := fun f => s1.g.dm D f hD
    have hD0 : H D = none := by
      cases z : H D with
      | none => rfl
      | some o => rw [s1.keep D o fD z] at hD; cases hD
    have p1 := p.step s1 o1
    have W1 := wk (fun Hk2 H2 => Stp c.Z Hk1 H1 Hk2 H2) fun _ _ z => z
    refine ⟨fun i m H2 => m = items.length - i ∧ i ≤ items.length ∧ ∃ Hk2 w2 acc us rest, Stp c.Z Hk1 H1 Hk2 H2 ∧ c.Z.ok w2 H2 ∧ H2 D = some (.lst us) ∧ Hk2 D = none ∧ RepL c.T Hk2 acc us ∧ acc.length ≤ i ∧
      lcGo γ χ φ (items.drop i) (wipeE env vs) w2 = some (rest, w') ∧ acc ++ rest = l, ⟨items.length, by simp, Nat.zero_le _, Hk1, w1, [], [], l, (StpP.own s1.g hD).s, ok_mut o1 fD (by rw [hD]; simp), upd_same, hk_none s1.g hD, rfl, Nat.zero_le _, by simpa using e, rfl⟩, ?_⟩
    rintro i m H2 ⟨rfl, hi', Hk2, w2, acc, us, rest, s2, o2, hD2, hkD, ra, hacc, eg, el⟩
    by_cases hlt : i < items.length
    · refine .inr ⟨W1.go i Hk2 H2 s2 hlt, fun H' => i + 1 ≤ items.length ∧ ∃ Hk3 w3 acc us rest, Stp c.Z Hk1 H1 Hk3 H' ∧ c.Z.ok w3 H' ∧ H' D = some (.lst us) ∧ Hk3 D = none ∧ RepL c.T Hk3 acc us ∧ acc.length ≤ i + 1 ∧
        lcGo γ χ φ (items.drop (i + 1)) (wipeE env vs) w3 = some (rest, w') ∧ acc ++ rest = l, fun H' z => ⟨items.length - (i + 1), by omega, rfl, z.1, z.2⟩, fun x H3 y => ?_⟩
      rw [drop_cons hlt] at eg
      obtain ⟨env1, g1, eg⟩ := bind_some (show (γ items[i] (wipeE env vs)).bind _ = _ from eg)
      obtain ⟨⟨b, w3⟩, g2, eg⟩ := bind_some eg
      obtain ⟨Hk3, s3, r3⟩ := W1.yld i Hk2 H2 x H3 items[i] s2 (List.getElem?_eq_getElem hlt) y
      have s13 := s2.trans s3.s
      have p3 := (p1.wipe vs).step s13 (s3.ok o2)
      refine hg _ _ _ _ _ _ _ p3 _ x env1 r3 g1 _ fun σ4 p4 wp => ⟨by rw [wp vs hts, wipe_wipe], ?_⟩
      refine ht _ _ _ _ _ _ _ p4 b w3 g2 _ fun Hk5 H5 s5 o5 => ?_
      have s15 := s13.trans s5
      have nk : ∀ {Hka Ha Hkb Hb : Hp}, Stp c.Z Hka Ha Hkb Hb → Ha D ≠ none → Hka D = none → Hkb D = none := fun {Hka Ha Hkb Hb} s h hk => by
        cases z : Hkb D with
        | none => rfl
        | some o =>
          rcases s.new D (ne_none z) with z | z
          · exact absurd hk z
          · exact absurd z h
      have hD3 := s3.s.keep D _ fD hD2
      have hk3 := nk s3.s (ne_none hD2) hkD
      have hD5 := s5.keep D _ fD hD3
      have hk5 := nk s5 (ne_none hD3) hk3
      have ra5 := (ra.mono s3.s.k).mono s5.k
      split at eg
      · rename_i hb
        rw [if_pos hb]
        obtain ⟨⟨dy, w5⟩, g3, eg⟩ := bind_some eg
        obtain ⟨⟨rest', w6⟩, g4, eg⟩ := map_some eg
        cases eg
        refine he _ _ _ _ _ _ _ (p4.step s5 o5) dy w5 g3 _ fun yv Hk6 H6 s6 o6 r6 => ?_
        have hD6 := s6.keep D _ fD hD5
        have hk6 := nk s6 (ne_none hD5) hk5
        have ra6 := ra5.mono s6.k
        refine ⟨us, hD6, by rw [ra.length]; omega, hlt, Hk6, w5, acc ++ [dy], us ++ [yv], rest', (s15.trans s6).mut hD hk6 (ne_none hD6), ok_mut o6 fD (by rw [hD6]; simp), upd_same, hk6, ra6.snoc r6, by rw [List.length_append, List.length_singleton]; omega, g4, ?_⟩
        rw [List.append_assoc]
        exact el
      · rename_i hb
        rw [if_neg hb]
        exact ⟨hlt, Hk5, w3, acc, us, rest, s15, o5, hD5, hk5, ra5, by omega, eg, el⟩
    · have ei : i = items.length := by omega
      subst ei
      refine .inl ⟨W1.stop Hk2 H2 s2, ?_⟩
      rw [List.drop_length] at eg
      cases eg
      rw [List.append_nil] at el
      subst el
      exact q D us Hk2 H2 (s1.trans s2) o2 hD0 hkD hD2 ra
  · cases e
theorem dl_lc {elt tg iter : Expr} {ifs : List Expr} {scope : Scope} {own : List (Str × Nat)} {pos : Pos} {wi : TI} {g : TG} {tt : TT} {te : TE} {ι : AM c.Z.W} {γ : GM} {χ : TM c.Z.W} {φ : EM c.Z.W} {ts : List Nat} (hc : X.calm = true) (hN : X.N.Nodup) (hi : DIc X c tg iter wi ι) (ok : BlkOk X.N X.env.scope scope own)
    (hg : ∀ (s : Shared) (H : Hp) (C : Addr) (cl : List (Str × Addr)) (fp : List Addr), DG (X.blk s H scope (compEnvC scope cl C X.env) fp) c tg g γ ts) (ht : ∀ (s : Shared) (H : Hp) (C : Addr) (cl : List (Str × Addr)) (fp : List Addr), DTs (X.blk s H scope (compEnvC scope cl C X.env) fp) c ifs tt χ)
    (he : ∀ (s : Shared) (H : Hp) (C : Addr) (cl : List (Str × Addr)) (fp : List Addr), DE (X.blk s H scope (compEnvC scope cl C X.env) fp) c elt te φ) (hts : ∀ i ∈ ts, i ∈ own.map (·.2) := by decide) (hs : ∀ x, foldedSetIterable iter X.env x = pure x := by intro _; rfl) :
    DL' X c (.ListComp elt [⟨tg, iter, ifs, 0⟩] scope pos) (tLc wi g tt te (own.map (·.2))) (lLc (own.map (·.2)) ι γ χ φ) :=
  ⟨pe_lc hc hN hi.p ok (fun s H C cl fp => (hg s H C cl fp).p) (fun s H C cl fp => (ht s H C cl fp).p) (fun s H C cl fp => (he s H C cl fp).p) hs,
    lc_ok hi.k (hg {} (fun _ => none) 0 [] []).k hts (ht {} (fun _ => none) 0 [] []).k (he {} (fun _ => none) 0 [] []).k⟩
end
end DL
set_option Elab.async false
set_option linter.all false
set_option maxRecDepth 100000
set_option maxHeartbeats 4000000
/-! DLg: statements. -/
namespace DL
open PySem L2 Evl

/-- how a statement ends -/
inductive Out where
  | nx | rt (d : D) | bk | ct
abbrev SM (W : Type) := Env' → W → Option (Out × Env' × W)
def Hit (c : Cfg) (Dn : Ends) (Hk0 H0 Hk : Hp) (env : Env') (w : c.Z.W) : Out → Prop
  | .nx => ∀ σ' Hk' H', Pre c Hk0 H0 env w σ' Hk' H' → Ex Hk Hk' → Dn.nx σ' H'
  | .rt d => ∀ v σ' Hk' H', Pre c Hk0 H0 env w σ' Hk' H' → Ex Hk Hk' → Rep c.T Hk' d v → Dn.rt v H'
  | .bk => ∀ σ' Hk' H', Pre c Hk0 H0 env w σ' Hk' H' → Ex Hk Hk' → Dn.bk σ' H'
  | .ct => ∀ σ' Hk' H', Pre c Hk0 H0 env w σ' Hk' H' → Ex Hk Hk' → Dn.ct σ' H'
def SOk (c : Cfg) (t : TS) (ψ : SM c.Z.W) : Prop :=
  ∀ Hk0 H0 env w σ Hk H, Pre c Hk0 H0 env w σ Hk H → ∀ o env' w', ψ env w = some (o, env', w') → ∀ Dn : Ends, Hit c Dn Hk0 H0 Hk env' w' o → t Dn σ H
structure DS (X : Cx) (c : Cfg) (st : Stmt) (t : TS) (ψ : SM c.Z.W) : Prop where
  p : PS X st t
  k : SOk c t ψ
structure DSs (X : Cx) (c : Cfg) (st : List Stmt) (t : TS) (ψ : SM c.Z.W) : Prop where
  p : PSs X st t
  k : SOk c t ψ
theorem Hit.mono {c : Cfg} {Dn : Ends} {Hk0 H0 Hk Hk1 : Hp} {env : Env'} {w : c.Z.W} {o : Out} (e : Ex Hk Hk1) (h : Hit c Dn Hk0 H0 Hk env w o) : Hit c Dn Hk0 H0 Hk1 env w o := by
  cases o with
  | nx => exact fun σ' Hk' H' p x => h σ' Hk' H' p (e.trans x)
  | rt d => exact fun v σ' Hk' H' p x r => h v σ' Hk' H' p (e.trans x) r
  | bk => exact fun σ' Hk' H' p x => h σ' Hk' H' p (e.trans x)
  | ct => exact fun σ' Hk' H' p x => h σ' Hk' H' p (e.trans x)

/-! ### blocks -/
def sNil {W : Type} : SM W := fun env w => some (.nx, env, w)
def sSeq {W : Type} (a b : SM W) : SM W := fun env w => (a env w).bind fun p => match p.1 with
  | .nx => b p.2.1 p.2.2
  | o => some (o, p.2.1, p.2.2)
section
variable {X : Cx} {c : Cfg}
theorem dss_nil : DSs X c [] tNext sNil := by
  refine ⟨pss_nil, ?_⟩
  intro Hk0 H0 env w σ Hk H p o env' w' e Dn h
  cases e
  exact h σ Hk H p (Ex.refl _)
theorem dss_cons {st : Stmt} {rest : List Stmt} {t u : TS} {ψ χ : SM c.Z.W} (h1 : DS X c st t ψ) (h2 : DSs X c rest u χ) : DSs X c (st :: rest) (tSeq t u) (sSeq ψ χ) := by
  refine ⟨pss_cons h1.p h2.p, ?_⟩
  intro Hk0 H0 env w σ Hk H p o env' w' e Dn h
  obtain ⟨⟨o1, env1, w1⟩, e1, e⟩ := bind_some e
  refine h1.k _ _ _ _ _ _ _ p o1 env1 w1 e1 _ ?_
  cases o1 with
  | nx => exact fun σ' Hk' H' p' x => h2.k _ _ _ _ _ _ _ p' o env' w' e Dn (h.mono x)
  | rt d => cases e; exact h
  | bk => cases e; exact h
  | ct => cases e; exact h
theorem dss_one {st : Stmt} {t : TS} {ψ : SM c.Z.W} (h : DS X c st t ψ) : DSs X c [st] t ψ := ⟨pss_one h.p, h.k⟩
theorem ds_never {st : Stmt} : DS X c st tNever (fun _ _ => none) := ⟨ps_never, fun _ _ _ _ _ _ _ _ _ _ _ e _ _ => by cases e⟩
theorem dss_never {st : List Stmt} : DSs X c st tNever (fun _ _ => none) := ⟨pss_never, fun _ _ _ _ _ _ _ _ _ _ _ e _ _ => by cases e⟩
theorem ds_pass {pos : Pos} : DS X c (.Pass pos) tNext sNil := ⟨ps_pass, fun Hk0 H0 env w σ Hk H p o env' w' e Dn h => by cases e; exact h σ Hk H p (Ex.refl _)⟩
theorem ds_break {pos : Pos} : DS X c (.Break pos) tBreak (fun env w => some (.bk, env, w)) := ⟨ps_break, fun Hk0 H0 env w σ Hk H p o env' w' e Dn h => by cases e; exact h σ Hk H p (Ex.refl _)⟩
theorem ds_continue {pos : Pos} : DS X c (.Continue pos) tCont (fun env w => some (.ct, env, w)) := ⟨ps_continue, fun Hk0 H0 env w σ Hk H p o env' w' e Dn h => by cases e; exact h σ Hk H p (Ex.refl _)⟩
theorem ds_doc {x j pos pos'} : DS X c (.Expr (.Constant (.str x) j pos) pos') tNext sNil := ⟨ps_doc, fun Hk0 H0 env w σ Hk H p o env' w' e Dn h => by cases e; exact h σ Hk H p (Ex.refl _)⟩

/-! ### small statements -/
def sDrop {W : Type} (f : EM W) : SM W := fun env w => (f env w).map fun p => (.nx, env, p.2)
theorem ds_expr {e : Expr} {te : TE} {φ : EM c.Z.W} {pos : Pos} (h : DE X c e te φ) (hs : swapsWith e none pos.line X.env = pure false := by rfl) : DS X c (.Expr e pos) (tDrop te) (sDrop φ) := by
  refine ⟨ps_expr h.p hs, ?_⟩
  intro Hk0 H0 env w σ Hk H p o env' w' e Dn hh
  obtain ⟨⟨d, w1⟩, e1, e⟩ := map_some e
  cases e
  exact h.k _ _ _ _ _ _ _ p d w1 e1 _ fun v Hk1 H1 s1 o1 r1 => hh σ Hk1 H1 (p.step s1 o1) s1.k
def sRet {W : Type} (f : EM W) : SM W := fun env w => (f env w).map fun p => (.rt p.1, env, p.2)
theorem ds_ret {e : Expr} {te : TE} {φ : EM c.Z.W} {pos : Pos} (h : DE X c e te φ) : DS X c (.Return (some e) pos) (tRet te) (sRet φ) := by
  refine ⟨ps_ret h.p, ?_⟩
  intro Hk0 H0 env w σ Hk H p o env' w' e Dn hh
  obtain ⟨⟨d, w1⟩, e1, e⟩ := map_some e
  cases e
  exact h.k _ _ _ _ _ _ _ p d w1 e1 _ fun v Hk1 H1 s1 o1 r1 => hh v σ Hk1 H1 (p.step s1 o1) s1.k r1
theorem ds_retN {pos : Pos} : DS X c (.Return none pos) tRetN (fun env w => some (.rt .non, env, w)) := ⟨ps_retN, fun Hk0 H0 env w σ Hk H p o env' w' e Dn h => by cases e; exact h .non σ Hk H p (Ex.refl _) rfl⟩
def sIf {W : Type} (t : TM W) (a b : SM W) : SM W := fun env w => (t env w).bind fun p => if p.1 = true then a env p.2 else b env p.2
theorem ds_if {t : Expr} {a b : List Stmt} {tt : TT} {ta tb : TS} {χ : TM c.Z.W} {φ ψ : SM c.Z.W} {pos : Pos} (ht : DT X c t tt χ) (ha : DSs X c a ta φ) (hb : DSs X c b tb ψ) : DS X c (.If t a b pos) (tIfS tt ta tb) (sIf χ φ ψ) := by
  refine ⟨ps_if ht.p ha.p hb.p, ?_⟩
  intro Hk0 H0 env w σ Hk H p o env' w' e Dn hh
  obtain ⟨⟨k, w1⟩, e1, e⟩ := bind_some e
  refine ht.k _ _ _ _ _ _ _ p k w1 e1 _ fun Hk1 H1 s1 o1 => ?_
  split at e
  · rename_i hk
    have hk : k = true := hk
    subst hk
    rw [if_pos rfl]
    exact ha.k _ _ _ _ _ _ _ (p.step s1 o1) o env' w' e Dn (hh.mono s1.k)
  · rename_i hk
    have hk : ¬ k = true := hk
    rw [if_neg hk]
    exact hb.k _ _ _ _ _ _ _ (p.step s1 o1) o env' w' e Dn (hh.mono s1.k)

/-! ### names that get values, lists of their own, dicts of their own -/
/-- a value for a slot -/
def SlV (c : Cfg) (H Hk' H' : Hp) : Sl → V → Prop
  | .val d, v => Rep c.T Hk' d v
  | .own l, v => ∃ p vs, v = .ref p ∧ H p = none ∧ Hk' p = none ∧ H' p = some (.lst vs) ∧ RepL c.T Hk' l vs
  | .ownd ks l, v => ∃ p vs, v = .ref p ∧ H p = none ∧ Hk' p = none ∧ H' p = some (.dK (ks.zip vs)) ∧ ks.length = l.length ∧ RepL c.T Hk' l vs
  | _, _ => False
abbrev VM (W : Type) := Env' → W → Option (Sl × W)
def VOk (c : Cfg) (t : TE) (φ : VM c.Z.W) : Prop :=
  ∀ Hk0 H0 env w σ Hk H, Pre c Hk0 H0 env w σ Hk H → ∀ s w', φ env w = some (s, w') →
    ∀ Q : VK, (∀ v Hk' H', Stp c.Z Hk H Hk' H' → c.Z.ok w' H' → SlV c H Hk' H' s v → Q v H') → t σ H Q
structure DV (X : Cx) (c : Cfg) (e : Expr) (t : TE) (φ : VM c.Z.W) : Prop where
  p : PE X e t
  k : VOk c t φ
def vE {W : Type} (f : EM W) : VM W := fun env w => (f env w).map fun p => (.val p.1, p.2)
def vL {W : Type} (f : AM W) : VM W := fun env w => (f env w).map fun p => (.own p.1, p.2)
theorem vE_ok {t : TE} {φ : EM c.Z.W} (h : EOk c t φ) : VOk c t (vE φ) := by
  intro Hk0 H0 env w σ Hk H p s w' e Q q
  obtain ⟨⟨d, w1⟩, e1, e⟩ := map_some e
  cases e
  exact h _ _ _ _ _ _ _ p d w1 e1 Q fun v Hk1 H1 s1 o1 r1 => q v Hk1 H1 s1 o1 r1
theorem vL_ok {t : TE} {φ : AM c.Z.W} (h : LOk c t φ) : VOk c t (vL φ) := by
  intro Hk0 H0 env w σ Hk H p s w' e Q q
  obtain ⟨⟨d, w1⟩, e1, e⟩ := map_some e
  cases e
  exact h _ _ _ _ _ _ _ p d w1 e1 Q fun a vs Hk1 H1 s1 o1 h0 hk h1 r1 => q _ Hk1 H1 s1 o1 ⟨a, vs, rfl, h0, hk, h1, r1⟩
theorem DE.v {e : Expr} {t : TE} {φ : EM c.Z.W} (h : DE X c e t φ) : DV X c e t (vE φ) := ⟨h.p, vE_ok h.k⟩
theorem DL'.v {e : Expr} {t : TE} {φ : AM c.Z.W} (h : DL' X c e t φ) : DV X c e t (vL φ) := ⟨h.p, vL_ok h.k⟩
/-- {} -/
theorem dv_dict {pos : Pos} : DV X c (.Dict [] [] pos) tDNewK (fun _ w => some (.ownd [] [], w)) := by
  refine ⟨pe_dnewK, ?_⟩
  intro Hk0 H0 env w σ Hk H p s w' e Q q
  cases e
  intro a ha
  exact q _ Hk _ (StpP.own p.g ha).s ((StpP.own p.g ha).ok p.w) ⟨a, [], rfl, ha, hk_none p.g ha, upd_same, rfl, rfl⟩
theorem SlV.step {H Hk1 H1 Hk2 H2 : Hp} {s : Sl} {v : V} (a : Stp c.Z Hk1 H1 Hk2 H2) (g0 : ∀ x, c.Z.FP x → H x ≠ none) (h : SlV c H Hk1 H1 s v) : SlV c H Hk2 H2 s v := by
  have nk : ∀ {p : Addr} {o : HO}, H1 p = some o → Hk1 p = none → Hk2 p = none := fun {p o} h hk => by
    cases z : Hk2 p with
    | none => rfl
    | some u =>
      rcases a.new p (ne_none z) with z | z
      · exact absurd hk z
      · rw [h] at z; cases z
  cases s with
  | val d => exact Rep.mono a.k h
  | own l =>
    obtain ⟨p, vs, e, h0, hk, h1, r⟩ := h
    exact ⟨p, vs, e, h0, nk h1 hk, a.keep _ _ (fun f => g0 p f h0) h1, r.mono a.k⟩
  | ownd ks l =>
    obtain ⟨p, vs, e, h0, hk, h1, hl, r⟩ := h
    exact ⟨p, vs, e, h0, nk h1 hk, a.keep _ _ (fun f => g0 p f h0) h1, hl, r.mono a.k⟩
  | _ => exact h
section
variable {Hk0 H0 Hk H Hk1 H1 : Hp} {env : Env'} {w w1 : c.Z.W} {σ : L2.St}
theorem SlV.slr {s : Sl} {v : V} {x : Option (Option V)} (p : Pre c Hk0 H0 env w σ Hk H) (h : SlV c H Hk1 H1 s v) (hx : x = some (some v)) : SlR c H0 Hk1 H1 s x := by
  subst hx
  have h0 : ∀ {q : Addr}, H q = none → H0 q = none ∧ ¬ c.Z.FP q := fun {q} hq => by
    have f : ¬ c.Z.FP q := fun f => p.g.dm q f hq
    refine ⟨?_, f⟩
    cases z : H0 q with
    | none => rfl
    | some o =>
      by_cases hs : c.S q
      · obtain ⟨_, ⟨_, _, _, z⟩, _⟩ := p.self q hs
        rw [z] at hq; cases hq
      · rw [p.keep q o f hs z] at hq; cases hq
  cases s with
  | un => trivial
  | val d => exact ⟨v, rfl, h⟩
  | own l =>
    obtain ⟨q, vs, e, hq, hk, h1, r⟩ := h
    exact ⟨q, vs, by rw [e], ⟨.inl (h0 hq).1, hk, (h0 hq).2, h1⟩, r⟩
  | ownd ks l =>
    obtain ⟨q, vs, e, hq, hk, h1, hl, r⟩ := h
    exact ⟨q, vs, by rw [e], ⟨.inl (h0 hq).1, hk, (h0 hq).2, h1⟩, hl, r⟩
  | obj k l => exact h.elim
  | fn f => exact h.elim
theorem mut_at {s : Sl} {x : Option (Option V)} (h : SlR c H0 Hk H s x) (m : s.mut = true) : ∃ p o, x = some (some (.ref p)) ∧ Mine c H0 Hk H p o := by
  cases s with
  | own l => obtain ⟨p, vs, e, mn, _⟩ := h; exact ⟨p, _, e, mn⟩
  | ownd ks l => obtain ⟨p, vs, e, mn, _⟩ := h; exact ⟨p, _, e, mn⟩
  | obj k l => obtain ⟨p, dx, vs, e, mn, _⟩ := h; exact ⟨p, _, e, mn⟩
  | un => cases m
  | val d => cases m
  | fn f => cases m
theorem slv_at {s : Sl} {v : V} (h : SlV c H Hk1 H1 s v) (m : s.mut = true) : ∃ p, v = .ref p ∧ H p = none := by
  cases s with
  | own l => obtain ⟨p, vs, e, h0, _⟩ := h; exact ⟨p, e, h0⟩
  | ownd ks l => obtain ⟨p, vs, e, h0, _⟩ := h; exact ⟨p, e, h0⟩
  | obj k l => exact h.elim
  | un => cases m
  | val d => cases m
  | fn f => cases m
/-- a slot gets a value that was made since (at H) -/
theorem Pre.put (p : Pre c Hk0 H0 env w σ Hk H) (a : Stp c.Z Hk H Hk1 H1) (o : c.Z.ok w1 H1) (i : Nat) {s : Sl} {v : V} (h : SlV c H Hk1 H1 s v) : Pre c Hk0 H0 (env.set i s) w1 (σ.set i (some v)) Hk1 H1 := by
  have p1 := p.step a o
  refine ⟨p1.k, p1.base, p1.g, p1.new, p1.keep, p1.self, p1.w, by rw [List.length_set, List.length_set]; exact p.len, fun j t e => ?_, fun j k q t u hjk e1 e2 m1 m2 hq => ?_⟩
  · by_cases hij : i = j
    · subst hij
      by_cases hl : i < env.length
      · rw [List.getElem?_set_self hl] at e
        cases e
        exact h.slr p (List.getElem?_set_self (by rw [← p.len]; exact hl))
      · rw [List.getElem?_eq_none (by rw [List.length_set]; omega)] at e; cases e
    · rw [List.getElem?_set_ne hij] at e ⊢
      exact p1.sl j t e
  · have old : ∀ {j : Nat} {t : Sl} {q : Addr}, env[j]? = some t → t.mut = true → σ[j]? = some (some (.ref q)) → H q ≠ none := fun {j t q} e m hq => by
      obtain ⟨r, u, e3, mn⟩ := mut_at (p.sl j t e) m
      rw [hq] at e3
      cases e3
      exact ne_none mn.at_
    by_cases hj : i = j
    · subst hj
      have hl : i < env.length := by
        rcases Nat.lt_or_ge i env.length with z | z
        · exact z
        · rw [List.getElem?_eq_none (by rw [List.length_set]; omega)] at e1; cases e1
      rw [List.getElem?_set_self hl] at e1
      cases e1
      rw [List.getElem?_set_self (by rw [← p.len]; exact hl)] at hq
      obtain ⟨r, ev, h0⟩ := slv_at h m1
      cases hq
      cases ev
      rw [List.getElem?_set_ne hjk] at e2 ⊢
      intro hq
      exact old e2 m2 hq h0
    · by_cases hk : i = k
      · subst hk
        have hl : i < env.length := by
          rcases Nat.lt_or_ge i env.length with z | z
          · exact z
          · rw [List.getElem?_eq_none (by rw [List.length_set]; omega)] at e2; cases e2
        rw [List.getElem?_set_self hl] at e2
        cases e2
        rw [List.getElem?_set_self (by rw [← p.len]; exact hl)]
        rw [List.getElem?_set_ne hj] at e1 hq
        obtain ⟨r, ev, h0⟩ := slv_at h m2
        intro hq'
        cases hq'
        cases ev
        exact old e1 m1 hq h0
      · rw [List.getElem?_set_ne hj] at e1 hq
        rw [List.getElem?_set_ne hk] at e2 ⊢
        exact p1.ap j k q t u hjk e1 e2 m1 m2 hq
end
def sSet {W : Type} (i : Nat) (f : VM W) : SM W := fun env w => (f env w).map fun p => (.nx, env.set i p.1, p.2)
theorem sSet_ok (i : Nat) {t : TE} {φ : VM c.Z.W} (h : VOk c t φ) : SOk c (tAsg t (gName i)) (sSet i φ) := by
  intro Hk0 H0 env w σ Hk H p o env' w' e Dn hh
  obtain ⟨⟨s, w1⟩, e1, e⟩ := map_some e
  cases e
  exact h _ _ _ _ _ _ _ p s w1 e1 _ fun v Hk1 H1 s1 o1 r1 => hh _ Hk1 H1 (p.put s1 o1 i r1) s1.k
theorem ds_set (i : Nat) {x : Str} {e : Expr} {te : TE} {φ : VM c.Z.W} {pos pos' : Pos} (hN : X.N.Nodup) (h : DV X c e te φ) (hi : X.N[i]? = some x := by rfl) (hx : Loc X.env.scope x := by first | exact Or.inl rfl | exact Or.inr rfl) (hs : swapsWith e (some (.Name x pos')) pos.line X.env = pure false := by rfl) (hf : X.fn x = true ∨ X.env.scope.names.lookup x = some .local := by first | exact .inl rfl | exact .inr rfl | assumption) :
    DS X c (.Assign [.Name x pos'] e pos) (tAsg te (gName i)) (sSet i φ) := ⟨ps_set hN hi hx h.p hs hf, sSet_ok i h.k⟩
/-- name = [.. for ..] on one line, the name a local -/
theorem ds_setLc (i : Nat) {y : Str} {py : Pos} {elt tg iter : Expr} {ifs : List Expr} {scope : Scope} {own : List (Str × Nat)} {pos spos : Pos} {wi : TI} {g : TG} {tt : TT} {te : TE} {ι : AM c.Z.W} {γ : GM} {χ : TM c.Z.W} {φ : EM c.Z.W} {ts : List Nat} (hc : X.calm = true) (hN : X.N.Nodup) (hi : DIc X c tg iter wi ι) (ok : BlkOk X.N X.env.scope scope own)
    (hg : ∀ (s : Shared) (H : Hp) (C : Addr) (cl : List (Str × Addr)) (fp : List Addr), DG (X.blk s H scope (compEnvC scope cl C X.env) fp) c tg g γ ts) (ht : ∀ (s : Shared) (H : Hp) (C : Addr) (cl : List (Str × Addr)) (fp : List Addr), DTs (X.blk s H scope (compEnvC scope cl C X.env) fp) c ifs tt χ)
    (he : ∀ (s : Shared) (H : Hp) (C : Addr) (cl : List (Str × Addr)) (fp : List Addr), DE (X.blk s H scope (compEnvC scope cl C X.env) fp) c elt te φ) (hy : X.N[i]? = some y := by rfl) (hyl : X.env.scope.names.lookup y = some .local := by rfl)
    (hsw : swapsWith (.ListComp elt [⟨tg, iter, ifs, 0⟩] scope pos) (some (.Name y py)) spos.line X.env = pure true := by exact sw_true rfl rfl rfl (by decide +kernel)) (hts : ∀ i ∈ ts, i ∈ own.map (·.2) := by decide) (hs : ∀ x, foldedSetIterable iter X.env x = pure x := by intro _; rfl) :
    DS X c (.Assign [.Name y py] (.ListComp elt [⟨tg, iter, ifs, 0⟩] scope pos) spos) (tAsg (tLc wi g tt te (own.map (·.2))) (gName i)) (sSet i (vL (lLc (own.map (·.2)) ι γ χ φ))) :=
  ⟨ps_setLc hc hN hy hyl hsw hi.p ok (fun s H C cl fp => (hg s H C cl fp).p) (fun s H C cl fp => (ht s H C cl fp).p) (fun s H C cl fp => (he s H C cl fp).p) hs,
    sSet_ok i (vL_ok (lc_ok hi.k (hg {} (fun _ => none) 0 [] []).k hts (ht {} (fun _ => none) 0 [] []).k (he {} (fun _ => none) 0 [] []).k))⟩
/-- target = value -/
def sAsg {W : Type} (f : EM W) (γ : GM) : SM W := fun env w => (f env w).bind fun p => (γ p.1 env).map fun env => (.nx, env, p.2)
theorem ds_asg {tg e : Expr} {te : TE} {g : TG} {φ : EM c.Z.W} {γ : GM} {ts : List Nat} {pos : Pos} (h : DE X c e te φ) (hg : DG X c tg g γ ts) (hs : swapsWithSole [tg] e pos.line X.env = pure false := by rfl) (hw : swappedStores [tg] e X.env = pure none := by rfl)
    (h1 : (assignEach [tg] X.env).map (·.2) = [assign tg X.env] := by rfl) : DS X c (.Assign [tg] e pos) (tAsg te g) (sAsg φ γ) := by
  refine ⟨ps_asg h.p hg.p hs hw h1, ?_⟩
  intro Hk0 H0 env w σ Hk H p o env' w' e Dn hh
  obtain ⟨⟨d, w1⟩, e1, e⟩ := bind_some e
  obtain ⟨env1, e2, e⟩ := map_some e
  cases e
  refine h.k _ _ _ _ _ _ _ p d w1 e1 _ fun v Hk1 H1 s1 o1 r1 => ?_
  exact hg.k _ _ _ _ _ _ _ (p.step s1 o1) d v _ r1 e2 _ fun σ' p' _ => hh σ' Hk1 H1 p' s1.k
/-- a, b = x, y -/
def sPar {W : Type} (i j : Nat) (f g : VM W) : SM W := fun env w => (f env w).bind fun p => (g env p.2).map fun q => (.nx, (env.set i p.1).set j q.1, q.2)
theorem ds_par (i j : Nat) {x y : Str} {a b : Expr} {ta tb : TE} {φ ψ : VM c.Z.W} {px py pt pos : Pos} {kt k2 pt2} (hc : X.calm = true) (hN : X.N.Nodup) (ha : DV X c a ta φ) (hb : DV X c b tb ψ) (hi : X.N[i]? = some x := by rfl) (hj : X.N[j]? = some y := by rfl) (hij : i ≠ j := by decide)
    (hx : X.env.scope.names.lookup x = some .local := by rfl) (hy : X.env.scope.names.lookup y = some .local := by rfl)
    (hs1 : starEach (a :: [b]) X.env = (false, eval a X.env) :: starEach [b] X.env := by rfl) (hs2 : starEach (b :: []) X.env = (false, eval b X.env) :: starEach [] X.env := by rfl)
    (hw : swappedStores [.Tuple [.Name x px, .Name y py] kt pt] (.Tuple [a, b] k2 pt2) X.env = pure (some [x, y]) := by rfl)
    (hs : swapsWithSole [.Tuple [.Name x px, .Name y py] kt pt] (.Tuple [a, b] k2 pt2) pos.line X.env = pure false := by rfl) :
    DS X c (.Assign [.Tuple [.Name x px, .Name y py] kt pt] (.Tuple [a, b] k2 pt2) pos) (tPar i j (tCons ta (tCons tb tNil))) (sPar i j φ ψ) := by
  refine ⟨ps_par hc hN hi hj hij hx hy (pa_cons ha.p (pa_cons hb.p pa_nil hs2) hs1) hw hs, ?_⟩
  intro Hk0 H0 env w σ Hk H p o env' w' e Dn hh
  obtain ⟨⟨s, w1⟩, e1, e⟩ := bind_some e
  obtain ⟨⟨t, w2⟩, e2, e⟩ := map_some e
  cases e
  refine ha.k _ _ _ _ _ _ _ p s w1 e1 _ fun v Hk1 H1 s1 o1 r1 => ?_
  have p1 := p.step s1 o1
  refine hb.k _ _ _ _ _ _ _ p1 t w2 e2 _ fun u Hk2 H2 s2 o2 r2 => ?_
  refine ⟨v, u, rfl, ?_⟩
  -- first the later one at its place, then the earlier one
  have pj : Pre c Hk0 H0 (env.set i s) w1 (σ.set i (some v)) Hk1 H1 := p.put s1 o1 i r1
  exact hh _ Hk2 H2 (pj.put s2 o2 j r2) (s1.k.trans s2.k)
end
end DL
set_option Elab.async false
set_option linter.all false
set_option maxRecDepth 100000
set_option maxHeartbeats 4000000
/-! DLh: loops; what a frame changes. -/
namespace DL
open PySem L2 Evl
section
variable {X : Cx} {c : Cfg}
/-! ### for -/
def forGo {W : Type} (γ : GM) (ψ : SM W) : List D → Env' → W → Option (Out × Env' × W)
  | [], env, w => some (.nx, env, w)
  | d :: l, env, w => (γ d env).bind fun env => (ψ env w).bind fun p => match p.1 with
    | .nx => forGo γ ψ l p.2.1 p.2.2
    | .ct => forGo γ ψ l p.2.1 p.2.2
    | .bk => some (.nx, p.2.1, p.2.2)
    | .rt d => some (.rt d, p.2.1, p.2.2)
def sFor {W : Type} (ι : AM W) (γ : GM) (ψ : SM W) : SM W := fun env w => (ι env w).bind fun p => forGo γ ψ p.1 env p.2
theorem for_ok {wi : TI} {g : TG} {tb : TS} {ι : AM c.Z.W} {γ : GM} {ψ : SM c.Z.W} {ts : List Nat} (hi : IOk c wi ι) (hg : GOk c g γ ts) (hb : SOk c tb ψ) : SOk c (tFor wi g tb) (sFor ι γ ψ) := by
  intro Hk0 H0 env w σ Hk H p o env' w' e Dn hh
  obtain ⟨⟨items, w1⟩, e1, e⟩ := bind_some e
  have e : forGo γ ψ items env w1 = some (o, env', w') := e
  refine hi _ _ _ _ _ _ _ p items w1 e1 _ fun J Hk1 H1 s1 o1 wk => ?_
  have W1 := wk (fun Hk2 H2 => Gd c.Z Hk2 H2 ∧ Ex Hk1 Hk2) fun _ _ z => z
  refine ⟨fun i m σ2 H2 => m = items.length - i ∧ i ≤ items.length ∧ ∃ Hk2 env2 w2, Pre c Hk0 H0 env2 w2 σ2 Hk2 H2 ∧ Ex Hk1 Hk2 ∧ forGo γ ψ (items.drop i) env2 w2 = some (o, env', w'),
    ⟨items.length, by simp, Nat.zero_le _, Hk1, env, w1, p.step s1 o1, Ex.refl _, by simpa using e⟩, ?_⟩
  rintro i m σ2 H2 ⟨rfl, hi', Hk2, env2, w2, p2, x2, eg⟩
  by_cases hlt : i < items.length
  · refine .inr ⟨W1.go i Hk2 H2 ⟨p2.g, x2⟩ hlt, fun σ' H' => i + 1 ≤ items.length ∧ ∃ Hk2 env2 w2, Pre c Hk0 H0 env2 w2 σ' Hk2 H' ∧ Ex Hk1 Hk2 ∧ forGo γ ψ (items.drop (i + 1)) env2 w2 = some (o, env', w'),
      fun σ' H' z => ⟨items.length - (i + 1), by omega, rfl, z.1, z.2⟩, fun x H3 y => ?_⟩
    rw [drop_cons hlt] at eg
    obtain ⟨env3, g1, eg⟩ := bind_some (show (γ items[i] env2).bind _ = _ from eg)
    obtain ⟨⟨o4, env4, w4⟩, g2, eg⟩ := bind_some eg
    obtain ⟨Hk3, s3, r3⟩ := W1.yld i Hk2 H2 x H3 items[i] ⟨p2.g, x2⟩ (List.getElem?_eq_getElem hlt) y
    have p3 := p2.step s3.s (s3.ok p2.w)
    refine hg _ _ _ _ _ _ _ p3 _ x env3 r3 g1 _ fun σ4 p4 _ => ?_
    refine hb _ _ _ _ _ _ _ p4 o4 env4 w4 g2 _ ?_
    have x3 : Ex Hk1 Hk3 := x2.trans s3.s.k
    cases o4 with
    | nx => exact fun σ' Hk' H' p' x => ⟨hlt, Hk', env4, w4, p', x3.trans x, eg⟩
    | ct => exact fun σ' Hk' H' p' x => ⟨hlt, Hk', env4, w4, p', x3.trans x, eg⟩
    | bk => cases eg; exact fun σ' Hk' H' p' x => hh σ' Hk' H' p' ((s1.k.trans x3).trans x)
    | rt d => cases eg; exact fun v σ' Hk' H' p' x r => hh v σ' Hk' H' p' ((s1.k.trans x3).trans x) r
  · have ei : i = items.length := by omega
    subst ei
    refine .inl ⟨W1.stop Hk2 H2 ⟨p2.g, x2⟩, ?_⟩
    rw [List.drop_length] at eg
    cases eg
    exact hh σ2 Hk2 H2 p2 (s1.k.trans x2)
theorem ds_for {tg iter : Expr} {body : List Stmt} {wi : TI} {g : TG} {tb : TS} {ι : AM c.Z.W} {γ : GM} {ψ : SM c.Z.W} {ts : List Nat} {pos : Pos} (hp : PassesOwn (model X.prog X.w) X.A X.env X.xe) (hc : X.calm = true) (hi : DI X c tg iter wi ι) (hg : DG X c tg g γ ts) (hb : DSs X c body tb ψ)
    (hs : ∀ x, foldedSetIterable iter X.env x = pure x := by intro _; rfl) : DS X c (.For tg iter body [] pos) (tFor wi g tb) (sFor ι γ ψ) :=
  ⟨ps_for hp hc hi.p hg.p hb.p hs, for_ok hi.k hg.k hb.k⟩

/-! ### while -/
def whGo {W : Type} (χ : TM W) (ψ : SM W) : Nat → Env' → W → Option (Out × Env' × W)
  | 0, _, _ => none
  | n + 1, env, w => (χ env w).bind fun p => if p.1 = true then (ψ env p.2).bind fun q => match q.1 with
      | .nx => whGo χ ψ n q.2.1 q.2.2
      | .ct => whGo χ ψ n q.2.1 q.2.2
      | .bk => some (.nx, q.2.1, q.2.2)
      | .rt d => some (.rt d, q.2.1, q.2.2)
    else some (.nx, env, p.2)
theorem whGo_more {W : Type} {χ : TM W} {ψ : SM W} : ∀ {n m : Nat} {env : Env'} {w : W} {r}, whGo χ ψ n env w = some r → n ≤ m → whGo χ ψ m env w = some r
  | 0, _, _, _, _, h, _ => by cases h
  | n + 1, 0, _, _, _, _, h => by omega
  | n + 1, m + 1, env, w, r, h, hm => by
    unfold whGo at h ⊢
    obtain ⟨p, e1, h⟩ := bind_some h
    rw [e1]
    show (if p.1 = true then _ else _) = _
    split at h
    · rename_i hp
      rw [if_pos hp]
      obtain ⟨q, e2, h⟩ := bind_some h
      rw [e2]
      show (match q.1 with | .nx => _ | .ct => _ | .bk => _ | .rt d => _) = _
      obtain ⟨o, env1, w1⟩ := q
      cases o with
      | nx => exact whGo_more h (by omega)
      | ct => exact whGo_more h (by omega)
      | bk => exact h
      | rt d => exact h
    · rename_i hp
      rw [if_neg hp]
      exact h
open Classical in
noncomputable def sWhile {W : Type} (χ : TM W) (ψ : SM W) : SM W := fun env w => if h : ∃ n, (whGo χ ψ n env w).isSome = true then whGo χ ψ h.choose env w else none
theorem sWhile_of {W : Type} {χ : TM W} {ψ : SM W} {n : Nat} {env : Env'} {w : W} {r} (h : whGo χ ψ n env w = some r) : sWhile χ ψ env w = some r := by
  have hx : ∃ n, (whGo χ ψ n env w).isSome = true := ⟨n, by rw [h]; rfl⟩
  unfold sWhile
  rw [dif_pos hx]
  cases z : whGo χ ψ hx.choose env w with
  | none => have := hx.choose_spec; rw [z] at this; cases this
  | some q =>
    have h1 := whGo_more z (Nat.le_max_left _ n)
    have h2 := whGo_more h (Nat.le_max_right hx.choose _)
    rw [h1] at h2
    exact h2
theorem while_ok {tc : TT} {tb : TS} {χ : TM c.Z.W} {ψ : SM c.Z.W} (hc : TOk c tc χ) (hb : SOk c tb ψ) : SOk c (tWhile tc tb) (sWhile χ ψ) := by
  intro Hk0 H0 env w σ Hk H p o env' w' e Dn hh
  unfold sWhile at e
  split at e
  · generalize Exists.choose _ = n at e
    refine ⟨fun m σ2 H2 => ∃ Hk2 env2 w2, Pre c Hk0 H0 env2 w2 σ2 Hk2 H2 ∧ Ex Hk Hk2 ∧ whGo χ ψ m env2 w2 = some (o, env', w'), ⟨n, Hk, env, w, p, Ex.refl _, e⟩, ?_⟩
    rintro m σ2 H2 ⟨Hk2, env2, w2, p2, x2, eg⟩
    cases m with
    | zero => cases eg
    | succ m =>
      obtain ⟨⟨b, w3⟩, e1, eg⟩ := bind_some (show (χ env2 w2).bind _ = _ from eg)
      refine hc _ _ _ _ _ _ _ p2 b w3 e1 _ fun Hk3 H3 s3 o3 => ?_
      have p3 := p2.step s3 o3
      have x3 := x2.trans s3.k
      split at eg
      · rename_i hb'
        have hb' : b = true := hb'
        rw [if_pos hb']
        obtain ⟨⟨o4, env4, w4⟩, e2, eg⟩ := bind_some eg
        refine ⟨fun σ' H' => ∃ Hk2 env2 w2, Pre c Hk0 H0 env2 w2 σ' Hk2 H' ∧ Ex Hk Hk2 ∧ whGo χ ψ m env2 w2 = some (o, env', w'), fun σ' H' z => ⟨m, Nat.lt_succ_self m, z⟩, ?_⟩
        refine hb _ _ _ _ _ _ _ p3 o4 env4 w4 e2 _ ?_
        cases o4 with
        | nx => exact fun σ' Hk' H' p' x => ⟨Hk', env4, w4, p', x3.trans x, eg⟩
        | ct => exact fun σ' Hk' H' p' x => ⟨Hk', env4, w4, p', x3.trans x, eg⟩
        | bk => cases eg; exact fun σ' Hk' H' p' x => hh σ' Hk' H' p' (x3.trans x)
        | rt d => cases eg; exact fun v σ' Hk' H' p' x r => hh v σ' Hk' H' p' (x3.trans x) r
      · rename_i hb'
        have hb' : ¬ b = true := hb'
        rw [if_neg hb']
        cases eg
        exact hh σ2 Hk3 H3 p3 x3
  · cases e
theorem ds_while {t : Expr} {body : List Stmt} {tc : TT} {tb : TS} {χ : TM c.Z.W} {ψ : SM c.Z.W} {pos : Pos} (hp : PassesOwn (model X.prog X.w) X.A X.env X.xe) (hc : DT X c t tc χ) (hb : DSs X c body tb ψ) : DS X c (.While t body [] pos) (tWhile tc tb) (sWhile χ ψ) :=
  ⟨ps_while hp hc.p hb.p, while_ok hc.k hb.k⟩

/-! ### what changes -/
section
variable {Hk0 H0 Hk H Hk1 H1 : Hp} {env : Env'} {w w1 : c.Z.W} {σ : L2.St}
/-- an object of the frame's own is written anew -/
theorem Pre.mut (p : Pre c Hk0 H0 env w σ Hk H) {i : Nat} {q : Addr} {s s' : Sl} {u o' : HO} (hi : env[i]? = some s) (m : s.mut = true) (hq : σ[i]? = some (some (.ref q))) (mn : Mine c H0 Hk H q u) (hx : ∀ φ, u ≠ .ext φ) (hS : c.S q → ∃ C dx fs, o' = .ins C dx fs)
    (hs : Mine c H0 Hk (upd H q o') q o' → SlR c H0 Hk (upd H q o') s' (some (some (.ref q)))) : Pre c Hk0 H0 (env.set i s') w σ Hk (upd H q o') := by
  have hl : i < env.length := (List.getElem?_eq_some_iff.mp hi).1
  have mn' : Mine c H0 Hk (upd H q o') q o' := ⟨mn.h0, mn.hk, mn.nf, upd_same⟩
  refine ⟨p.k, p.base, ⟨fun a v h => ?_, p.g.nf, fun a f => ?_⟩, p.new, fun a v f s h => ?_, fun a h => ?_, ok_mut p.w mn.nf (fun φ z => by rw [mn.at_] at z; exact hx φ (Option.some.inj z)), by rw [List.length_set]; exact p.len, fun j t e => ?_, fun j k r t v hjk e1 e2 m1 m2 h => ?_⟩
  · rw [upd_ne (fun z => by rw [z, mn.hk] at h; cases h)]; exact p.g.e a v h
  · rw [upd_ne (fun z : a = q => mn.nf (z ▸ f))]; exact p.g.dm a f
  · rcases mn.h0 with z | z
    · rw [upd_ne (ne_of_none h z)]; exact p.keep a v f s h
    · rw [upd_ne (fun y : a = q => s (y ▸ z))]; exact p.keep a v f s h
  · obtain ⟨h1, h2, h3⟩ := p.self a h
    refine ⟨h1, ?_, h3⟩
    by_cases z : a = q
    · subst z
      obtain ⟨C, dx, fs, e⟩ := hS h
      exact ⟨C, dx, fs, by rw [upd_same, e]⟩
    · rw [upd_ne z]; exact h2
  · by_cases z : i = j
    · subst z
      rw [List.getElem?_set_self hl] at e
      cases e
      rw [hq]
      exact hs mn'
    · rw [List.getElem?_set_ne z] at e
      have old := p.sl j t e
      have mv : ∀ {q' : Addr} {o : HO}, t.mut = true → σ[j]? = some (some (.ref q')) → Mine c H0 Hk H q' o → Mine c H0 Hk (upd H q o') q' o := fun {q' o} mt hx mq => by
        have ne : q' ≠ q := fun y => p.ap i j q s t z hi e m mt hq (by rw [← y]; exact hx)
        exact ⟨mq.h0, mq.hk, mq.nf, by rw [upd_ne ne]; exact mq.at_⟩
      cases t with
      | un => trivial
      | val d => exact old
      | own l => obtain ⟨r, vs, ex, mr, rl⟩ := old; exact ⟨r, vs, ex, mv rfl ex mr, rl⟩
      | ownd ks l => obtain ⟨r, vs, ex, mr, hl', rl⟩ := old; exact ⟨r, vs, ex, mv rfl ex mr, hl', rl⟩
      | obj k l => obtain ⟨r, dx, vs, ex, mr, hs', hl', rl⟩ := old; exact ⟨r, dx, vs, ex, mv rfl ex mr, hs', hl', rl⟩
      | fn f => exact old
  · have back : ∀ {j : Nat} {t : Sl}, (env.set i s')[j]? = some t → t.mut = true → ∃ t', env[j]? = some t' ∧ t'.mut = true := fun {j t} e mt => by
      by_cases z : i = j
      · subst z; exact ⟨s, hi, m⟩
      · rw [List.getElem?_set_ne z] at e; exact ⟨t, e, mt⟩
    obtain ⟨t1, f1, n1⟩ := back e1 m1
    obtain ⟨t2, f2, n2⟩ := back e2 m2
    exact p.ap j k r t1 t2 hjk f1 f2 n1 n2 h
/-- a list of the frame's own becomes data -/
def Sl.frz : Sl → Sl
  | .own l => .val (.lst l)
  | s => s
def frzE (i : Nat) (env : Env') : Env' := match env[i]? with
  | some s => env.set i s.frz
  | none => env
theorem frzE_same {i : Nat} {env : Env'} {s : Sl} (hi : env[i]? = some s) (h : s.frz = s) : frzE i env = env := by
  unfold frzE
  rw [hi]
  show env.set i s.frz = env
  rw [h]
  apply List.ext_getElem?
  intro j
  by_cases z : i = j
  · subst z
    rw [List.getElem?_set_self (List.getElem?_eq_some_iff.mp hi).1, hi]
  · rw [List.getElem?_set_ne z]
theorem Pre.know (p : Pre c Hk0 H0 env w σ Hk H) {i : Nat} {q : Addr} {s s' : Sl} {o : HO} (hi : env[i]? = some s) (m : s.mut = true) (hq : σ[i]? = some (some (.ref q))) (mn : Mine c H0 Hk H q o) (hS : ¬ c.S q) (m' : s'.mut = false)
    (hs : SlR c H0 (upd Hk q o) H s' (some (some (.ref q)))) : Pre c Hk0 H0 (env.set i s') w σ (upd Hk q o) H := by
  have hl : i < env.length := (List.getElem?_eq_some_iff.mp hi).1
  have x : Ex Hk (upd Hk q o) := Ex.new mn.hk
  refine ⟨p.k.trans x, c.Bm x p.base, StpP.know p.g mn.at_ mn.hk mn.nf, fun a h => ?_, p.keep, fun a h => ?_, p.w, by rw [List.length_set]; exact p.len, fun j t e => ?_, fun j k r t v hjk e1 e2 m1 m2 h => ?_⟩
  · by_cases z : a = q
    · subst z
      rcases mn.h0 with y | y
      · exact .inr y
      · exact absurd y hS
    · rw [upd_ne z] at h; exact p.new a h
  · obtain ⟨h1, h2, h3⟩ := p.self a h
    exact ⟨by rw [upd_ne (fun z : a = q => hS (z ▸ h))]; exact h1, h2, h3⟩
  · by_cases z : i = j
    · subst z
      rw [List.getElem?_set_self hl] at e
      cases e
      rw [hq]
      exact hs
    · rw [List.getElem?_set_ne z] at e
      have old := p.sl j t e
      have mv : ∀ {q' : Addr} {o' : HO}, t.mut = true → σ[j]? = some (some (.ref q')) → Mine c H0 Hk H q' o' → Mine c H0 (upd Hk q o) H q' o' := fun {q' o'} mt hx mq => by
        have ne : q' ≠ q := fun y => p.ap i j q s t z hi e m mt hq (by rw [← y]; exact hx)
        exact ⟨mq.h0, by rw [upd_ne ne]; exact mq.hk, mq.nf, mq.at_⟩
      cases t with
      | un => trivial
      | val d => obtain ⟨v, ev, r⟩ := old; exact ⟨v, ev, r.mono x⟩
      | own l => obtain ⟨r, vs, ex, mr, rl⟩ := old; exact ⟨r, vs, ex, mv rfl ex mr, rl.mono x⟩
      | ownd ks l => obtain ⟨r, vs, ex, mr, hl', rl⟩ := old; exact ⟨r, vs, ex, mv rfl ex mr, hl', rl.mono x⟩
      | obj k l => obtain ⟨r, dx, vs, ex, mr, hs', hl', rl⟩ := old; exact ⟨r, dx, vs, ex, mv rfl ex mr, hs', hl', rl.mono x⟩
      | fn f => exact old
  · have back : ∀ {j : Nat} {t : Sl}, (env.set i s')[j]? = some t → t.mut = true → env[j]? = some t := fun {j t} e mt => by
      by_cases z : i = j
      · subst z
        rw [List.getElem?_set_self hl] at e
        cases e
        rw [m'] at mt; cases mt
      · rw [List.getElem?_set_ne z] at e; exact e
    exact p.ap j k r t v hjk (back e1 m1) (back e2 m2) m1 m2 h
theorem Pre.notS (p : Pre c Hk0 H0 env w σ Hk H) {q : Addr} {o : HO} (h : H q = some o) (ho : ∀ C dx fs, o ≠ .ins C dx fs) : ¬ c.S q := fun z => by
  obtain ⟨_, ⟨C, dx, fs, e⟩, _⟩ := p.self q z
  rw [h] at e
  cases e
  exact ho _ _ _ rfl
theorem Pre.frz (p : Pre c Hk0 H0 env w σ Hk H) (i : Nat) : ∃ Hk', Ex Hk Hk' ∧ Pre c Hk0 H0 (frzE i env) w σ Hk' H := by
  cases hi : env[i]? with
  | none => refine ⟨Hk, Ex.refl _, ?_⟩; unfold frzE; rw [hi]; exact p
  | some s =>
    have sl := p.sl i s hi
    cases s with
    | own l =>
      obtain ⟨q, vs, ex, mn, rl⟩ := sl
      have x : Ex Hk (upd Hk q (.lst vs)) := Ex.new mn.hk
      refine ⟨_, x, ?_⟩
      have := p.know (s' := .val (.lst l)) hi rfl ex mn (p.notS mn.at_ (by simp)) rfl ⟨_, rfl, q, vs, rfl, upd_same, rl.mono x⟩
      unfold frzE
      rw [hi]
      exact this
    | _ => exact ⟨Hk, Ex.refl _, by rw [frzE_same hi rfl]; exact p⟩
end
def sFrz {W : Type} (i : Nat) (ψ : SM W) : SM W := fun env w => ψ (frzE i env) w
theorem ds_frz (i : Nat) {st : Stmt} {t : TS} {ψ : SM c.Z.W} (h : DS X c st t ψ) : DS X c st t (sFrz i ψ) := by
  refine ⟨h.p, ?_⟩
  intro Hk0 H0 env w σ Hk H p o env' w' e Dn hh
  obtain ⟨Hk', x, p'⟩ := p.frz i
  exact h.k _ _ _ _ _ _ _ p' o env' w' e Dn (hh.mono x)
end
end DL
set_option Elab.async false
set_option linter.all false
set_option maxRecDepth 100000
set_option maxHeartbeats 4000000
/-! DLi: a look at a list of the frame's own; append, put, set, add. -/
namespace DL
open PySem L2 Evl
/-! ### without lists -/
mutual
/-- no list, no dict in it -/
def D.noL : D → Bool
  | .non => true
  | .bl _ => true
  | .int _ => true
  | .str _ => true
  | .tup l => D.noLs l
  | .lst _ => false
  | .scr _ => false
  | .dic _ _ => false
  | .ins _ l => D.noLs l
  | .ob => true
  | .pt _ => false
def D.noLs : List D → Bool
  | [] => true
  | d :: l => d.noL && D.noLs l
end
/-- all but q -/
def dropA (H : Hp) (q : Addr) : Hp := fun a => if a = q then none else H a
theorem dropA_ne {H : Hp} {q a : Addr} (h : a ≠ q) : dropA H q a = H a := if_neg h
theorem dropA_same {H : Hp} {q : Addr} : dropA H q q = none := if_pos rfl
def HO.isLD : HO → Bool
  | .lst _ => true
  | .dK _ => true
  | _ => false
section
variable {T : CT} {H : Hp} {q : Addr} {o : HO}
theorem sqT_drop {a : Addr} {vs : List V} (hq : H q = some o) (ho : HO.isLD o = true) (h : SqT T.K H a vs) : SqT T.K (dropA H q) a vs := by
  rcases h with h | h
  · refine .inl ?_
    rcases h with h | ⟨u, h⟩
    · refine .inl ?_
      rw [dropA_ne (fun z => by rw [z, hq] at h; cases h; cases ho)]; exact h
    · refine .inr ⟨u, ?_⟩
      rw [dropA_ne (fun z => by rw [z, hq] at h; cases h; cases ho)]; exact h
  · exact .inr h
mutual
theorem Rep.drop (hq : H q = some o) (ho : HO.isLD o = true) : ∀ {d : D} {v : V}, d.noL = true → Rep T H d v → Rep T (dropA H q) d v
  | .non, _, _, h => h
  | .bl _, _, _, h => h
  | .int _, _, _, h => h
  | .str _, _, _, h => h
  | .tup l, _, n, ⟨a, vs, h1, h2, h3⟩ => ⟨a, vs, h1, sqT_drop hq ho h2, RepL.dropq hq ho (by simpa [D.noL] using n) h3⟩
  | .lst _, _, n, _ => by simp [D.noL] at n
  | .scr _, _, n, _ => by simp [D.noL] at n
  | .dic _ _, _, n, _ => by simp [D.noL] at n
  | .ins k l, _, n, ⟨a, dx, vs, h1, h2, h4, h3⟩ => ⟨a, dx, vs, h1, by rw [dropA_ne (fun z => by rw [z, hq] at h2; cases h2; cases ho)]; exact h2, h4, RepL.dropq hq ho (by simpa [D.noL] using n) h3⟩
  | .ob, _, _, h => h
  | .pt _, _, n, _ => by simp [D.noL] at n
theorem RepL.dropq (hq : H q = some o) (ho : HO.isLD o = true) : ∀ {l : List D} {vs : List V}, D.noLs l = true → RepL T H l vs → RepL T (dropA H q) l vs
  | [], _, _, h => h
  | _ :: _, _, n, ⟨v, r, h1, h2, h3⟩ => by
    simp only [D.noLs, Bool.and_eq_true] at n
    exact ⟨v, r, h1, Rep.drop hq ho n.1 h2, RepL.dropq hq ho n.2 h3⟩
end
end
section
variable {X : Cx} {c : Cfg}
section
variable {Hk0 H0 Hk H Hk1 H1 : Hp} {env : Env'} {w w1 : c.Z.W} {σ : L2.St}
theorem Stp.drop {q : Addr} {o : HO} (s : Stp c.Z (upd Hk q o) H Hk1 H1) (hk : Hk q = none) : Stp c.Z Hk H (dropA Hk1 q) H1 where
  k := fun a u h => by
    have ne : a ≠ q := fun z => by rw [z, hk] at h; cases h
    rw [dropA_ne ne]
    exact s.k a u (by rw [upd_ne ne]; exact h)
  g := {
    e := fun a u h => by
      by_cases z : a = q
      · subst z; rw [dropA_same] at h; cases h
      · rw [dropA_ne z] at h; exact s.g.e a u h
    nf := fun a h => by
      by_cases z : a = q
      · subst z; exact absurd dropA_same h
      · rw [dropA_ne z] at h; exact s.g.nf a h
    dm := s.g.dm }
  new := fun a h => by
    by_cases z : a = q
    · subst z; exact absurd dropA_same h
    · rw [dropA_ne z] at h
      rcases s.new a h with y | y
      · rw [upd_ne z] at y; exact .inl y
      · exact .inr y
  keep := s.keep
/-- the frame with its list (at i) known, or as it stands -/
theorem Pre.peek (p : Pre c Hk0 H0 env w σ Hk H) (i : Nat) : Pre c Hk0 H0 (frzE i env) w σ Hk H ∨
    ∃ q o, HO.isLD o = true ∧ Hk q = none ∧ H q = some o ∧ Pre c Hk0 H0 (frzE i env) w σ (upd Hk q o) H := by
  cases hi : env[i]? with
  | none => refine .inl ?_; unfold frzE; rw [hi]; exact p
  | some s =>
    have sl := p.sl i s hi
    cases s with
    | own l =>
      obtain ⟨q, vs, ex, mn, rl⟩ := sl
      have x : Ex Hk (upd Hk q (.lst vs)) := Ex.new mn.hk
      refine .inr ⟨q, _, rfl, mn.hk, mn.at_, ?_⟩
      have := p.know (s' := .val (.lst l)) hi rfl ex mn (p.notS mn.at_ (by simp)) rfl ⟨_, rfl, q, vs, rfl, upd_same, rl.mono x⟩
      unfold frzE
      rw [hi]
      exact this
    | _ => exact .inl (by rw [frzE_same hi rfl]; exact p)
end
/-! ### a look -/
def ePeek {W : Type} (i : Nat) (φ : EM W) : EM W := fun env w => (φ (frzE i env) w).bind fun p => if p.1.noL = true then some p else none
theorem ePeek_ok (i : Nat) {t : TE} {φ : EM c.Z.W} (h : EOk c t φ) : EOk c t (ePeek i φ) := by
  intro Hk0 H0 env w σ Hk H p d w' e Q q
  obtain ⟨⟨d1, w1⟩, e1, e⟩ := bind_some e
  split at e
  · rename_i hn
    cases e
    rcases p.peek i with p' | ⟨a, o, ho, hk, ha, p'⟩
    · exact h _ _ _ _ _ _ _ p' d w' e1 Q q
    · refine h _ _ _ _ _ _ _ p' d w' e1 Q fun v Hk1 H1 s1 o1 r1 => ?_
      exact q v _ H1 (s1.drop hk) o1 (r1.drop (s1.k a o upd_same) ho hn)
  · cases e
theorem de_peek (i : Nat) {e : Expr} {t : TE} {φ : EM c.Z.W} (h : DE X c e t φ) : DE X c e t (ePeek i φ) := ⟨h.p, ePeek_ok i h.k⟩
def tPeek {W : Type} (i : Nat) (φ : TM W) : TM W := fun env w => φ (frzE i env) w
theorem dt_peek (i : Nat) {e : Expr} {t : TT} {φ : TM c.Z.W} (h : DT X c e t φ) : DT X c e t (tPeek i φ) := by
  refine ⟨h.p, ?_⟩
  intro Hk0 H0 env w σ Hk H p b w' e Q q
  rcases p.peek i with p' | ⟨a, o, ho, hk, ha, p'⟩
  · exact h.k _ _ _ _ _ _ _ p' b w' e Q q
  · exact h.k _ _ _ _ _ _ _ p' b w' e Q fun Hk1 H1 s1 o1 => q _ H1 (s1.drop hk) o1
def lPeek {W : Type} (i : Nat) (φ : AM W) : AM W := fun env w => (φ (frzE i env) w).bind fun p => if D.noLs p.1 = true then some p else none
theorem dl_peek (i : Nat) {e : Expr} {t : TE} {φ : AM c.Z.W} (h : DL' X c e t φ) : DL' X c e t (lPeek i φ) := by
  refine ⟨h.p, ?_⟩
  intro Hk0 H0 env w σ Hk H p d w' e Q q
  obtain ⟨⟨d1, w1⟩, e1, e⟩ := bind_some e
  split at e
  · rename_i hn
    cases e
    rcases p.peek i with p' | ⟨a, o, ho, hk, ha, p'⟩
    · exact h.k _ _ _ _ _ _ _ p' d w' e1 Q q
    · refine h.k _ _ _ _ _ _ _ p' d w' e1 Q fun r vs Hk1 H1 s1 o1 h0 hk1 h1 r1 => ?_
      refine q r vs _ H1 (s1.drop hk) o1 h0 ?_ h1 (r1.dropq (s1.k a o upd_same) ho hn)
      by_cases z : r = a
      · subst z; exact dropA_same
      · rw [dropA_ne z]; exact hk1
  · cases e

/-! ### append -/
/-- name.append(e) -/
def sApp {W : Type} (i : Nat) (f : EM W) : SM W := fun env w => (f env w).bind fun p => match env[i]? with
  | some (.own l) => if l.length < sizeLine then some (.nx, env.set i (.own (l ++ [p.1])), p.2) else none
  | _ => none
theorem ds_app (i : Nat) {x : Str} {e : Expr} {te : TE} {φ : EM c.Z.W} {px apos cpos pos : Pos} (h : DE X c e te φ) (hN : X.N[i]? = some x := by rfl) (hv : Vis X.env.scope x := by first | exact Or.inl rfl | exact Or.inr (Or.inl rfl) | exact Or.inr (Or.inr rfl))
    (hd : (x == ("__debug__" : Str)) = false := by decide) (hcd : (x == ("__classdict__" : Str)) = false := by decide)
    (hbase : attributeBase (.Name x px) "append" X.env (eval (.Name x px) X.env) = eval (.Name x px) X.env := by rfl)
    (hfew : ((backTo cpos (starEach [e] X.env)).all (fun x => !x.1) && (backToKw cpos (keywordEach [] X.env)).all (fun x => x.1.isSome)
      && decide ([e].length + ([] : List Keyword).length + (if ([] : List Keyword).isEmpty then 0 else 1) < 30)) = true := by rfl)
    (hline : (apos.endLine == cpos.line) = true := by rfl) (hs : starEach [e] X.env = (false, eval e X.env) :: starEach [] X.env := by rfl) (hplain : (backTo cpos (starEach [] X.env)).any (·.1) = false := by rfl)
    (hsw : swapsWith (.Call (.Attribute (.Name x px) "append" apos) [e] [] cpos) none pos.line X.env = pure false := by rfl) :
    DS X c (.Expr (.Call (.Attribute (.Name x px) "append" apos) [e] [] cpos) pos) (tDrop (tBM X.K "list" rAppend (tVar i) (tCons te tNil))) (sApp i φ) := by
  refine ⟨ps_expr (pe_bm PySem.F.plainAttrs_list PySem.F.slot_list_append PySem.F.type_list_append mt_append (pe_var hN hv hd hcd) (pa_cons h.p pa_nil hs) hbase hfew hline hs hplain) hsw, ?_⟩
  intro Hk0 H0 env w σ Hk H p o env' w' e Dn hh
  obtain ⟨⟨d, w1⟩, e1, e⟩ := bind_some e
  have e : (match env[i]? with | some (.own l) => if l.length < sizeLine then some (Out.nx, env.set i (.own (l ++ [d])), w1) else none | _ => none) = some (o, env', w') := e
  cases hi : env[i]? with
  | none => rw [hi] at e; cases e
  | some s =>
    rw [hi] at e
    cases s with
    | own l =>
      have e : (if l.length < sizeLine then some (Out.nx, env.set i (.own (l ++ [d])), w1) else none) = some (o, env', w') := e
      split at e
      · rename_i hl
        cases e
        obtain ⟨q, vs, ex, mn, rl⟩ := p.sl i _ hi
        refine ⟨.ref q, ex, .inl ⟨rfl, vs, SqL.of mn.at_⟩, ?_⟩
        refine h.k _ _ _ _ _ _ _ p d _ e1 _ fun v Hk1 H1 s1 o1 r1 => ?_
        have p1 := p.step s1 o1
        have mn1 := mn.step s1
        refine ⟨q, vs, v, rfl, rfl, mn1.at_, by rw [rl.length]; exact hl, ?_⟩
        have p2 := p1.mut (s' := .own (l ++ [d])) hi rfl ex mn1 (fun φ z => by cases z) (fun z => absurd z (p1.notS mn1.at_ (by simp))) fun mn2 => ⟨q, vs ++ [v], rfl, mn2, (rl.mono s1.k).snoc r1⟩
        exact hh _ _ _ p2 s1.k
      · cases e
    | _ => cases e
/-! ### name op= e -/
def sAug {W : Type} (i : Nat) (f : EM W) (op : D → D → Option D) : SM W := fun env w => match env[i]? with
  | some (.val a) => (f env w).bind fun p => (op a p.1).map fun d => (.nx, env.set i (.val d), p.2)
  | _ => none
def opII (f : Int → Int → Int) : D → D → Option D
  | .int a, .int b => some (.int (f a b))
  | _, _ => none
theorem ds_augI (i : Nat) {f : Int → Int → Int} {op : Operator} {x : Str} {e : Expr} {te : TE} {φ : EM c.Z.W} {pos pos' : Pos} (ho : PIp X op (ipI f)) (hN : X.N.Nodup) (h : DE X c e te φ) (hi : X.N[i]? = some x := by rfl) (hx : Loc X.env.scope x := by first | exact Or.inl rfl | exact Or.inr rfl)
    (hf : X.fn x = true ∨ X.env.scope.names.lookup x = some .local := by first | exact .inl rfl | exact .inr rfl | assumption) : DS X c (.AugAssign (.Name x pos') op e pos) (tAug i te (ipI f)) (sAug i φ (opII f)) := by
  refine ⟨ps_aug hN hi hx h.p ho hf, ?_⟩
  intro Hk0 H0 env w σ Hk H p o env' w' e Dn hh
  unfold sAug at e
  split at e
  · rename_i a hi'
    obtain ⟨⟨d, w1⟩, e1, e⟩ := bind_some e
    obtain ⟨d', e2, e⟩ := map_some e
    cases e
    obtain ⟨v, ev, rv⟩ := p.sl i _ hi'
    refine ⟨v, ev, ?_⟩
    refine h.k _ _ _ _ _ _ _ p d w1 e1 _ fun u Hk1 H1 s1 o1 r1 => ?_
    cases a <;> cases d <;> simp only [opII, reduceCtorEq, Option.some.injEq] at e2
    subst e2
    exact ⟨_, _, rv, r1, hh _ Hk1 H1 ((p.step s1 o1).set i rfl) s1.k⟩
  · cases e
/-- name += a new list, name a list of the frame's own -/
def sExt {W : Type} (i : Nat) (f : EM W) : SM W := fun env w => (f env w).bind fun p => match p.1, env[i]? with
  | .lst m, some (.own l) => if l.length + m.length ≤ sizeLine then some (.nx, env.set i (.own (l ++ m)), p.2) else none
  | _, _ => none
theorem ds_ext (i : Nat) {x : Str} {e : Expr} {te : TE} {φ : EM c.Z.W} {pos pos' : Pos} (hN : X.N.Nodup) (h : DE X c e te φ) (hi : X.N[i]? = some x := by rfl) (hx : Loc X.env.scope x := by first | exact Or.inl rfl | exact Or.inr rfl)
    (hf : X.fn x = true ∨ X.env.scope.names.lookup x = some .local := by first | exact .inl rfl | exact .inr rfl | assumption) : DS X c (.AugAssign (.Name x pos') .Add e pos) (tAug i te rExt2) (sExt i φ) := by
  refine ⟨ps_aug hN hi hx h.p iop_ext hf, ?_⟩
  intro Hk0 H0 env w σ Hk H p o env' w' e Dn hh
  obtain ⟨⟨d, w1⟩, e1, e⟩ := bind_some e
  cases hi' : env[i]? with
  | none => rw [hi'] at e; cases d <;> cases e
  | some s =>
    rw [hi'] at e
    cases d <;> cases s <;> try (cases e; done)
    rename_i m l
    have e : (if l.length + m.length ≤ sizeLine then some (Out.nx, env.set i (.own (l ++ m)), w1) else none) = some (o, env', w') := e
    split at e
    · rename_i hl
      cases e
      obtain ⟨q, vs, ex, mn, rl⟩ := p.sl i _ hi'
      refine ⟨.ref q, ex, ?_⟩
      refine h.k _ _ _ _ _ _ _ p _ _ e1 _ fun u Hk1 H1 s1 o1 r1 => ?_
      obtain ⟨b, zs, eb, hb, rb⟩ := r1
      have p1 := p.step s1 o1
      have mn1 := mn.step s1
      refine ⟨q, b, vs, zs, rfl, eb, mn1.at_, s1.g.e _ _ hb, by rw [rl.length, rb.length]; exact hl, ?_⟩
      have p2 := p1.mut (s' := .own (l ++ m)) hi' rfl ex mn1 (fun φ z => by cases z) (fun z => absurd z (p1.notS mn1.at_ (by simp))) fun mn2 => ⟨q, vs ++ zs, rfl, mn2, (rl.mono s1.k).append rb⟩
      have e3 : σ.set i (some (.ref q)) = σ := by
        apply List.ext_getElem?
        intro j
        by_cases z : i = j
        · subst z
          rw [List.getElem?_set_self (List.getElem?_eq_some_iff.mp ex).1, ex]
        · rw [List.getElem?_set_ne z]
      show Dn.nx (σ.set i (some (.ref q))) _
      rw [e3]
      exact hh _ _ _ p2 s1.k
    · cases e
/-! ### self.f = e -/
def sFldD {W : Type} (i k j : Nat) (f : EM W) : SM W := fun env w => (f env w).bind fun p => match env[i]? with
  | some (.obj k' l) => if k' = k ∧ l.length = j then some (.nx, env.set i (.obj k (l ++ [p.1])), p.2) else none
  | _ => none
theorem putF_zip : ∀ {ks : List Str} {vs : List V} {f : Str} {y : V}, ks[vs.length]? = some f → f ∉ ks.take vs.length → putF f y (ks.zip vs) = ks.zip (vs ++ [y])
  | [], vs, f, y, h, _ => by simp at h
  | k :: ks, [], f, y, h, _ => by
    simp at h
    subst h
    simp [putF]
  | k :: ks, v :: vs, f, y, h, hn => by
    have ne : ¬ k = f := fun z => hn (by simp [z])
    have ih := putF_zip (ks := ks) (vs := vs) (f := f) (y := y) (by simpa using h) (fun z => hn (by simp [z]))
    show putF f y ((k, v) :: ks.zip vs) = (k, v) :: ks.zip (vs ++ [y])
    rw [← ih]
    simp [putF, ne]
theorem ds_fld (i k j : Nat) {f x : Str} {e : Expr} {te : TE} {φ : EM c.Z.W} {px pos pos' : Pos} (hK : X.K = c.T.K) (h : DE X c e te φ) (hC : Cls c.T.K (c.T.ad k)) (hA : NoAttr c.T.K (c.T.ad k) f) (hf : (c.T.fd k)[j]? = some f) (hn : f ∉ (c.T.fd k).take j) (hl : (c.T.fd k).length < 1000)
    (hN : X.N[i]? = some x := by rfl) (hv : Vis X.env.scope x := by first | exact Or.inl rfl | exact Or.inr (Or.inl rfl) | exact Or.inr (Or.inr rfl)) (hd : (x == ("__debug__" : Str)) = false := by decide) (hcd : (x == ("__classdict__" : Str)) = false := by decide)
    (hs : swapsWith e (some (.Attribute (.Name x px) f pos')) pos.line X.env = pure false := by rfl) : DS X c (.Assign [.Attribute (.Name x px) f pos'] e pos) (sFld X.K (tVar i) te f) (sFldD i k j φ) := by
  refine ⟨ps_fld (pe_var hN hv hd hcd) h.p hs, ?_⟩
  intro Hk0 H0 env w σ Hk H p o env' w' e Dn hh
  obtain ⟨⟨d, w1⟩, e1, e⟩ := bind_some e
  cases hi : env[i]? with
  | none => rw [hi] at e; cases e
  | some s =>
    rw [hi] at e
    cases s with
    | obj k' l =>
      have e : (if k' = k ∧ l.length = j then some (Out.nx, env.set i (.obj k (l ++ [d])), w1) else none) = some (o, env', w') := e
      split at e
      · rename_i hkl
        obtain ⟨hk1, hl1⟩ := hkl
        subst hk1
        cases e
        obtain ⟨q, dx, vs, ex, mn, hqs, hlen, rl⟩ := p.sl i _ hi
        refine h.k _ _ _ _ _ _ _ p d _ e1 _ fun v Hk1 H1 s1 o1 r1 => ?_
        have p1 := p.step s1 o1
        have mn1 := mn.step s1
        rw [hK]
        have hvl : vs.length = j := by rw [rl.length]; exact hl1
        have hj : j < (c.T.fd k').length := (List.getElem?_eq_some_iff.mp hf).1
        have hz : putF f v ((c.T.fd k').zip vs) = (c.T.fd k').zip (vs ++ [v]) := putF_zip (by rw [hvl]; exact hf) (by rw [hvl]; exact hn)
        refine ⟨.ref q, ex, q, _, dx, _, rfl, mn1.at_, hC, hA, ?_, ?_⟩
        · rw [List.length_zip]; omega
        · rw [hz]
          have p2 := p1.mut (s' := .obj k' (l ++ [d])) hi rfl ex mn1 (fun φ z => by cases z) (fun _ => ⟨_, _, _, rfl⟩) fun mn2 => ⟨q, dx, vs ++ [v], rfl, mn2, hqs, by rw [List.length_append, hl1]; exact hj, (rl.mono s1.k).snoc r1⟩
          exact hh _ _ _ p2 s1.k
      · cases e
    | _ => cases e
/-! ### d[k] = v, the dict of the frame's own -/
def putD (ks : List Key) (l : List D) (k : Key) (d : D) : List Key × List D :=
  if (ks.any fun k' => decide (k' = k)) = true then (ks, (ks.zip l).map fun p => if p.1 = k then d else p.2) else (ks ++ [k], l ++ [d])
theorem any_zip {α : Type} {k : Key} : ∀ {ks : List Key} {vs : List α}, ks.length = vs.length → ((ks.zip vs).any fun kv => decide (kv.1 = k)) = ks.any fun k' => decide (k' = k)
  | [], _, _ => rfl
  | k' :: ks, [], h => by simp at h
  | k' :: ks, v :: vs, h => by
    rw [List.zip_cons_cons, List.any_cons, List.any_cons, any_zip (by simpa using h)]
theorem rep_map {T : CT} {H : Hp} {k : Key} {d : D} {v : V} (r : Rep T H d v) : ∀ {ks : List Key} {l : List D} {vs : List V}, ks.length = l.length → RepL T H l vs →
    RepL T H ((ks.zip l).map fun p => if p.1 = k then d else p.2) ((ks.zip vs).map fun p => if p.1 = k then v else p.2)
  | [], _, _, _, _ => rfl
  | k' :: ks, [], _, h, _ => by simp at h
  | k' :: ks, d' :: l, _, h, ⟨v', r', e, h1, h2⟩ => by
    subst e
    rw [List.zip_cons_cons, List.map_cons, List.zip_cons_cons, List.map_cons]
    refine .cons ?_ (rep_map r (by simpa using h) h2)
    by_cases z : k' = k
    · show Rep T H (if k' = k then d else d') (if k' = k then v else v')
      rw [if_pos z, if_pos z]; exact r
    · show Rep T H (if k' = k then d else d') (if k' = k then v else v')
      rw [if_neg z, if_neg z]; exact h1
theorem zip_map2 {k : Key} {v : V} : ∀ {ks : List Key} {vs : List V}, ks.length = vs.length → (ks.zip vs).map (fun kv => if kv.1 = k then (kv.1, v) else kv) = ks.zip ((ks.zip vs).map fun p => if p.1 = k then v else p.2)
  | [], _, _ => rfl
  | k' :: ks, [], h => by simp at h
  | k' :: ks, v' :: vs, h => by
    have ih := zip_map2 (k := k) (v := v) (ks := ks) (vs := vs) (by simpa using h)
    rw [List.zip_cons_cons, List.map_cons, List.map_cons, List.zip_cons_cons, ih]
    by_cases z : k' = k <;> simp [z]
theorem putD_rep {T : CT} {H : Hp} {ks : List Key} {l : List D} {vs : List V} {k : Key} {d : D} {v : V} (hl : ks.length = l.length) (rl : RepL T H l vs) (r : Rep T H d v) :
    ∃ vs', putK (ks.zip vs) k v = (putD ks l k d).1.zip vs' ∧ (putD ks l k d).1.length = (putD ks l k d).2.length ∧ RepL T H (putD ks l k d).2 vs' := by
  have hv : ks.length = vs.length := by rw [hl, rl.length]
  unfold putK putD
  rw [any_zip hv]
  split
  · refine ⟨_, zip_map2 hv, ?_, rep_map r hl rl⟩
    show ks.length = _
    rw [List.length_map, List.length_zip]; omega
  · refine ⟨vs ++ [v], ?_, by rw [List.length_append, List.length_append, hl]; rfl, rl.snoc r⟩
    rw [List.zip_append hv]; rfl
def sPut {W : Type} (i : Nat) (k f : EM W) : SM W := fun env w => (f env w).bind fun p => (k env p.2).bind fun q => (keyD q.1).bind fun y => match env[i]? with
  | some (.ownd ks l) => if ks.length < sizeLine then some (.nx, env.set i (.ownd (putD ks l y p.1).1 (putD ks l y p.1).2), q.2) else none
  | _ => none
theorem ds_put (i : Nat) {x : Str} {k e : Expr} {tk te : TE} {κ φ : EM c.Z.W} {px pos pos' : Pos} (hu : X.A.units + 1 < cLine) (hk : DE X c k tk κ) (h : DE X c e te φ)
    (hN : X.N[i]? = some x := by rfl) (hv : Vis X.env.scope x := by first | exact Or.inl rfl | exact Or.inr (Or.inl rfl) | exact Or.inr (Or.inr rfl)) (hd : (x == ("__debug__" : Str)) = false := by decide) (hcd : (x == ("__classdict__" : Str)) = false := by decide)
    (hs : swapsWith e (some (.Subscript (.Name x px) k pos')) pos.line X.env = pure false := by rfl) : DS X c (.Assign [.Subscript (.Name x px) k pos'] e pos) (sDPut (tVar i) tk te) (sPut i κ φ) := by
  refine ⟨ps_dput hu (pe_var hN hv hd hcd) hk.p h.p hs, ?_⟩
  intro Hk0 H0 env w σ Hk H p o env' w' e Dn hh
  obtain ⟨⟨d, w1⟩, e1, e⟩ := bind_some e
  obtain ⟨⟨dk, w2⟩, e2, e⟩ := bind_some e
  obtain ⟨y, e3, e⟩ := bind_some e
  cases hi : env[i]? with
  | none => rw [hi] at e; cases e
  | some s =>
    rw [hi] at e
    cases s with
    | ownd ks l =>
      have e : (if ks.length < sizeLine then some (Out.nx, env.set i (.ownd (putD ks l y d).1 (putD ks l y d).2), w2) else none) = some (o, env', w') := e
      split at e
      · rename_i hz
        cases e
        obtain ⟨q, vs, ex, mn, hl, rl⟩ := p.sl i _ hi
        refine h.k _ _ _ _ _ _ _ p d _ e1 _ fun v Hk1 H1 s1 o1 r1 => ?_
        refine ⟨.ref q, ex, ?_⟩
        refine hk.k _ _ _ _ _ _ _ (p.step s1 o1) dk _ e2 _ fun u Hk2 H2 s2 o2 r2 => ?_
        have s3 := s1.trans s2
        have p2 := p.step s3 o2
        have mn2 := mn.step s3
        obtain ⟨vs', z1, z2, z3⟩ := putD_rep (k := y) hl (rl.mono s3.k) (r1.mono s2.k)
        refine ⟨q, upd H2 q (.dK (putK (ks.zip vs) y v)), rfl, ?_, ?_⟩
        · rw [keyD_rep r2 e3]
          refine .inl ⟨_, y, mn2.at_, rfl, ?_, rfl⟩
          rw [List.length_zip]; omega
        · have p3 := p2.mut (s' := .ownd (putD ks l y d).1 (putD ks l y d).2) hi rfl ex mn2 (fun φ z => by cases z) (fun z => absurd z (p2.notS mn2.at_ (by simp))) (o' := .dK (putK (ks.zip vs) y v)) fun mn3 => ⟨q, vs', rfl, z1 ▸ mn3, z2, by exact z3⟩
          exact hh _ _ _ p3 s3.k
      · cases e
    | _ => cases e
end
end DL
set_option Elab.async false
set_option linter.all false
set_option maxRecDepth 100000
set_option maxHeartbeats 4000000
/-! DLj: what a def promises about data; calls, methods, instances made. -/
namespace DL
open PySem PySem.Spec PyProof.Rows L2 Evl
/-- a def's meaning: its arguments' data and the world, to its result and the world behind it -/
abbrev FM (W : Type) := List D → W → Option (D × W)
/-- a maker's: to the fields -/
abbrev IM (W : Type) := List D → W → Option (List D × W)
/-- no self, no tests -/
@[reducible] def Cfg.pl (c : Cfg) : Cfg := ⟨c.T, c.Z, c.B, c.Bm, fun _ _ => False, fun _ => False⟩
@[reducible] def Cfg.sf (c : Cfg) (x : Addr) : Cfg := ⟨c.T, c.Z, c.B, c.Bm, fun _ _ => False, fun a => a = x⟩
def spD (T : CT) (Z : Wo) (B : Hp → Prop) (n : Nat) (f : FM Z.W) : Sp := fun vs H Q _ => ∃ Hk ds w d w', Gd Z Hk H ∧ B Hk ∧ Z.ok w H ∧ RepL T Hk ds vs ∧ ds.length = n ∧ f ds w = some (d, w') ∧
  ∀ v Hk' H', Stp Z Hk H Hk' H' → Z.ok w' H' → Rep T Hk' d v → Q v H'
def spI (T : CT) (Z : Wo) (B : Hp → Prop) (k n : Nat) (f : IM Z.W) : Sp := fun vs H Q _ => ∃ Hk ds w l w' x dx us, vs = .ref x :: us ∧ Gd Z Hk H ∧ B Hk ∧ Z.ok w H ∧ H x = some (.ins (T.ad k) dx []) ∧ Hk x = none ∧ ¬ Z.FP x ∧ RepL T Hk ds us ∧ ds.length = n ∧ f ds w = some (l, w') ∧
  ∀ Hk' H' us' dx', Ex Hk Hk' → Gd Z Hk' H' → (∀ a, Hk' a ≠ none → Hk a ≠ none ∨ H a = none) → (∀ a o, ¬ Z.FP a → a ≠ x → H a = some o → H' a = some o) → Z.ok w' H' → Hk' x = none →
    H' x = some (.ins (T.ad k) dx' ((T.fd k).zip us')) → RepL T Hk' l us' → Q .non H'
theorem spD_len {T : CT} {Z : Wo} {B : Hp → Prop} {n : Nat} {f : FM Z.W} {ps : List Str} (h : ps.length = n) : ∀ vs H Q E, spD T Z B n f vs H Q E → vs.length = ps.length := fun vs H Q E ⟨Hk, ds, w, d, w', _, _, _, r, hl, _⟩ => by rw [r.length, hl, h]
theorem spI_len {T : CT} {Z : Wo} {B : Hp → Prop} {k n : Nat} {f : IM Z.W} {ps : List Str} (h : ps.length = n + 1) : ∀ vs H Q E, spI T Z B k n f vs H Q E → vs.length = ps.length := fun vs H Q E ⟨Hk, ds, w, d, w', x, dx, us, e, _, _, _, _, _, _, r, hl, _⟩ => by
  rw [e, List.length_cons, r.length, hl, h]
/-! ### a frame's start -/
def startE (N : Nat) (ds : List D) : Env' := ds.map .val ++ List.replicate (N - ds.length) .un
theorem startE_get {N : Nat} {ds : List D} {i : Nat} {s : Sl} (h : (startE N ds)[i]? = some s) : (∃ d, ds[i]? = some d ∧ s = .val d) ∨ s = .un := by
  unfold startE at h
  by_cases z : i < ds.length
  · rw [List.getElem?_append_left (by rw [List.length_map]; exact z), List.getElem?_map] at h
    cases e : ds[i]? with
    | none => rw [e] at h; cases h
    | some d => rw [e] at h; cases h; exact .inl ⟨d, rfl, rfl⟩
  · rw [List.getElem?_append_right (by rw [List.length_map]; omega), List.getElem?_replicate] at h
    split at h
    · cases h; exact .inr rfl
    · cases h
theorem start_get {N : List Str} {vs : List V} {i : Nat} {v : V} (h : vs[i]? = some v) : (L2.start N vs)[i]? = some (some v) := by
  unfold L2.start
  have z := (List.getElem?_eq_some_iff.mp h).1
  rw [List.getElem?_append_left (by rw [List.length_map]; exact z), List.getElem?_map, h] <;> rfl
section
variable {c : Cfg}
theorem pre_start {N : List Str} {n : Nat} {ds : List D} {vs : List V} {w : c.Z.W} {Hk H : Hp} (g : Gd c.Z Hk H) (b : c.B Hk) (o : c.Z.ok w H) (r : RepL c.T Hk ds vs) (hn : N.length = n) (hl : ds.length ≤ n) (hS : ∀ a, ¬ c.S a) :
    Pre c Hk H (startE n ds) w (L2.start N vs) Hk H where
  k := Ex.refl _
  base := b
  g := g
  new := fun a h => .inl h
  keep := fun a u _ _ h => h
  self := fun a h => absurd h (hS a)
  w := o
  len := by
    unfold startE L2.start
    have := r.length
    rw [List.length_append, List.length_append, List.length_map, List.length_map, List.length_replicate, List.length_replicate]
    omega
  sl := fun i s e => by
    rcases startE_get e with ⟨d, e1, rfl⟩ | rfl
    · obtain ⟨v, e2, rv⟩ := r.get e1
      exact ⟨v, start_get e2, rv⟩
    · trivial
  ap := fun i j p s t _ e1 _ m _ _ => by
    rcases startE_get e1 with ⟨d, _, rfl⟩ | rfl <;> cases m
/-- a def's meaning, of its body's -/
def fM {W : Type} (N : Nat) (ψ : SM W) : FM W := fun ds w => (ψ (startE N ds) w).bind fun r => match r.1 with
  | .rt d => some (d, r.2.2)
  | .nx => some (.non, r.2.2)
  | _ => none
theorem fn_reads {t : TS} {ψ : SM c.Z.W} {N : List Str} {n m : Nat} (h : SOk c t ψ) (hS : ∀ a, ¬ c.S a) (hn : N.length = n) (hm : m ≤ n) : ∀ vs H Q E, spD c.T c.Z c.B m (fM n ψ) vs H Q E → t { nx := fun _ H' => Q .non H', rt := Q } (L2.start N vs) H := by
  rintro vs H Q E ⟨Hk, ds, w, d, w', g, b, o, r, hl, e, q⟩
  obtain ⟨⟨o1, env1, w1⟩, e1, e⟩ := bind_some e
  have p : Pre c Hk H (startE n ds) w (L2.start N vs) Hk H := pre_start g b o r hn (by omega) hS
  refine h _ _ _ _ _ _ _ p o1 env1 w1 e1 _ ?_
  have st : ∀ {env : Env'} {w2 : c.Z.W} {σ' : L2.St} {Hk' H' : Hp}, Pre c Hk H env w2 σ' Hk' H' → Stp c.Z Hk H Hk' H' := fun p' => ⟨p'.k, p'.g, p'.new, fun a u f z => p'.keep a u f (hS a) z⟩
  cases o1 with
  | rt d1 =>
    cases e
    exact fun v σ' Hk' H' p' _ rv => q v Hk' H' (st p') p'.w rv
  | nx =>
    cases e
    exact fun σ' Hk' H' p' _ => q .non Hk' H' (st p') p'.w rfl
  | bk => cases e
  | ct => cases e
/-- a maker's -/
def startI (N k : Nat) (ds : List D) : Env' := .obj k [] :: (ds.map .val ++ List.replicate (N - ds.length - 1) .un)
def objAt (k n : Nat) (env : Env') : Option (List D) := match env with
  | .obj k' l :: _ => if k' = k ∧ l.length = n then some l else none
  | _ => none
theorem objAt_eq {k n : Nat} {env : Env'} {l : List D} (h : objAt k n env = some l) : env[0]? = some (.obj k l) ∧ l.length = n := by
  cases env with
  | nil => cases h
  | cons s r =>
    cases s <;> try (cases h; done)
    rename_i k' l'
    have h : (if k' = k ∧ l'.length = n then some l' else none) = some l := h
    split at h
    · rename_i z; cases h; exact ⟨by rw [z.1]; rfl, z.2⟩
    · cases h
def iM {W : Type} (fd : Nat → List Str) (N k : Nat) (ψ : SM W) : IM W := fun ds w => (ψ (startI N k ds) w).bind fun r => match r.1 with
  | .nx => (objAt k (fd k).length r.2.1).map fun l => (l, r.2.2)
  | _ => none
theorem pre_startI {N : List Str} {k n : Nat} {ds : List D} {vs : List V} {w : c.Z.W} {Hk H : Hp} {x dx : Addr} (g : Gd c.Z Hk H) (b : c.B Hk) (o : c.Z.ok w H) (hx : H x = some (.ins (c.T.ad k) dx [])) (hk : Hk x = none) (hf : ¬ c.Z.FP x) (r : RepL c.T Hk ds vs) (hn : N.length = n) (hl : ds.length < n) :
    Pre (c.sf x) Hk H (startI n k ds) w (L2.start N (.ref x :: vs)) Hk H where
  k := Ex.refl _
  base := b
  g := g
  new := fun a h => .inl h
  keep := fun a u _ _ h => h
  self := fun a h => by
    have h : a = x := h
    subst h
    exact ⟨hk, ⟨_, _, _, hx⟩, hf⟩
  w := o
  len := by
    unfold startI L2.start
    have := r.length
    simp only [List.length_append, List.length_map, List.length_replicate, List.length_cons]
    omega
  sl := fun i s e => by
    cases i with
    | zero =>
      cases e
      refine ⟨x, dx, [], by unfold L2.start; rfl, ⟨.inr rfl, hk, hf, ?_⟩, rfl, Nat.zero_le _, rfl⟩
      rw [List.zip_nil_right]; exact hx
    | succ i =>
      have e : (ds.map Sl.val ++ List.replicate (n - ds.length - 1) .un)[i]? = some s := e
      by_cases z : i < ds.length
      · rw [List.getElem?_append_left (by rw [List.length_map]; exact z), List.getElem?_map] at e
        cases e1 : ds[i]? with
        | none => rw [e1] at e; cases e
        | some d =>
          rw [e1] at e; cases e
          obtain ⟨v, e2, rv⟩ := r.get e1
          exact ⟨v, start_get (by simpa using e2), rv⟩
      · rw [List.getElem?_append_right (by rw [List.length_map]; omega), List.getElem?_replicate] at e
        split at e
        · cases e; trivial
        · cases e
  ap := fun i j p s t hij e1 e2 m1 m2 _ => by
    have val : ∀ {i : Nat} {s : Sl}, (startI n k ds)[i + 1]? = some s → s.mut = false := fun {i s} e => by
      have e : (ds.map Sl.val ++ List.replicate (n - ds.length - 1) .un)[i]? = some s := e
      rcases List.mem_append.mp (List.mem_of_getElem? e) with z | z
      · obtain ⟨d, _, e⟩ := List.mem_map.mp z; rw [← e]; rfl
      · rw [(List.mem_replicate.mp z).2]; rfl
    cases i with
    | zero =>
      cases j with
      | zero => exact absurd rfl hij
      | succ j => rw [val e2] at m2; cases m2
    | succ i => rw [val e1] at m1; cases m1
theorem in_reads1 {k n m : Nat} {N : List Str} {t : TS} {ψ : SM c.Z.W} {x0 : Addr} {us0 : List V} {vs : List V} {H : Hp} {Q : VK} {E : XK} (h : SOk (c.sf x0) t ψ) (hn : N.length = n) (hm : m < n) (ev0 : vs = .ref x0 :: us0) (hsp : spI c.T c.Z c.B k m (iM c.T.fd n k ψ) vs H Q E) : t { nx := fun _ H' => Q .non H', rt := Q } (L2.start N vs) H := by
  obtain ⟨Hk, ds, w, l, w', x, dx, us, ev, g, b, o, hx, hk, hf, r, hl, e, q⟩ := hsp
  obtain rfl : x0 = x := by rw [ev0] at ev; cases ev; rfl
  subst ev
  obtain ⟨⟨o1, env1, w1⟩, e1, e⟩ := bind_some e
  have p : Pre (c.sf x0) Hk H (startI n k ds) w (L2.start N (.ref x0 :: us)) Hk H := pre_startI g b o hx hk hf r hn (by omega)
  refine h _ _ _ _ _ _ _ p o1 env1 w1 e1 _ ?_
  cases o1 with
  | nx =>
    intro σ' Hk' H' p' _
    obtain ⟨l', e2, e⟩ := map_some (show (objAt k (c.T.fd k).length env1).map _ = _ from e)
    cases e
    obtain ⟨z, hl1⟩ := objAt_eq e2
    obtain ⟨q', dx', vs, ex, mn, hs, hlen, rl⟩ := p'.sl 0 _ z
    have hs : q' = x0 := hs
    subst hs
    exact q Hk' H' vs dx' p'.k p'.g p'.new (fun a u f ne z => p'.keep a u f ne z) p'.w mn.hk mn.at_ rl
  | rt d => cases e
  | bk => cases e
  | ct => cases e
end
/-! ### a def of the text -/
section
variable {P : Program} {w : World} {K : PySem.W.Frag} {mg : Str → Option Value} {base : Heap} {c : Cfg}
/-- a def that is bound and may be called, with its promise -/
def FnD (P : Program) (w : World) (K : PySem.W.Frag) (mg : Str → Option Value) (base : Heap) (k : Nat) (f : Addr) (sp : Sp) : Prop :=
  ∃ fd ps, FnOk P w K mg base CX0 k f fd ps sp ∧ Binds K fd ps [] ∧ PySem.W.keepIn K (.ref f) = true
/-- a def of the text at f -/
def DefAt (K : PySem.W.Frag) (x qual : Str) (st : Stmt) (ps : List Str) (f : Addr) : Prop := ∃ fd, Fun K x qual st f fd ∧ Binds K fd ps []
theorem fn_ok {x qual : Str} {st : Stmt} {f : Addr} {N ps : List Str} {k n m : Nat} {ψ : SM c.Z.W} (F : DefAt K x qual st ps f) (S : FnScope N ps (defScope st)) (hn : N.length = n) (hp : ps.length = m)
    (hbody : ∀ (cdv : Value) (A : Around) (outer : List Env) (s : Shared) (H : Hp) (E : XK), Room k (A.deeper (envOfC qual (defScope st) s.heap.objs.size f cdv)) → ∃ t, DSs (cxOf CX0 P w K mg base N qual (defScope st) f cdv A outer s H E).nox c (defBody st) t ψ) (hS : ∀ a, ¬ c.S a := by exact fun _ h => h) :
    FnD P w K mg base (k + 1) f (spD c.T c.Z c.B m (fM n ψ)) := by
  have hm : m ≤ n := by
    rw [← hp, ← hn, ← S.pre, List.length_take]; omega
  obtain ⟨fd, F, B⟩ := F
  refine ⟨fd, ps, F.ok S (spD_len hp) fun cdv A outer s H vs Q E hr hsp => ?_, B, F.kp⟩
  obtain ⟨t, h⟩ := hbody cdv A outer s H E hr
  exact ⟨t, h.p, fn_reads h.k hS hn hm vs H Q E hsp⟩
theorem in_ok {x qual : Str} {st : Stmt} {f : Addr} {N ps : List Str} {j k n m : Nat} {ψ : SM c.Z.W} (F : DefAt K x qual st ps f) (S : FnScope N ps (defScope st)) (hn : N.length = n) (hp : ps.length = m + 1)
    (hbody : ∀ (x : Addr) (cdv : Value) (A : Around) (outer : List Env) (s : Shared) (H : Hp) (E : XK), Room k (A.deeper (envOfC qual (defScope st) s.heap.objs.size f cdv)) → ∃ t, DSs (cxOf CX0 P w K mg base N qual (defScope st) f cdv A outer s H E).nox (c.sf x) (defBody st) t ψ) :
    FnD P w K mg base (k + 1) f (spI c.T c.Z c.B j m (iM c.T.fd n j ψ)) := by
  have hm : m < n := by
    have : ps.length ≤ N.length := by rw [← S.pre, List.length_take]; omega
    omega
  obtain ⟨fd, F, B⟩ := F
  refine ⟨fd, ps, F.ok S (spI_len hp) fun cdv A outer s H vs Q E hr hsp => ?_, B, F.kp⟩
  -- the reading is told of the very instance
  have hx : ∃ x, ∃ us, vs = .ref x :: us ∧ ∀ t, SOk (c.sf x) t ψ → t { nx := fun _ H' => Q .non H', rt := Q } (L2.start N vs) H := by
    obtain ⟨Hk, ds, w, l, w', x, dx, us, ev, _⟩ := id hsp
    exact ⟨x, us, ev, fun t h => in_reads1 h hn hm ev hsp⟩
  obtain ⟨x, us, ev, hread⟩ := hx
  obtain ⟨t, h⟩ := hbody x cdv A outer s H E hr
  exact ⟨t, h.p, hread t h.k⟩
end
/-! ### calls -/
def eFn {W : Type} (n : Nat) (f : FM W) (a : AM W) : EM W := fun env w => (a env w).bind fun p => if p.1.length = n then f p.1 p.2 else none
section
variable {X : Cx} {c : Cfg}
theorem eFn_ok {n : Nat} {f : FM c.Z.W} {t : TA} {φ : AM c.Z.W} (h : AOk c t φ) : EOk c (tCall (spD c.T c.Z c.B n f) [] E0 t) (eFn n f φ) := by
  intro Hk0 H0 env w σ Hk H p d w' e Q q
  obtain ⟨⟨l, w1⟩, e1, e⟩ := bind_some e
  split at e
  · rename_i hl
    refine h _ _ _ _ _ _ _ p l w1 e1 _ fun vs Hk1 H1 s1 o1 r1 => ?_
    refine ⟨Hk1, l, w1, d, w', s1.g, c.Bm s1.k p.base, o1, by rw [List.append_nil]; exact r1, hl, e, fun v Hk2 H2 s2 o2 r2 => q v Hk2 H2 (s1.trans s2) o2 r2⟩
  · cases e
theorem de_call {f : Addr} {k j n : Nat} {fm : FM c.Z.W} {x : Str} {p pos : Pos} {e : Expr} {es : List Expr} {t : TA} {φ : AM c.Z.W} (F : FnD X.prog X.w X.K X.mg X.base k f (spD c.T c.Z c.B n fm)) (hr : Room j X.A) (hm : X.mg x = some (.ref f))
    (ha : DA X c (e :: es) t φ) (hk : k ≤ j := by decide) (hg : Gl X x := by rfl) (hdb : (x == ("__debug__" : Str)) = false := by decide) (he : starEach (e :: es) X.env = (false, eval e X.env) :: starEach es X.env := by rfl) (hpl : (backTo pos (starEach es X.env)).any (·.1) = false := by rfl) :
    DE X c (.Call (.Name x p) (e :: es) [] pos) (tCall (spD c.T c.Z c.B n fm) [] E0 t) (eFn n fm φ) :=
  ⟨F.elim fun _ F => F.elim fun _ F => pe_call F.1 (hr.mono hk) hg hm F.2.2 F.2.1 .nil pass0 ha.p hdb he hpl, eFn_ok ha.k⟩
/-- o.m(..) of an instance of the class k -/
def insOf (k : Nat) : D → Option (List D)
  | .ins k' l => if k' = k then some l else none
  | _ => none
theorem insOf_eq {k : Nat} {d : D} {l : List D} (h : insOf k d = some l) : d = .ins k l := by
  cases d <;> try (cases h; done)
  rename_i k' l'
  have h : (if k' = k then some l' else none) = some l := h
  split at h
  · rename_i z; cases h; rw [z]
  · cases h
def eMeth {W : Type} (k n : Nat) (f : FM W) (o : EM W) (a : AM W) : EM W := fun env w => (o env w).bind fun p => (insOf k p.1).bind fun l => (a env p.2).bind fun q => if q.1.length = n then f (.ins k l :: q.1) q.2 else none
theorem lookup_zipV : ∀ {ks : List Str} {vs : List V} {m : Str}, m ∉ ks → (ks.zip vs).lookup m = none
  | [], _, _, _ => rfl
  | _ :: _, [], _, _ => rfl
  | k :: ks, v :: vs, m, h => by
    have ne : (m == k) = false := by
      rw [beq_eq_false_iff_ne]
      exact fun z => h (by rw [z]; exact List.mem_cons_self)
    rw [List.zip_cons_cons, List.lookup_cons, ne]
    exact lookup_zipV fun z => h (List.mem_cons_of_mem _ z)
theorem eMeth_ok {k n : Nat} {m : Str} {f : FM c.Z.W} {to : TE} {t : TA} {ω : EM c.Z.W} {φ : AM c.Z.W} (ho : EOk c to ω) (h : AOk c t φ) (hmf : m ∉ c.T.fd k) : EOk c (tMeth (c.T.ad k) m (spD c.T c.Z c.B (n + 1) f) [] E0 to t) (eMeth k n f ω φ) := by
  intro Hk0 H0 env w σ Hk H p d w' e Q q
  obtain ⟨⟨dx, w1⟩, e1, e⟩ := bind_some e
  obtain ⟨l, ei, e⟩ := bind_some e
  obtain ⟨⟨l2, w2⟩, e2, e⟩ := bind_some e
  obtain rfl : dx = .ins k l := insOf_eq ei
  have e : (if l2.length = n then f (.ins k l :: l2) w2 else none) = some (d, w') := by assumption
  split at e
  · rename_i hl
    have hl : l2.length = n := hl
    refine ho _ _ _ _ _ _ _ p _ _ e1 _ fun v Hk1 H1 s1 o1 r1 => ?_
    obtain ⟨a, da, us, ev, ha, hfl, rl⟩ := id r1
    refine ⟨a, da, _, ev, s1.g.e _ _ ha, lookup_zipV hmf, ?_⟩
    refine h _ _ _ _ _ _ _ (p.step s1 o1) l2 _ e2 _ fun vs Hk2 H2 s2 o2 r2 => ?_
    have s3 := s1.trans s2
    refine ⟨Hk2, .ins k l :: l2, _, d, w', s2.g, c.Bm s3.k p.base, o2, by rw [List.append_nil]; exact .cons (r1.mono s2.k) r2, by rw [List.length_cons, hl], e, fun v Hk3 H3 s4 o4 r4 => q v Hk3 H3 (s3.trans s4) o4 r4⟩
  · cases e
theorem de_meth {C : Nat} {f : Addr} {k j n : Nat} {fm : FM c.Z.W} {m : Str} {apos pos : Pos} {o e : Expr} {es : List Expr} {to : TE} {t : TA} {ω : EM c.Z.W} {φ : AM c.Z.W} {pl : Sem Bool} (hK : X.K = c.T.K) (ho : DE X c o to ω) (cl : Cls c.T.K (c.T.ad C)) (hm : L2.Meth c.T.K (c.T.ad C) m f) (hmf : m ∉ c.T.fd C)
    (F : FnD X.prog X.w X.K X.mg X.base k f (spD c.T c.Z c.B (n + 1) fm)) (hr : Room j X.A) (ha : DA X c (e :: es) t φ) (hk : k ≤ j := by decide)
    (hst : starEach (e :: es) X.env = (false, eval e X.env) :: starEach es X.env := by rfl) (hpl : (backTo pos (starEach es X.env)).any (·.1) = false := by rfl)
    (ht : eval (.Call (.Attribute o m apos) (e :: es) [] pos) X.env = (do
      let ov ← eval o X.env
      standAt apos.atName
      let (f, first) ← holding [ov] (getMethod ov m pl)
      callWith pos f first (backTo pos (starEach (e :: es) X.env)) (backToKw pos (keywordEach [] X.env))) := by rfl) :
    DE X c (.Call (.Attribute o m apos) (e :: es) [] pos) (tMeth (c.T.ad C) m (spD c.T c.Z c.B (n + 1) fm) [] E0 to t) (eMeth C n fm ω φ) :=
  ⟨F.elim fun _ F => F.elim fun _ F => pe_meth ho.p (hK ▸ cl) (hK ▸ hm) F.1 (hr.mono hk) F.2.1 .nil pass0 ha.p hst hpl ht, eMeth_ok ho.k ha.k hmf⟩
theorem de_meth0 {C : Nat} {f : Addr} {k j : Nat} {fm : FM c.Z.W} {m : Str} {apos pos : Pos} {o : Expr} {to : TE} {ω : EM c.Z.W} {pl : Sem Bool} (hK : X.K = c.T.K) (ho : DE X c o to ω) (cl : Cls c.T.K (c.T.ad C)) (hm : L2.Meth c.T.K (c.T.ad C) m f) (hmf : m ∉ c.T.fd C)
    (F : FnD X.prog X.w X.K X.mg X.base k f (spD c.T c.Z c.B 1 fm)) (hr : Room j X.A) (hk : k ≤ j := by decide)
    (ht : eval (.Call (.Attribute o m apos) [] [] pos) X.env = (do
      let ov ← eval o X.env
      standAt apos.atName
      let (f, first) ← holding [ov] (getMethod ov m pl)
      callWith pos f first (backTo pos (starEach [] X.env)) (backToKw pos (keywordEach [] X.env))) := by rfl) :
    DE X c (.Call (.Attribute o m apos) [] [] pos) (tMeth (c.T.ad C) m (spD c.T c.Z c.B (0 + 1) fm) [] E0 to tNil) (eMeth C 0 fm ω aNil) :=
  ⟨F.elim fun _ F => F.elim fun _ F => pe_meth0 ho.p (hK ▸ cl) (hK ▸ hm) F.1 (hr.mono hk) F.2.1 .nil pass0 ht, eMeth_ok ho.k aNil_ok hmf⟩
/-- the one or the other -/
def eOrE {W : Type} (f g : EM W) : EM W := fun env w => match f env w with
  | some r => some r
  | none => g env w
theorem de_orE {e : Expr} {t u : TE} {φ ψ : EM c.Z.W} (h1 : DE X c e t φ) (h2 : DE X c e u ψ) : DE X c e (fun σ H Q => t σ H Q ∨ u σ H Q) (eOrE φ ψ) := by
  refine ⟨⟨fun pins s σ H Q I h => h.elim (fun h => h1.p.run pins s σ H Q I h) fun h => h2.p.run pins s σ H Q I h⟩, ?_⟩
  intro Hk0 H0 env w σ Hk H p d w' e Q q
  unfold eOrE at e
  cases z : φ env w with
  | none => rw [z] at e; exact .inr (h2.k _ _ _ _ _ _ _ p d w' e Q q)
  | some r => rw [z] at e; cases e; exact .inl (h1.k _ _ _ _ _ _ _ p d w' z Q q)
/-- C(..) -/
def eMk {W : Type} (k n : Nat) (f : IM W) (a : AM W) : EM W := fun env w => (a env w).bind fun p => if p.1.length = n then (f p.1 p.2).map fun q => (.ins k q.1, q.2) else none
theorem eMk_ok {k n : Nat} {fm : IM c.Z.W} {t : TA} {φ : AM c.Z.W} (h : AOk c t φ) (hf : ∀ ds w l w', fm ds w = some (l, w') → (c.T.fd k).length = l.length) : EOk c (tMake (c.T.ad k) (spI c.T c.Z c.B k n fm) [] E0 t) (eMk k n fm φ) := by
  intro Hk0 H0 env w σ Hk H p d w' e Q q
  obtain ⟨⟨l, w1⟩, e1, e⟩ := bind_some e
  split at e
  · rename_i hl
    have hl : l.length = n := hl
    obtain ⟨⟨l2, w2⟩, e2, e⟩ := map_some e
    cases e
    refine h _ _ _ _ _ _ _ p l w1 e1 _ fun vs Hk1 H1 s1 o1 r1 => ?_
    intro x dx hx hdx hne
    have g1 := s1.g
    have s2 : StpP c.Z Hk1 H1 Hk1 (upd H1 dx (.own x)) := StpP.own g1 hdx
    have hx2 : upd H1 dx (.own x) x = none := by rw [upd_ne (Ne.symm hne)]; exact hx
    have s3 : StpP c.Z Hk1 (upd H1 dx (.own x)) Hk1 (upd (upd H1 dx (.own x)) x (.ins (c.T.ad k) dx [])) := StpP.own s2.s.g hx2
    have s4 := s2.trans s3
    have hk : Hk1 x = none := hk_none g1 hx
    have hfp : ¬ c.Z.FP x := fun f => g1.dm x f hx
    refine ⟨Hk1, l, w1, l2, w2, x, dx, vs, by rw [List.append_nil], s4.s.g, c.Bm s1.k p.base, s4.ok o1, upd_same, hk, hfp, r1, hl, e2, ?_⟩
    intro Hk2 H2 us dx' x12 g2 new keep o2 hk2 hx' rl
    refine ⟨rfl, ?_⟩
    have xx : Ex Hk2 (upd Hk2 x (.ins (c.T.ad k) dx' ((c.T.fd k).zip us))) := Ex.new hk2
    refine q (.ref x) _ H2 ⟨(s1.k.trans x12).trans xx, StpP.know g2 hx' hk2 hfp, fun a ha => ?_, fun a u f hu => ?_⟩ o2 ⟨x, dx', us, rfl, upd_same, hf _ _ _ _ e2, rl.mono xx⟩
    · by_cases z : a = x
      · subst z
        refine .inr ?_
        cases y : H a with
        | none => rfl
        | some u => rw [s1.keep a u hfp y] at hx; cases hx
      · rw [upd_ne z] at ha
        rcases new a ha with y | y
        · exact s1.new a y
        · rw [upd_ne z] at y
          have y1 : H1 a = none := by
            by_cases z2 : a = dx
            · subst z2; exact hdx
            · rw [upd_ne z2] at y; exact y
          refine .inr ?_
          cases y2 : H a with
          | none => rfl
          | some u => rw [s1.keep a u (fun f => g2.nf a ha f) y2] at y1; cases y1
    · have h1 := s1.keep a u f hu
      have n1 : a ≠ x := fun z => by rw [z, hx] at h1; cases h1
      have n2 : a ≠ dx := fun z => by rw [z, hdx] at h1; cases h1
      exact keep a u f n1 (by rw [upd_ne n1, upd_ne n2]; exact h1)
  · cases e
theorem iM_len {W : Type} {fd : Nat → List Str} {N k : Nat} {ψ : SM W} : ∀ ds w l w', iM fd N k ψ ds w = some (l, w') → (fd k).length = l.length := by
  intro ds w l w' e
  obtain ⟨⟨o1, env1, w1⟩, e1, e⟩ := bind_some e
  cases o1 <;> try (cases e; done)
  obtain ⟨l', e2, e⟩ := map_some (show (objAt k (fd k).length env1).map _ = _ from e)
  cases e
  exact (objAt_eq e2).2.symm
theorem de_mk {C : Nat} {f : Addr} {k j n N : Nat} {ψ : SM c.Z.W} {x : Str} {p pos : Pos} {e : Expr} {es : List Expr} {t : TA} {φ : AM c.Z.W} (hK : X.K = c.T.K) (M : Mk c.T.K (c.T.ad C) f) (F : FnD X.prog X.w X.K X.mg X.base k f (spI c.T c.Z c.B C n (iM c.T.fd N C ψ))) (hr : Room j X.A) (hm : X.mg x = some (.ref (c.T.ad C)))
    (ha : DA X c (e :: es) t φ) (hk : k + 1 ≤ j := by decide) (hg : Gl X x := by rfl) (hdb : (x == ("__debug__" : Str)) = false := by decide) (he : starEach (e :: es) X.env = (false, eval e X.env) :: starEach es X.env := by rfl) (hpl : (backTo pos (starEach es X.env)).any (·.1) = false := by rfl) :
    DE X c (.Call (.Name x p) (e :: es) [] pos) (tMake (c.T.ad C) (spI c.T c.Z c.B C n (iM c.T.fd N C ψ)) [] E0 t) (eMk C n (iM c.T.fd N C ψ) φ) :=
  ⟨F.elim fun _ F => F.elim fun _ F => pe_make (hK ▸ M) F.1 (hr.mono hk) hg hm F.2.1 .nil pass0 ha.p hdb he hpl, eMk_ok ha.k iM_len⟩
end
end DL
set_option Elab.async false
set_option linter.all false
set_option maxRecDepth 100000
set_option maxHeartbeats 4000000
/-! DLk: the world of the laws: the script, the list draw = [script, counter], the tables of code objects. -/
namespace DL
open PySem PySem.Spec PyProof.Rows L2 Evl
/-- the script, the counter -/
abbrev W0 := List Int × Nat
/-- a: the list draw; p: the script's list; the tables -/
def drawZ (ns : List Int) (a p : Addr) (T : List NdefX.NTab) : Wo where
  W := W0
  FP := fun x => x = a ∨ x ∈ T.map (·.1)
  ok := fun w H => w.1 = ns ∧ H a = some (.lst [.ref p, .int w.2]) ∧ NdefX.TabsN T H
  loc := fun {w H H'} h k e => ⟨h.1, (k a (.inl rfl)).trans h.2.1, fun q hq => by
    obtain ⟨ps, h1, h2, h3⟩ := h.2.2 q hq
    refine ⟨ps, (k q.1 (.inr (List.mem_map_of_mem hq))).trans h1, h2, fun pos cv hc => ?_⟩
    obtain ⟨c, e1, e2⟩ := h3 pos cv hc
    exact ⟨c, e1, e c _ e2⟩⟩
  dom := fun {w H x} h f => by
    rcases f with rfl | f
    · rw [h.2.1]; simp
    · obtain ⟨q, hq, rfl⟩ := List.mem_map.mp f
      obtain ⟨ps, h1, _⟩ := h.2.2 q hq
      rw [h1]; simp
/-- the frame's fixed things in a law -/
@[reducible] def cfW (K : PySem.W.Frag) (ad : Nat → Addr) (fd : Nat → List Str) (ns : List Int) (a p : Addr) (T : List NdefX.NTab) (C : V → (D → Option Bool) → Prop) (S : Addr → Prop) : Cfg where
  T := ⟨K, ad, fd, a⟩
  Z := drawZ ns a p T
  B := fun Hk => SqL K Hk p (ns.map V.int)
  Bm := fun e h => ex_l e h
  C := C
  S := S
section
variable {X : Cx} {c : Cfg} {K : PySem.W.Frag} {ad : Nat → Addr} {fd : Nat → List Str} {ns : List Int} {a p : Addr} {T : List NdefX.NTab}
theorem get_list : PGet X (fun o i H Q => ∃ q xs k z, o = .ref q ∧ i = .int k ∧ SqL X.K H q xs ∧ 0 ≤ k ∧ xs[k.toNat]? = some z ∧ Q z H) := by
  intro pins s σ H o i ov iv Q I ro ri h
  obtain ⟨q, xs, k, z, rfl, rfl, hq, h0, hz, qq⟩ := h
  cases ro
  obtain ⟨t, rfl⟩ := ri
  obtain ⟨its, r, pl, hl⟩ := I.list hq
  obtain ⟨w, ew, rw'⟩ := r.get hz
  have hn := line63
  have h1 := (List.getElem?_eq_some_iff.mp hz).1
  refine getItem_listL pl.isList h0 (by omega) ew ⟨z, H, I, rw', qq⟩
end
section
variable {X : Cx} {K : PySem.W.Frag} {ad : Nat → Addr} {fd : Nat → List Str} {ns : List Int} {a p : Addr} {T : List NdefX.NTab} {C : V → (D → Option Bool) → Prop} {S : Addr → Prop}
/-- draw[0] -/
def eDraw0 (i : Nat) : EM W0 := fun env w => match env[i]? with
  | some (.val .ob) => some (.scr w.1, w)
  | _ => none
def eDraw1 (i : Nat) : EM W0 := fun env w => match env[i]? with
  | some (.val .ob) => some (.int w.2, w)
  | _ => none
theorem eDraw_at {i : Nat} {d : D} {w w' : W0} {env : Env'} {f : W0 → D} (e : (match env[i]? with | some (.val .ob) => some (f w, w) | _ => none) = some (d, w')) : env[i]? = some (.val .ob) ∧ d = f w ∧ w' = w := by
  cases z : env[i]? with
  | none => rw [z] at e; cases e
  | some s =>
    rw [z] at e
    cases s <;> try (cases e; done)
    rename_i d'
    cases d' <;> try (cases e; done)
    cases e
    exact ⟨rfl, rfl, rfl⟩
theorem de_draw0 (hK : X.K = K) (i : Nat) {x : Str} {p1 p2 pos : Pos} {j : Nat} (hN : X.N[i]? = some x := by rfl) (hv : Vis X.env.scope x := by first | exact Or.inl rfl | exact Or.inr (Or.inl rfl) | exact Or.inr (Or.inr rfl)) (hd : (x == ("__debug__" : Str)) = false := by decide) (hcd : (x == ("__classdict__" : Str)) = false := by decide) :
    DE X (cfW K ad fd ns a p T C S) (.Subscript (.Name x p1) (.Constant (.int 0) j p2) pos) (tOp (rIxL K) (tVar i) (tC (.int 0))) (eDraw0 i) := by
  subst hK
  refine ⟨pe_ix ix_list (pe_var hN hv hd hcd) pe_int (by exact fun _ _ => rfl), ?_⟩
  intro Hk0 H0 env w σ Hk H pr d w' e Q q
  obtain ⟨hi, rfl, rfl⟩ := eDraw_at (f := fun w => .scr w.1) e
  obtain ⟨v, ev, rv⟩ := pr.sl i _ hi
  obtain rfl : v = .ref a := rv
  obtain ⟨o1, o2, o3⟩ := pr.w
  refine ⟨_, ev, a, _, 0, .ref p, rfl, rfl, SqL.of o2, rfl, ?_⟩
  refine q _ Hk H (Stp.refl pr.g) pr.w ⟨p, rfl, ?_⟩
  rw [o1]
  exact pr.base
theorem de_draw1 (hK : X.K = K) (i : Nat) {x : Str} {p1 p2 pos : Pos} {j : Nat} (hN : X.N[i]? = some x := by rfl) (hv : Vis X.env.scope x := by first | exact Or.inl rfl | exact Or.inr (Or.inl rfl) | exact Or.inr (Or.inr rfl)) (hd : (x == ("__debug__" : Str)) = false := by decide) (hcd : (x == ("__classdict__" : Str)) = false := by decide) :
    DE X (cfW K ad fd ns a p T C S) (.Subscript (.Name x p1) (.Constant (.int 1) j p2) pos) (tOp (rIxL K) (tVar i) (tC (.int 1))) (eDraw1 i) := by
  subst hK
  refine ⟨pe_ix ix_list (pe_var hN hv hd hcd) pe_int (by exact fun _ _ => rfl), ?_⟩
  intro Hk0 H0 env w σ Hk H pr d w' e Q q
  obtain ⟨hi, rfl, rfl⟩ := eDraw_at (f := fun w => .int w.2) e
  obtain ⟨v, ev, rv⟩ := pr.sl i _ hi
  obtain rfl : v = .ref a := rv
  obtain ⟨o1, o2, o3⟩ := pr.w
  exact ⟨_, ev, a, _, 1, .int w'.2, rfl, rfl, SqL.of o2, rfl, q _ Hk H (Stp.refl pr.g) pr.w rfl⟩
def sDraw (i : Nat) : SM W0 := fun env w => match env[i]? with
  | some (.val .ob) => some (.nx, env, (w.1, w.2 + 1))
  | _ => none
/-- draw[1] += 1 -/
theorem ds_draw (hK : X.K = K) (haT : a ∉ T.map (·.1)) (i : Nat) {x : Str} {p1 p2 p3 tpos pos : Pos} {j j' : Nat} (hN : X.N[i]? = some x := by rfl) (hv : Vis X.env.scope x := by first | exact Or.inl rfl | exact Or.inr (Or.inl rfl) | exact Or.inr (Or.inr rfl)) (hd : (x == ("__debug__" : Str)) = false := by decide) (hcd : (x == ("__classdict__" : Str)) = false := by decide) :
    DS X (cfW K ad fd ns a p T C S) (.AugAssign (.Subscript (.Name x p1) (.Constant (.int 1) j p2) tpos) .Add (.Constant (.int 1) j' p3) pos)
      (tAugS (tVar i) (tC (.int 1)) (tC (.int 1)) (fun o i H Q => ∃ q xs k z, o = .ref q ∧ i = .int k ∧ SqL X.K H q xs ∧ 0 ≤ k ∧ xs[k.toNat]? = some z ∧ Q z H) (ipI fun i j => i + j) rSetL) (sDraw i) := by
  subst hK
  refine ⟨ps_augS (pe_var hN hv hd hcd) pe_int get_list pe_int ip_add set_list, ?_⟩
  intro Hk0 H0 env w σ Hk H pr o env' w' e Dn hh
  have h1 : env[i]? = some (.val .ob) ∧ o = .nx ∧ env' = env ∧ w' = (w.1, w.2 + 1) := by
    unfold sDraw at e
    cases z : env[i]? with
    | none => rw [z] at e; cases e
    | some s =>
      rw [z] at e
      cases s <;> try (cases e; done)
      rename_i d'
      cases d' <;> try (cases e; done)
      cases e
      exact ⟨rfl, rfl, rfl, rfl⟩
  obtain ⟨hi, rfl, rfl, rfl⟩ := h1
  obtain ⟨v, ev, rv⟩ := pr.sl i _ hi
  obtain rfl : v = .ref a := rv
  obtain ⟨o1, o2, o3⟩ := pr.w
  refine ⟨_, ev, a, _, 1, .int w.2, rfl, rfl, SqL.of o2, by decide, rfl, _, _, rfl, rfl, a, _, 1, 1, rfl, rfl, o2, rfl, ?_⟩
  have hka : Hk a = none := by
    cases z : Hk a with
    | none => rfl
    | some u => exact absurd (Or.inl rfl) (pr.g.nf a (ne_none z))
  have hne : ∀ {b : Addr} {u : HO}, Hk b = some u → b ≠ a := fun {b u} h z => by rw [z, hka] at h; cases h
  have hfp : ∀ {b : Addr}, ¬ (drawZ ns a p T).FP b → b ≠ a := fun {b} f z => f (.inl z)
  refine hh σ Hk _ ⟨pr.k, pr.base, ⟨fun b u h => by rw [upd_ne (hne h)]; exact pr.g.e b u h, pr.g.nf, fun b f => ?_⟩, pr.new, fun b u f s h => by rw [upd_ne (hfp f)]; exact pr.keep b u f s h, fun b s => ?_, ?_, pr.len, fun j s hj => ?_, pr.ap⟩ (Ex.refl _)
  · by_cases z : b = a
    · rw [z, upd_same]; simp
    · rw [upd_ne z]; exact pr.g.dm b f
  · obtain ⟨h1, ⟨C', dx, fs, h2⟩, h3⟩ := pr.self b s
    exact ⟨h1, ⟨C', dx, fs, by rw [upd_ne (hfp h3)]; exact h2⟩, h3⟩
  · refine ⟨o1, ?_, fun q hq => ?_⟩
    · rw [upd_same]
      show some (HO.lst [.ref p, .int ((w.2 : Int) + 1)]) = some (.lst [.ref p, .int ((w.2 + 1 : Nat) : Int)])
      rw [show ((w.2 + 1 : Nat) : Int) = (w.2 : Int) + 1 by omega]
    · obtain ⟨ps, t1, t2, t3⟩ := o3 q hq
      have nq : q.1 ≠ a := fun z => haT (z ▸ List.mem_map_of_mem hq)
      refine ⟨ps, by rw [upd_ne nq]; exact t1, t2, fun pos cv hc => ?_⟩
      obtain ⟨cc, e1, e2⟩ := t3 pos cv hc
      refine ⟨cc, e1, ?_⟩
      rw [upd_ne (fun z => by rw [z, o2] at e2; cases e2)]
      exact e2
  · have sl := pr.sl j s hj
    have mv : ∀ {q : Addr} {u : HO}, Mine (cfW X.K ad fd ns a p T C S) H0 Hk H q u → Mine (cfW X.K ad fd ns a p T C S) H0 Hk (upd H a (.lst [.ref p, .int ((w.2 : Int) + 1)])) q u := fun {q u} m => ⟨m.h0, m.hk, m.nf, by rw [upd_ne (hfp m.nf)]; exact m.at_⟩
    cases s with
    | un => trivial
    | val d => exact sl
    | own l => obtain ⟨q, vs, ex, m, r⟩ := sl; exact ⟨q, vs, ex, mv m, r⟩
    | ownd ks l => obtain ⟨q, vs, ex, m, hl, r⟩ := sl; exact ⟨q, vs, ex, mv m, hl, r⟩
    | obj k l => obtain ⟨q, dx, vs, ex, m, hs, hl, r⟩ := sl; exact ⟨q, dx, vs, ex, mv m, hs, hl, r⟩
    | fn f => exact sl
end
end DL
set_option Elab.async false
set_option linter.all false
set_option maxRecDepth 100000
set_option maxHeartbeats 4000000
/-! DLl: constants, isinstance, starred arguments, xs[::-1]. -/
namespace DL
open PySem PySem.Spec PyProof.Rows L2 Evl StX
theorem bt_len : bootBuiltins "len" = some (.builtin "len") := by decide +kernel
theorem bt_any : bootBuiltins "any" = some (.builtin "any") := by decide +kernel
theorem bt_all : bootBuiltins "all" = some (.builtin "all") := by decide +kernel
theorem bt_sum : bootBuiltins "sum" = some (.builtin "sum") := by decide +kernel
theorem bt_min : bootBuiltins "min" = some (.builtin "min") := by decide +kernel
theorem bt_max : bootBuiltins "max" = some (.builtin "max") := by decide +kernel
theorem bt_sorted : bootBuiltins "sorted" = some (.builtin "sorted") := by decide +kernel
theorem bt_isinstance : bootBuiltins "isinstance" = some (.builtin "isinstance") := by decide +kernel
theorem bt_list : bootBuiltins "list" = some (.type "list") := by decide +kernel
theorem bt_tuple : bootBuiltins "tuple" = some (.type "tuple") := by decide +kernel
theorem bt_dict : bootBuiltins "dict" = some (.type "dict") := by decide +kernel
theorem bt_int : bootBuiltins "int" = some (.type "int") := by decide +kernel
theorem bt_str : bootBuiltins "str" = some (.type "str") := by decide +kernel
theorem bt_bool : bootBuiltins "bool" = some (.type "bool") := by decide +kernel
theorem bt_zip : bootBuiltins "zip" = some (.type "zip") := by decide +kernel
theorem bt_enumerate : bootBuiltins "enumerate" = some (.type "enumerate") := by decide +kernel
theorem bt_range : bootBuiltins "range" = some (.type "range") := by decide +kernel
theorem hu65 {A : Around} {k : Nat} (hr : Room k A) : A.units + 65 < cLine := by have := hr.un; omega
section
variable {X : Cx} {c : Cfg}
theorem de_constI {x : Str} {i : Int} {t : Tok} {pos : Pos} (hg : Gl X x) (hm : X.mg x = some (.int i t)) (hd : (x == ("__debug__" : Str)) = false := by decide) : DE X c (.Name x pos) (tC (.int i)) (eC (.int i)) :=
  ⟨pe_glob hg hm ⟨t, rfl⟩ hd, eC_ok fun _ => rfl⟩
theorem de_constS {x : Str} {i : Str} {t : Tok} {pos : Pos} (hg : Gl X x) (hm : X.mg x = some (.str i t)) (hd : (x == ("__debug__" : Str)) = false := by decide) : DE X c (.Name x pos) (tC (.str i)) (eC (.str i)) :=
  ⟨pe_glob hg hm ⟨t, rfl⟩ hd, eC_ok fun _ => rfl⟩
theorem ca_any {K : PySem.W.Frag} (hc : X.calm = true := by rfl) (hK : X.K = K := by rfl) : CallR X (.builtin "any") (rAny K) := hK ▸ cr_any hc
theorem ca_all {K : PySem.W.Frag} (hc : X.calm = true := by rfl) (hK : X.K = K := by rfl) : CallR X (.builtin "all") (rAll K) := hK ▸ cr_all hc
theorem ca_sum {K : PySem.W.Frag} (hc : X.calm = true := by rfl) (hK : X.K = K := by rfl) : CallR X (.builtin "sum") (rSum K) := hK ▸ cr_sum hc
theorem ca_min {K : PySem.W.Frag} (hc : X.calm = true := by rfl) (hK : X.K = K := by rfl) : CallR X (.builtin "min") (rMinA K) := hK ▸ call_minA_0 hc
theorem ca_max {K : PySem.W.Frag} (hc : X.calm = true := by rfl) (hK : X.K = K := by rfl) : CallR X (.builtin "max") (rMaxA K) := hK ▸ call_maxA_0 hc
theorem ca_list {K : PySem.W.Frag} (hK : X.K = K := by rfl) : CallR X (.type "list") (fun xs H Q => ∃ p ys, xs = [.ref p] ∧ (SqL K H p ys ∨ SqT K H p ys) ∧ ∀ l, H l = none → Q (.ref l) (upd H l (.lst ys))) := hK ▸ call_list_of
theorem ca_tuple {K : PySem.W.Frag} (hK : X.K = K := by rfl) : CallR X (.type "tuple") (fun xs H Q => ∃ p ys, xs = [.ref p] ∧ ((SqL K H p ys ∧ ∀ l, H l = none → Q (.ref l) (upd H l (.tup ys))) ∨ (SqT K H p ys ∧ Q (.ref p) H))) := hK ▸ call_tuple_of
/-! ### isinstance -/
def tyN : D → Option String
  | .non => some "NoneType"
  | .bl _ => some "bool"
  | .int _ => some "int"
  | .str _ => some "str"
  | .tup _ => some "tuple"
  | .lst _ => some "list"
  | .scr _ => some "list"
  | .dic _ _ => some "dict"
  | .ins _ _ => none
  | .ob => none
  | .pt _ => none
theorem tyN_rep {T : CT} {Hk H : Hp} {d : D} {v : V} {t : String} (r : Rep T Hk d v) (e : Ex Hk H) (h : tyN d = some t) : TyX T.K H v (.type t) := by
  cases d <;> simp only [tyN, reduceCtorEq, Option.some.injEq] at h <;> subst h
  · rw [show v = V.non from r]; exact .base .non
  · rw [show v = V.bl _ from r]; exact .base (.bl _)
  · rw [show v = V.int _ from r]; exact .base (.int _)
  · rw [show v = V.str _ from r]; exact .base (.str _)
  · obtain ⟨a, vs, rfl, h, _⟩ := r
    rcases ex_t e h with h | ⟨o, _, _, h1, h2, _⟩
    · rcases h with h | ⟨o, h⟩
      · exact .base (.tup h)
      · exact .fTuple h
    · exact .kTuple h1 h2
  · obtain ⟨a, vs, rfl, h, _⟩ := r
    exact .base (.lst (e _ _ h))
  · obtain ⟨a, rfl, h⟩ := r
    rcases ex_l e h with h | ⟨o, _, _, h1, h2, _⟩
    · rcases h with h | ⟨o, h⟩
      · exact .base (.lst h)
      · exact .base (.frz h)
    · exact .kList h1 h2
  · obtain ⟨a, o, vs, rfl, h, _⟩ := r
    exact .fDict (e _ _ h)
def isT (f : String → Bool) : D → Option D := fun d => (tyN d).map fun t => .bl (f t)
def tyL : List String := ["NoneType", "bool", "int", "str", "tuple", "list", "dict"]
theorem tyN_mem {d : D} {t : String} (h : tyN d = some t) : t ∈ tyL := by
  cases d <;> simp only [tyN, reduceCtorEq, Option.some.injEq] at h <;> subst h <;> decide
theorem rd_isi {T : String} {f : String → Bool} (hT : ∀ t ∈ tyL, kitB t T = some (f t)) {x : V} {d dd : D} {Hk H : Hp} {Q : VK} (g : Gd c.Z Hk H) (r : Rep c.T Hk d x) (e : isT f d = some dd) (q : ∀ Hk' H', StpP c.Z Hk H Hk' H' → Rep c.T Hk' dd (.bl (match tyN d with | some t => f t | none => false)) → Q (.bl (match tyN d with | some t => f t | none => false)) H') :
    rIsi c.T.K [x, .ty T] H Q := by
  obtain ⟨t, e1, e2⟩ := map_some e
  subst e2
  refine ⟨x, .ty T, .type t, .type T, f t, rfl, .ty T, tyN_rep r g.e e1, kit_ty (hT t (tyN_mem e1)), ?_⟩
  have := q Hk H (StpP.refl g)
  rw [e1] at this
  exact this rfl
theorem de_isi {T : String} {T' : Str} {f : String → Bool} (hT : ∀ t ∈ tyL, kitB t T = some (f t)) (hK : X.K = c.T.K) (hv : bootBuiltins T' = some (.type T)) (hg : Gl X "isinstance") (hm : X.mg "isinstance" = none) (hgT : Gl X T') (hmT : X.mg T' = none) {e : Expr} {te : TE} {φ : EM c.Z.W} {p p2 pos : Pos} (h : DE X c e te φ)
    (hn : T' ≠ "__name__" := by decide) (hd : (T' == ("__debug__" : Str)) = false := by decide) (hs : starEach [e, .Name T' p2] X.env = (false, eval e X.env) :: starEach [.Name T' p2] X.env := by rfl) (hs2 : starEach [.Name T' p2] X.env = (false, eval (.Name T' p2) X.env) :: starEach [] X.env := by rfl) (hpl : (backTo pos (starEach [.Name T' p2] X.env)).any (·.1) = false := by rfl) :
    DE X c (.Call (.Name "isinstance" p) [e, .Name T' p2] [] pos) (tCB (rIsi c.T.K) (tCons te (tCons (tC (.ty T)) tNil))) (eUn (isT f) φ) := by
  refine ⟨hK ▸ pe_callB call_isi hg hm PyProof.Rows.boot_isinstance (pa_cons h.p (pa_cons (pe_bltn hgT hmT hv rfl hn hd) pa_nil hs2) hs) (by decide) (by decide) hs hpl, ?_⟩
  intro Hk0 H0 env w σ Hk H pr d w' e Q q
  obtain ⟨⟨d1, w1⟩, e1, e⟩ := bind_some e
  obtain ⟨d2, e2, e⟩ := map_some e
  cases e
  refine h.k _ _ _ _ _ _ _ pr d1 _ e1 _ fun v Hk1 H1 s1 o1 r1 => ?_
  exact rd_isi hT s1.g r1 e2 fun Hk2 H2 s2 r2 => q _ Hk2 H2 (s1.trans s2.s) (s2.ok o1) r2
/-- isinstance(e, (list, tuple)) -/
def isRow : D → Option D := isT fun t => t == "list" || t == "tuple"
theorem kit_row : ∀ t ∈ tyL, kitB t "list" = some (t == "list") ∧ kitB t "tuple" = some (t == "tuple") := by decide +kernel
theorem kitAny_row {K : PySem.W.Frag} {t : String} (h : t ∈ tyL) : PySem.W.kitAny K (.type t) [.type "list", .type "tuple"] = some (t == "list" || t == "tuple") := by
  obtain ⟨h1, h2⟩ := kit_row t h
  refine kitAny_cons (kit_ty h1) (fun z => ?_) (fun z => by rw [z]; rfl)
  refine kitAny_cons (kit_ty h2) (fun z2 => ?_) (fun z2 => by rw [z2, Bool.or_true])
  rw [z, z2]; exact kitAny_nil
theorem de_isiRow (hK : X.K = c.T.K) (hg : Gl X "isinstance") (hm : X.mg "isinstance" = none) (hgL : Gl X "list") (hmL : X.mg "list" = none) (hgT : Gl X "tuple") (hmT : X.mg "tuple" = none) {e : Expr} {te : TE} {φ : EM c.Z.W} {k : Nat} {p p2 p3 p4 pos : Pos} (h : DE X c e te φ)
    (hs : starEach [e, .Tuple [.Name "list" p2, .Name "tuple" p3] k p4] X.env = (false, eval e X.env) :: starEach [.Tuple [.Name "list" p2, .Name "tuple" p3] k p4] X.env := by rfl)
    (hs2 : starEach [.Tuple [.Name "list" p2, .Name "tuple" p3] k p4] X.env = (false, eval (.Tuple [.Name "list" p2, .Name "tuple" p3] k p4) X.env) :: starEach [] X.env := by rfl)
    (hs3 : starEach [.Name "list" p2, .Name "tuple" p3] X.env = (false, eval (.Name "list" p2) X.env) :: starEach [.Name "tuple" p3] X.env := by rfl) (hs4 : starEach [.Name "tuple" p3] X.env = (false, eval (.Name "tuple" p3) X.env) :: starEach [] X.env := by rfl)
    (hpl : (backTo pos (starEach [.Tuple [.Name "list" p2, .Name "tuple" p3] k p4] X.env)).any (·.1) = false := by rfl) :
    DE X c (.Call (.Name "isinstance" p) [e, .Tuple [.Name "list" p2, .Name "tuple" p3] k p4] [] pos) (tCB (rIsiT c.T.K) (tCons te (tCons (tTup (tCons (tC (.ty "list")) (tCons (tC (.ty "tuple")) tNil))) tNil))) (eUn isRow φ) := by
  refine ⟨hK ▸ pe_callB call_isiT hg hm PyProof.Rows.boot_isinstance (pa_cons h.p (pa_cons (pe_tup (pa_cons (pe_bltn hgL hmL bt_list rfl) (pa_cons (pe_bltn hgT hmT bt_tuple rfl) pa_nil hs4) hs3)) pa_nil hs2) hs) (by decide) (by decide) hs hpl, ?_⟩
  intro Hk0 H0 env w σ Hk H pr d w' e Q q
  obtain ⟨⟨d1, w1⟩, e1, e⟩ := bind_some e
  obtain ⟨d2, e2, e⟩ := map_some e
  cases e
  obtain ⟨t, e3, e4⟩ := map_some e2
  subst e4
  refine h.k _ _ _ _ _ _ _ pr d1 _ e1 _ fun v Hk1 H1 s1 o1 r1 => ?_
  refine ⟨by decide, fun a ha => ?_⟩
  have s2 : StpP c.Z Hk1 H1 Hk1 (upd H1 a (.tup [.ty "list", .ty "tuple"])) := StpP.own s1.g ha
  refine ⟨v, a, [.ty "list", .ty "tuple"], .type t, [.type "list", .type "tuple"], _, rfl, upd_same, .cons (.ty _) (.cons (.ty _) .nil), tyN_rep r1 s2.s.g.e e3, kitAny_row (tyN_mem e3), ?_⟩
  exact q _ Hk1 _ (s1.trans s2.s) (s2.ok o1) rfl
/-! ### of own classes -/
structure IsiOk (T : CT) (k j : Nat) : Prop where
  cl : Cls T.K (T.ad k)
  ha : PySem.W.findIn T.K (.ref (T.ad k)) "__class__" = some (some (.builtin "object.__class__"))
  hn : PySem.W.specialIn T.K (.builtin "object.__class__") "__get__" = some (some (.builtin "getset_descriptor.__get__"))
  htk : PySem.W.takesIn T.K (.builtin "object.__class__") = some true
  hm : PySem.W.mroIn T.K (T.ad k) (.type "object") = some true
  kit : PySem.W.kitOne T.K (.ref (T.ad k)) (.ref (T.ad j)) = some (k == j)
theorem IsiOk.to {K : PySem.W.Frag} {ad : Nat → Addr} {fd fd' : Nat → List Str} {a b : Addr} {k j : Nat} (h : IsiOk ⟨K, ad, fd, a⟩ k j) : IsiOk ⟨K, ad, fd', b⟩ k j := ⟨h.cl, h.ha, h.hn, h.htk, h.hm, h.kit⟩
/-- of the class j? asked of instances of the classes ks -/
def isIns (ks : List Nat) (j : Nat) : D → Option D
  | .ins k _ => if k ∈ ks then some (.bl (k == j)) else none
  | _ => none
theorem kit_int : ∀ t ∈ tyL, kitB t "int" = some (t == "int" || t == "bool") := by decide +kernel
theorem kit_bool : ∀ t ∈ tyL, kitB t "bool" = some (t == "bool") := by decide +kernel
theorem kit_str : ∀ t ∈ tyL, kitB t "str" = some (t == "str") := by decide +kernel
theorem kit_dict : ∀ t ∈ tyL, kitB t "dict" = some (t == "dict") := by decide +kernel
def is_int : D → Option D := isT fun t => t == "int" || t == "bool"
def is_bool : D → Option D := isT fun t => t == "bool"
def is_str : D → Option D := isT fun t => t == "str"
def is_dict : D → Option D := isT fun t => t == "dict"
theorem isIns_eq {ks : List Nat} {j : Nat} {d r : D} (h : isIns ks j d = some r) : ∃ k l, d = .ins k l ∧ k ∈ ks ∧ r = .bl (k == j) := by
  cases d <;> try (cases h; done)
  rename_i k l
  have h : (if k ∈ ks then some (D.bl (k == j)) else none) = some r := h
  split at h
  · rename_i z; cases h; exact ⟨k, l, rfl, z, rfl⟩
  · cases h
theorem de_isiC {ks : List Nat} {j : Nat} {C : Str} (hI : ∀ k ∈ ks, IsiOk c.T k j) (hK : X.K = c.T.K) (hg : Gl X "isinstance") (hm : X.mg "isinstance" = none) (hgT : Gl X C) (hmT : X.mg C = some (.ref (c.T.ad j))) {e : Expr} {te : TE} {φ : EM c.Z.W} {p p2 pos : Pos} (h : DE X c e te φ)
    (hd : (C == ("__debug__" : Str)) = false := by decide) (hs : starEach [e, .Name C p2] X.env = (false, eval e X.env) :: starEach [.Name C p2] X.env := by rfl) (hs2 : starEach [.Name C p2] X.env = (false, eval (.Name C p2) X.env) :: starEach [] X.env := by rfl) (hpl : (backTo pos (starEach [.Name C p2] X.env)).any (·.1) = false := by rfl) :
    DE X c (.Call (.Name "isinstance" p) [e, .Name C p2] [] pos) (tCB (rIsi c.T.K) (tCons te (tCons (tC (.ref (c.T.ad j))) tNil))) (eUn (isIns ks j) φ) := by
  refine ⟨hK ▸ pe_callB call_isi hg hm PyProof.Rows.boot_isinstance (pa_cons h.p (pa_cons (pe_glob hgT hmT rfl hd) pa_nil hs2) hs) (by decide) (by decide) hs hpl, ?_⟩
  intro Hk0 H0 env w σ Hk H pr d w' e Q q
  obtain ⟨⟨d1, w1⟩, e1, e⟩ := bind_some e
  obtain ⟨d2, e2, e⟩ := map_some e
  cases e
  obtain ⟨k, l, rfl, hk, rfl⟩ := isIns_eq e2
  · 
    refine h.k _ _ _ _ _ _ _ pr _ _ e1 _ fun v Hk1 H1 s1 o1 r1 => ?_
    obtain ⟨a, dx, us, rfl, ha, hl, rl⟩ := r1
    have I := hI k hk
    exact ⟨.ref a, .ref (c.T.ad j), .ref (c.T.ad k), .ref (c.T.ad j), k == j, rfl, .own _, .base (.ins (s1.g.e _ _ ha) I.cl I.ha I.hn I.htk I.hm), I.kit, q _ Hk1 H1 s1 o1 rfl⟩
/-! ### starred arguments -/
theorem seqD_sq {T : CT} {Hk H : Hp} {d : D} {v : V} {l : List D} (r : Rep T Hk d v) (e : Ex Hk H) (h : seqD d = some l) (hs : ∀ x, d ≠ .str x) : ∃ p xs, v = .ref p ∧ (SqT T.K H p xs ∨ SqL T.K H p xs) ∧ RepL T Hk l xs := by
  cases d <;> simp only [seqD, reduceCtorEq, Option.some.injEq] at h
  · exact absurd rfl (hs _)
  · subst h; obtain ⟨a, vs, rfl, h1, r⟩ := r; exact ⟨a, vs, rfl, .inl (ex_t e h1), r⟩
  · subst h; obtain ⟨a, vs, rfl, h1, r⟩ := r; exact ⟨a, vs, rfl, .inr (SqL.of (e _ _ h1)), r⟩
  · subst h; obtain ⟨a, rfl, h1⟩ := r; exact ⟨a, _, rfl, .inr (ex_l e h1), RepL.ints _⟩
def seqN : D → Option (List D)
  | .str _ => none
  | d => seqD d
theorem seqN_eq {d : D} {l : List D} (h : seqN d = some l) : seqD d = some l ∧ ∀ x, d ≠ .str x := by
  cases d <;> first | exact ⟨h, fun _ z => by cases z⟩ | cases h
def aStar {W : Type} (f : EM W) (g : AM W) : AM W := fun env w => (f env w).bind fun p => (seqN p.1).bind fun l => (g env p.2).bind fun q => some (l ++ q.1, q.2)
theorem da_star (hK : X.K = c.T.K) {e : Expr} {es : List Expr} {te : TE} {t : TA} {φ : EM c.Z.W} {ψ : AM c.Z.W} {p : Pos} (h : DE X c e te φ) (hr : DA X c es t ψ) (hs : starEach (.Starred e p :: es) X.env = (true, eval e X.env) :: starEach es X.env := by rfl) :
    DA X c (.Starred e p :: es) (tStar c.T.K te t) (aStar φ ψ) := by
  refine ⟨hK ▸ pa_star h.p hr.p hs, ?_⟩
  intro Hk0 H0 env w σ Hk H pr l w' e Q q
  obtain ⟨⟨d, w1⟩, e1, e⟩ := bind_some e
  obtain ⟨l1, e2, e⟩ := bind_some e
  obtain ⟨⟨l2, w2⟩, e3, e⟩ := bind_some e
  cases e
  obtain ⟨e4, e5⟩ := seqN_eq e2
  refine h.k _ _ _ _ _ _ _ pr _ _ e1 _ fun v Hk1 H1 s1 o1 r1 => ?_
  obtain ⟨p, xs, ev, hx, rl⟩ := seqD_sq r1 s1.g.e e4 e5
  refine ⟨p, xs, ev, hx, ?_⟩
  refine hr.k _ _ _ _ _ _ _ (pr.step s1 o1) _ _ e3 _ fun ys Hk2 H2 s2 o2 r2 => ?_
  exact q _ Hk2 H2 (s1.trans s2) o2 ((rl.mono s2.k).append r2)
end
end DL
set_option Elab.async false
set_option linter.all false
set_option maxRecDepth 100000
set_option maxHeartbeats 4000000
/-! DLm: an own __bool__, bool(x), own == and !=. -/
namespace DL
open PySem PySem.Spec PyProof.Rows L2 Evl StX
section
variable {X : Cx} {c : Cfg}
/-! ### the truth of an instance with its own __bool__ -/
theorem tru_own {CX : CXT} {C f : Addr} {fd : FuncData} {ps : List Str} {k : Nat} {sp : Sp} {E : XK} (F : FnOk X.prog X.w X.K X.mg X.base CX k f fd ps sp) (hr : Room k X.A) (hs : PySem.W.findIn X.K (.ref C) "__bool__" = some (some (.ref f))) (hf : PySem.W.isFn X.K (.ref f) = true) (hb : Binds X.K fd ps []) (hx : Passes CX X E) :
    TruR X (fun x H Q => ∃ a dx fs, x = .ref a ∧ H a = some (.ins C dx fs) ∧ sp [.ref a] H (fun v H' => ∃ b, v = .bl b ∧ Q b H') E) := by
  intro pins s σ H x v Q I rx h
  obtain ⟨a, dx, fs, rfl, ha, hsp⟩ := h
  cases rx
  obtain ⟨mA, J, _⟩ := ins_get I.hok ha
  obtain ⟨od, J, _⟩ := J.look
  obtain ⟨m, hF⟩ := I.fr
  refine PySem.W.truthy_K hF I.ok.mod.kin J hs hf (wpAny_mono (run_fn (us := [.ref a]) (vs := [.ref a]) (ds := []) (dvs := []) F hr hb .nil hx I (.cons rfl .nil) hsp) (fun u s' hq => ?_) fun _ _ e => e)
  obtain ⟨v, H', I', rv, b, rfl, q⟩ := hq
  cases rv
  exact ⟨H', I', q⟩
/-- a class's own __bool__ as a constant: the class, the method's meaning, the truth -/
abbrev BoolD (W : Type) := Nat × FM W × Bool
def BoolAt (P : Program) (w : World) (K : PySem.W.Frag) (mg : Str → Option Value) (base : Heap) (T : CT) (Z : Wo) (B : Hp → Prop) (lv : Nat) (q : BoolD Z.W) : Prop :=
  ∃ f, FnD P w K mg base lv f (spD T Z B 1 q.2.1) ∧ PySem.W.findIn K (.ref (T.ad q.1)) "__bool__" = some (some (.ref f)) ∧ PySem.W.isFn K (.ref f) = true ∧ ∀ l w, q.2.1 [.ins q.1 l] w = some (.bl q.2.2, w)
def rTru (T : CT) (Z : Wo) (B : Hp → Prop) (L : List (BoolD Z.W)) : V → Hp → (Bool → Hp → Prop) → Prop := fun x H Q => (∃ k, TruV T.K x H k ∧ Q k H) ∨
  ∃ q ∈ L, ∃ a dx fs, x = .ref a ∧ H a = some (.ins (T.ad q.1) dx fs) ∧ spD T Z B 1 q.2.1 [.ref a] H (fun v H' => ∃ b, v = .bl b ∧ Q b H') E0
def tiOf {W : Type} (L : List (BoolD W)) (i : Nat) : Option Bool := (L.find? fun q => decide (q.1 = i)).map (·.2.2)
theorem tru_all {k lv : Nat} {L : List (BoolD c.Z.W)} (hK : X.K = c.T.K) (h : ∀ q ∈ L, BoolAt X.prog X.w X.K X.mg X.base c.T c.Z c.B lv q) (hr : Room k X.A) (hk : lv ≤ k) : TrD X c (rTru c.T c.Z c.B L) (tiOf L) := by
  refine ⟨?_, ?_⟩
  · intro pins s σ H x v Q I rx h'
    rcases h' with h' | ⟨q, hq, h'⟩
    · exact tru_ok pins s σ H x v Q I rx (hK ▸ h')
    · obtain ⟨f, ⟨fd, ps, F, hb, _⟩, hs, hf, hm⟩ := h q hq
      exact tru_own F (hr.mono hk) hs hf hb pass0 pins s σ H x v Q I rx h'
  · intro Hk H x d b w g hB ow rx e Q q
    cases d with
    | ins i l =>
      obtain ⟨t, e1, e2⟩ := map_some (show (L.find? fun q => decide (q.1 = i)).map (·.2.2) = some b from e)
      have h1 := List.find?_some e1
      have h2 : t.1 = i := of_decide_eq_true h1
      subst h2
      subst e2
      obtain ⟨f, _, _, _, hm⟩ := h t (List.mem_of_find?_eq_some e1)
      refine .inr ⟨t, List.mem_of_find?_eq_some e1, ?_⟩
      obtain ⟨a, dx, us, rfl, ha, hl, rl⟩ := id rx
      exact ⟨a, dx, _, rfl, g.e _ _ ha, Hk, [.ins t.1 l], w, .bl t.2.2, w, g, hB, ow, .cons rx .nil, rfl, hm l w, fun v Hk' H' s o rv => ⟨_, rv, q Hk' H' s o⟩⟩
    | _ => exact .inl ((tru_base (X := X) hK).2 Hk H x _ b w g hB ow rx e Q q)
/-! ### bool(x) of a thing with a truth -/
def eBool {W : Type} (ti : Nat → Option Bool) (f : EM W) : EM W := fun env w => (f env w).bind fun p => (tru ti p.1).map fun b => (.bl b, p.2)
end
end DL
set_option Elab.async false
set_option linter.all false
set_option maxRecDepth 100000
set_option maxHeartbeats 4000000
/-! DLn: dicts as data; tuples whose object is known. -/
namespace DL
open PySem PySem.Spec PyProof.Rows L2 Evl StX
section
variable {X : Cx} {c : Cfg}
/-! ### a new dict is locked for good -/
def tSeal (t : TE) : TE := fun σ H Q => t σ H fun v H' => ∃ a kvs, v = .ref a ∧ H' a = some (.dK kvs) ∧ ∀ o, Q v (upd H' a (.frz o (.dK kvs)))
theorem pe_seal {e : Expr} {t : TE} (h : PE X e t) : PE X e (tSeal t) := by
  refine ⟨fun pins s σ H Q I hw => ?_⟩
  refine thn (h.run pins s σ H _ I hw) fun v s1 ⟨x, H1, I1, r, a, kvs, ex, ha, q⟩ => ?_
  obtain ⟨o, I2⟩ := I1.lock ha trivial
  exact ⟨x, _, I2, r, q o⟩
/-- a new dict of one's own -/
def KOk (c : Cfg) (t : TE) (φ : Env' → c.Z.W → Option ((List Key × List D) × c.Z.W)) : Prop :=
  ∀ Hk0 H0 env w σ Hk H, Pre c Hk0 H0 env w σ Hk H → ∀ ks l w', φ env w = some ((ks, l), w') →
    ∀ Q : VK, (∀ p vs Hk' H', Stp c.Z Hk H Hk' H' → c.Z.ok w' H' → H p = none → Hk' p = none → H' p = some (.dK (ks.zip vs)) → ks.length = l.length → RepL c.T Hk' l vs → Q (.ref p) H') → t σ H Q
abbrev KM (W : Type) := Env' → W → Option ((List Key × List D) × W)
structure DK (X : Cx) (c : Cfg) (e : Expr) (t : TE) (φ : KM c.Z.W) : Prop where
  p : PE X e t
  k : KOk c t φ
def eK {W : Type} (f : KM W) : EM W := fun env w => (f env w).map fun p => (.dic p.1.1 p.1.2, p.2)
theorem seal_step {Hk H Hk1 H1 : Hp} {p : Addr} {o : HO} (s : Stp c.Z Hk H Hk1 H1) (h0 : H p = none) (hk : Hk1 p = none) (g0 : Gd c.Z Hk H) : Stp c.Z Hk H (upd Hk1 p o) (upd H1 p o) := by
  have hf : ¬ c.Z.FP p := fun f => g0.dm p f h0
  refine ⟨s.k.trans (Ex.new hk), ⟨fun a u h => ?_, fun a h f => ?_, fun a f => ?_⟩, fun a h => ?_, fun a u f h => ?_⟩
  · by_cases z : a = p
    · subst z; rw [upd_same] at h ⊢; exact h
    · rw [upd_ne z] at h ⊢; exact s.g.e a u h
  · by_cases z : a = p
    · subst z; exact hf f
    · rw [upd_ne z] at h; exact s.g.nf a h f
  · by_cases z : a = p
    · subst z; rw [upd_same]; simp
    · rw [upd_ne z]; exact s.g.dm a f
  · by_cases z : a = p
    · subst z; exact .inr h0
    · rw [upd_ne z] at h; exact s.new a h
  · rw [upd_ne (ne_of_none h h0)]; exact s.keep a u f h
theorem DK.de {e : Expr} {t : TE} {φ : KM c.Z.W} (h : DK X c e t φ) : DE X c e (tSeal t) (eK φ) := by
  refine ⟨pe_seal h.p, ?_⟩
  intro Hk0 H0 env w σ Hk H pr d w' e Q q
  obtain ⟨⟨⟨ks, l⟩, w1⟩, e1, e⟩ := map_some e
  cases e
  refine h.k _ _ _ _ _ _ _ pr ks l _ e1 _ fun p vs Hk1 H1 s1 o1 h0 hk h1 hl r1 => ?_
  refine ⟨p, _, rfl, h1, fun o => ?_⟩
  have hf : ¬ c.Z.FP p := fun f => pr.g.dm p f h0
  have s2 := seal_step (o := .frz o (.dK (ks.zip vs))) s1 h0 hk pr.g
  exact q _ _ _ s2 (ok_mut o1 hf (by rw [h1]; simp)) ⟨p, o, vs, rfl, upd_same, hl, r1.mono (Ex.new hk)⟩
def vK {W : Type} (f : KM W) : VM W := fun env w => (f env w).map fun p => (.ownd p.1.1 p.1.2, p.2)
theorem DK.v {e : Expr} {t : TE} {φ : KM c.Z.W} (h : DK X c e t φ) : DV X c e t (vK φ) := by
  refine ⟨h.p, ?_⟩
  intro Hk0 H0 env w σ Hk H pr s w' e Q q
  obtain ⟨⟨⟨ks, l⟩, w1⟩, e1, e⟩ := map_some e
  cases e
  exact h.k _ _ _ _ _ _ _ pr ks l _ e1 Q fun p vs Hk1 H1 s1 o1 h0 hk h1 hl r1 => q _ Hk1 H1 s1 o1 ⟨p, vs, rfl, h0, hk, h1, hl, r1⟩
/-! ### merging pairs -/
def mrgD (acc : List Key × List D) (ps : List (Key × D)) : List Key × List D := ps.foldl (fun acc p => putD acc.1 acc.2 p.1 p.2) acc
theorem mrgD_rep {T : CT} {H : Hp} : ∀ {ps : List (Key × D)} {vs : List V} {ks : List Key} {l : List D} {us : List V}, RepL T H (ps.map (·.2)) vs → ks.length = l.length → RepL T H l us →
    ∃ ws, mergeK (ks.zip us) ((ps.map (·.1)).zip vs) = (mrgD (ks, l) ps).1.zip ws ∧ (mrgD (ks, l) ps).1.length = (mrgD (ks, l) ps).2.length ∧ RepL T H (mrgD (ks, l) ps).2 ws
  | [], _, ks, l, us, _, hl, r => ⟨us, rfl, hl, r⟩
  | p :: ps, _, ks, l, us, ⟨v, vs, e, h1, h2⟩, hl, r => by
    subst e
    obtain ⟨us', z1, z2, z3⟩ := putD_rep (k := p.1) hl r h1
    obtain ⟨ws, y1, y2, y3⟩ := mrgD_rep (ps := ps) (ks := (putD ks l p.1 p.2).1) (l := (putD ks l p.1 p.2).2) h2 z2 z3
    refine ⟨ws, ?_, y2, y3⟩
    rw [← z1] at y1
    exact y1
/-! ### dict(pairs) -/
def pairsD : List D → Option (List (Key × D))
  | [] => some []
  | .tup [k, d] :: l => (keyD k).bind fun k => (pairsD l).map fun r => (k, d) :: r
  | _ => none
theorem pairsD_rep {T : CT} {Hk H : Hp} (e : Ex Hk H) : ∀ {l : List D} {vs : List V} {ps : List (Key × D)}, RepL T Hk l vs → pairsD l = some ps → ∃ (as : List Addr) (us : List V), vs = as.map V.ref ∧ us.length = ps.length ∧ RepL T Hk (ps.map (·.2)) us ∧
    Paired (fun p kv => SqT T.K H p [kV kv.1, kv.2]) as ((ps.map (·.1)).zip us)
  | [], vs, ps, r, h => by
    cases h
    rw [show vs = [] from r]
    exact ⟨[], [], rfl, rfl, rfl, .nil⟩
  | d :: l, vs, ps, ⟨v, rs, ev, h1, h2⟩, h => by
    subst ev
    have hd : ∃ k x, d = .tup [k, x] ∧ ((keyD k).bind fun k => (pairsD l).map fun r => (k, x) :: r) = some ps := by
      cases d <;> try (cases h; done)
      rename_i t
      match t, h with
      | [k, x], h => exact ⟨k, x, rfl, h⟩
    obtain ⟨k, x, rfl, h⟩ := hd
    obtain ⟨kk, e1, h⟩ := bind_some h
    obtain ⟨r, e2, h⟩ := map_some h
    subst h
    obtain ⟨as, us, z1, z2, z3, z4⟩ := pairsD_rep e h2 e2
    obtain ⟨a, ws, rfl, hs, rw'⟩ := h1
    obtain ⟨vk, vx, rfl, rk, rx⟩ := rw'.two
    have ek := keyD_rep rk e1
    subst ek
    exact ⟨a :: as, vx :: us, by rw [z1]; rfl, by rw [List.length_cons, List.length_cons, z2], .cons rx z3, .cons (ex_t e hs) z4⟩
theorem pair_vals {h : Heap} : ∀ {prs : List (Key × Value)} {ps : List Addr}, (∀ (j : Nat) (q : Key × Value), prs[j]? = some q → ∃ (b : Addr) (u : Value), ps[j]? = some b ∧ IsTup h b #[u, q.2] ∧ keyIs q.1 u = true) →
    ∃ vps : List (Value × Value), vps.length = prs.length ∧ ∀ (j : Nat) (q : Key × Value), prs[j]? = some q → ∃ (b : Addr) (u : Value), ps[j]? = some b ∧ IsTup h b #[u, q.2] ∧ keyIs q.1 u = true ∧ vps[j]? = some (u, q.2)
  | [], _, _ => ⟨[], rfl, fun j q e => by simp at e⟩
  | q0 :: rest, [], hps => by
    obtain ⟨b, u, e1, e2, e3⟩ := hps 0 q0 rfl
    simp at e1
  | q0 :: rest, p0 :: ps', hps => by
    obtain ⟨b, u, e1, e2, e3⟩ := hps 0 q0 rfl
    obtain ⟨vps, hl, hv⟩ := pair_vals (prs := rest) (ps := ps') fun j q e => by
      obtain ⟨b, u, e1, e2, e3⟩ := hps (j + 1) q (by simpa using e)
      exact ⟨b, u, by simpa using e1, e2, e3⟩
    refine ⟨(u, q0.2) :: vps, by simp [hl], fun j q e => ?_⟩
    cases j with
    | zero =>
      simp at e; subst e
      exact ⟨b, u, e1, e2, e3, rfl⟩
    | succ j =>
      obtain ⟨b, u, e1, e2, e3, e4⟩ := hv j q (by simpa using e)
      exact ⟨b, u, by simpa using e1, e2, e3, by simpa using e4⟩
/-- dict(t) of a tuple of pairs whose object is known -/
theorem call_dictT {K : PySem.W.Frag} (hcalm : X.calm = true := by rfl) (hK : X.K = K := by rfl) : CallR X (.type "dict") (fun xs H Q => ∃ (a : Addr) (o : Obj) (ps : List Addr) (kvs : List (Key × V)), xs = [.ref a] ∧ H a = some (.frz o (.tup (ps.map V.ref))) ∧ o.dict = none ∧ Paired (fun p kv => SqT K H p [kV kv.1, kv.2]) ps kvs ∧
    ∀ p, H p = none → Q (.ref p) (upd H p (.dK (mergeK [] kvs)))) := by
  subst hK
  intro pins s σ H xs us Q I r q
  obtain ⟨a, o, ps, kvs, ex, hq, hd, hp, q⟩ := q
  subst ex
  obtain ⟨u, eu, rx⟩ := vals1 r
  subst eu
  cases rx
  obtain ⟨ho, hz, its, rv, o', ho', hc, n, hdat⟩ := (show ObjOk X.prog X.w H s.heap a (.frz o (.tup (ps.map V.ref))) from I.hok a _ hq)
  rw [ho] at ho'
  cases ho'
  have ei := refs_at rv
  subst ei
  rw [List.length_map] at hz
  obtain ⟨prs, rel, hl, hpr⟩ := pairs_of I hp
  have hps : ∀ (j : Nat) (q : Key × Value), prs[j]? = some q → ∃ (b : Addr) (u : Value), ps[j]? = some b ∧ IsTup s.heap b #[u, q.2] ∧ keyIs q.1 u = true := hpr
  obtain ⟨vps, hvl, hv⟩ := pair_vals hps
  have hT : ∀ j, j < prs.length → ∃ q, prs[j]? = some q := fun j hj => ⟨prs[j], List.getElem?_eq_getElem hj⟩
  have back : ∀ (j : Nat) (k v : Value), vps[j]? = some (k, v) → ∃ q b, prs[j]? = some q ∧ ps[j]? = some b ∧ IsTup s.heap b #[k, v] ∧ keyIs q.1 k = true ∧ q.2 = v := fun j k v e => by
    obtain ⟨q, eq⟩ := hT j (by rw [← hvl]; exact (List.getElem?_eq_some_iff.mp e).1)
    obtain ⟨b, u, e1, e2, e3, e4⟩ := hv j q eq
    rw [e] at e4
    cases e4
    exact ⟨q, b, eq, e1, e2, e3, rfl⟩
  have P := PairArg.tuple (prog := X.prog) (w := X.w) a (ps.map Value.ref).toArray (fun j => ps[j]?.getD 0) vps
  refine PySem.call_dict_pairs (knd := mixKind X.prog X.w) (kvs := prs) P (I.ok.hd hcalm) ⟨⟨o, n, ho, hc, hd, hdat⟩, by simp [hvl, hl], fun j k v e => ?_⟩ ⟨hvl.symm, fun i key v e => ?_⟩ (by rw [hvl, hl]; exact hz) fun h' tk hd' k => ?_
  · obtain ⟨q, b, e1, e2, e3, _, _⟩ := back j k v e
    exact ⟨by simp [e2], .inl (by simp only [e2, Option.getD_some]; exact e3)⟩
  · obtain ⟨q, b, e1, e2, e3, e4, e5⟩ := back i key v e
    exact ⟨q.1, by rw [e1, ← e5], e4⟩
  · have hm : (s.heap.objs.size == sysModules) = false := beq_eq_false_iff_ne.mpr (Nat.ne_of_gt I.big)
    have hlen : (mergeK [] kvs).length ≤ sizeLine := by
      refine Nat.le_trans (length_mergeK kvs []) ?_
      rw [List.length_nil, Nat.zero_add, rel.length, hl]
      exact hz
    exact ⟨.ref s.heap.objs.size, upd H s.heap.objs.size (.dK (mergeK [] kvs)), I.laid (t' := tk) (fun b o e => k b o (by simp) e) (Nat.le_refl _) (show ObjOk X.prog X.w _ _ _ (.dK (mergeK [] kvs)) from ⟨hlen, hm, merged [] prs, KV.merge rel .nil, hd'⟩), rfl, q _ (I.hok.fresh (Nat.le_refl _))⟩
/-! ### dict(..) -/
def fldP (N : Nat) (fd : Nat → List Str) (f : Str) : D → Option D
  | .ins k l => if k < N then ((fd k).zip l).lookup f else none
  | _ => none
/-- a field as it is held -/
theorem de_fldP {N : Nat} (C : ClsOk c.T N) (hK : X.K = c.T.K) {a : Expr} {f : Str} {φ : EM c.Z.W} {pos : Pos} {te1 : TE} (ha : DE X c a te1 φ) (hb : attributeBase a f X.env (eval a X.env) = eval a X.env := by rfl) : DE X c (.Attribute a f pos) (tFld c.T.K te1 f) (eUn (fldP N c.T.fd f) φ) := by
  obtain ⟨pa, ka⟩ := ha
  refine ⟨hK ▸ pe_fld pa hb, ?_⟩
  intro Hk0 H0 env w σ Hk H p d w' e Q q
  obtain ⟨⟨dx, w1⟩, e1, e⟩ := bind_some e
  obtain ⟨d', e2, e⟩ := map_some e
  cases e
  refine ka _ _ _ _ _ _ _ p _ _ e1 _ fun x Hk1 H1 s1 o1 r1 => ?_
  have h : ∃ k l, dx = .ins k l ∧ k < N ∧ ((c.T.fd k).zip l).lookup f = some d := by
    cases dx <;> simp only [fldP, reduceCtorEq] at e2
    split at e2
    · exact ⟨_, _, rfl, by assumption, e2⟩
    · cases e2
  obtain ⟨k, l, rfl, hk, e3⟩ := h
  obtain ⟨a', dx, vs, ea, hi, hl, rl⟩ := r1
  obtain ⟨m, v, hv, rv⟩ := lookup_zip rl e3
  exact ⟨a', _, dx, _, v, ea, s1.g.e _ _ hi, C.cl k hk, C.no k hk f m, hv, q v Hk1 H1 s1 o1 rv⟩
def kDict : List D → Option (List Key × List D)
  | [.lst l] => (pairsD l).map (mrgD ([], []))
  | [.pt l] => (pairsD l).map (mrgD ([], []))
  | _ => none
def kCall {W : Type} (f : List D → Option (List Key × List D)) (a : AM W) : KM W := fun env w => (a env w).bind fun p => (f p.1).map fun d => (d, p.2)
def rDictA (K : PySem.W.Frag) : List V → Hp → VK → Prop := fun xs H Q => (∃ (a : Addr) (ps : List Addr) (kvs : List (Key × V)), xs = [.ref a] ∧ SqL K H a (ps.map V.ref) ∧ Paired (fun p kv => SqT K H p [kV kv.1, kv.2]) ps kvs ∧
    ∀ p, H p = none → Q (.ref p) (upd H p (.dK (mergeK [] kvs)))) ∨ (∃ (a : Addr) (o : Obj) (ps : List Addr) (kvs : List (Key × V)), xs = [.ref a] ∧ H a = some (.frz o (.tup (ps.map V.ref))) ∧ o.dict = none ∧ Paired (fun p kv => SqT K H p [kV kv.1, kv.2]) ps kvs ∧
    ∀ p, H p = none → Q (.ref p) (upd H p (.dK (mergeK [] kvs))))
theorem ca_dict {K : PySem.W.Frag} (hc : X.calm = true := by rfl) (hK : X.K = K := by rfl) : CallR X (.type "dict") (rDictA K) := by
  subst hK
  exact CallR.or (call_dictP hc) (call_dictT hc)
theorem dk_dict {e : Expr} {ta : TA} {φ : AM c.Z.W} {p pos : Pos} (hK : X.K = c.T.K) (hc : X.calm = true) (hg : Gl X "dict") (hm : X.mg "dict" = none) (ha : DA X c [e] ta φ)
    (he : starEach [e] X.env = (false, eval e X.env) :: starEach [] X.env := by rfl) (hpl : (backTo pos (starEach [] X.env)).any (·.1) = false := by rfl) : DK X c (.Call (.Name "dict" p) [e] [] pos) (tCB (rDictA c.T.K) ta) (kCall kDict φ) := by
  refine ⟨pe_callTy (ca_dict hc hK) hg hm bt_dict ha.p (by decide) (by decide) he hpl, ?_⟩
  intro Hk0 H0 env w σ Hk H pr ks l w' e Q q
  obtain ⟨⟨ds, w1⟩, e1, e⟩ := bind_some e
  obtain ⟨d, e2, e⟩ := map_some e
  cases e
  refine ha.k _ _ _ _ _ _ _ pr ds _ e1 _ fun vs Hk1 H1 s1 o1 r1 => ?_
  have fin : ∀ {l0 : List D} {us : List V} {ps : List (Key × D)} {p : Addr} {kvs : List (Key × V)}, us.length = ps.length → RepL c.T Hk1 (ps.map (·.2)) us → kvs = (ps.map (·.1)).zip us → (ks, l) = mrgD ([], []) ps → H1 p = none → Q (.ref p) (upd H1 p (.dK (mergeK [] kvs))) := by
    intro l0 us ps p kvs hl ru ek em hp
    obtain ⟨ws, y1, y2, y3⟩ := mrgD_rep (ks := []) (l := []) (us := []) ru rfl rfl
    have s2 : StpP c.Z Hk1 H1 Hk1 (upd H1 p (.dK (mergeK [] kvs))) := StpP.own s1.g hp
    have h0 : H p = none := by
      cases z : H p with
      | none => rfl
      | some u =>
        by_cases f : c.Z.FP p
        · exact absurd hp (s1.g.dm p f)
        · rw [s1.keep p u f z] at hp; cases hp
    rw [← em] at y1 y2 y3
    refine q p ws Hk1 _ (s1.trans s2.s) (s2.ok o1) h0 (hk_none s1.g hp) ?_ y2 y3
    rw [upd_same, ek]
    exact congrArg (fun z => some (HO.dK z)) y1
  have hcase : (∃ l0, ds = [.lst l0] ∧ (pairsD l0).map (mrgD ([], [])) = some (ks, l)) ∨ ∃ l0, ds = [.pt l0] ∧ (pairsD l0).map (mrgD ([], [])) = some (ks, l) := by
    have e2 : kDict ds = some (ks, l) := e2
    unfold kDict at e2
    split at e2
    · exact .inl ⟨_, rfl, e2⟩
    · exact .inr ⟨_, rfl, e2⟩
    · cases e2
  rcases hcase with ⟨l0, rfl, e2⟩ | ⟨l0, rfl, e2⟩
  · obtain ⟨ps, e3, e4⟩ := map_some e2
    obtain ⟨v, rfl, rv⟩ := r1.one
    obtain ⟨a, us, rfl, ha', rl⟩ := rv
    obtain ⟨as, ws, rfl, hl, rw', pp⟩ := pairsD_rep s1.g.e rl e3
    exact .inl ⟨a, as, _, rfl, SqL.of (s1.g.e _ _ ha'), pp, fun p hp => fin (l0 := []) hl rw' rfl e4.symm hp⟩
  · obtain ⟨ps, e3, e4⟩ := map_some e2
    obtain ⟨v, rfl, rv⟩ := r1.one
    obtain ⟨a, o, us, rfl, ha', ho, rl⟩ := rv
    obtain ⟨as, ws, rfl, hl, rw', pp⟩ := pairsD_rep s1.g.e rl e3
    exact .inr ⟨a, o, as, _, rfl, s1.g.e _ _ ha', ho, pp, fun p hp => fin (l0 := []) hl rw' rfl e4.symm hp⟩
/-! ### tuple(xs) whose object is told -/
theorem call_tupleP {K : PySem.W.Frag} (hK : X.K = K := by rfl) : CallR X (.type "tuple") (fun xs H Q => ∃ p ys, xs = [.ref p] ∧ ((SqL K H p ys ∧ ∀ l o, H l = none → o.dict = none → Q (.ref l) (upd H l (.frz o (.tup ys)))) ∨ (SqT K H p ys ∧ Q (.ref p) H))) := by
  subst hK
  intro pins s σ H xs us Q I r h
  obtain ⟨p, ys, rfl, h⟩ := h
  obtain ⟨u, rfl, rx⟩ := vals1 r
  cases rx
  rcases h with ⟨hq, q⟩ | ⟨hq, q⟩
  · obtain ⟨its, r', pl, hz⟩ := I.list hq
    have hlen := r'.length
    refine call_tuple_list pl.isList (fun h' kp => ?_) (by simp only [List.size_toArray] <;> omega)
    have I1 : L2.Inv X pins σ H { s with heap := h' } := I.kept (t' := s.toks) kp
    have I2 : L2.Inv X pins σ (upd H h'.objs.size (.frz { cls := .type "tuple", data := .seq its.toArray } (.tup ys))) { s with heap := h'.push { cls := .type "tuple", data := .seq its.toArray } } :=
      I1.laid (t' := s.toks) (fun b o e => Heap.get?_push_of_some _ e) (Nat.le_refl _) (show ObjOk X.prog X.w _ _ _ (.frz _ (.tup ys)) from ⟨Heap.get?_push_size _ rfl, hz, its, r', IsTup.new _ _⟩)
    exact ⟨.ref h'.objs.size, _, I2, rfl, q _ _ (I1.hok.fresh (Nat.le_refl _)) rfl⟩
  · obtain ⟨its, r', pl, hz⟩ := I.tuple hq
    exact call_tuple_same pl ⟨.ref p, H, I, rfl, q⟩
def fPTup : List D → Option D
  | [.lst l] => some (.pt l)
  | [.tup l] => some (.tup l)
  | _ => none
theorem rc_ptup : RCD c (fun xs H Q => ∃ p ys, xs = [.ref p] ∧ ((SqL c.T.K H p ys ∧ ∀ l o, H l = none → o.dict = none → Q (.ref l) (upd H l (.frz o (.tup ys)))) ∨ (SqT c.T.K H p ys ∧ Q (.ref p) H))) fPTup := by
  intro Hk H vs ds d gd r e Q q
  unfold fPTup at e
  split at e
  · cases e
    obtain ⟨v, rfl, rv⟩ := r.one
    obtain ⟨a, us, rfl, ha, rl⟩ := rv
    refine ⟨a, us, rfl, .inl ⟨SqL.of (gd.e _ _ ha), fun l o hl ho => ?_⟩⟩
    have s2 := StpP.new (o := .frz o (.tup us)) gd hl
    exact q _ _ _ s2 ⟨l, o, us, rfl, upd_same, ho, rl.mono s2.s.k⟩
  · cases e
    obtain ⟨v, rfl, rv⟩ := r.one
    obtain ⟨a, us, rfl, ha, rl⟩ := id rv
    exact ⟨a, us, rfl, .inr ⟨ex_t gd.e ha, q _ _ _ (StpP.refl gd) rv⟩⟩
  · cases e
/-! ### displays of dicts -/
/-- pairs of a display -/
def PsOk (c : Cfg) (trs : List (TE × TE)) (φ : Env' → c.Z.W → Option (List (Key × D) × c.Z.W)) : Prop :=
  ∀ Hk0 H0 env w σ Hk H, Pre c Hk0 H0 env w σ Hk H → ∀ ps w', φ env w = some (ps, w') →
    ∀ Q : List (V × V) → Hp → Prop, (∀ us Hk' H', Stp c.Z Hk H Hk' H' → c.Z.ok w' H' → us.length = ps.length → RepL c.T Hk' (ps.map (·.2)) us → Q (((ps.map (·.1)).zip us).map fun kv => (kV kv.1, kv.2)) H') → tPairs trs σ H Q
structure DPs (X : Cx) (c : Cfg) (pos : Pos) (keys : List (Option Expr)) (values : List Expr) (trs : List (TE × TE)) (φ : Env' → c.Z.W → Option (List (Key × D) × c.Z.W)) : Prop where
  p : PPs X pos keys values trs
  k : PsOk c trs φ
def psNil {W : Type} : Env' → W → Option (List (Key × D) × W) := fun _ w => some ([], w)
def psCons {W : Type} (k v : EM W) (r : Env' → W → Option (List (Key × D) × W)) : Env' → W → Option (List (Key × D) × W) := fun env w =>
  (k env w).bind fun p => (keyD p.1).bind fun y => (v env p.2).bind fun q => (r env q.2).map fun t => ((y, q.1) :: t.1, t.2)
theorem dps_nil {pos : Pos} : DPs X c pos [] [] [] psNil := ⟨pps_nil, fun Hk0 H0 env w σ Hk H p ps w' e Q q => by cases e; exact q [] Hk H (Stp.refl p.g) p.w rfl rfl⟩
theorem dps_cons {pos : Pos} {k v : Expr} {ks : List (Option Expr)} {vs : List Expr} {tk tv : TE} {trs : List (TE × TE)} {κ φ : EM c.Z.W} {ψ : Env' → c.Z.W → Option (List (Key × D) × c.Z.W)} (hk : DE X c k tk κ) (hv : DE X c v tv φ) (hr : DPs X c pos ks vs trs ψ) :
    DPs X c pos (some k :: ks) (v :: vs) ((tk, tv) :: trs) (psCons κ φ ψ) := by
  refine ⟨pps_cons hk.p hv.p hr.p, ?_⟩
  intro Hk0 H0 env w σ Hk H p ps w' e Q q
  obtain ⟨⟨dk, w1⟩, e1, e⟩ := bind_some e
  obtain ⟨y, e2, e⟩ := bind_some e
  obtain ⟨⟨d, w2⟩, e3, e⟩ := bind_some e
  obtain ⟨⟨t, w3⟩, e4, e⟩ := map_some e
  cases e
  refine hk.k _ _ _ _ _ _ _ p _ _ e1 _ fun u Hk1 H1 s1 o1 r1 => ?_
  have p1 := p.step s1 o1
  refine hv.k _ _ _ _ _ _ _ p1 _ _ e3 _ fun x Hk2 H2 s2 o2 r2 => ?_
  refine hr.k _ _ _ _ _ _ _ (p1.step s2 o2) _ _ e4 _ fun us Hk3 H3 s3 o3 hl r3 => ?_
  have ek := keyD_rep r1 e2
  subst ek
  exact q (x :: us) Hk3 H3 ((s1.trans s2).trans s3) o3 (by rw [List.length_cons, List.length_cons, hl]) (.cons (r2.mono s3.k) r3)
def kDisp {W : Type} (r : Env' → W → Option (List (Key × D) × W)) : KM W := fun env w => (r env w).bind fun p => if p.1.length ≤ 15 then some (mrgD ([], []) p.1, p.2) else none
theorem dk_disp {pos : Pos} {keys : List (Option Expr)} {values : List Expr} {trs : List (TE × TE)} {ψ : Env' → c.Z.W → Option (List (Key × D) × c.Z.W)} (h : DPs X c pos keys values trs ψ) (hall : keys.all (·.isSome) = true := by rfl) (hl : keys.length = values.length := by rfl) (h0 : keys ≠ [] := by exact fun h => nomatch h) (h15 : keys.length ≤ 15 := by decide) :
    DK X c (.Dict keys values pos) (tDisp trs) (kDisp ψ) := by
  refine ⟨pe_disp h.p hall hl h0 h15, ?_⟩
  intro Hk0 H0 env w σ Hk H pr ks l w' e Q q
  obtain ⟨⟨ps, w1⟩, e1, e⟩ := bind_some e
  split at e
  · rename_i hz
    have hz : ps.length ≤ 15 := hz
    have e5 : mrgD ([], []) ps = (ks, l) := congrArg Prod.fst (Option.some.inj e)
    have e6 : w1 = w' := congrArg Prod.snd (Option.some.inj e)
    subst e6
    intro D hD
    have s0 : StpP c.Z Hk H Hk (upd H D (.dK [])) := StpP.own pr.g hD
    have fD : ¬ c.Z.FP D := fun f => pr.g.dm D f hD
    refine h.k _ _ _ _ _ _ _ (pr.step s0.s (s0.ok pr.w)) ps _ e1 _ fun us Hk1 H1 s1 o1 hu r1 => ?_
    have h1 : H1 D = some (.dK []) := s1.keep D _ fD upd_same
    have hk1 : Hk1 D = none := by
      cases z : Hk1 D with
      | none => rfl
      | some u =>
        rcases s1.new D (ne_none z) with y | y
        · exact absurd (hk_none pr.g hD) y
        · rw [upd_same] at y; cases y
    obtain ⟨ws, y1, y2, y3⟩ := mrgD_rep (ks := []) (l := []) (us := []) r1 rfl rfl
    rw [e5] at y1 y2 y3
    refine ⟨h1, (ps.map (·.1)).zip us, rfl, by rw [List.length_zip, List.length_map, hu, Nat.min_self]; exact hz, ?_⟩
    have s2 := (s0.s.trans s1).mut (o := .dK (mergeK [] ((ps.map (·.1)).zip us))) hD hk1 (ne_none h1)
    refine q D ws Hk1 _ s2 (ok_mut o1 fD (by rw [h1]; simp)) hD hk1 ?_ y2 y3
    rw [upd_same]
    exact congrArg (fun z => some (HO.dK z)) y1
  · cases e
end
end DL
set_option Elab.async false
set_option linter.all false
set_option maxRecDepth 100000
set_option maxHeartbeats 4000000
/-! DLo: dict comprehensions; the walks of a dict. -/
namespace DL
open PySem PySem.Spec PyProof.Rows L2 Evl StX
section
variable {X : Cx} {c : Cfg}
def dcGo {W : Type} (γ : GM) (tt : TM W) (κ φ : EM W) : List D → Env' → W → List Key × List D → Option ((List Key × List D) × W)
  | [], _, w, acc => some (acc, w)
  | d :: r, env, w, acc => (γ d env).bind fun env1 => (tt env1 w).bind fun p =>
      if p.1 = true then (κ env1 p.2).bind fun y => (keyD y.1).bind fun k => (φ env1 y.2).bind fun q => dcGo γ tt κ φ r env q.2 (putD acc.1 acc.2 k q.1) else dcGo γ tt κ φ r env p.2 acc
def kDc {W : Type} (vs : List Nat) (ι : AM W) (γ : GM) (tt : TM W) (κ φ : EM W) : KM W := fun env w =>
  (ι env w).bind fun p => if p.1.length ≤ sizeLine then dcGo γ tt κ φ p.1 (wipeE env vs) p.2 ([], []) else none
theorem putD_len (ks : List Key) (l : List D) (k : Key) (d : D) : (putD ks l k d).1.length ≤ ks.length + 1 := by
  unfold putD
  split
  · exact Nat.le_succ _
  · rw [List.length_append]; exact Nat.le_refl _
theorem dc_ok {wi : TI} {g : TG} {tt : TT} {tk tv : TE} {vs : List Nat} {ι : AM c.Z.W} {γ : GM} {χ : TM c.Z.W} {κ φ : EM c.Z.W} {ts : List Nat} (hi : ICk c wi ι) (hg : GOk c g γ ts) (hts : ∀ i ∈ ts, i ∈ vs) (ht : TOk c tt χ) (hk : EOk c tk κ) (he : EOk c tv φ) :
    KOk c (tDc wi g tt tk tv vs) (kDc vs ι γ χ κ φ) := by
  intro Hk0 H0 env w σ Hk H p ks l w' e Q q
  obtain ⟨⟨items, w1⟩, e1, e⟩ := bind_some e
  split at e
  · rename_i hsz
    have hsz : items.length ≤ sizeLine := hsz
    refine hi _ _ _ _ _ _ _ p items w1 e1 _ fun J Hk1 H1 s1 o1 wk D hD => ?_
    have fD : ¬ c.Z.FP D := fun f => s1.g.dm D f hD
    have hD0 : H D = none := by
      cases z : H D with
      | none => rfl
      | some o => rw [s1.keep D o fD z] at hD; cases hD
    have p1 := p.step s1 o1
    have W1 := wk (fun Hk2 H2 => Stp c.Z Hk1 H1 Hk2 H2) fun _ _ z => z
    refine ⟨fun i m H2 => m = items.length - i ∧ i ≤ items.length ∧ ∃ Hk2 w2 aks al us, Stp c.Z Hk1 H1 Hk2 H2 ∧ c.Z.ok w2 H2 ∧ H2 D = some (.dK (List.zip aks us)) ∧ Hk2 D = none ∧ aks.length = al.length ∧ RepL c.T Hk2 al us ∧ aks.length ≤ i ∧
      dcGo γ χ κ φ (items.drop i) (wipeE env vs) w2 (aks, al) = some ((ks, l), w'), ⟨items.length, by simp, Nat.zero_le _, Hk1, w1, [], [], [], (StpP.own s1.g hD).s, ok_mut o1 fD (by rw [hD]; simp), upd_same, hk_none s1.g hD, rfl, rfl, Nat.zero_le _, by simpa using e⟩, ?_⟩
    rintro i m H2 ⟨rfl, hi', Hk2, w2, aks, al, us, s2, o2, hD2, hkD, hal, ra, hacc, eg⟩
    by_cases hlt : i < items.length
    · refine .inr ⟨W1.go i Hk2 H2 s2 hlt, fun H' => i + 1 ≤ items.length ∧ ∃ Hk3 w3 aks al us, Stp c.Z Hk1 H1 Hk3 H' ∧ c.Z.ok w3 H' ∧ H' D = some (.dK (List.zip aks us)) ∧ Hk3 D = none ∧ aks.length = al.length ∧ RepL c.T Hk3 al us ∧ aks.length ≤ i + 1 ∧
        dcGo γ χ κ φ (items.drop (i + 1)) (wipeE env vs) w3 (aks, al) = some ((ks, l), w'), fun H' z => ⟨items.length - (i + 1), by omega, rfl, z.1, z.2⟩, fun x H3 y => ?_⟩
      rw [drop_cons hlt] at eg
      obtain ⟨env1, g1, eg⟩ := bind_some (show (γ items[i] (wipeE env vs)).bind _ = _ from eg)
      obtain ⟨⟨b, w3⟩, g2, eg⟩ := bind_some eg
      obtain ⟨Hk3, s3, r3⟩ := W1.yld i Hk2 H2 x H3 items[i] s2 (List.getElem?_eq_getElem hlt) y
      have s13 := s2.trans s3.s
      have p3 := (p1.wipe vs).step s13 (s3.ok o2)
      refine hg _ _ _ _ _ _ _ p3 _ x env1 r3 g1 _ fun σ4 p4 wp => ⟨by rw [wp vs hts, wipe_wipe], ?_⟩
      refine ht _ _ _ _ _ _ _ p4 b w3 g2 _ fun Hk5 H5 s5 o5 => ?_
      have s15 := s13.trans s5
      have nk : ∀ {Hka Ha Hkb Hb : Hp}, Stp c.Z Hka Ha Hkb Hb → Ha D ≠ none → Hka D = none → Hkb D = none := fun {Hka Ha Hkb Hb} s h hk => by
        cases z : Hkb D with
        | none => rfl
        | some o =>
          rcases s.new D (ne_none z) with z | z
          · exact absurd hk z
          · exact absurd z h
      have hD3 := s3.s.keep D _ fD hD2
      have hk3 := nk s3.s (ne_none hD2) hkD
      have hD5 := s5.keep D _ fD hD3
      have hk5 := nk s5 (ne_none hD3) hk3
      have ra5 := (ra.mono s3.s.k).mono s5.k
      split at eg
      · rename_i hb
        rw [if_pos hb]
        obtain ⟨⟨dy, w5⟩, g3, eg⟩ := bind_some eg
        obtain ⟨yk, g4, eg⟩ := bind_some eg
        obtain ⟨⟨dv, w6⟩, g5, eg⟩ := bind_some eg
        refine hk _ _ _ _ _ _ _ (p4.step s5 o5) dy w5 g3 _ fun yv Hk6 H6 s6 o6 r6 => ?_
        have hD6 := s6.keep D _ fD hD5
        have hk6 := nk s6 (ne_none hD5) hk5
        have ra6 := ra5.mono s6.k
        refine he _ _ _ _ _ _ _ ((p4.step s5 o5).step s6 o6) dv w6 g5 _ fun vv Hk7 H7 s7 o7 r7 => ?_
        have hD7 := s7.keep D _ fD hD6
        have hk7 := nk s7 (ne_none hD6) hk6
        have ra7 := ra6.mono s7.k
        obtain ⟨us', z1, z2, z3⟩ := putD_rep (k := yk) hal ra7 r7
        refine ⟨aks.zip us, yk, keyD_rep r6 g4, hD7, by rw [List.length_zip]; omega, hlt, Hk7, w6, (putD aks al yk dv).1, (putD aks al yk dv).2, us', (((s15.trans s6).trans s7).mut hD hk7 (ne_none hD7)), ok_mut o7 fD (by rw [hD7]; simp), by rw [upd_same, z1], hk7, z2, z3, Nat.le_trans (putD_len aks al yk dv) (by omega), eg⟩
      · rename_i hb
        rw [if_neg hb]
        exact ⟨hlt, Hk5, w3, aks, al, us, s15, o5, hD5, hk5, hal, ra5, by omega, eg⟩
    · have ei : i = items.length := by omega
      subst ei
      refine .inl ⟨W1.stop Hk2 H2 s2, ?_⟩
      rw [List.drop_length] at eg
      have e5 : (aks, al) = (ks, l) := congrArg Prod.fst (Option.some.inj eg)
      have e6 : w2 = w' := congrArg Prod.snd (Option.some.inj eg)
      subst e6
      cases e5
      exact q D us Hk2 H2 (s1.trans s2) o2 hD0 hkD hD2 hal ra
  · cases e
theorem dk_dc {kx vx tg iter : Expr} {ifs : List Expr} {scope : Scope} {own : List (Str × Nat)} {pos : Pos} {wi : TI} {g : TG} {tt : TT} {tk tv : TE} {ι : AM c.Z.W} {γ : GM} {χ : TM c.Z.W} {κ φ : EM c.Z.W} {ts : List Nat} (hc : X.calm = true) (hN : X.N.Nodup) (hi : DIc X c tg iter wi ι) (ok : BlkOk X.N X.env.scope scope own)
    (hg : ∀ (s : Shared) (H : Hp) (C : Addr) (cl : List (Str × Addr)) (fp : List Addr), DG (X.blk s H scope (compEnvC scope cl C X.env) fp) c tg g γ ts) (ht : ∀ (s : Shared) (H : Hp) (C : Addr) (cl : List (Str × Addr)) (fp : List Addr), DTs (X.blk s H scope (compEnvC scope cl C X.env) fp) c ifs tt χ)
    (hk : ∀ (s : Shared) (H : Hp) (C : Addr) (cl : List (Str × Addr)) (fp : List Addr), DE (X.blk s H scope (compEnvC scope cl C X.env) fp) c kx tk κ)
    (he : ∀ (s : Shared) (H : Hp) (C : Addr) (cl : List (Str × Addr)) (fp : List Addr), DE (X.blk s H scope (compEnvC scope cl C X.env) fp) c vx tv φ) (hts : ∀ i ∈ ts, i ∈ own.map (·.2) := by decide) (hs : ∀ x, foldedSetIterable iter X.env x = pure x := by intro _; rfl) :
    DK X c (.DictComp kx vx [⟨tg, iter, ifs, 0⟩] scope pos) (tDc wi g tt tk tv (own.map (·.2))) (kDc (own.map (·.2)) ι γ χ κ φ) :=
  ⟨pe_dc hc hN hi.p ok (fun s H C cl fp => (hg s H C cl fp).p) (fun s H C cl fp => (ht s H C cl fp).p) (fun s H C cl fp => (hk s H C cl fp).p) (fun s H C cl fp => (he s H C cl fp).p) hs,
    dc_ok hi.k (hg {} (fun _ => none) 0 [] []).k hts (ht {} (fun _ => none) 0 [] []).k (hk {} (fun _ => none) 0 [] []).k (he {} (fun _ => none) 0 [] []).k⟩
/-! ### the walks of a dict (locked) -/
def kD : Key → D
  | .inl i => .int i
  | .inr x => .str x
theorem kD_rep {T : CT} {H : Hp} (k : Key) : Rep T H (kD k) (kV k) := by cases k <;> exact rfl
def dicOf : D → Option (List Key × List D)
  | .dic ks l => some (ks, l)
  | _ => none
theorem dicOf_eq {d : D} {q : List Key × List D} (h : dicOf d = some q) : d = .dic q.1 q.2 := by
  cases d <;> first | (cases h; rfl) | cases h
def iKeysD {W : Type} (f : EM W) : AM W := fun env w => (f env w).bind fun p => (dicOf p.1).map fun q => (q.1.map kD, p.2)
def iValsD {W : Type} (f : EM W) : AM W := fun env w => (f env w).bind fun p => (dicOf p.1).map fun q => (q.2, p.2)
def iItemsD {W : Type} (f : EM W) : AM W := fun env w => (f env w).bind fun p => (dicOf p.1).map fun q => ((q.1.zip q.2).map fun r => .tup [kD r.1, r.2], p.2)
section
variable {ks : List Key} {l : List D} {vs : List V} {a : Addr} {o : Obj} {Hk1 : Hp}
theorem zip_ix {α : Type} {i : Nat} {ys : List α} (hl : ks.length = ys.length) (h : i < ks.length) : ∃ k y, ks[i]? = some k ∧ ys[i]? = some y ∧ (ks.zip ys)[i]? = some (k, y) := by
  refine ⟨ks[i], ys[i]'(by omega), List.getElem?_eq_getElem h, List.getElem?_eq_getElem (by omega), ?_⟩
  rw [List.getElem?_zip_eq_some]
  exact ⟨List.getElem?_eq_getElem h, List.getElem?_eq_getElem (by omega)⟩
theorem walk_keys (h : Hk1 a = some (.frz o (.dK (ks.zip vs)))) (hl : ks.length = l.length) (r : RepL c.T Hk1 l vs) (P : Hp → Hp → Prop) (hP : ∀ Hk2 H2, P Hk2 H2 → Gd c.Z Hk2 H2 ∧ Ex Hk1 Hk2) : WalkD c (Itk a o (ks.zip vs)) (ks.map kD) P where
  go := fun i Hk H p hi => by
    obtain ⟨g, e⟩ := hP _ _ p
    rw [List.length_map] at hi
    exact ⟨g.e _ _ (e _ _ h), by rw [List.length_zip, r.length]; omega⟩
  stop := fun Hk H p => by
    obtain ⟨g, e⟩ := hP _ _ p
    exact ⟨g.e _ _ (e _ _ h), by rw [List.length_zip, List.length_map]; omega⟩
  yld := fun i Hk H x H' d p hd y => by
    obtain ⟨g, e⟩ := hP _ _ p
    obtain ⟨e1, k, v, e2, e3⟩ := y
    subst e1 e3
    obtain ⟨z1, z2⟩ := List.getElem?_zip_eq_some.mp e2
    rw [List.getElem?_map] at hd
    have z1 : ks[i]? = some k := z1
    rw [z1] at hd
    cases hd
    exact ⟨Hk, StpP.refl g, kD_rep k⟩
theorem walk_vals (h : Hk1 a = some (.frz o (.dK (ks.zip vs)))) (hl : ks.length = l.length) (r : RepL c.T Hk1 l vs) (P : Hp → Hp → Prop) (hP : ∀ Hk2 H2, P Hk2 H2 → Gd c.Z Hk2 H2 ∧ Ex Hk1 Hk2) : WalkD c (Itd a o (ks.zip vs)) l P where
  go := fun i Hk H p hi => by
    obtain ⟨g, e⟩ := hP _ _ p
    exact ⟨g.e _ _ (e _ _ h), by rw [List.length_zip, r.length]; omega⟩
  stop := fun Hk H p => by
    obtain ⟨g, e⟩ := hP _ _ p
    exact ⟨g.e _ _ (e _ _ h), by rw [List.length_zip, r.length]; omega⟩
  yld := fun i Hk H x H' d p hd y => by
    obtain ⟨g, e⟩ := hP _ _ p
    obtain ⟨e1, k, e2⟩ := y
    subst e1
    obtain ⟨z1, z2⟩ := List.getElem?_zip_eq_some.mp e2
    obtain ⟨v, hv, rv⟩ := r.get hd
    have z2 : vs[i]? = some x := z2
    rw [z2] at hv
    cases hv
    exact ⟨Hk, StpP.refl g, rv.mono e⟩
theorem walk_items (h : Hk1 a = some (.frz o (.dK (ks.zip vs)))) (hl : ks.length = l.length) (r : RepL c.T Hk1 l vs) (P : Hp → Hp → Prop) (hP : ∀ Hk2 H2, P Hk2 H2 → Gd c.Z Hk2 H2 ∧ Ex Hk1 Hk2) : WalkD c (Iti a o (ks.zip vs)) ((ks.zip l).map fun r => .tup [kD r.1, r.2]) P where
  go := fun i Hk H p hi => by
    obtain ⟨g, e⟩ := hP _ _ p
    rw [List.length_map, List.length_zip] at hi
    exact ⟨g.e _ _ (e _ _ h), by rw [List.length_zip, r.length]; exact hi⟩
  stop := fun Hk H p => by
    obtain ⟨g, e⟩ := hP _ _ p
    exact ⟨g.e _ _ (e _ _ h), by rw [List.length_zip, List.length_map, List.length_zip, r.length]; exact Nat.le_refl _⟩
  yld := fun i Hk H x H' d p hd y => by
    obtain ⟨g, e⟩ := hP _ _ p
    obtain ⟨T, k, v, e2, e3, e4, e5⟩ := y
    subst e3 e5
    obtain ⟨z1, z2⟩ := List.getElem?_zip_eq_some.mp e2
    have z1 : ks[i]? = some k := z1
    have z2 : vs[i]? = some v := z2
    obtain ⟨dv, hdv, rv⟩ := r.get' z2
    have hz : (ks.zip l)[i]? = some (k, dv) := List.getElem?_zip_eq_some.mpr ⟨z1, hdv⟩
    rw [List.getElem?_map, hz] at hd
    cases hd
    exact new_pair g e4 (kD_rep k) (rv.mono e)
end
theorem di_keys {tg e : Expr} {t : TE} {φ : EM c.Z.W} (h : DE X c e t φ) : DI X c tg e (iKeys t) (iKeysD φ) := by
  refine ⟨pi_keys h.p, ?_⟩
  intro Hk0 H0 env w σ Hk H p l w' e Q q
  obtain ⟨⟨d, w1⟩, e1, e⟩ := bind_some e
  obtain ⟨⟨ks, l'⟩, e2, e⟩ := map_some e
  cases e
  have this : d = .dic ks l' := dicOf_eq e2
  refine h.k _ _ _ _ _ _ _ p _ _ e1 _ fun v Hk1 H1 s1 o1 r1 => ?_
  rw [this] at r1
  obtain ⟨a, o, vs, rfl, ha, hl, rl⟩ := r1
  exact ⟨a, o, rfl, .inl ⟨_, s1.g.e _ _ ha, q _ Hk1 H1 s1 o1 fun P hP => walk_keys ha hl rl P hP⟩⟩
theorem di_values {tg e : Expr} {t : TE} {φ : EM c.Z.W} {apos cpos : Pos} (h : DE X c e t φ) (hbase : attributeBase e "values" X.env (eval e X.env) = eval e X.env := by rfl) (hline : (apos.endLine == cpos.line) = true := by rfl) : DI X c tg (.Call (.Attribute e "values" apos) [] [] cpos) (iVals t) (iValsD φ) := by
  refine ⟨pi_values h.p hbase hline, ?_⟩
  intro Hk0 H0 env w σ Hk H p l w' e Q q
  obtain ⟨⟨d, w1⟩, e1, e⟩ := bind_some e
  obtain ⟨⟨ks, l'⟩, e2, e⟩ := map_some e
  cases e
  have this : d = .dic ks l' := dicOf_eq e2
  refine h.k _ _ _ _ _ _ _ p _ _ e1 _ fun v Hk1 H1 s1 o1 r1 => ?_
  rw [this] at r1
  obtain ⟨a, o, vs, rfl, ha, hl, rl⟩ := r1
  exact ⟨a, o, _, rfl, s1.g.e _ _ ha, q _ Hk1 H1 s1 o1 fun P hP => walk_vals ha hl rl P hP⟩
theorem di_items {elts : List Expr} {kk : Nat} {tpos : Pos} {e : Expr} {t : TE} {φ : EM c.Z.W} {apos cpos : Pos} (h : DE X c e t φ) (hbase : attributeBase e "items" X.env (eval e X.env) = eval e X.env := by rfl) (hline : (apos.endLine == cpos.line) = true := by rfl) :
    DI X c (.Tuple elts kk tpos) (.Call (.Attribute e "items" apos) [] [] cpos) (iItems t) (iItemsD φ) := by
  refine ⟨pi_items h.p hbase hline, ?_⟩
  intro Hk0 H0 env w σ Hk H p l w' e Q q
  obtain ⟨⟨d, w1⟩, e1, e⟩ := bind_some e
  obtain ⟨⟨ks, l'⟩, e2, e⟩ := map_some e
  cases e
  have this : d = .dic ks l' := dicOf_eq e2
  refine h.k _ _ _ _ _ _ _ p _ _ e1 _ fun v Hk1 H1 s1 o1 r1 => ?_
  rw [this] at r1
  obtain ⟨a, o, vs, rfl, ha, hl, rl⟩ := r1
  exact ⟨a, o, _, rfl, s1.g.e _ _ ha, q _ Hk1 H1 s1 o1 fun P hP => walk_items ha hl rl P hP⟩
end
end DL
set_option Elab.async false
set_option linter.all false
set_option maxRecDepth 100000
set_option maxHeartbeats 4000000
/-! DLp: a lambda with parameters handed to a def and called there (or handed on). -/
namespace DL
open PySem PySem.Spec PyProof.Rows L2 Evl StX LamX NdefX
/-! ### the made lambda, known from now on -/
def LamO (f : Addr) (F : NF) (body : Expr) : HO := .ext fun h => ∃ (od : Option Addr) (sl : Array (Option Value)) (pm ctv : Value), h.get? f = some (⟨.type "function", od, .func (PySem.W.kla_fn "<lambda>" F.qual F.params body F.scope F.cl pm (.ref F.c) ctv), sl⟩ : Obj)
theorem lamO_ne {f : Addr} {F : NF} {body : Expr} (ps : Array Value) : LamO f F body ≠ .tbl ps := fun z => by unfold LamO at z; cases z
theorem lamO_at {P : Program} {w : World} {H : Hp} {h : Heap} {f : Addr} {F : NF} {body : Expr} (hok : HOk P w H h) (e : H f = some (LamO f F body)) :
    ∃ (od : Option Addr) (sl : Array (Option Value)) (pm ctv : Value), h.get? f = some (⟨.type "function", od, .func (PySem.W.kla_fn "<lambda>" F.qual F.params body F.scope F.cl pm (.ref F.c) ctv), sl⟩ : Obj) := by
  obtain ⟨z, _, _⟩ := hok f _ e
  exact z
section
variable {X : Cx} {pins : List (Addr × Obj)} {σ : L2.St} {H : Hp} {s : Shared}
theorem inv_lam {F : NF} {body : Expr} {t' : Nat} {pm ctv : Value} (I : L2.Inv X pins σ H s) :
    L2.Inv X pins σ (upd H s.heap.objs.size (LamO s.heap.objs.size F body)) { s with heap := s.heap.push { cls := .type "function", data := .func (PySem.W.kla_fn "<lambda>" F.qual F.params body F.scope F.cl pm (.ref F.c) ctv) }, toks := t' } := by
  refine I.laid (a := s.heap.objs.size) (fun b u e => Heap.get?_push_of_some _ e) (Nat.le_refl _) ?_
  have e := Heap.get?_push_size s.heap (o := { cls := .type "function", data := .func (PySem.W.kla_fn "<lambda>" F.qual F.params body F.scope F.cl pm (.ref F.c) ctv) }) rfl
  exact ⟨⟨_, _, pm, ctv, e⟩, ⟨_, e⟩, fun h1 h2 ⟨od, sl, p, t, z⟩ st => ⟨od, sl, p, t, st _ z⟩⟩
/-- a lambda is made: all but the table stays, the new objects are known -/
theorem lam_make3 {T : List NTab} {nm : Nat → Nat → Str} {c P : Addr} {params : Arguments} {body : Expr} {scope : Scope} {pos : Pos} {E : Value → Shared → Prop} {Q : Value → Shared → Prop} (I : L2.Inv X pins σ H s) (TB : TabB X.base X.mg c P) (hcode : X.env.code = .ref c)
    (hm : (P, nm) ∈ T) (hn : nm pos.line pos.col = X.env.qual ++ "<lambda>") (hu : ∀ p ∈ T, p.1 = P → p.2 = nm) (hT : TabsN T H) (hdef : defaultsOf params X.env = ([], [])) (hfree : ∀ y ∈ scope.names, y.2 = .free → ∃ c, X.env.cells.lookup y.1 = some c)
    (h : ∀ (f c' : Addr) (H1 : Hp) (s' : Shared), L2.Inv X pins σ H1 s' → (∀ b o, b ≠ P → H b = some o → H1 b = some o) → (∀ b, H1 b = none → H b = none) → TabsN T H1 → H f = none →
      H1 f = some (LamO f ⟨"<lambda>", X.env.qual ++ "<lambda>", params, [], scope, cloFrom X.env.cells scope.names [], c'⟩ body) → H1 c' = some (CodeO c' (X.env.qual ++ "<lambda>")) → Q (.ref f) s') :
    wpAny (model X.prog X.w) X.A (eval (.Lambda params body scope pos) X.env) Q E s := by
  obtain ⟨ps, hP, ht, ha⟩ := (show TabN H P nm from hT _ hm)
  refine PySem.W.kla_eval hdef ?_
  have bP : s.heap.BuiltinsAt X.mg P := TB.bm.keeps I.bk
  have hP' : s.heap.get? P = some { cls := .none, data := .fields ps } := I.hok P _ hP
  cases hc : codeAmong pos ps.toList with
  | none =>
    refine PySem.W.kla_makeFunction (mg := X.mg) (c := c) (P := P) (ps := ps) (closure_ok hfree) I.ok.glob (I.mod.glob.keeps I.bk) hcode (TB.code.keeps I.bk) hP' ht hc TB.gP bP fun c' ctv h' tk hx hge hlt hrec htb => ?_
    obtain ⟨c2, oc, vs, t, e2, hoc, hd, hv⟩ := hrec
    cases e2
    have nC : H c' = none := I.hok.fresh hge
    have nPc : P ≠ c' := ne_of_none hP nC
    have I1 := inv_table (t' := tk) (more := #[rawInt pos.line, rawInt pos.col, .ref c']) (h' := h') I hP (fun b o hb e => hx b o hb e) htb hge ⟨oc, vs, t, hoc, hd, hv⟩
    have hE : ∀ b o, b ≠ P → H b = some o → upd (upd H P (.tbl (ps ++ #[rawInt pos.line, rawInt pos.col, .ref c']))) c' (CodeO c' (X.env.qual ++ "<lambda>")) b = some o := fun b o n e => by
      rw [upd_ne (ne_of_none e nC), upd_ne n]; exact e
    have hEc : ∀ c0 q0, H c0 = some (CodeO c0 q0) → upd (upd H P (.tbl (ps ++ #[rawInt pos.line, rawInt pos.col, .ref c']))) c' (CodeO c' (X.env.qual ++ "<lambda>")) c0 = some (CodeO c0 q0) := fun c0 q0 e => hE c0 _ (fun z => by rw [z, hP] at e; exact codeO_ne ps (Option.some.inj e).symm) e
    have eL : (ps ++ #[rawInt pos.line, rawInt pos.col, .ref c']).toList = ps.toList ++ [rawInt pos.line, rawInt pos.col, .ref c'] := by simp
    have T1 : TabsN T (upd (upd H P (.tbl (ps ++ #[rawInt pos.line, rawInt pos.col, .ref c']))) c' (CodeO c' (X.env.qual ++ "<lambda>"))) := fun p hp => by
      by_cases hb : p.1 = P
      · rw [hu p hp hb, hb]
        refine ⟨_, by rw [upd_ne nPc, upd_same], by rw [eL]; exact PySem.TriplesOk_snoc _ _ _ _ ht, fun p' cv hcv => ?_⟩
        rw [eL] at hcv
        rcases among_app2 _ ht hcv with z | ⟨z, z1, z2⟩
        · obtain ⟨c0, e1, e2⟩ := ha p' cv z
          exact ⟨c0, e1, hEc _ _ e2⟩
        · refine ⟨c', z, ?_⟩
          rw [← z1, ← z2, hn]
          exact upd_same
      · obtain ⟨ps', a1, a2, a3⟩ := hT p hp
        refine ⟨ps', hE _ _ hb a1, a2, fun p' cv hcv => ?_⟩
        obtain ⟨c0, e1, e2⟩ := a3 p' cv hcv
        exact ⟨c0, e1, hEc _ _ e2⟩
    have nF := I1.hok.fresh (Nat.le_refl _)
    have I2 := inv_lam (F := ⟨"<lambda>", X.env.qual ++ "<lambda>", params, [], scope, cloFrom X.env.cells scope.names [], c'⟩) (body := body) (t' := tk) (pm := (X.mg "__name__").getD .none) (ctv := ctv) I1
    refine h h'.objs.size c' _ _ I2 (fun b o n e => ?_) (fun b e => upd_none (upd_none (upd_none e))) (T1.ext fun b o e => ?_) (I.hok.fresh (Nat.le_trans hge (Nat.le_of_lt hlt))) upd_same ?_
    · have e1 := hE b o n e
      exact (upd_ne (ne_of_none e1 nF)).trans e1
    · exact (upd_ne (ne_of_none e nF)).trans e
    · exact (upd_ne (Nat.ne_of_lt hlt)).trans upd_same
  | some cv =>
    obtain ⟨c', e, hco⟩ := ha pos cv hc
    subst e
    rw [hn] at hco
    refine PySem.W.kla_makeFunctionHit (mg := X.mg) (c := c) (P := P) (ps := ps) (closure_ok hfree) I.ok.glob (I.mod.glob.keeps I.bk) hcode (TB.code.keeps I.bk) hP' ht hc bP fun ctv h' tk hx hsz => ?_
    have I1 : L2.Inv X pins σ H { s with heap := h', toks := tk } := I.kept hx
    have nF : H h'.objs.size = none := I1.hok.fresh (Nat.le_refl _)
    have I2 := inv_lam (F := ⟨"<lambda>", X.env.qual ++ "<lambda>", params, [], scope, cloFrom X.env.cells scope.names [], c'⟩) (body := body) (t' := tk) (pm := (X.mg "__name__").getD .none) (ctv := ctv) I1
    refine h h'.objs.size c' _ _ I2 (fun b o n e => ?_) (fun b e => upd_none e) (hT.ext fun b o e => ?_) nF upd_same ?_
    · exact (upd_ne (ne_of_none e nF)).trans e
    · exact (upd_ne (ne_of_none e nF)).trans e
    · exact (upd_ne (ne_of_none hco nF)).trans hco
end
/-! ### it runs -/
section
variable {P : Program} {w : World} {K : PySem.W.Frag} {mg : Str → Option Value} {base : Heap} {N ps fr : List Str} {F : NF} {f : Addr} {k : Nat} {body : Expr}
theorem lam_run {A : Around} {outer : List Env} {s : Shared} {H : Hp} {us : List Value} {vs : List V} {ws : List (Option V)} {Q : VK} {E : XK} {tb : TE} (S : NScope N ps fr F.scope)
    (hb : ∀ (pm ctv : Value) (us : List Value), us.length = ps.length → bindArgs (PySem.W.kla_fn "<lambda>" F.qual F.params body F.scope F.cl pm (.ref F.c) ctv) ⟨us, []⟩ = pure (ps.zip us))
    (hr : Room (k + 1) A) (e0 : Env0 P w K mg base A outer s H) (hf : H f = some (LamO f F body)) (hc : H F.c = some (CodeO F.c F.qual)) (C : CellsAt F.cl fr ws s.heap H) (r : Vals vs us) (hl : vs.length = ps.length)
    (hbody : Room k (A.deeper (envF F f s.heap.objs.size)) → PE (ncx CX0 P w K mg base N F f A outer s H E) body tb) (hq : tb (startF N vs ws) H Q) :
    codeAny (model P w) A (.call (.ref f) ⟨us, []⟩) (CR CX0 outer P w H s Q E) s := by
  have lim : s.heap.NoLimit := e0.mod.nolimit.keeps fun b o e => (e0.bs b o e).1
  obtain ⟨od, sl, pm, ctv, ho⟩ := lamO_at e0.hok hf
  refine PySem.W.kla_callFunE hr.depth ho rfl S.co S.gen rfl (codeO_at e0.hok hc) ?_
  rw [hb pm ctv us (by rw [← r.length]; exact hl)]
  refine wpAny_pure (wpAny_newFunctionEnv S.nocell (fun ⟨n, _⟩ hy => S.par n (List.of_mem_zip hy).1) (fun h₁ hns hsb => ⟨lim.fresh _ hsb, ?_⟩) S.kind)
  show codeAny _ _ (.expr body (envF F f s.heap.objs.size)) _ _
  have kp : ∀ b o, s.heap.get? b = some o → h₁.get? b = some o := fun b o e => hsb.extBut b o (Nat.ne_of_lt (Heap.lt_size e)) (Heap.get?_push_of_some _ e)
  have I : L2.Inv (ncx CX0 P w K mg base N F f A outer s H E) [] (startF N vs ws) H { s with heap := h₁, toks := s.toks + (ps.zip us).length } := inv_startN S hr.hd e0 hl r C hns kp
  refine PySem.W.kla_codeExpr (wpAny_mono ((hbody (hr.deeper _)).run [] _ _ H Q I hq) (fun v s' hs => ?_) fun e s' hs => hs)
  obtain ⟨w', H', J', rv, q⟩ := hs
  exact ⟨w', H', J'.os, J'.bare, J'.base, J'.hok, rv, q⟩
end
/-! ### what its captured cells hold stays -/
theorem CellsAt.un {cl : List (Str × Addr)} {fr : List Str} {ws : List (Option V)} {h h' : Heap} {H H' : Hp} {fs : List Addr} (C : CellsAt cl fr ws h H) (u : Un fs [] H H' h h') : CellsAt cl fr ws h' H' := by
  have kp : ∀ y c, cl.lookup y = some c → ∀ v, h.IsCell c v → h'.IsCell c v := fun y c e v ⟨o, ho, hd⟩ => by
    obtain ⟨sl, q⟩ := u.any ho (C.all y c e).1 (by simp)
    exact ⟨_, q, hd⟩
  refine ⟨C.len, fun y c e => ?_, C.inj, fun i y e => ?_⟩
  · obtain ⟨n, v, z⟩ := C.all y c e
    refine ⟨?_, v, kp y c e v z⟩
    obtain ⟨o, ho, _⟩ := z
    exact u.free c o ho n (by simp)
  · obtain ⟨c, hc, hv⟩ := C.has i y e
    refine ⟨c, hc, fun v ev => ?_⟩
    obtain ⟨u', r, z⟩ := hv v ev
    exact ⟨u', r, kp y c hc _ z⟩
/-! ### a def that is told of the state at its call -/
abbrev SpS := Shared → Sp
def FnS (P : Program) (w : World) (K : PySem.W.Frag) (mg : Str → Option Value) (base : Heap) (k : Nat) (f : Addr) (n : Nat) (sp : SpS) : Prop :=
  ∃ fd ps, ps.length = n ∧ Binds K fd ps [] ∧ PySem.W.keepIn K (.ref f) = true ∧ ∀ (A : Around) (outer : List Env) (s : Shared) (H : Hp) (args : Args) (us : List Value) (vs : List V) (Q : VK), Room k A → Env0 P w K mg base A outer s H → BindsTo s fd args (ps.zip us) → Vals vs us → vs.length = n → sp s vs H Q E0 →
    codeAny (model P w) A (.call (.ref f) args) (CR CX0 outer P w H s Q E0) s
section
variable {X : Cx}
theorem run_fnS {k n : Nat} {f : Addr} {sp : SpS} {pins : List (Addr × Obj)} {σ : L2.St} {H : Hp} {s : Shared} {Q : VK} {us : List Value} {vs : List V} (F : FnS X.prog X.w X.K X.mg X.base k f n sp) (hr : Room k X.A) (I : L2.Inv X pins σ H s) (r : Vals vs us) (hl : vs.length = n) (h : sp s vs H Q E0) :
    wpAny (model X.prog X.w) X.A (call (.ref f) us) (EP X pins σ Q) X.xe s := by
  obtain ⟨fd, ps, hp, hb, hk, F⟩ := F
  have hbb := hb s us I.kIn (by rw [List.append_nil, ← r.length, hl, hp])
  rw [List.append_nil] at hbb
  refine wpAny_call (codeAny_mono (F X.A X.stack s H ⟨us, []⟩ us vs Q hr I.env0 hbb r hl h) fun r s' hq => ?_)
  cases r with
  | error e => exact hq.elim
  | ok fl =>
    cases fl with
    | ret u => exact I.after hq
    | next => exact False.elim hq
    | brk => exact False.elim hq
    | cont => exact False.elim hq
/-- a function as an argument: what is true of the heap with it -/
abbrev TF := L2.St → Hp → (V → (Heap → Prop) → Hp → Prop) → Prop
structure PF (X : Cx) (e : Expr) (t : TF) : Prop where
  run : ∀ (pins : List (Addr × Obj)) (s : Shared) (σ : L2.St) (H : Hp) (Q : V → (Heap → Prop) → Hp → Prop), L2.Inv X pins σ H s → t σ H Q →
    wpAny (model X.prog X.w) X.A (eval e X.env) (fun u s' => ∃ v Φ H', L2.Inv X pins σ H' s' ∧ RelV v u ∧ Φ s'.heap ∧ Q v Φ H') X.xe s
abbrev TAF := L2.St → Hp → (List V → (Heap → Prop) → Hp → Prop) → Prop
structure PAF (X : Cx) (es : List Expr) (t : TAF) : Prop where
  run : ∀ (pos : Pos) (pins : List (Addr × Obj)) (s : Shared) (σ : L2.St) (H : Hp) (Q : List V → (Heap → Prop) → Hp → Prop), L2.Inv X pins σ H s → t σ H Q →
    wpAny (model X.prog X.w) X.A (spliced (backTo pos (starEach es X.env))) (fun us s' => ∃ vs Φ H', L2.Inv X pins σ H' s' ∧ Vals vs us ∧ Φ s'.heap ∧ Q vs Φ H') X.xe s
theorem paf_last {e : Expr} {t : TF} (h : PF X e t) (hs : starEach [e] X.env = (false, eval e X.env) :: starEach [] X.env := by rfl) : PAF X [e] (fun σ H Q => t σ H fun v Φ H' => Q [v] Φ H') := by
  refine ⟨fun pos pins s σ H Q I q => ?_⟩
  rw [hs]
  show wpAny _ _ (spliced ((false, eval e X.env) :: backTo pos (starEach [] X.env))) _ _ s
  refine Calls.spliced_cons (thn (h.run pins s σ H _ I q) fun u s1 ⟨v, Φ, H1, I1, r1, z, q1⟩ => ?_)
  exact Calls.spliced_nil ⟨[v], Φ, H1, I1, .cons r1 .nil, z, q1⟩
theorem paf_cons {e : Expr} {es : List Expr} {te : TE} {t : TAF} (h : PE X e te) (hr : PAF X es t) (hs : starEach (e :: es) X.env = (false, eval e X.env) :: starEach es X.env := by rfl) : PAF X (e :: es) (fun σ H Q => te σ H fun x H1 => t σ H1 fun xs Φ H2 => Q (x :: xs) Φ H2) := by
  refine ⟨fun pos pins s σ H Q I q => ?_⟩
  rw [hs]
  show wpAny _ _ (spliced ((false, eval e X.env) :: backTo pos (starEach es X.env))) _ _ s
  refine Calls.spliced_cons (thn (h.run pins s σ H _ I q) fun u s1 ⟨x, H1, I1, r1, q1⟩ => ?_)
  exact thn (hr.run pos pins s1 σ H1 _ I1 q1) fun us s2 ⟨xs, Φ, H2, I2, r2, z, q2⟩ => ⟨x :: xs, Φ, H2, I2, .cons r1 r2, z, q2⟩
/-- f(.., function) -/
theorem pe_callF {k j n : Nat} {f : Addr} {sp : SpS} {x : Str} {p pos : Pos} {e : Expr} {es : List Expr} {t : TAF} (F : FnS X.prog X.w X.K X.mg X.base k f n sp) (hr : Room j X.A) (hk : k ≤ j) (hg : Gl X x) (hm : X.mg x = some (.ref f)) (ha : PAF X (e :: es) t)
    (hdb : (x == ("__debug__" : Str)) = false := by decide) (he : starEach (e :: es) X.env = (false, eval e X.env) :: starEach es X.env := by rfl) (hpl : (backTo pos (starEach es X.env)).any (·.1) = false := by rfl) :
    PE X (.Call (.Name x p) (e :: es) [] pos) (fun σ H Q => t σ H fun vs Φ H1 => vs.length = n ∧ ∀ s : Shared, Φ s.heap → sp s vs H1 Q E0) := by
  refine ⟨fun pins s σ H Q I h => ?_⟩
  refine wpAny_Call_Name_kw (ld_glob I hg hm ?_ hdb)
  refine PySem.W.callWith_K (h₀ := X.base) I.ok.mod.kin F.choose_spec.choose_spec.2.2.1 (thn (ha.run pos pins s σ H _ I h) fun us s1 ⟨vs, Φ, H1, I1, r, z, hl, q⟩ => ⟨I1.kIn, ?_⟩) he hpl
  exact run_fnS F (hr.mono hk) I1 r hl (q s1 z)
end
end DL
set_option Elab.async false
set_option linter.all false
set_option maxRecDepth 100000
set_option maxHeartbeats 4000000
/-! DLq: tests handed to defs, by data. -/
namespace DL
open PySem PySem.Spec PyProof.Rows L2 Evl StX LamX NdefX
/-- the function at fa keeps a promise wherever its captured cells hold what they held -/
def CloRun (P : Program) (w : World) (K : PySem.W.Frag) (mg : Str → Option Value) (base : Heap) (k : Nat) (fa : Addr) (F : NF) (body : Expr) (fr : List Str) (ws : List (Option V)) (n : Nat) (sp : Sp) : Prop :=
  ∀ (A : Around) (outer : List Env) (s : Shared) (H : Hp) (us : List Value) (vs : List V) (Q : VK), Room k A → Env0 P w K mg base A outer s H → H fa = some (LamO fa F body) → H F.c = some (CodeO F.c F.qual) → CellsAt F.cl fr ws s.heap H → Vals vs us → vs.length = n → sp vs H Q E0 →
    codeAny (model P w) A (.call (.ref fa) ⟨us, []⟩) (CR CX0 outer P w H s Q E0) s
/-- a test's meaning as a def's -/
def fG {W : Type} (f : D → Option Bool) : FM W
  | [d], w => (f d).map fun b => (.bl b, w)
  | _, _ => none
/-- a world in which two things stand for good -/
@[reducible] def Wo.fix (Z : Wo) (a b : Addr) (φ χ : Heap → Prop) : Wo where
  W := Z.W
  FP := Z.FP
  ok := fun w H => Z.ok w H ∧ H a = some (.ext φ) ∧ H b = some (.ext χ)
  loc := fun h k e => ⟨Z.loc h.1 k e, e _ _ h.2.1, e _ _ h.2.2⟩
  dom := fun h f => Z.dom h.1 f
theorem Gd.fix {Z : Wo} {a b : Addr} {φ χ : Heap → Prop} {Hk H : Hp} (g : Gd Z Hk H) : Gd (Z.fix a b φ χ) Hk H := ⟨g.e, g.nf, g.dm⟩
theorem Gd.unfix {Z : Wo} {a b : Addr} {φ χ : Heap → Prop} {Hk H : Hp} (g : Gd (Z.fix a b φ χ) Hk H) : Gd Z Hk H := ⟨g.e, g.nf, g.dm⟩
theorem Stp.unfix {Z : Wo} {a b : Addr} {φ χ : Heap → Prop} {Hk H Hk' H' : Hp} (s : Stp (Z.fix a b φ χ) Hk H Hk' H') : Stp Z Hk H Hk' H' := ⟨s.k, s.g.unfix, s.new, s.keep⟩
theorem Stp.fix {Z : Wo} {a b : Addr} {φ χ : Heap → Prop} {Hk H Hk' H' : Hp} (s : Stp Z Hk H Hk' H') : Stp (Z.fix a b φ χ) Hk H Hk' H' := ⟨s.k, s.g.fix, s.new, s.keep⟩
def lamP (fa : Addr) (F : NF) (body : Expr) : Heap → Prop := fun h => ∃ (od : Option Addr) (sl : Array (Option Value)) (pm ctv : Value), h.get? fa = some (⟨.type "function", od, .func (PySem.W.kla_fn "<lambda>" F.qual F.params body F.scope F.cl pm (.ref F.c) ctv), sl⟩ : Obj)
def codeP (c : Addr) (q : Str) : Heap → Prop := fun h => ∃ (oc : Obj) (vs : Array Value) (t : Tok), h.get? c = some oc ∧ oc.data = .fields vs ∧ vs[1]? = some (.str q t)
/-- the frame of a def that got a test: what is fixed in it -/
@[reducible] def Cfg.tst (T : CT) (Z : Wo) (B : Hp → Prop) (Bm : ∀ {H H' : Hp}, Ex H H' → B H → B H') (Hk : Hp) (fa : Addr) (F : NF) (body : Expr) (g : D → Option Bool) : Cfg where
  T := T
  Z := Z.fix fa F.c (lamP fa F body) (codeP F.c F.qual)
  B := fun Hk' => B Hk' ∧ Ex Hk Hk'
  Bm := fun e h => ⟨Bm e h.1, h.2.trans e⟩
  C := fun v f => v = .ref fa ∧ f = g
  S := fun _ => False
/-- what a def with a test as its last argument promises -/
def spL (P : Program) (w0 : World) (K : PySem.W.Frag) (mg : Str → Option Value) (base : Heap) (T : CT) (Z : Wo) (B : Hp → Prop) (lv n : Nat) (f : (D → Option Bool) → FM Z.W) : SpS := fun s vs H Q _ =>
  ∃ Hk ds us w d w' fa F body fr ws g, vs = us ++ [.ref fa] ∧ Gd Z Hk H ∧ B Hk ∧ Z.ok w H ∧ RepL T Hk ds us ∧ ds.length = n ∧ H fa = some (LamO fa F body) ∧ H F.c = some (CodeO F.c F.qual) ∧ ¬ Z.FP fa ∧ ¬ Z.FP F.c ∧ CellsAt F.cl fr ws s.heap H ∧
    CloRun P w0 K mg base lv fa F body fr ws 1 (spD T Z (fun Hk' => B Hk' ∧ Ex Hk Hk') 1 (fG g)) ∧ f g ds w = some (d, w') ∧ ∀ v Hk' H', Stp Z Hk H Hk' H' → Z.ok w' H' → Rep T Hk' d v → Q v H'
/-- .. its meaning, of its body's -/
def startL (N : Nat) (ds : List D) (g : D → Option Bool) : Env' := ds.map .val ++ (.fn g :: List.replicate (N - ds.length - 1) .un)
def lM {W : Type} (N : Nat) (ψ : SM W) (g : D → Option Bool) : FM W := fun ds w => (ψ (startL N ds g) w).bind fun r => match r.1 with
  | .rt d => some (d, r.2.2)
  | .nx => some (.non, r.2.2)
  | _ => none
section
variable {P : Program} {w0 : World} {K : PySem.W.Frag} {mg : Str → Option Value} {base : Heap} {T : CT} {Z : Wo} {B : Hp → Prop} {Bm : ∀ {H H' : Hp}, Ex H H' → B H → B H'}
theorem pre_startL {N : List Str} {n : Nat} {ds : List D} {us : List V} {w : Z.W} {Hk H : Hp} {fa : Addr} {F : NF} {body : Expr} {g : D → Option Bool} (gd : Gd Z Hk H) (b : B Hk) (o : Z.ok w H) (h1 : H fa = some (LamO fa F body)) (h2 : H F.c = some (CodeO F.c F.qual)) (r : RepL T Hk ds us) (hn : N.length = n) (hl : ds.length < n) :
    Pre (Cfg.tst T Z B Bm Hk fa F body g) Hk H (startL n ds g) w (L2.start N (us ++ [.ref fa])) Hk H where
  k := Ex.refl _
  base := ⟨b, Ex.refl _⟩
  g := gd.fix
  new := fun a h => .inl h
  keep := fun a u _ _ h => h
  self := fun a h => h.elim
  w := ⟨o, h1, h2⟩
  len := by
    unfold startL L2.start
    have := r.length
    simp only [List.length_append, List.length_map, List.length_replicate, List.length_cons, List.length_nil]
    omega
  sl := fun i s e => by
    have e : (ds.map Sl.val ++ (.fn g :: List.replicate (n - ds.length - 1) .un))[i]? = some s := e
    by_cases z : i < ds.length
    · rw [List.getElem?_append_left (by rw [List.length_map]; exact z), List.getElem?_map] at e
      cases e1 : ds[i]? with
      | none => rw [e1] at e; cases e
      | some d =>
        rw [e1] at e; cases e
        obtain ⟨v, e2, rv⟩ := r.get e1
        exact ⟨v, start_get (by rw [List.getElem?_append_left (by rw [r.length]; exact z)]; exact e2), rv⟩
    · rw [List.getElem?_append_right (by rw [List.length_map]; omega), List.length_map] at e
      cases hi : i - ds.length with
      | zero =>
        rw [hi] at e; cases e
        refine ⟨.ref fa, start_get ?_, rfl, rfl⟩
        rw [List.getElem?_append_right (by rw [r.length]; omega), r.length, hi]; rfl
      | succ j =>
        rw [hi] at e
        have e : (List.replicate (n - ds.length - 1) Sl.un)[j]? = some s := e
        rw [List.getElem?_replicate] at e
        split at e
        · cases e; trivial
        · cases e
  ap := fun i j q s t _ e1 _ m _ _ => by
    have e1 : s ∈ (ds.map Sl.val ++ (.fn g :: List.replicate (n - ds.length - 1) .un)) := List.mem_of_getElem? e1
    rcases List.mem_append.mp e1 with z | z
    · obtain ⟨d, _, e⟩ := List.mem_map.mp z; rw [← e] at m; cases m
    · rcases List.mem_cons.mp z with z | z
      · rw [z] at m; cases m
      · rw [(List.mem_replicate.mp z).2] at m; cases m
theorem fnL_ok {x qual : Str} {st : Stmt} {f : Addr} {N ps : List Str} {k lv n m : Nat} {ψ : SM Z.W} (Fd : DefAt K x qual st ps f) (S : FnScope N ps (defScope st)) (hn : N.length = n) (hp : ps.length = m + 1)
    (hbody : ∀ (Hk0 : Hp) (fa : Addr) (F : NF) (body : Expr) (fr : List Str) (ws : List (Option V)) (g : D → Option Bool) (cdv : Value) (A : Around) (outer : List Env) (s : Shared) (H : Hp) (E : XK), Room k (A.deeper (envOfC qual (defScope st) s.heap.objs.size f cdv)) → CellsAt F.cl fr ws s.heap H →
      CloRun P w0 K mg base lv fa F body fr ws 1 (spD T Z (fun Hk' => B Hk' ∧ Ex Hk0 Hk') 1 (fG g)) → ¬ Z.FP fa → ¬ Z.FP F.c →
      ∃ t, DSs (cxOf CX0 P w0 K mg base N qual (defScope st) f cdv A outer s H E).nox (Cfg.tst T Z B Bm Hk0 fa F body g) (defBody st) t ψ) :
    FnS P w0 K mg base (k + 1) f (m + 1) (spL P w0 K mg base T Z B lv m (lM n ψ)) := by
  have hm : m < n := by
    have : ps.length ≤ N.length := by rw [← S.pre, List.length_take]; omega
    omega
  obtain ⟨fd, Fu, Bi⟩ := Fd
  refine ⟨fd, ps, hp, Bi, Fu.kp, fun A outer s H args us vs Q hr e0 hb r hl hsp => ?_⟩
  obtain ⟨oc, od, kV, doc, pm, an, cdv, ct, osl, rfl, lk, hcd⟩ := Fu.ex
  obtain ⟨Hk, ds, us', w, d, w', fa, F, body, fr, ws, g, ev, gd, b, o, rr, hds, h1, h2, n1, n2, C, R, e, q⟩ := hsp
  subst ev
  refine LamX.run_ofS lk hcd S hr e0 hb r (by rw [hl, hp]) fun hr' => ?_
  obtain ⟨t, h⟩ := hbody Hk fa F body fr ws g cdv A outer s H E0 hr' C R n1 n2
  refine ⟨t, h.p.nox, ?_⟩
  obtain ⟨⟨o1, env1, w1⟩, e1, e⟩ := bind_some e
  refine h.k _ _ _ _ _ _ _ (pre_startL gd b o h1 h2 rr hn (by omega)) o1 env1 w1 e1 _ ?_
  have stp : ∀ {env : Env'} {w2 : Z.W} {σ' : L2.St} {Hk' H' : Hp}, Pre (Cfg.tst T Z B Bm Hk fa F body g) Hk H env w2 σ' Hk' H' → Stp Z Hk H Hk' H' := fun p' => ⟨p'.k, p'.g.unfix, p'.new, fun a u f z => p'.keep a u f (fun s => s) z⟩
  cases o1 with
  | rt d1 =>
    cases e
    exact fun v σ' Hk' H' p' _ rv => q v Hk' H' (stp p') p'.w.1 rv
  | nx =>
    cases e
    exact fun σ' Hk' H' p' _ => q .non Hk' H' (stp p') p'.w.1 rfl
  | bk => cases e
  | ct => cases e
end
section
variable {X : Cx} {T : CT} {Z : Wo} {B : Hp → Prop} {Bm : ∀ {H H' : Hp}, Ex H H' → B H → B H'} {Hkm : Hp} {fa : Addr} {F : NF} {body : Expr} {fr : List Str} {ws : List (Option V)} {g : D → Option Bool}
/-! ### test(e) -/
def eTest {W : Type} (i : Nat) (φ : EM W) : EM W := fun env w => match env[i]? with
  | some (.fn f) => (φ env w).bind fun p => (f p.1).map fun b => (.bl b, p.2)
  | _ => none
theorem lam_fnAt {pins : List (Addr × Obj)} {σ : L2.St} {H : Hp} {s : Shared} (I : L2.Inv X pins σ H s) (e : H fa = some (LamO fa F body)) : PySem.W.FnAt fa s.heap := by
  obtain ⟨od, sl, pm, ctv, ho⟩ := lamO_at I.hok e
  exact ⟨_, od, _, sl, ho⟩
theorem pe_test {i j k : Nat} {sp : Sp} {x : Str} {p pos : Pos} {e : Expr} {t : TA} (R : CloRun X.prog X.w X.K X.mg X.base k fa F body fr ws 1 sp) (C : CellsAt F.cl fr ws X.s_0.heap X.H_0) (hex : X.ex = []) (hr : Room j X.A) (hk : k ≤ j) (hN : X.N[i]? = some x) (hv : Vis X.env.scope x) (ha : PA X [e] t)
    (hd : (x == ("__debug__" : Str)) = false) (hcd : (x == ("__classdict__" : Str)) = false) (he : starEach [e] X.env = (false, eval e X.env) :: starEach [] X.env) (hpl : (backTo pos (starEach [] X.env)).any (·.1) = false) :
    PE X (.Call (.Name x p) [e] [] pos) (fun σ H Q => σ[i]? = some (some (.ref fa)) ∧ H fa = some (LamO fa F body) ∧ t σ H fun vs H1 => H1 fa = some (LamO fa F body) ∧ H1 F.c = some (CodeO F.c F.qual) ∧ vs.length = 1 ∧ sp vs H1 Q E0) := by
  refine ⟨fun pins s σ H Q I h => ?_⟩
  obtain ⟨hs, hf, ht⟩ := h
  refine wpAny_Call_Name_kw (thn ((pe_var (pos := p) hN hv hd hcd).run pins s σ H (fun v H1 => v = .ref fa ∧ H1 = H) I ⟨.ref fa, hs, rfl, rfl⟩) fun u s1 ⟨v, H1, I1, r1, q1⟩ => ?_)
  obtain ⟨ev, eH⟩ := q1
  subst ev
  rw [eH] at I1
  obtain rfl : u = Value.ref fa := r1
  refine PySem.W.callWith_F (first := []) (lam_fnAt I1 hf) (thn (ha.run pos pins s1 σ H _ I1 ht) fun us s2 ⟨vs, H2, I2, r, h1, h2, hl, q⟩ => ⟨lam_fnAt I2 h1, ?_⟩) he hpl
  show wpAny _ _ (call (.ref fa) us) _ _ _
  have C2 : CellsAt F.cl fr ws s2.heap H2 := by
    have u := I2.base
    rw [hex] at u
    exact DL.CellsAt.un C u
  refine wpAny_call (codeAny_mono (R X.A X.stack s2 H2 us vs Q (hr.mono hk) I2.env0 h1 h2 C2 r hl q) fun r s' hq => ?_)
  cases r with
  | error e => exact hq.elim
  | ok fl =>
    cases fl with
    | ret u => exact I2.after hq
    | next => exact False.elim hq
    | brk => exact False.elim hq
    | cont => exact False.elim hq
theorem de_test (i : Nat) {j k : Nat} {x : Str} {p pos : Pos} {e : Expr} {te : TE} {φ : EM Z.W} (R : CloRun X.prog X.w X.K X.mg X.base k fa F body fr ws 1 (spD T Z (fun Hk' => B Hk' ∧ Ex Hkm Hk') 1 (fG g))) (C : CellsAt F.cl fr ws X.s_0.heap X.H_0) (n1 : ¬ Z.FP fa) (n2 : ¬ Z.FP F.c) (hr : Room j X.A) (h : DE X (Cfg.tst T Z B Bm Hkm fa F body g) e te φ)
    (hk : k ≤ j := by decide) (hex : X.ex = [] := by rfl) (hN : X.N[i]? = some x := by rfl) (hv : Vis X.env.scope x := by first | exact Or.inl rfl | exact Or.inr (Or.inl rfl) | exact Or.inr (Or.inr rfl))
    (hd : (x == ("__debug__" : Str)) = false := by decide) (hcd : (x == ("__classdict__" : Str)) = false := by decide) (he : starEach [e] X.env = (false, eval e X.env) :: starEach [] X.env := by rfl) (hpl : (backTo pos (starEach [] X.env)).any (·.1) = false := by rfl) :
    DE X (Cfg.tst T Z B Bm Hkm fa F body g) (.Call (.Name x p) [e] [] pos) (fun σ H Q => σ[i]? = some (some (.ref fa)) ∧ H fa = some (LamO fa F body) ∧ tCons te tNil σ H fun vs H1 => H1 fa = some (LamO fa F body) ∧ H1 F.c = some (CodeO F.c F.qual) ∧ vs.length = 1 ∧ spD T Z (fun Hk' => B Hk' ∧ Ex Hkm Hk') 1 (fG g) vs H1 Q E0) (eTest i φ) := by
  refine ⟨pe_test R C hex hr hk hN hv (pa_cons h.p pa_nil he) hd hcd he hpl, ?_⟩
  intro Hk0 H0 env w σ Hk H pr d w' e' Q q
  unfold eTest at e'
  split at e'
  · rename_i f hi
    obtain ⟨⟨d1, w1⟩, e1, e2⟩ := bind_some e'
    obtain ⟨b, e3, e4⟩ := map_some e2
    cases e4
    obtain ⟨v, ev, hC⟩ := pr.sl i _ hi
    obtain ⟨rfl, rfl⟩ := hC
    refine ⟨ev, pr.w.2.1, ?_⟩
    refine h.k _ _ _ _ _ _ _ pr d1 _ e1 _ fun v1 Hk1 H1 s1 o1 r1 => ?_
    have e5 : fG f [d1] w1 = some (D.bl b, w1) := by
      show (f d1).map _ = _
      rw [e3]; rfl
    refine ⟨o1.2.1, o1.2.2, rfl, Hk1, [d1], w1, .bl b, w1, s1.g.unfix, (pr.step s1 o1).base, o1.1, .cons r1 .nil, rfl, e5, fun v2 Hk2 H2 s2 o2 r2 => ?_⟩
    exact q v2 Hk2 H2 (s1.trans s2.fix) ⟨o2, s2.keep _ _ n1 o1.2.1, s2.keep _ _ n2 o1.2.2⟩ r2
  · cases e'
/-! ### the test handed on -/
theorem pf_var {cl : List (Str × Addr)} {fr : List Str} {ws : List (Option V)} {i : Nat} {x : Str} {pos : Pos} (C : CellsAt cl fr ws X.s_0.heap X.H_0) (hex : X.ex = []) (hN : X.N[i]? = some x) (hv : Vis X.env.scope x) (hd : (x == ("__debug__" : Str)) = false) (hcd : (x == ("__classdict__" : Str)) = false) :
    PF X (.Name x pos) (fun σ H Q => ∃ v, σ[i]? = some (some v) ∧ Q v (fun h => CellsAt cl fr ws h H) H) := by
  refine ⟨fun pins s σ H Q I h => ?_⟩
  obtain ⟨v, ev, q⟩ := h
  refine thn ((pe_var (pos := pos) hN hv hd hcd).run pins s σ H (fun u H1 => u = v ∧ H1 = H) I ⟨v, ev, rfl, rfl⟩) fun u s1 ⟨v1, H1, I1, r1, q1, eH⟩ => ?_
  subst q1
  subst eH
  have u := I1.base
  rw [hex] at u
  exact ⟨_, _, _, I1, r1, DL.CellsAt.un C u, q⟩
/-- data arguments, then the test of slot i -/
structure DAv (X : Cx) (c : Cfg) (fa : Addr) (cl : List (Str × Addr)) (fr : List Str) (ws : List (Option V)) (i : Nat) (es : List Expr) (t : TAF) (φ : AM c.Z.W) : Prop where
  p : PAF X es t
  k : ∀ Hk0 H0 env w σ Hk H, Pre c Hk0 H0 env w σ Hk H → ∀ l w', φ env w = some (l, w') → σ[i]? = some (some (.ref fa)) →
    ∀ Q, (∀ us Hk' H', Stp c.Z Hk H Hk' H' → c.Z.ok w' H' → RepL c.T Hk' l us → Q (us ++ [.ref fa]) (fun h => CellsAt cl fr ws h H') H') → t σ H Q
theorem dav_last {c : Cfg} {cl : List (Str × Addr)} {i : Nat} {x : Str} {pos : Pos} (C : CellsAt cl fr ws X.s_0.heap X.H_0) (hex : X.ex = [] := by rfl) (hN : X.N[i]? = some x := by rfl) (hv : Vis X.env.scope x := by first | exact Or.inl rfl | exact Or.inr (Or.inl rfl) | exact Or.inr (Or.inr rfl)) (hd : (x == ("__debug__" : Str)) = false := by decide) (hcd : (x == ("__classdict__" : Str)) = false := by decide)
    (hs : starEach [.Name x pos] X.env = (false, eval (.Name x pos) X.env) :: starEach [] X.env := by rfl) : DAv X c fa cl fr ws i [.Name x pos] (fun σ H Q => ∃ v, σ[i]? = some (some v) ∧ Q [v] (fun h => CellsAt cl fr ws h H) H) aNil := by
  refine ⟨paf_last (pf_var C hex hN hv hd hcd) hs, ?_⟩
  intro Hk0 H0 env w σ Hk H p l w' e hσ Q q
  cases e
  exact ⟨_, hσ, q [] Hk H (Stp.refl p.g) p.w rfl⟩
theorem dav_cons {c : Cfg} {cl : List (Str × Addr)} {i : Nat} {e : Expr} {es : List Expr} {te : TE} {t : TAF} {φ : EM c.Z.W} {ψ : AM c.Z.W} (h : DE X c e te φ) (hr : DAv X c fa cl fr ws i es t ψ) (hs : starEach (e :: es) X.env = (false, eval e X.env) :: starEach es X.env := by rfl) :
    DAv X c fa cl fr ws i (e :: es) (fun σ H Q => te σ H fun x H1 => t σ H1 fun xs Φ H2 => Q (x :: xs) Φ H2) (aCons φ ψ) := by
  refine ⟨paf_cons h.p hr.p hs, ?_⟩
  intro Hk0 H0 env w σ Hk H p l w' e hσ Q q
  obtain ⟨⟨d, w1⟩, e1, e⟩ := bind_some e
  obtain ⟨⟨r, w2⟩, e2, e⟩ := bind_some e
  cases e
  refine h.k _ _ _ _ _ _ _ p d _ e1 _ fun v Hk1 H1 s1 o1 r1 => ?_
  refine hr.k _ _ _ _ _ _ _ (p.step s1 o1) r _ e2 hσ _ fun us Hk2 H2 s2 o2 r2 => ?_
  exact q (v :: us) Hk2 H2 (s1.trans s2) o2 (.cons (r1.mono s2.k) r2)
def eCallT {W : Type} (i n : Nat) (f : (D → Option Bool) → FM W) (φ : AM W) : EM W := fun env w => match env[i]? with
  | some (.fn g) => (φ env w).bind fun p => if p.1.length = n then f g p.1 p.2 else none
  | _ => none
theorem CloRun.less {P : Program} {w0 : World} {K : PySem.W.Frag} {mg : Str → Option Value} {base : Heap} {k : Nat} {Hk1 Hk2 : Hp} (R : CloRun P w0 K mg base k fa F body fr ws 1 (spD T Z (fun Hk' => B Hk' ∧ Ex Hk1 Hk') 1 (fG g))) (e : Ex Hk1 Hk2) :
    CloRun P w0 K mg base k fa F body fr ws 1 (spD T Z (fun Hk' => B Hk' ∧ Ex Hk2 Hk') 1 (fG g)) := fun A outer s H us vs Q hr e0 h1 h2 C r hl ⟨Hk, ds, w, d, w', g1, b, o, rr, hds, ef, q⟩ =>
  R A outer s H us vs Q hr e0 h1 h2 C r hl ⟨Hk, ds, w, d, w', g1, ⟨b.1, e.trans b.2⟩, o, rr, hds, ef, q⟩
theorem de_callT (i : Nat) {j k lv n : Nat} {f : Addr} {fm : (D → Option Bool) → FM Z.W} {x : Str} {p pos : Pos} {e : Expr} {es : List Expr} {t : TAF} {φ : AM Z.W} (Fn : FnS X.prog X.w X.K X.mg X.base k f (n + 1) (spL X.prog X.w X.K X.mg X.base T Z B lv n fm)) (hr : Room j X.A) (hm : X.mg x = some (.ref f))
    (R : CloRun X.prog X.w X.K X.mg X.base lv fa F body fr ws 1 (spD T Z (fun Hk' => B Hk' ∧ Ex Hkm Hk') 1 (fG g))) (n1 : ¬ Z.FP fa) (n2 : ¬ Z.FP F.c) (ha : DAv X (Cfg.tst T Z B Bm Hkm fa F body g) fa F.cl fr ws i (e :: es) t φ)
    (hk : k ≤ j := by decide) (hg : Gl X x := by rfl) (hdb : (x == ("__debug__" : Str)) = false := by decide) (he : starEach (e :: es) X.env = (false, eval e X.env) :: starEach es X.env := by rfl) (hpl : (backTo pos (starEach es X.env)).any (·.1) = false := by rfl) :
    DE X (Cfg.tst T Z B Bm Hkm fa F body g) (.Call (.Name x p) (e :: es) [] pos) (fun σ H Q => t σ H fun vs Φ H1 => vs.length = n + 1 ∧ ∀ s : Shared, Φ s.heap → spL X.prog X.w X.K X.mg X.base T Z B lv n fm s vs H1 Q E0) (eCallT i n fm φ) := by
  refine ⟨pe_callF Fn hr hk hg hm ha.p hdb he hpl, ?_⟩
  intro Hk0 H0 env w σ Hk H pr d w' e' Q q
  unfold eCallT at e'
  split at e'
  · rename_i f1 hi
    obtain ⟨⟨l, w1⟩, e1, e2⟩ := bind_some e'
    obtain ⟨v, ev, hC⟩ := pr.sl i _ hi
    obtain ⟨rfl, rfl⟩ := hC
    have e2 : (if l.length = n then fm f1 l w1 else none) = some (d, w') := e2
    split at e2
    · rename_i hl
      refine ha.k _ _ _ _ _ _ _ pr l w1 e1 ev _ fun us Hk1 H1 s1 o1 r1 => ?_
      refine ⟨by rw [List.length_append, r1.length, hl]; rfl, fun s hs => ?_⟩
      refine ⟨Hk1, l, us, w1, d, w', fa, F, body, fr, ws, f1, rfl, s1.g.unfix, (pr.step s1 o1).base.1, o1.1, r1, hl, o1.2.1, o1.2.2, n1, n2, hs, CloRun.less R (pr.step s1 o1).base.2, e2, fun v2 Hk2 H2 s2 o2 r2 => ?_⟩
      exact q v2 Hk2 H2 (s1.trans s2.fix) ⟨o2, s2.keep _ _ n1 o1.2.1, s2.keep _ _ n2 o1.2.2⟩ r2
    · cases e2
  · cases e'
end
end DL
set_option Elab.async false
set_option linter.all false
set_option maxRecDepth 100000
set_option maxHeartbeats 4000000
/-! DLr: the def that makes the lambda. -/
namespace DL
open PySem PySem.Spec PyProof.Rows L2 Evl StX LamX NdefX
/-! ### a def whose code object is told -/
def DefC (K : PySem.W.Frag) (x qual : Str) (st : Stmt) (ps : List Str) (f cd : Addr) : Prop :=
  ∃ (oc : Value) (od : Option Addr) (kV doc pm : Value) (an : Option Addr) (ct : Value) (osl : Array (Option Value)),
    K.lookup f = some ⟨oc, od, .func (PySem.W.fnOf x qual (defArgs st) (defBody st) (defScope st) .none kV doc pm an (.ref cd) ct), osl⟩ ∧ PySem.W.codeIn K (.ref cd) qual = true ∧ PySem.W.keepIn K (.ref f) = true ∧
    Binds K (PySem.W.fnOf x qual (defArgs st) (defBody st) (defScope st) .none kV doc pm an (.ref cd) ct) ps []
section
variable {P : Program} {w : World} {K : PySem.W.Frag} {mg : Str → Option Value} {base : Heap} {c : Cfg}
theorem fn_okC {x qual : Str} {st : Stmt} {f cd : Addr} {N ps : List Str} {k n m : Nat} {ψ : SM c.Z.W} (F : DefC K x qual st ps f cd) (S : FnScope N ps (defScope st)) (hn : N.length = n) (hp : ps.length = m)
    (hbody : ∀ (A : Around) (outer : List Env) (s : Shared) (H : Hp) (E : XK), Room k (A.deeper (envOfC qual (defScope st) s.heap.objs.size f (.ref cd))) → ∃ t, DSs (cxOf CX0 P w K mg base N qual (defScope st) f (.ref cd) A outer s H E).nox c (defBody st) t ψ) (hS : ∀ a, ¬ c.S a := by exact fun _ h => h) :
    FnD P w K mg base (k + 1) f (spD c.T c.Z c.B m (fM n ψ)) := by
  have hm : m ≤ n := by
    rw [← hp, ← hn, ← S.pre, List.length_take]; omega
  obtain ⟨oc, od, kV, doc, pm, an, ct, osl, lk, hcd, kp, B⟩ := F
  refine ⟨_, ps, fn_of lk hcd S (spD_len hp) fun A outer s H vs Q E hr hsp => ?_, B, kp⟩
  obtain ⟨t, h⟩ := hbody A outer s H E hr
  exact ⟨t, h.p.nox, fn_reads h.k hS hn hm vs H Q E hsp⟩
end
/-! ### the lambda as an argument -/
section
variable {X : Cx} {params : Arguments} {body : Expr} {scope : Scope} {lpos : Pos}
/-- the made function -/
@[reducible] def mkF (qual : Str) (cells : List (Str × Addr)) (params : Arguments) (scope : Scope) (c' : Addr) : NF := ⟨"<lambda>", qual ++ "<lambda>", params, [], scope, cloFrom cells scope.names [], c'⟩
theorem pf_lam {T : List NTab} {nm : Nat → Nat → Str} {c P : Addr} {fr : List Str} {js : List Nat} (TB : TabB X.base X.mg c P) (hcode : X.env.code = .ref c) (hm : (P, nm) ∈ T) (hn : nm lpos.line lpos.col = X.env.qual ++ "<lambda>") (hu : ∀ p ∈ T, p.1 = P → p.2 = nm) (hdef : defaultsOf params X.env = ([], []))
    (hfree : ∀ y ∈ scope.names, y.2 = .free → X.env.scope.names.lookup y.1 = some .cell ∨ X.env.scope.names.lookup y.1 = some .free) (hfr : ∀ y ∈ fr, (y, NameKind.free) ∈ scope.names) (hjs : js.map (fun j => X.N[j]?) = fr.map some) :
    PF X (.Lambda params body scope lpos) (fun σ H Q => TabsN T H ∧ ∀ (f c' : Addr) (H1 : Hp), (∀ b o, b ≠ P → H b = some o → H1 b = some o) → (∀ b, H1 b = none → H b = none) → TabsN T H1 → H f = none →
      H1 f = some (LamO f (mkF X.env.qual X.env.cells params scope c') body) → H1 c' = some (CodeO c' (X.env.qual ++ "<lambda>")) → Q (.ref f) (fun h => CellsAt (cloFrom X.env.cells scope.names []) fr (js.map (slotAt σ)) h H1) H1) := by
  refine ⟨fun pins s σ H Q I h => ?_⟩
  obtain ⟨hT, h⟩ := h
  have hf : ∀ y ∈ scope.names, y.2 = .free → ∃ c, X.env.cells.lookup y.1 = some c := fun y hy e => (hfree y hy e).elim (fun z => I.ok.has _ (.inl z)) fun z => I.ok.has _ (.inr z)
  refine lam_make3 I TB hcode hm hn hu hT hdef hf fun f c' H1 s' I1 k1 k2 T1 n1 e1 e2 => ?_
  have C := cells_of I1 (Caps.made I1.ok hfree hfr hjs)
  exact ⟨.ref f, _, H1, I1, rfl, C, h f c' H1 k1 k2 T1 n1 e1 e2⟩
end
/-- the captured data -/
def capE (env : Env') : List Nat → Option (List D)
  | [] => some []
  | j :: js => match env[j]? with
    | some (.val d) => (capE env js).map fun l => d :: l
    | _ => none
theorem capE_at {c : Cfg} {Hk0 H0 Hk H : Hp} {env : Env'} {w : c.Z.W} {σ : L2.St} (p : Pre c Hk0 H0 env w σ Hk H) : ∀ {js : List Nat} {l : List D}, capE env js = some l → ∃ us : List V, js.map (slotAt σ) = us.map some ∧ RepL c.T Hk l us
  | [], l, h => by cases h; exact ⟨[], rfl, rfl⟩
  | j :: js, l, h => by
    unfold capE at h
    split at h
    · rename_i d hd
      obtain ⟨r, e, h⟩ := map_some h
      cases h
      obtain ⟨us, e1, e2⟩ := capE_at p e
      obtain ⟨v, ev, rv⟩ := p.sl j _ hd
      exact ⟨v :: us, by rw [List.map_cons, List.map_cons, e1, slotAt_of ev], .cons rv e2⟩
    · cases h
open Classical in
/-- what a lambda of one parameter answers, as a test -/
noncomputable def lamG {W : Type} (N : Nat) (φ : EM W) (caps : List D) : D → Option Bool := fun d =>
  if h : ∃ b, ∀ w, φ (startE N (d :: caps)) w = some (.bl b, w) then some h.choose else none
theorem lamG_of {W : Type} [Inhabited W] {N : Nat} {φ : EM W} {caps : List D} {d : D} {b : Bool} (h : ∀ w, φ (startE N (d :: caps)) w = some (.bl b, w)) : lamG N φ caps d = some b := by
  have hx : ∃ b, ∀ w, φ (startE N (d :: caps)) w = some (.bl b, w) := ⟨b, h⟩
  unfold lamG
  rw [dif_pos hx]
  have h1 := hx.choose_spec default
  rw [h default] at h1
  cases h1
  rfl
theorem lamG_at {W : Type} {N : Nat} {φ : EM W} {caps : List D} {d : D} {b : Bool} (h : lamG N φ caps d = some b) : ∀ w, φ (startE N (d :: caps)) w = some (.bl b, w) := by
  unfold lamG at h
  split at h
  · rename_i hx
    cases h
    exact hx.choose_spec
  · cases h
theorem startF_eq {N : List Str} {v : V} {us : List V} : startF N [v] (us.map some) = L2.start N (v :: us) := by
  unfold startF L2.start
  simp only [List.map_cons, List.map_nil, List.length_cons, List.length_nil, List.length_map, List.cons_append, List.nil_append]
  rw [show N.length - (0 + 1) - us.length = N.length - (us.length + 1) by omega]
section
variable {X : Cx} {K : PySem.W.Frag} {ad : Nat → Addr} {fd : Nat → List Str} {ns : List Int} {a p0 : Addr} {T : List NTab} {S : Addr → Prop} {C0 : V → (D → Option Bool) → Prop}
/-- a lambda is made in the law's world -/
theorem stp_lam {P f c' : Addr} {Hk H H1 : Hp} {w : W0} {F : NF} {body : Expr} {q : Str} (g : Gd (drawZ ns a p0 T) Hk H) (ow : (drawZ ns a p0 T).ok w H) (hP : P ∈ T.map (·.1)) (haT : a ∉ T.map (·.1)) (k1 : ∀ b o, b ≠ P → H b = some o → H1 b = some o) (k2 : ∀ b, H1 b = none → H b = none) (T1 : TabsN T H1) (n1 : H f = none) (e2 : H1 c' = some (CodeO c' q)) :
    Stp (drawZ ns a p0 T) Hk H Hk H1 ∧ (drawZ ns a p0 T).ok w H1 ∧ ¬ (drawZ ns a p0 T).FP f ∧ ¬ (drawZ ns a p0 T).FP c' := by
  have nP : ∀ {b : Addr}, ¬ (drawZ ns a p0 T).FP b → b ≠ P := fun {b} h z => h (.inr (z ▸ hP))
  have nfP : ∀ {b : Addr} {o : HO}, Hk b = some o → b ≠ P := fun {b o} h => nP (g.nf b (ne_none h))
  have naP : a ≠ P := fun z => haT (z ▸ hP)
  refine ⟨⟨Ex.refl _, ⟨fun b o h => k1 b o (nfP h) (g.e b o h), g.nf, fun b f h => g.dm b f (k2 b h)⟩, fun b h => .inl h, fun b o f h => k1 b o (nP f) h⟩, ⟨ow.1, k1 a _ naP ow.2.1, T1⟩, fun f => g.dm _ f n1, fun f => ?_⟩
  rcases f with rfl | f
  · have := k1 _ _ naP ow.2.1
    rw [e2] at this
    cases this
  · obtain ⟨q, hq, rfl⟩ := List.mem_map.mp f
    obtain ⟨ps, h1, _⟩ := T1 q hq
    rw [e2] at h1
    cases h1
structure DAl (X : Cx) (c : Cfg) (qual : Str) (cells : List (Str × Addr)) (params : Arguments) (scope : Scope) (body : Expr) (fr : List Str) (js : List Nat) (es : List Expr) (t : TAF) (φ : AM c.Z.W) : Prop where
  p : PAF X es t
  k : ∀ Hk0 H0 env w σ Hk H, Pre c Hk0 H0 env w σ Hk H → ∀ l w', φ env w = some (l, w') →
    ∀ Q, (∀ us f c' Hk' H', Stp c.Z Hk H Hk' H' → c.Z.ok w' H' → RepL c.T Hk' l us → ¬ c.Z.FP f → ¬ c.Z.FP c' → H' f = some (LamO f (mkF qual cells params scope c') body) → H' c' = some (CodeO c' (qual ++ "<lambda>")) →
      Q (us ++ [.ref f]) (fun h => CellsAt (cloFrom cells scope.names []) fr (js.map (slotAt σ)) h H') H') → t σ H Q
theorem dal_last {params : Arguments} {body : Expr} {scope : Scope} {lpos : Pos} {nm : Nat → Nat → Str} {c P : Addr} {fr : List Str} {js : List Nat} (TB : TabB X.base X.mg c P) (hm : (P, nm) ∈ T) (hu : ∀ p ∈ T, p.1 = P → p.2 = nm) (haT : a ∉ T.map (·.1)) (hfr : ∀ y ∈ fr, (y, NameKind.free) ∈ scope.names)
    (hfree : ∀ y ∈ scope.names, y.2 = .free → X.env.scope.names.lookup y.1 = some .cell ∨ X.env.scope.names.lookup y.1 = some .free)
    (hcode : X.env.code = .ref c := by rfl) (hn : nm lpos.line lpos.col = X.env.qual ++ "<lambda>" := by rfl) (hdef : defaultsOf params X.env = ([], []) := by rfl) (hjs : js.map (fun j => X.N[j]?) = fr.map some := by rfl)
    (hs : starEach [.Lambda params body scope lpos] X.env = (false, eval (.Lambda params body scope lpos) X.env) :: starEach [] X.env := by rfl) :
    DAl X (cfW K ad fd ns a p0 T C0 S) X.env.qual X.env.cells params scope body fr js [.Lambda params body scope lpos] (fun σ H Q => TabsN T H ∧ ∀ (f c' : Addr) (H1 : Hp), (∀ b o, b ≠ P → H b = some o → H1 b = some o) → (∀ b, H1 b = none → H b = none) → TabsN T H1 → H f = none →
      H1 f = some (LamO f (mkF X.env.qual X.env.cells params scope c') body) → H1 c' = some (CodeO c' (X.env.qual ++ "<lambda>")) → Q [.ref f] (fun h => CellsAt (cloFrom X.env.cells scope.names []) fr (js.map (slotAt σ)) h H1) H1) aNil := by
  refine ⟨paf_last (pf_lam TB hcode hm hn hu hdef hfree hfr hjs) hs, ?_⟩
  intro Hk0 H0 env w σ Hk H pr l w' e Q q
  cases e
  refine ⟨pr.w.2.2, fun f c' H1 k1 k2 T1 n1 e1 e2 => ?_⟩
  obtain ⟨s1, o1, f1, f2⟩ := stp_lam (F := mkF X.env.qual X.env.cells params scope c') (body := body) pr.g pr.w (List.mem_map_of_mem hm) haT k1 k2 T1 n1 e2
  exact q [] f c' Hk H1 s1 o1 rfl f1 f2 e1 e2
theorem dal_cons {c : Cfg} {qual : Str} {cells : List (Str × Addr)} {params : Arguments} {body : Expr} {scope : Scope} {fr : List Str} {js : List Nat} {e : Expr} {es : List Expr} {te : TE} {t : TAF} {φ : EM c.Z.W} {ψ : AM c.Z.W} (h : DE X c e te φ) (hr : DAl X c qual cells params scope body fr js es t ψ) (hs : starEach (e :: es) X.env = (false, eval e X.env) :: starEach es X.env := by rfl) :
    DAl X c qual cells params scope body fr js (e :: es) (fun σ H Q => te σ H fun x H1 => t σ H1 fun xs Φ H2 => Q (x :: xs) Φ H2) (aCons φ ψ) := by
  refine ⟨paf_cons h.p hr.p hs, ?_⟩
  intro Hk0 H0 env w σ Hk H p l w' e Q q
  obtain ⟨⟨d, w1⟩, e1, e⟩ := bind_some e
  obtain ⟨⟨r, w2⟩, e2, e⟩ := bind_some e
  cases e
  refine h.k _ _ _ _ _ _ _ p d _ e1 _ fun v Hk1 H1 s1 o1 r1 => ?_
  refine hr.k _ _ _ _ _ _ _ (p.step s1 o1) r _ e2 _ fun us f c' Hk2 H2 s2 o2 r2 => ?_
  exact q (v :: us) f c' Hk2 H2 (s1.trans s2) o2 (.cons (r1.mono s2.k) r2)
noncomputable def eCallLam {W : Type} (js : List Nat) (n N : Nat) (φb : EM W) (f : (D → Option Bool) → FM W) (φ : AM W) : EM W := fun env w => (capE env js).bind fun caps => (φ env w).bind fun p => if p.1.length = n then f (lamG N φb caps) p.1 p.2 else none
theorem de_callLam {c : Cfg} {j k kb n nN : Nat} {f : Addr} {fm : (D → Option Bool) → FM c.Z.W} {x px : Str} {p pos : Pos} {e : Expr} {es : List Expr} {t : TAF} {φ : AM c.Z.W} {φb : EM c.Z.W} {params : Arguments} {body : Expr} {scope : Scope} {fr : List Str} {js : List Nat} {N : List Str}
    (Fn : FnS X.prog X.w X.K X.mg X.base k f (n + 1) (spL X.prog X.w X.K X.mg X.base c.T c.Z c.B (kb + 1) n fm)) (hr : Room j X.A) (hm : X.mg x = some (.ref f)) (ha : DAl X c X.env.qual X.env.cells params scope body fr js (e :: es) t φ) (Sc : NScope N [px] fr scope) (hN : N.length = nN) (hS : ∀ a, ¬ c.S a)
    (hbody : ∀ (c' f : Addr) (A : Around) (outer : List Env) (s : Shared) (H : Hp) (E : XK), Room kb (A.deeper (envF (mkF X.env.qual X.env.cells params scope c') f s.heap.objs.size)) → ∃ tb, DE (ncx CX0 X.prog X.w X.K X.mg X.base N (mkF X.env.qual X.env.cells params scope c') f A outer s H E) c body tb φb)
    (hbind : ∀ (qual : Str) (cl : List (Str × Addr)) (pm ctv cd : Value) (us : List Value), us.length = 1 → bindArgs (PySem.W.kla_fn "<lambda>" qual params body scope cl pm cd ctv) ⟨us, []⟩ = pure ([px].zip us))
    (hk : k ≤ j := by decide) (hg : Gl X x := by rfl) (hdb : (x == ("__debug__" : Str)) = false := by decide) (he : starEach (e :: es) X.env = (false, eval e X.env) :: starEach es X.env := by rfl) (hpl : (backTo pos (starEach es X.env)).any (·.1) = false := by rfl) :
    DE X c (.Call (.Name x p) (e :: es) [] pos) (fun σ H Q => t σ H fun vs Φ H1 => vs.length = n + 1 ∧ ∀ s : Shared, Φ s.heap → spL X.prog X.w X.K X.mg X.base c.T c.Z c.B (kb + 1) n fm s vs H1 Q E0) (eCallLam js n nN φb fm φ) := by
  refine ⟨pe_callF Fn hr hk hg hm ha.p hdb he hpl, ?_⟩
  intro Hk0 H0 env w σ Hk H pr d w' e' Q q
  obtain ⟨caps, ec, e'⟩ := bind_some e'
  obtain ⟨⟨l, w1⟩, e1, e2⟩ := bind_some e'
  split at e2
  · rename_i hl
    have hl : l.length = n := hl
    obtain ⟨us0, ew, rc⟩ := capE_at pr ec
    refine ha.k _ _ _ _ _ _ _ pr l _ e1 _ fun us fa c' Hk1 H1 s1 o1 r1 f1 f2 h1 h2 => ?_
    refine ⟨by rw [List.length_append, r1.length, hl]; rfl, fun s hs => ?_⟩
    refine ⟨Hk1, l, us, w1, d, w', fa, mkF X.env.qual X.env.cells params scope c', body, fr, js.map (slotAt σ), lamG nN φb caps, rfl, s1.g, c.Bm s1.k pr.base, o1, r1, hl, h1, h2, f1, f2, hs, ?_, e2, fun v2 Hk2 H2 s2 o2 r2 => q v2 Hk2 H2 (s1.trans s2) o2 r2⟩
    -- it keeps its promise
    intro A outer s2 H2 us2 vs2 Q2 hr2 e0 g1 g2 C2 rv hl2 hsp
    obtain ⟨Hk3, ds, w3, d3, w4, gd, b, o, rr, hds, eg, q3⟩ := hsp
    have hd1 : ∃ d1, ds = [d1] := by
      cases ds with
      | nil => cases hds
      | cons d1 r => cases r with
        | nil => exact ⟨d1, rfl⟩
        | cons _ _ => simp at hds
    obtain ⟨d1, rfl⟩ := hd1
    obtain ⟨v1, rfl, rv1⟩ := rr.one
    obtain ⟨b1, eb, eg⟩ := map_some eg
    have hw := lamG_at eb w3
    have eg1 : d3 = .bl b1 := (congrArg Prod.fst eg).symm
    have eg2 : w3 = w4 := congrArg Prod.snd eg
    subst eg1
    subst eg2
    obtain ⟨tb, hD⟩ := hbody c' fa A outer s2 H2 E0 (hr2.deeper _)
    refine lam_run (N := N) (ps := [px]) (fr := fr) (tb := tb) Sc (fun pm ctv us => hbind _ _ pm ctv _ us) hr2 e0 g1 g2 C2 rv rfl (fun _ => hD.p) ?_
    rw [ew, startF_eq]
    have rl : RepL c.T Hk3 (d1 :: caps) (v1 :: us0) := .cons rv1 (rc.mono (s1.k.trans b.2))
    have hlen : (d1 :: caps).length ≤ nN := by
      have h3 := Sc.pre
      have h4 := C2.len
      rw [ew, List.length_map] at h4
      have h5 := congrArg List.length h3
      rw [List.length_take, List.length_append] at h5
      have h6 := rc.length
      simp only [List.length_cons, List.length_nil] at h5 ⊢
      omega
    exact hD.k _ _ _ _ _ _ _ (pre_start gd b.1 o rl hN hlen hS) _ _ hw Q2 fun v2 Hk4 H4 s4 o4 r4 => q3 v2 Hk4 H4 s4 o4 r4
  · cases e2
end
end DL
set_option Elab.async false
set_option linter.all false
set_option maxRecDepth 100000
set_option maxHeartbeats 4000000
/-! DLs: a walk over itertools.combinations. -/
namespace DL
open PySem PySem.Spec PyProof.Rows L2 Evl StX Comb
/-- the choices, each a new tuple -/
def Itc (L : List (List V)) : It :=
  ⟨fun i _ => i < L.length, fun i H x H' => ∃ T vs, L[i]? = some vs ∧ x = .ref T ∧ H T = none ∧ H' = upd H T (.tup vs), fun i _ => L.length ≤ i⟩
def idxL (n r : Nat) : List (List Nat) := combL r (List.range' 0 n)
theorem idxL_lnk {n r : Nat} (h : r ≤ n) : idxL n r ≠ [] ∧ (idxL n r)[0]? = some (List.range r) ∧ Lnk n none (idxL n r) := by
  obtain ⟨B, e, l⟩ := combL_lnk n r 0 h
  unfold idxL
  rw [e]
  rw [Nat.zero_add] at l
  exact ⟨by simp, by rw [List.range_eq_range']; rfl, l⟩
theorem idxL_mem {n r : Nat} {c : List Nat} (h : c ∈ idxL n r) : c.length = r ∧ ∀ x ∈ c, x < n := by
  obtain ⟨h1, h2⟩ := combL_len h
  exact ⟨h1, fun x hx => by have := h2 x hx; simp at this; omega⟩
theorem range_getD {α : Type} (xs : List α) (d : α) : xs = (List.range' 0 xs.length).map fun j => xs.getD j d := by
  apply List.ext_getElem?
  intro i
  rw [List.getElem?_map]
  by_cases h : i < xs.length
  · rw [List.getElem?_range' (by simpa using h)]
    simp [List.getD, List.getElem?_eq_getElem h]
  · rw [List.getElem?_eq_none (by omega), List.getElem?_eq_none (by simp; omega)]
    rfl
theorem comb_idx {α : Type} (xs : List α) (d : α) (r : Nat) : combL r xs = (idxL xs.length r).map (List.map fun j => xs.getD j d) := by
  conv => lhs; rw [range_getD xs d]
  rw [combL_map]
  rfl
theorem vals_pick {xs : List V} {its : List Value} (rv : Vals xs its) : ∀ {c : List Nat}, (∀ x ∈ c, x < xs.length) → Vals (c.map fun j => xs.getD j .non) (c.map fun i => its.toArray.getD i .none)
  | [], _ => .nil
  | j :: c, h => by
    have hj := h j List.mem_cons_self
    obtain ⟨u, hu, ru⟩ := rv.get (List.getElem?_eq_getElem hj)
    refine .cons ?_ (vals_pick rv fun x hx => h x (List.mem_cons_of_mem _ hx))
    have e1 : xs.getD j .non = xs[j] := by simp [List.getD, List.getElem?_eq_getElem hj]
    have e2 : its.toArray.getD j .none = u := by
      have hl := rv.length
      obtain ⟨hi, e⟩ := List.getElem?_eq_some_iff.mp hu
      simp [Array.getD, hi, e]
    show L2.RelV (xs.getD j .non) (its.toArray.getD j .none)
    rw [e1, e2]
    exact ru
/-- the walk's state ahead of the i-th turn -/
def tnC (it pool : Addr) (items : Array Value) (r : Nat) (i : Nat) (h : Heap) : Prop :=
  h.get? pool = some { cls := .type "tuple", data := .seq items } ∧ ∃ res idx, IsC h it pool (if i = 0 then (if r > items.size then 2 else 0) else 1) res idx ∧ if i = 0 then idx = List.range r else (idxL items.size r)[i - 1]? = some idx
theorem turn_c {P : Program} {w : World} {K : PySem.W.Frag} {tg : Expr} {it pool : Addr} {xs : List V} {its : List Value} {r : Nat} (rv : Vals xs its) (hne : it ≠ pool) (hz : xs.length ≤ sizeLine) :
    Turn P w K tg (Itc (combL r xs)) [it, pool] it (tnC it pool its.toArray r) where
  mem := by simp
  obj := fun i h st c hc => by
    obtain ⟨hp, res, idx, hi, _⟩ := st
    have e' : c = it ∨ c = pool := by simpa using hc
    rcases e' with q | q
    · rw [q]; exact ⟨_, hi, fun v q => nomatch q⟩
    · rw [q]; exact ⟨_, hp, fun v q => nomatch q⟩
  keep := fun i h h' st k => by
    obtain ⟨hp, res, idx, hi, hx⟩ := st
    exact ⟨k pool (by simp) _ hp, res, idx, k it (by simp) _ hi, hx⟩
  item := by
    intro X hP hw hK hc i pins s σ H E I hf st hg
    subst hP hw hK
    obtain ⟨hp, res, idx, hi, hx⟩ := st
    have hlen := rv.length
    have hsz : its.toArray.size = xs.length := by rw [List.size_toArray, hlen]
    have hg : i < (combL r xs).length := hg
    have hr : r ≤ xs.length := by
      rcases Nat.lt_or_ge xs.length r with z | z
      · rw [combL_long z] at hg; simp at hg
      · exact z
    have hp2 : s.heap.IsTuple pool its.toArray := ⟨_, hp, rfl, 0, rfl⟩
    have eL : combL r xs = (idxL xs.length r).map (List.map fun j => xs.getD j .non) := comb_idx xs .non r
    rw [eL, List.length_map] at hg
    -- the places of this turn
    obtain ⟨l1, l2, l3⟩ := idxL_lnk hr
    have hidx : ∃ c, (idxL xs.length r)[i]? = some c := ⟨_, List.getElem?_eq_getElem hg⟩
    obtain ⟨c, hci⟩ := hidx
    obtain ⟨hc1, hc2⟩ := idxL_mem (List.mem_of_getElem? hci)
    have hzc : c.length ≤ sizeLine := by omega
    have itp : it < s.heap.objs.size := Heap.lt_size hi
    have pop : pool < s.heap.objs.size := Heap.lt_size hp
    have fin : ∀ h', IsC h' it pool 1 (.ref s.heap.objs.size) c → h'.get? s.heap.objs.size = some { cls := .type "tuple", data := .seq (c.map fun i => its.toArray.getD i .none).toArray } → (∀ b o, b ≠ it → s.heap.get? b = some o → h'.get? b = some o) →
        (fun (rr : Option Value) (s1 : Shared) => ∃ u, rr = some u ∧ wpAny (model X.prog X.w) X.A (letOwnedTupleGo tg (.ref it) u) (fun _ s2 => ∃ x H', L2.Inv X pins σ H' s2 ∧ RelV x u ∧ (Itc (combL r xs)).yld i H x H' ∧ tnC it pool its.toArray r (i + 1) s2.heap ∧ ∀ b ∈ [it, pool], H' b = none) E s1) (some (Value.ref s.heap.objs.size)) { s with heap := h' } := fun h' a1 a2 a3 => by
      refine ⟨_, rfl, go_of a1 rfl rfl (by decide +kernel) ?_⟩
      have new : ObjOk X.prog X.w (upd H s.heap.objs.size (.tup (c.map fun j => xs.getD j .non))) h' s.heap.objs.size (.tup (c.map fun j => xs.getD j .non)) :=
        ⟨by rw [List.length_map]; exact hzc, _, vals_pick rv hc2, ⟨_, a2, rfl, _, rfl⟩⟩
      have I1 : L2.Inv X pins σ (upd H s.heap.objs.size (.tup (c.map fun j => xs.getD j .non))) { s with heap := h' } :=
        I.turnedNew (t' := s.toks) (ch := [it, pool]) (fun b o hb q => a3 b o (fun z => hb (by simp [z])) q) hf (Nat.le_refl _) new
      refine ⟨.ref s.heap.objs.size, _, I1, rfl, ⟨_, c.map fun j => xs.getD j .non, ?_, rfl, I.hok.fresh (Nat.le_refl _), rfl⟩, ⟨a3 _ _ (Ne.symm hne) hp, .ref s.heap.objs.size, c, ?_, ?_⟩, fun b hb => ?_⟩
      · rw [eL, List.getElem?_map, hci]; rfl
      · rw [if_neg (Nat.succ_ne_zero i)]; exact a1
      · rw [if_neg (Nat.succ_ne_zero i), hsz]; exact hci
      · have e' : b = it ∨ b = pool := by simpa using hb
        have hlt : b < s.heap.objs.size := by rcases e' with q | q <;> rw [q] <;> assumption
        rw [upd_ne (Nat.ne_of_lt hlt)]
        exact (hf b hb).1
    cases i with
    | zero =>
      rw [if_pos rfl] at hi hx
      rw [if_neg (by rw [hsz]; omega)] at hi
      subst hx
      rw [l2] at hci
      cases hci
      exact py_next0 hi hp2 hne hzc fin
    | succ i =>
      rw [if_neg (Nat.succ_ne_zero i)] at hi hx
      have hx : (idxL its.toArray.size r)[i]? = some idx := hx
      rw [hsz] at hx
      obtain ⟨m1, m2⟩ := idxL_mem (List.mem_of_getElem? hx)
      have hn := l3.at hx
      rw [hci] at hn
      exact py_nextS hi hp2 hne (by rw [hsz]; exact m2) (by rw [hsz]; omega) (by rw [hsz]; exact hn) hzc fin
  done := by
    intro X hP hw hK hc i pins s σ H E I hf st hg
    subst hP hw hK
    obtain ⟨hp, res, idx, hi, hx⟩ := st
    have hlen := rv.length
    have hsz : its.toArray.size = xs.length := by rw [List.size_toArray, hlen]
    have hg : (combL r xs).length ≤ i := hg
    have hp2 : s.heap.IsTuple pool its.toArray := ⟨_, hp, rfl, 0, rfl⟩
    have eL : combL r xs = (idxL xs.length r).map (List.map fun j => xs.getD j .non) := comb_idx xs .non r
    rw [eL, List.length_map] at hg
    have go : ∀ st, IsC s.heap it pool st res idx → (st = 2 ∨ (st = 1 ∧ (∀ x ∈ idx, x < its.toArray.size) ∧ idx.length ≤ its.toArray.size ∧ nextR its.toArray.size idx = none)) → wpAny (model X.prog X.w) X.A (pyNext (.ref it)) (fun rr s1 => rr = none ∧ L2.Inv X pins σ H s1) E s := fun st h1 h2 =>
      py_end (I.ok.hd hc) h1 hp2 h2 fun h' hk => ⟨rfl, I.turnedL (t' := s.toks) (ch := [it, pool]) (fun b o hb q => hk b o (fun z => hb (by simp [z])) q) hf⟩
    cases i with
    | zero =>
      rw [if_pos rfl] at hi hx
      have hr : xs.length < r := by
        rcases Nat.lt_or_ge xs.length r with z | z
        · exact z
        · obtain ⟨l1, _⟩ := idxL_lnk z
          exact absurd (List.length_eq_zero_iff.mp (by omega)) l1
      rw [if_pos (by rw [hsz]; exact hr)] at hi
      exact go 2 hi (.inl rfl)
    | succ i =>
      rw [if_neg (Nat.succ_ne_zero i)] at hi hx
      have hx : (idxL its.toArray.size r)[i]? = some idx := hx
      rw [hsz] at hx
      obtain ⟨m1, m2⟩ := idxL_mem (List.mem_of_getElem? hx)
      have hr : r ≤ xs.length := by
        rcases Nat.lt_or_ge xs.length r with z | z
        · unfold idxL at hx; rw [combL_long (by simpa using z)] at hx; simp at hx
        · exact z
      obtain ⟨l1, l2, l3⟩ := idxL_lnk hr
      have hn := l3.at hx
      rw [List.getElem?_eq_none (by omega)] at hn
      exact go 1 hi (.inr ⟨rfl, by rw [hsz]; exact m2, by rw [hsz]; omega, by rw [hsz]; exact hn⟩)
  self := fun A i s Q E st h => by
    obtain ⟨hp, res, idx, hi, hx⟩ := st
    exact iter_c hi h
def iComb (K : PySem.W.Frag) (ta : TA) : TI := fun σ H R => ta σ H fun vs H1 => ∃ (a : Addr) (xs : List V) (r : Nat), vs = [.ref a, .int r] ∧ (SqL K H1 a xs ∨ SqT K H1 a xs) ∧ r ≤ 1000 ∧ R (Itc (combL r xs)) H1
section
variable {X : Cx} {c : Cfg}
theorem pi_comb {tg e e2 : Expr} {ta : TA} {x : Str} {p pos : Pos} (hg : Gl X x) (hm : X.mg x = some (.type "itertools.combinations")) (ha : PA X [e, e2] ta) (hdb : (x == ("__debug__" : Str)) = false)
    (hs : starEach [e, e2] X.env = (false, eval e X.env) :: starEach [e2] X.env) (hpl : (backTo pos (starEach [e2] X.env)).any (·.1) = false) :
    PI X tg (.Call (.Name x p) [e, e2] [] pos) (iComb X.K ta) := by
  refine ⟨fun pins s σ H R I h => ?_⟩
  refine wpAny_Call_Name_kw (ld_glob I hg hm ?_ hdb)
  refine PyProof.Rows.callWith_type1 (thn (ha.run pos pins s σ H _ I h) fun us s1 ⟨vs, H1, I1, r1, q1⟩ => ?_) hs hpl
  obtain ⟨a, xs, r, rfl, hq, hr, q⟩ := q1
  obtain ⟨u1, u2, rfl, ru1, ru2⟩ := vals2 r1
  obtain rfl : u1 = Value.ref a := ru1
  obtain ⟨t, rfl⟩ : ∃ t, u2 = Value.int (r : Int) t := ru2
  have fin : ∀ {its : List Value} (o : Obj) (n : Nat) (T : String), Vals xs its → xs.length ≤ sizeLine → (T = "list" ∨ T = "tuple") → s1.heap.get? a = some o → o.cls = .type T → o.data = .seq its.toArray n →
      wpAny (model X.prog X.w) X.A (call (.type "itertools.combinations") [.ref a, .int r t]) (fun v s1 => wpAny (model X.prog X.w) X.A (pyIter v) (PIE X pins σ tg R) X.xe s1) X.xe s1 := by
    intro its o n T rv hz hT ho hc hd
    have hlen := rv.length
    refine call_c hT ho hc hd (by rw [List.size_toArray]; omega) hr fun h' hk => ?_
    have e1 : ((h'.push { cls := .type "tuple", data := .seq its.toArray }).push (recC h'.objs.size (if r > its.toArray.size then 2 else 0) .none (List.range r))).get? (h'.objs.size + 1) = some (recC h'.objs.size (if r > its.toArray.size then 2 else 0) .none (List.range r)) := by
      have := Heap.get?_push_size (h'.push { cls := .type "tuple", data := .seq its.toArray }) (o := recC h'.objs.size (if r > its.toArray.size then 2 else 0) .none (List.range r)) rfl
      rwa [Heap.size_push] at this
    have e2 : ((h'.push { cls := .type "tuple", data := .seq its.toArray }).push (recC h'.objs.size (if r > its.toArray.size then 2 else 0) .none (List.range r))).get? h'.objs.size = some { cls := .type "tuple", data := .seq its.toArray } :=
      Heap.get?_push_of_some _ (Heap.get?_push_size _ rfl)
    have I2 : L2.Inv X pins σ H1 { s1 with heap := (h'.push { cls := .type "tuple", data := .seq its.toArray }).push (recC h'.objs.size (if r > its.toArray.size then 2 else 0) .none (List.range r)) } :=
      I1.kept (t' := s1.toks) fun b ob q => Heap.get?_push_of_some _ (Heap.get?_push_of_some _ (hk b ob q))
    have I3 : L2.Inv X pins σ H1 { s1 with heap := h' } := I1.kept (t' := s1.toks) hk
    refine iter_c (it := h'.objs.size + 1) e1 ?_
    refine ⟨h'.objs.size + 1, [h'.objs.size + 1, h'.objs.size], _, _, H1, rfl, I2, turn_c rv (Nat.succ_ne_self _) hz, ⟨e2, .none, List.range r, ?_, rfl⟩, fun b hb => ?_, q⟩
    · rw [if_pos rfl]; exact e1
    · have hle : h'.objs.size ≤ b := by
        have e' : b = h'.objs.size + 1 ∨ b = h'.objs.size := by simpa using hb
        rcases e' with q | q <;> rw [q]
        · exact Nat.le_succ _
        · exact Nat.le_refl _
      exact I3.fpOk hle (I3.hok.fresh hle)
  rcases hq with hq | hq
  · obtain ⟨its, rv, pl, hz⟩ := I1.list hq
    obtain ⟨o, ho, hc, n, hd⟩ := pl.isList
    exact fin o _ "list" rv hz (.inl rfl) ho hc hd
  · obtain ⟨its, rv, ⟨o, ho, hc, n, hd⟩, hz⟩ := I1.tuple hq
    exact fin o n "tuple" rv hz (.inr rfl) ho hc hd
/-! ### by data -/
theorem pick_rep {T : CT} {H : Hp} {l : List D} {xs : List V} (r : RepL T H l xs) : ∀ {p : List Nat}, (∀ x ∈ p, x < l.length) → RepL T H (p.map fun j => l.getD j .non) (p.map fun j => xs.getD j .non)
  | [], _ => rfl
  | j :: p, h => by
    have hj := h j List.mem_cons_self
    obtain ⟨v, hv, rv⟩ := r.get (List.getElem?_eq_getElem hj)
    refine .cons ?_ (pick_rep r fun x hx => h x (List.mem_cons_of_mem _ hx))
    have e1 : l.getD j .non = l[j] := by simp [List.getD, List.getElem?_eq_getElem hj]
    have e2 : xs.getD j .non = v := by simp [List.getD, hv]
    show Rep T H (l.getD j .non) (xs.getD j .non)
    rw [e1, e2]
    exact rv
theorem comb_rep {T : CT} {H : Hp} {l : List D} {xs : List V} (r : RepL T H l xs) (k : Nat) : (combL k xs).length = (combL k l).length ∧ ∀ (i : Nat) (vs : List V), (combL k xs)[i]? = some vs → ∃ p, (combL k l)[i]? = some p ∧ RepL T H p vs := by
  have e1 := comb_idx xs .non k
  have e2 := comb_idx l .non k
  rw [r.length] at e1
  refine ⟨by rw [e1, e2, List.length_map, List.length_map], fun i vs h => ?_⟩
  rw [e1, List.getElem?_map] at h
  rw [e2, List.getElem?_map]
  cases hi : (idxL l.length k)[i]? with
  | none => rw [hi] at h; cases h
  | some p =>
    rw [hi] at h
    cases h
    obtain ⟨_, h2⟩ := idxL_mem (List.mem_of_getElem? hi)
    exact ⟨_, rfl, pick_rep r h2⟩
def combD : List D → Option (List D)
  | [.lst l, .int i] => if 0 ≤ i ∧ i ≤ 1000 then some ((combL i.toNat l).map .tup) else none
  | [.tup l, .int i] => if 0 ≤ i ∧ i ≤ 1000 then some ((combL i.toNat l).map .tup) else none
  | _ => none
theorem combD_eq {ds l : List D} (h : combD ds = some l) : ∃ l0 i, (ds = [.lst l0, .int i] ∨ ds = [.tup l0, .int i]) ∧ 0 ≤ i ∧ i ≤ 1000 ∧ (combL i.toNat l0).map .tup = l := by
  unfold combD at h
  split at h
  · split at h
    · rename_i hi; cases h; exact ⟨_, _, .inl rfl, hi.1, hi.2, rfl⟩
    · cases h
  · split at h
    · rename_i hi; cases h; exact ⟨_, _, .inr rfl, hi.1, hi.2, rfl⟩
    · cases h
  · cases h
theorem walk_comb {l : List D} {xs : List V} {k : Nat} {Hk1 : Hp} (r : RepL c.T Hk1 l xs) (P : Hp → Hp → Prop) (hP : ∀ Hk2 H2, P Hk2 H2 → Gd c.Z Hk2 H2 ∧ Ex Hk1 Hk2) : WalkD c (Itc (combL k xs)) ((combL k l).map .tup) P where
  go := fun i Hk H p hi => by
    show i < (combL k xs).length
    rw [(comb_rep r k).1]
    simpa using hi
  stop := fun Hk H p => by
    show (combL k xs).length ≤ _
    rw [(comb_rep r k).1]
    simp
  yld := fun i Hk H x H' d p hd y => by
    obtain ⟨g, e⟩ := hP _ _ p
    obtain ⟨T, vs, e1, e2, e3, e4⟩ := y
    subst e2 e4
    obtain ⟨q, hq, rq⟩ := (comb_rep r k).2 i vs e1
    rw [List.getElem?_map, hq] at hd
    cases hd
    have s2 := StpP.new (o := .tup vs) g e3
    exact ⟨_, s2, T, vs, rfl, .inl (.inl upd_same), (rq.mono e).mono s2.s.k⟩
theorem di_comb {tg e e2 : Expr} {ta : TA} {φ : AM c.Z.W} {x : Str} {p pos : Pos} (hK : X.K = c.T.K) (hm : X.mg x = some (.type "itertools.combinations")) (ha : DA X c [e, e2] ta φ) (hg : Gl X x := by rfl) (hdb : (x == ("__debug__" : Str)) = false := by decide)
    (hs : starEach [e, e2] X.env = (false, eval e X.env) :: starEach [e2] X.env := by rfl) (hpl : (backTo pos (starEach [e2] X.env)).any (·.1) = false := by rfl) : DI X c tg (.Call (.Name x p) [e, e2] [] pos) (iComb c.T.K ta) (iRng combD φ) := by
  refine ⟨hK ▸ pi_comb hg hm ha.p hdb hs hpl, ?_⟩
  intro Hk0 H0 env w σ Hk H pr l w' e' R q
  obtain ⟨⟨ds, w1⟩, e1, e'⟩ := bind_some e'
  obtain ⟨l', e2, e'⟩ := map_some e'
  cases e'
  refine ha.k _ _ _ _ _ _ _ pr _ _ e1 _ fun vs Hk1 H1 s1 o1 r1 => ?_
  obtain ⟨l0, i, hds, h0, h1, rfl⟩ := combD_eq e2
  rcases hds with rfl | rfl
  · obtain ⟨v, u, rfl, rv, ru⟩ := r1.two
    obtain ⟨a, xs, rfl, ha', rl⟩ := rv
    exact ⟨a, xs, i.toNat, by rw [show u = V.int i from ru, Int.toNat_of_nonneg h0], .inl (SqL.of (s1.g.e _ _ ha')), by omega, q _ Hk1 H1 s1 o1 fun P hP => walk_comb rl P hP⟩
  · obtain ⟨v, u, rfl, rv, ru⟩ := r1.two
    obtain ⟨a, xs, rfl, ha', rl⟩ := rv
    exact ⟨a, xs, i.toNat, by rw [show u = V.int i from ru, Int.toNat_of_nonneg h0], .inr (ex_t s1.g.e ha'), by omega, q _ Hk1 H1 s1 o1 fun P hP => walk_comb rl P hP⟩
end
end DL
set_option Elab.async false
set_option linter.all false
set_option maxRecDepth 100000
set_option maxHeartbeats 4000000
/-! DLt: a lambda of one parameter that is a cell (a comprehension within reads it). -/
namespace DL
open PySem PySem.Spec PyProof.Rows L2 Evl StX LamX NdefX
/-- the function with the cell of its parameter -/
@[reducible] def NF.ext1 (F : NF) (x : Str) (a : Addr) : NF := ⟨F.name, F.qual, F.params, F.body, F.scope, (x, a) :: F.cl, F.c⟩
structure CScope (N fr : List Str) (x : Str) (sc : Scope) : Prop where
  kind : sc.kind = .function
  co : sc.isCoroutine = false
  gen : sc.isGenerator = false
  nd : N.Nodup
  pre : N.take (1 + fr.length) = x :: fr
  par : sc.names.lookup x = some .cell
  only : ∀ y ∈ sc.names, y.2 = .cell → y.1 = x
  free : ∀ y ∈ sc.names, y.2 = .free → y.1 ∈ fr
  frk : ∀ y ∈ fr, sc.names.lookup y = some .free
section
variable {P : Program} {w : World} {K : PySem.W.Frag} {mg : Str → Option Value} {base : Heap} {N fr : List Str} {F : NF} {f : Addr} {k : Nat} {body : Expr} {x : Str} {A : Around} {outer : List Env} {s : Shared} {H : Hp} {E : XK} {u : Value} {v : V} {ws : List (Option V)}
theorem inv_startC {h₁ : Heap} {tk : Nat} (S : CScope N fr x F.scope) (hd : A.handled = none) (e0 : Env0 P w K mg base A outer s H) (r : RelV v u) (C : CellsAt F.cl fr ws s.heap H) (hns : h₁.Ns s.heap.objs.size fun _ => none) (hcell : h₁.IsCell (s.heap.objs.size + 1) (some u))
    (kp : ∀ b o, s.heap.get? b = some o → h₁.get? b = some o) : L2.Inv (ncx CX0 P w K mg base N (NF.ext1 F x (s.heap.objs.size + 1)) f A outer s H E) [] (startF N [v] ws) H { s with heap := h₁, toks := tk } := by
  have hpl : 1 + fr.length ≤ N.length := by
    have q := congrArg List.length S.pre
    rw [List.length_take, List.length_cons] at q
    omega
  have noA : ∀ b : Addr, b ∉ (ncx CX0 P w K mg base N (NF.ext1 F x (s.heap.objs.size + 1)) f A outer s H E).ex := fun b z => absurd (show b ∈ ([] : List Addr) from z) (by simp)
  have cellK : ∀ {c : Addr} {v : Option Value}, s.heap.IsCell c v → h₁.IsCell c v := fun {c v} ⟨o, ho, hd⟩ => ⟨o, kp _ _ ho, hd⟩
  have lt : ∀ {y : Str} {c : Addr}, F.cl.lookup y = some c → c < s.heap.objs.size := fun {y c} e => by
    obtain ⟨_, v', o, ho, _⟩ := C.all y c e
    exact Heap.lt_size ho
  have look : ∀ {y : Str} {c : Addr}, (NF.ext1 F x (s.heap.objs.size + 1)).cl.lookup y = some c → (y = x ∧ c = s.heap.objs.size + 1) ∨ (y ≠ x ∧ F.cl.lookup y = some c) := fun {y c} e => by
    have e : (if (y == x) = true then some (s.heap.objs.size + 1) else F.cl.lookup y) = some c := by
      have := e
      rw [show (NF.ext1 F x (s.heap.objs.size + 1)).cl = (x, s.heap.objs.size + 1) :: F.cl from rfl, List.lookup_cons] at this
      cases hb : y == x <;> rw [hb] at this <;> simpa using this
    split at e
    · rename_i hb; cases e; exact .inl ⟨beq_iff_eq.mp hb, rfl⟩
    · rename_i hb; exact .inr ⟨fun z => hb (beq_iff_eq.mpr z), e⟩
  have lookx : (NF.ext1 F x (s.heap.objs.size + 1)).cl.lookup x = some (s.heap.objs.size + 1) := by
    show List.lookup x ((x, s.heap.objs.size + 1) :: F.cl) = _
    rw [List.lookup_cons]; simp
  have looky : ∀ {y : Str}, y ≠ x → (NF.ext1 F x (s.heap.objs.size + 1)).cl.lookup y = F.cl.lookup y := fun {y} n => by
    show List.lookup y ((x, s.heap.objs.size + 1) :: F.cl) = _
    rw [List.lookup_cons, beq_eq_false_iff_ne.mpr n]
  have frne : ∀ y ∈ fr, y ≠ x := fun y hy z => by
    have := S.frk y hy
    rw [z, S.par] at this
    cases this
  have inj : ∀ y z c, (NF.ext1 F x (s.heap.objs.size + 1)).cl.lookup y = some c → (NF.ext1 F x (s.heap.objs.size + 1)).cl.lookup z = some c → y = z := fun y z c e1 e2 => by
    rcases look e1 with ⟨a1, a2⟩ | ⟨a1, a2⟩ <;> rcases look e2 with ⟨b1, b2⟩ | ⟨b1, b2⟩
    · rw [a1, b1]
    · exact absurd (lt b2) (by rw [a2]; exact Nat.not_lt.mpr (Nat.le_succ _))
    · exact absurd (lt a2) (by rw [b2]; exact Nat.not_lt.mpr (Nat.le_succ _))
    · exact C.inj y z c a2 b2
  have cAll : ∀ y c, (NF.ext1 F x (s.heap.objs.size + 1)).cl.lookup y = some c → H c = none ∧ ∃ v', h₁.IsCell c v' := fun y c e => by
    rcases look e with ⟨_, rfl⟩ | ⟨_, a2⟩
    · exact ⟨e0.hok.fresh (Nat.le_succ _), _, hcell⟩
    · obtain ⟨n, v', z⟩ := C.all y c a2
      exact ⟨n, v', cellK z⟩
  refine ⟨⟨e0.mod, S.kind, rfl, rfl, Nat.le_refl _, inj, fun y hy => ?_, fun y c z _ => ?_, fun _ => hd, Around.frames_deeper e0.frames, .inr ⟨rfl, rfl⟩, fun b z => absurd z (noA b), e0.bs, e0.bsz, fun b _ _ => noA b,
      fun b z => absurd z (noA b), e0.funs, e0.frf⟩,
    rfl, e0.bare, Un.kept kp, ⟨_, hns, fun i y v' e1 e2 e3 => ?_⟩, fun y c e => (cAll y c e).2, e0.hok.fresh (Nat.le_refl _), fun y c e => (cAll y c e).1, fun q hq => absurd (show q ∈ ([] : List (Addr × Obj)) ++ [] from hq) (by simp), e0.hok.kept kp, ?_⟩
  · have hy : F.scope.names.lookup y = some .cell ∨ F.scope.names.lookup y = some .free := hy
    rcases hy with hy | hy
    · have := S.only _ (PySem.mem_of_lookup hy) rfl
      have : y = x := this
      rw [this]
      exact ⟨_, lookx⟩
    · obtain ⟨i, hi⟩ := List.mem_iff_getElem?.mp (S.free _ (PySem.mem_of_lookup hy) rfl)
      obtain ⟨c, hc, _⟩ := C.has i y hi
      exact ⟨c, (looky (frne y (List.mem_of_getElem? hi))).trans hc⟩
  · have z : false = true := z
    cases z
  · have e1 : N[i]? = some y := e1
    have clen := C.len
    unfold startF at e2
    cases i with
    | zero =>
      have hv : v' = v := by simpa using e2.symm
      subst hv
      have hq : (x :: fr)[0]? = some y := by rw [← S.pre, List.getElem?_take_of_lt (by omega)]; exact e1
      cases hq
      exact ⟨u, r, .inr ⟨.inl S.par, _, lookx, hcell⟩⟩
    | succ i =>
      have e2 : (ws ++ List.replicate (N.length - 1 - ws.length) none)[i]? = some (some v') := e2
      by_cases h2 : i < fr.length
      · have hq : (x :: fr)[i + 1]? = some y := by rw [← S.pre, List.getElem?_take_of_lt (by omega)]; exact e1
        have hq : fr[i]? = some y := hq
        rw [List.getElem?_append_left (by omega)] at e2
        obtain ⟨c, hc, hv⟩ := C.has i y hq
        obtain ⟨u', ru, hu⟩ := hv v' e2
        have hm := List.mem_of_getElem? hq
        exact ⟨u', ru, .inr ⟨.inr (S.frk y hm), c, (looky (frne y hm)).trans hc, cellK hu⟩⟩
      · rw [List.getElem?_append_right (by omega), List.getElem?_replicate] at e2
        split at e2 <;> cases e2
  · have clen := C.len
    unfold startF
    show _ = N.length
    rw [List.length_append, List.length_append, List.length_map, List.length_replicate, List.length_singleton]
    omega
theorem lam_runC {Q : VK} {tb : TE} (S : CScope N fr x F.scope) (hcf : ∀ n acc, cellsFrom n F.scope.names acc = (x, n) :: acc) (hpc : ∀ h : Heap, pushCells h F.scope.names = h.push { cls := .type "cell", data := .cell none })
    (hb : ∀ (pm ctv : Value) (us : List Value), us.length = 1 → bindArgs (PySem.W.kla_fn "<lambda>" F.qual F.params body F.scope F.cl pm (.ref F.c) ctv) ⟨us, []⟩ = pure ([x].zip us))
    (hr : Room (k + 1) A) (e0 : Env0 P w K mg base A outer s H) (hf : H f = some (LamO f F body)) (hc : H F.c = some (CodeO F.c F.qual)) (C : CellsAt F.cl fr ws s.heap H) (r : RelV v u)
    (hbody : Room k (A.deeper (envF (NF.ext1 F x (s.heap.objs.size + 1)) f s.heap.objs.size)) → PE (ncx CX0 P w K mg base N (NF.ext1 F x (s.heap.objs.size + 1)) f A outer s H E) body tb) (hq : tb (startF N [v] ws) H Q) :
    codeAny (model P w) A (.call (.ref f) ⟨[u], []⟩) (CR CX0 outer P w H s Q E) s := by
  have lim : s.heap.NoLimit := e0.mod.nolimit.keeps fun b o e => (e0.bs b o e).1
  obtain ⟨od, sl, pm, ctv, ho⟩ := lamO_at e0.hok hf
  refine PySem.W.kla_callFunE hr.depth ho rfl S.co S.gen rfl (codeO_at e0.hok hc) ?_
  rw [hb pm ctv [u] rfl]
  refine wpAny_pure ?_
  simp only [newFunctionEnv, Option.isSome_none, Bool.false_eq_true, if_false]
  refine wpAny_bind (wpAny_alloc ?_)
  refine wpAny_bind (wpAny_layCells _ (fun name kind cells => by cases hkc : kind == NameKind.cell <;> simp [hkc]) _ _ _ _ ?_)
  rw [hcf, hpc]
  rw [show ({ s with heap := s.heap.push { cls := .type "frame", data := .dict #[] } } : Shared).heap.objs.size = s.heap.objs.size + 1 from Heap.size_push ..]
  have hcell0 : ((s.heap.push { cls := .type "frame", data := .dict #[] }).push { cls := .type "cell", data := .cell none }).IsCell (s.heap.objs.size + 1) none := by
    have := Heap.get?_push_size (s.heap.push { cls := .type "frame", data := .dict #[] }) (o := { cls := .type "cell", data := .cell none }) rfl
    rw [Heap.size_push] at this
    exact ⟨_, this, rfl⟩
  have hns0 : ((s.heap.push { cls := .type "frame", data := .dict #[] }).push { cls := .type "cell", data := .cell none }).Ns s.heap.objs.size fun _ => none :=
    (Heap.Ns.new s.heap (.type "frame")).keeps fun b o e => Heap.get?_push_of_some _ e
  refine wpAny_bind ?_
  show wpAny _ _ (forIn ([x].zip [u]) PUnit.unit _) _ _ _
  rw [show [x].zip [u] = [(x, u)] from rfl, List.forIn_cons]
  refine wpAny_bind (wpAny_bind ?_)
  refine wpAny_storeName_cell (c := s.heap.objs.size + 1) (v₀ := none) S.kind S.par (by simp) hcell0 fun h₁ hc1 hs1 => ?_
  refine wpAny_pure ?_
  show wpAny _ _ (forIn [] PUnit.unit _) _ _ _
  rw [List.forIn_nil]
  refine wpAny_pure (wpAny_pure ?_)
  have kp : ∀ b o, s.heap.get? b = some o → h₁.get? b = some o := fun b o e => hs1.extBut b o (Nat.ne_of_lt (Nat.lt_succ_of_lt (Heap.lt_size e))) (Heap.get?_push_of_some _ (Heap.get?_push_of_some _ e))
  have hns1 : h₁.Ns s.heap.objs.size fun _ => none := hns0.sameBut hs1 (Nat.ne_of_lt (Nat.lt_succ_self _))
  refine ⟨lim.keeps kp, ?_⟩
  show codeAny _ _ (.expr body (envF (NF.ext1 F x (s.heap.objs.size + 1)) f s.heap.objs.size)) _ _
  have I : L2.Inv (ncx CX0 P w K mg base N (NF.ext1 F x (s.heap.objs.size + 1)) f A outer s H E) [] (startF N [v] ws) H { s with heap := h₁, toks := s.toks } := inv_startC S hr.hd e0 r C hns1 hc1 kp
  refine PySem.W.kla_codeExpr (wpAny_mono ((hbody (hr.deeper _)).run [] _ _ H Q I hq) (fun v s' hs => ?_) fun e s' hs => hs)
  obtain ⟨w', H', J', rv, q⟩ := hs
  exact ⟨w', H', J'.os, J'.bare, J'.base, J'.hok, rv, q⟩
end
section
variable {X : Cx}
theorem de_callLamC {c : Cfg} {j k kb n nN : Nat} {f : Addr} {fm : (D → Option Bool) → FM c.Z.W} {x px : Str} {p pos : Pos} {e : Expr} {es : List Expr} {t : TAF} {φ : AM c.Z.W} {φb : EM c.Z.W} {params : Arguments} {body : Expr} {scope : Scope} {fr : List Str} {js : List Nat} {N : List Str}
    (Fn : FnS X.prog X.w X.K X.mg X.base k f (n + 1) (spL X.prog X.w X.K X.mg X.base c.T c.Z c.B (kb + 1) n fm)) (hr : Room j X.A) (hm : X.mg x = some (.ref f)) (ha : DAl X c X.env.qual X.env.cells params scope body fr js (e :: es) t φ) (Sc : CScope N fr px scope) (hcf : ∀ n acc, cellsFrom n scope.names acc = (px, n) :: acc) (hpc : ∀ h : Heap, pushCells h scope.names = h.push { cls := .type "cell", data := .cell none }) (hN : N.length = nN) (hS : ∀ a, ¬ c.S a)
    (hbody : ∀ (c' f : Addr) (A : Around) (outer : List Env) (s : Shared) (H : Hp) (E : XK), Room kb (A.deeper (envF (NF.ext1 (mkF X.env.qual X.env.cells params scope c') px (s.heap.objs.size + 1)) f s.heap.objs.size)) → ∃ tb, DE (ncx CX0 X.prog X.w X.K X.mg X.base N (NF.ext1 (mkF X.env.qual X.env.cells params scope c') px (s.heap.objs.size + 1)) f A outer s H E) c body tb φb)
    (hbind : ∀ (qual : Str) (cl : List (Str × Addr)) (pm ctv cd : Value) (us : List Value), us.length = 1 → bindArgs (PySem.W.kla_fn "<lambda>" qual params body scope cl pm cd ctv) ⟨us, []⟩ = pure ([px].zip us))
    (hk : k ≤ j := by decide) (hg : Gl X x := by rfl) (hdb : (x == ("__debug__" : Str)) = false := by decide) (he : starEach (e :: es) X.env = (false, eval e X.env) :: starEach es X.env := by rfl) (hpl : (backTo pos (starEach es X.env)).any (·.1) = false := by rfl) :
    DE X c (.Call (.Name x p) (e :: es) [] pos) (fun σ H Q => t σ H fun vs Φ H1 => vs.length = n + 1 ∧ ∀ s : Shared, Φ s.heap → spL X.prog X.w X.K X.mg X.base c.T c.Z c.B (kb + 1) n fm s vs H1 Q E0) (eCallLam js n nN φb fm φ) := by
  refine ⟨pe_callF Fn hr hk hg hm ha.p hdb he hpl, ?_⟩
  intro Hk0 H0 env w σ Hk H pr d w' e' Q q
  obtain ⟨caps, ec, e'⟩ := bind_some e'
  obtain ⟨⟨l, w1⟩, e1, e2⟩ := bind_some e'
  split at e2
  · rename_i hl
    have hl : l.length = n := hl
    obtain ⟨us0, ew, rc⟩ := capE_at pr ec
    refine ha.k _ _ _ _ _ _ _ pr l _ e1 _ fun us fa c' Hk1 H1 s1 o1 r1 f1 f2 h1 h2 => ?_
    refine ⟨by rw [List.length_append, r1.length, hl]; rfl, fun s hs => ?_⟩
    refine ⟨Hk1, l, us, w1, d, w', fa, mkF X.env.qual X.env.cells params scope c', body, fr, js.map (slotAt σ), lamG nN φb caps, rfl, s1.g, c.Bm s1.k pr.base, o1, r1, hl, h1, h2, f1, f2, hs, ?_, e2, fun v2 Hk2 H2 s2 o2 r2 => q v2 Hk2 H2 (s1.trans s2) o2 r2⟩
    -- it keeps its promise
    intro A outer s2 H2 us2 vs2 Q2 hr2 e0 g1 g2 C2 rv hl2 hsp
    obtain ⟨Hk3, ds, w3, d3, w4, gd, b, o, rr, hds, eg, q3⟩ := hsp
    have hd1 : ∃ d1, ds = [d1] := by
      cases ds with
      | nil => cases hds
      | cons d1 r => cases r with
        | nil => exact ⟨d1, rfl⟩
        | cons _ _ => simp at hds
    obtain ⟨d1, rfl⟩ := hd1
    obtain ⟨v1, rfl, rv1⟩ := rr.one
    obtain ⟨b1, eb, eg⟩ := map_some eg
    have hw := lamG_at eb w3
    have eg1 : d3 = .bl b1 := (congrArg Prod.fst eg).symm
    have eg2 : w3 = w4 := congrArg Prod.snd eg
    subst eg1
    subst eg2
    obtain ⟨tb, hD⟩ := hbody c' fa A outer s2 H2 E0 (hr2.deeper _)
    cases rv with
    | cons rv1' rv2' =>
    cases rv2'
    refine lam_runC (N := N) (x := px) (fr := fr) (tb := tb) Sc hcf hpc (fun pm ctv us => hbind _ _ pm ctv _ us) hr2 e0 g1 g2 C2 rv1' (fun _ => hD.p) ?_
    rw [ew, startF_eq]
    have rl : RepL c.T Hk3 (d1 :: caps) (v1 :: us0) := .cons rv1 (rc.mono (s1.k.trans b.2))
    have hlen : (d1 :: caps).length ≤ nN := by
      have h3 := Sc.pre
      have h4 := C2.len
      rw [ew, List.length_map] at h4
      have h5 := congrArg List.length h3
      rw [List.length_take] at h5
      have h6 := rc.length
      simp only [List.length_cons] at h5 ⊢
      omega
    exact hD.k _ _ _ _ _ _ _ (pre_start gd b.1 o rl hN hlen hS) _ _ hw Q2 fun v2 Hk4 H4 s4 o4 r4 => q3 v2 Hk4 H4 s4 o4 r4
  · cases e2
end
/-! ### a def that calls itself: by how deep -/
theorem fn_zero {P : Program} {w : World} {K : PySem.W.Frag} {mg : Str → Option Value} {base : Heap} {T : CT} {Z : Wo} {B : Hp → Prop} {x qual : Str} {st : Stmt} {f : Addr} {ps : List Str} {k m : Nat} (F : DefAt K x qual st ps f) :
    FnD P w K mg base k f (spD T Z B m (fun _ _ => none)) := by
  obtain ⟨fd, F, Bi⟩ := F
  exact ⟨fd, ps, ⟨(fun vs H Q E ⟨_, _, _, _, _, _, _, _, _, _, e, _⟩ => nomatch e), (fun A outer s H args us vs Q E _ _ _ _ ⟨_, _, _, _, _, _, _, _, _, _, e, _⟩ => nomatch e)⟩, Bi, F.kp⟩
end DL
set_option Elab.async false
set_option linter.all false
set_option maxRecDepth 100000
set_option maxHeartbeats 4000000
/-! DLu: the comprehension with two fors. -/
namespace DL
open PySem L2 Evl RZ
/-! ### targets leave the frame's own objects -/
class GKeep (γ : GM) : Prop where
  k : ∀ d env env', γ d env = some env' → ∀ (i : Nat) (s : Sl), env'[i]? = some s → s.mut = true → env[i]? = some s
class GsKeep (γ : GMs) : Prop where
  k : ∀ l env env', γ l env = some env' → ∀ (i : Nat) (s : Sl), env'[i]? = some s → s.mut = true → env[i]? = some s
instance (j : Nat) : GKeep (gmName j) := ⟨fun d env env' e i s h m => by
  cases e
  by_cases z : j = i
  · subst z
    by_cases hl : j < env.length
    · rw [List.getElem?_set_self hl] at h; cases h; cases m
    · rw [List.getElem?_eq_none (by rw [List.length_set]; omega)] at h; cases h
  · rwa [List.getElem?_set_ne z] at h⟩
instance : GsKeep gmNil := ⟨fun l env env' e i s h m => by
  unfold gmNil at e
  split at e
  · cases e; exact h
  · cases e⟩
instance (γ : GM) (δ : GMs) [a : GKeep γ] [b : GsKeep δ] : GsKeep (gmCons γ δ) := ⟨fun l env env' e i s h m => by
  cases l with
  | nil => cases e
  | cons d l =>
    obtain ⟨env1, e1, e2⟩ := bind_some (show (γ d env).bind (fun env => δ l env) = some env' from e)
    exact a.k _ _ _ e1 i s (b.k _ _ _ e2 i s h m) m⟩
instance (n : Nat) (δ : GMs) [b : GsKeep δ] : GKeep (gmTup n δ) := ⟨fun d env env' e i s h m => by
  cases d <;> simp only [gmTup, reduceCtorEq] at e
  split at e
  · exact b.k _ _ _ e i s h m
  · cases e⟩
theorem Pre.reEnv {c : Cfg} {Hk0 H0 Hk H Hk' H' : Hp} {env env1 : Env'} {w w1 : c.Z.W} {σ σ1 : L2.St} (p1 : Pre c Hk0 H0 env1 w1 σ1 Hk H) (p : Pre c Hk0 H0 env w σ Hk' H') (k : Ex Hk Hk')
    (hm : ∀ (i : Nat) (s : Sl), env1[i]? = some s → s.mut = true → env[i]? = some s ∧ σ1[i]? = σ[i]?) : Pre c Hk0 H0 env1 w σ1 Hk' H' where
  k := p.k
  base := p.base
  g := p.g
  new := p.new
  keep := p.keep
  self := p.self
  w := p.w
  len := p1.len
  sl := fun i s e => by
    cases s with
    | un => trivial
    | val d => obtain ⟨v, e1, r⟩ := p1.sl i _ e; exact ⟨v, e1, r.mono k⟩
    | fn f => exact p1.sl i _ e
    | own l => obtain ⟨h1, h2⟩ := hm i _ e rfl; rw [h2]; exact p.sl i _ h1
    | ownd ks l => obtain ⟨h1, h2⟩ := hm i _ e rfl; rw [h2]; exact p.sl i _ h1
    | obj a l => obtain ⟨h1, h2⟩ := hm i _ e rfl; rw [h2]; exact p.sl i _ h1
  ap := p1.ap
/-! ### the comprehension -/
def lc2Go {W : Type} (γ : GM) (tt : TM W) (ι1 : AM W) (γ1 : GM) (tt1 : TM W) (te : EM W) (vs1 : List Nat) : List D → Env' → W → Option (List D × W)
  | [], _, w => some ([], w)
  | d :: r, env, w => (γ d env).bind fun env1 => (tt env1 w).bind fun p =>
      if p.1 = true then (ι1 env1 p.2).bind fun q => (lcGo γ1 tt1 te q.1 (wipeE env1 vs1) q.2).bind fun z => (lc2Go γ tt ι1 γ1 tt1 te vs1 r env z.2).map fun y => (z.1 ++ y.1, y.2)
      else lc2Go γ tt ι1 γ1 tt1 te vs1 r env p.2
def lLc2 {W : Type} (vs vs1 : List Nat) (ι : AM W) (γ : GM) (tt : TM W) (ι1 : AM W) (γ1 : GM) (tt1 : TM W) (te : EM W) : AM W := fun env w =>
  (ι env w).bind fun p => (lc2Go γ tt ι1 γ1 tt1 te vs1 p.1 (wipeE env vs) p.2).bind fun q => if q.1.length ≤ sizeLine then some q else none
section
variable {X : Cx} {c : Cfg}
theorem lc2_ok {wi wi1 : TI} {g g1 : TG} {tt tt1 : TT} {te : TE} {vs vs1 : List Nat} {ι ι1 : AM c.Z.W} {γ γ1 : GM} {χ χ1 : TM c.Z.W} {φ : EM c.Z.W} {ts ts1 : List Nat} (hi : ICk c wi ι) (hg : GOk c g γ ts) (hk : GKeep γ) (hts : ∀ i ∈ ts, i ∈ vs) (ht : TOk c tt χ)
    (hi1 : IOk c wi1 ι1) (hg1 : GOk c g1 γ1 ts1) (hts1 : ∀ i ∈ ts1, i ∈ vs1) (ht1 : TOk c tt1 χ1) (he : EOk c te φ) :
    LOk c (tLc2 wi g tt wi1 g1 tt1 te vs vs1) (lLc2 vs vs1 ι γ χ ι1 γ1 χ1 φ) := by
  intro Hk0 H0 env w σ Hk H p l w' e Q q
  obtain ⟨⟨items, w1⟩, e1, e⟩ := bind_some e
  obtain ⟨⟨l', w''⟩, e2, e⟩ := bind_some e
  split at e
  · rename_i hsz
    cases e
    have hsz : l.length ≤ sizeLine := hsz
    refine hi _ _ _ _ _ _ _ p items w1 e1 _ fun J Hk1 H1 s1 o1 wk D hD => ?_
    have fD : ¬ c.Z.FP D := fun f => s1.g.dm D f hD
    have hD0 : H D = none := by
      cases z : H D with
      | none => rfl
      | some o => rw [s1.keep D o fD z] at hD; cases hD
    have p1 := p.step s1 o1
    have W1 := wk (fun Hk2 H2 => Stp c.Z Hk1 H1 Hk2 H2) fun _ _ z => z
    have nk : ∀ {Hka Ha Hkb Hb : Hp}, Stp c.Z Hka Ha Hkb Hb → Ha D ≠ none → Hka D = none → Hkb D = none := fun {Hka Ha Hkb Hb} s h hk => by
      cases z : Hkb D with
      | none => rfl
      | some o =>
        rcases s.new D (ne_none z) with z | z
        · exact absurd hk z
        · exact absurd z h
    refine ⟨fun i m H2 => m = items.length - i ∧ i ≤ items.length ∧ ∃ Hk2 w2 acc us rest, Stp c.Z Hk1 H1 Hk2 H2 ∧ c.Z.ok w2 H2 ∧ H2 D = some (.lst us) ∧ Hk2 D = none ∧ RepL c.T Hk2 acc us ∧
      lc2Go γ χ ι1 γ1 χ1 φ vs1 (items.drop i) (wipeE env vs) w2 = some (rest, w') ∧ acc ++ rest = l, ⟨items.length, by simp, Nat.zero_le _, Hk1, w1, [], [], l, (StpP.own s1.g hD).s, ok_mut o1 fD (by rw [hD]; simp), upd_same, hk_none s1.g hD, rfl, by simpa using e2, rfl⟩, ?_⟩
    rintro i m H2 ⟨rfl, hi', Hk2, w2, acc, us, rest, s2, o2, hD2, hkD, ra, eg, el⟩
    by_cases hlt : i < items.length
    · refine .inr ⟨W1.go i Hk2 H2 s2 hlt, fun H' => i + 1 ≤ items.length ∧ ∃ Hk3 w3 acc us rest, Stp c.Z Hk1 H1 Hk3 H' ∧ c.Z.ok w3 H' ∧ H' D = some (.lst us) ∧ Hk3 D = none ∧ RepL c.T Hk3 acc us ∧
        lc2Go γ χ ι1 γ1 χ1 φ vs1 (items.drop (i + 1)) (wipeE env vs) w3 = some (rest, w') ∧ acc ++ rest = l, fun H' z => ⟨items.length - (i + 1), by omega, rfl, z.1, z.2⟩, fun x H3 y => ?_⟩
      rw [drop_cons hlt] at eg
      obtain ⟨env1, g1e, eg⟩ := bind_some (show (γ items[i] (wipeE env vs)).bind _ = _ from eg)
      obtain ⟨⟨b, w3⟩, g2, eg⟩ := bind_some eg
      obtain ⟨Hk3, s3, r3⟩ := W1.yld i Hk2 H2 x H3 items[i] s2 (List.getElem?_eq_getElem hlt) y
      have s13 := s2.trans s3.s
      have p3 := (p1.wipe vs).step s13 (s3.ok o2)
      refine hg _ _ _ _ _ _ _ p3 _ x env1 r3 g1e _ fun σ4 p4 wp => ⟨by rw [wp vs hts, wipe_wipe], ?_⟩
      refine ht _ _ _ _ _ _ _ p4 b w3 g2 _ fun Hk5 H5 s5 o5 => ?_
      have s15 := s13.trans s5
      have hD3 := s3.s.keep D _ fD hD2
      have hk3 := nk s3.s (ne_none hD2) hkD
      have hD5 := s5.keep D _ fD hD3
      have hk5 := nk s5 (ne_none hD3) hk3
      have ra5 := (ra.mono s3.s.k).mono s5.k
      have hm : ∀ (i : Nat) (s : Sl), env1[i]? = some s → s.mut = true → (wipeE env vs)[i]? = some s ∧ σ4[i]? = (wipe σ vs)[i]? := fun i s e m => by
        have h1 := hk.k _ _ _ g1e i s e m
        refine ⟨h1, ?_⟩
        have hn : ¬ (i ∈ vs ∧ i < env.length) := fun z => by
          rw [wipeE_get, if_pos z] at h1; cases h1; cases m
        have hl : i < env.length := by
          have := (List.getElem?_eq_some_iff.mp h1).1
          rwa [wipeE_length] at this
        have hv : i ∉ vs := fun z => hn ⟨z, hl⟩
        have h2 := congrArg (fun l : L2.St => l[i]?) (wp vs hts)
        simp only [wipe_get, wipe_length] at h2
        rw [if_neg (fun z => hv z.1), if_neg (fun z => hv z.1), if_neg (fun z => hv z.1)] at h2
        rw [h2, wipe_get, if_neg (fun z => hv z.1)]
      split at eg
      · rename_i hb
        rw [if_pos hb]
        obtain ⟨⟨items1, w4⟩, g3, eg⟩ := bind_some eg
        obtain ⟨⟨l1, w5⟩, g4, eg⟩ := bind_some eg
        obtain ⟨⟨rest', w6⟩, g5, eg⟩ := map_some eg
        cases eg
        have p5 := p4.step s5 o5
        refine hi1 _ _ _ _ _ _ _ p5 items1 w4 g3 _ fun J1 Hk6 H6 s6 o6 wk1 => ?_
        have s16 := s15.trans s6
        have hD6 := s6.keep D _ fD hD5
        have hk6 := nk s6 (ne_none hD5) hk5
        have p6 := p5.step s6 o6
        have W2 := wk1 (fun Hk2 H2 => Gd c.Z Hk2 H2 ∧ Ex Hk6 Hk2) fun _ _ z => z
        have el : acc ++ (l1 ++ rest') = l := el
        refine ⟨fun j k H7 => k = items1.length - j ∧ j ≤ items1.length ∧ ∃ Hk7 w7 acc us rest1, Stp c.Z Hk1 H1 Hk7 H7 ∧ Ex Hk6 Hk7 ∧ c.Z.ok w7 H7 ∧ H7 D = some (.lst us) ∧ Hk7 D = none ∧ RepL c.T Hk7 acc us ∧
          lcGo γ1 χ1 φ (items1.drop j) (wipeE env1 vs1) w7 = some (rest1, w5) ∧ acc ++ (rest1 ++ rest') = l, ⟨items1.length, by simp, Nat.zero_le _, Hk6, w4, acc, us, l1, s16, Ex.refl _, o6, hD6, hk6, ra5.mono s6.k, by simpa using g4, el⟩, ?_⟩
        rintro j k H7 ⟨rfl, hj', Hk7, w7, acc, us, rest1, s7, x7, o7, hD7, hk7, ra7, eh, em⟩
        by_cases hlt1 : j < items1.length
        · refine .inr ⟨W2.go j Hk7 H7 ⟨s7.g, x7⟩ hlt1, fun H8 => j + 1 ≤ items1.length ∧ ∃ Hk7 w7 acc us rest1, Stp c.Z Hk1 H1 Hk7 H8 ∧ Ex Hk6 Hk7 ∧ c.Z.ok w7 H8 ∧ H8 D = some (.lst us) ∧ Hk7 D = none ∧ RepL c.T Hk7 acc us ∧
            lcGo γ1 χ1 φ (items1.drop (j + 1)) (wipeE env1 vs1) w7 = some (rest1, w5) ∧ acc ++ (rest1 ++ rest') = l, fun H' z => ⟨items1.length - (j + 1), by omega, rfl, z.1, z.2⟩, fun x1 H8 y1 => ?_⟩
          rw [drop_cons hlt1] at eh
          obtain ⟨env2, k1, eh⟩ := bind_some (show (γ1 items1[j] (wipeE env1 vs1)).bind _ = _ from eh)
          obtain ⟨⟨b1, w8⟩, k2, eh⟩ := bind_some eh
          obtain ⟨Hk8, s8, r8⟩ := W2.yld j Hk7 H7 x1 H8 items1[j] ⟨s7.g, x7⟩ (List.getElem?_eq_getElem hlt1) y1
          have s18 := s7.trans s8.s
          have p8 := (p6.reEnv ((p1.wipe vs).step s18 (s8.ok o7)) (x7.trans s8.s.k) hm).wipe vs1
          refine hg1 _ _ _ _ _ _ _ p8 _ x1 env2 r8 k1 _ fun σ9 p9 wp1 => ⟨by rw [wp1 vs1 hts1, wipe_wipe], ?_⟩
          refine ht1 _ _ _ _ _ _ _ p9 b1 w8 k2 _ fun Hk9 H9 s9 o9 => ?_
          have s19 := s18.trans s9
          have hD8 := s8.s.keep D _ fD hD7
          have hk8 := nk s8.s (ne_none hD7) hk7
          have hD9 := s9.keep D _ fD hD8
          have hk9 := nk s9 (ne_none hD8) hk8
          have x9 := (x7.trans s8.s.k).trans s9.k
          have ra9 := (ra7.mono s8.s.k).mono s9.k
          split at eh
          · rename_i hb1
            rw [if_pos hb1]
            obtain ⟨⟨dy, w9⟩, k3, eh⟩ := bind_some eh
            obtain ⟨⟨rest2, w10⟩, k4, eh⟩ := map_some eh
            cases eh
            refine he _ _ _ _ _ _ _ (p9.step s9 o9) dy w9 k3 _ fun yv Hk10 H10 s10 o10 r10 => ?_
            have hD10 := s10.keep D _ fD hD9
            have hk10 := nk s10 (ne_none hD9) hk9
            have ra10 := ra9.mono s10.k
            have hle : acc.length < sizeLine := by
              have := congrArg List.length em
              simp only [List.length_append, List.length_cons] at this
              omega
            refine ⟨us, hD10, by rw [ra7.length]; exact hle, hlt1, Hk10, w9, acc ++ [dy], us ++ [yv], rest2, (s19.trans s10).mut hD hk10 (ne_none hD10), x9.trans s10.k, ok_mut o10 fD (by rw [hD10]; simp), upd_same, hk10, ra10.snoc r10, k4, ?_⟩
            rw [List.append_assoc]
            exact em
          · rename_i hb1
            rw [if_neg hb1]
            exact ⟨hlt1, Hk9, w8, acc, us, rest1, s19, x9, o9, hD9, hk9, ra9, eh, em⟩
        · have ej : j = items1.length := by omega
          subst ej
          refine .inl ⟨W2.stop Hk7 H7 ⟨s7.g, x7⟩, ?_⟩
          rw [List.drop_length] at eh
          cases eh
          exact ⟨hlt, Hk7, w5, acc, us, rest', s7, o7, hD7, hk7, ra7, g5, em⟩
      · rename_i hb
        rw [if_neg hb]
        exact ⟨hlt, Hk5, w3, acc, us, rest, s15, o5, hD5, hk5, ra5, eg, el⟩
    · have ei : i = items.length := by omega
      subst ei
      refine .inl ⟨W1.stop Hk2 H2 s2, ?_⟩
      rw [List.drop_length] at eg
      cases eg
      rw [List.append_nil] at el
      subst el
      exact q D us Hk2 H2 (s1.trans s2) o2 hD0 hkD hD2 ra
  · cases e
theorem dl_lc2 {elt tg iter tg1 iter1 : Expr} {ifs ifs1 : List Expr} {scope : Scope} {own : List (Str × Nat)} {vs1 : List Nat} {pos : Pos} {wi wi1 : TI} {g g1 : TG} {tt tt1 : TT} {te : TE} {ι ι1 : AM c.Z.W} {γ γ1 : GM} {χ χ1 : TM c.Z.W} {φ : EM c.Z.W} {ts ts1 : List Nat} [hk : GKeep γ] (hc : X.calm = true) (hN : X.N.Nodup) (hi : DIc X c tg iter wi ι) (ok : BlkOk X.N X.env.scope scope own)
    (hg : ∀ (s : Shared) (H : Hp) (C : Addr) (cl : List (Str × Addr)) (fp : List Addr), DG (X.blk s H scope (compEnvC scope cl C X.env) fp) c tg g γ ts) (ht : ∀ (s : Shared) (H : Hp) (C : Addr) (cl : List (Str × Addr)) (fp : List Addr), DTs (X.blk s H scope (compEnvC scope cl C X.env) fp) c ifs tt χ)
    (hi1 : ∀ (s : Shared) (H : Hp) (C : Addr) (cl : List (Str × Addr)) (fp : List Addr), DI (X.blk s H scope (compEnvC scope cl C X.env) fp) c tg1 iter1 wi1 ι1)
    (hg1 : ∀ (s : Shared) (H : Hp) (C : Addr) (cl : List (Str × Addr)) (fp : List Addr), DG (X.blk s H scope (compEnvC scope cl C X.env) fp) c tg1 g1 γ1 ts1) (ht1 : ∀ (s : Shared) (H : Hp) (C : Addr) (cl : List (Str × Addr)) (fp : List Addr), DTs (X.blk s H scope (compEnvC scope cl C X.env) fp) c ifs1 tt1 χ1)
    (he : ∀ (s : Shared) (H : Hp) (C : Addr) (cl : List (Str × Addr)) (fp : List Addr), DE (X.blk s H scope (compEnvC scope cl C X.env) fp) c elt te φ) (hv : ∀ i ∈ vs1, i ∈ own.map (·.2) := by decide) (hts : ∀ i ∈ ts, i ∈ own.map (·.2) := by decide) (hts1 : ∀ i ∈ ts1, i ∈ vs1 := by decide) (hs : ∀ x, foldedSetIterable iter X.env x = pure x := by intro _; rfl) (hs1 : ∀ env x, foldedSetIterable iter1 env x = pure x := by intro _ _; rfl) :
    DL' X c (.ListComp elt [⟨tg, iter, ifs, 0⟩, ⟨tg1, iter1, ifs1, 0⟩] scope pos) (tLc2 wi g tt wi1 g1 tt1 te (own.map (·.2)) vs1) (lLc2 (own.map (·.2)) vs1 ι γ χ ι1 γ1 χ1 φ) :=
  ⟨pe_lc2 hc hN hi.p ok hv (fun s H C cl fp => (hg s H C cl fp).p) (fun s H C cl fp => (ht s H C cl fp).p) (fun s H C cl fp => (hi1 s H C cl fp).p) (fun s H C cl fp => (hg1 s H C cl fp).p) (fun s H C cl fp => (ht1 s H C cl fp).p) (fun s H C cl fp => (he s H C cl fp).p) hs hs1,
    lc2_ok hi.k (hg {} (fun _ => none) 0 [] []).k hk hts (ht {} (fun _ => none) 0 [] []).k (hi1 {} (fun _ => none) 0 [] []).k (hg1 {} (fun _ => none) 0 [] []).k hts1 (ht1 {} (fun _ => none) 0 [] []).k (he {} (fun _ => none) 0 [] []).k⟩
end
end DL
set_option Elab.async false
set_option linter.all false
set_option maxRecDepth 100000
set_option maxHeartbeats 4000000
/-! DLv: sorted of texts. -/
namespace DL
open PySem L2 Evl RZ PyProof.Rows
/-! ### the order of texts -/
def leS (x y : Str) : Bool := !Spec.ltCps y.cps.toList x.cps.toList
theorem leS_iff {x y : Str} : leS x y = true ↔ x.cps.toList ≤ y.cps.toList := by
  unfold leS
  rw [ltCps_eq, Bool.not_eq_true', decide_eq_false_iff_not]
  exact List.not_lt
theorem leS_total (x y : Str) : (leS x y || leS y x) = true := by
  rw [Bool.or_eq_true, leS_iff, leS_iff]
  exact List.le_total _ _
theorem leS_trans (x y z : Str) (h1 : leS x y = true) (h2 : leS y z = true) : leS x z = true := by
  rw [leS_iff] at *
  exact List.le_trans h1 h2
theorem leS_anti {x y : Str} (h1 : leS x y = true) (h2 : leS y x = true) : x = y := by
  rw [leS_iff] at *
  have := List.le_antisymm h1 h2
  cases x with
  | mk a => cases y with
    | mk b => exact congrArg Str.mk (Array.toList_inj.mp this)
def insS (x : Str) : List Str → List Str
  | [] => [x]
  | y :: r => if leS x y then x :: y :: r else y :: insS x r
def sortS : List Str → List Str
  | [] => []
  | x :: r => insS x (sortS r)
theorem insS_perm (x : Str) : ∀ l, (insS x l).Perm (x :: l)
  | [] => .refl _
  | y :: r => by
    unfold insS
    split
    · exact .refl _
    · exact ((insS_perm x r).cons y).trans (.swap x y r)
theorem sortS_perm : ∀ l, (sortS l).Perm l
  | [] => .refl _
  | x :: r => (insS_perm x _).trans ((sortS_perm r).cons x)
theorem insS_pw (x : Str) : ∀ l : List Str, l.Pairwise (fun a b => leS a b = true) → (insS x l).Pairwise (fun a b => leS a b = true)
  | [], _ => List.pairwise_singleton _ _
  | y :: r, h => by
    unfold insS
    split
    · rename_i e
      refine List.pairwise_cons.mpr ⟨fun z hz => ?_, h⟩
      rcases List.mem_cons.mp hz with q | q
      · rw [q]; exact e
      · exact leS_trans _ _ _ e ((List.pairwise_cons.mp h).1 z q)
    · rename_i e
      have e' : leS y x = true := by
        have := leS_total x y
        rw [Bool.or_eq_true] at this
        exact this.resolve_left e
      refine List.pairwise_cons.mpr ⟨fun z hz => ?_, insS_pw x r (List.pairwise_cons.mp h).2⟩
      rcases List.mem_cons.mp ((insS_perm x r).mem_iff.mp hz) with q | q
      · rw [q]; exact e'
      · exact (List.pairwise_cons.mp h).1 z q
theorem sortS_pw : ∀ l : List Str, (sortS l).Pairwise (fun a b => leS a b = true)
  | [] => List.Pairwise.nil
  | x :: r => insS_pw x _ (sortS_pw r)
theorem pw_unique : ∀ {l m : List Str}, l.Pairwise (fun a b => leS a b = true) → m.Pairwise (fun a b => leS a b = true) → l.Perm m → l = m
  | [], m, _, _, p => (List.nil_perm.mp p).symm
  | x :: r, [], _, _, p => by have := p.length_eq; simp at this
  | x :: r, y :: t, h1, h2, p => by
    have hx := List.mem_cons.mp (p.mem_iff.mp (List.mem_cons_self (a := x) (l := r)))
    have hy := List.mem_cons.mp (p.mem_iff.mpr (List.mem_cons_self (a := y) (l := t)))
    have e : x = y := by
      rcases hx with q | q
      · exact q
      · rcases hy with q2 | q2
        · exact q2.symm
        · exact leS_anti ((List.pairwise_cons.mp h1).1 y q2) ((List.pairwise_cons.mp h2).1 x q)
    subst e
    rw [pw_unique (List.pairwise_cons.mp h1).2 (List.pairwise_cons.mp h2).2 ((List.perm_cons x).mp p)]
theorem pw_of_rising : ∀ (r : List Str) (p : Str), risingS p r = true → (p :: r).Pairwise (fun a b => leS a b = true)
  | [], p, _ => List.pairwise_singleton _ _
  | x :: r, p, h => by
    unfold risingS at h
    rw [Bool.and_eq_true] at h
    have ih := pw_of_rising r x h.2
    have e : leS p x = true := h.1
    refine List.pairwise_cons.mpr ⟨fun z hz => ?_, ih⟩
    rcases List.mem_cons.mp hz with q | q
    · rw [q]; exact e
    · exact leS_trans _ _ _ e ((List.pairwise_cons.mp ih).1 z q)
theorem sortS_of {xs ys : List Str} (p : ys.Perm xs) (h : sortedS ys = true) : ys = sortS xs := by
  refine pw_unique ?_ (sortS_pw xs) (p.trans (sortS_perm xs).symm)
  cases ys with
  | nil => exact List.Pairwise.nil
  | cons x r => exact pw_of_rising r x h
/-! ### sorted -/
theorem repl_strs {T : CT} {H : Hp} : ∀ xs : List Str, RepL T H (xs.map D.str) (xs.map V.str)
  | [] => rfl
  | x :: r => ⟨_, _, rfl, rfl, repl_strs r⟩
def lSorted : List D → Option (List D)
  | [.lst l] => (asStrs l).bind fun xs => if xs.length < 64 then some ((sortS xs).map .str) else none
  | _ => none
section
variable {X : Cx} {c : Cfg}
theorem rc_sorted : RCL c (rSortedS c.T.K) lSorted := by
  intro Hk H vs ds d gd r e Q q
  unfold lSorted at e
  split at e
  · obtain ⟨xs, e1, e⟩ := bind_some e
    split at e
    · rename_i h64
      cases e
      obtain ⟨v, ev, a, us, ea, h, rl⟩ := r.one
      subst ev ea
      have := strs_eq e1
      subst this
      have := reps_str rl
      subst this
      refine ⟨a, xs, rfl, SqL.of (gd.e _ _ h), h64, fun ys p hp hs h0 => ?_⟩
      have := sortS_of hp hs
      subst this
      exact q p _ Hk _ (StpP.own gd h0) h0 (hk_none gd h0) upd_same (repl_strs _)
    · cases e
  · cases e
end
end DL
set_option Elab.async false
set_option linter.all false
set_option maxRecDepth 100000
set_option maxHeartbeats 2000000
/-! ListZip: list(zip(a, b)), a and b lists or tuples. -/
namespace LZ
open PySem PySem.Calls PySem.Spec PyProof.Rows L2
open Sem (wp)
open PySem.W (kdx_alive)
section
variable {prog : Program} {w : World} {A : Around} {E : Value → Shared → Prop} {s : Shared} {z TI TO i1 i2 : Addr} {fp1 fp2 : List Addr} {n1 n2 i : Nat} {P1 P2 : Nat → Value → Prop} {St1 St2 : Nat → Heap → Prop} {a1 a2 : Value}
theorem next_item_held {T : Addr} {f : Bool} {oT : Obj} {Q : Value → Shared → Prop} (S : ZipSep2 z TI TO i1 i2 fp1 fp2) (D1 : Draws prog w A i1 fp1 n1 P1 St1) (D2 : Draws prog w A i2 fp2 n2 P2 St2)
    (hz : IsZipHeld s.heap z TI TO T f) (hT : s.heap.get? T = some oT) (hTI : IsTupOf2 s.heap TI (.ref i1) (.ref i2)) (st1 : St1 i s.heap) (st2 : St2 i s.heap) (hlt1 : i < n1) (hlt2 : i < n2)
    (hQ : ∀ x1 x2 h' tk, P1 i x1 → P2 i x2 → IsZipHeld h' z TI TO T true → St1 (i + 1) h' → St2 (i + 1) h' → IsTupOf2 h' s.heap.objs.size x1 x2 → h'.objs.size = s.heap.objs.size + 1 →
      (∀ c o, c ≠ z → c ≠ i1 → c ≠ i2 → s.heap.get? c = some o → h'.get? c = some o) → Q (.ref s.heap.objs.size) { s with heap := h', toks := tk }) :
    wpAny (model prog w) A (Builtin.«zip.__next__» ⟨[.ref z], []⟩) (fun fin s' => ∃ v, fin = .done (.ret v) ∧ Q v s') E s := by
  obtain ⟨hp, g, d, tk0, os⟩ := s
  show wpAny _ _ (field (.ref z) 2 >>= _) _ _ _
  refine wpAny_bind (wpAny_field hz rfl (x := .bool false) rfl ?_)
  show wpAny _ _ (field (.ref z) 3 >>= _) _ _ _
  refine wpAny_bind (wpAny_field hz rfl (x := .ref TI) rfl ?_)
  refine wpAny_bind (wpAny_seqItems hTI rfl ?_)
  show wpAny _ _ (Builtin.SmallTypes.ownedTupleIsFree (.ref z) >>= _) _ _ _
  refine wpAny_bind (wpAny_tupleHeld_zip hz hT fun h₁ hz₁ hs₁ => ?_)
  replace hs₁ : Heap.SameBut z hp h₁ := hs₁
  simp only [Bool.false_eq_true, if_false]
  refine wpAny_bind ?_
  rw [← Array.forIn_toList]
  simp only [List.forIn_cons, List.forIn_nil]
  refine wpAny_bind (wpAny_bind (wpAny_holding ?_))
  show wpAny _ _ (Builtin.SmallTypes.nextOf (.ref i1) >>= _) _ _ _
  refine wpAny_bind (D1.item i ⟨h₁, g, d, tk0, os⟩ _ _ hlt1 (D1.over st1 hs₁ S.zf1) fun x h₂ tk2 px st1' hs₂ => wpAny_pure ?_)
  replace hs₂ : Heap.SameBut i1 h₁ h₂ := hs₂
  refine wpAny_pure ?_
  refine wpAny_bind (wpAny_bind (wpAny_holding ?_))
  show wpAny _ _ (Builtin.SmallTypes.nextOf (.ref i2) >>= _) _ _ _
  refine wpAny_bind (D2.item i ⟨h₂, g, d, tk2, os⟩ _ _ hlt2 (D2.over (D2.over st2 hs₁ S.zf2) hs₂ S.sep1_2) fun y h₃ tk3 py st2' hs₃ => wpAny_pure ?_)
  replace hs₃ : Heap.SameBut i2 h₂ h₃ := hs₃
  refine wpAny_pure (wpAny_pure ?_)
  show wpAny _ _ (newTuple [x, y] >>= _) _ _ _
  refine wpAny_bind (wpAny_newTuple ?_)
  have hsz : h₃.objs.size = hp.objs.size := by rw [hs₃.1, hs₂.1, hs₁.1]
  have hz₃ : IsZipHeld h₃ z TI TO T true := hs₃.extBut _ _ S.zi2 (hs₂.extBut _ _ S.zi1 hz₁)
  have hk : ∀ c o, c ≠ z → c ≠ i1 → c ≠ i2 → hp.get? c = some o → h₃.get? c = some o := fun c o c1 c2 c3 e => hs₃.extBut _ _ c3 (hs₂.extBut _ _ c2 (hs₁.extBut _ _ c1 e))
  have st1₃ : St1 (i + 1) h₃ := D1.over st1' hs₃ S.sep2_1
  refine wpAny_pure ⟨_, rfl, ?_⟩
  show Q (.ref h₃.objs.size) _
  have hp' : IsTupOf2 (h₃.push { cls := .type "tuple", data := .seq #[x, y] }) h₃.objs.size x y := Heap.get?_push_size _ rfl
  have hz4 : (h₃.push { cls := .type "tuple", data := .seq #[x, y] }).objs.size = h₃.objs.size + 1 := Heap.size_push ..
  rw [hsz] at hp' hz4 ⊢
  exact hQ x y _ tk3 px py (Heap.get?_push_of_some _ hz₃) (D1.frame _ _ _ st1₃ fun b _ o e => Heap.get?_push_of_some _ e) (D2.frame _ _ _ st2' fun b _ o e => Heap.get?_push_of_some _ e) hp' hz4 fun c o c1 c2 c3 e => Heap.get?_push_of_some _ (hk c o c1 c2 c3 e)
theorem next_end_held {T : Addr} {f : Bool} {oT : Obj} {Q : Fin → Shared → Prop} (S : ZipSep2 z TI TO i1 i2 fp1 fp2) (D1 : Draws prog w A i1 fp1 n1 P1 St1) (D2 : Draws prog w A i2 fp2 n2 P2 St2)
    (hz : IsZipHeld s.heap z TI TO T f) (hT : s.heap.get? T = some oT) (hTI : IsTupOf2 s.heap TI (.ref i1) (.ref i2)) (st1 : St1 i s.heap) (st2 : St2 i s.heap) (hle1 : i ≤ n1) (hle2 : i ≤ n2) (hend : i = n1 ∨ i = n2)
    (hE : ∀ h' tk e, (∀ c o, c ≠ z → c ≠ i1 → c ≠ i2 → s.heap.get? c = some o → h'.get? c = some o) → (∃ o, h'.get? e = some o ∧ o.cls = .type "StopIteration") → E (.ref e) { s with heap := h', toks := tk }) :
    wpAny (model prog w) A (Builtin.«zip.__next__» ⟨[.ref z], []⟩) Q E s := by
  obtain ⟨hp, g, d, tk0, os⟩ := s
  show wpAny _ _ (field (.ref z) 2 >>= _) _ _ _
  refine wpAny_bind (wpAny_field hz rfl (x := .bool false) rfl ?_)
  show wpAny _ _ (field (.ref z) 3 >>= _) _ _ _
  refine wpAny_bind (wpAny_field hz rfl (x := .ref TI) rfl ?_)
  refine wpAny_bind (wpAny_seqItems hTI rfl ?_)
  show wpAny _ _ (Builtin.SmallTypes.ownedTupleIsFree (.ref z) >>= _) _ _ _
  refine wpAny_bind (wpAny_tupleHeld_zip hz hT fun h₁ hz₁ hs₁ => ?_)
  replace hs₁ : Heap.SameBut z hp h₁ := hs₁
  simp only [Bool.false_eq_true, if_false]
  refine wpAny_bind ?_
  rw [← Array.forIn_toList]
  simp only [List.forIn_cons, List.forIn_nil]
  refine wpAny_bind (wpAny_bind (wpAny_holding ?_))
  show wpAny _ _ (Builtin.SmallTypes.nextOf (.ref i1) >>= _) _ _ _
  by_cases h1 : i = n1
  · subst h1
    refine wpAny_bind (D1.done ⟨h₁, g, d, tk0, os⟩ _ _ (D1.over st1 hs₁ S.zf1) fun h₂ e hs₂ he => ?_)
    exact hE h₂ tk0 e (fun c o c1 c2 _ x => hs₂ _ _ c2 (hs₁.extBut _ _ c1 x)) he
  · have h2 : i = n2 := hend.resolve_left h1
    refine wpAny_bind (D1.item i ⟨h₁, g, d, tk0, os⟩ _ _ (by omega) (D1.over st1 hs₁ S.zf1) fun x h₂ tk2 px st1' hs₂ => wpAny_pure ?_)
    replace hs₂ : Heap.SameBut i1 h₁ h₂ := hs₂
    refine wpAny_pure ?_
    refine wpAny_bind (wpAny_bind (wpAny_holding ?_))
    show wpAny _ _ (Builtin.SmallTypes.nextOf (.ref i2) >>= _) _ _ _
    subst h2
    refine wpAny_bind (D2.done ⟨h₂, g, d, tk2, os⟩ _ _ (D2.over (D2.over st2 hs₁ S.zf2) hs₂ S.sep1_2) fun h₃ e hs₃ he => ?_)
    exact hE h₃ tk2 e (fun c o c1 c2 c3 x => hs₃ _ _ c3 (hs₂.extBut _ _ c2 (hs₁.extBut _ _ c1 x))) he
/-- the zip behind i pairs; the last one is still there -/
def ZS (z TI TO i1 i2 S : Addr) (St1 St2 : Nat → Heap → Prop) (i : Nat) (h : Heap) : Prop := IsTupOf2 h TI (.ref i1) (.ref i2) ∧ St1 i h ∧ St2 i h ∧
  ((IsZip h z TI TO .none ∧ ∃ a b, IsTupOf2 h TO a b) ∨ ∃ T f oT, IsZipHeld h z TI TO T f ∧ h.get? T = some oT ∧ T ≠ z ∧ T ≠ i1 ∧ T ≠ i2 ∧ T ≠ S)
theorem ZS.over {S : Addr} {h h' : Heap} (sp : ZipSep2 z TI TO i1 i2 fp1 fp2) (D1 : Draws prog w A i1 fp1 n1 P1 St1) (D2 : Draws prog w A i2 fp2 n2 P2 St2) (x : ZS z TI TO i1 i2 S St1 St2 i h) (hS : S ∉ [z, TI, TO, i1, i2] ++ (fp1 ++ fp2)) (hk : ∀ b o, b ≠ S → h.get? b = some o → h'.get? b = some o) : ZS z TI TO i1 i2 S St1 St2 i h' := by
  have ne : ∀ {b}, b ∈ [z, TI, TO, i1, i2] ++ (fp1 ++ fp2) → b ≠ S := fun hb e => hS (e ▸ hb)
  obtain ⟨h1, h2, h3, h4⟩ := x
  refine ⟨hk _ _ (ne (by simp)) h1, D1.frame _ _ _ h2 fun b hb o e => hk b o (ne (by simp [hb])) e, D2.frame _ _ _ h3 fun b hb o e => hk b o (ne (by simp [hb])) e, ?_⟩
  rcases h4 with ⟨hz, a, b, hTO⟩ | ⟨T, f, oT, hz, hT, r1, r2, r3, r4⟩
  · exact .inl ⟨hk _ _ (ne (by simp)) hz, a, b, hk _ _ (ne (by simp)) hTO⟩
  · exact .inr ⟨T, f, oT, hk _ _ (ne (by simp)) hz, hk _ _ r4 hT, r1, r2, r3, r4⟩
theorem zs_item {Sl : Addr} {Q : Option Value → Shared → Prop} (S : ZipSep2 z TI TO i1 i2 fp1 fp2) (D1 : Draws prog w A.in1 i1 fp1 n1 P1 St1) (D2 : Draws prog w A.in1 i2 fp2 n2 P2 St2)
    (st : ZS z TI TO i1 i2 Sl St1 St2 i s.heap) (hS : Sl < s.heap.objs.size) (hlt1 : i < n1) (hlt2 : i < n2)
    (hQ : ∀ x1 x2 h' tk, P1 i x1 → P2 i x2 → ZS z TI TO i1 i2 Sl St1 St2 (i + 1) h' → IsTupOf2 h' s.heap.objs.size x1 x2 → h'.objs.size = s.heap.objs.size + 1 →
      (∀ c o, c ≠ z → c ≠ TO → c ≠ i1 → c ≠ i2 → s.heap.get? c = some o → h'.get? c = some o) → Q (some (.ref s.heap.objs.size)) { s with heap := h', toks := tk }) :
    wpAny (model prog w) A (pyNext (.ref z)) Q E s := by
  obtain ⟨hTI, st1, st2, hz⟩ := st
  have lt : ∀ {c o}, s.heap.get? c = some o → s.heap.objs.size ≠ c := fun e => Nat.ne_of_gt (Heap.lt_size e)
  have l1 : s.heap.objs.size ≠ i1 := by obtain ⟨_, e⟩ := D1.live _ _ st1; exact lt e
  have l2 : s.heap.objs.size ≠ i2 := by obtain ⟨_, e⟩ := D2.live _ _ st2; exact lt e
  rcases hz with ⟨hz, a, b, hTO⟩ | ⟨T, f, oT, hz, hT, r1, r2, r3, r4⟩
  · refine wpAny_pyNext_zipD2_item S D1 D2 hz hTI hTO st1 st2 hlt1 hlt2 fun x1 x2 h' tk y1 y2 b1 b2 d1 d2 b5 b6 hk => ?_
    exact hQ x1 x2 h' tk y1 y2 ⟨hk _ _ S.TIz S.TITO S.TIi1 S.TIi2 hTI, d1, d2, .inr ⟨_, false, _, b1, b5, lt hz, l1, l2, Nat.ne_of_gt hS⟩⟩ b5 b6 hk
  · have hTy : s.TypeIs (.ref z) "zip" := ⟨_, hz, rfl⟩
    unfold pyNext
    exact wpAny_bind (wpAny_attempt (wpAny_callSpecial?_slot (name := Str.ofString "__next__") hTy F.slot_zip_next
      (wpAny_call_entry F.slot_zip_next hTy F.entry_zip_next
        (next_item_held S D1 D2 hz hT hTI st1 st2 hlt1 hlt2 fun x1 x2 h' tk y1 y2 b1 d1 d2 b5 b6 hk => wpAny_pure (hQ x1 x2 h' tk y1 y2 ⟨hk _ _ S.TIz S.TIi1 S.TIi2 hTI, d1, d2, .inr ⟨T, true, oT, b1, hk _ _ r1 r2 r3 hT, r1, r2, r3, r4⟩⟩ b5 b6 fun c o c1 _ c3 c4 e => hk c o c1 c3 c4 e)) (F.args_zip_next_1 _))))
theorem zs_done {Sl : Addr} {Q : Option Value → Shared → Prop} (S : ZipSep2 z TI TO i1 i2 fp1 fp2) (D1 : Draws prog w A.in1 i1 fp1 n1 P1 St1) (D2 : Draws prog w A.in1 i2 fp2 n2 P2 St2)
    (st : ZS z TI TO i1 i2 Sl St1 St2 i s.heap) (hle1 : i ≤ n1) (hle2 : i ≤ n2) (hend : i = n1 ∨ i = n2)
    (hQ : ∀ h' tk, (∀ c o, c ≠ z → c ≠ TO → c ≠ i1 → c ≠ i2 → s.heap.get? c = some o → h'.get? c = some o) → Q none { s with heap := h', toks := tk }) :
    wpAny (model prog w) A (pyNext (.ref z)) Q E s := by
  obtain ⟨hTI, st1, st2, hz⟩ := st
  rcases hz with ⟨hz, a, b, hTO⟩ | ⟨T, f, oT, hz, hT, r1, r2, r3, r4⟩
  · exact wpAny_pyNext_zipD2_end S D1 D2 hz hTI hTO st1 st2 hle1 hle2 hend fun h' tk hk => hQ h' tk hk
  · have hTy : s.TypeIs (.ref z) "zip" := ⟨_, hz, rfl⟩
    unfold pyNext
    refine wpAny_bind (wpAny_attempt (wpAny_callSpecial?_slot (name := Str.ofString "__next__") hTy F.slot_zip_next
      (wpAny_call_entry F.slot_zip_next hTy F.entry_zip_next (next_end_held S D1 D2 hz hT hTI st1 st2 hle1 hle2 hend fun h' tk e hk he => ?_) (F.args_zip_next_1 _))))
    obtain ⟨o, ho, hc⟩ := he
    refine wpAny_bind (wpAny_isInstance (T := "StopIteration") (b := true) ⟨o, ho, hc⟩ isSubtype_stop ?_)
    exact wpAny_pure (hQ _ _ fun c o c1 _ c3 c4 e => hk c o c1 c3 c4 e)
end
/-- the pairs at these places -/
structure ZG (P1 P2 : Nat → Value → Prop) (lo : Addr) (h : Heap) (as : List Addr) : Prop where
  rise : as.Pairwise (· < ·)
  above : ∀ a ∈ as, lo < a
  pairs : ∀ (j : Nat) (a : Addr), as[j]? = some a → ∃ x y, P1 j x ∧ P2 j y ∧ h.get? a = some { cls := .type "tuple", data := .seq #[x, y] }
theorem ZG.there {P1 P2 : Nat → Value → Prop} {lo : Addr} {h : Heap} {as : List Addr} (g : ZG P1 P2 lo h as) {a : Addr} (ha : a ∈ as) : a < h.objs.size := by
  obtain ⟨j, hj⟩ := List.mem_iff_getElem?.mp ha
  obtain ⟨_, _, _, _, e⟩ := g.pairs j a hj
  exact Heap.lt_size e
section
variable {prog : Program} {w : World} {A : Around} {s : Shared} {R : Result → Shared → Prop} {z TI TO i1 i2 : Addr} {fp1 fp2 : List Addr} {n1 n2 : Nat} {P1 P2 : Nat → Value → Prop} {St1 St2 : Nat → Heap → Prop}
theorem zip_loop {S : Addr} (sp : ZipSep2 z TI TO i1 i2 fp1 fp2) (D1 : Draws prog w A.in1.in1 i1 fp1 n1 P1 St1) (D2 : Draws prog w A.in1.in1 i2 fp2 n2 P2 St2) (hSf : S ∉ [z, TI, TO, i1, i2] ++ (fp1 ++ fp2)) (hn : min n1 n2 ≤ sizeLine) (res : Value) {h₁ : Heap} {lo : Addr} (hlo : ∀ c ∈ [S, z, TO, i1, i2], c ≤ lo)
    (hR : ∀ h' tk acc c as, (∀ b o, b ≠ S → b ∉ [z, TO, i1, i2] → h₁.get? b = some o → h'.get? b = some o) → h'.get? S = some { cls := .type "list", dict := none, data := .seq acc c, slots := #[] } → as.length = min n1 n2 → ZG P1 P2 lo h' as →
      acc.toList = as.map Value.ref → R (.ok (.ret res)) { s with heap := h', toks := tk }) :
    ∀ (k i : Nat) (h : Heap) (tk c : Nat) (acc : Array Value) (as : List Addr), min n1 n2 - i = k → i ≤ min n1 n2 → ZS z TI TO i1 i2 S St1 St2 i h → (∀ b o, b ≠ S → b ∉ [z, TO, i1, i2] → h₁.get? b = some o → h.get? b = some o) →
      h.get? S = some { cls := .type "list", dict := none, data := .seq acc c, slots := #[] } → acc.toList = as.map Value.ref → as.length = i → ZG P1 P2 lo h as → lo < h.objs.size →
      codeAny (model prog w) A (.builtin "list.extend.loop" ⟨[.ref S, .ref z, res], []⟩) R { s with heap := h, toks := tk } := by
  have hSn : ∀ {c}, c ∈ [z, TI, TO, i1, i2] ++ (fp1 ++ fp2) → c ≠ S := fun hc e => hSf (e ▸ hc)
  have hS4 : S ∉ [z, TO, i1, i2] := fun hc => hSf (by simp at hc ⊢; rcases hc with e | e | e | e <;> simp [e])
  have n4 : ∀ {b : Addr}, b ∉ [z, TO, i1, i2] → b ≠ z ∧ b ≠ TO ∧ b ≠ i1 ∧ b ≠ i2 := fun hb => by simpa using hb
  intro k
  induction k with
  | zero =>
    intro i h tk c acc as hk hi hst hkeep hS hacc hal hG hIs
    have hin : i = min n1 n2 := by omega
    refine codeAny_builtin PySem.F.entry_extend_loop ?_
    rw [Around.under_plainId PySem.F.plain_extend_loop _]
    show wpAny _ A.in1 (pyNext (.ref z) >>= _) _ _ _
    refine wpAny_bind (zs_done (s := { s with heap := h, toks := tk }) (A := A.in1) sp D1 D2 hst (by omega) (by omega) (by omega) fun h' tk' he => ?_)
    have he' : ∀ b o, b ∉ [z, TO, i1, i2] → h.get? b = some o → h'.get? b = some o := fun b o hb e => he b o (n4 hb).1 (n4 hb).2.1 (n4 hb).2.2.1 (n4 hb).2.2.2 e
    refine wpAny_pure (hR h' tk' acc c as (fun b o h1 h2 e => he' b o h2 (hkeep b o h1 h2 e)) (he' S _ hS4 hS) (by omega) ⟨hG.rise, hG.above, fun j a hj => ?_⟩ hacc)
    obtain ⟨x, y, e1, e2, e3⟩ := hG.pairs j a hj
    refine ⟨x, y, e1, e2, he' a _ (fun hc => ?_) e3⟩
    have h1 := hG.above a (List.mem_of_getElem? hj)
    have h2 := hlo a (by simp only [List.mem_cons] at hc ⊢; exact .inr hc)
    exact absurd h1 (Nat.not_lt.mpr h2)
  | succ k ih =>
    intro i h tk c acc as hk hi hst hkeep hS hacc hal hG hIs
    have hlt : i < min n1 n2 := by omega
    have hsz : acc.size = i := by rw [← Array.length_toList, hacc, List.length_map, hal]
    refine codeAny_builtin PySem.F.entry_extend_loop ?_
    rw [Around.under_plainId PySem.F.plain_extend_loop _]
    show wpAny _ A.in1 (pyNext (.ref z) >>= _) _ _ _
    refine wpAny_bind (zs_item (s := { s with heap := h, toks := tk }) (A := A.in1) (Sl := S) sp D1 D2 hst (Heap.lt_size hS) (by omega) (by omega) fun x y h' tk' px py hst' ht hz hkp => ?_)
    dsimp only at ht hz hkp ⊢
    have hkp' : ∀ b o, b ∉ [z, TO, i1, i2] → h.get? b = some o → h'.get? b = some o := fun b o hb e => hkp b o (n4 hb).1 (n4 hb).2.1 (n4 hb).2.2.1 (n4 hb).2.2.2 e
    have hS' := hkp' S _ hS4 hS
    have up : ∀ b o, b ≠ S → h'.get? b = some o → (h'.update S (Obj.mapSeq (·.push (Value.ref h.objs.size)))).get? b = some o := fun b o hb e => (Heap.get?_update_other _ _ (Ne.symm hb)).trans e
    have hSl : S < h.objs.size := Heap.lt_size hS
    show wpAny _ A.in1 (updateSeq S (·.push (Value.ref h.objs.size)) >>= _) _ _ _
    refine wpAny_bind ?_
    refine wpAny_updateSeq hS' rfl (wpAny_pure ⟨plainId_quiet PySem.F.plain_extend_loop _, ih (i + 1) _ tk' _ (acc.push (Value.ref h.objs.size)) (as ++ [h.objs.size]) (by omega) hlt (hst'.over sp D1 D2 hSf up)
      (fun b o h1 h2 e => up b o h1 (hkp' b o h2 (hkeep b o h1 h2 e))) (Heap.get?_update_self _ hS' rfl) (by rw [Array.toList_push, hacc, List.map_append]; rfl) (by rw [List.length_append, hal]; rfl) ⟨?_, ?_, ?_⟩ ?_⟩) (by rw [hsz]; omega) (by show (acc.push (Value.ref h.objs.size)).size ≤ sizeLine + 1; rw [Array.size_push, hsz]; omega)
    · refine List.pairwise_append.mpr ⟨hG.rise, List.pairwise_singleton _ _, fun a ha b hb => ?_⟩
      rw [List.mem_singleton.mp hb]
      exact hG.there ha
    · intro a ha
      rcases List.mem_append.mp ha with ha | ha
      · exact hG.above a ha
      · rw [List.mem_singleton.mp ha]; exact hIs
    · intro j b hj
      rcases Nat.lt_trichotomy j as.length with h1 | h1 | h1
      · rw [List.getElem?_append_left h1] at hj
        obtain ⟨x', y', e1, e2, e3⟩ := hG.pairs j b hj
        have hb := hG.above b (List.mem_of_getElem? hj)
        have nb : b ∉ [S, z, TO, i1, i2] := fun hc => absurd hb (Nat.not_lt.mpr (hlo b hc))
        have nb' : b ≠ S ∧ b ∉ [z, TO, i1, i2] := by rw [List.mem_cons, not_or] at nb; exact nb
        exact ⟨x', y', e1, e2, up b _ nb'.1 (hkp' b _ nb'.2 e3)⟩
      · subst h1
        have hb : h.objs.size = b := by simpa using hj
        subst hb
        exact ⟨x, y, by rw [hal]; exact px, by rw [hal]; exact py, up _ _ (Nat.ne_of_gt hSl) ht⟩
      · have hnone : (as ++ [h.objs.size])[j]? = none := List.getElem?_eq_none (by rw [List.length_append, List.length_singleton]; omega)
        rw [hnone] at hj; cases hj
    · have e : (h'.update S (Obj.mapSeq (·.push (Value.ref h.objs.size)))).get? h.objs.size = _ := up _ _ (Nat.ne_of_gt hSl) ht
      exact Nat.lt_trans hIs (Heap.lt_size e)
end
theorem zip_no_len : typeLookup (.type "zip") "__len__" = pure none := am_miss_of_fast (by decide +kernel)
theorem zip_no_hint : typeLookup (.type "zip") "__length_hint__" = pure none := am_miss_of_fast (by decide +kernel)
section
variable {prog : Program} {w : World} {A : Around} {E : Value → Shared → Prop} {s : Shared} {z TI TO i1 i2 : Addr} {fp1 fp2 : List Addr} {n1 n2 : Nat} {P1 P2 : Nat → Value → Prop} {St1 St2 : Nat → Heap → Prop}
theorem list_call {Q : Value → Shared → Prop} (sp : ZipSep2 z TI TO i1 i2 fp1 fp2) (D1 : Draws prog w A.in1.in1.in1 i1 fp1 n1 P1 St1) (D2 : Draws prog w A.in1.in1.in1 i2 fp2 n2 P2 St2) (hn : min n1 n2 ≤ sizeLine)
    (hz : IsZip s.heap z TI TO .none) (hTI : IsTupOf2 s.heap TI (.ref i1) (.ref i2)) {a b : Value} (hTO : IsTupOf2 s.heap TO a b) (st1 : St1 0 s.heap) (st2 : St2 0 s.heap) (hf : ∀ c ∈ [z, TI, TO, i1, i2] ++ (fp1 ++ fp2), c < s.heap.objs.size)
    (hQ : ∀ h' tk acc c as, (∀ b o, b ∉ [z, TO, i1, i2] → s.heap.get? b = some o → h'.get? b = some o) → h'.get? s.heap.objs.size = some { cls := .type "list", dict := none, data := .seq acc c, slots := #[] } → as.length = min n1 n2 → ZG P1 P2 s.heap.objs.size h' as →
      acc.toList = as.map Value.ref → Q (.ref s.heap.objs.size) { s with heap := h', toks := tk }) :
    wpAny (model prog w) A (call (.type "list") [.ref z]) Q E s := by
  refine callType_codes (Q₁ := fun obj s₁ => obj = .ref s.heap.objs.size ∧ s₁ = { s with heap := s.heap.push { cls := .type "list", data := .seq #[] } }) PySem.F.called_list (PySem.F.typeCall_list_1 _) PySem.F.entry_list_init
    (code_list_new _ ⟨rfl, rfl⟩) fun obj s₁ h₁ => ?_
  obtain ⟨rfl, rfl⟩ := h₁
  have hS : (s.heap.push { cls := .type "list", data := .seq #[] }).get? s.heap.objs.size = some { cls := .type "list", data := .seq #[] } := Heap.get?_push_size _ rfl
  refine ⟨⟨_, hS, rfl⟩, PySem.F.args_list_init_2 _ _, ?_⟩
  show wpAny _ _ (do let old ← Builtin.List.listItems (.ref s.heap.objs.size); Builtin.List.listUpdate (.ref s.heap.objs.size) (fun _ => #[]); letGo old.toList.reverse; Builtin.List.listExtendWith (.ref s.heap.objs.size) (.ref z) .none) _ _ _
  refine wpAny_bind ?_
  unfold Builtin.List.listItems
  refine wpAny_bind (wpAny_seqItems hS rfl (wpAny_pure ?_))
  show wpAny _ _ (updateSeq s.heap.objs.size (fun _ => #[]) >>= fun _ => letGo (#[] : Array Value).toList.reverse >>= fun _ => Builtin.List.listExtendWith (.ref s.heap.objs.size) (.ref z) .none) _ _ _
  refine wpAny_bind (wpAny_updateSeq hS rfl ?_)
  have hS₂ := Heap.get?_update_self (Obj.mapSeq (fun _ => (#[] : Array Value))) hS rfl
  have hzS : s.heap.objs.size ≠ z := Nat.ne_of_gt (Heap.lt_size hz)
  have oth : ∀ b o, b ≠ s.heap.objs.size → s.heap.get? b = some o → ((s.heap.push { cls := .type "list", data := .seq #[] }).update s.heap.objs.size (Obj.mapSeq (fun _ => (#[] : Array Value)))).get? b = some o :=
    fun b o hb e => (Heap.get?_update_other _ _ (Ne.symm hb)).trans (Heap.get?_push_of_some _ e)
  refine wpAny_bind (wpAny_letGo ?_)
  generalize (s.heap.push { cls := .type "list", data := .seq #[] }).update s.heap.objs.size (Obj.mapSeq (fun _ => (#[] : Array Value))) = h₂ at hS₂ oth
  have hz₂ := oth _ _ (Ne.symm hzS) hz
  have hTy : Shared.TypeIs { s with heap := h₂ } (.ref z) "zip" := ⟨_, hz₂, rfl⟩
  unfold Builtin.List.listExtendWith
  refine wpAny_bind (wpAny_typeOf (T := "zip") hTy ?_)
  have h1 : Builtin.List.listSameRef (.ref s.heap.objs.size) (.ref z) = false := by simp [Builtin.List.listSameRef, hzS]
  have h2 : (Value.type "zip" == Value.type "list") = false := by decide
  have h3 : (Value.type "zip" == Value.type "tuple") = false := by decide
  simp only [h1, h2, h3, Bool.or_false, Bool.false_eq_true, if_false]
  refine wpAny_bind (wpAny_pyIter_zip hz₂ ?_)
  refine wpAny_bind (wpAny_holding ?_)
  unfold Builtin.List.listLengthHint
  refine wpAny_bind (wpAny_specialOf hTy zip_no_len ?_)
  show wpAny _ _ (specialOf (Value.ref z) (Str.ofString "__length_hint__") >>= _) _ _ _
  refine wpAny_bind (wpAny_specialOf hTy zip_no_hint ?_)
  refine wpAny_pure ?_
  show wpAny _ _ (rule "list.extend.makes-room" >>= fun _ => Builtin.List.listTouch (.ref s.heap.objs.size) >>= fun _ =>
    again (.builtin "list.extend.loop" ⟨[.ref s.heap.objs.size, .ref z, .none], []⟩)) _ _ _
  refine wpAny_bind (wpAny_rule ?_)
  refine wpAny_bind ?_
  show wpAny _ _ (updateSeq s.heap.objs.size (·.push .none) >>= fun _ => updateSeq s.heap.objs.size (·.pop)) _ _ _
  refine wpAny_bind (wpAny_updateSeq hS₂ rfl ?_)
  have hS₃ := Heap.get?_update_self (Obj.mapSeq (·.push Value.none)) hS₂ rfl
  refine wpAny_updateSeq (hz := by seq_fits) hS₃ rfl ?_
  have hS₄ := Heap.get?_update_self (Obj.mapSeq (·.pop)) hS₃ rfl
  have oth2 : ∀ b o, b ≠ s.heap.objs.size → s.heap.get? b = some o → ((h₂.update s.heap.objs.size (Obj.mapSeq (·.push Value.none))).update s.heap.objs.size (Obj.mapSeq (·.pop))).get? b = some o :=
    fun b o hb e => (Heap.get?_update_other _ _ (Ne.symm hb)).trans ((Heap.get?_update_other _ _ (Ne.symm hb)).trans (oth b o hb e))
  have nS : ∀ {c}, c ∈ [z, TI, TO, i1, i2] ++ (fp1 ++ fp2) → c ≠ s.heap.objs.size := fun hc => Nat.ne_of_lt (hf _ hc)
  refine wpAny_pure ⟨plainId_quiet PySem.F.plain_extend_loop _, zip_loop (h₁ := s.heap) (lo := s.heap.objs.size) sp D1 D2 (fun hc => absurd rfl (nS hc)) hn .none ?_ (fun h' tk acc c as hk hS' hl hG hacc => ?_) (min n1 n2) 0 _ _ _ #[] [] rfl (Nat.zero_le _) ?_ (fun b o hb _ e => oth2 b o hb e) hS₄ rfl rfl
    ⟨List.Pairwise.nil, (fun _ ha => nomatch ha), (fun j a hj => by simp at hj)⟩ (Heap.lt_size hS₄)⟩
  · intro c hc
    rcases List.mem_cons.mp hc with e | hc
    · rw [e]; exact Nat.le_refl _
    · exact Nat.le_of_lt (hf c (by simp only [List.mem_append, List.mem_cons] at hc ⊢; rcases hc with e | e | e | e | e <;> simp [e] <;> simp at e))
  · exact ⟨rfl, hQ h' tk acc c as (fun b o hb e => hk b o (Nat.ne_of_lt (Heap.lt_size e)) hb e) hS' hl hG hacc⟩
  · exact ⟨oth2 _ _ (nS (by simp)) hTI, D1.frame _ _ _ st1 fun b hb o e => oth2 b o (nS (by simp [hb])) e, D2.frame _ _ _ st2 fun b hb o e => oth2 b o (nS (by simp [hb])) e, .inl ⟨oth2 _ _ (nS (by simp)) hz, a, b, oth2 _ _ (nS (by simp)) hTO⟩⟩
end
end LZ
set_option Elab.async false
set_option linter.all false
set_option maxRecDepth 100000
set_option maxHeartbeats 4000000
/-! DLw: list(zip(a, b)). -/
namespace LZ
open PySem PySem.Calls PySem.Spec PyProof.Rows L2
open Sem (wp)
/-! ### zip(a, b), one a list, one a tuple -/
def itC (k : Bool) : String := if k then "list_iterator" else "tuple_iterator"
def IsSq (k : Bool) (h : Heap) (l : Addr) (xs : Array Value) : Prop := match k with
  | true => h.IsList l xs
  | false => h.IsTuple l xs
def IsIt (k : Bool) (h : Heap) (i l : Addr) (n : Nat) : Prop := match k with
  | true => h.IsListIter i l n
  | false => h.IsTupleIter i l n
abbrev zH1 (c1 : String) (h : Heap) (l1 : Addr) : Heap := h.push { cls := .type c1, data := .fields #[.ref l1, .int 0 0] }
abbrev zH2 (c1 c2 : String) (h : Heap) (l1 l2 : Addr) : Heap := (zH1 c1 h l1).push { cls := .type c2, data := .fields #[.ref l2, .int 0 0] }
abbrev zH3 (c1 c2 : String) (h : Heap) (l1 l2 : Addr) : Heap := (zH2 c1 c2 h l1 l2).push { cls := .type "tuple", data := .seq #[.ref h.objs.size, .ref (zH1 c1 h l1).objs.size] }
abbrev zH4 (c1 c2 : String) (h : Heap) (l1 l2 : Addr) : Heap := (zH3 c1 c2 h l1 l2).push { cls := .type "tuple", data := .seq #[.none, .none] }
abbrev zH5 (c1 c2 : String) (h : Heap) (l1 l2 : Addr) : Heap := (zH4 c1 c2 h l1 l2).push { cls := .type "zip", data := .fields #[.none, .bool false, .bool false, .ref (zH2 c1 c2 h l1 l2).objs.size, .ref (zH3 c1 c2 h l1 l2).objs.size] }
theorem meets_LL (l1 l2 : Addr) (xs ys : Array Value) :
    Meets (Builtin.«zip.__new__» ⟨[.type "zip", .ref l1, .ref l2], []⟩) (fun _ R s => s.heap.IsList l1 xs ∧ s.heap.IsList l2 ys ∧
      R (.ok (.ret (.ref (zH4 "list_iterator" "list_iterator" s.heap l1 l2).objs.size))) { s with heap := zH5 "list_iterator" "list_iterator" s.heap l1 l2 }) := meets_zip_new l1 l2 xs ys
theorem meets_TT (l1 l2 : Addr) (xs ys : Array Value) :
    Meets (Builtin.«zip.__new__» ⟨[.type "zip", .ref l1, .ref l2], []⟩) (fun _ R s => s.heap.IsTuple l1 xs ∧ s.heap.IsTuple l2 ys ∧
      R (.ok (.ret (.ref (zH4 "tuple_iterator" "tuple_iterator" s.heap l1 l2).objs.size))) { s with heap := zH5 "tuple_iterator" "tuple_iterator" s.heap l1 l2 }) := RZ.meets_zipT_new l1 l2 xs ys
theorem meets_LT (l1 l2 : Addr) (xs ys : Array Value) :
    Meets (Builtin.«zip.__new__» ⟨[.type "zip", .ref l1, .ref l2], []⟩) (fun _ R s => s.heap.IsList l1 xs ∧ s.heap.IsTuple l2 ys ∧
      R (.ok (.ret (.ref (zH4 "list_iterator" "tuple_iterator" s.heap l1 l2).objs.size))) { s with heap := zH5 "list_iterator" "tuple_iterator" s.heap l1 l2 }) :=
  .of_wp fun prog w A R s h => by
    obtain ⟨hp, g, d, tk, os⟩ := s; obtain ⟨hl1, hl2, h⟩ := h
    have hsub := sub_zip
    have hL1 : Heap.IsList (Shared.heap ⟨hp, g, d, tk, os⟩) l1 xs := hl1
    have hL2 : Heap.IsTuple (Shared.heap ⟨hp.push { cls := .type "list_iterator", data := .fields #[.ref l1, .int 0 0] }, g, d, tk, os⟩) l2 ys := Heap.IsTuple.push hl2 _
    wp_walk using wpAny_pyIter_list hL1, wpAny_pyIter_tuple hL2
    exact ⟨_, rfl, h⟩
theorem meets_TL (l1 l2 : Addr) (xs ys : Array Value) :
    Meets (Builtin.«zip.__new__» ⟨[.type "zip", .ref l1, .ref l2], []⟩) (fun _ R s => s.heap.IsTuple l1 xs ∧ s.heap.IsList l2 ys ∧
      R (.ok (.ret (.ref (zH4 "tuple_iterator" "list_iterator" s.heap l1 l2).objs.size))) { s with heap := zH5 "tuple_iterator" "list_iterator" s.heap l1 l2 }) :=
  .of_wp fun prog w A R s h => by
    obtain ⟨hp, g, d, tk, os⟩ := s; obtain ⟨hl1, hl2, h⟩ := h
    have hsub := sub_zip
    have hL1 : Heap.IsTuple (Shared.heap ⟨hp, g, d, tk, os⟩) l1 xs := hl1
    have hL2 : Heap.IsList (Shared.heap ⟨hp.push { cls := .type "tuple_iterator", data := .fields #[.ref l1, .int 0 0] }, g, d, tk, os⟩) l2 ys := Heap.IsList.push hl2 _
    wp_walk using wpAny_pyIter_tuple hL1, wpAny_pyIter_list hL2
    exact ⟨_, rfl, h⟩
theorem meets_any (k1 k2 : Bool) (l1 l2 : Addr) (xs ys : Array Value) :
    Meets (Builtin.«zip.__new__» ⟨[.type "zip", .ref l1, .ref l2], []⟩) (fun _ R s => IsSq k1 s.heap l1 xs ∧ IsSq k2 s.heap l2 ys ∧
      R (.ok (.ret (.ref (zH4 (itC k1) (itC k2) s.heap l1 l2).objs.size))) { s with heap := zH5 (itC k1) (itC k2) s.heap l1 l2 }) := by
  cases k1 <;> cases k2
  · exact meets_TT l1 l2 xs ys
  · exact meets_TL l1 l2 xs ys
  · exact meets_LT l1 l2 xs ys
  · exact meets_LL l1 l2 xs ys
theorem isIt_of {k : Bool} {h : Heap} {i l : Addr} (g : h.get? i = some { cls := .type (itC k), data := .fields #[.ref l, .int 0 0] }) : IsIt k h i l 0 := by
  cases k
  · exact ⟨_, g, rfl, rfl⟩
  · exact ⟨_, g, rfl, rfl⟩
section
variable {prog : Program} {w : World} {A : Around} {E : Value → Shared → Prop} {s : Shared}
theorem call_zipK {k1 k2 : Bool} {l1 l2 : Addr} {xs ys : Array Value} {Q : Value → Shared → Prop} (hl1 : IsSq k1 s.heap l1 xs) (hl2 : IsSq k2 s.heap l2 ys)
    (h : ∀ h', IsZip h' (s.heap.objs.size + 4) (s.heap.objs.size + 2) (s.heap.objs.size + 3) .none → IsTupOf2 h' (s.heap.objs.size + 2) (.ref s.heap.objs.size) (.ref (s.heap.objs.size + 1)) →
      IsTupOf2 h' (s.heap.objs.size + 3) .none .none → IsIt k1 h' s.heap.objs.size l1 0 → IsIt k2 h' (s.heap.objs.size + 1) l2 0 → h'.objs.size = s.heap.objs.size + 5 →
      (∀ c o, s.heap.get? c = some o → h'.get? c = some o) → Q (.ref (s.heap.objs.size + 4)) { s with heap := h' }) :
    wpAny (model prog w) A (call (.type "zip") [.ref l1, .ref l2]) Q E s := by
  refine callType_new F.called_zip (by decide) (F.typeCall_zip_2 _ _) (F.newCall_zip_2 _ _) (fun obj => F.args_object_init_3 obj _ _) F.entry_zip_new
    (meets_any k1 k2 l1 l2 xs ys) ⟨hl1, hl2, ?_⟩
  have z1 : (zH1 (itC k1) s.heap l1).objs.size = s.heap.objs.size + 1 := Heap.size_push ..
  have z2 : (zH2 (itC k1) (itC k2) s.heap l1 l2).objs.size = s.heap.objs.size + 2 := by rw [Heap.size_push, z1]
  have z3 : (zH3 (itC k1) (itC k2) s.heap l1 l2).objs.size = s.heap.objs.size + 3 := by rw [Heap.size_push, z2]
  have z4 : (zH4 (itC k1) (itC k2) s.heap l1 l2).objs.size = s.heap.objs.size + 4 := by rw [Heap.size_push, z3]
  have z5 : (zH5 (itC k1) (itC k2) s.heap l1 l2).objs.size = s.heap.objs.size + 5 := by rw [Heap.size_push, z4]
  have g5 : (zH5 (itC k1) (itC k2) s.heap l1 l2).get? (zH4 (itC k1) (itC k2) s.heap l1 l2).objs.size = some _ := Heap.get?_push_size _ rfl
  have g4 : (zH5 (itC k1) (itC k2) s.heap l1 l2).get? (zH3 (itC k1) (itC k2) s.heap l1 l2).objs.size = some _ := Heap.get?_push_of_some _ (Heap.get?_push_size _ rfl)
  have g3 : (zH5 (itC k1) (itC k2) s.heap l1 l2).get? (zH2 (itC k1) (itC k2) s.heap l1 l2).objs.size = some _ := Heap.get?_push_of_some _ (Heap.get?_push_of_some _ (Heap.get?_push_size _ rfl))
  have g2 : (zH5 (itC k1) (itC k2) s.heap l1 l2).get? (zH1 (itC k1) s.heap l1).objs.size = some _ := Heap.get?_push_of_some _ (Heap.get?_push_of_some _ (Heap.get?_push_of_some _ (Heap.get?_push_size _ rfl)))
  have g1 : (zH5 (itC k1) (itC k2) s.heap l1 l2).get? s.heap.objs.size = some _ := Heap.get?_push_of_some _ (Heap.get?_push_of_some _ (Heap.get?_push_of_some _ (Heap.get?_push_of_some _ (Heap.get?_push_size _ rfl))))
  show _ ∧ _
  rw [z2, z3, z4] at g5
  rw [z1, z2] at g3
  rw [z3] at g4
  rw [z1] at g2
  rw [z4]
  exact ⟨⟨_, g5, rfl⟩, h _ g5 g3 g4 (isIt_of g1) (isIt_of g2) z5 fun c o x =>
    Heap.get?_push_of_some _ (Heap.get?_push_of_some _ (Heap.get?_push_of_some _ (Heap.get?_push_of_some _ (Heap.get?_push_of_some _ x))))⟩
theorem drawsK (hh : A.handled = none) (k : Bool) (it l : Addr) (hne : l ≠ it) (items : Array Value) : Draws prog w A it [it, l] items.size (fun i v => items[i]? = some v) (fun i h => IsIt k h it l i ∧ IsSq k h l items) := by
  cases k
  · exact Draws.tuple hh it l hne items
  · exact Draws.list hh it l hne items
end
theorem sep5 (N : Nat) (a b : Nat) (la : a < N) (lb : b < N) : ZipSep2 (N + 4) (N + 2) (N + 3) N (N + 1) [N, a] [N + 1, b] where
  TIz := fun h => by have h : N + 2 = N + 4 := h; omega
  TOz := fun h => by have h : N + 3 = N + 4 := h; omega
  TITO := fun h => by have h : N + 2 = N + 3 := h; omega
  TIi1 := fun h => by have h : N + 2 = N := h; omega
  mem1 := List.mem_cons_self
  zf1 := fun h => by
    rcases List.mem_cons.mp h with h | h
    · have h : N + 4 = N := h; omega
    · have h : N + 4 = a := List.mem_singleton.mp h; omega
  Tf1 := fun h => by
    rcases List.mem_cons.mp h with h | h
    · have h : N + 3 = N := h; omega
    · have h : N + 3 = a := List.mem_singleton.mp h; omega
  TIi2 := fun h => by have h : N + 2 = N + 1 := h; omega
  mem2 := List.mem_cons_self
  zf2 := fun h => by
    rcases List.mem_cons.mp h with h | h
    · have h : N + 4 = N + 1 := h; omega
    · have h : N + 4 = b := List.mem_singleton.mp h; omega
  Tf2 := fun h => by
    rcases List.mem_cons.mp h with h | h
    · have h : N + 3 = N + 1 := h; omega
    · have h : N + 3 = b := List.mem_singleton.mp h; omega
  sep1_2 := fun h => by
    rcases List.mem_cons.mp h with h | h
    · have h : N = N + 1 := h; omega
    · have h : N = b := List.mem_singleton.mp h; omega
  sep2_1 := fun h => by
    rcases List.mem_cons.mp h with h | h
    · have h : N + 1 = N := h; omega
    · have h : N + 1 = a := List.mem_singleton.mp h; omega
theorem lt5 {N a b c : Nat} (la : a < N) (lb : b < N) (h : c ∈ [N + 4, N + 2, N + 3, N, N + 1] ++ ([N, a] ++ [N + 1, b])) : c < N + 5 := by
  simp only [List.mem_append, List.mem_cons, List.not_mem_nil, or_false] at h
  omega
theorem ne4 {N b : Nat} (lt : b < N) (h : b ∈ [N + 4, N + 3, N, N + 1]) : False := by
  simp only [List.mem_cons, List.not_mem_nil, or_false] at h
  omega
/-! ### the pairs as they are tracked -/
def putP : Hp → List Addr → List (V × V) → Hp
  | H, a :: as, p :: kvs => putP (upd H a (.tup [p.1, p.2])) as kvs
  | H, _, _ => H
theorem putP_off {b : Addr} : ∀ (as : List Addr) (kvs : List (V × V)) (H : Hp), b ∉ as → putP H as kvs b = H b
  | [], _, _, _ => rfl
  | _ :: _, [], _, _ => rfl
  | a :: as, p :: kvs, H, h => by
    show putP (upd H a (.tup [p.1, p.2])) as kvs b = H b
    rw [putP_off as kvs _ (fun z => h (List.mem_cons_of_mem _ z)), upd_ne (fun z => h (by rw [z]; exact List.mem_cons_self))]
theorem putP_at : ∀ (as : List Addr) (kvs : List (V × V)) (H : Hp), as.length = kvs.length → as.Nodup → Paired (fun (t : Addr) (p : V × V) => putP H as kvs t = some (.tup [p.1, p.2])) as kvs
  | [], [], _, _, _ => .nil
  | [], _ :: _, _, h, _ => by cases h
  | _ :: _, [], _, h, _ => by cases h
  | a :: as, p :: kvs, H, h, hn => by
    have hn' := List.nodup_cons.mp hn
    have ih := putP_at as kvs (upd H a (.tup [p.1, p.2])) (Nat.succ.inj h) hn'.2
    refine .cons ?_ ih
    show putP (upd H a (.tup [p.1, p.2])) as kvs a = some (.tup [p.1, p.2])
    rw [putP_off as kvs _ hn'.1, upd_same]
section
variable {X : Cx}
theorem pairs_laid {pins : List (Addr × Obj)} {σ : L2.St} {H : Hp} {s : Shared} {h' : Heap} {tk : Nat} {xs ys : List V} {us vs : List Value} {acc : Array Value} {c : Nat} {as : List Addr} {S : Addr} (I : Inv X pins σ H s) (hx : Vals xs us) (hy : Vals ys vs) (hz : min xs.length ys.length ≤ sizeLine) (hSl : s.heap.objs.size ≤ S)
    (hk : ∀ b o, s.heap.get? b = some o → h'.get? b = some o) (hS : h'.get? S = some { cls := .type "list", dict := none, data := .seq acc c, slots := #[] }) (hl : as.length = min us.toArray.size vs.toArray.size) (hG : ZG (fun i v => us.toArray[i]? = some v) (fun i v => vs.toArray[i]? = some v) S h' as) (hacc : acc.toList = as.map Value.ref) :
    H S = none ∧ (∀ t ∈ as, H t = none) ∧ S ∉ as ∧ as.Nodup ∧ as.length = (xs.zip ys).length ∧ Inv X pins σ (putP (upd H S (.lst (as.map V.ref))) as (xs.zip ys)) { s with heap := h', toks := tk } := by
  have lx := hx.length
  have ly := hy.length
  have hl2 : as.length = (xs.zip ys).length := by rw [hl, List.length_zip, List.size_toArray, List.size_toArray, lx, ly]
  have hSn : S ∉ as := fun z => Nat.lt_irrefl _ (hG.above _ z)
  have nd : as.Nodup := List.Pairwise.imp (fun {a b} (h : a < b) => Nat.ne_of_lt h) hG.rise
  have hge : ∀ t ∈ as, s.heap.objs.size ≤ t := fun t ht => Nat.le_trans hSl (Nat.le_of_lt (hG.above t ht))
  have new : ∀ t ∈ as, H t = none := fun t ht => I.hok.fresh (hge t ht)
  have newS : H S = none := I.hok.fresh hSl
  have atP := putP_at as (xs.zip ys) (upd H S (.lst (as.map V.ref))) hl2 nd
  have off : ∀ b, b ∉ as → b ≠ S → putP (upd H S (.lst (as.map V.ref))) as (xs.zip ys) b = H b := fun b h1 h2 => by rw [putP_off as _ _ h1, upd_ne h2]
  have low : ∀ b o, s.heap.get? b = some o → b ∉ as ∧ b ≠ S := fun b o e => ⟨fun z => absurd (Heap.lt_size e) (Nat.not_lt.mpr (hge b z)), fun z => absurd (Heap.lt_size e) (Nat.not_lt.mpr (z ▸ hSl))⟩
  have kp : ∀ b u, H b = some u → (putP (upd H S (.lst (as.map V.ref))) as (xs.zip ys)) b = some u := fun b u e => by
    rw [off b (fun z => by rw [new b z] at e; cases e) (fun z => by rw [z, newS] at e; cases e)]
    exact e
  have eS : putP (upd H S (.lst (as.map V.ref))) as (xs.zip ys) S = some (.lst (as.map V.ref)) := by rw [putP_off as _ _ hSn, upd_same]
  refine ⟨newS, new, hSn, nd, hl2, ?_⟩
  refine I.call' (ch := []) rfl ⟨fun b o q _ _ _ => hk b o q, fun b o q _ _ _ => ⟨o.slots, hk b o q⟩, fun b o q n _ => ?_, fun b o q _ => ⟨o, hk b o q⟩, fun b xs q => kp b _ q, fun b o u q => kp b _ q, fun b ps q => ⟨#[], by rw [kp b _ q]; simp⟩⟩ (fun b u q => ?_) I.bare fun b z => by simp at z
  · obtain ⟨z1, z2⟩ := low b o q
    rw [off b z1 z2]
    exact n
  · by_cases hb : b ∈ as
    · obtain ⟨j, pk, e1, e2, e3⟩ := LiI.paired_ix atP hb
      rw [e3] at q
      cases q
      obtain ⟨x, y, f1, f2, f3⟩ := hG.pairs j b e1
      obtain ⟨e4, e5⟩ := List.getElem?_zip_eq_some.mp e2
      obtain ⟨x', g1, r1⟩ := hx.get e4
      obtain ⟨y', g2, r2⟩ := hy.get e5
      have f1 : us[j]? = some x := by simpa using f1
      have f2 : vs[j]? = some y := by simpa using f2
      rw [f1] at g1
      rw [f2] at g2
      cases g1
      cases g2
      exact ⟨by show 2 ≤ sizeLine; decide, [x, y], .cons r1 (.cons r2 .nil), ⟨_, f3, rfl, _, rfl⟩⟩
    · by_cases hb2 : b = S
      · rw [hb2] at q ⊢
        rw [eS] at q
        cases q
        refine ⟨by rw [List.length_map, hl2, List.length_zip]; exact hz, acc.toList, c, by rw [hacc]; exact LiI.vals_refs as, ?_⟩
        rw [Array.toArray_toList]
        exact hS
      · rw [off b hb hb2] at q
        exact (I.hok b u q).stay (fun d v _ y => hk d v y) (fun d y => kp d _ y) fun d xs y => kp d _ y
/-- list(zip(a, b)) -/
def tLZ (K : PySem.W.Frag) (ta : TA) : TE := fun σ H Q => ta σ H fun vs H1 => ∃ (a b : Addr) (xs ys : List V), vs = [.ref a, .ref b] ∧ (SqL K H1 a xs ∨ SqT K H1 a xs) ∧ (SqL K H1 b ys ∨ SqT K H1 b ys) ∧
  ∀ (p : Addr) (ts : List Addr), H1 p = none → (∀ t ∈ ts, H1 t = none) → p ∉ ts → ts.Nodup → ts.length = (xs.zip ys).length → Q (.ref p) (putP (upd H1 p (.lst (ts.map V.ref))) ts (xs.zip ys))
theorem sq_at {pins : List (Addr × Obj)} {σ : L2.St} {H : Hp} {s : Shared} {a : Addr} {xs : List V} (I : Inv X pins σ H s) (h : SqL X.K H a xs ∨ SqT X.K H a xs) : ∃ k us, Vals xs us ∧ IsSq k s.heap a us.toArray ∧ xs.length ≤ sizeLine ∧ a < s.heap.objs.size := by
  rcases h with h | h
  · obtain ⟨its, rv, p1, hz⟩ := I.list h
    exact ⟨true, its, rv, p1.isList, hz, p1.lt⟩
  · obtain ⟨its, rv, p1, hz⟩ := I.tuple h
    obtain ⟨o1, ho1, _⟩ := id p1
    exact ⟨false, its, rv, p1, hz, Heap.lt_size ho1⟩
theorem pe_listZip {e e2 : Expr} {ta : TA} {p p2 q pos : Pos} (hc : X.calm = true) (hg : Gl X "list") (hm : X.mg "list" = none) (hg2 : Gl X "zip") (hm2 : X.mg "zip" = none) (ha : PA X [e, e2] ta)
    (na : starEach [.Call (.Name "zip" p2) [e, e2] [] q] X.env = (false, eval (.Call (.Name "zip" p2) [e, e2] [] q) X.env) :: starEach [] X.env := by rfl)
    (hs : starEach [e, e2] X.env = (false, eval e X.env) :: starEach [e2] X.env := by rfl) (hpl : (backTo q (starEach [e2] X.env)).any (·.1) = false := by rfl) (hv : bootBuiltins "list" = some (.type "list") := by decide +kernel) :
    PE X (.Call (.Name "list" p) [.Call (.Name "zip" p2) [e, e2] [] q] [] pos) (tLZ X.K ta) := by
  refine ⟨fun pins s σ H Q I h => ?_⟩
  refine Call_ (ld_blt I hg hm hv ?_)
  refine PyProof.Rows.callWith_type1 (PyProof.Rows.args_cons ?_ na) na rfl
  refine Call_ (ld_blt I hg2 hm2 PyProof.Rows.boot_zip (PyProof.Rows.callWith_type1 (thn (ha.run q pins s σ H _ I h) fun us s1 ⟨vs, H1, I1, r1, q1⟩ => ?_) hs hpl))
  obtain ⟨a, b, xs, ys, ex, qa, qb, q1⟩ := q1
  subst ex
  cases r1 with
  | cons r rr =>
    cases rr with
    | cons r' rr =>
      cases rr
      cases r
      cases r'
      obtain ⟨k1, us, rx, sx, zx, la⟩ := sq_at I1 qa
      obtain ⟨k2, vs, ry, sy, zy, lb⟩ := sq_at I1 qb
      refine call_zipK sx sy fun h' hz hTI hTO h1 h2 hsz hk => PyProof.Rows.args_nil ?_
      have hhd := I1.ok.hd hc
      have sk1 : IsSq k1 h' a us.toArray := by
        cases k1
        · obtain ⟨o, ho, r⟩ := sx; exact ⟨o, hk _ _ ho, r⟩
        · obtain ⟨o, ho, r⟩ := sx; exact ⟨o, hk _ _ ho, r⟩
      have sk2 : IsSq k2 h' b vs.toArray := by
        cases k2
        · obtain ⟨o, ho, r⟩ := sy; exact ⟨o, hk _ _ ho, r⟩
        · obtain ⟨o, ho, r⟩ := sy; exact ⟨o, hk _ _ ho, r⟩
      have na : a ≠ s1.heap.objs.size := Nat.ne_of_lt la
      have nb : b ≠ s1.heap.objs.size + 1 := Nat.ne_of_lt (Nat.lt_succ_of_lt lb)
      have lx := rx.length
      have ly := ry.length
      have sp := sep5 s1.heap.objs.size a b la lb
      have D1 := drawsK (prog := X.prog) (w := X.w) (A := X.A.in1.in1.in1) hhd k1 s1.heap.objs.size a na us.toArray
      have D2 := drawsK (prog := X.prog) (w := X.w) (A := X.A.in1.in1.in1) hhd k2 (s1.heap.objs.size + 1) b nb vs.toArray
      refine list_call (s := { s1 with heap := h' }) sp D1 D2 (by simp only [List.size_toArray]; rw [← lx]; exact Nat.le_trans (Nat.min_le_left _ _) zx) hz hTI hTO ⟨h1, sk1⟩ ⟨h2, sk2⟩ ?_ ?_
      · intro c hcm
        show c < h'.objs.size
        rw [hsz]
        exact lt5 (N := s1.heap.objs.size) la lb hcm
      · intro h2 tk acc c as hk2 hS hl hG hacc
        have hSl : s1.heap.objs.size ≤ h'.objs.size := by rw [hsz]; exact Nat.le_add_right _ _
        have hk3 : ∀ b o, s1.heap.get? b = some o → h2.get? b = some o := fun b o e => hk2 b o (fun hcm => by
          exact ne4 (N := s1.heap.objs.size) (Heap.lt_size e) hcm) (hk b o e)
        obtain ⟨n1, n2, n3, n4, n5, J⟩ := pairs_laid (tk := tk) I1 rx ry (Nat.le_trans (Nat.min_le_left _ _) zx) hSl hk3 hS hl hG hacc
        exact ⟨.ref _, _, J, rfl, q1 _ as n1 n2 n3 n4 n5⟩
end
end LZ
namespace DL
open PySem PySem.Spec PyProof.Rows L2 Evl LZ
section
variable {X : Cx} {c : Cfg}
def lZip {W : Type} (a : AM W) : AM W := fun env w => (a env w).bind fun p => match p.1 with
  | [x, y] => (seqN x).bind fun l => (seqN y).map fun m => ((l.zip m).map pairD, p.2)
  | _ => none
theorem Gd.pairs {Hk H : Hp} (g : Gd c.Z Hk H) : ∀ (ts : List Addr) (l m : List D) (xs ys : List V), RepL c.T Hk l xs → RepL c.T Hk m ys → (∀ t ∈ ts, H t = none) → ts.Nodup → ts.length = (xs.zip ys).length →
    StpP c.Z Hk H (putP Hk ts (xs.zip ys)) (putP H ts (xs.zip ys)) ∧ RepL c.T (putP Hk ts (xs.zip ys)) ((l.zip m).map pairD) (ts.map V.ref)
  | [], [], _, xs, ys, rl, rm, _, _, _ => by
    obtain rfl : xs = [] := rl
    exact ⟨StpP.refl g, rfl⟩
  | [], _ :: _, [], xs, ys, rl, rm, _, _, _ => by
    obtain rfl : ys = [] := rm
    exact ⟨by rw [List.zip_nil_right]; exact StpP.refl g, rfl⟩
  | [], _ :: _, _ :: _, xs, ys, ⟨_, _, e1, _, _⟩, ⟨_, _, e2, _, _⟩, _, _, hl => by subst e1 e2; cases hl
  | t :: ts, [], _, xs, ys, rl, rm, _, _, hl => by
    obtain rfl : xs = [] := rl
    cases hl
  | t :: ts, _ :: _, [], xs, ys, rl, rm, _, _, hl => by
    obtain rfl : ys = [] := rm
    rw [List.zip_nil_right] at hl; cases hl
  | t :: ts, d :: l, d' :: m, xs, ys, ⟨v, r, e1, h1, h2⟩, ⟨u, q, e2, h3, h4⟩, hn, nd, hl => by
    subst e1 e2
    obtain ⟨n1, n2⟩ := List.nodup_cons.mp nd
    have ht : H t = none := hn t List.mem_cons_self
    have s := StpP.new (o := .tup [v, u]) g ht
    obtain ⟨s2, r2⟩ := Gd.pairs s.s.g ts l m r q (h2.mono s.s.k) (h4.mono s.s.k) (fun t' ht' => by rw [upd_ne (fun z : t' = t => n1 (by rw [← z]; exact ht'))]; exact hn t' (List.mem_cons_of_mem _ ht')) n2 (Nat.succ.inj hl)
    refine ⟨s.trans s2, _, _, rfl, ?_, r2⟩
    exact ⟨t, [v, u], rfl, SqT.of (s2.s.k t _ upd_same), .cons ((h1.mono s.s.k).mono s2.s.k) (.cons ((h3.mono s.s.k).mono s2.s.k) .nil)⟩
theorem dl_listZip (hK : X.K = c.T.K) (hm : X.mg "list" = none) (hm2 : X.mg "zip" = none) {e e2 : Expr} {ta : TA} {φ : AM c.Z.W} {p p2 q pos : Pos} (ha : DA X c [e, e2] ta φ) (hc : X.calm = true := by rfl) (hg : Gl X "list" := by rfl) (hg2 : Gl X "zip" := by rfl)
    (na : starEach [.Call (.Name "zip" p2) [e, e2] [] q] X.env = (false, eval (.Call (.Name "zip" p2) [e, e2] [] q) X.env) :: starEach [] X.env := by rfl)
    (hs : starEach [e, e2] X.env = (false, eval e X.env) :: starEach [e2] X.env := by rfl) (hpl : (backTo q (starEach [e2] X.env)).any (·.1) = false := by rfl) :
    DL' X c (.Call (.Name "list" p) [.Call (.Name "zip" p2) [e, e2] [] q] [] pos) (tLZ c.T.K ta) (lZip φ) := by
  refine ⟨hK ▸ pe_listZip hc hg hm hg2 hm2 ha.p na hs hpl, ?_⟩
  intro Hk0 H0 env w σ Hk H p l w' e Q q
  obtain ⟨⟨ds, w1⟩, e1, e⟩ := bind_some e
  have h : ∃ x y l1 l2, ds = [x, y] ∧ seqN x = some l1 ∧ seqN y = some l2 ∧ l = (l1.zip l2).map pairD ∧ w' = w1 := by
    match ds, e with
    | [x, y], e =>
      obtain ⟨l1, h1, e⟩ := bind_some e
      obtain ⟨l2, h2, e⟩ := map_some e
      cases e
      exact ⟨x, y, l1, l2, rfl, h1, h2, rfl, rfl⟩
  obtain ⟨x, y, l1, l2, rfl, h1, h2, rfl, rfl⟩ := h
  refine ha.k _ _ _ _ _ _ _ p _ _ e1 _ fun vs Hk1 H1 s1 o1 r1 => ?_
  obtain ⟨v, u, ev, rv, ru⟩ := r1.two
  obtain ⟨z1, z2⟩ := seqN_eq h1
  obtain ⟨z3, z4⟩ := seqN_eq h2
  obtain ⟨a, xs, ea, qa, ra⟩ := seqD_sq rv s1.g.e z1 z2
  obtain ⟨b, ys, eb, qb, rb⟩ := seqD_sq ru s1.g.e z3 z4
  subst ev ea eb
  refine ⟨a, b, xs, ys, rfl, qa.symm, qb.symm, fun pp ts n1 n2 n3 n4 n5 => ?_⟩
  have s2 : StpP c.Z Hk1 H1 Hk1 (upd H1 pp (.lst (ts.map V.ref))) := StpP.own s1.g n1
  obtain ⟨s3, r3⟩ := Gd.pairs s2.s.g ts l1 l2 xs ys ra rb (fun t ht => by rw [upd_ne (fun z : t = pp => n3 (by rw [← z]; exact ht))]; exact n2 t ht) n4 n5
  have s4 := s2.trans s3
  have fD : ¬ c.Z.FP pp := fun f => s1.g.dm pp f n1
  have hp0 : H pp = none := by
    cases z : H pp with
    | none => rfl
    | some o => rw [s1.keep pp o fD z] at n1; cases n1
  refine q pp _ _ _ (s1.trans s4.s) (s4.ok o1) hp0 ?_ ?_ r3
  · rw [putP_off ts _ _ n3]; exact hk_none s1.g n1
  · rw [putP_off ts _ _ n3, upd_same]
end
end DL
set_option Elab.async false
set_option linter.all false
set_option maxRecDepth 100000
set_option maxHeartbeats 4000000
/-! DLx: bool(x) of an instance with its own __bool__; a, b, c = x, y, z; max(d.values()). -/
namespace BoolX
open PySem PySem.Spec
open Sem (wp)
section
variable {prog : Program} {w : World} {A : Around} {E : Value → Shared → Prop} {s : Shared}
theorem bool_new {A' : Around} {u : Value} {R : Result → Shared → Prop} (h : wpAny (model prog w) A (truthy u) (fun b s' => R (.ok (.ret (.bool b))) s') (fun e s' => R (.error e) s') s) :
    wpAny (model prog w) A (Builtin.«bool.__new__» ⟨[.type "bool", u], []⟩) (fun fin s' => match fin with | .done f => R (.ok f) s' | .again c' => c'.quiet = true ∧ codeAny (model prog w) A' c' R s') (fun e s' => R (.error e) s') s := by
  have f1 := F.conv_sub_bool
  show wpAny _ _ (isType (.type "bool") >>= _) _ _ s
  obtain ⟨hp, g, d, tk, os⟩ := s
  have h' := h
  repeat (any_goals (first | assumption | (with_reducible refine wpAny_mono h' (fun b s' q => ?_) (fun _ _ q => q)) | wp_step))
  all_goals first | exact q | skip
theorem plain_bool_new : plainId "bool.__new__" = true := by decide +kernel
theorem call_bool_any {u : Value} {Q : Value → Shared → Prop} (h : wpAny (model prog w) A.in1.in1 (truthy u) (fun b s' => Q (.bool b) s') E s) : wpAny (model prog w) A (call (.type "bool") [u]) Q E s := by
  refine callType_codes (Q₁ := fun obj s₁ => (∃ b, obj = .bool b) ∧ Q obj s₁) F.called_bool (F.typeCall_bool_1 _) F.entry_object_init ?_ fun obj s₁ h₁ => ?_
  · refine codeAny_call_builtin plain_bool_new F.entry_bool_new (wpAny_of_eq (F.newCall_bool_1 _) ?_)
    refine bool_new (R := wants (fun obj s₁ => (∃ b, obj = Value.bool b) ∧ Q obj s₁) E) (wpAny_mono h (fun b s' q => ⟨⟨b, rfl⟩, q⟩) fun _ _ q => q)
  · obtain ⟨⟨b, rfl⟩, q⟩ := h₁
    have hT : s₁.TypeIs (.bool b) "bool" := typeIs_bool s₁ b
    refine ⟨hT, F.args_object_init_2 _ _, ?_⟩
    exact object_init_meets F.called_bool.init.lookup F.called_bool.made (by decide +kernel) prog w A.in1 _ s₁ ⟨hT, rfl, q⟩
end
end BoolX

namespace DL
open PySem PySem.Spec PyProof.Rows L2 Evl StX
section
variable {X : Cx} {c : Cfg}
/-- truth of an instance with its own __bool__, below the running body -/
theorem tru_own_sub {C f : Addr} {fd : FuncData} {ps : List Str} {k : Nat} {sp : Sp} (F : FnOk X.prog X.w X.K X.mg X.base CX0 k f fd ps sp) {A : Around} (hr : Room k A) (hA : A.frames = X.A.frames) (hs : PySem.W.findIn X.K (.ref C) "__bool__" = some (some (.ref f))) (hf : PySem.W.isFn X.K (.ref f) = true) (hb : Binds X.K fd ps [])
    {pins : List (Addr × Obj)} {s : Shared} {σ : L2.St} {H : Hp} {a dx : Addr} {fs : List (Str × V)} {Q : Bool → Hp → Prop} (I : L2.Inv X pins σ H s) (ha : H a = some (.ins C dx fs)) (hsp : sp [.ref a] H (fun v H' => ∃ b, v = .bl b ∧ Q b H') E0) :
    wpAny (model X.prog X.w) A (truthy (.ref a)) (fun b s' => ∃ H', L2.Inv X pins σ H' s' ∧ Q b H') X.xe s := by
  obtain ⟨mA, J, _⟩ := ins_get I.hok ha
  obtain ⟨od, J, _⟩ := J.look
  obtain ⟨m, hF⟩ := I.fr
  have e0 : Env0 X.prog X.w X.K X.mg X.base A X.stack s H := by
    have e := I.env0
    exact ⟨by rw [hA]; exact e.frames, e.mod, e.bs, e.bsz, e.funs, e.frf, e.hok, e.bare⟩
  have hl := F.len _ _ _ _ hsp
  have r2 : Vals [V.ref a] [Value.ref a] := .cons rfl .nil
  refine PySem.W.truthy_K hF I.ok.mod.kin J hs hf ?_
  refine wpAny_call (codeAny_mono (F.run A X.stack s H ⟨[.ref a], []⟩ [.ref a] [.ref a] _ E0 hr e0 (by
    have := hb s [.ref a] I.kIn (by simpa using hl)
    simpa using this) r2 hsp) fun r s' hq => ?_)
  cases r with
  | error e => exact pass0 pins σ H s e s' I hq
  | ok fl =>
    cases fl with
    | ret w =>
      obtain ⟨z, H', I', rz, b, ez, q⟩ := I.after hq
      subst ez
      cases rz
      exact ⟨H', I', q⟩
    | next => exact False.elim hq
    | brk => exact False.elim hq
    | cont => exact False.elim hq
/-- bool(x) -/
def rBoolI (T : CT) (Z : Wo) (B : Hp → Prop) (L : List (BoolD Z.W)) : List V → Hp → VK → Prop := fun xs H Q => ∃ q ∈ L, ∃ a dx fs, xs = [.ref a] ∧ H a = some (.ins (T.ad q.1) dx fs) ∧ spD T Z B 1 q.2.1 [.ref a] H (fun v H' => ∃ b, v = .bl b ∧ Q (.bl b) H') E0
theorem call_boolI {k lv : Nat} {L : List (BoolD c.Z.W)} (hK : X.K = c.T.K) (h : ∀ q ∈ L, BoolAt X.prog X.w X.K X.mg X.base c.T c.Z c.B lv q) (hr : Room k X.A) (hk : lv + 2 ≤ k) : CallR X (.type "bool") (rBoolI c.T c.Z c.B L) := by
  intro pins s σ H xs us Q I r h'
  obtain ⟨q, hq, a, dx, fs, rfl, ha, hsp⟩ := h'
  obtain ⟨u, rfl, rx⟩ := vals1 r
  cases rx
  obtain ⟨f, ⟨fd, ps, F, hb, _⟩, hs, hf, hm⟩ := h q hq
  refine BoolX.call_bool_any (wpAny_mono (tru_own_sub F (A := X.A.in1.in1) ((hr.mono hk).in1.in1) rfl hs hf hb I ha (Q := fun b H' => Q (.bl b) H') hsp) (fun b s' z => ?_) fun _ _ e => e)
  obtain ⟨H', I', q'⟩ := z
  exact ⟨.bl b, H', I', rfl, q'⟩
def eBoolI {W : Type} (ti : Nat → Option Bool) (f : EM W) : EM W := fun env w => (f env w).bind fun p => match p.1 with
  | .ins i _ => (ti i).map fun b => (.bl b, p.2)
  | _ => none
theorem de_boolI {k lv : Nat} {L : List (BoolD c.Z.W)} (hK : X.K = c.T.K) (h : ∀ q ∈ L, BoolAt X.prog X.w X.K X.mg X.base c.T c.Z c.B lv q) (hr : Room k X.A) (hg : Gl X "bool") (hm : X.mg "bool" = none) {e : Expr} {te : TE} {φ : EM c.Z.W} {p pos : Pos} (he : DE X c e te φ) (hk : lv + 2 ≤ k := by decide)
    (hs : starEach (e :: []) X.env = (false, eval e X.env) :: starEach [] X.env := by rfl) (hpl : (backTo pos (starEach [] X.env)).any (·.1) = false := by rfl) :
    DE X c (.Call (.Name "bool" p) [e] [] pos) (tCB (rBoolI c.T c.Z c.B L) (tCons te tNil)) (eBoolI (tiOf L) φ) := by
  refine ⟨pe_callTy (call_boolI hK h hr hk) hg hm bt_bool (pa_cons he.p pa_nil hs) (by decide) (by decide) hs hpl, ?_⟩
  intro Hk0 H0 env w σ Hk H pr d w' e' Q q
  obtain ⟨⟨d1, w1⟩, e1, e'⟩ := bind_some e'
  have h' : ∃ i l b, d1 = .ins i l ∧ tiOf L i = some b ∧ d = .bl b ∧ w' = w1 := by
    cases d1 <;> try (cases e'; done)
    obtain ⟨b, e2, e'⟩ := map_some e'
    cases e'
    exact ⟨_, _, b, rfl, e2, rfl, rfl⟩
  obtain ⟨i, l, b, rfl, e2, rfl, rfl⟩ := h'
  refine he.k _ _ _ _ _ _ _ pr _ _ e1 _ fun v Hk1 H1 s1 o1 r1 => ?_
  obtain ⟨t, e3, e4⟩ := map_some (show (L.find? fun q => decide (q.1 = i)).map (·.2.2) = some b from e2)
  have h1 := List.find?_some e3
  have h2 : t.1 = i := of_decide_eq_true h1
  subst h2
  subst e4
  obtain ⟨f, _, _, _, hm'⟩ := h t (List.mem_of_find?_eq_some e3)
  obtain ⟨a, dx, us, rfl, ha, hl, rl⟩ := id r1
  exact ⟨t, List.mem_of_find?_eq_some e3, a, dx, _, rfl, s1.g.e _ _ ha, Hk1, [.ins t.1 l], w', .bl t.2.2, w', s1.g, c.Bm s1.k pr.base, o1, .cons r1 .nil, rfl, hm' l w', fun v Hk' H' s o rv => ⟨_, rv, q _ Hk' H' (s1.trans s) o rfl⟩⟩
/-! ### max(d.values()) -/
def tMaxV (t : TE) : TE := fun σ H Q => t σ H fun x H1 => ∃ (d : Addr) (o : Obj) (kvs : List (Key × V)) (ns : List Int), x = .ref d ∧ H1 d = some (.frz o (.dK kvs)) ∧ kvs.map Prod.snd = ns.map V.int ∧ 0 < ns.length ∧ ∀ m, m ∈ ns → (∀ y, y ∈ ns → y ≤ m) → Q (.int m) H1
theorem pe_maxV {e : Expr} {td : TE} {p apos cpos pos : Pos} (hc : X.calm = true) (he : PE X e td) (hg : Gl X "max") (hm : X.mg "max" = none) (hbase : attributeBase e "values" X.env (eval e X.env) = eval e X.env := by rfl) (hline : (apos.endLine == cpos.line) = true := by rfl)
    (hs : starEach [.Call (.Attribute e "values" apos) [] [] cpos] X.env = (false, eval (.Call (.Attribute e "values" apos) [] [] cpos) X.env) :: starEach [] X.env := by rfl) :
    PE X (.Call (.Name "max" p) [.Call (.Attribute e "values" apos) [] [] cpos] [] pos) (tMaxV td) := by
  refine ⟨fun pins s σ H Q I hq => ?_⟩
  refine Call_ (ld_blt I hg hm bt_max ?_)
  refine PyProof.Rows.callWith_builtin1 (PyProof.Rows.args_cons ?_ hs) hs rfl
  refine wpAny_Call_method (T := "dict") (id := "dict.values") hbase rfl hline F.plainAttrs_dict F.slot_dict_values F.type_dict_values (thn (he.run pins s σ H _ I hq) fun u s1 ⟨x, H1, I1, rx, d, o, kvs, ns, ex, hd, hns, hne, q⟩ => ?_)
  subst ex
  obtain rfl : u = Value.ref d := rx
  obtain ⟨hsy, hgd, hx, es, ep, vs, hdt, hsz, kv, hm⟩ := I1.frzK hd
  have hl : kvs.length = vs.length := Paired.length kv
  refine ⟨hm.dictOf.typeIs, hm.dictOf.mapOf.noDict, ?_⟩
  show wpAny _ _ (callWith cpos (.builtin "dict.values") [.ref d] [] []) _ X.xe s1
  refine method_meetsIn F.slot_dict_values F.entry_dict_values rfl (PySem.evalArgs_none ⟨rfl, hm.dictOf.typeIs, F.args_dict_values_1 _, _, meets_dict_values (mixKind X.prog X.w) d hsy, ⟨vs, hm.dictOf⟩, ?_⟩)
  refine PyProof.Rows.args_nil ?_
  have hkn : kvs.length = ns.length := by
    have e := congrArg List.length hns
    rw [List.length_map, List.length_map] at e
    exact e
  have hP : ∀ (i : Nat) (v : Value), (∃ k, vs[i]? = some (k, v)) → ∃ t, v = .int (ns.getD i 0) t := fun i v ⟨k, hv⟩ => by
    have hi : i < ns.length := by
      have := (List.getElem?_eq_some_iff.mp hv).1
      omega
    have hi2 : i < kvs.length := by omega
    obtain ⟨u, hu, ru⟩ := kv_get kv (i := i) (k := kvs[i].1) (v := kvs[i].2) (List.getElem?_eq_getElem hi2)
    rw [hv] at hu
    cases hu
    have e2 : kvs[i].2 = V.int ns[i] := by
      have z : (kvs.map Prod.snd)[i]? = (ns.map V.int)[i]? := by rw [hns]
      rw [List.getElem?_map, List.getElem?_map, List.getElem?_eq_getElem hi2, List.getElem?_eq_getElem hi] at z
      exact Option.some.inj z
    have e3 : ns.getD i 0 = ns[i] := by rw [List.getD_eq_getElem?_getD, List.getElem?_eq_getElem hi] <;> rfl
    rw [e2] at ru
    rw [e3]
    exact ru
  have hd1 : d < s1.heap.objs.size := Heap.lt_size hgd
  refine call_max_walk (wpAny_pyIter_values (d := d) (knd := mixKind X.prog X.w) ⟨_, Heap.get?_push_size _ rfl, rfl, rfl⟩ (hm.push _) ?_)
  have hz : (s1.heap.push { cls := .type "dict_values", data := .fields #[.ref d] }).objs.size = s1.heap.objs.size + 1 := Heap.size_push ..
  have hdl : d < (s1.heap.push { cls := .type "dict_values", data := .fields #[.ref d] }).objs.size := by rw [hz]; exact Nat.lt_succ_of_lt hd1
  generalize hh : s1.heap.push { cls := .type "dict_values", data := .fields #[.ref d] } = h1 at hz hdl
  have hk1 : ∀ b o, s1.heap.get? b = some o → h1.get? b = some o := fun b o e => by rw [← hh]; exact Heap.get?_push_of_some _ e
  have hm1 : h1.DictAt (mixKind X.prog X.w) d vs ep := by rw [← hh]; exact hm.push _
  refine ⟨h1.objs.size, [h1.objs.size, d], [h1.objs.size], vs.length, fun i v => ∃ k, vs[i]? = some (k, v), fun i h => h.IsValIter h1.objs.size d i vs.length ep ∧ h.DictAt (mixKind X.prog X.w) d vs ep, fun i j => decide (ns.getD i 0 > ns.getD j 0), rfl,
    Walks.dictValues (knd := mixKind X.prog X.w) (show X.A.in1.handled = none from I.ok.hd hc) _ d (Nat.ne_of_lt hdl) vs ep, ⟨⟨_, Heap.get?_push_size _ rfl, rfl, rfl⟩, hm1.push _⟩, fun b hb => ?_, by omega, CmpOf.ints_gt (fun i => ns.getD i 0) hP, fun v h' tk hv' hk => ?_⟩
  · show b < (Heap.push _ _).objs.size
    rw [Heap.size_push]
    rcases List.mem_cons.mp hb with z | z
    · rw [z]; exact Nat.lt_succ_self _
    · rw [List.mem_singleton.mp z]; exact Nat.lt_succ_of_lt hdl
  · obtain ⟨t, rfl⟩ := hP _ _ hv'
    obtain ⟨m1', m2'⟩ := argBest_gt (fun i => ns.getD i 0) (vs.length - 1)
    have m1 : argBest (fun i j => decide (ns.getD i 0 > ns.getD j 0)) (vs.length - 1) ≤ vs.length - 1 := m1'
    have m2 : ∀ j, j ≤ vs.length - 1 → ns.getD j 0 ≤ ns.getD (argBest (fun i j => decide (ns.getD i 0 > ns.getD j 0)) (vs.length - 1)) 0 := m2'
    have hk2 : ∀ b o, s1.heap.get? b = some o → h'.get? b = some o := fun b o e => hk b o (fun z => by rw [List.mem_singleton.mp z] at e; exact absurd (Nat.lt_trans (Heap.lt_size e) (by rw [hz]; exact Nat.lt_succ_self _)) (Nat.lt_irrefl _)) (Heap.get?_push_of_some _ (hk1 b o e))
    refine ⟨.int _, H1, I1.kept (t' := tk) hk2, ⟨t, rfl⟩, q _ (PySem.getD_mem (by omega)) fun y hy => ?_⟩
    obtain ⟨j, hj, e⟩ := List.mem_iff_getElem.mp hy
    have z := m2 j (by omega)
    have e3 : ns.getD j 0 = y := by rw [List.getD_eq_getElem?_getD, List.getElem?_eq_getElem hj, ← e] <;> rfl
    omega
/-- as data -/
def fMaxV : D → Option D
  | .dic ks l => if ks.length = l.length then (asInts l).bind fun ns => (maxI ns).map .int else none
  | _ => none
theorem snd_zip {α β : Type} : ∀ {ks : List α} {vs : List β}, ks.length = vs.length → (ks.zip vs).map Prod.snd = vs
  | [], [], _ => rfl
  | [], _ :: _, h => by cases h
  | _ :: _, [], h => by cases h
  | _ :: ks, v :: vs, h => by rw [List.zip_cons_cons, List.map_cons, snd_zip (Nat.succ.inj h)]
theorem de_maxV {e : Expr} {td : TE} {φ : EM c.Z.W} {p apos cpos pos : Pos} (hc : X.calm = true) (he : DE X c e td φ) (hg : Gl X "max") (hm : X.mg "max" = none) (hbase : attributeBase e "values" X.env (eval e X.env) = eval e X.env := by rfl) (hline : (apos.endLine == cpos.line) = true := by rfl)
    (hs : starEach [.Call (.Attribute e "values" apos) [] [] cpos] X.env = (false, eval (.Call (.Attribute e "values" apos) [] [] cpos) X.env) :: starEach [] X.env := by rfl) :
    DE X c (.Call (.Name "max" p) [.Call (.Attribute e "values" apos) [] [] cpos] [] pos) (tMaxV td) (eUn fMaxV φ) := by
  refine ⟨pe_maxV hc he.p hg hm hbase hline hs, ?_⟩
  intro Hk0 H0 env w σ Hk H pr d w' e' Q q
  obtain ⟨⟨d1, w1⟩, e1, e'⟩ := bind_some e'
  obtain ⟨d', e2, e'⟩ := map_some e'
  cases e'
  refine he.k _ _ _ _ _ _ _ pr d1 _ e1 _ fun v Hk1 H1 s1 o1 r1 => ?_
  have hd : ∃ ks l, d1 = .dic ks l := by
    cases d1 <;> first | exact ⟨_, _, rfl⟩ | cases e2
  obtain ⟨ks, l, rfl⟩ := hd
  have e2 : (if ks.length = l.length then (asInts l).bind fun ns => (maxI ns).map D.int else none) = some d := e2
  split at e2
  · rename_i hl
    obtain ⟨ns, e3, e2⟩ := bind_some e2
    obtain ⟨m, e4, e2⟩ := map_some e2
    subst e2
    obtain ⟨a, o, vs, ea, h1, hl', rl⟩ := r1
    subst ea
    have := ints_eq e3
    subst this
    have := reps_int rl
    subst this
    cases ns with
    | nil => cases e4
    | cons n ns =>
      cases e4
      refine ⟨a, o, _, n :: ns, rfl, s1.g.e _ _ h1, snd_zip (by simpa using hl'), by simp, fun m hm hle => ?_⟩
      obtain ⟨g1, g2⟩ := maxI_spec ns n
      have : m = ns.foldl (fun a b => if a < b then b else a) n := Int.le_antisymm (g2 _ hm) (hle _ g1)
      exact q _ Hk1 H1 s1 o1 (by rw [this]; rfl)
  · cases e2
/-! ### a, b, c = x, y, z -/
def sPar3 {W : Type} (i j l : Nat) (f g h : VM W) : SM W := fun env w => (f env w).bind fun p => (g env p.2).bind fun q => (h env q.2).map fun r => (.nx, ((env.set i p.1).set j q.1).set l r.1, r.2)
theorem ds_par3 (i j l : Nat) {x y z : Str} {a b d : Expr} {ta tb td : TE} {φ ψ χ : VM c.Z.W} {px py pz pt pos : Pos} {kt k2 pt2} (hc : X.calm = true) (hN : X.N.Nodup) (ha : DV X c a ta φ) (hb : DV X c b tb ψ) (hd : DV X c d td χ) (hi : X.N[i]? = some x := by rfl) (hj : X.N[j]? = some y := by rfl) (hl : X.N[l]? = some z := by rfl) (hij : i ≠ j := by decide) (hil : i ≠ l := by decide) (hjl : j ≠ l := by decide)
    (hx : X.env.scope.names.lookup x = some .local := by rfl) (hy : X.env.scope.names.lookup y = some .local := by rfl) (hz : X.env.scope.names.lookup z = some .local := by rfl)
    (hs1 : starEach (a :: [b, d]) X.env = (false, eval a X.env) :: starEach [b, d] X.env := by rfl) (hs2 : starEach (b :: [d]) X.env = (false, eval b X.env) :: starEach [d] X.env := by rfl) (hs3 : starEach (d :: []) X.env = (false, eval d X.env) :: starEach [] X.env := by rfl)
    (hw : swappedStores [.Tuple [.Name x px, .Name y py, .Name z pz] kt pt] (.Tuple [a, b, d] k2 pt2) X.env = pure (some [x, y, z]) := by rfl)
    (hs : swapsWithSole [.Tuple [.Name x px, .Name y py, .Name z pz] kt pt] (.Tuple [a, b, d] k2 pt2) pos.line X.env = pure false := by rfl) :
    DS X c (.Assign [.Tuple [.Name x px, .Name y py, .Name z pz] kt pt] (.Tuple [a, b, d] k2 pt2) pos) (tPar3 i j l (tCons ta (tCons tb (tCons td tNil)))) (sPar3 i j l φ ψ χ) := by
  refine ⟨ps_par3 hc hN hi hj hl hij hil hjl hx hy hz (pa_cons ha.p (pa_cons hb.p (pa_cons hd.p pa_nil hs3) hs2) hs1) hw hs, ?_⟩
  intro Hk0 H0 env w σ Hk H p o env' w' e Dn hh
  obtain ⟨⟨s, w1⟩, e1, e⟩ := bind_some e
  obtain ⟨⟨t, w2⟩, e2, e⟩ := bind_some e
  obtain ⟨⟨r, w3⟩, e3, e⟩ := map_some e
  cases e
  refine ha.k _ _ _ _ _ _ _ p s w1 e1 _ fun v Hk1 H1 s1 o1 r1 => ?_
  have p1 := p.step s1 o1
  refine hb.k _ _ _ _ _ _ _ p1 t w2 e2 _ fun u Hk2 H2 s2 o2 r2 => ?_
  have p2 := p1.step s2 o2
  refine hd.k _ _ _ _ _ _ _ p2 r _ e3 _ fun q Hk3 H3 s3 o3 r3 => ?_
  refine ⟨v, u, q, rfl, ?_⟩
  have pi : Pre c Hk0 H0 (env.set i s) w1 (σ.set i (some v)) Hk1 H1 := p.put s1 o1 i r1
  have pj := pi.put s2 o2 j r2
  exact hh _ Hk3 H3 (pj.put s3 o3 l r3) ((s1.k.trans s2.k).trans s3.k)
end
end DL
set_option Elab.async false
set_option linter.all false
set_option maxRecDepth 100000
set_option maxHeartbeats 4000000
/-! DLy: name = [.. for ..] as data; the law itself. -/
namespace DL
open PySem PySem.Spec PyProof.Rows L2 Evl
section
variable {X : Cx} {c : Cfg}
/-- name = [.. for ..] on one line, the name a local, the list as data -/
theorem ds_setLcE (i : Nat) {y : Str} {py : Pos} {elt tg iter : Expr} {ifs : List Expr} {scope : Scope} {own : List (Str × Nat)} {pos spos : Pos} {wi : TI} {g : TG} {tt : TT} {te : TE} {ι : AM c.Z.W} {γ : GM} {χ : TM c.Z.W} {φ : EM c.Z.W} {ts : List Nat} (hc : X.calm = true) (hN : X.N.Nodup) (hi : DIc X c tg iter wi ι) (ok : BlkOk X.N X.env.scope scope own)
    (hg : ∀ (s : Shared) (H : Hp) (C : Addr) (cl : List (Str × Addr)) (fp : List Addr), DG (X.blk s H scope (compEnvC scope cl C X.env) fp) c tg g γ ts) (ht : ∀ (s : Shared) (H : Hp) (C : Addr) (cl : List (Str × Addr)) (fp : List Addr), DTs (X.blk s H scope (compEnvC scope cl C X.env) fp) c ifs tt χ)
    (he : ∀ (s : Shared) (H : Hp) (C : Addr) (cl : List (Str × Addr)) (fp : List Addr), DE (X.blk s H scope (compEnvC scope cl C X.env) fp) c elt te φ) (hy : X.N[i]? = some y := by rfl) (hyl : X.env.scope.names.lookup y = some .local := by rfl)
    (hsw : swapsWith (.ListComp elt [⟨tg, iter, ifs, 0⟩] scope pos) (some (.Name y py)) spos.line X.env = pure true := by exact sw_true rfl rfl rfl (by decide +kernel)) (hts : ∀ i ∈ ts, i ∈ own.map (·.2) := by decide) (hs : ∀ x, foldedSetIterable iter X.env x = pure x := by intro _; rfl) :
    DS X c (.Assign [.Name y py] (.ListComp elt [⟨tg, iter, ifs, 0⟩] scope pos) spos) (tAsg (tLc wi g tt te (own.map (·.2))) (gName i)) (sSet i (vE (eL (lLc (own.map (·.2)) ι γ χ φ)))) :=
  ⟨ps_setLc hc hN hy hyl hsw hi.p ok (fun s H C cl fp => (hg s H C cl fp).p) (fun s H C cl fp => (ht s H C cl fp).p) (fun s H C cl fp => (he s H C cl fp).p) hs,
    sSet_ok i (DE.v (DL'.de (dl_lc (pos := pos) hc hN hi ok hg ht he hts hs))).k⟩
theorem ds_setLc2E (i : Nat) {y : Str} {py : Pos} {elt tg iter tg1 iter1 : Expr} {ifs ifs1 : List Expr} {scope : Scope} {own : List (Str × Nat)} {vs1 : List Nat} {pos spos : Pos} {wi wi1 : TI} {g g1 : TG} {tt tt1 : TT} {te : TE} {ι ι1 : AM c.Z.W} {γ γ1 : GM} {χ χ1 : TM c.Z.W} {φ : EM c.Z.W} {ts ts1 : List Nat} [hk : GKeep γ] (hc : X.calm = true) (hN : X.N.Nodup) (hi : DIc X c tg iter wi ι) (ok : BlkOk X.N X.env.scope scope own)
    (hg : ∀ (s : Shared) (H : Hp) (C : Addr) (cl : List (Str × Addr)) (fp : List Addr), DG (X.blk s H scope (compEnvC scope cl C X.env) fp) c tg g γ ts) (ht : ∀ (s : Shared) (H : Hp) (C : Addr) (cl : List (Str × Addr)) (fp : List Addr), DTs (X.blk s H scope (compEnvC scope cl C X.env) fp) c ifs tt χ)
    (hi1 : ∀ (s : Shared) (H : Hp) (C : Addr) (cl : List (Str × Addr)) (fp : List Addr), DI (X.blk s H scope (compEnvC scope cl C X.env) fp) c tg1 iter1 wi1 ι1)
    (hg1 : ∀ (s : Shared) (H : Hp) (C : Addr) (cl : List (Str × Addr)) (fp : List Addr), DG (X.blk s H scope (compEnvC scope cl C X.env) fp) c tg1 g1 γ1 ts1) (ht1 : ∀ (s : Shared) (H : Hp) (C : Addr) (cl : List (Str × Addr)) (fp : List Addr), DTs (X.blk s H scope (compEnvC scope cl C X.env) fp) c ifs1 tt1 χ1)
    (he : ∀ (s : Shared) (H : Hp) (C : Addr) (cl : List (Str × Addr)) (fp : List Addr), DE (X.blk s H scope (compEnvC scope cl C X.env) fp) c elt te φ) (hy : X.N[i]? = some y := by rfl) (hyl : X.env.scope.names.lookup y = some .local := by rfl)
    (hsw : swapsWith (.ListComp elt [⟨tg, iter, ifs, 0⟩, ⟨tg1, iter1, ifs1, 0⟩] scope pos) (some (.Name y py)) spos.line X.env = pure true := by exact sw_true rfl rfl rfl (by decide +kernel)) (hv : ∀ i ∈ vs1, i ∈ own.map (·.2) := by decide) (hts : ∀ i ∈ ts, i ∈ own.map (·.2) := by decide) (hts1 : ∀ i ∈ ts1, i ∈ vs1 := by decide) (hs : ∀ x, foldedSetIterable iter X.env x = pure x := by intro _; rfl) (hs1 : ∀ env x, foldedSetIterable iter1 env x = pure x := by intro _ _; rfl) :
    DS X c (.Assign [.Name y py] (.ListComp elt [⟨tg, iter, ifs, 0⟩, ⟨tg1, iter1, ifs1, 0⟩] scope pos) spos) (tAsg (tLc2 wi g tt wi1 g1 tt1 te (own.map (·.2)) vs1) (gName i)) (sSet i (vE (eL (lLc2 (own.map (·.2)) vs1 ι γ χ ι1 γ1 χ1 φ)))) :=
  ⟨ps_setLc2 hc hN hy hyl hsw hi.p ok hv (fun s H C cl fp => (hg s H C cl fp).p) (fun s H C cl fp => (ht s H C cl fp).p) (fun s H C cl fp => (hi1 s H C cl fp).p) (fun s H C cl fp => (hg1 s H C cl fp).p) (fun s H C cl fp => (ht1 s H C cl fp).p) (fun s H C cl fp => (he s H C cl fp).p) hs hs1,
    sSet_ok i (DE.v (DL'.de (dl_lc2 (pos := pos) hc hN hi ok hg ht hi1 hg1 ht1 he hv hts hts1 hs hs1))).k⟩
end
/-! ### the law -/
def lawE (n : Nat) (ns : List Int) : Env' := .val (.scr ns) :: .val .ob :: List.replicate (n - 2) .un
def spLaw (K : PySem.W.Frag) (Tb : List NdefX.NTab) (n : Nat) (ψ : SM W0) : Sp := fun vs H Q _ => ∃ (p : Addr) (ns : List Int) (env' : Env') (w' : W0), vs = [.ref p] ∧ SqL K H p (ns.map V.int) ∧ (∀ q ∈ Tb, H q.1 = some (.tbl #[])) ∧ ψ (lawE n ns) (ns, 0) = some (.rt (.bl true), env', w') ∧ ∀ H', Q (.bl true) H'
/-- the reading of draw = [script, 0] -/
abbrev tDraw : TS := tAsg (tLst (tCons (tVar 0) (tCons (tC (.int 0)) tNil))) (gName 1)
section
variable {P : Program} {w : World} {K : PySem.W.Frag} {mg : Str → Option Value} {base : Heap} {ad : Nat → Addr} {fd : Nat → List Str} {Tb : List NdefX.NTab}
theorem sqL_known {H : Hp} {p : Addr} {xs : List V} (h : SqL K H p xs) : SqL K (fun x => if x = p then H p else none) p xs := by
  rcases h with (h | ⟨o, h⟩) | h
  · exact .inl (.inl (by show (if p = p then H p else none) = _; rw [if_pos rfl]; exact h))
  · exact .inl (.inr ⟨o, by show (if p = p then H p else none) = _; rw [if_pos rfl]; exact h⟩)
  · exact .inr h
theorem sqL_tbl {H : Hp} {p q : Addr} {xs : List V} (h : SqL K H p xs) (hq : H q = some (.tbl #[])) (hK : K.lookup q = none) : q ≠ p := by
  intro e
  subst e
  rcases h with (h | ⟨o, h⟩) | ⟨o, its, n, h, _⟩
  · rw [hq] at h; cases h
  · rw [hq] at h; cases h
  · rw [hK] at h; cases h
theorem pre_law {N : List Str} {n : Nat} {ns : List Int} {a p : Addr} {H : Hp} (hS : SqL K H p (ns.map V.int)) (hT : ∀ q ∈ Tb, H q.1 = some (.tbl #[])) (hKT : ∀ q ∈ Tb, K.lookup q.1 = none) (ha : H a = none) (hn : N.length = n) (h2 : 2 ≤ n) (aT : a ∉ Tb.map (·.1)) :
    Pre (cfW K ad fd ns a p Tb (fun _ _ => False) (fun _ => False)) (fun x => if x = p then H p else none) (upd H a (.lst [.ref p, .int 0])) (lawE n ns) (ns, 0) ((L2.start N [.ref p]).set 1 (some (.ref a))) (fun x => if x = p then H p else none) (upd H a (.lst [.ref p, .int 0])) where
  k := Ex.refl _
  base := sqL_known hS
  g := {
    e := fun x o h => by
      by_cases z : x = p
      · subst z
        have h : (if x = x then H x else none) = some o := h
        rw [if_pos rfl] at h
        rw [upd_ne (ne_of_none h ha)]
        exact h
      · have h : (if x = p then H p else none) = some o := h
        rw [if_neg z] at h; cases h
    nf := fun x h f => by
      have h : (if x = p then H p else none) ≠ none := h
      by_cases z : x = p
      · subst z
        rw [if_pos rfl] at h
        rcases f with f | f
        · rw [f] at h; exact h ha
        · obtain ⟨q, hq, e⟩ := List.mem_map.mp f
          exact sqL_tbl hS (hT q hq) (hKT q hq) e
      · rw [if_neg z] at h; exact h rfl
    dm := fun x f => by
      rcases f with rfl | f
      · rw [upd_same]; simp
      · obtain ⟨q, hq, e⟩ := List.mem_map.mp f
        subst e
        rw [upd_ne (fun z : q.1 = a => aT (by rw [← z]; exact f)), hT q hq]; simp }
  new := fun x h => .inl h
  keep := fun x o _ _ h => h
  self := fun x h => h.elim
  w := ⟨rfl, upd_same, fun q hq => by
    refine NdefX.TabN.nil ?_
    rw [upd_ne (fun z : q.1 = a => aT (by rw [← z]; exact List.mem_map_of_mem hq))]
    exact hT q hq⟩
  len := by
    unfold lawE L2.start
    simp only [List.length_cons, List.length_replicate, List.length_set, List.length_append, List.length_map, List.length_nil, hn]
    omega
  sl := fun i s e => by
    match i, e with
    | 0, e =>
      cases e
      refine ⟨.ref p, ?_, p, rfl, sqL_known hS⟩
      rw [List.getElem?_set_ne (by decide)]
      rfl
    | 1, e =>
      cases e
      refine ⟨.ref a, ?_, rfl⟩
      rw [List.getElem?_set_self]
      unfold L2.start
      simp only [List.length_append, List.length_map, List.length_cons, List.length_nil, List.length_replicate, hn]
      omega
    | i + 2, e =>
      have e : (List.replicate (n - 2) Sl.un)[i]? = some s := e
      rw [List.getElem?_replicate] at e
      split at e
      · cases e; trivial
      · cases e
  ap := fun i j q s t _ e1 _ m _ _ => by
    exfalso
    match i, e1 with
    | 0, e => cases e; cases m
    | 1, e => cases e; cases m
    | i + 2, e =>
      have e : (List.replicate (n - 2) Sl.un)[i]? = some s := e
      rw [List.getElem?_replicate] at e
      split at e
      · cases e; cases m
      · cases e
theorem law_ok {qual : Str} {st first : Stmt} {rest : List Stmt} {f : Addr} {g : FuncData} {N : List Str} {k n : Nat} {ψ : SM W0} (F : Fun K "law" qual st f g) (S : FnScope N ["script"] (defScope st)) (hst : defBody st = first :: rest) (hn : N.length = n) (h2 : 2 ≤ n) (hKT : ∀ q ∈ Tb, K.lookup q.1 = none)
    (h1 : ∀ (cdv : Value) (A : Around) (outer : List Env) (s : Shared) (H : Hp) (E : XK), PS (cxOf CX0 P w K mg base N qual (defScope st) f cdv A outer s H E).nox first tDraw)
    (hb : ∀ (ns : List Int) (a p : Addr), a ∉ Tb.map (·.1) → ∀ (cdv : Value) (A : Around) (outer : List Env) (s : Shared) (H : Hp) (E : XK), Room k (A.deeper (envOfC qual (defScope st) s.heap.objs.size f cdv)) →
      ∃ t, DSs (cxOf CX0 P w K mg base N qual (defScope st) f cdv A outer s H E).nox (cfW K ad fd ns a p Tb (fun _ _ => False) (fun _ => False)) rest t ψ) :
    FnOk P w K mg base CX0 (k + 1) f g ["script"] (spLaw K Tb n ψ) := by
  refine F.ok S (fun vs H Q E h => by obtain ⟨p, ns, _, _, e, _⟩ := h; rw [e]; rfl) fun cdv A outer s H vs Q E hr hsp => ?_
  obtain ⟨p, ns, env', w', rfl, hS, hT, e, q⟩ := hsp
  refine ⟨tSeq tDraw fun D σ H' => ∃ (a : Addr) (aT : a ∉ Tb.map (·.1)), (hb ns a p aT cdv A outer s H E hr).choose D σ H', ?_, ?_⟩
  · rw [hst]
    refine pss_cons (h1 cdv A outer s H E) ⟨fun pins s' σ H' D I h => ?_⟩
    obtain ⟨a, aT, h⟩ := h
    exact (hb ns a p aT cdv A outer s H E hr).choose_spec.p.run pins s' σ H' D I h
  · refine ⟨.ref p, rfl, by show 2 ≤ sizeLine; decide, fun a ha => ?_⟩
    have aT : a ∉ Tb.map (·.1) := fun z => by
      obtain ⟨q, hq, e⟩ := List.mem_map.mp z
      rw [← e, hT q hq] at ha; cases ha
    refine ⟨a, aT, ?_⟩
    have pr := pre_law (ad := ad) (fd := fd) (N := N) hS hT hKT ha hn h2 aT
    exact (hb ns a p aT cdv A outer s H E hr).choose_spec.k _ _ _ _ _ _ _ pr _ _ _ e _ fun v σ' Hk' H' p' _ rv => by
      obtain rfl : v = .bl true := rv
      exact q H'
end
end DL
set_option Elab.async false
set_option linter.all false
set_option maxRecDepth 100000
set_option maxHeartbeats 4000000
/-! DLz: how mirrors are evaluated. -/
namespace DL
open PySem PySem.Spec PyProof.Rows L2 Evl
section
variable {W : Type} {env : Env'} {w : W}
@[simp] theorem eVar_s {i : Nat} : eVar i env w = (match env[i]? with | some (.val d) => some (d, w) | _ => none) := rfl
@[simp] theorem eC_s {d : D} : eC d env w = some (d, w) := rfl
@[simp] theorem aNil_s : (aNil : AM W) env w = some ([], w) := rfl
@[simp] theorem aCons_s {f : EM W} {g : AM W} : aCons f g env w = (f env w).bind fun p => (g env p.2).bind fun q => some (p.1 :: q.1, q.2) := rfl
@[simp] theorem eTup_s {f : AM W} : eTup f env w = (f env w).bind fun p => if p.1.length ≤ sizeLine then some (.tup p.1, p.2) else none := rfl
@[simp] theorem lLst_s {f : AM W} : lLst f env w = (f env w).bind fun p => if p.1.length ≤ sizeLine then some p else none := rfl
@[simp] theorem eL_s {f : AM W} : eL f env w = (f env w).map fun p => (.lst p.1, p.2) := rfl
@[simp] theorem eOp_s {f : D → D → Option D} {a b : EM W} : eOp f a b env w = (a env w).bind fun p => (b env p.2).bind fun q => (f p.1 q.1).map fun d => (d, q.2) := rfl
@[simp] theorem tOf_s {f : EM W} : tOf f env w = (f env w).bind fun p => (asB p.1).map fun b => (b, p.2) := rfl
@[simp] theorem eChain_s {f g : D → D → Option D} {a b z : EM W} : eChain f g a b z env w = (a env w).bind fun p => (b env p.2).bind fun q => (f p.1 q.1).bind fun d => (asB d).bind fun k => if k = true then (z env q.2).bind fun r => (g q.1 r.1).map fun d => (d, r.2) else some (.bl false, q.2) := rfl
@[simp] theorem eAnd_s {a b : EM W} : eAnd a b env w = (a env w).bind fun p => (asB p.1).bind fun k => if k = true then b env p.2 else some (.bl false, p.2) := rfl
@[simp] theorem eOr_s {a b : EM W} : eOr a b env w = (a env w).bind fun p => (asB p.1).bind fun k => if k = true then some (.bl true, p.2) else b env p.2 := rfl
@[simp] theorem eNot_s {a : EM W} : eNot a env w = (a env w).bind fun p => (asB p.1).map fun k => (.bl (!k), p.2) := rfl
@[simp] theorem eNotT_s {ti : Nat → Option Bool} {a : EM W} : eNotT ti a env w = (a env w).bind fun p => (tru ti p.1).map fun b => (.bl (!b), p.2) := rfl
@[simp] theorem eUn_s {f : D → Option D} {a : EM W} : eUn f a env w = (a env w).bind fun p => (f p.1).map fun d => (d, p.2) := rfl
@[simp] theorem bAnd_s {a b : TM W} : bAnd a b env w = (a env w).bind fun p => if p.1 = true then b env p.2 else some (false, p.2) := rfl
@[simp] theorem bOr_s {a b : TM W} : bOr a b env w = (a env w).bind fun p => if p.1 = true then some (true, p.2) else b env p.2 := rfl
@[simp] theorem bNot_s {a : TM W} : bNot a env w = (a env w).map fun p => (!p.1, p.2) := rfl
@[simp] theorem tTru_s {ti : Nat → Option Bool} {f : EM W} : tTru ti f env w = (f env w).bind fun p => (tru ti p.1).map fun b => (b, p.2) := rfl
@[simp] theorem eIf_s {t : TM W} {a b : EM W} : eIf t a b env w = (t env w).bind fun p => if p.1 = true then a env p.2 else b env p.2 := rfl
@[simp] theorem pNone_s : (pNone : PM W) env w = some (none, w) := rfl
@[simp] theorem pSome_s {f : EM W} : pSome f env w = (f env w).bind fun p => (asI p.1).map fun i => (some i, p.2) := rfl
@[simp] theorem eCut_s {a : EM W} {lo hi : PM W} : eCut a lo hi env w = (a env w).bind fun p => (lo env p.2).bind fun q => (hi env q.2).bind fun r => (fCut p.1 q.1 r.1).map fun d => (d, r.2) := rfl
@[simp] theorem eCall_s {f : List D → Option D} {a : AM W} : eCall f a env w = (a env w).bind fun p => (f p.1).map fun d => (d, p.2) := rfl
@[simp] theorem lCall_s {f : List D → Option (List D)} {a : AM W} : lCall f a env w = (a env w).bind fun p => (f p.1).map fun d => (d, p.2) := rfl
@[simp] theorem kCall_s {f : List D → Option (List Key × List D)} {a : AM W} : kCall f a env w = (a env w).bind fun p => (f p.1).map fun d => (d, p.2) := rfl
@[simp] theorem eK_s {f : KM W} : eK f env w = (f env w).map fun p => (.dic p.1.1 p.1.2, p.2) := rfl
@[simp] theorem vE_s {f : EM W} : vE f env w = (f env w).map fun p => (.val p.1, p.2) := rfl
@[simp] theorem vL_s {f : AM W} : vL f env w = (f env w).map fun p => (.own p.1, p.2) := rfl
@[simp] theorem vK_s {f : KM W} : vK f env w = (f env w).map fun p => (.ownd p.1.1 p.1.2, p.2) := rfl
@[simp] theorem eFn_s {n : Nat} {f : FM W} {a : AM W} : eFn n f a env w = (a env w).bind fun p => if p.1.length = n then f p.1 p.2 else none := rfl
@[simp] theorem eMk_s {k n : Nat} {f : IM W} {a : AM W} : eMk k n f a env w = (a env w).bind fun p => if p.1.length = n then (f p.1 p.2).map fun q => (.ins k q.1, q.2) else none := rfl
@[simp] theorem eMeth_s {k n : Nat} {f : FM W} {o : EM W} {a : AM W} : eMeth k n f o a env w = (o env w).bind fun p => (insOf k p.1).bind fun l => (a env p.2).bind fun q => if q.1.length = n then f (.ins k l :: q.1) q.2 else none := rfl
@[simp] theorem insOf_s {k : Nat} {l : List D} : insOf k (.ins k l) = some l := by unfold insOf; simp
@[simp] theorem iSeq_s {f : EM W} : iSeq f env w = (f env w).bind fun p => (seqD p.1).map fun l => (l, p.2) := rfl
@[simp] theorem iRng_s {g : List D → Option (List D)} {f : AM W} : iRng g f env w = (f env w).bind fun p => (g p.1).map fun l => (l, p.2) := rfl
@[simp] theorem iKeysD_s {f : EM W} : iKeysD f env w = (f env w).bind fun p => (dicOf p.1).map fun q => (q.1.map kD, p.2) := rfl
@[simp] theorem iValsD_s {f : EM W} : iValsD f env w = (f env w).bind fun p => (dicOf p.1).map fun q => (q.2, p.2) := rfl
@[simp] theorem iItemsD_s {f : EM W} : iItemsD f env w = (f env w).bind fun p => (dicOf p.1).map fun q => ((q.1.zip q.2).map fun r => .tup [kD r.1, r.2], p.2) := rfl
@[simp] theorem sNil_s : (sNil : SM W) env w = some (.nx, env, w) := rfl
@[simp] theorem sDrop_s {f : EM W} : sDrop f env w = (f env w).map fun p => (.nx, env, p.2) := rfl
@[simp] theorem sRet_s {f : EM W} : sRet f env w = (f env w).map fun p => (.rt p.1, env, p.2) := rfl
@[simp] theorem sSeq_s {a b : SM W} : sSeq a b env w = (a env w).bind fun p => match p.1 with | .nx => b p.2.1 p.2.2 | o => some (o, p.2.1, p.2.2) := rfl
@[simp] theorem sIf_s {t : TM W} {a b : SM W} : sIf t a b env w = (t env w).bind fun p => if p.1 = true then a env p.2 else b env p.2 := rfl
@[simp] theorem sSet_s {i : Nat} {f : VM W} : sSet i f env w = (f env w).map fun p => (.nx, env.set i p.1, p.2) := rfl
@[simp] theorem sAsg_s {f : EM W} {γ : GM} : sAsg f γ env w = (f env w).bind fun p => (γ p.1 env).map fun env => (.nx, env, p.2) := rfl
@[simp] theorem sPar_s {i j : Nat} {f g : VM W} : sPar i j f g env w = (f env w).bind fun p => (g env p.2).map fun q => (.nx, (env.set i p.1).set j q.1, q.2) := rfl
@[simp] theorem sPar3_s {i j l : Nat} {f g h : VM W} : sPar3 i j l f g h env w = (f env w).bind fun p => (g env p.2).bind fun q => (h env q.2).map fun r => (.nx, ((env.set i p.1).set j q.1).set l r.1, r.2) := rfl
@[simp] theorem sFrz_s {i : Nat} {ψ : SM W} : sFrz i ψ env w = ψ (frzE i env) w := rfl
@[simp] theorem tPeek_s {i : Nat} {φ : TM W} : tPeek i φ env w = φ (frzE i env) w := rfl
@[simp] theorem sApp_s {i : Nat} {f : EM W} : sApp i f env w = (f env w).bind fun p => match env[i]? with
  | some (.own l) => if l.length < sizeLine then some (.nx, env.set i (.own (l ++ [p.1])), p.2) else none
  | _ => none := rfl
@[simp] theorem sAug_s {i : Nat} {f : EM W} {op : D → D → Option D} : sAug i f op env w = match env[i]? with
  | some (.val a) => (f env w).bind fun p => (op a p.1).map fun d => (.nx, env.set i (.val d), p.2)
  | _ => none := rfl
@[simp] theorem sFldD_s {i k j : Nat} {f : EM W} : sFldD i k j f env w = (f env w).bind fun p => match env[i]? with
  | some (.obj k' l) => if k' = k ∧ l.length = j then some (.nx, env.set i (.obj k (l ++ [p.1])), p.2) else none
  | _ => none := rfl
@[simp] theorem sFor_s {ι : AM W} {γ : GM} {ψ : SM W} : sFor ι γ ψ env w = (ι env w).bind fun p => forGo γ ψ p.1 env p.2 := rfl
@[simp] theorem gmName_s {i : Nat} {d : D} : gmName i d env = some (env.set i (.val d)) := rfl
@[simp] theorem gmTup_s {n : Nat} {γ : GMs} {l : List D} : gmTup n γ (.tup l) env = if l.length = n then γ l env else none := rfl
@[simp] theorem gmCons_s {γ : GM} {δ : GMs} {d : D} {l : List D} : gmCons γ δ (d :: l) env = (γ d env).bind fun env => δ l env := rfl
@[simp] theorem gmNil_s : gmNil [] env = some env := rfl
@[simp] theorem tYesM_s : (tYesM : TM W) env w = some (true, w) := rfl
@[simp] theorem asB_s {b : Bool} : asB (.bl b) = some b := rfl
@[simp] theorem asI_s {i : Int} : asI (.int i) = some i := rfl
@[simp] theorem seqD_l {l : List D} : seqD (.lst l) = some l := rfl
@[simp] theorem seqD_t {l : List D} : seqD (.tup l) = some l := rfl
@[simp] theorem frzE_own {i : Nat} {l : List D} (h : env[i]? = some (.own l)) : frzE i env = env.set i (.val (.lst l)) := by unfold frzE; rw [h]; rfl
@[simp] theorem frzE_val {i : Nat} {d : D} (h : env[i]? = some (.val d)) : frzE i env = env := frzE_same h rfl
theorem frzE_un {i : Nat} (h : env[i]? = some .un) : frzE i env = env := frzE_same h rfl
@[simp] theorem wipeE_nil : wipeE env [] = env := rfl
@[simp] theorem wipeE_cons {v : Nat} {vs : List Nat} : wipeE env (v :: vs) = (wipeE env vs).set v .un := rfl
@[simp] theorem isIns_s {ks : List Nat} {j k : Nat} {l : List D} : isIns ks j (.ins k l) = if k ∈ ks then some (.bl (k == j)) else none := rfl
@[simp] theorem fLen_l {l : List D} : fLen [.lst l] = some (.int l.length) := rfl
@[simp] theorem fLen_t {l : List D} : fLen [.tup l] = some (.int l.length) := rfl
@[simp] theorem fLen_d {ks : List Key} {l : List D} : fLen [.dic ks l] = some (.int ks.length) := rfl
@[simp] theorem fLe_s {i j : Int} : fLe (.int i) (.int j) = some (.bl (decide (i ≤ j))) := rfl
@[simp] theorem fLt_s {i j : Int} : fLt (.int i) (.int j) = some (.bl (decide (i < j))) := rfl
@[simp] theorem fGt_s {i j : Int} : fGt (.int i) (.int j) = some (.bl (decide (j < i))) := rfl
@[simp] theorem fGe_s {i j : Int} : fGe (.int i) (.int j) = some (.bl (decide (j ≤ i))) := rfl
@[simp] theorem fSub_s {i j : Int} : fSub (.int i) (.int j) = some (.int (i - j)) := rfl
@[simp] theorem fAdd_s {i j : Int} : fAdd (.int i) (.int j) = some (.int (i + j)) := rfl
@[simp] theorem fEq_i {i j : Int} : fEq (.int i) (.int j) = some (.bl (decide (i = j))) := rfl
@[simp] theorem fNe_i {i j : Int} : fNe (.int i) (.int j) = some (.bl (!decide (i = j))) := rfl
@[simp] theorem fEq_str {i j : Str} : fEq (.str i) (.str j) = some (.bl (decide (i = j))) := rfl
@[simp] theorem fNe_str {i j : Str} : fNe (.str i) (.str j) = some (.bl (!decide (i = j))) := rfl
@[simp] theorem fIsN_s {d : D} : fIsN d .non = some (.bl d.isNon) := rfl
@[simp] theorem fNotN_s {d : D} : fNotN d .non = some (.bl (!d.isNon)) := rfl
@[simp] theorem isNon_n : D.isNon .non = true := rfl
@[simp] theorem isNon_s {x : Str} : D.isNon (.str x) = false := rfl
@[simp] theorem is_str_s {x : Str} : is_str (.str x) = some (.bl true) := rfl
@[simp] theorem isRow_l {l : List D} : isRow (.lst l) = some (.bl true) := rfl
@[simp] theorem isRow_t {l : List D} : isRow (.tup l) = some (.bl true) := rfl
@[simp] theorem isRow_s {x : Str} : isRow (.str x) = some (.bl false) := rfl
@[simp] theorem isRow_n : isRow .non = some (.bl false) := rfl
@[simp] theorem fTuple_l {l : List D} : fTuple [.lst l] = some (.tup l) := rfl
@[simp] theorem fTuple_t {l : List D} : fTuple [.tup l] = some (.tup l) := rfl
@[simp] theorem fPTup_l {l : List D} : fPTup [.lst l] = some (.pt l) := rfl
@[simp] theorem fPTup_t {l : List D} : fPTup [.tup l] = some (.tup l) := rfl
@[simp] theorem lList_l {l : List D} : lList [.lst l] = some l := rfl
@[simp] theorem lList_t {l : List D} : lList [.tup l] = some l := rfl
@[simp] theorem nrm_pt {l : List D} : nrm (.pt l) = .tup l := rfl
@[simp] theorem nrm_t {l : List D} : nrm (.tup l) = .tup l := rfl
end
/-! ### texts -/
abbrev sts (l : List Str) : List D := l.map .str
theorem sts_flat (l : List Str) : (sts l).all D.flat = true := by
  rw [List.all_eq_true]
  intro d hd
  obtain ⟨x, _, rfl⟩ := List.mem_map.mp hd
  rfl
theorem any_sts (k : Str) : ∀ l : List Str, ((sts l).any fun y => eqF y (.str k)) = decide (k ∈ l)
  | [] => rfl
  | x :: l => by
    show ((D.str x :: sts l).any fun y => eqF y (.str k)) = _
    rw [List.any_cons, any_sts k l]
    show (x == k || decide (k ∈ l)) = _
    by_cases h : x = k
    · subst h; simp
    · have : (x == k) = false := beq_eq_false_iff_ne.mpr h
      rw [this]
      have h2 : ¬ k = x := fun e => h e.symm
      simp [h2]
theorem inD_l {k : Str} {l : List Str} : inD (.str k) (.lst (sts l)) = some (decide (k ∈ l)) := by
  show (if ((D.str k).flat && (sts l).all D.flat) = true then some ((sts l).any fun y => eqF y (.str k)) else _) = _
  rw [show (D.str k).flat = true from rfl, sts_flat, any_sts]
  rfl
theorem inD_t {k : Str} {l : List Str} : inD (.str k) (.tup (sts l)) = some (decide (k ∈ l)) := by
  show (if ((D.str k).flat && (sts l).all D.flat) = true then some ((sts l).any fun y => eqF y (.str k)) else _) = _
  rw [show (D.str k).flat = true from rfl, sts_flat, any_sts]
  rfl
@[simp] theorem fIn_l {k : Str} {l : List Str} : fIn (.str k) (.lst (sts l)) = some (.bl (decide (k ∈ l))) := by unfold fIn; rw [inD_l]; rfl
@[simp] theorem fIn_t {k : Str} {l : List Str} : fIn (.str k) (.tup (sts l)) = some (.bl (decide (k ∈ l))) := by unfold fIn; rw [inD_t]; rfl
@[simp] theorem fNotIn_l {k : Str} {l : List Str} : fNotIn (.str k) (.lst (sts l)) = some (.bl (!decide (k ∈ l))) := by unfold fNotIn; rw [inD_l]; rfl
@[simp] theorem fNotIn_t {k : Str} {l : List Str} : fNotIn (.str k) (.tup (sts l)) = some (.bl (!decide (k ∈ l))) := by unfold fNotIn; rw [inD_t]; rfl
/-! ### comprehensions -/
section
variable {W : Type} {α : Type}
theorem lcGo_map {γ : GM} {tt : TM W} {te : EM W} {env : Env'} {w : W} (enc : α → D) (b : α → Bool) (v : α → D) : ∀ (l : List α), (∀ x ∈ l, ∃ env1, γ (enc x) env = some env1 ∧ tt env1 w = some (b x, w) ∧ (b x = true → te env1 w = some (v x, w))) →
    lcGo γ tt te (l.map enc) env w = some ((l.filter b).map v, w)
  | [], _ => rfl
  | x :: l, h => by
    obtain ⟨env1, h1, h2, h3⟩ := h x List.mem_cons_self
    have ih := lcGo_map enc b v l fun y hy => h y (List.mem_cons_of_mem _ hy)
    rw [List.map_cons]
    unfold lcGo
    rw [h1]
    show ((tt env1 w).bind _) = _
    rw [h2]
    show (if b x = true then (te env1 w).bind _ else _) = _
    by_cases hb : b x = true
    · rw [if_pos hb, h3 hb]
      show (lcGo γ tt te (l.map enc) env w).map _ = _
      rw [ih, List.filter_cons_of_pos hb]
      rfl
    · rw [if_neg hb, List.filter_cons_of_neg hb]
      exact ih
theorem lLc_map {vs : List Nat} {ι : AM W} {γ : GM} {tt : TM W} {te : EM W} {env : Env'} {w : W} (enc : α → D) (b : α → Bool) (v : α → D) (l : List α) (hi : ι env w = some (l.map enc, w)) (hl : l.length ≤ sizeLine)
    (h : ∀ x ∈ l, ∃ env1, γ (enc x) (wipeE env vs) = some env1 ∧ tt env1 w = some (b x, w) ∧ (b x = true → te env1 w = some (v x, w))) : lLc vs ι γ tt te env w = some ((l.filter b).map v, w) := by
  unfold lLc
  rw [hi]
  show (if (l.map enc).length ≤ sizeLine then _ else _) = _
  rw [List.length_map, if_pos hl]
  exact lcGo_map enc b v l h
/-- all are taken -/
theorem lLc_all {vs : List Nat} {ι : AM W} {γ : GM} {tt : TM W} {te : EM W} {env : Env'} {w : W} (enc : α → D) (v : α → D) (l : List α) (hi : ι env w = some (l.map enc, w)) (hl : l.length ≤ sizeLine)
    (h : ∀ x ∈ l, ∃ env1, γ (enc x) (wipeE env vs) = some env1 ∧ tt env1 w = some (true, w) ∧ te env1 w = some (v x, w)) : lLc vs ι γ tt te env w = some (l.map v, w) := by
  rw [lLc_map enc (fun _ => true) v l hi hl fun x hx => by
    obtain ⟨e, h1, h2, h3⟩ := h x hx
    exact ⟨e, h1, h2, fun _ => h3⟩]
  rw [List.filter_eq_self.mpr fun _ _ => rfl]
/-- loops -/
theorem forGo_ind {γ : GM} {ψ : SM W} (P : Nat → Env' → W → Prop) (enc : α → D) : ∀ (l : List α) (k : Nat) (env : Env') (w : W), P k env w →
    (∀ i x env w, l[i]? = some x → P (k + i) env w → ∃ env1 env2 w2, γ (enc x) env = some env1 ∧ ψ env1 w = some (.nx, env2, w2) ∧ P (k + i + 1) env2 w2) →
    ∃ env' w', forGo γ ψ (l.map enc) env w = some (.nx, env', w') ∧ P (k + l.length) env' w'
  | [], k, env, w, h0, _ => ⟨env, w, rfl, h0⟩
  | x :: l, k, env, w, h0, h => by
    obtain ⟨env1, env2, w2, h1, h2, h3⟩ := h 0 x env w rfl h0
    obtain ⟨env', w', h4, h5⟩ := forGo_ind P enc l (k + 1) env2 w2 h3 fun i y env w hi hp => by
      have := h (i + 1) y env w hi (by rw [show k + (i + 1) = k + 1 + i by omega]; exact hp)
      rw [show k + (i + 1) + 1 = k + 1 + i + 1 by omega] at this
      exact this
    refine ⟨env', w', ?_, by rw [List.length_cons, show k + (l.length + 1) = k + 1 + l.length by omega]; exact h5⟩
    rw [List.map_cons]
    unfold forGo
    rw [h1]
    show ((ψ env1 w).bind _) = _
    rw [h2]
    exact h4
/-- a loop that ends each turn well and keeps what is known -/
theorem forGo_inv {γ : GM} {ψ : SM W} (P : Env' → Prop) (enc : α → D) (l : List α) (env : Env') (w : W) (h0 : P env) (h : ∀ x ∈ l, ∀ env, P env → ∃ env1 env2, γ (enc x) env = some env1 ∧ ψ env1 w = some (.nx, env2, w) ∧ P env2) :
    ∃ env', forGo γ ψ (l.map enc) env w = some (.nx, env', w) ∧ P env' := by
  obtain ⟨env', w', h1, h2, h3⟩ := forGo_ind (fun _ e v => P e ∧ v = w) enc l 0 env w ⟨h0, rfl⟩ fun i x env v hi hp => by
    obtain ⟨env1, env2, e1, e2, e3⟩ := h x (List.mem_of_getElem? hi) env hp.1
    refine ⟨env1, env2, w, e1, by rw [hp.2]; exact e2, e3, rfl⟩
  subst h3
  exact ⟨env', h1, h2⟩
end
/-! ### lists of bools -/
section
variable {α : Type}
theorem asBls_map (f : α → Bool) : ∀ l : List α, asBls (l.map fun x => D.bl (f x)) = some (l.map f)
  | [] => rfl
  | x :: l => by
    rw [List.map_cons]
    show (asBls (l.map fun x => D.bl (f x))).map (f x :: ·) = _
    rw [asBls_map f l]; rfl
@[simp] theorem fAll_map {f : α → Bool} {l : List α} : fAll [.lst (l.map fun x => D.bl (f x))] = some (.bl (l.all f)) := by
  show (asBls _).map _ = _
  rw [asBls_map]
  show some (D.bl ((l.map f).all id)) = _
  rw [List.all_map]; rfl
@[simp] theorem fAny_map {f : α → Bool} {l : List α} : fAny [.lst (l.map fun x => D.bl (f x))] = some (.bl (l.any f)) := by
  show (asBls _).map _ = _
  rw [asBls_map]
  show some (D.bl ((l.map f).any id)) = _
  rw [List.any_map]; rfl
@[simp] theorem fAll_c {c : Bool} {l : List α} : fAll [.lst (l.map fun _ => D.bl c)] = some (.bl (l.all fun _ => c)) := fAll_map
theorem asInts_map (f : α → Int) : ∀ l : List α, asInts (l.map fun x => D.int (f x)) = some (l.map f)
  | [] => rfl
  | x :: l => by
    rw [List.map_cons]
    show (asInts (l.map fun x => D.int (f x))).map (f x :: ·) = _
    rw [asInts_map f l]; rfl
/-! ### dicts -/
theorem putD_new {ks : List Key} {l : List D} {k : Key} {d : D} (h : k ∉ ks) : putD ks l k d = (ks ++ [k], l ++ [d]) := by
  unfold putD
  rw [if_neg]
  rw [List.any_eq_true]
  rintro ⟨x, hx, e⟩
  exact h (of_decide_eq_true e ▸ hx)
theorem mrgD_app : ∀ (ps : List (Key × D)) (ks : List Key) (l : List D), (ks ++ ps.map (·.1)).Nodup → mrgD (ks, l) ps = (ks ++ ps.map (·.1), l ++ ps.map (·.2))
  | [], ks, l, _ => by simp [mrgD]
  | p :: ps, ks, l, h => by
    have hk : p.1 ∉ ks := fun z => by
      rw [List.nodup_append] at h
      exact h.2.2 _ z _ (by simp) rfl
    show mrgD (putD ks l p.1 p.2) ps = _
    rw [putD_new hk, mrgD_app ps (ks ++ [p.1]) (l ++ [p.2]) (by simpa using h)]
    simp
theorem mrgD_nodup {ps : List (Key × D)} (h : (ps.map (·.1)).Nodup) : mrgD ([], []) ps = (ps.map (·.1), ps.map (·.2)) := by
  rw [mrgD_app ps [] [] (by simpa using h)]; rfl
theorem zip_maps {β γ : Type} {f : α → β} {g : α → γ} : ∀ l : List α, (l.map f).zip (l.map g) = l.map fun x => (f x, g x)
  | [] => rfl
  | x :: l => by simp [zip_maps l]
theorem lookD_map (f : α → Key) (g : α → D) (l : List α) (k : Key) : lookD (l.map f) (l.map g) k = (l.find? fun p => decide (f p = k)).map g := by
  unfold lookD
  rw [zip_maps, List.find?_map]
  simp only [Option.map_map]
  rfl
theorem dcGo_map {W : Type} {γ : GM} {tt : TM W} {κ φ : EM W} {env : Env'} {w : W} (enc : α → D) (k : α → Key) (v : α → D) : ∀ (l : List α) (acc : List Key × List D), (∀ x ∈ l, ∃ env1 y, γ (enc x) env = some env1 ∧ tt env1 w = some (true, w) ∧ κ env1 w = some (y, w) ∧ keyD y = some (k x) ∧ φ env1 w = some (v x, w)) →
    dcGo γ tt κ φ (l.map enc) env w acc = some (mrgD acc (l.map fun x => (k x, v x)), w)
  | [], acc, _ => rfl
  | x :: l, acc, h => by
    obtain ⟨env1, y, h1, h2, h3, h4, h5⟩ := h x List.mem_cons_self
    rw [List.map_cons]
    unfold dcGo
    rw [h1]
    show ((tt env1 w).bind _) = _
    rw [h2]
    show ((κ env1 w).bind _) = _
    rw [h3]
    show ((keyD y).bind _) = _
    rw [h4]
    show ((φ env1 w).bind _) = _
    rw [h5]
    exact dcGo_map enc k v l _ fun z hz => h z (List.mem_cons_of_mem _ hz)
theorem kDc_map {W : Type} {vs : List Nat} {ι : AM W} {γ : GM} {tt : TM W} {κ φ : EM W} {env : Env'} {w : W} (enc : α → D) (k : α → Key) (v : α → D) (l : List α) (hi : ι env w = some (l.map enc, w)) (hl : l.length ≤ sizeLine) (hn : (l.map k).Nodup)
    (h : ∀ x ∈ l, ∃ env1 y, γ (enc x) (wipeE env vs) = some env1 ∧ tt env1 w = some (true, w) ∧ κ env1 w = some (y, w) ∧ keyD y = some (k x) ∧ φ env1 w = some (v x, w)) :
    kDc vs ι γ tt κ φ env w = some ((l.map k, l.map v), w) := by
  unfold kDc
  rw [hi]
  show (if (l.map enc).length ≤ sizeLine then _ else _) = _
  rw [List.length_map, if_pos hl]
  show dcGo γ tt κ φ (l.map enc) (wipeE env vs) w ([], []) = _
  rw [dcGo_map enc k v l _ h, mrgD_nodup (by rw [List.map_map]; exact hn), List.map_map, List.map_map]
  rfl
end
@[simp] theorem keyD_str {x : Str} : keyD (.str x) = some (.inr x) := rfl
@[simp] theorem keyD_int {x : Int} : keyD (.int x) = some (.inl x) := rfl
@[simp] theorem fGet_d {ks : List Key} {l : List D} {x : D} : fGet (.dic ks l) x = (keyD x).bind fun k => lookD ks l k := rfl
theorem le_line {n : Nat} (h : n ≤ 1000) : n ≤ sizeLine := by unfold sizeLine; omega
/-- a row of texts: a list or a tuple -/
inductive Row : D → List Str → Prop
  | l (s : List Str) : Row (.lst (sts s)) s
  | t (s : List Str) : Row (.tup (sts s)) s
theorem Row.seq {d : D} {s : List Str} (r : Row d s) : seqD d = some (s.map D.str) := by cases r <;> rfl
theorem Row.row {d : D} {s : List Str} (r : Row d s) : isRow d = some (.bl true) := by cases r <;> rfl
theorem Row.len {d : D} {s : List Str} (r : Row d s) : fLen [d] = some (.int s.length) := by cases r <;> simp
theorem Row.in_ {d : D} {s : List Str} (r : Row d s) (k : Str) : fIn (.str k) d = some (.bl (decide (k ∈ s))) := by cases r <;> simp
theorem Row.nin {d : D} {s : List Str} (r : Row d s) (k : Str) : fNotIn (.str k) d = some (.bl (!decide (k ∈ s))) := by cases r <;> simp
theorem Row.seqN {d : D} {s : List Str} (r : Row d s) : DL.seqN d = some (s.map D.str) := by cases r <;> rfl
/-! ### places, slices, pairs -/
section
variable {α : Type}
theorem atI_nat {l : List α} (k : Nat) : atI l (k : Int) = l[k]? := by
  unfold atI ixN
  by_cases h : (k : Int) < l.length
  · rw [if_pos (by omega), if_pos h]
    show l[(k : Int).toNat]? = _
    rw [Int.toNat_natCast]
  · rw [if_pos (by omega), if_neg h]
    rw [List.getElem?_eq_none (by omega)]
    rfl
theorem atI_last {l : List α} : atI l (-1) = l.getLast? := by
  unfold atI ixN
  rw [if_neg (by omega)]
  cases l with
  | nil => rfl
  | cons x l =>
    rw [if_pos (by rw [List.length_cons]; omega)]
    show (x :: l)[((-1 : Int) + ((x :: l).length : Nat)).toNat]? = _
    rw [List.getLast?_eq_getElem?]
    congr 1
    rw [List.length_cons]; omega
@[simp] theorem fIx_t0 {a : D} {l : List D} : fIx (.tup (a :: l)) (.int 0) = some a := atI_nat 0
@[simp] theorem fIx_l0 {a : D} {l : List D} : fIx (.lst (a :: l)) (.int 0) = some a := atI_nat 0
@[simp] theorem fIx_t1 {a b : D} {l : List D} : fIx (.tup (a :: b :: l)) (.int 1) = some b := atI_nat 1
@[simp] theorem fIx_l1 {a b : D} {l : List D} : fIx (.lst (a :: b :: l)) (.int 1) = some b := atI_nat 1
@[simp] theorem fIx_t2 {a b z : D} {l : List D} : fIx (.tup (a :: b :: z :: l)) (.int 2) = some z := atI_nat 2
theorem fIx_tm {l : List D} : fIx (.tup l) (.int (-1)) = l.getLast? := atI_last
theorem cutL_to {l : List α} (k : Nat) : cutL l none (some (k : Int)) = l.take k := by
  unfold cutL
  rw [HT.sIx_nat]
  show List.take _ (List.drop 0 l) = _
  rw [List.drop_zero, HT.sIx_none, Nat.sub_zero]
  rw [List.take_eq_take_iff]; omega
theorem cutL_from {l : List α} (k : Nat) : cutL l (some (k : Int)) none = l.drop k := by
  unfold cutL
  rw [HT.sIx_nat, HT.sIx_none]
  by_cases h : k ≤ l.length
  · rw [Nat.min_eq_left h]
    rw [List.take_of_length_le (by rw [List.length_drop]; omega)]
  · rw [Nat.min_eq_right (by omega), List.drop_length, List.take_nil, List.drop_of_length_le (by omega)]
theorem cutL_butlast {l : List α} : cutL l none (some (-1)) = l.dropLast := by
  unfold cutL HT.sIx
  show List.take _ (List.drop 0 l) = _
  rw [List.drop_zero, List.dropLast_eq_take]
  congr 1
  show (if (-1 : Int) < 0 then ((-1 : Int) + (l.length : Int)).toNat else _) - 0 = _
  rw [if_pos (by omega)]
  omega
@[simp] theorem fCut_to {l : List D} {k : Nat} : fCut (.lst l) none (some (k : Int)) = some (.lst (l.take k)) := by
  show some (D.lst (cutL l none (some (k : Int)))) = _
  rw [cutL_to]
@[simp] theorem fCut_toT {l : List D} {k : Nat} : fCut (.tup l) none (some (k : Int)) = some (.tup (l.take k)) := by
  show some (D.tup (cutL l none (some (k : Int)))) = _
  rw [cutL_to]
@[simp] theorem fCut_1T {l : List D} : fCut (.tup l) (some 1) none = some (.tup l.tail) := by
  show some (D.tup (cutL l (some ((1 : Nat) : Int)) none)) = _
  rw [cutL_from, List.drop_one]
@[simp] theorem fCut_bl {l : List D} : fCut (.lst l) none (some (-1)) = some (.lst l.dropLast) := by
  show some (D.lst (cutL l none (some (-1)))) = _
  rw [cutL_butlast]
theorem enumL_map (f : α → D) (l : List α) : enumL [.lst (l.map f)] = some (l.zipIdx.map fun p => .tup [.int (p.2 : Nat), f p.1]) := by
  show some ((l.map f).mapIdx _) = _
  rw [List.mapIdx_eq_zipIdx_map, List.zipIdx_map, List.map_map]
  rfl
end
/-! ### == of lists -/
section
variable {α : Type} [DecidableEq α]
theorem okns_map {f : α → D} {n : Nat} : ∀ {l : List α}, (∀ x ∈ l, (f x).okn n = true) → D.okns (l.map f) n = true
  | [], _ => rfl
  | x :: l, h => by
    show ((f x).okn n && D.okns (l.map f) n) = true
    rw [h x List.mem_cons_self, okns_map fun y hy => h y (List.mem_cons_of_mem _ hy)]; rfl
structure EqEnc (f : α → D) (P : α → Prop) (n : Nat) : Prop where
  ok : ∀ x, P x → (f x).okn n = true
  eq : ∀ x y, PyData.eqv (f x).py (f y).py = decide (x = y)
theorem eqvAll_map {f : α → D} (h : ∀ x y, PyData.eqv (f x).py (f y).py = decide (x = y)) : ∀ a b : List α, PyData.eqvAll (D.pys (a.map f)) (D.pys (b.map f)) = decide (a = b)
  | [], [] => rfl
  | [], _ :: _ => rfl
  | _ :: _, [] => rfl
  | x :: a, y :: b => by
    show (PyData.eqv (f x).py (f y).py && PyData.eqvAll (D.pys (a.map f)) (D.pys (b.map f))) = _
    rw [h, eqvAll_map h a b]
    by_cases e : x = y <;> by_cases e2 : a = b <;> simp [e, e2]
theorem okn_mono {n m : Nat} (h : n ≤ m) : ∀ {d : D}, d.okn n = true → d.okn m = true := by
  have key : (∀ (d : D) (n m : Nat), n ≤ m → d.okn n = true → d.okn m = true) ∧ True := ⟨?_, trivial⟩
  · exact fun {d} hd => key.1 d n m h hd
  · intro d
    refine D.rec (motive_1 := fun d => ∀ n m, n ≤ m → d.okn n = true → d.okn m = true) (motive_2 := fun l => ∀ n m, n ≤ m → D.okns l n = true → D.okns l m = true) ?_ ?_ ?_ ?_ ?_ ?_ ?_ ?_ ?_ ?_ ?_ ?_ ?_ d
    · intros; rfl
    · intros; rfl
    · intros; rfl
    · intro x n m _ h; exact h
    · intro l ih n m hnm h
      cases n with
      | zero => simp [D.okn] at h
      | succ n =>
        cases m with
        | zero => omega
        | succ m => exact ih n m (by omega) h
    · intro l ih n m hnm h
      cases n with
      | zero => simp [D.okn] at h
      | succ n =>
        cases m with
        | zero => omega
        | succ m => exact ih n m (by omega) h
    · intro ns n m hnm h
      cases n with
      | zero => simp [D.okn] at h
      | succ n =>
        cases m with
        | zero => omega
        | succ m => rfl
    · intro ks l _ n m _ h; simp [D.okn] at h
    · intro c l _ n m _ h; simp [D.okn] at h
    · intro n m _ h; simp [D.okn] at h
    · intro l _ n m _ h; simp [D.okn] at h
    · intros; rfl
    · intro d l ih1 ih2 n m hnm h
      simp only [D.okns, Bool.and_eq_true] at h ⊢
      exact ⟨ih1 n m hnm h.1, ih2 n m hnm h.2⟩
theorem eqD_of_ok {a b : D} (ha : a.okn 60 = true) (hb : b.okn 60 = true) (h1 : ∀ x, a ≠ .str x) (h2 : ∀ x, a ≠ .int x) : eqD a b = some (PyData.eqv a.py b.py) := by
  unfold eqD
  split
  · exact absurd rfl (h1 _)
  · exact absurd rfl (h2 _)
  · rw [ha, hb]; rfl
variable {f : α → D} {P : α → Prop} {n : Nat}
theorem EqEnc.tup (E : EqEnc f P n) : EqEnc (fun l : List α => D.tup (l.map f)) (fun l => ∀ x ∈ l, P x) (n + 1) where
  ok := fun l h => show D.okns (l.map f) n = true from okns_map fun x hx => E.ok x (h x hx)
  eq := fun a b => eqvAll_map E.eq a b
theorem EqEnc.lst (E : EqEnc f P n) : EqEnc (fun l : List α => D.lst (l.map f)) (fun l => ∀ x ∈ l, P x) (n + 1) where
  ok := fun l h => show D.okns (l.map f) n = true from okns_map fun x hx => E.ok x (h x hx)
  eq := fun a b => eqvAll_map E.eq a b
theorem EqEnc.eqD_lst (E : EqEnc f P n) (hn : n + 1 ≤ 60) {a b : List α} (ha : ∀ x ∈ a, P x) (hb : ∀ x ∈ b, P x) : eqD (.lst (a.map f)) (.lst (b.map f)) = some (decide (a = b)) := by
  rw [eqD_of_ok (okn_mono hn (E.lst.ok a ha)) (okn_mono hn (E.lst.ok b hb)) (by simp) (by simp)]
  exact congrArg some (E.lst.eq a b)
theorem EqEnc.eqD_tup (E : EqEnc f P n) (hn : n + 1 ≤ 60) {a b : List α} (ha : ∀ x ∈ a, P x) (hb : ∀ x ∈ b, P x) : eqD (.tup (a.map f)) (.tup (b.map f)) = some (decide (a = b)) := by
  rw [eqD_of_ok (okn_mono hn (E.tup.ok a ha)) (okn_mono hn (E.tup.ok b hb)) (by simp) (by simp)]
  exact congrArg some (E.tup.eq a b)
theorem EqEnc.eq_lst (E : EqEnc f P n) (hn : n + 1 ≤ 60) {a b : List α} (ha : ∀ x ∈ a, P x) (hb : ∀ x ∈ b, P x) : fEq (.lst (a.map f)) (.lst (b.map f)) = some (.bl (decide (a = b))) := by unfold fEq; rw [E.eqD_lst hn ha hb]; rfl
theorem EqEnc.ne_lst (E : EqEnc f P n) (hn : n + 1 ≤ 60) {a b : List α} (ha : ∀ x ∈ a, P x) (hb : ∀ x ∈ b, P x) : fNe (.lst (a.map f)) (.lst (b.map f)) = some (.bl (!decide (a = b))) := by unfold fNe; rw [E.eqD_lst hn ha hb]; rfl
theorem EqEnc.eq_tup (E : EqEnc f P n) (hn : n + 1 ≤ 60) {a b : List α} (ha : ∀ x ∈ a, P x) (hb : ∀ x ∈ b, P x) : fEq (.tup (a.map f)) (.tup (b.map f)) = some (.bl (decide (a = b))) := by unfold fEq; rw [E.eqD_tup hn ha hb]; rfl
theorem EqEnc.ne_tup (E : EqEnc f P n) (hn : n + 1 ≤ 60) {a b : List α} (ha : ∀ x ∈ a, P x) (hb : ∀ x ∈ b, P x) : fNe (.tup (a.map f)) (.tup (b.map f)) = some (.bl (!decide (a = b))) := by unfold fNe; rw [E.eqD_tup hn ha hb]; rfl
/-- against the empty list -/
theorem EqEnc.nil (E : EqEnc f P n) (hn : n + 1 ≤ 60) {a : List α} (ha : ∀ x ∈ a, P x) : fEq (.lst (a.map f)) (.lst []) = some (.bl (decide (a = []))) := E.eq_lst hn (b := []) ha (by simp)
theorem EqEnc.nnil (E : EqEnc f P n) (hn : n + 1 ≤ 60) {a : List α} (ha : ∀ x ∈ a, P x) : fNe (.lst (a.map f)) (.lst []) = some (.bl (!decide (a = []))) := E.ne_lst hn (b := []) ha (by simp)
theorem EqEnc.tnnil (E : EqEnc f P n) (hn : n + 1 ≤ 60) {a : List α} (ha : ∀ x ∈ a, P x) : fNe (.tup (a.map f)) (.tup []) = some (.bl (!decide (a = []))) := E.ne_tup hn (b := []) ha (by simp)
/-- in -/
theorem EqEnc.any_ (E : EqEnc f P n) (x : α) : ∀ l : List α, ((D.pys (l.map f)).any fun y => PyData.eqv y (f x).py) = decide (x ∈ l)
  | [] => rfl
  | y :: l => by
    show (PyData.eqv (f y).py (f x).py || (D.pys (l.map f)).any fun y => PyData.eqv y (f x).py) = _
    rw [E.eq, E.any_ x l]
    by_cases e : y = x
    · subst e; simp
    · have : ¬ x = y := fun z => e z.symm
      simp [e, this]
theorem EqEnc.in_ (E : EqEnc f P n) (hn : n ≤ 59) (hf : ∀ x, (f x).flat = false) (hs : ∀ x z, f x ≠ .str z) {x : α} {l : List α} (hx : P x) (hl : ∀ y ∈ l, P y) : inD (f x) (.lst (l.map f)) = some (decide (x ∈ l)) := by
  have e1 : inD (f x) (.lst (l.map f)) = (if (f x).flat && (l.map f).all D.flat then some ((l.map f).any fun y => eqF y (f x)) else if (f x).okn 60 && D.okns (l.map f) 59 then some ((D.pys (l.map f)).any fun y => PyData.eqv y (f x).py) else none) := by
    unfold inD
    split <;> simp_all
  rw [e1, hf x]
  rw [if_neg (by simp), okn_mono (by omega) (E.ok x hx), okns_map (n := 59) fun y hy => okn_mono hn (E.ok y (hl y hy))]
  show some _ = _
  rw [E.any_]
theorem EqEnc.fIn (E : EqEnc f P n) (hn : n ≤ 59) (hf : ∀ x, (f x).flat = false) (hs : ∀ x z, f x ≠ .str z) {x : α} {l : List α} (hx : P x) (hl : ∀ y ∈ l, P y) : DL.fIn (f x) (.lst (l.map f)) = some (.bl (decide (x ∈ l))) := by unfold DL.fIn; rw [E.in_ hn hf hs hx hl]; rfl
theorem EqEnc.fNotIn (E : EqEnc f P n) (hn : n ≤ 59) (hf : ∀ x, (f x).flat = false) (hs : ∀ x z, f x ≠ .str z) {x : α} {l : List α} (hx : P x) (hl : ∀ y ∈ l, P y) : DL.fNotIn (f x) (.lst (l.map f)) = some (.bl (!decide (x ∈ l))) := by unfold DL.fNotIn; rw [E.in_ hn hf hs hx hl]; rfl
end
abbrev Sok (x : Str) : Prop := PyData.strOk x = true
theorem enc_str : EqEnc D.str Sok 0 where
  ok := fun x h => h
  eq := fun x y => by
    show (x == y) = _
    by_cases e : x = y
    · subst e; simp
    · rw [beq_eq_false_iff_ne.mpr e]; simp [e]
@[simp] theorem fNe_bl {a b : Bool} : fNe (.bl a) (.bl b) = some (.bl (!decide (a = b))) := by cases a <;> cases b <;> rfl
@[simp] theorem fEq_bl {a b : Bool} : fEq (.bl a) (.bl b) = some (.bl (decide (a = b))) := by cases a <;> cases b <;> rfl
/-! ### loops that may return -/
section
variable {W : Type} {α : Type}
theorem forGo_or {γ : GM} {ψ : SM W} {w : W} (P : Nat → Env' → Prop) (R : D → Prop) (enc : α → D) : ∀ (l : List α) (k : Nat) (env : Env'), P k env →
    (∀ i x env, l[i]? = some x → P (k + i) env → ∃ env1, γ (enc x) env = some env1 ∧ ((∃ d env2, ψ env1 w = some (.rt d, env2, w) ∧ R d) ∨ ∃ env2, ψ env1 w = some (.nx, env2, w) ∧ P (k + i + 1) env2)) →
    (∃ d env', forGo γ ψ (l.map enc) env w = some (.rt d, env', w) ∧ R d) ∨ ∃ env', forGo γ ψ (l.map enc) env w = some (.nx, env', w) ∧ P (k + l.length) env'
  | [], k, env, h0, _ => .inr ⟨env, rfl, h0⟩
  | x :: l, k, env, h0, h => by
    obtain ⟨env1, h1, h2⟩ := h 0 x env rfl h0
    rw [List.map_cons]
    unfold forGo
    rw [h1]
    show (∃ d env', ((ψ env1 w).bind _) = _ ∧ R d) ∨ ∃ env', ((ψ env1 w).bind _) = _ ∧ _
    rcases h2 with ⟨d, env2, h3, h4⟩ | ⟨env2, h3, h4⟩
    · rw [h3]
      exact .inl ⟨d, env2, rfl, h4⟩
    · rw [h3]
      have := forGo_or P R enc l (k + 1) env2 h4 fun i y env hi hp => by
        have := h (i + 1) y env hi (by rw [show k + (i + 1) = k + 1 + i by omega]; exact hp)
        rw [show k + (i + 1) + 1 = k + 1 + i + 1 by omega] at this
        exact this
      rw [show k + (x :: l).length = k + 1 + l.length by rw [List.length_cons]; omega]
      exact this
end
/-! ### choices -/
abbrev tupS (l : List Str) : D := .tup (sts l)
theorem enc_tup : EqEnc tupS (fun l => ∀ x ∈ l, Sok x) 1 := enc_str.tup
theorem combD_map (r : Nat) (hr : r ≤ 1000) (l : List Str) : combD [.lst (sts l), .int r] = some ((Comb.combL r l).map tupS) := by
  show (if 0 ≤ (r : Int) ∧ (r : Int) ≤ 1000 then some ((Comb.combL (r : Int).toNat (sts l)).map D.tup) else none) = _
  rw [if_pos (by omega), Int.toNat_natCast, Comb.combL_map, List.map_map]
  rfl
theorem combD_mapT (r : Nat) (hr : r ≤ 1000) (l : List Str) : combD [.tup (sts l), .int r] = some ((Comb.combL r l).map tupS) := by
  show (if 0 ≤ (r : Int) ∧ (r : Int) ≤ 1000 then some ((Comb.combL (r : Int).toNat (sts l)).map D.tup) else none) = _
  rw [if_pos (by omega), Int.toNat_natCast, Comb.combL_map, List.map_map]
  rfl
theorem combL_small {α : Type} : ∀ (r : Nat) (l : List α), (Comb.combL r l).length ≤ 2 ^ l.length
  | 0, l => by cases l <;> simp [Comb.combL, Nat.one_le_two_pow]
  | r + 1, [] => by simp [Comb.combL]
  | r + 1, x :: l => by
    have h1 := combL_small r l
    have h2 := combL_small (r + 1) l
    show ((Comb.combL r l).map (x :: ·) ++ Comb.combL (r + 1) l).length ≤ _
    rw [List.length_append, List.length_map, List.length_cons, Nat.pow_succ]
    omega
end DL
set_option Elab.async false
set_option linter.all false
/-! PlA: plain facts: choices, least sets. -/
namespace PL
open Comb
section
variable {α : Type}
theorem pw_all {R : α → α → Prop} : ∀ {l : List α}, (∀ a ∈ l, ∀ b ∈ l, R a b) → l.Pairwise R
  | [], _ => .nil
  | x :: l, h => .cons (fun b hb => h x List.mem_cons_self b (List.mem_cons_of_mem _ hb)) (pw_all fun a ha b hb => h a (List.mem_cons_of_mem _ ha) b (List.mem_cons_of_mem _ hb))
theorem filter_mono {p q : α → Bool} : ∀ {l : List α}, (∀ x ∈ l, p x = true → q x = true) → (l.filter p).Sublist (l.filter q)
  | [], _ => .slnil
  | x :: l, h => by
    have ih := filter_mono (l := l) fun y hy => h y (List.mem_cons_of_mem _ hy)
    by_cases hp : p x = true
    · rw [List.filter_cons_of_pos hp, List.filter_cons_of_pos (h x List.mem_cons_self hp)]; exact ih.cons_cons x
    · rw [List.filter_cons_of_neg hp]
      by_cases hq : q x = true
      · rw [List.filter_cons_of_pos hq]; exact ih.cons x
      · rw [List.filter_cons_of_neg hq]; exact ih
theorem mem_combL : ∀ {r : Nat} {l c : List α}, c ∈ combL r l ↔ c.Sublist l ∧ c.length = r
  | 0, l, c => by
    have : combL 0 l = [[]] := by cases l <;> rfl
    rw [this, List.mem_singleton, List.length_eq_zero_iff]
    exact ⟨fun h => ⟨h ▸ List.nil_sublist _, h⟩, fun h => h.2⟩
  | r + 1, [], c => by
    simp only [combL, List.not_mem_nil, List.sublist_nil, false_iff, not_and]
    rintro rfl; simp
  | r + 1, x :: l, c => by
    show c ∈ (combL r l).map (x :: ·) ++ combL (r + 1) l ↔ _
    rw [List.mem_append, List.mem_map, mem_combL (r := r + 1) (l := l)]
    constructor
    · rintro (⟨c', h, rfl⟩ | ⟨h1, h2⟩)
      · obtain ⟨h1, h2⟩ := mem_combL.mp h
        exact ⟨h1.cons_cons x, by simp [h2]⟩
      · exact ⟨h1.cons x, h2⟩
    · rintro ⟨h1, h2⟩
      cases h1 with
      | cons _ h => exact .inr ⟨h, h2⟩
      | cons_cons _ h => exact .inl ⟨_, mem_combL.mpr ⟨h, by simpa using h2⟩, rfl⟩
/-- the choices that are gone through: fewer first -/
def cands (n : Nat) (xs : List α) : List (List α) := (List.range n).flatMap fun k => combL k xs
theorem mem_cands {n : Nat} {xs c : List α} : c ∈ cands n xs ↔ c.Sublist xs ∧ c.length < n := by
  unfold cands
  rw [List.mem_flatMap]
  constructor
  · rintro ⟨k, hk, h⟩
    obtain ⟨h1, h2⟩ := mem_combL.mp h
    exact ⟨h1, by rw [h2]; exact List.mem_range.mp hk⟩
  · rintro ⟨h1, h2⟩
    exact ⟨c.length, List.mem_range.mpr h2, mem_combL.mpr ⟨h1, rfl⟩⟩
theorem mem_all {xs c : List α} : c ∈ cands (xs.length + 1) xs ↔ c.Sublist xs := by
  rw [mem_cands]
  exact ⟨fun h => h.1, fun h => ⟨h, by have := h.length_le; omega⟩⟩
theorem cands_len (n : Nat) (xs : List α) : (cands n xs).Pairwise fun a b => a.length ≤ b.length := by
  unfold cands
  rw [List.pairwise_flatMap]
  refine ⟨fun k _ => ?_, ?_⟩
  · refine pw_all fun a ha b hb => ?_
    rw [(mem_combL.mp ha).2, (mem_combL.mp hb).2]; exact Nat.le_refl _
  · refine (List.pairwise_lt_range (n := n)).imp fun {i j} h a ha b hb => ?_
    rw [(mem_combL.mp ha).2, (mem_combL.mp hb).2]; omega
variable [DecidableEq α]
/-- all of the one in the other -/
def subB (a b : List α) : Bool := a.all fun x => decide (x ∈ b)
theorem subB_iff {a b : List α} : subB a b = true ↔ ∀ x ∈ a, x ∈ b := by
  unfold subB
  rw [List.all_eq_true]
  exact ⟨fun h x hx => of_decide_eq_true (h x hx), fun h x hx => decide_eq_true (h x hx)⟩
theorem sub_filter : ∀ {xs s : List α}, xs.Nodup → s.Sublist xs → xs.filter (fun x => decide (x ∈ s)) = s
  | [], s, _, h => by rw [List.sublist_nil.mp h]; rfl
  | x :: xs, s, hn, h => by
    obtain ⟨hx, hn⟩ := List.nodup_cons.mp hn
    cases h with
    | cons _ h =>
      have : x ∉ s := fun z => hx (h.subset z)
      rw [List.filter_cons_of_neg (by simpa using this)]
      exact sub_filter hn h
    | @cons_cons t _ _ h =>
      rw [List.filter_cons_of_pos (by simp)]
      congr 1
      rw [← sub_filter hn h]
      refine List.filter_congr fun y hy => ?_
      rw [sub_filter hn h]
      have : y ≠ x := fun z => hx (z ▸ hy)
      simp [this]
theorem sub_of_subset {xs s t : List α} (hn : xs.Nodup) (hs : s.Sublist xs) (ht : t.Sublist xs) (h : ∀ x ∈ s, x ∈ t) : s.Sublist t := by
  rw [← sub_filter hn hs, ← sub_filter hn ht]
  exact filter_mono fun x _ hx => by
    have := of_decide_eq_true hx
    exact decide_eq_true (h x this)
theorem sub_ext {xs s t : List α} (hn : xs.Nodup) (hs : s.Sublist xs) (ht : t.Sublist xs) (h : ∀ x, x ∈ s ↔ x ∈ t) : s = t := by
  rw [← sub_filter hn hs, ← sub_filter hn ht]
  exact List.filter_congr fun x _ => by simp [h x]
theorem sub_len {xs s t : List α} (hn : xs.Nodup) (hs : s.Sublist xs) (ht : t.Sublist xs) (h : ∀ x ∈ s, x ∈ t) : s.length ≤ t.length := (sub_of_subset hn hs ht h).length_le
theorem sub_lt {xs s t : List α} (hn : xs.Nodup) (hs : s.Sublist xs) (ht : t.Sublist xs) (h : ∀ x ∈ s, x ∈ t) (ne : s ≠ t) : s.length < t.length := by
  have h1 := sub_of_subset hn hs ht h
  rcases Nat.lt_or_ge s.length t.length with z | z
  · exact z
  · exact absurd (h1.eq_of_length_le z) ne
theorem sub_eq_len {xs s t : List α} (hn : xs.Nodup) (hs : s.Sublist xs) (ht : t.Sublist xs) (h : ∀ x ∈ s, x ∈ t) (le : t.length ≤ s.length) : s = t :=
  (sub_of_subset hn hs ht h).eq_of_length_le le
/-! ### least sets -/
def leastStep (test : List α → Bool) (found : List (List α)) (s : List α) : List (List α) :=
  if (!found.any fun less => subB less s) && test s then found ++ [s] else found
def leastGo (test : List α → Bool) (found : List (List α)) (cs : List (List α)) : List (List α) := cs.foldl (leastStep test) found
def leastUp (n : Nat) (xs : List α) (test : List α → Bool) : List (List α) := leastGo test [] (cands n xs)
def leastSets (xs : List α) (test : List α → Bool) : List (List α) := leastUp (xs.length + 1) xs test
theorem leastGo_sub (test : List α → Bool) : ∀ (cs found : List (List α)), ∃ r, leastGo test found cs = found ++ r ∧ r.Sublist cs ∧ ∀ s ∈ r, test s = true
  | [], found => ⟨[], by simp [leastGo], List.Sublist.refl _, by simp⟩
  | c :: cs, found => by
    show ∃ r, leastGo test (leastStep test found c) cs = _ ∧ _
    unfold leastStep
    split
    · rename_i h
      obtain ⟨r, e, h1, h2⟩ := leastGo_sub test cs (found ++ [c])
      refine ⟨c :: r, by rw [e]; simp, h1.cons_cons c, fun s hs => ?_⟩
      rcases List.mem_cons.mp hs with q | q
      · rw [q]; exact (Bool.and_eq_true_iff.mp h).2
      · exact h2 s q
    · obtain ⟨r, e, h1, h2⟩ := leastGo_sub test cs found
      exact ⟨r, e, h1.cons c, h2⟩
theorem leastGo_cov (test : List α → Bool) : ∀ (cs found : List (List α)) (c : List α), c ∈ cs → test c = true → ∃ f ∈ leastGo test found cs, ∀ x ∈ f, x ∈ c
  | [], _, c, h, _ => by simp at h
  | d :: cs, found, c, h, ht => by
    show ∃ f ∈ leastGo test (leastStep test found d) cs, _
    rcases List.mem_cons.mp h with q | q
    · subst q
      obtain ⟨r, e, _, _⟩ := leastGo_sub test cs (leastStep test found c)
      rw [e]
      by_cases z : (found.any fun less => subB less c) = true
      · obtain ⟨f, hf, hs⟩ := List.any_eq_true.mp z
        refine ⟨f, List.mem_append_left _ ?_, subB_iff.mp hs⟩
        unfold leastStep
        rw [if_neg (by simp [z])]
        exact hf
      · refine ⟨c, List.mem_append_left _ ?_, fun x hx => hx⟩
        unfold leastStep
        rw [if_pos (by simp [z, ht])]
        simp
    · exact leastGo_cov test cs _ c q ht
theorem leastGo_anti (test : List α → Bool) : ∀ (cs found : List (List α)), found.Pairwise (fun a b => subB a b = false) → (leastGo test found cs).Pairwise (fun a b => subB a b = false)
  | [], found, h => h
  | c :: cs, found, h => by
    show (leastGo test (leastStep test found c) cs).Pairwise _
    refine leastGo_anti test cs _ ?_
    unfold leastStep
    split
    · rename_i z
      rw [List.pairwise_append]
      refine ⟨h, List.pairwise_singleton _ _, fun a ha b hb => ?_⟩
      rw [List.mem_singleton.mp hb]
      have := (Bool.and_eq_true_iff.mp z).1
      rw [Bool.not_eq_true', List.any_eq_false] at this
      simpa using this a ha
    · exact h
structure LeastOk (xs : List α) (n : Nat) (test : List α → Bool) (L : List (List α)) : Prop where
  sub : ∀ s ∈ L, s.Sublist xs
  ok : ∀ s ∈ L, test s = true
  lt : ∀ s ∈ L, s.length < n
  len : L.Pairwise fun a b => a.length ≤ b.length
  cov : ∀ c, c.Sublist xs → c.length < n → test c = true → ∃ f ∈ L, ∀ x ∈ f, x ∈ c
  anti : L.Pairwise fun a b => subB a b = false
theorem leastUp_ok (n : Nat) (xs : List α) (test : List α → Bool) : LeastOk xs n test (leastUp n xs test) := by
  obtain ⟨r, e, h1, h2⟩ := leastGo_sub test (cands n xs) []
  have e : leastUp n xs test = r := by unfold leastUp; rw [e]; rfl
  rw [e]
  refine ⟨fun s hs => (mem_cands.mp (h1.subset hs)).1, h2, fun s hs => (mem_cands.mp (h1.subset hs)).2, (cands_len n xs).sublist h1, fun c hc hl ht => ?_, ?_⟩
  · rw [← e]; exact leastGo_cov test _ [] c (mem_cands.mpr ⟨hc, hl⟩) ht
  · rw [← e]; exact leastGo_anti test _ [] .nil
/-- of two that are found, none is within the other -/
theorem LeastOk.inc {xs : List α} {n : Nat} {test : List α → Bool} {L : List (List α)} (h : LeastOk xs n test L) (hn : xs.Nodup) {a b : List α} (ha : a ∈ L) (hb : b ∈ L) (hs : ∀ x ∈ a, x ∈ b) : a = b := by
  have key : ∀ {M : List (List α)}, M.Sublist L → M.Pairwise (fun a b => a.length ≤ b.length) → M.Pairwise (fun a b => subB a b = false) → a ∈ M → b ∈ M → a = b := by
    intro M
    induction M with
    | nil => intro _ _ _ h; simp at h
    | cons c M ih =>
      intro hM h1 h2 ha' hb'
      obtain ⟨l1, l2⟩ := List.pairwise_cons.mp h1
      obtain ⟨s1, s2⟩ := List.pairwise_cons.mp h2
      rcases List.mem_cons.mp ha' with q | q
      · rcases List.mem_cons.mp hb' with p | p
        · rw [q, p]
        · have := s1 b p
          rw [← q, subB_iff.mpr hs] at this
          cases this
      · rcases List.mem_cons.mp hb' with p | p
        · have := l1 a q
          rw [← p] at this
          exact sub_eq_len hn (h.sub a ha) (h.sub b hb) hs this
        · exact ih (List.sublist_of_cons_sublist hM) l2 s2 q p
  exact key (List.Sublist.refl _) h.len h.anti ha hb
/-- nothing within one that is found fulfils the test -/
theorem LeastOk.min {xs : List α} {n : Nat} {test : List α → Bool} {L : List (List α)} (h : LeastOk xs n test L) (hn : xs.Nodup) {a c : List α} (ha : a ∈ L) (hc : c.Sublist xs) (ht : test c = true) (hs : ∀ x ∈ c, x ∈ a) : c = a := by
  have hl : c.length < n := Nat.lt_of_le_of_lt (sub_len hn hc (h.sub a ha) hs) (h.lt a ha)
  obtain ⟨f, hf, hfc⟩ := h.cov c hc hl ht
  have e := h.inc hn hf ha fun x hx => hs x (hfc x hx)
  subst e
  exact sub_eq_len hn hc (h.sub _ ha) hs (sub_len hn (h.sub _ ha) hc hfc)
end
end PL
set_option Elab.async false
set_option linter.all false
/-! PlB: houses, plainly. -/
namespace PL
open Comb
structure Hs (S : Type) where
  ring : List S
  locks : List (S × List S)
  doors : List (S × List S)
section
variable {S : Type} [DecidableEq S]
def look (l : List (S × List S)) (n : S) : List S := match l.find? fun p => decide (p.1 = n) with
  | some p => p.2
  | none => []
def names (l : List (S × List S)) : List S := l.map (·.1)
theorem look_mem : ∀ {l : List (S × List S)} {p : S × List S}, (names l).Nodup → p ∈ l → look l p.1 = p.2
  | [], _, _, h => by simp at h
  | q :: l, p, hn, h => by
    obtain ⟨h1, h2⟩ := List.nodup_cons.mp hn
    unfold look
    rw [List.find?_cons]
    rcases List.mem_cons.mp h with e | e
    · subst e; simp
    · have : q.1 ≠ p.1 := fun z => h1 (show q.1 ∈ l.map (·.1) by rw [z]; exact List.mem_map_of_mem e)
      simp only [this, decide_false]
      exact look_mem h2 e
theorem look_of {l : List (S × List S)} {n : S} (hn : (names l).Nodup) (h : n ∈ names l) : (n, look l n) ∈ l := by
  obtain ⟨p, hp, e⟩ := List.mem_map.mp h
  subst e
  rw [look_mem hn hp]
  exact hp
structure Hs.WF (h : Hs S) : Prop where
  ring : h.ring.Nodup
  ln : (names h.locks).Nodup
  dn : (names h.doors).Nodup
  lk : ∀ p ∈ h.locks, p.2.Sublist h.ring
  dk : ∀ p ∈ h.doors, p.2.Sublist (names h.locks)
  dne : ∀ p ∈ h.doors, p.2 ≠ []
def Hs.opensLock (h : Hs S) (l : S) (s : List S) : Bool := s.any fun k => decide (k ∈ look h.locks l)
def Hs.opens (h : Hs S) (d : S) (s : List S) : Bool := (look h.doors d).all fun l => h.opensLock l s
def Hs.doorsOf (h : Hs S) (s : List S) : List S := (names h.doors).filter fun d => h.opens d s
theorem opensLock_mono {h : Hs S} {l : S} {s t : List S} (st : ∀ x ∈ s, x ∈ t) (o : h.opensLock l s = true) : h.opensLock l t = true := by
  unfold Hs.opensLock at *
  rw [List.any_eq_true] at *
  obtain ⟨k, hk, e⟩ := o
  exact ⟨k, st k hk, e⟩
theorem opens_mono {h : Hs S} {d : S} {s t : List S} (st : ∀ x ∈ s, x ∈ t) (o : h.opens d s = true) : h.opens d t = true := by
  unfold Hs.opens at *
  rw [List.all_eq_true] at *
  exact fun l hl => opensLock_mono st (o l hl)
theorem opens_nil {h : Hs S} (w : h.WF) {d : S} (hd : d ∈ names h.doors) : h.opens d [] = false := by
  have h1 := look_of w.dn hd
  have h2 := w.dne _ h1
  unfold Hs.opens
  cases e : look h.doors d with
  | nil => exact absurd e h2
  | cons l r => rfl
theorem doorsOf_nil {h : Hs S} (w : h.WF) : h.doorsOf [] = [] := by
  unfold Hs.doorsOf
  rw [List.filter_eq_nil_iff]
  intro d hd
  rw [opens_nil w hd]; simp
theorem mem_doorsOf {h : Hs S} {s : List S} {d : S} : d ∈ h.doorsOf s ↔ d ∈ names h.doors ∧ h.opens d s = true := by
  unfold Hs.doorsOf
  rw [List.mem_filter]
theorem doorsOf_sub (h : Hs S) (s : List S) : (h.doorsOf s).Sublist (names h.doors) := List.filter_sublist
theorem doorsOf_mono {h : Hs S} {s t : List S} (st : ∀ x ∈ s, x ∈ t) : ∀ d ∈ h.doorsOf s, d ∈ h.doorsOf t := fun d hd => by
  rw [mem_doorsOf] at *
  exact ⟨hd.1, opens_mono st hd.2⟩
/-! ### ranks -/
def Hs.below (h : Hs S) (a b : S) : Bool := !decide (h.doorsOf [a] = h.doorsOf [b]) && subB (h.doorsOf [a]) (h.doorsOf [b])
def Hs.above (h : Hs S) (a : S) : List S := h.ring.filter fun b => h.below a b
def Hs.tops (h : Hs S) : List S := h.ring.filter fun a => decide (h.above a = [])
theorem below_iff {h : Hs S} {a b : S} : h.below a b = true ↔ h.doorsOf [a] ≠ h.doorsOf [b] ∧ ∀ d ∈ h.doorsOf [a], d ∈ h.doorsOf [b] := by
  unfold Hs.below
  rw [Bool.and_eq_true, subB_iff, Bool.not_eq_true', decide_eq_false_iff_not]
theorem mem_above {h : Hs S} {a b : S} : b ∈ h.above a ↔ b ∈ h.ring ∧ h.below a b = true := by
  unfold Hs.above
  rw [List.mem_filter]
theorem mem_tops {h : Hs S} {a : S} : a ∈ h.tops ↔ a ∈ h.ring ∧ h.above a = [] := by
  unfold Hs.tops
  rw [List.mem_filter, decide_eq_true_iff]
theorem below_len {h : Hs S} (w : h.WF) {a b : S} (e : h.below a b = true) : (h.doorsOf [a]).length < (h.doorsOf [b]).length := by
  obtain ⟨h1, h2⟩ := below_iff.mp e
  exact sub_lt w.dn (doorsOf_sub h _) (doorsOf_sub h _) h2 h1
theorem below_trans {h : Hs S} (w : h.WF) {a b c : S} (e : h.below a b = true) (e' : h.below b c = true) : h.below a c = true := by
  rw [below_iff]
  refine ⟨fun z => ?_, fun d hd => (below_iff.mp e').2 d ((below_iff.mp e).2 d hd)⟩
  have := below_len w e
  have := below_len w e'
  rw [z] at *
  omega
theorem below_asym {h : Hs S} (w : h.WF) {a b : S} (e : h.below a b = true) : h.below b a = false := by
  cases z : h.below b a with
  | false => rfl
  | true =>
    have := below_len w e
    have := below_len w z
    omega
theorem below_irr (h : Hs S) (a : S) : h.below a a = false := by
  unfold Hs.below
  simp
theorem below_congr {h : Hs S} {a b : S} (e : h.doorsOf [a] = h.doorsOf [b]) : h.above a = h.above b := by
  unfold Hs.above Hs.below
  rw [e]
theorem above_max {h : Hs S} (w : h.WF) {a b : S} (hb : b ∈ h.above a) : ∃ t ∈ h.above a, h.above t = [] := by
  -- the one with most doors
  have key : ∀ (n : Nat) (b : S), b ∈ h.above a → (names h.doors).length - (h.doorsOf [b]).length ≤ n → ∃ t ∈ h.above a, h.above t = [] := by
    intro n
    induction n with
    | zero =>
      intro b hb hn
      refine ⟨b, hb, ?_⟩
      rw [List.eq_nil_iff_forall_not_mem]
      intro c hc
      have h1 := below_len w (mem_above.mp hc).2
      have h2 := (doorsOf_sub h [c]).length_le
      omega
    | succ n ih =>
      intro b hb hn
      cases e : h.above b with
      | nil => exact ⟨b, hb, e⟩
      | cons c r =>
        have hc : c ∈ h.above b := by rw [e]; exact List.mem_cons_self
        obtain ⟨c1, c2⟩ := mem_above.mp hc
        have h1 := below_len w c2
        have h2 := (doorsOf_sub h [c]).length_le
        exact ih c (mem_above.mpr ⟨c1, below_trans w (mem_above.mp hb).2 c2⟩) (by omega)
  exact key _ b hb (Nat.le_refl _)
/-! ### chains -/
def Hs.lastAbove (h : Hs S) (row : List S) : List S := match row.getLast? with
  | some x => h.above x
  | none => []
def Hs.nextRows (h : Hs S) (rows : List (List S)) : List (List S) := rows.flatMap fun row => (h.lastAbove row).map fun late => row ++ [late]
def Hs.level (h : Hs S) : Nat → List (List S)
  | 0 => h.ring.map fun k => [k]
  | n + 1 => h.nextRows (h.level n)
theorem level_succ {h : Hs S} {n : Nat} {c : List S} : c ∈ h.level (n + 1) ↔ ∃ r x t, r ∈ h.level n ∧ r.getLast? = some x ∧ t ∈ h.above x ∧ c = r ++ [t] := by
  show c ∈ h.nextRows (h.level n) ↔ _
  unfold Hs.nextRows
  rw [List.mem_flatMap]
  constructor
  · rintro ⟨r, hr, hc⟩
    obtain ⟨t, ht, e2⟩ := List.mem_map.mp hc
    unfold Hs.lastAbove at ht
    split at ht
    · rename_i x e
      exact ⟨r, x, t, hr, e, ht, e2.symm⟩
    · simp at ht
  · rintro ⟨r, x, t, hr, e, ht, rfl⟩
    refine ⟨r, hr, ?_⟩
    unfold Hs.lastAbove
    rw [e]
    exact List.mem_map.mpr ⟨t, ht, rfl⟩
structure ChainOk (h : Hs S) (n : Nat) (c : List S) : Prop where
  len : c.length = n + 1
  ring : ∀ x ∈ c, x ∈ h.ring
  next : ∀ p ∈ c.zip c.tail, p.2 ∈ h.above p.1
theorem zip_snoc : ∀ (r : List S) (x t : S), r.getLast? = some x → (r ++ [t]).zip (r ++ [t]).tail = r.zip r.tail ++ [(x, t)]
  | [], _, _, h => by simp at h
  | [y], x, t, h => by simp at h; subst h; rfl
  | y :: z :: r, x, t, h => by
    have h' : (z :: r).getLast? = some x := by rw [← h]; simp [List.getLast?_cons_cons]
    have ih := zip_snoc (z :: r) x t h'
    show (y, z) :: ((z :: r) ++ [t]).zip ((z :: r) ++ [t]).tail = (y, z) :: (z :: r).zip (z :: r).tail ++ [(x, t)]
    rw [ih]; rfl
theorem level_ok {h : Hs S} : ∀ {n : Nat} {c : List S}, c ∈ h.level n → ChainOk h n c
  | 0, c, hc => by
    obtain ⟨k, hk, rfl⟩ := List.mem_map.mp (show c ∈ h.ring.map fun k => [k] from hc)
    exact ⟨rfl, fun x hx => by rw [List.mem_singleton.mp hx]; exact hk, fun p hp => by simp at hp⟩
  | n + 1, c, hc => by
    obtain ⟨r, x, t, hr, e, ht, rfl⟩ := level_succ.mp hc
    have ih := level_ok hr
    refine ⟨by rw [List.length_append, ih.len]; rfl, fun y hy => ?_, fun p hp => ?_⟩
    · rcases List.mem_append.mp hy with q | q
      · exact ih.ring y q
      · rw [List.mem_singleton.mp q]; exact (mem_above.mp ht).1
    · rw [zip_snoc r x t e] at hp
      rcases List.mem_append.mp hp with q | q
      · exact ih.next p q
      · rw [List.mem_singleton.mp q]; exact ht
theorem level_cons {h : Hs S} : ∀ {n : Nat} {c : List S} {x k : S}, c ∈ h.level n → c.head? = some x → k ∈ h.ring → x ∈ h.above k → k :: c ∈ h.level (n + 1)
  | 0, c, x, k, hc, hx, hk, ha => by
    obtain ⟨k', hk', rfl⟩ := List.mem_map.mp (show c ∈ h.ring.map fun k => [k] from hc)
    simp at hx; subst hx
    exact level_succ.mpr ⟨[k], k, k', List.mem_map.mpr ⟨k, hk, rfl⟩, rfl, ha, rfl⟩
  | n + 1, c, x, k, hc, hx, hk, ha => by
    obtain ⟨r, y, t, hr, e, ht, rfl⟩ := level_succ.mp hc
    have hr' : r.head? = some x := by
      cases r with
      | nil => simp at e
      | cons z r => simpa using hx
    refine level_succ.mpr ⟨k :: r, y, t, level_cons hr hr' hk ha, ?_, ht, rfl⟩
    cases r with
    | nil => simp at e
    | cons z r => rw [List.getLast?_cons_cons]; exact e
theorem level_len {h : Hs S} (w : h.WF) : ∀ {n : Nat} {c : List S} {x : S}, c ∈ h.level n → c.getLast? = some x → n ≤ (h.doorsOf [x]).length
  | 0, _, _, _, _ => Nat.zero_le _
  | n + 1, c, x, hc, hx => by
    obtain ⟨r, y, t, hr, e, ht, rfl⟩ := level_succ.mp hc
    have : t = x := by simpa using hx
    subst this
    have := level_len w hr e
    have := below_len w (mem_above.mp ht).2
    omega
theorem level_end {h : Hs S} (w : h.WF) {n : Nat} (hn : (names h.doors).length < n) : h.level n = [] := by
  rw [List.eq_nil_iff_forall_not_mem]
  intro c hc
  have h1 := (level_ok hc).len
  cases e : c.getLast? with
  | none => rw [List.getLast?_eq_none_iff] at e; rw [e] at h1; simp at h1
  | some x =>
    have h2 := level_len w hc e
    have h3 := (doorsOf_sub h [x]).length_le
    omega
/-- the while: the head of the last level that is not empty -/
def Hs.climb (h : Hs S) : Nat → List (List S) → List S → List S
  | 0, _, best => best
  | f + 1, rows, best => if rows = [] then best else h.climb f (h.nextRows rows) (rows.headD [])
theorem climb_at {h : Hs S} (w : h.WF) (hr : h.ring ≠ []) : ∃ m c, (∀ i, i ≤ m → h.level i ≠ []) ∧ h.level (m + 1) = [] ∧ (h.level m).head? = some c ∧ m ≤ (names h.doors).length := by
  have key : ∀ (k n : Nat), (names h.doors).length + 1 ≤ n + k → (∀ i, i ≤ n → h.level i ≠ []) → ∃ m, (∀ i, i ≤ m → h.level i ≠ []) ∧ h.level (m + 1) = [] := by
    intro k
    induction k with
    | zero => intro n hn hl; exact absurd (level_end w (by omega)) (hl n (Nat.le_refl _))
    | succ k ih =>
      intro n hn hl
      by_cases e : h.level (n + 1) = []
      · exact ⟨n, hl, e⟩
      · refine ih (n + 1) (by omega) fun i hi => ?_
        by_cases z : i = n + 1
        · rw [z]; exact e
        · exact hl i (by omega)
  obtain ⟨m, h1, h2⟩ := key _ 0 (Nat.le_of_eq (Nat.zero_add _).symm) fun i hi => by
    have : i = 0 := by omega
    subst this
    show h.ring.map _ ≠ []
    simpa using hr
  cases e : h.level m with
  | nil => exact absurd e (h1 m (Nat.le_refl _))
  | cons c r =>
    refine ⟨m, c, h1, h2, by rw [e]; rfl, ?_⟩
    rcases Nat.lt_or_ge (names h.doors).length m with z | z
    · exact absurd (level_end w z) (h1 m (Nat.le_refl _))
    · exact z
structure Longest (h : Hs S) (c : List S) : Prop where
  ne : c ≠ []
  ring : ∀ x ∈ c, x ∈ h.ring
  next : ∀ p ∈ c.zip c.tail, p.2 ∈ h.above p.1
  last : ∀ x, c.getLast? = some x → h.above x = []
  first : ∀ x k, c.head? = some x → k ∈ h.ring → x ∉ h.above k
  len : c.length ≤ (names h.doors).length + 1
theorem longest_ok {h : Hs S} {m : Nat} {c : List S} (hc : (h.level m).head? = some c) (he : h.level (m + 1) = []) (hm : m ≤ (names h.doors).length) : Longest h c := by
  have hm' : c ∈ h.level m := by
    cases e : h.level m with
    | nil => rw [e] at hc; simp at hc
    | cons d r => rw [e] at hc; simp at hc; rw [hc]; exact List.mem_cons_self
  have ok := level_ok hm'
  refine ⟨fun z => by have := ok.len; rw [z] at this; simp at this, ok.ring, ok.next, fun x hx => ?_, fun x k hx hk ha => ?_, by rw [ok.len]; omega⟩
  · rw [List.eq_nil_iff_forall_not_mem]
    intro t ht
    have : c ++ [t] ∈ h.level (m + 1) := level_succ.mpr ⟨c, x, t, hm', hx, ht, rfl⟩
    rw [he] at this
    simp at this
  · have := level_cons hm' hx hk ha
    rw [he] at this
    simp at this
/-! ### masters, the worst loss -/
def Hs.masters (h : Hs S) : List S := h.ring.filter fun a => decide ((h.doorsOf [a]).length = h.doors.length)
theorem master_all {h : Hs S} {a : S} (e : (h.doorsOf [a]).length = h.doors.length) : h.doorsOf [a] = names h.doors :=
  (doorsOf_sub h [a]).eq_of_length (by rw [e]; unfold names; rw [List.length_map])
theorem tops_masters {h : Hs S} (w : h.WF) (hm : h.masters ≠ []) : h.tops = h.masters := by
  obtain ⟨m, hm⟩ := List.exists_mem_of_ne_nil _ hm
  unfold Hs.masters at hm
  rw [List.mem_filter, decide_eq_true_iff] at hm
  obtain ⟨mr, me⟩ := hm
  have ma := master_all me
  unfold Hs.tops Hs.masters
  refine List.filter_congr fun a ha => ?_
  rw [decide_eq_decide]
  constructor
  · intro e
    by_cases z : h.doorsOf [a] = h.doorsOf [m]
    · rw [z, me]
    · have : m ∈ h.above a := mem_above.mpr ⟨mr, below_iff.mpr ⟨z, fun d hd => by rw [ma]; exact (mem_doorsOf.mp hd).1⟩⟩
      rw [e] at this
      simp at this
  · intro e
    rw [List.eq_nil_iff_forall_not_mem]
    intro b hb
    have h1 := below_len w (mem_above.mp hb).2
    have h2 := (doorsOf_sub h [b]).length_le
    have : (names h.doors).length = h.doors.length := by unfold names; rw [List.length_map]
    omega
theorem worst_top {h : Hs S} (w : h.WF) {a : S} (ha : a ∈ h.ring) (hm : ∀ b ∈ h.ring, (h.doorsOf [b]).length ≤ (h.doorsOf [a]).length) : a ∈ h.tops := by
  refine mem_tops.mpr ⟨ha, ?_⟩
  rw [List.eq_nil_iff_forall_not_mem]
  intro b hb
  obtain ⟨h1, h2⟩ := mem_above.mp hb
  have := below_len w h2
  have := hm b h1
  omega
/-! ### trees -/
def Hs.apart (h : Hs S) (a b : S) : Bool := !subB (h.doorsOf [a]) (h.doorsOf [b]) && !subB (h.doorsOf [b]) (h.doorsOf [a])
theorem apart_symm {h : Hs S} {a b : S} : h.apart a b = h.apart b a := by unfold Hs.apart; rw [Bool.and_comm]
theorem apart_above {h : Hs S} {a b : S} (e : h.apart a b = true) : a ∉ h.above b ∧ b ∉ h.above a := by
  unfold Hs.apart at e
  rw [Bool.and_eq_true, Bool.not_eq_true', Bool.not_eq_true'] at e
  refine ⟨fun z => ?_, fun z => ?_⟩
  · have := (below_iff.mp (mem_above.mp z).2).2
    rw [subB_iff.mpr this] at e; cases e.2
  · have := (below_iff.mp (mem_above.mp z).2).2
    rw [subB_iff.mpr this] at e; cases e.1
theorem apart_irr {h : Hs S} {a : S} : h.apart a a = false := by
  unfold Hs.apart
  rw [show subB (h.doorsOf [a]) (h.doorsOf [a]) = true from subB_iff.mpr fun _ h => h]; rfl
theorem comb2_all {P : S → S → Prop} (hs : ∀ a b, P a b → P b a) (hr : ∀ a, P a a) {l : List S} (h : ∀ a b, [a, b] ∈ combL 2 l → P a b) : ∀ a ∈ l, ∀ b ∈ l, P a b := by
  intro a ha b hb
  have key : ∀ (l : List S), a ∈ l → b ∈ l → a = b ∨ [a, b].Sublist l ∨ [b, a].Sublist l := by
    intro l
    induction l with
    | nil => intro h; simp at h
    | cons x l ih =>
      intro ha hb
      rcases List.mem_cons.mp ha with p | p
      · rcases List.mem_cons.mp hb with q | q
        · exact .inl (p.trans q.symm)
        · subst p; exact .inr (.inl ((List.singleton_sublist.mpr q).cons_cons a))
      · rcases List.mem_cons.mp hb with q | q
        · subst q; exact .inr (.inr ((List.singleton_sublist.mpr p).cons_cons b))
        · rcases ih p q with z | z | z
          · exact .inl z
          · exact .inr (.inl (z.cons x))
          · exact .inr (.inr (z.cons x))
  rcases key l ha hb with z | z | z
  · rw [z]; exact hr b
  · exact h a b (mem_combL.mpr ⟨z, rfl⟩)
  · exact hs _ _ (h b a (mem_combL.mpr ⟨z, rfl⟩))
/-- those above a key with none of them below -/
def Hs.leastAbove (h : Hs S) (a : S) : List S := (h.above a).filter fun late => !(h.above a).any fun other => h.below other late
theorem leastAbove_ne {h : Hs S} (w : h.WF) {a : S} (e : h.above a ≠ []) : h.leastAbove a ≠ [] := by
  obtain ⟨b, hb⟩ := List.exists_mem_of_ne_nil _ e
  have key : ∀ (n : Nat) (b : S), b ∈ h.above a → (h.doorsOf [b]).length ≤ n → ∃ t, t ∈ h.leastAbove a := by
    intro n
    induction n with
    | zero =>
      intro b hb hn
      refine ⟨b, List.mem_filter.mpr ⟨hb, ?_⟩⟩
      rw [Bool.not_eq_true', List.any_eq_false]
      intro c hc z
      have := below_len w z
      omega
    | succ n ih =>
      intro b hb hn
      by_cases z : (h.above a).any (fun other => h.below other b) = true
      · obtain ⟨c, hc, hcb⟩ := List.any_eq_true.mp z
        have := below_len w hcb
        exact ih c hc (by omega)
      · exact ⟨b, List.mem_filter.mpr ⟨hb, by simp only [Bool.not_eq_true] at z; rw [z]; rfl⟩⟩
  obtain ⟨t, ht⟩ := key _ b hb (Nat.le_refl _)
  intro z
  rw [z] at ht
  simp at ht
theorem leastAbove_ok {h : Hs S} {a p o : S} (hp : p ∈ h.leastAbove a) (ho : o ∈ h.above a) (na : h.apart o p = false) (hn : o ∉ h.above p) : h.doorsOf [o] = h.doorsOf [p] := by
  obtain ⟨h1, h2⟩ := List.mem_filter.mp hp
  rw [Bool.not_eq_true', List.any_eq_false] at h2
  have nb := h2 o ho
  by_cases z : h.doorsOf [o] = h.doorsOf [p]
  · exact z
  · unfold Hs.apart at na
    rw [Bool.and_eq_false_iff, Bool.not_eq_false', Bool.not_eq_false', subB_iff, subB_iff] at na
    rcases na with q | q
    · exact absurd (below_iff.mpr ⟨z, q⟩) nb
    · exact absurd (mem_above.mpr ⟨(mem_above.mp ho).1, below_iff.mpr ⟨fun y => z y.symm, q⟩⟩) hn
/-! ### a house without its last door -/
theorem above_less {h : Hs S} (w : h.WF) (w2 : (⟨h.ring, h.locks, h.doors.dropLast⟩ : Hs S).WF) {a b : S} (hb : b ∈ h.above a) : b ∈ (⟨h.ring, h.locks, h.doors.dropLast⟩ : Hs S).above a ∨ (⟨h.ring, h.locks, h.doors.dropLast⟩ : Hs S).doorsOf [b] = (⟨h.ring, h.locks, h.doors.dropLast⟩ : Hs S).doorsOf [a] := by
  obtain ⟨h1, h2⟩ := mem_above.mp hb
  have h3 := (below_iff.mp h2).2
  by_cases z : (⟨h.ring, h.locks, h.doors.dropLast⟩ : Hs S).doorsOf [a] = (⟨h.ring, h.locks, h.doors.dropLast⟩ : Hs S).doorsOf [b]
  · exact .inr z.symm
  · refine .inl (mem_above.mpr ⟨h1, below_iff.mpr ⟨z, fun d hd => ?_⟩⟩)
    obtain ⟨d1, d2⟩ := mem_doorsOf.mp hd
    refine mem_doorsOf.mpr ⟨d1, ?_⟩
    have hm : ∀ p ∈ h.doors.dropLast, p ∈ h.doors := fun p hp => (List.dropLast_sublist _).subset hp
    have e : look h.doors d = look h.doors.dropLast d := by
      have q := look_of w2.dn d1
      have := look_mem w.dn (hm _ q)
      exact this
    have dd : d ∈ names h.doors := by
      obtain ⟨p, hp, ep⟩ := List.mem_map.mp d1
      exact List.mem_map.mpr ⟨p, hm p hp, ep⟩
    have o1 : h.opens d [a] = true := by unfold Hs.opens; rw [e]; exact d2
    have o2 := (mem_doorsOf.mp (h3 d (mem_doorsOf.mpr ⟨dd, o1⟩))).2
    unfold Hs.opens at o2
    rw [e] at o2
    exact o2
/-! ### issues -/
def Hs.inHouse (h : Hs S) (ds : List S) : List S := (names h.doors).filter fun d => decide (d ∈ ds)
def Hs.leastIssues (h : Hs S) (ds : List S) : List (List S) := (leastSets h.ring fun some => (h.inHouse ds).all fun d => h.opens d some).filter fun s => decide (h.doorsOf s = h.inHouse ds)
theorem inHouse_doors (h : Hs S) (w : h.WF) (s : List S) : h.inHouse (h.doorsOf s) = h.doorsOf s := sub_filter w.dn (doorsOf_sub h s)
theorem issue_one {h : Hs S} (w : h.WF) {k : S} (hk : k ∈ h.ring) : ∃ s r, h.leastIssues (h.doorsOf [k]) = s :: r ∧ s.length ≤ 1 ∧ s.Sublist h.ring := by
  have ok := leastUp_ok (h.ring.length + 1) h.ring fun some => (h.inHouse (h.doorsOf [k])).all fun d => h.opens d some
  have hk' : [k].Sublist h.ring := List.singleton_sublist.mpr hk
  obtain ⟨f, hf, hfk⟩ := ok.cov [k] hk' (by have := hk'.length_le; omega) (by
    rw [inHouse_doors h w, List.all_eq_true]
    exact fun d hd => (mem_doorsOf.mp hd).2)
  have t := ok.ok f hf
  rw [inHouse_doors h w, List.all_eq_true] at t
  have fl : f.length ≤ 1 := by
    have := sub_len w.ring (ok.sub f hf) hk' hfk
    exact this
  have fd : h.doorsOf f = h.doorsOf [k] := by
    refine sub_ext w.dn (doorsOf_sub h _) (doorsOf_sub h _) fun d => ⟨fun hd => doorsOf_mono hfk d hd, fun hd => mem_doorsOf.mpr ⟨(mem_doorsOf.mp hd).1, t d hd⟩⟩
  have mem : f ∈ h.leastIssues (h.doorsOf [k]) := by
    unfold Hs.leastIssues
    rw [List.mem_filter]
    exact ⟨hf, by rw [inHouse_doors h w]; exact decide_eq_true fd⟩
  have sub : (h.leastIssues (h.doorsOf [k])).Sublist (leastSets h.ring fun some => (h.inHouse (h.doorsOf [k])).all fun d => h.opens d some) := List.filter_sublist
  cases e : h.leastIssues (h.doorsOf [k]) with
  | nil => rw [e] at mem; simp at mem
  | cons s r =>
    have len := ok.len.sublist sub
    rw [e] at len mem
    refine ⟨s, r, rfl, ?_, ok.sub s (sub.subset (by rw [e]; exact List.mem_cons_self))⟩
    rcases List.mem_cons.mp mem with q | q
    · rw [← q]; exact fl
    · exact Nat.le_trans ((List.pairwise_cons.mp len).1 f q) fl
end
end PL
set_option Elab.async false
set_option linter.all false
set_option maxRecDepth 100000
set_option maxHeartbeats 4000000
namespace K82
open PySem PySem.Spec PyProof.Rows L2 Evl DL NdefX
abbrev NC : Nat := 5
abbrev cHouse : Nat := 0
abbrev cTree : Nat := 1
abbrev cFork : Nat := 2
abbrev cIssue : Nat := 3
abbrev cNoIssue : Nat := 4
def fdT : Nat → List Str
  | 0 => ["ring", "locks", "doors"]
  | 1 => ["rows"]
  | 2 => ["one", "first", "last"]
  | 3 => ["some"]
  | 4 => ["rows"]
  | _ => []
def b_Treedd_booldd : SM W0 :=
 (sRet (eC (.bl true)))
def b_Forkdd_booldd : SM W0 :=
 (sRet (eC (.bl false)))
def b_Issuedd_booldd : SM W0 :=
 (sRet (eC (.bl true)))
abbrev BL : List (BoolD W0) := [(1, fM 1 b_Treedd_booldd, true), (2, fM 1 b_Forkdd_booldd, false), (3, fM 1 b_Issuedd_booldd, true)]
abbrev tiA : Nat → Option Bool := tiOf BL
def b__law_number : SM W0 :=
 (sSeq (sAsg (eIf (tOf (eOp fNe (eVar 0) (eL (lLst aNil)))) (eTup (aCons (eOp fIx (eVar 0) (eOp fMod (eVar 1) (eCall fLen (aCons (eVar 0) aNil)))) (aCons (eOp fDiv (eVar 1) (eCall fLen (aCons (eVar 0) aNil))) aNil))) (eTup (aCons (eC (.int 12345)) (aCons (eC (.int 0)) aNil)))) (gmTup 2 (gmCons (gmName 2) (gmCons (gmName 3) gmNil))))
 (sSeq (sSet 4 (vE (eIf (tOf (eOp fLt (eVar 3) (eC (.int 60)))) (eOp fSub (eVar 2) (eOp fPow (eC (.int 10)) (eC (.int 18)))) (eC (.int 0)))))
 (sSeq (sFor (iRng rng1 (aCons (eOp fMod (eCall fInt (aCons (eVar 3) aNil)) (eC (.int 60))) aNil)) (gmName 5)
 (sSet 4 (vE (eOp fDiv (eVar 4) (eC (.int 1009))))))
 (sSeq (sIf (tOf (eOp fGt (eVar 4) (eC (.int 0))))
 (sRet (eOp fMod (eCall fInt (aCons (eVar 4) aNil)) (eC (.int 1009))))
 sNil)
 (sSeq (sSet 6 (vE (eOp fMod (eOp fAdd (eOp fMul (eCall fInt (aCons (eOp fAdd (eVar 2) (eOp fMul (eC (.int 977)) (eVar 1))) aNil)) (eC (.int 48271))) (eOp fMul (eC (.int 31)) (eCall fLen (aCons (eVar 0) aNil)))) (eC (.int 2147483647)))))
 (sSeq (sSet 6 (vE (eOp fMod (eOp fAdd (eOp fMul (eVar 6) (eVar 6)) (eOp fMul (eC (.int 40503)) (eVar 1))) (eC (.int 2147483629)))))
 (sRet (eCall fInt (aCons (eOp fMod (eOp fAdd (eOp fMul (eVar 6) (eC (.int 69621))) (eOp fDiv (eVar 6) (eC (.int 977)))) (eC (.int 2147483587))) aNil)))))))))
def b__law_take : SM W0 :=
 (sSeq (sDraw 0)
 (sRet (eOp fMod (eCall fInt (aCons (eFn 2 (fM 7 b__law_number) (aCons (eDraw0 0) (aCons (eCall fInt (aCons (eDraw1 0) aNil)) aNil))) aNil)) (eVar 1))))
def b__law_pick : SM W0 :=
 (sRet (eOp fIx (eVar 1) (eFn 2 (fM 2 b__law_take) (aCons (eVar 0) (aCons (eCall fLen (aCons (eVar 1) aNil)) aNil)))))
def b__law_drawn_house : SM W0 :=
 (sSeq (sSet 2 (vE (eCut (eL (lLst (aCons (eC (.str "k1")) (aCons (eC (.str "k2")) (aCons (eC (.str "k3")) (aCons (eC (.str "k4")) (aCons (eC (.str "k5")) (aCons (eC (.str "k6")) aNil)))))))) pNone (pSome (eVar 1)))))
 (sSeq (sSet 3 (vL (lLst aNil)))
 (sSeq (sFor (iRng rng1 (aCons (eOp fAdd (eC (.int 1)) (eFn 2 (fM 2 b__law_take) (aCons (eVar 0) (aCons (eC (.int 4)) aNil)))) aNil)) (gmName 4)
 (sApp 3 (eTup (aCons (eOp fAdd (eC (.str "l")) (eCall fStr (aCons (eVar 4) aNil))) (aCons (eCall fTuple (aCons (eL (lLc [10] (iSeq (eVar 2)) (gmName 10) (tOf (eOp fLt (eFn 2 (fM 2 b__law_take) (aCons (eVar 0) (aCons (eC (.int 5)) aNil))) (eC (.int 2)))) (eVar 10))) aNil)) aNil)))))
 (sSeq (sFrz 3 (sPar 5 6 (vE (eL (lLc [8] (iSeq (eVar 3)) (gmName 8) tYesM (eOp fIx (eVar 8) (eC (.int 0)))))) (vL (lLst aNil))))
 (sSeq (sFor (iRng rng1 (aCons (eOp fAdd (eC (.int 1)) (eFn 2 (fM 2 b__law_take) (aCons (eVar 0) (aCons (eC (.int 3)) aNil)))) aNil)) (gmName 4)
 (sSeq (sSet 7 (vE (eCall fTuple (aCons (eL (lLc [9] (iSeq (eVar 5)) (gmName 9) (tOf (eOp fEq (eFn 2 (fM 2 b__law_take) (aCons (eVar 0) (aCons (eC (.int 2)) aNil))) (eC (.int 0)))) (eVar 9))) aNil))))
 (sApp 6 (eTup (aCons (eOp fAdd (eC (.str "d")) (eCall fStr (aCons (eVar 4) aNil))) (aCons (eIf (tOf (eOp fNe (eVar 7) (eTup aNil))) (eVar 7) (eTup (aCons (eFn 2 (fM 2 b__law_pick) (aCons (eVar 0) (aCons (eVar 5) aNil))) aNil))) aNil))))))
 (sFrz 6 (sFrz 3 (sRet (eK (kDisp (psCons (eC (.str "ring")) (eVar 2) (psCons (eC (.str "locks")) (eVar 3) (psCons (eC (.str "doors")) (eVar 6) psNil)))))))))))))
def b_is_row : SM W0 :=
 (sRet (eUn isRow (eVar 0)))
def b_is_name : SM W0 :=
 (sSeq (sIf (bOr (bNot (tOf (eUn is_str (eVar 0)))) (bOr (tOf (eOp fIn (eVar 0) (eTup (aCons (eC (.str "for")) (aCons (eC (.str "who")) aNil))))) (bNot (tOf (eChain fLe fLe (eC (.int 1)) (eCall fLen (aCons (eVar 0) aNil)) (eC (.int 8)))))))
 (sRet (eC (.bl false)))
 sNil)
 (sSeq (sIf (tOf (eOp fNotIn (eOp fIx (eVar 0) (eC (.int 0))) (eC (.str "abcdefghijklmnopqrstuvwxyz"))))
 (sRet (eC (.bl false)))
 sNil)
 (sRet (eCall fAll (aCons (eL (lLc [1] (iSeq (eVar 0)) (gmName 1) tYesM (eOr (eOp fIn (eVar 1) (eC (.str "abcdefghijklmnopqrstuvwxyz"))) (eOp fIn (eVar 1) (eC (.str "0123456789")))))) aNil)))))
def b_check_ring : SM W0 :=
 (sSeq (sIf (bOr (bNot (tOf (eFn 1 (fM 1 b_is_row) (aCons (eVar 0) aNil)))) (bNot (tOf (eChain fLe fLe (eC (.int 1)) (eCall fLen (aCons (eVar 0) aNil)) (eC (.int 8))))))
 (fun _ _ => none)
 sNil)
 (sFor (iRng enumL (aCons (eVar 0) aNil)) (gmTup 2 (gmCons (gmName 1) (gmCons (gmName 2) gmNil)))
 (sIf (bOr (bNot (tOf (eFn 1 (fM 2 b_is_name) (aCons (eVar 2) aNil)))) (tOf (eOp fIn (eVar 2) (eCut (eVar 0) pNone (pSome (eVar 1))))))
 (fun _ _ => none)
 sNil)))
def b_are_some : SM W0 :=
 (sSeq (sIf (bOr (bNot (tOf (eFn 1 (fM 1 b_is_row) (aCons (eVar 0) aNil)))) (bNot (tOf (eCall fAll (aCons (eL (lLc [3] (iSeq (eVar 0)) (gmName 3) tYesM (eAnd (eUn is_str (eVar 3)) (eOp fIn (eVar 3) (eVar 1))))) aNil)))))
 (sRet (eC (.bl false)))
 sNil)
 (sRet (eChain fEq fGe (eCall fLen (aCons (eK (kDc [3] (iSeq (eVar 0)) (gmName 3) tYesM (eVar 3) (eC (.bl true)))) aNil)) (eCall fLen (aCons (eVar 0) aNil)) (eVar 2))))
def b_check_rows : SM W0 :=
 (sSeq (sIf (bOr (bNot (tOf (eFn 1 (fM 1 b_is_row) (aCons (eVar 0) aNil)))) (bNot (tOf (eChain fLe fLe (eC (.int 1)) (eCall fLen (aCons (eVar 0) aNil)) (eVar 5)))))
 (fun _ _ => none)
 sNil)
 (sSeq (sSet 6 (vL (lCall lList (aCons (eVar 3) aNil))))
 (sFor (iRng enumL (aCons (eVar 0) aNil)) (gmTup 2 (gmCons (gmName 7) (gmCons (gmName 8) gmNil)))
 (sSeq (sIf (tPeek 6 (bOr (bNot (tOf (eFn 1 (fM 1 b_is_row) (aCons (eVar 8) aNil)))) (bOr (tOf (eOp fNe (eCall fLen (aCons (eVar 8) aNil)) (eC (.int 2)))) (bOr (bNot (tOf (eFn 1 (fM 2 b_is_name) (aCons (eOp fIx (eVar 8) (eC (.int 0))) aNil)))) (tOf (eOp fIn (eOp fIx (eVar 8) (eC (.int 0))) (eVar 6)))))))
 (fun _ _ => none)
 sNil)
 (sSeq (sIf (bNot (tOf (eFn 3 (fM 4 b_are_some) (aCons (eOp fIx (eVar 8) (eC (.int 1))) (aCons (eVar 2) (aCons (eVar 4) aNil))))))
 (fun _ _ => none)
 sNil)
 (sApp 6 (eOp fIx (eVar 8) (eC (.int 0)))))))))
def b_in_order : SM W0 :=
 (sRet (eCall fTuple (aCons (eL (lLc [2] (iSeq (eVar 0)) (gmName 2) (tOf (eOp fIn (eVar 2) (eVar 1))) (eVar 2))) aNil)))
def b_Housedd_initdd : SM W0 :=
 (sSeq (sDrop (eFn 1 (fM 3 b_check_ring) (aCons (eVar 1) aNil)))
 (sSeq (sDrop (eFn 6 (fM 9 b_check_rows) (aCons (eVar 2) (aCons (eC (.str "locks")) (aCons (eVar 1) (aCons (eVar 1) (aCons (eC (.int 0)) (aCons (eC (.int 8)) aNil))))))))
 (sSeq (sSet 4 (vE (eL (lLc [5] (iSeq (eVar 2)) (gmName 5) tYesM (eOp fIx (eVar 5) (eC (.int 0)))))))
 (sSeq (sDrop (eFn 6 (fM 9 b_check_rows) (aCons (eVar 3) (aCons (eC (.str "doors")) (aCons (eVar 4) (aCons (eL (lLst (aStar (eVar 1) (aStar (eVar 4) aNil)))) (aCons (eC (.int 1)) (aCons (eC (.int 8)) aNil))))))))
 (sSeq (sFldD 0 0 0 (eCall fPTup (aCons (eVar 1) aNil)))
 (sSeq (sFldD 0 0 1 (eCall fPTup (aCons (eL (lLc [6, 7] (iSeq (eVar 2)) (gmTup 2 (gmCons (gmName 6) (gmCons (gmName 7) gmNil))) tYesM (eTup (aCons (eVar 6) (aCons (eFn 2 (fM 3 b_in_order) (aCons (eVar 1) (aCons (eVar 7) aNil))) aNil))))) aNil)))
 (sFldD 0 0 2 (eCall fPTup (aCons (eL (lLc [6, 7] (iSeq (eVar 3)) (gmTup 2 (gmCons (gmName 6) (gmCons (gmName 7) gmNil))) tYesM (eTup (aCons (eVar 6) (aCons (eFn 2 (fM 3 b_in_order) (aCons (eVar 4) (aCons (eVar 7) aNil))) aNil))))) aNil)))))))))
def b__law_house : SM W0 :=
 (sRet (eMk 0 3 (iM fdT 8 0 b_Housedd_initdd) (aCons (eOp fGet (eVar 0) (eC (.str "ring"))) (aCons (eOp fGet (eVar 0) (eC (.str "locks"))) (aCons (eOp fGet (eVar 0) (eC (.str "doors"))) aNil)))))
def b__law_door_names : SM W0 :=
 (sRet (eL (lLc [1] (iSeq (eOp fGet (eVar 0) (eC (.str "doors")))) (gmName 1) tYesM (eOp fIx (eVar 1) (eC (.int 0))))))
def b_check_house : SM W0 :=
 (sIf (bNot (tOf (eUn (isIns [0] 0) (eVar 0))))
 (fun _ _ => none)
 sNil)
def b_check_key : SM W0 :=
 (sSeq (sDrop (eFn 1 (fM 1 b_check_house) (aCons (eVar 0) aNil)))
 (sIf (bOr (bNot (tOf (eUn is_str (eVar 1)))) (tOf (eOp fNotIn (eVar 1) (eUn (fldD NC fdT "ring") (eVar 0)))))
 (fun _ _ => none)
 sNil))
def b_check_keys : SM W0 :=
 (sSeq (sDrop (eFn 1 (fM 1 b_check_house) (aCons (eVar 0) aNil)))
 (sIf (bOr (bNot (tOf (eFn 1 (fM 1 b_is_row) (aCons (eVar 1) aNil)))) (bNot (tOf (eCall fAll (aCons (eL (lLc [2] (iSeq (eVar 1)) (gmName 2) tYesM (eAnd (eUn is_str (eVar 2)) (eOp fIn (eVar 2) (eUn (fldD NC fdT "ring") (eVar 0)))))) aNil)))))
 (fun _ _ => none)
 sNil))
def b_House_door_names : SM W0 :=
 (sRet (eL (lLc [1, 2] (iSeq (eUn (fldD NC fdT "doors") (eVar 0))) (gmTup 2 (gmCons (gmName 1) (gmCons (gmName 2) gmNil))) tYesM (eVar 1))))
def b_check_doors : SM W0 :=
 (sSeq (sDrop (eFn 1 (fM 1 b_check_house) (aCons (eVar 0) aNil)))
 (sIf (bOr (bNot (tOf (eFn 1 (fM 1 b_is_row) (aCons (eVar 1) aNil)))) (bNot (tOf (eCall fAll (aCons (eL (lLc [2] (iSeq (eVar 1)) (gmName 2) tYesM (eAnd (eUn is_str (eVar 2)) (eOp fIn (eVar 2) (eMeth 0 0 (fM 3 b_House_door_names) (eVar 0) aNil))))) aNil)))))
 (fun _ _ => none)
 sNil))
def b_House_locks_of : SM W0 :=
 (sSeq (sIf (bOr (bNot (tOf (eUn is_str (eVar 1)))) (tOf (eOp fNotIn (eVar 1) (eMeth 0 0 (fM 3 b_House_door_names) (eVar 0) aNil))))
 (fun _ _ => none)
 sNil)
 (sRet (eOp fGet (eK (kCall kDict (aCons (eUn (fldP NC fdT "doors") (eVar 0)) aNil))) (eVar 1))))
def b_door_locks : SM W0 :=
 (sSeq (sDrop (eFn 2 (fM 3 b_check_doors) (aCons (eVar 0) (aCons (eL (lLst aNil)) aNil))))
 (sSeq (sSet 3 (vE (eMeth 0 1 (fM 2 b_House_locks_of) (eVar 0) (aCons (eVar 1) aNil))))
 (sSeq (sDrop (eFn 2 (fM 3 b_check_keys) (aCons (eVar 0) (aCons (eVar 2) aNil))))
 (sRet (eVar 3)))))
def b_House_lock_names : SM W0 :=
 (sRet (eL (lLc [1, 2] (iSeq (eUn (fldD NC fdT "locks") (eVar 0))) (gmTup 2 (gmCons (gmName 1) (gmCons (gmName 2) gmNil))) tYesM (eVar 1))))
def b_House_openers : SM W0 :=
 (sSeq (sIf (bOr (bNot (tOf (eUn is_str (eVar 1)))) (tOf (eOp fNotIn (eVar 1) (eMeth 0 0 (fM 3 b_House_lock_names) (eVar 0) aNil))))
 (fun _ _ => none)
 sNil)
 (sRet (eOp fGet (eK (kCall kDict (aCons (eUn (fldP NC fdT "locks") (eVar 0)) aNil))) (eVar 1))))
def b_opens_lock : SM W0 :=
 (sSeq (sDrop (eFn 1 (fM 1 b_check_house) (aCons (eVar 0) aNil)))
 (sSeq (sSet 3 (vE (eMeth 0 1 (fM 2 b_House_openers) (eVar 0) (aCons (eVar 1) aNil))))
 (sSeq (sDrop (eFn 2 (fM 3 b_check_keys) (aCons (eVar 0) (aCons (eVar 2) aNil))))
 (sRet (eCall fAny (aCons (eL (lLc [4] (iSeq (eVar 2)) (gmName 4) tYesM (eOp fIn (eVar 4) (eVar 3)))) aNil))))))
def b_opens : SM W0 :=
 (sRet (eCall fAll (aCons (eL (lLc [3] (iSeq (eFn 3 (fM 4 b_door_locks) (aCons (eVar 0) (aCons (eVar 1) (aCons (eVar 2) aNil))))) (gmName 3) tYesM (eFn 3 (fM 5 b_opens_lock) (aCons (eVar 0) (aCons (eVar 3) (aCons (eVar 2) aNil)))))) aNil)))
def b_doors_of : SM W0 :=
 (sSeq (sDrop (eFn 2 (fM 3 b_check_keys) (aCons (eVar 0) (aCons (eVar 1) aNil))))
 (sRet (eL (lLc [2] (iSeq (eMeth 0 0 (fM 3 b_House_door_names) (eVar 0) aNil)) (gmName 2) (tOf (eFn 3 (fM 4 b_opens) (aCons (eVar 0) (aCons (eVar 2) (aCons (eVar 1) aNil))))) (eVar 2)))))
def b_is_below_key : SM W0 :=
 (sSeq (sDrop (eFn 2 (fM 2 b_check_key) (aCons (eVar 0) (aCons (eVar 1) aNil))))
 (sSeq (sDrop (eFn 2 (fM 2 b_check_key) (aCons (eVar 0) (aCons (eVar 2) aNil))))
 (sSeq (sAsg (eTup (aCons (eFn 2 (fM 3 b_doors_of) (aCons (eVar 0) (aCons (eL (lLst (aCons (eVar 1) aNil))) aNil))) (aCons (eFn 2 (fM 3 b_doors_of) (aCons (eVar 0) (aCons (eL (lLst (aCons (eVar 2) aNil))) aNil))) aNil))) (gmTup 2 (gmCons (gmName 3) (gmCons (gmName 4) gmNil))))
 (sRet (eAnd (eOp fNe (eVar 3) (eVar 4)) (eCall fAll (aCons (eL (lLc [5] (iSeq (eVar 3)) (gmName 5) tYesM (eOp fIn (eVar 5) (eVar 4)))) aNil)))))))
def b_above : SM W0 :=
 (sSeq (sDrop (eFn 2 (fM 2 b_check_key) (aCons (eVar 0) (aCons (eVar 1) aNil))))
 (sRet (eL (lLc [2] (iSeq (eUn (fldD NC fdT "ring") (eVar 0))) (gmName 2) (tOf (eFn 3 (fM 6 b_is_below_key) (aCons (eVar 0) (aCons (eVar 1) (aCons (eVar 2) aNil))))) (eVar 2)))))
def b_alike_keys : SM W0 :=
 (sSeq (sDrop (eFn 1 (fM 1 b_check_house) (aCons (eVar 0) aNil)))
 (sSeq (sFor (iSeq (eTup (aCons (eVar 1) (aCons (eVar 2) aNil)))) (gmName 3)
 (sIf (bOr (bNot (tOf (eUn is_str (eVar 3)))) (tOf (eOp fNotIn (eVar 3) (eUn (fldD NC fdT "ring") (eVar 0)))))
 (fun _ _ => none)
 sNil))
 (sRet (eCall fAll (aCons (eL (lLc [4, 5] (iSeq (eUn (fldD NC fdT "locks") (eVar 0))) (gmTup 2 (gmCons (gmName 4) (gmCons (gmName 5) gmNil))) tYesM (eOp fEq (eOp fIn (eVar 1) (eVar 5)) (eOp fIn (eVar 2) (eVar 5))))) aNil)))))
def b_tops : SM W0 :=
 (sSeq (sDrop (eFn 1 (fM 1 b_check_house) (aCons (eVar 0) aNil)))
 (sRet (eL (lLc [1] (iSeq (eUn (fldD NC fdT "ring") (eVar 0))) (gmName 1) (tOf (eOp fEq (eFn 2 (fM 3 b_above) (aCons (eVar 0) (aCons (eVar 1) aNil))) (eL (lLst aNil)))) (eVar 1)))))
noncomputable def b_longest_chain : SM W0 :=
 (sSeq (sDrop (eFn 1 (fM 1 b_check_house) (aCons (eVar 0) aNil)))
 (sSeq (sSet 1 (vE (eL (lLc [3] (iSeq (eUn (fldD NC fdT "ring") (eVar 0))) (gmName 3) tYesM (eTup (aCons (eVar 3) aNil))))))
 (sSeq (sSet 2 (vE (eOp fIx (eVar 1) (eC (.int 0)))))
 (sSeq (sWhile (tOf (eOp fNe (eVar 1) (eL (lLst aNil))))
 (sSeq (sSet 2 (vE (eOp fIx (eVar 1) (eC (.int 0)))))
 (sSet 1 (vE (eL (lLc2 [4, 5] [5] (iSeq (eVar 1)) (gmName 4) tYesM (iSeq (eFn 2 (fM 3 b_above) (aCons (eVar 0) (aCons (eOp fIx (eVar 4) (eUn fNeg (eC (.int 1)))) aNil)))) (gmName 5) tYesM (eTup (aStar (eVar 4) (aCons (eVar 5) aNil)))))))))
 (sRet (eVar 2))))))
def b_masters : SM W0 :=
 (sSeq (sDrop (eFn 1 (fM 1 b_check_house) (aCons (eVar 0) aNil)))
 (sRet (eL (lLc [1] (iSeq (eUn (fldD NC fdT "ring") (eVar 0))) (gmName 1) (tOf (eOp fEq (eCall fLen (aCons (eFn 2 (fM 3 b_doors_of) (aCons (eVar 0) (aCons (eL (lLst (aCons (eVar 1) aNil))) aNil))) aNil)) (eCall fLen (aCons (eUn (fldD NC fdT "doors") (eVar 0)) aNil)))) (eVar 1)))))
def b_exposed : SM W0 :=
 (sSeq (sDrop (eFn 2 (fM 3 b_check_keys) (aCons (eVar 0) (aCons (eVar 1) aNil))))
 (sRet (eL (lLc [2] (iSeq (eMeth 0 0 (fM 3 b_House_door_names) (eVar 0) aNil)) (gmName 2) (tOf (eFn 3 (fM 4 b_opens) (aCons (eVar 0) (aCons (eVar 2) (aCons (eVar 1) aNil))))) (eVar 2)))))
def b_worst_loss : SM W0 :=
 (sSeq (sDrop (eFn 1 (fM 1 b_check_house) (aCons (eVar 0) aNil)))
 (sSeq (sSet 1 (vE (eK (kDc [2] (iSeq (eUn (fldD NC fdT "ring") (eVar 0))) (gmName 2) tYesM (eVar 2) (eCall fLen (aCons (eFn 2 (fM 3 b_exposed) (aCons (eVar 0) (aCons (eL (lLst (aCons (eVar 2) aNil))) aNil))) aNil))))))
 (sRet (eOp fIx (eL (lLc [2] (iSeq (eUn (fldD NC fdT "ring") (eVar 0))) (gmName 2) (tOf (eOp fEq (eOp fGet (eVar 1) (eVar 2)) (eUn fMaxV (eVar 1)))) (eVar 2))) (eC (.int 0))))))
def b_are_apart : SM W0 :=
 (sSeq (sAsg (eTup (aCons (eFn 2 (fM 3 b_doors_of) (aCons (eVar 0) (aCons (eL (lLst (aCons (eVar 1) aNil))) aNil))) (aCons (eFn 2 (fM 3 b_doors_of) (aCons (eVar 0) (aCons (eL (lLst (aCons (eVar 2) aNil))) aNil))) aNil))) (gmTup 2 (gmCons (gmName 3) (gmCons (gmName 4) gmNil))))
 (sRet (eAnd (eNot (eCall fAll (aCons (eL (lLc [5] (iSeq (eVar 3)) (gmName 5) tYesM (eOp fIn (eVar 5) (eVar 4)))) aNil))) (eNot (eCall fAll (aCons (eL (lLc [5] (iSeq (eVar 4)) (gmName 5) tYesM (eOp fIn (eVar 5) (eVar 3)))) aNil))))))
def b_Forkdd_initdd : SM W0 :=
 (sSeq (sFldD 0 2 0 (eVar 1))
 (sSeq (sFldD 0 2 1 (eVar 2))
 (sFldD 0 2 2 (eVar 3))))
def b_rowed (rc : FM W0) : SM W0 :=
 (sRet (eIf (tOf (eFn 1 (fM 1 b_is_row) (aCons (eVar 0) aNil))) (eCall fTuple (aCons (eL (lLc [1] (iSeq (eVar 0)) (gmName 1) tYesM (eFn 1 rc (aCons (eVar 1) aNil)))) aNil)) (eVar 0)))
def m_rowed : Nat → FM W0
  | 0 => fun _ _ => none
  | j + 1 => fM 2 (b_rowed (m_rowed j))
def b_Treedd_initdd : SM W0 :=
 (sFldD 0 1 0 (eFn 1 (m_rowed 4) (aCons (eVar 1) aNil)))
def b_judge_tree : SM W0 :=
 (sSeq (sDrop (eFn 1 (fM 1 b_check_house) (aCons (eVar 0) aNil)))
 (sSeq (sSet 1 (vL (lLst aNil)))
 (sSeq (sFor (iSeq (eUn (fldD NC fdT "ring") (eVar 0))) (gmName 2)
 (sSeq (sSet 3 (vE (eFn 2 (fM 3 b_above) (aCons (eVar 0) (aCons (eVar 2) aNil)))))
 (sSeq (sFor (iRng combD (aCons (eVar 3) (aCons (eC (.int 2)) aNil))) (gmTup 2 (gmCons (gmName 4) (gmCons (gmName 5) gmNil)))
 (sIf (tOf (eFn 3 (fM 6 b_are_apart) (aCons (eVar 0) (aCons (eVar 4) (aCons (eVar 5) aNil)))))
 (sRet (eMk 2 3 (iM fdT 4 2 b_Forkdd_initdd) (aCons (eVar 2) (aCons (eVar 4) (aCons (eVar 5) aNil)))))
 sNil))
 (sSeq (sSet 6 (vE (eL (lLc [7] (iSeq (eVar 3)) (gmName 7) (bNot (tOf (eCall fAny (aCons (eL (lLc [8] (iSeq (eVar 3)) (gmName 8) tYesM (eFn 3 (fM 6 b_is_below_key) (aCons (eVar 0) (aCons (eVar 8) (aCons (eVar 7) aNil)))))) aNil)))) (eVar 7)))))
 (sApp 1 (eIf (tOf (eOp fNe (eVar 6) (eL (lLst aNil)))) (eOp fIx (eVar 6) (eC (.int 0))) (eC .non)))))))
 (sFrz 1 (sRet (eMk 1 1 (iM fdT 2 1 b_Treedd_initdd) (aCons (eVar 1) aNil)))))))
def b_Issuedd_initdd : SM W0 :=
 (sFldD 0 3 0 (eFn 1 (m_rowed 4) (aCons (eVar 1) aNil)))
def b_in_house : SM W0 :=
 (sRet (eL (lLc [2] (iSeq (eMeth 0 0 (fM 3 b_House_door_names) (eVar 0) aNil)) (gmName 2) (tOf (eOp fIn (eVar 2) (eVar 1))) (eVar 2))))
def b_least_up_to : SM W0 :=
 (sSeq (sSet 3 (vL (lLst aNil)))
 (sSeq (sFor (iRng rng1 (aCons (eOp fAdd (eCall fMin (aCons (eVar 1) (aCons (eCall fLen (aCons (eVar 0) aNil)) aNil))) (eC (.int 1))) aNil)) (gmName 4)
 (sFor (iRng combD (aCons (eVar 0) (aCons (eVar 4) aNil))) (gmName 5)
 (sIf (tPeek 3 (bAnd (bNot (tOf (eCall fAny (aCons (eL (lLc [6] (iSeq (eVar 3)) (gmName 6) tYesM (eCall fAll (aCons (eL (lLc [7] (iSeq (eVar 6)) (gmName 7) tYesM (eOp fIn (eVar 7) (eVar 5)))) aNil)))) aNil)))) (tOf (eTest 2 (eVar 5)))))
 (sApp 3 (eVar 5))
 sNil)))
 (sFrz 3 (sRet (eVar 3)))))
def b_least_sets : SM W0 :=
 (sRet (eCallT 1 2 (lM 8 b_least_up_to) (aCons (eVar 0) (aCons (eCall fLen (aCons (eVar 0) aNil)) aNil))))
def g_least_issues_l1 : EM W0 :=
 (eCall fAll (aCons (eL (lLc [3] (iSeq (eVar 2)) (gmName 3) tYesM (eFn 3 (fM 4 b_opens) (aCons (eVar 1) (aCons (eVar 3) (aCons (eVar 0) aNil)))))) aNil))
noncomputable def b_least_issues : SM W0 :=
 (sSeq (sDrop (eFn 2 (fM 3 b_check_doors) (aCons (eVar 0) (aCons (eVar 1) aNil))))
 (sSeq (sSet 3 (vE (eFn 2 (fM 3 b_in_house) (aCons (eVar 0) (aCons (eVar 1) aNil)))))
 (sSeq (sSet 2 (vE (eCallLam [0, 3] 1 4 g_least_issues_l1 (lM 2 b_least_sets) (aCons (eUn (fldD NC fdT "ring") (eVar 0)) aNil))))
 (sRet (eL (lLc [4] (iSeq (eVar 2)) (gmName 4) (tOf (eOp fEq (eFn 2 (fM 3 b_doors_of) (aCons (eVar 0) (aCons (eVar 4) aNil))) (eVar 3))) (eVar 4)))))))
noncomputable def b_judge_issue : SM W0 :=
 (sSeq (sDrop (eFn 2 (fM 3 b_check_doors) (aCons (eVar 0) (aCons (eVar 1) aNil))))
 (sSeq (sSet 2 (vE (eFn 2 (fM 6 b_least_issues) (aCons (eVar 0) (aCons (eVar 1) aNil)))))
 (sSeq (sIf (tOf (eOp fNe (eVar 2) (eL (lLst aNil))))
 (sRet (eMk 3 1 (iM fdT 2 3 b_Issuedd_initdd) (aCons (eOp fIx (eVar 2) (eC (.int 0))) aNil)))
 sNil)
 (fun _ _ => none))))
noncomputable def b_law : SM W0 :=
 (sSeq (sSet 2 (vE (eFn 2 (fM 11 b__law_drawn_house) (aCons (eVar 1) (aCons (eOp fAdd (eC (.int 1)) (eFn 2 (fM 2 b__law_take) (aCons (eVar 1) (aCons (eC (.int 6)) aNil)))) aNil)))))
 (sSeq (sAsg (eTup (aCons (eFn 1 (fM 1 b__law_house) (aCons (eVar 2) aNil)) (aCons (eOp fGet (eVar 2) (eC (.str "ring"))) (aCons (eFn 1 (fM 2 b__law_door_names) (aCons (eVar 2) aNil)) aNil)))) (gmTup 3 (gmCons (gmName 3) (gmCons (gmName 4) (gmCons (gmName 5) gmNil)))))
 (sSeq (sSet 7 (vE (eK (kCall kDict (aCons (eL (lLc [6] (iSeq (eVar 4)) (gmName 6) tYesM (eTup (aCons (eVar 6) (aCons (eL (lCall lList (aCons (eFn 2 (fM 3 b_above) (aCons (eVar 3) (aCons (eVar 6) aNil))) aNil))) aNil))))) aNil)))))
 (sSeq (sFor (iSeq (eVar 4)) (gmName 6)
 (sSeq (sIf (bOr (tOf (eOp fIn (eVar 6) (eOp fGet (eVar 7) (eVar 6)))) (tOf (eCall fAny (aCons (eL (lLc [8] (iSeq (eOp fGet (eVar 7) (eVar 6))) (gmName 8) tYesM (eOp fIn (eVar 6) (eOp fGet (eVar 7) (eVar 8))))) aNil))))
 (sRet (eC (.bl false)))
 sNil)
 (sSeq (sFor (iSeq (eOp fGet (eVar 7) (eVar 6))) (gmName 8)
 (sIf (bOr (bNot (tOf (eCall fAll (aCons (eL (lLc [9] (iSeq (eOp fGet (eVar 7) (eVar 8))) (gmName 9) tYesM (eOp fIn (eVar 9) (eOp fGet (eVar 7) (eVar 6))))) aNil)))) (bOr (bNot (tOf (eFn 3 (fM 6 b_is_below_key) (aCons (eVar 3) (aCons (eVar 6) (aCons (eVar 8) aNil)))))) (tOf (eOp fLe (eCall fLen (aCons (eFn 2 (fM 3 b_doors_of) (aCons (eVar 3) (aCons (eL (lLst (aCons (eVar 8) aNil))) aNil))) aNil)) (eCall fLen (aCons (eFn 2 (fM 3 b_doors_of) (aCons (eVar 3) (aCons (eL (lLst (aCons (eVar 6) aNil))) aNil))) aNil))))))
 (sRet (eC (.bl false)))
 sNil))
 (sSeq (sSet 10 (vE (eL (lLc [8] (iSeq (eVar 4)) (gmName 8) (tOf (eOp fEq (eFn 2 (fM 3 b_doors_of) (aCons (eVar 3) (aCons (eL (lLst (aCons (eVar 8) aNil))) aNil))) (eFn 2 (fM 3 b_doors_of) (aCons (eVar 3) (aCons (eL (lLst (aCons (eVar 6) aNil))) aNil))))) (eVar 8)))))
 (sSeq (sIf (bOr (tOf (eCall fAny (aCons (eL (lLc [8] (iSeq (eVar 10)) (gmName 8) tYesM (eOp fNe (eOp fGet (eVar 7) (eVar 8)) (eOp fGet (eVar 7) (eVar 6))))) aNil))) (tOf (eCall fAny (aCons (eL (lLc [8] (iSeq (eVar 4)) (gmName 8) tYesM (eAnd (eFn 3 (fM 6 b_alike_keys) (aCons (eVar 3) (aCons (eVar 6) (aCons (eVar 8) aNil)))) (eOp fNotIn (eVar 8) (eVar 10))))) aNil))))
 (sRet (eC (.bl false)))
 sNil)
 (sIf (bOr (bAnd (tOf (eOp fEq (eOp fGet (eVar 7) (eVar 6)) (eL (lLst aNil)))) (tOf (eOp fNotIn (eVar 6) (eFn 1 (fM 2 b_tops) (aCons (eVar 3) aNil))))) (bAnd (tOf (eOp fNe (eOp fGet (eVar 7) (eVar 6)) (eL (lLst aNil)))) (bNot (tOf (eCall fAny (aCons (eL (lLc [8] (iSeq (eOp fGet (eVar 7) (eVar 6))) (gmName 8) tYesM (eOp fIn (eVar 8) (eFn 1 (fM 2 b_tops) (aCons (eVar 3) aNil))))) aNil))))))
 (sRet (eC (.bl false)))
 sNil))))))
 (sSeq (sSet 11 (vE (eFn 1 (fM 6 b_longest_chain) (aCons (eVar 3) aNil))))
 (sSeq (sFor (iSeq (eL (lZip (aCons (eVar 11) (aCons (eCut (eVar 11) (pSome (eC (.int 1))) pNone) aNil))))) (gmTup 2 (gmCons (gmName 12) (gmCons (gmName 9) gmNil)))
 (sIf (tOf (eOp fNotIn (eVar 9) (eOp fGet (eVar 7) (eVar 12))))
 (sRet (eC (.bl false)))
 sNil))
 (sSeq (sIf (bOr (tOf (eOp fNotIn (eOp fIx (eVar 11) (eUn fNeg (eC (.int 1)))) (eFn 1 (fM 2 b_tops) (aCons (eVar 3) aNil)))) (bOr (tOf (eCall fAny (aCons (eL (lLc [6] (iSeq (eVar 4)) (gmName 6) tYesM (eOp fIn (eOp fIx (eVar 11) (eC (.int 0))) (eOp fGet (eVar 7) (eVar 6))))) aNil))) (tOf (eOp fGt (eCall fLen (aCons (eVar 11) aNil)) (eOp fAdd (eCall fLen (aCons (eVar 5) aNil)) (eC (.int 1)))))))
 (sRet (eC (.bl false)))
 sNil)
 (sSeq (sIf (bOr (bAnd (tOf (eOp fNe (eFn 1 (fM 2 b_masters) (aCons (eVar 3) aNil)) (eL (lLst aNil)))) (tOf (eOp fNe (eL (lCall lSorted (aCons (eFn 1 (fM 2 b_tops) (aCons (eVar 3) aNil)) aNil))) (eL (lCall lSorted (aCons (eFn 1 (fM 2 b_masters) (aCons (eVar 3) aNil)) aNil)))))) (tOf (eOp fNotIn (eFn 1 (fM 3 b_worst_loss) (aCons (eVar 3) aNil)) (eFn 1 (fM 2 b_tops) (aCons (eVar 3) aNil)))))
 (sRet (eC (.bl false)))
 sNil)
 (sSeq (sSet 13 (vE (eFn 1 (fM 9 b_judge_tree) (aCons (eVar 3) aNil))))
 (sSeq (sIf (tTru tiA (eVar 13))
 (sFor (iSeq (eL (lZip (aCons (eVar 4) (aCons (eUn (fldD NC fdT "rows") (eVar 13)) aNil))))) (gmTup 2 (gmCons (gmName 6) (gmCons (gmName 14) gmNil)))
 (sSeq (sIf (tOf (eOp fNe (eOp fIsN (eVar 14) (eC .non)) (eOp fEq (eOp fGet (eVar 7) (eVar 6)) (eL (lLst aNil)))))
 (sRet (eC (.bl false)))
 sNil)
 (sIf (bAnd (tOf (eOp fNotN (eVar 14) (eC .non))) (bOr (tOf (eOp fNotIn (eVar 14) (eOp fGet (eVar 7) (eVar 6)))) (tOf (eCall fAny (aCons (eL (lLc [8] (iSeq (eOp fGet (eVar 7) (eVar 6))) (gmName 8) tYesM (eAnd (eOp fNotIn (eVar 8) (eOp fGet (eVar 7) (eVar 14))) (eOp fNe (eFn 2 (fM 3 b_doors_of) (aCons (eVar 3) (aCons (eL (lLst (aCons (eVar 8) aNil))) aNil))) (eFn 2 (fM 3 b_doors_of) (aCons (eVar 3) (aCons (eL (lLst (aCons (eVar 14) aNil))) aNil))))))) aNil)))))
 (sRet (eC (.bl false)))
 sNil)))
 sNil)
 (sSeq (sIf (bAnd (bNot (tTru tiA (eVar 13))) (bOr (tOf (eOp fNotIn (eUn (fldD NC fdT "first") (eVar 13)) (eOp fGet (eVar 7) (eUn (fldD NC fdT "one") (eVar 13))))) (bOr (tOf (eOp fNotIn (eUn (fldD NC fdT "last") (eVar 13)) (eOp fGet (eVar 7) (eUn (fldD NC fdT "one") (eVar 13))))) (bOr (tOf (eOp fIn (eUn (fldD NC fdT "last") (eVar 13)) (eOp fGet (eVar 7) (eUn (fldD NC fdT "first") (eVar 13))))) (tOf (eOp fIn (eUn (fldD NC fdT "first") (eVar 13)) (eOp fGet (eVar 7) (eUn (fldD NC fdT "last") (eVar 13)))))))))
 (sRet (eC (.bl false)))
 sNil)
 (sSeq (sIf (tOf (eOp fGt (eCall fLen (aCons (eOp fGet (eVar 2) (eC (.str "doors"))) aNil)) (eC (.int 1))))
 (sSeq (sSet 15 (vE (eMk 0 3 (iM fdT 8 0 b_Housedd_initdd) (aCons (eVar 4) (aCons (eOp fGet (eVar 2) (eC (.str "locks"))) (aCons (eCut (eOp fGet (eVar 2) (eC (.str "doors"))) pNone (pSome (eUn fNeg (eC (.int 1))))) aNil))))))
 (sFor (iSeq (eVar 4)) (gmName 6)
 (sFor (iSeq (eOp fGet (eVar 7) (eVar 6))) (gmName 8)
 (sIf (bAnd (tOf (eOp fNotIn (eVar 8) (eFn 2 (fM 3 b_above) (aCons (eVar 15) (aCons (eVar 6) aNil))))) (tOf (eOp fNe (eFn 2 (fM 3 b_doors_of) (aCons (eVar 15) (aCons (eL (lLst (aCons (eVar 8) aNil))) aNil))) (eFn 2 (fM 3 b_doors_of) (aCons (eVar 15) (aCons (eL (lLst (aCons (eVar 6) aNil))) aNil))))))
 (sRet (eC (.bl false)))
 sNil))))
 sNil)
 (sSeq (sSet 6 (vE (eFn 2 (fM 2 b__law_pick) (aCons (eVar 1) (aCons (eVar 4) aNil)))))
 (sSeq (sSet 16 (vE (eL (lCall lList (aCons (eFn 2 (fM 3 b_doors_of) (aCons (eVar 3) (aCons (eL (lLst (aCons (eVar 6) aNil))) aNil))) aNil)))))
 (sRet (eAnd (eBoolI tiA (eFn 2 (fM 6 b_judge_issue) (aCons (eVar 3) (aCons (eVar 16) aNil)))) (eAnd (eOp fEq (eL (lCall lList (aCons (eFn 2 (fM 3 b_exposed) (aCons (eVar 3) (aCons (eL (lLst (aCons (eVar 6) aNil))) aNil))) aNil))) (eVar 16)) (eOp fLe (eCall fLen (aCons (eUn (fldD NC fdT "some") (eFn 2 (fM 6 b_judge_issue) (aCons (eVar 3) (aCons (eVar 16) aNil)))) aNil)) (eC (.int 1))))))))))))))))))))
end K82
set_option Elab.async false
set_option linter.all false
set_option maxRecDepth 100000
set_option maxHeartbeats 4000000
namespace K82
open PySem PySem.Spec PyProof.Rows L2 Evl DL NdefX
/-! ### the text -/
def top (i : Nat) : Stmt := PySem.Challenge.pw_keysout_k82_who_is_above_whom.main.body.getD i (.Pass ⟨0, 0, 0, 0⟩)
abbrev s_Treedd_booldd : Stmt := inClass (top 35) 1
abbrev s_Forkdd_booldd : Stmt := inClass (top 36) 1
abbrev s_Issuedd_booldd : Stmt := inClass (top 45) 1
abbrev s__law_number : Stmt := top 57
abbrev s__law_take : Stmt := top 58
abbrev s__law_pick : Stmt := top 59
abbrev s__law_drawn_house : Stmt := top 60
abbrev s_is_row : Stmt := top 10
abbrev s_is_name : Stmt := top 11
abbrev s_check_ring : Stmt := top 22
abbrev s_are_some : Stmt := top 21
abbrev s_check_rows : Stmt := top 23
abbrev s_in_order : Stmt := top 20
abbrev s_Housedd_initdd : Stmt := inClass (top 19) 0
abbrev s__law_house : Stmt := top 61
abbrev s__law_door_names : Stmt := top 62
abbrev s_check_house : Stmt := top 24
abbrev s_check_key : Stmt := top 37
abbrev s_check_keys : Stmt := top 25
abbrev s_House_door_names : Stmt := inClass (top 19) 3
abbrev s_check_doors : Stmt := top 26
abbrev s_House_locks_of : Stmt := inClass (top 19) 5
abbrev s_door_locks : Stmt := top 28
abbrev s_House_lock_names : Stmt := inClass (top 19) 2
abbrev s_House_openers : Stmt := inClass (top 19) 4
abbrev s_opens_lock : Stmt := top 29
abbrev s_opens : Stmt := top 30
abbrev s_doors_of : Stmt := top 31
abbrev s_is_below_key : Stmt := top 38
abbrev s_above : Stmt := top 39
abbrev s_alike_keys : Stmt := top 33
abbrev s_tops : Stmt := top 40
abbrev s_longest_chain : Stmt := top 41
abbrev s_masters : Stmt := top 32
abbrev s_exposed : Stmt := top 54
abbrev s_worst_loss : Stmt := top 55
abbrev s_are_apart : Stmt := top 43
abbrev s_Forkdd_initdd : Stmt := inClass (top 36) 0
abbrev s_rowed : Stmt := top 12
abbrev s_Treedd_initdd : Stmt := inClass (top 35) 0
abbrev s_judge_tree : Stmt := top 42
abbrev s_Issuedd_initdd : Stmt := inClass (top 45) 0
abbrev s_in_house : Stmt := top 47
abbrev s_least_up_to : Stmt := top 14
abbrev s_least_sets : Stmt := top 13
abbrev s_least_issues : Stmt := top 51
abbrev s_judge_issue : Stmt := top 52
abbrev s_law : Stmt := top 63
/-- the places of the classes and defs -/
structure Ad where
  c_House : Addr
  c_Tree : Addr
  c_Fork : Addr
  c_Issue : Addr
  c_NoIssue : Addr
  f_Treedd_booldd : Addr
  f_Forkdd_booldd : Addr
  f_Issuedd_booldd : Addr
  f__law_number : Addr
  f__law_take : Addr
  f__law_pick : Addr
  f__law_drawn_house : Addr
  f_is_row : Addr
  f_is_name : Addr
  f_check_ring : Addr
  f_are_some : Addr
  f_check_rows : Addr
  f_in_order : Addr
  f_Housedd_initdd : Addr
  f__law_house : Addr
  f__law_door_names : Addr
  f_check_house : Addr
  f_check_key : Addr
  f_check_keys : Addr
  f_House_door_names : Addr
  f_check_doors : Addr
  f_House_locks_of : Addr
  f_door_locks : Addr
  f_House_lock_names : Addr
  f_House_openers : Addr
  f_opens_lock : Addr
  f_opens : Addr
  f_doors_of : Addr
  f_is_below_key : Addr
  f_above : Addr
  f_alike_keys : Addr
  f_tops : Addr
  f_longest_chain : Addr
  f_masters : Addr
  f_exposed : Addr
  f_worst_loss : Addr
  f_are_apart : Addr
  f_Forkdd_initdd : Addr
  f_rowed : Addr
  f_Treedd_initdd : Addr
  f_judge_tree : Addr
  f_Issuedd_initdd : Addr
  f_in_house : Addr
  f_least_up_to : Addr
  f_least_sets : Addr
  f_least_issues : Addr
  cd_least_issues : Addr
  tb_least_issues : Addr
  f_judge_issue : Addr
  f_law : Addr
def adT (A : Ad) : Nat → Addr
  | 0 => A.c_House
  | 1 => A.c_Tree
  | 2 => A.c_Fork
  | 3 => A.c_Issue
  | 4 => A.c_NoIssue
  | _ => 0
@[reducible] def CF (K : PySem.W.Frag) (A : Ad) (ns : List Int) (a p : Addr) (Tb : List NdefX.NTab) : Cfg := cfW K (adT A) fdT ns a p Tb (fun _ _ => False) (fun _ => False)
def nm_least_issues : Nat → Nat → Str := fun _ _ => (("least_issues" : Str) ++ ".<locals>.") ++ "<lambda>"
abbrev LV : Nat := 8
/-- what the written part tells -/
structure Txt (K : PySem.W.Frag) (mg : Str → Option Value) (base : Heap) (A : Ad) (a : Addr) (Tb : List NdefX.NTab) : Prop where
  aT : a ∉ Tb.map (·.1)
  d_Treedd_booldd : DefAt K "__bool__" "Tree.__bool__" s_Treedd_booldd ["self"] A.f_Treedd_booldd
  M_Treedd_booldd : L2.Meth K A.c_Tree "__bool__" A.f_Treedd_booldd
  d_Forkdd_booldd : DefAt K "__bool__" "Fork.__bool__" s_Forkdd_booldd ["self"] A.f_Forkdd_booldd
  M_Forkdd_booldd : L2.Meth K A.c_Fork "__bool__" A.f_Forkdd_booldd
  d_Issuedd_booldd : DefAt K "__bool__" "Issue.__bool__" s_Issuedd_booldd ["self"] A.f_Issuedd_booldd
  M_Issuedd_booldd : L2.Meth K A.c_Issue "__bool__" A.f_Issuedd_booldd
  d__law_number : DefAt K "_law_number" "_law_number" s__law_number ["script", "index"] A.f__law_number
  m__law_number : mg "_law_number" = some (.ref A.f__law_number)
  d__law_take : DefAt K "_law_take" "_law_take" s__law_take ["draw", "many"] A.f__law_take
  m__law_take : mg "_law_take" = some (.ref A.f__law_take)
  d__law_pick : DefAt K "_law_pick" "_law_pick" s__law_pick ["draw", "things"] A.f__law_pick
  m__law_pick : mg "_law_pick" = some (.ref A.f__law_pick)
  d__law_drawn_house : DefAt K "_law_drawn_house" "_law_drawn_house" s__law_drawn_house ["draw", "many"] A.f__law_drawn_house
  m__law_drawn_house : mg "_law_drawn_house" = some (.ref A.f__law_drawn_house)
  d_is_row : DefAt K "is_row" "is_row" s_is_row ["thing"] A.f_is_row
  m_is_row : mg "is_row" = some (.ref A.f_is_row)
  d_is_name : DefAt K "is_name" "is_name" s_is_name ["thing"] A.f_is_name
  m_is_name : mg "is_name" = some (.ref A.f_is_name)
  d_check_ring : DefAt K "check_ring" "check_ring" s_check_ring ["ring"] A.f_check_ring
  m_check_ring : mg "check_ring" = some (.ref A.f_check_ring)
  d_are_some : DefAt K "are_some" "are_some" s_are_some ["thing", "names", "least"] A.f_are_some
  m_are_some : mg "are_some" = some (.ref A.f_are_some)
  d_check_rows : DefAt K "check_rows" "check_rows" s_check_rows ["rows", "part", "names", "taken", "least", "most"] A.f_check_rows
  m_check_rows : mg "check_rows" = some (.ref A.f_check_rows)
  d_in_order : DefAt K "in_order" "in_order" s_in_order ["names", "some"] A.f_in_order
  m_in_order : mg "in_order" = some (.ref A.f_in_order)
  d_Housedd_initdd : DefAt K "__init__" "House.__init__" s_Housedd_initdd ["self", "ring", "locks", "doors"] A.f_Housedd_initdd
  d__law_house : DefAt K "_law_house" "_law_house" s__law_house ["spec"] A.f__law_house
  m__law_house : mg "_law_house" = some (.ref A.f__law_house)
  d__law_door_names : DefAt K "_law_door_names" "_law_door_names" s__law_door_names ["spec"] A.f__law_door_names
  m__law_door_names : mg "_law_door_names" = some (.ref A.f__law_door_names)
  d_check_house : DefAt K "check_house" "check_house" s_check_house ["house"] A.f_check_house
  m_check_house : mg "check_house" = some (.ref A.f_check_house)
  d_check_key : DefAt K "check_key" "check_key" s_check_key ["house", "one"] A.f_check_key
  m_check_key : mg "check_key" = some (.ref A.f_check_key)
  d_check_keys : DefAt K "check_keys" "check_keys" s_check_keys ["house", "some"] A.f_check_keys
  m_check_keys : mg "check_keys" = some (.ref A.f_check_keys)
  d_House_door_names : DefAt K "door_names" "House.door_names" s_House_door_names ["self"] A.f_House_door_names
  M_House_door_names : L2.Meth K A.c_House "door_names" A.f_House_door_names
  d_check_doors : DefAt K "check_doors" "check_doors" s_check_doors ["house", "some"] A.f_check_doors
  m_check_doors : mg "check_doors" = some (.ref A.f_check_doors)
  d_House_locks_of : DefAt K "locks_of" "House.locks_of" s_House_locks_of ["self", "door"] A.f_House_locks_of
  M_House_locks_of : L2.Meth K A.c_House "locks_of" A.f_House_locks_of
  d_door_locks : DefAt K "door_locks" "door_locks" s_door_locks ["house", "door", "some"] A.f_door_locks
  m_door_locks : mg "door_locks" = some (.ref A.f_door_locks)
  d_House_lock_names : DefAt K "lock_names" "House.lock_names" s_House_lock_names ["self"] A.f_House_lock_names
  M_House_lock_names : L2.Meth K A.c_House "lock_names" A.f_House_lock_names
  d_House_openers : DefAt K "openers" "House.openers" s_House_openers ["self", "lock"] A.f_House_openers
  M_House_openers : L2.Meth K A.c_House "openers" A.f_House_openers
  d_opens_lock : DefAt K "opens_lock" "opens_lock" s_opens_lock ["house", "lock", "some"] A.f_opens_lock
  m_opens_lock : mg "opens_lock" = some (.ref A.f_opens_lock)
  d_opens : DefAt K "opens" "opens" s_opens ["house", "door", "some"] A.f_opens
  m_opens : mg "opens" = some (.ref A.f_opens)
  d_doors_of : DefAt K "doors_of" "doors_of" s_doors_of ["house", "some"] A.f_doors_of
  m_doors_of : mg "doors_of" = some (.ref A.f_doors_of)
  d_is_below_key : DefAt K "is_below_key" "is_below_key" s_is_below_key ["house", "one", "other"] A.f_is_below_key
  m_is_below_key : mg "is_below_key" = some (.ref A.f_is_below_key)
  d_above : DefAt K "above" "above" s_above ["house", "one"] A.f_above
  m_above : mg "above" = some (.ref A.f_above)
  d_alike_keys : DefAt K "alike_keys" "alike_keys" s_alike_keys ["house", "one", "other"] A.f_alike_keys
  m_alike_keys : mg "alike_keys" = some (.ref A.f_alike_keys)
  d_tops : DefAt K "tops" "tops" s_tops ["house"] A.f_tops
  m_tops : mg "tops" = some (.ref A.f_tops)
  d_longest_chain : DefAt K "longest_chain" "longest_chain" s_longest_chain ["house"] A.f_longest_chain
  m_longest_chain : mg "longest_chain" = some (.ref A.f_longest_chain)
  d_masters : DefAt K "masters" "masters" s_masters ["house"] A.f_masters
  m_masters : mg "masters" = some (.ref A.f_masters)
  d_exposed : DefAt K "exposed" "exposed" s_exposed ["house", "lost"] A.f_exposed
  m_exposed : mg "exposed" = some (.ref A.f_exposed)
  d_worst_loss : DefAt K "worst_loss" "worst_loss" s_worst_loss ["house"] A.f_worst_loss
  m_worst_loss : mg "worst_loss" = some (.ref A.f_worst_loss)
  d_are_apart : DefAt K "are_apart" "are_apart" s_are_apart ["house", "one", "other"] A.f_are_apart
  m_are_apart : mg "are_apart" = some (.ref A.f_are_apart)
  d_Forkdd_initdd : DefAt K "__init__" "Fork.__init__" s_Forkdd_initdd ["self", "one", "first", "last"] A.f_Forkdd_initdd
  d_rowed : DefAt K "rowed" "rowed" s_rowed ["thing"] A.f_rowed
  m_rowed : mg "rowed" = some (.ref A.f_rowed)
  d_Treedd_initdd : DefAt K "__init__" "Tree.__init__" s_Treedd_initdd ["self", "rows"] A.f_Treedd_initdd
  d_judge_tree : DefAt K "judge_tree" "judge_tree" s_judge_tree ["house"] A.f_judge_tree
  m_judge_tree : mg "judge_tree" = some (.ref A.f_judge_tree)
  d_Issuedd_initdd : DefAt K "__init__" "Issue.__init__" s_Issuedd_initdd ["self", "some"] A.f_Issuedd_initdd
  d_in_house : DefAt K "in_house" "in_house" s_in_house ["house", "doors"] A.f_in_house
  m_in_house : mg "in_house" = some (.ref A.f_in_house)
  d_least_up_to : DefAt K "least_up_to" "least_up_to" s_least_up_to ["things", "most", "test"] A.f_least_up_to
  m_least_up_to : mg "least_up_to" = some (.ref A.f_least_up_to)
  d_least_sets : DefAt K "least_sets" "least_sets" s_least_sets ["things", "test"] A.f_least_sets
  m_least_sets : mg "least_sets" = some (.ref A.f_least_sets)
  d_least_issues : DefC K "least_issues" "least_issues" s_least_issues ["house", "doors"] A.f_least_issues A.cd_least_issues
  t_least_issues : LamX.TabB base mg A.cd_least_issues A.tb_least_issues
  i_least_issues : (A.tb_least_issues, nm_least_issues) ∈ Tb
  q_least_issues : ∀ p ∈ Tb, p.1 = A.tb_least_issues → p.2 = nm_least_issues
  m_least_issues : mg "least_issues" = some (.ref A.f_least_issues)
  d_judge_issue : DefAt K "judge_issue" "judge_issue" s_judge_issue ["house", "doors"] A.f_judge_issue
  m_judge_issue : mg "judge_issue" = some (.ref A.f_judge_issue)
  d_law : DefAt K "law" "law" s_law ["script"] A.f_law
  m_law : mg "law" = some (.ref A.f_law)
  c_House : Cls K A.c_House
  m_House : mg "House" = some (.ref A.c_House)
  M_House : Mk K A.c_House A.f_Housedd_initdd
  n_House_ring : NoAttr K A.c_House "ring"
  n_House_locks : NoAttr K A.c_House "locks"
  n_House_doors : NoAttr K A.c_House "doors"
  c_Tree : Cls K A.c_Tree
  m_Tree : mg "Tree" = some (.ref A.c_Tree)
  M_Tree : Mk K A.c_Tree A.f_Treedd_initdd
  n_Tree_rows : NoAttr K A.c_Tree "rows"
  c_Fork : Cls K A.c_Fork
  m_Fork : mg "Fork" = some (.ref A.c_Fork)
  M_Fork : Mk K A.c_Fork A.f_Forkdd_initdd
  n_Fork_one : NoAttr K A.c_Fork "one"
  n_Fork_first : NoAttr K A.c_Fork "first"
  n_Fork_last : NoAttr K A.c_Fork "last"
  c_Issue : Cls K A.c_Issue
  m_Issue : mg "Issue" = some (.ref A.c_Issue)
  M_Issue : Mk K A.c_Issue A.f_Issuedd_initdd
  n_Issue_some : NoAttr K A.c_Issue "some"
  c_NoIssue : Cls K A.c_NoIssue
  m_NoIssue : mg "NoIssue" = some (.ref A.c_NoIssue)
  n_NoIssue_rows : NoAttr K A.c_NoIssue "rows"
  g_dict : mg "dict" = none
  g_list : mg "list" = none
  g_any : mg "any" = none
  g_all : mg "all" = none
  g_len : mg "len" = none
  g_zip : mg "zip" = none
  g_sorted : mg "sorted" = none
  g_bool : mg "bool" = none
  g_range : mg "range" = none
  g_str : mg "str" = none
  g_tuple : mg "tuple" = none
  g_int : mg "int" = none
  k_MOST_LOCKS : ∃ t, mg "MOST_LOCKS" = some (.int 8 t)
  k_MOST_DOORS : ∃ t, mg "MOST_DOORS" = some (.int 8 t)
  k_MOST_KEYS : ∃ t, mg "MOST_KEYS" = some (.int 8 t)
  g_enumerate : mg "enumerate" = none
  g_isinstance : mg "isinstance" = none
  k_MOST_SIGNS : ∃ t, mg "MOST_SIGNS" = some (.int 8 t)
  k_LETTERS : ∃ t, mg "LETTERS" = some (.str "abcdefghijklmnopqrstuvwxyz" t)
  k_FIGURES : ∃ t, mg "FIGURES" = some (.str "0123456789" t)
  g_max : mg "max" = none
  k_combinations : mg "combinations" = some (.type "itertools.combinations")
  g_min : mg "min" = none
  isi_0_0 : IsiOk ⟨K, adT A, fdT, 0⟩ 0 0
section
variable {P : Program} {w : World} {K : PySem.W.Frag} {mg : Str → Option Value} {base : Heap} {A : Ad} {ns : List Int} {a p : Addr} {Tb : List NdefX.NTab}
theorem nf_Treedd_booldd : ("__bool__" : Str) ∉ fdT 1 := by decide +kernel
theorem nf_Forkdd_booldd : ("__bool__" : Str) ∉ fdT 2 := by decide +kernel
theorem nf_Issuedd_booldd : ("__bool__" : Str) ∉ fdT 3 := by decide +kernel
theorem nf_House_door_names : ("door_names" : Str) ∉ fdT 0 := by decide +kernel
theorem nf_House_locks_of : ("locks_of" : Str) ∉ fdT 0 := by decide +kernel
theorem nf_House_lock_names : ("lock_names" : Str) ∉ fdT 0 := by decide +kernel
theorem nf_House_openers : ("openers" : Str) ∉ fdT 0 := by decide +kernel
theorem Txt.cl (T : Txt K mg base A a Tb) : ClsOk (CF K A ns a p Tb).T NC := ⟨fun k h => by
  match k, h with
  | 0, _ => exact T.c_House
  | 1, _ => exact T.c_Tree
  | 2, _ => exact T.c_Fork
  | 3, _ => exact T.c_Issue
  | 4, _ => exact T.c_NoIssue
  | k + 5, h => exact absurd h (by show ¬ k + 5 < 5; omega), fun k h => by
  match k, h with
  | 0, _ => exact List.forall_mem_cons.mpr ⟨T.n_House_ring, List.forall_mem_cons.mpr ⟨T.n_House_locks, List.forall_mem_cons.mpr ⟨T.n_House_doors, fun f h => absurd h (List.not_mem_nil)⟩⟩⟩
  | 1, _ => exact List.forall_mem_cons.mpr ⟨T.n_Tree_rows, fun f h => absurd h (List.not_mem_nil)⟩
  | 2, _ => exact List.forall_mem_cons.mpr ⟨T.n_Fork_one, List.forall_mem_cons.mpr ⟨T.n_Fork_first, List.forall_mem_cons.mpr ⟨T.n_Fork_last, fun f h => absurd h (List.not_mem_nil)⟩⟩⟩
  | 3, _ => exact List.forall_mem_cons.mpr ⟨T.n_Issue_some, fun f h => absurd h (List.not_mem_nil)⟩
  | 4, _ => exact List.forall_mem_cons.mpr ⟨T.n_NoIssue_rows, fun f h => absurd h (List.not_mem_nil)⟩
  | k + 5, h => exact absurd h (by show ¬ k + 5 < 5; omega)⟩
/-! Tree.__bool__ -/
abbrev N_Treedd_booldd : List Str := ["self"]
theorem sc_Treedd_booldd : FnScope N_Treedd_booldd ["self"] (defScope s_Treedd_booldd) := ⟨rfl, rfl, rfl, by decide +kernel, rfl, by decide +kernel, by decide +kernel⟩
theorem ok_Treedd_booldd (T : Txt K mg base A a Tb) : FnD P w K mg base 1 A.f_Treedd_booldd (spD (CF K A ns a p Tb).T (CF K A ns a p Tb).Z (CF K A ns a p Tb).B 1 (fM 1 b_Treedd_booldd)) := by
  have nd := sc_Treedd_booldd.nd
  refine fn_ok (c := (CF K A ns a p Tb)) (N := N_Treedd_booldd) (ps := ["self"]) T.d_Treedd_booldd sc_Treedd_booldd rfl rfl fun cdv Ar outer s H E hr => ?_
  exact ⟨_, (dss_one (ds_ret de_bl))⟩
/-! Fork.__bool__ -/
abbrev N_Forkdd_booldd : List Str := ["self"]
theorem sc_Forkdd_booldd : FnScope N_Forkdd_booldd ["self"] (defScope s_Forkdd_booldd) := ⟨rfl, rfl, rfl, by decide +kernel, rfl, by decide +kernel, by decide +kernel⟩
theorem ok_Forkdd_booldd (T : Txt K mg base A a Tb) : FnD P w K mg base 1 A.f_Forkdd_booldd (spD (CF K A ns a p Tb).T (CF K A ns a p Tb).Z (CF K A ns a p Tb).B 1 (fM 1 b_Forkdd_booldd)) := by
  have nd := sc_Forkdd_booldd.nd
  refine fn_ok (c := (CF K A ns a p Tb)) (N := N_Forkdd_booldd) (ps := ["self"]) T.d_Forkdd_booldd sc_Forkdd_booldd rfl rfl fun cdv Ar outer s H E hr => ?_
  exact ⟨_, (dss_one (ds_ret de_bl))⟩
/-! Issue.__bool__ -/
abbrev N_Issuedd_booldd : List Str := ["self"]
theorem sc_Issuedd_booldd : FnScope N_Issuedd_booldd ["self"] (defScope s_Issuedd_booldd) := ⟨rfl, rfl, rfl, by decide +kernel, rfl, by decide +kernel, by decide +kernel⟩
theorem ok_Issuedd_booldd (T : Txt K mg base A a Tb) : FnD P w K mg base 1 A.f_Issuedd_booldd (spD (CF K A ns a p Tb).T (CF K A ns a p Tb).Z (CF K A ns a p Tb).B 1 (fM 1 b_Issuedd_booldd)) := by
  have nd := sc_Issuedd_booldd.nd
  refine fn_ok (c := (CF K A ns a p Tb)) (N := N_Issuedd_booldd) (ps := ["self"]) T.d_Issuedd_booldd sc_Issuedd_booldd rfl rfl fun cdv Ar outer s H E hr => ?_
  exact ⟨_, (dss_one (ds_ret de_bl))⟩
theorem Txt.bl (T : Txt K mg base A a Tb) : ∀ q ∈ BL, BoolAt P w K mg base (CF K A ns a p Tb).T (CF K A ns a p Tb).Z (CF K A ns a p Tb).B 1 q := by
  intro q hq
  unfold BL at hq
  simp only [List.mem_cons, List.not_mem_nil, or_false] at hq
  rcases hq with rfl | rfl | rfl
  · exact ⟨A.f_Treedd_booldd, ok_Treedd_booldd T, T.M_Treedd_booldd.at_, T.M_Treedd_booldd.fn, fun _ _ => rfl⟩
  · exact ⟨A.f_Forkdd_booldd, ok_Forkdd_booldd T, T.M_Forkdd_booldd.at_, T.M_Forkdd_booldd.fn, fun _ _ => rfl⟩
  · exact ⟨A.f_Issuedd_booldd, ok_Issuedd_booldd T, T.M_Issuedd_booldd.at_, T.M_Issuedd_booldd.fn, fun _ _ => rfl⟩
theorem Txt.tru {X : Cx} {k : Nat} (T : Txt K mg base A a Tb) (hr : Room k X.A) (h : ∀ q ∈ BL, BoolAt X.prog X.w X.K X.mg X.base (CF K A ns a p Tb).T (CF K A ns a p Tb).Z (CF K A ns a p Tb).B 1 q) (hK : X.K = K := by rfl) (hk : 1 ≤ k := by first | decide | omega) : TrD X (CF K A ns a p Tb) (rTru (CF K A ns a p Tb).T (CF K A ns a p Tb).Z (CF K A ns a p Tb).B BL) tiA := tru_all hK h hr hk
/-! _law_number -/
abbrev N__law_number : List Str := ["script", "index", "cell", "turn", "rest", "step", "blend"]
theorem sc__law_number : FnScope N__law_number ["script", "index"] (defScope s__law_number) := ⟨rfl, rfl, rfl, by decide +kernel, rfl, by decide +kernel, by decide +kernel⟩
theorem ok__law_number (T : Txt K mg base A a Tb) : FnD P w K mg base 1 A.f__law_number (spD (CF K A ns a p Tb).T (CF K A ns a p Tb).Z (CF K A ns a p Tb).B 2 (fM 7 b__law_number)) := by
  have nd := sc__law_number.nd
  refine fn_ok (c := (CF K A ns a p Tb)) (N := N__law_number) (ps := ["script", "index"]) T.d__law_number sc__law_number rfl rfl fun cdv Ar outer s H E hr => ?_
  exact ⟨_, (dss_cons (ds_asg (de_if (dt_cmp (op_neA hr.units) (rd_ne rfl) (de_var 0) (DL'.de (dl_lst da_nil))) (de_tup (da_cons (de_ix (by rfl) (de_var 0) (de_bin op_modN rd_mod (de_var 1) (de_callB call_lenA (rc_len rfl) (by rfl) T.g_len bt_len (da_cons (de_var 0) da_nil)))) (da_cons (de_bin op_fdivN rd_div (de_var 1) (de_callB call_lenA (rc_len rfl) (by rfl) T.g_len bt_len (da_cons (de_var 0) da_nil))) da_nil))) (de_tup (da_cons de_int (da_cons de_int da_nil)))) (dg_tup (by rfl) rfl (dgs_cons (dg_name 2 nd) (dgs_cons (dg_name 3 nd) dgs_nil))))
 (dss_cons (ds_set 4 nd (DE.v (de_if (dt_cmp op_lt rd_lt (de_var 3) de_int) (de_bin op_sub rd_sub (de_var 2) (de_bin op_pow rd_pow de_int de_int)) de_int)))
 (dss_cons (ds_for PassesOwn.never rfl (di_range1 (by rfl) T.g_range (da_cons (de_bin op_modN rd_mod (de_callTy call_int1 rc_int (by rfl) T.g_int bt_int (da_cons (de_var 3) da_nil)) de_int) da_nil)) (dg_name 5 nd)
 (dss_one (ds_set 4 nd (DE.v (de_bin op_fdivN rd_div (de_var 4) de_int)))))
 (dss_cons (ds_if (dt_cmp op_gt rd_gt (de_var 4) de_int)
 (dss_one (ds_ret (de_bin op_modN rd_mod (de_callTy call_int1 rc_int (by rfl) T.g_int bt_int (da_cons (de_var 4) da_nil)) de_int)))
 dss_nil)
 (dss_cons (ds_set 6 nd (DE.v (de_bin op_modN rd_mod (de_bin op_addA (rd_add rfl) (de_bin op_mul rd_mul (de_callTy call_int1 rc_int (by rfl) T.g_int bt_int (da_cons (de_bin op_addA (rd_add rfl) (de_var 2) (de_bin op_mul rd_mul de_int (de_var 1))) da_nil)) de_int) (de_bin op_mul rd_mul de_int (de_callB call_lenA (rc_len rfl) (by rfl) T.g_len bt_len (da_cons (de_var 0) da_nil)))) de_int)))
 (dss_cons (ds_set 6 nd (DE.v (de_bin op_modN rd_mod (de_bin op_addA (rd_add rfl) (de_bin op_mul rd_mul (de_var 6) (de_var 6)) (de_bin op_mul rd_mul de_int (de_var 1))) de_int)))
 (dss_one (ds_ret (de_callTy call_int1 rc_int (by rfl) T.g_int bt_int (da_cons (de_bin op_modN rd_mod (de_bin op_addA (rd_add rfl) (de_bin op_mul rd_mul (de_var 6) de_int) (de_bin op_fdivN rd_div (de_var 6) de_int)) de_int) da_nil))))))))))⟩
/-! _law_take -/
abbrev N__law_take : List Str := ["draw", "many"]
theorem sc__law_take : FnScope N__law_take ["draw", "many"] (defScope s__law_take) := ⟨rfl, rfl, rfl, by decide +kernel, rfl, by decide +kernel, by decide +kernel⟩
theorem ok__law_take (T : Txt K mg base A a Tb) : FnD P w K mg base 2 A.f__law_take (spD (CF K A ns a p Tb).T (CF K A ns a p Tb).Z (CF K A ns a p Tb).B 2 (fM 2 b__law_take)) := by
  have nd := sc__law_take.nd
  refine fn_ok (c := (CF K A ns a p Tb)) (N := N__law_take) (ps := ["draw", "many"]) T.d__law_take sc__law_take rfl rfl fun cdv Ar outer s H E hr => ?_
  exact ⟨_, (dss_cons (ds_draw rfl T.aT 0)
 (dss_one (ds_ret (de_bin op_modN rd_mod (de_callTy call_int1 rc_int (by rfl) T.g_int bt_int (da_cons (de_call (c := CF K A ns a p Tb) (ok__law_number T) hr T.m__law_number (da_cons (de_draw0 rfl 0) (da_cons (de_callTy call_int1 rc_int (by rfl) T.g_int bt_int (da_cons (de_draw1 rfl 0) da_nil)) da_nil))) da_nil)) (de_var 1)))))⟩
/-! _law_pick -/
abbrev N__law_pick : List Str := ["draw", "things"]
theorem sc__law_pick : FnScope N__law_pick ["draw", "things"] (defScope s__law_pick) := ⟨rfl, rfl, rfl, by decide +kernel, rfl, by decide +kernel, by decide +kernel⟩
theorem ok__law_pick (T : Txt K mg base A a Tb) : FnD P w K mg base 3 A.f__law_pick (spD (CF K A ns a p Tb).T (CF K A ns a p Tb).Z (CF K A ns a p Tb).B 2 (fM 2 b__law_pick)) := by
  have nd := sc__law_pick.nd
  refine fn_ok (c := (CF K A ns a p Tb)) (N := N__law_pick) (ps := ["draw", "things"]) T.d__law_pick sc__law_pick rfl rfl fun cdv Ar outer s H E hr => ?_
  exact ⟨_, (dss_one (ds_ret (de_ix (by rfl) (de_var 1) (de_call (c := CF K A ns a p Tb) (ok__law_take T) hr T.m__law_take (da_cons (de_var 0) (da_cons (de_callB call_lenA (rc_len rfl) (by rfl) T.g_len bt_len (da_cons (de_var 1) da_nil)) da_nil))))))⟩
/-! _law_drawn_house -/
abbrev N__law_drawn_house : List Str := ["draw", "many", "ring", "locks", "number", "names", "doors", "some", "lock", "name", "one"]
theorem sc__law_drawn_house : FnScope N__law_drawn_house ["draw", "many"] (defScope s__law_drawn_house) := ⟨rfl, rfl, rfl, by decide +kernel, rfl, by decide +kernel, by decide +kernel⟩
theorem ok__law_drawn_house (T : Txt K mg base A a Tb) : FnD P w K mg base 4 A.f__law_drawn_house (spD (CF K A ns a p Tb).T (CF K A ns a p Tb).Z (CF K A ns a p Tb).B 2 (fM 11 b__law_drawn_house)) := by
  have nd := sc__law_drawn_house.nd
  refine fn_ok (c := (CF K A ns a p Tb)) (N := N__law_drawn_house) (ps := ["draw", "many"]) T.d__law_drawn_house sc__law_drawn_house rfl rfl fun cdv Ar outer s H E hr => ?_
  exact ⟨_, (dss_cons (ds_set 2 nd (DE.v (de_cut (by rfl) (DL'.de (dl_lst (da_cons de_str (da_cons de_str (da_cons de_str (da_cons de_str (da_cons de_str (da_cons de_str da_nil)))))))) dp_none (dp_some (de_var 1)))))
 (dss_cons (ds_set 3 nd (DL'.v (dl_lst da_nil)))
 (dss_cons (ds_for PassesOwn.never rfl (di_range1 (by rfl) T.g_range (da_cons (de_bin op_addA (rd_add rfl) de_int (de_call (c := CF K A ns a p Tb) (ok__law_take T) hr T.m__law_take (da_cons (de_var 0) (da_cons de_int da_nil)))) da_nil)) (dg_name 4 nd)
 (dss_one (ds_app 3 (de_tup (da_cons (de_bin op_addA (rd_add rfl) de_str (de_callTy call_str_int rc_str (by rfl) T.g_str bt_str (da_cons (de_var 4) da_nil))) (da_cons (de_callTy ca_tuple (rc_tuple rfl) (by rfl) T.g_tuple bt_tuple (da_cons (DL'.de (dl_lc (own := [("one", 10)]) rfl nd (DI.c (di_seq (by rfl) (de_var 2))) (blkOk_by (own := [("one", 10)]) (N := N__law_drawn_house) (sc := (defScope s__law_drawn_house)) (scope := (⟨.function, [(".0", .local), ("one", .local), ("_law_take", .globalImplicit), ("draw", .free)], false, false, []⟩ : Scope)) (by decide +kernel)) (fun _ _ _ _ _ => (dg_name 10 nd)) (fun _ _ _ _ _ => (dts_one (dt_cmp op_lt rd_lt (de_call (c := CF K A ns a p Tb) (ok__law_take T) hr T.m__law_take (da_cons (de_var 0) (da_cons de_int da_nil))) de_int))) (fun _ _ _ _ _ => (de_var 10)))) da_nil)) da_nil))))))
 (dss_cons (ds_frz 3 (ds_par 5 6 rfl nd (DE.v (DL'.de (dl_lc (own := [("lock", 8)]) rfl nd (DI.c (di_seq (by rfl) (de_var 3))) (blkOk_by (own := [("lock", 8)]) (N := N__law_drawn_house) (sc := (defScope s__law_drawn_house)) (scope := (⟨.function, [(".0", .local), ("lock", .local)], false, false, []⟩ : Scope)) (by decide +kernel)) (fun _ _ _ _ _ => (dg_name 8 nd)) (fun _ _ _ _ _ => dts_nil) (fun _ _ _ _ _ => (de_ix (by rfl) (de_var 8) de_int))))) (DL'.v (dl_lst da_nil))))
 (dss_cons (ds_for PassesOwn.never rfl (di_range1 (by rfl) T.g_range (da_cons (de_bin op_addA (rd_add rfl) de_int (de_call (c := CF K A ns a p Tb) (ok__law_take T) hr T.m__law_take (da_cons (de_var 0) (da_cons de_int da_nil)))) da_nil)) (dg_name 4 nd)
 (dss_cons (ds_set 7 nd (DE.v (de_callTy ca_tuple (rc_tuple rfl) (by rfl) T.g_tuple bt_tuple (da_cons (DL'.de (dl_lc (own := [("name", 9)]) rfl nd (DI.c (di_seq (by rfl) (de_var 5))) (blkOk_by (own := [("name", 9)]) (N := N__law_drawn_house) (sc := (defScope s__law_drawn_house)) (scope := (⟨.function, [(".0", .local), ("name", .local), ("_law_take", .globalImplicit), ("draw", .free)], false, false, []⟩ : Scope)) (by decide +kernel)) (fun _ _ _ _ _ => (dg_name 9 nd)) (fun _ _ _ _ _ => (dts_one (dt_cmp (op_eqA hr.units) (rd_eq rfl) (de_call (c := CF K A ns a p Tb) (ok__law_take T) hr T.m__law_take (da_cons (de_var 0) (da_cons de_int da_nil))) de_int))) (fun _ _ _ _ _ => (de_var 9)))) da_nil))))
 (dss_one (ds_app 6 (de_tup (da_cons (de_bin op_addA (rd_add rfl) de_str (de_callTy call_str_int rc_str (by rfl) T.g_str bt_str (da_cons (de_var 4) da_nil))) (da_cons (de_if (dt_cmp (op_neA hr.units) (rd_ne rfl) (de_var 7) (de_tup da_nil)) (de_var 7) (de_tup (da_cons (de_call (c := CF K A ns a p Tb) (ok__law_pick T) hr T.m__law_pick (da_cons (de_var 0) (da_cons (de_var 5) da_nil))) da_nil))) da_nil)))))))
 (dss_one (ds_frz 6 (ds_frz 3 (ds_ret (DK.de (dk_disp (dps_cons de_str (de_var 2) (dps_cons de_str (de_var 3) (dps_cons de_str (de_var 6) dps_nil))))))))))))))⟩
/-! is_row -/
abbrev N_is_row : List Str := ["thing"]
theorem sc_is_row : FnScope N_is_row ["thing"] (defScope s_is_row) := ⟨rfl, rfl, rfl, by decide +kernel, rfl, by decide +kernel, by decide +kernel⟩
theorem ok_is_row (T : Txt K mg base A a Tb) : FnD P w K mg base 1 A.f_is_row (spD (CF K A ns a p Tb).T (CF K A ns a p Tb).Z (CF K A ns a p Tb).B 1 (fM 1 b_is_row)) := by
  have nd := sc_is_row.nd
  refine fn_ok (c := (CF K A ns a p Tb)) (N := N_is_row) (ps := ["thing"]) T.d_is_row sc_is_row rfl rfl fun cdv Ar outer s H E hr => ?_
  exact ⟨_, (dss_one (ds_ret (de_isiRow (by rfl) (by rfl) T.g_isinstance (by rfl) T.g_list (by rfl) T.g_tuple (de_var 0))))⟩
/-! is_name -/
abbrev N_is_name : List Str := ["thing", "sign"]
theorem sc_is_name : FnScope N_is_name ["thing"] (defScope s_is_name) := ⟨rfl, rfl, rfl, by decide +kernel, rfl, by decide +kernel, by decide +kernel⟩
theorem ok_is_name (T : Txt K mg base A a Tb) : FnD P w K mg base 1 A.f_is_name (spD (CF K A ns a p Tb).T (CF K A ns a p Tb).Z (CF K A ns a p Tb).B 1 (fM 2 b_is_name)) := by
  have nd := sc_is_name.nd
  refine fn_ok (c := (CF K A ns a p Tb)) (N := N_is_name) (ps := ["thing"]) T.d_is_name sc_is_name rfl rfl fun cdv Ar outer s H E hr => ?_
  exact ⟨_, (dss_cons (ds_if (DW.dt (dw_or (dt_not (dt_val (de_isi kit_str (by rfl) bt_str (by rfl) T.g_isinstance (by rfl) T.g_str (de_var 0)))) (dw_or (dt_cmp (op_inA (hu65 hr)) (rd_in rfl) (de_var 0) (de_tup (da_cons de_str (da_cons de_str da_nil)))) (dw_or1 (dt_not (dt_chain op_le op_le rd_le rd_le de_int (de_callB call_lenA (rc_len rfl) (by rfl) T.g_len bt_len (da_cons (de_var 0) da_nil)) (de_constI (by rfl) T.k_MOST_SIGNS.choose_spec)))))))
 (dss_one (ds_ret de_bl))
 dss_nil)
 (dss_cons (ds_if (dt_cmp (op_notInA (hu65 hr)) (rd_notIn rfl) (de_ix (by rfl) (de_var 0) de_int) (de_constS (by rfl) T.k_LETTERS.choose_spec))
 (dss_one (ds_ret de_bl))
 dss_nil)
 (dss_one (ds_ret (de_callB ca_all (rc_all rfl) (by rfl) T.g_all bt_all (da_cons (DL'.de (dl_lc (own := [("sign", 1)]) rfl nd (DI.c (di_seq (by rfl) (de_var 0))) (blkOk_by (own := [("sign", 1)]) (N := N_is_name) (sc := (defScope s_is_name)) (scope := (⟨.function, [(".0", .local), ("sign", .local), ("LETTERS", .globalImplicit), ("FIGURES", .globalImplicit)], false, false, []⟩ : Scope)) (by decide +kernel)) (fun _ _ _ _ _ => (dg_name 1 nd)) (fun _ _ _ _ _ => dts_nil) (fun _ _ _ _ _ => (de_or (de_cmp (op_inA (hu65 hr)) (rd_in rfl) (de_var 1) (de_constS (by rfl) T.k_LETTERS.choose_spec)) (de_one (de_cmp (op_inA (hu65 hr)) (rd_in rfl) (de_var 1) (de_constS (by rfl) T.k_FIGURES.choose_spec))))))) da_nil))))))⟩
/-! check_ring -/
abbrev N_check_ring : List Str := ["ring", "number", "name"]
theorem sc_check_ring : FnScope N_check_ring ["ring"] (defScope s_check_ring) := ⟨rfl, rfl, rfl, by decide +kernel, rfl, by decide +kernel, by decide +kernel⟩
theorem ok_check_ring (T : Txt K mg base A a Tb) : FnD P w K mg base 2 A.f_check_ring (spD (CF K A ns a p Tb).T (CF K A ns a p Tb).Z (CF K A ns a p Tb).B 1 (fM 3 b_check_ring)) := by
  have nd := sc_check_ring.nd
  refine fn_ok (c := (CF K A ns a p Tb)) (N := N_check_ring) (ps := ["ring"]) T.d_check_ring sc_check_ring rfl rfl fun cdv Ar outer s H E hr => ?_
  exact ⟨_, (dss_cons (ds_if (DW.dt (dw_or (dt_not (dt_val (de_call (c := CF K A ns a p Tb) (ok_is_row T) hr T.m_is_row (da_cons (de_var 0) da_nil)))) (dw_or1 (dt_not (dt_chain op_le op_le rd_le rd_le de_int (de_callB call_lenA (rc_len rfl) (by rfl) T.g_len bt_len (da_cons (de_var 0) da_nil)) (de_constI (by rfl) T.k_MOST_KEYS.choose_spec))))))
 dss_never
 dss_nil)
 (dss_one (ds_for PassesOwn.never rfl (di_enum (by rfl) (by rfl) T.g_enumerate (da_cons (de_var 0) da_nil)) (dg_tup (by rfl) rfl (dgs_cons (dg_name 1 nd) (dgs_cons (dg_name 2 nd) dgs_nil)))
 (dss_one (ds_if (DW.dt (dw_or (dt_not (dt_val (de_call (c := CF K A ns a p Tb) (ok_is_name T) hr T.m_is_name (da_cons (de_var 2) da_nil)))) (dw_or1 (dt_cmp (op_inA (hu65 hr)) (rd_in rfl) (de_var 2) (de_cut (by rfl) (de_var 0) dp_none (dp_some (de_var 1)))))))
 dss_never
 dss_nil)))))⟩
/-! are_some -/
abbrev N_are_some : List Str := ["thing", "names", "least", "one"]
theorem sc_are_some : FnScope N_are_some ["thing", "names", "least"] (defScope s_are_some) := ⟨rfl, rfl, rfl, by decide +kernel, rfl, by decide +kernel, by decide +kernel⟩
theorem ok_are_some (T : Txt K mg base A a Tb) : FnD P w K mg base 2 A.f_are_some (spD (CF K A ns a p Tb).T (CF K A ns a p Tb).Z (CF K A ns a p Tb).B 3 (fM 4 b_are_some)) := by
  have nd := sc_are_some.nd
  refine fn_ok (c := (CF K A ns a p Tb)) (N := N_are_some) (ps := ["thing", "names", "least"]) T.d_are_some sc_are_some rfl rfl fun cdv Ar outer s H E hr => ?_
  exact ⟨_, (dss_cons (ds_if (DW.dt (dw_or (dt_not (dt_val (de_call (c := CF K A ns a p Tb) (ok_is_row T) hr T.m_is_row (da_cons (de_var 0) da_nil)))) (dw_or1 (dt_not (dt_val (de_callB ca_all (rc_all rfl) (by rfl) T.g_all bt_all (da_cons (DL'.de (dl_lc (own := [("one", 3)]) rfl nd (DI.c (di_seq (by rfl) (de_var 0))) (blkOk_by (own := [("one", 3)]) (N := N_are_some) (sc := (defScope s_are_some)) (scope := (⟨.function, [(".0", .local), ("one", .local), ("isinstance", .globalImplicit), ("str", .globalImplicit), ("names", .free)], false, false, []⟩ : Scope)) (by decide +kernel)) (fun _ _ _ _ _ => (dg_name 3 nd)) (fun _ _ _ _ _ => dts_nil) (fun _ _ _ _ _ => (de_and (de_isi kit_str (by rfl) bt_str (by rfl) T.g_isinstance (by rfl) T.g_str (de_var 3)) (de_one (de_cmp (op_inA (hu65 hr)) (rd_in rfl) (de_var 3) (de_var 1))))))) da_nil)))))))
 (dss_one (ds_ret de_bl))
 dss_nil)
 (dss_one (ds_ret (de_chain (op_eqA hr.units) op_ge (rd_eq rfl) rd_ge (de_callB call_lenA (rc_len rfl) (by rfl) T.g_len bt_len (da_cons (DK.de (dk_dc (own := [("one", 3)]) rfl nd (DI.c (di_seq (by rfl) (de_var 0))) (blkOk_by (own := [("one", 3)]) (N := N_are_some) (sc := (defScope s_are_some)) (scope := (⟨.function, [(".0", .local), ("one", .local)], false, false, []⟩ : Scope)) (by decide +kernel)) (fun _ _ _ _ _ => (dg_name 3 nd)) (fun _ _ _ _ _ => dts_nil) (fun _ _ _ _ _ => (de_var 3)) (fun _ _ _ _ _ => de_bl))) da_nil)) (de_callB call_lenA (rc_len rfl) (by rfl) T.g_len bt_len (da_cons (de_var 0) da_nil)) (de_var 2)))))⟩
/-! check_rows -/
abbrev N_check_rows : List Str := ["rows", "part", "names", "taken", "least", "most", "met", "number", "row"]
theorem sc_check_rows : FnScope N_check_rows ["rows", "part", "names", "taken", "least", "most"] (defScope s_check_rows) := ⟨rfl, rfl, rfl, by decide +kernel, rfl, by decide +kernel, by decide +kernel⟩
theorem ok_check_rows (T : Txt K mg base A a Tb) : FnD P w K mg base 3 A.f_check_rows (spD (CF K A ns a p Tb).T (CF K A ns a p Tb).Z (CF K A ns a p Tb).B 6 (fM 9 b_check_rows)) := by
  have nd := sc_check_rows.nd
  refine fn_ok (c := (CF K A ns a p Tb)) (N := N_check_rows) (ps := ["rows", "part", "names", "taken", "least", "most"]) T.d_check_rows sc_check_rows rfl rfl fun cdv Ar outer s H E hr => ?_
  exact ⟨_, (dss_cons (ds_if (DW.dt (dw_or (dt_not (dt_val (de_call (c := CF K A ns a p Tb) (ok_is_row T) hr T.m_is_row (da_cons (de_var 0) da_nil)))) (dw_or1 (dt_not (dt_chain op_le op_le rd_le rd_le de_int (de_callB call_lenA (rc_len rfl) (by rfl) T.g_len bt_len (da_cons (de_var 0) da_nil)) (de_var 5))))))
 dss_never
 dss_nil)
 (dss_cons (ds_set 6 nd (DL'.v (dl_callTy ca_list (rc_list rfl) (by rfl) T.g_list bt_list (da_cons (de_var 3) da_nil))))
 (dss_one (ds_for PassesOwn.never rfl (di_enum (by rfl) (by rfl) T.g_enumerate (da_cons (de_var 0) da_nil)) (dg_tup (by rfl) rfl (dgs_cons (dg_name 7 nd) (dgs_cons (dg_name 8 nd) dgs_nil)))
 (dss_cons (ds_if (dt_peek 6 (DW.dt (dw_or (dt_not (dt_val (de_call (c := CF K A ns a p Tb) (ok_is_row T) hr T.m_is_row (da_cons (de_var 8) da_nil)))) (dw_or (dt_cmp (op_neA hr.units) (rd_ne rfl) (de_callB call_lenA (rc_len rfl) (by rfl) T.g_len bt_len (da_cons (de_var 8) da_nil)) de_int) (dw_or (dt_not (dt_val (de_call (c := CF K A ns a p Tb) (ok_is_name T) hr T.m_is_name (da_cons (de_ix (by rfl) (de_var 8) de_int) da_nil)))) (dw_or1 (dt_cmp (op_inA (hu65 hr)) (rd_in rfl) (de_ix (by rfl) (de_var 8) de_int) (de_var 6))))))))
 dss_never
 dss_nil)
 (dss_cons (ds_if (dt_not (dt_val (de_call (c := CF K A ns a p Tb) (ok_are_some T) hr T.m_are_some (da_cons (de_ix (by rfl) (de_var 8) de_int) (da_cons (de_var 2) (da_cons (de_var 4) da_nil))))))
 dss_never
 dss_nil)
 (dss_one (ds_app 6 (de_ix (by rfl) (de_var 8) de_int)))))))))⟩
/-! in_order -/
abbrev N_in_order : List Str := ["names", "some", "name"]
theorem sc_in_order : FnScope N_in_order ["names", "some"] (defScope s_in_order) := ⟨rfl, rfl, rfl, by decide +kernel, rfl, by decide +kernel, by decide +kernel⟩
theorem ok_in_order (T : Txt K mg base A a Tb) : FnD P w K mg base 1 A.f_in_order (spD (CF K A ns a p Tb).T (CF K A ns a p Tb).Z (CF K A ns a p Tb).B 2 (fM 3 b_in_order)) := by
  have nd := sc_in_order.nd
  refine fn_ok (c := (CF K A ns a p Tb)) (N := N_in_order) (ps := ["names", "some"]) T.d_in_order sc_in_order rfl rfl fun cdv Ar outer s H E hr => ?_
  exact ⟨_, (dss_one (ds_ret (de_callTy ca_tuple (rc_tuple rfl) (by rfl) T.g_tuple bt_tuple (da_cons (DL'.de (dl_lc (own := [("name", 2)]) rfl nd (DI.c (di_seq (by rfl) (de_var 0))) (blkOk_by (own := [("name", 2)]) (N := N_in_order) (sc := (defScope s_in_order)) (scope := (⟨.function, [(".0", .local), ("name", .local), ("some", .free)], false, false, []⟩ : Scope)) (by decide +kernel)) (fun _ _ _ _ _ => (dg_name 2 nd)) (fun _ _ _ _ _ => (dts_one (dt_cmp (op_inA (hu65 hr)) (rd_in rfl) (de_var 2) (de_var 1)))) (fun _ _ _ _ _ => (de_var 2)))) da_nil))))⟩
/-! House.__init__ -/
abbrev N_Housedd_initdd : List Str := ["self", "ring", "locks", "doors", "names", "lock", "name", "some"]
theorem sc_Housedd_initdd : FnScope N_Housedd_initdd ["self", "ring", "locks", "doors"] (defScope s_Housedd_initdd) := ⟨rfl, rfl, rfl, by decide +kernel, rfl, by decide +kernel, by decide +kernel⟩
theorem ok_Housedd_initdd (T : Txt K mg base A a Tb) : FnD P w K mg base 4 A.f_Housedd_initdd (spI (CF K A ns a p Tb).T (CF K A ns a p Tb).Z (CF K A ns a p Tb).B 0 3 (iM fdT 8 0 b_Housedd_initdd)) := by
  have nd := sc_Housedd_initdd.nd
  refine in_ok (c := (CF K A ns a p Tb)) (N := N_Housedd_initdd) (ps := ["self", "ring", "locks", "doors"]) T.d_Housedd_initdd sc_Housedd_initdd rfl rfl fun x cdv Ar outer s H E hr => ?_
  exact ⟨_, (dss_cons (ds_expr (de_call (c := (CF K A ns a p Tb).sf x) (ok_check_ring T) hr T.m_check_ring (da_cons (de_var 1) da_nil)))
 (dss_cons (ds_expr (de_call (c := (CF K A ns a p Tb).sf x) (ok_check_rows T) hr T.m_check_rows (da_cons (de_var 2) (da_cons de_str (da_cons (de_var 1) (da_cons (de_var 1) (da_cons de_int (da_cons (de_constI (by rfl) T.k_MOST_LOCKS.choose_spec) da_nil))))))))
 (dss_cons (ds_set 4 nd (DE.v (DL'.de (dl_lc (own := [("lock", 5)]) rfl nd (DI.c (di_seq (by rfl) (de_var 2))) (blkOk_by (own := [("lock", 5)]) (N := N_Housedd_initdd) (sc := (defScope s_Housedd_initdd)) (scope := (⟨.function, [(".0", .local), ("lock", .local)], false, false, []⟩ : Scope)) (by decide +kernel)) (fun _ _ _ _ _ => (dg_name 5 nd)) (fun _ _ _ _ _ => dts_nil) (fun _ _ _ _ _ => (de_ix (by rfl) (de_var 5) de_int))))))
 (dss_cons (ds_expr (de_call (c := (CF K A ns a p Tb).sf x) (ok_check_rows T) hr T.m_check_rows (da_cons (de_var 3) (da_cons de_str (da_cons (de_var 4) (da_cons (DL'.de (dl_lst (da_star (by rfl) (de_var 1) (da_star (by rfl) (de_var 4) da_nil)))) (da_cons de_int (da_cons (de_constI (by rfl) T.k_MOST_DOORS.choose_spec) da_nil))))))))
 (dss_cons (ds_fld 0 0 0 rfl (de_callTy call_tupleP rc_ptup (by rfl) T.g_tuple bt_tuple (da_cons (de_var 1) da_nil)) T.c_House T.n_House_ring (by rfl) (show ("ring" : Str) ∉ (fdT 0).take 0 by decide +kernel) (show (fdT 0).length < 1000 by decide))
 (dss_cons (ds_fld 0 0 1 rfl (de_callTy call_tupleP rc_ptup (by rfl) T.g_tuple bt_tuple (da_cons (DL'.de (dl_lc (own := [("name", 6), ("some", 7)]) rfl nd (DI.c (di_seq (by rfl) (de_var 2))) (blkOk_by (own := [("name", 6), ("some", 7)]) (N := N_Housedd_initdd) (sc := (defScope s_Housedd_initdd)) (scope := (⟨.function, [(".0", .local), ("name", .local), ("some", .local), ("in_order", .globalImplicit), ("ring", .free)], false, false, []⟩ : Scope)) (by decide +kernel)) (fun _ _ _ _ _ => (dg_tup (by rfl) rfl (dgs_cons (dg_name 6 nd) (dgs_cons (dg_name 7 nd) dgs_nil)))) (fun _ _ _ _ _ => dts_nil) (fun _ _ _ _ _ => (de_tup (da_cons (de_var 6) (da_cons (de_call (c := (CF K A ns a p Tb).sf x) (ok_in_order T) hr T.m_in_order (da_cons (de_var 1) (da_cons (de_var 7) da_nil))) da_nil)))))) da_nil)) T.c_House T.n_House_locks (by rfl) (show ("locks" : Str) ∉ (fdT 0).take 1 by decide +kernel) (show (fdT 0).length < 1000 by decide))
 (dss_one (ds_fld 0 0 2 rfl (de_callTy call_tupleP rc_ptup (by rfl) T.g_tuple bt_tuple (da_cons (DL'.de (dl_lc (own := [("name", 6), ("some", 7)]) rfl nd (DI.c (di_seq (by rfl) (de_var 3))) (blkOk_by (own := [("name", 6), ("some", 7)]) (N := N_Housedd_initdd) (sc := (defScope s_Housedd_initdd)) (scope := (⟨.function, [(".0", .local), ("name", .local), ("some", .local), ("in_order", .globalImplicit), ("names", .free)], false, false, []⟩ : Scope)) (by decide +kernel)) (fun _ _ _ _ _ => (dg_tup (by rfl) rfl (dgs_cons (dg_name 6 nd) (dgs_cons (dg_name 7 nd) dgs_nil)))) (fun _ _ _ _ _ => dts_nil) (fun _ _ _ _ _ => (de_tup (da_cons (de_var 6) (da_cons (de_call (c := (CF K A ns a p Tb).sf x) (ok_in_order T) hr T.m_in_order (da_cons (de_var 4) (da_cons (de_var 7) da_nil))) da_nil)))))) da_nil)) T.c_House T.n_House_doors (by rfl) (show ("doors" : Str) ∉ (fdT 0).take 2 by decide +kernel) (show (fdT 0).length < 1000 by decide)))))))))⟩
/-! _law_house -/
abbrev N__law_house : List Str := ["spec"]
theorem sc__law_house : FnScope N__law_house ["spec"] (defScope s__law_house) := ⟨rfl, rfl, rfl, by decide +kernel, rfl, by decide +kernel, by decide +kernel⟩
theorem ok__law_house (T : Txt K mg base A a Tb) : FnD P w K mg base 6 A.f__law_house (spD (CF K A ns a p Tb).T (CF K A ns a p Tb).Z (CF K A ns a p Tb).B 1 (fM 1 b__law_house)) := by
  have nd := sc__law_house.nd
  refine fn_ok (c := (CF K A ns a p Tb)) (N := N__law_house) (ps := ["spec"]) T.d__law_house sc__law_house rfl rfl fun cdv Ar outer s H E hr => ?_
  exact ⟨_, (dss_one (ds_ret (de_mk (c := CF K A ns a p Tb) (C := 0) (by rfl) T.M_House (ok_Housedd_initdd T) hr T.m_House (da_cons (de_get (hu_of hr) (de_var 0) de_str) (da_cons (de_get (hu_of hr) (de_var 0) de_str) (da_cons (de_get (hu_of hr) (de_var 0) de_str) da_nil))))))⟩
/-! _law_door_names -/
abbrev N__law_door_names : List Str := ["spec", "door"]
theorem sc__law_door_names : FnScope N__law_door_names ["spec"] (defScope s__law_door_names) := ⟨rfl, rfl, rfl, by decide +kernel, rfl, by decide +kernel, by decide +kernel⟩
theorem ok__law_door_names (T : Txt K mg base A a Tb) : FnD P w K mg base 1 A.f__law_door_names (spD (CF K A ns a p Tb).T (CF K A ns a p Tb).Z (CF K A ns a p Tb).B 1 (fM 2 b__law_door_names)) := by
  have nd := sc__law_door_names.nd
  refine fn_ok (c := (CF K A ns a p Tb)) (N := N__law_door_names) (ps := ["spec"]) T.d__law_door_names sc__law_door_names rfl rfl fun cdv Ar outer s H E hr => ?_
  exact ⟨_, (dss_one (ds_ret (DL'.de (dl_lc (own := [("door", 1)]) rfl nd (DI.c (di_seq (by rfl) (de_get (hu_of hr) (de_var 0) de_str))) (blkOk_by (own := [("door", 1)]) (N := N__law_door_names) (sc := (defScope s__law_door_names)) (scope := (⟨.function, [(".0", .local), ("door", .local)], false, false, []⟩ : Scope)) (by decide +kernel)) (fun _ _ _ _ _ => (dg_name 1 nd)) (fun _ _ _ _ _ => dts_nil) (fun _ _ _ _ _ => (de_ix (by rfl) (de_var 1) de_int))))))⟩
/-! check_house -/
abbrev N_check_house : List Str := ["house"]
theorem sc_check_house : FnScope N_check_house ["house"] (defScope s_check_house) := ⟨rfl, rfl, rfl, by decide +kernel, rfl, by decide +kernel, by decide +kernel⟩
theorem ok_check_house (T : Txt K mg base A a Tb) : FnD P w K mg base 1 A.f_check_house (spD (CF K A ns a p Tb).T (CF K A ns a p Tb).Z (CF K A ns a p Tb).B 1 (fM 1 b_check_house)) := by
  have nd := sc_check_house.nd
  refine fn_ok (c := (CF K A ns a p Tb)) (N := N_check_house) (ps := ["house"]) T.d_check_house sc_check_house rfl rfl fun cdv Ar outer s H E hr => ?_
  exact ⟨_, (dss_one (ds_if (dt_not (dt_val (de_isiC (ks := [0]) (j := 0) (List.forall_mem_cons.mpr ⟨(T.isi_0_0).to, fun _ h => absurd h (List.not_mem_nil)⟩) (by rfl) (by rfl) T.g_isinstance (by rfl) T.m_House (de_var 0))))
 dss_never
 dss_nil))⟩
/-! check_key -/
abbrev N_check_key : List Str := ["house", "one"]
theorem sc_check_key : FnScope N_check_key ["house", "one"] (defScope s_check_key) := ⟨rfl, rfl, rfl, by decide +kernel, rfl, by decide +kernel, by decide +kernel⟩
theorem ok_check_key (T : Txt K mg base A a Tb) : FnD P w K mg base 2 A.f_check_key (spD (CF K A ns a p Tb).T (CF K A ns a p Tb).Z (CF K A ns a p Tb).B 2 (fM 2 b_check_key)) := by
  have nd := sc_check_key.nd
  refine fn_ok (c := (CF K A ns a p Tb)) (N := N_check_key) (ps := ["house", "one"]) T.d_check_key sc_check_key rfl rfl fun cdv Ar outer s H E hr => ?_
  exact ⟨_, (dss_cons (ds_expr (de_call (c := CF K A ns a p Tb) (ok_check_house T) hr T.m_check_house (da_cons (de_var 0) da_nil)))
 (dss_one (ds_if (DW.dt (dw_or (dt_not (dt_val (de_isi kit_str (by rfl) bt_str (by rfl) T.g_isinstance (by rfl) T.g_str (de_var 1)))) (dw_or1 (dt_cmp (op_notInA (hu65 hr)) (rd_notIn rfl) (de_var 1) (de_fld T.cl (by rfl) (de_var 0))))))
 dss_never
 dss_nil)))⟩
/-! check_keys -/
abbrev N_check_keys : List Str := ["house", "some", "one"]
theorem sc_check_keys : FnScope N_check_keys ["house", "some"] (defScope s_check_keys) := ⟨rfl, rfl, rfl, by decide +kernel, rfl, by decide +kernel, by decide +kernel⟩
theorem ok_check_keys (T : Txt K mg base A a Tb) : FnD P w K mg base 2 A.f_check_keys (spD (CF K A ns a p Tb).T (CF K A ns a p Tb).Z (CF K A ns a p Tb).B 2 (fM 3 b_check_keys)) := by
  have nd := sc_check_keys.nd
  refine fn_ok (c := (CF K A ns a p Tb)) (N := N_check_keys) (ps := ["house", "some"]) T.d_check_keys sc_check_keys rfl rfl fun cdv Ar outer s H E hr => ?_
  exact ⟨_, (dss_cons (ds_expr (de_call (c := CF K A ns a p Tb) (ok_check_house T) hr T.m_check_house (da_cons (de_var 0) da_nil)))
 (dss_one (ds_if (DW.dt (dw_or (dt_not (dt_val (de_call (c := CF K A ns a p Tb) (ok_is_row T) hr T.m_is_row (da_cons (de_var 1) da_nil)))) (dw_or1 (dt_not (dt_val (de_callB ca_all (rc_all rfl) (by rfl) T.g_all bt_all (da_cons (DL'.de (dl_lc (own := [("one", 2)]) rfl nd (DI.c (di_seq (by rfl) (de_var 1))) (blkOk_by (own := [("one", 2)]) (N := N_check_keys) (sc := (defScope s_check_keys)) (scope := (⟨.function, [(".0", .local), ("one", .local), ("isinstance", .globalImplicit), ("str", .globalImplicit), ("house", .free)], false, false, []⟩ : Scope)) (by decide +kernel)) (fun _ _ _ _ _ => (dg_name 2 nd)) (fun _ _ _ _ _ => dts_nil) (fun _ _ _ _ _ => (de_and (de_isi kit_str (by rfl) bt_str (by rfl) T.g_isinstance (by rfl) T.g_str (de_var 2)) (de_one (de_cmp (op_inA (hu65 hr)) (rd_in rfl) (de_var 2) (de_fld T.cl (by rfl) (de_var 0)))))))) da_nil)))))))
 dss_never
 dss_nil)))⟩
/-! House.door_names -/
abbrev N_House_door_names : List Str := ["self", "name", "some"]
theorem sc_House_door_names : FnScope N_House_door_names ["self"] (defScope s_House_door_names) := ⟨rfl, rfl, rfl, by decide +kernel, rfl, by decide +kernel, by decide +kernel⟩
theorem ok_House_door_names (T : Txt K mg base A a Tb) : FnD P w K mg base 1 A.f_House_door_names (spD (CF K A ns a p Tb).T (CF K A ns a p Tb).Z (CF K A ns a p Tb).B 1 (fM 3 b_House_door_names)) := by
  have nd := sc_House_door_names.nd
  refine fn_ok (c := (CF K A ns a p Tb)) (N := N_House_door_names) (ps := ["self"]) T.d_House_door_names sc_House_door_names rfl rfl fun cdv Ar outer s H E hr => ?_
  exact ⟨_, (dss_one (ds_ret (DL'.de (dl_lc (own := [("name", 1), ("some", 2)]) rfl nd (DI.c (di_seq (by rfl) (de_fld T.cl (by rfl) (de_var 0)))) (blkOk_by (own := [("name", 1), ("some", 2)]) (N := N_House_door_names) (sc := (defScope s_House_door_names)) (scope := (⟨.function, [(".0", .local), ("name", .local), ("some", .local)], false, false, []⟩ : Scope)) (by decide +kernel)) (fun _ _ _ _ _ => (dg_tup (by rfl) rfl (dgs_cons (dg_name 1 nd) (dgs_cons (dg_name 2 nd) dgs_nil)))) (fun _ _ _ _ _ => dts_nil) (fun _ _ _ _ _ => (de_var 1))))))⟩
/-! check_doors -/
abbrev N_check_doors : List Str := ["house", "some", "one"]
theorem sc_check_doors : FnScope N_check_doors ["house", "some"] (defScope s_check_doors) := ⟨rfl, rfl, rfl, by decide +kernel, rfl, by decide +kernel, by decide +kernel⟩
theorem ok_check_doors (T : Txt K mg base A a Tb) : FnD P w K mg base 2 A.f_check_doors (spD (CF K A ns a p Tb).T (CF K A ns a p Tb).Z (CF K A ns a p Tb).B 2 (fM 3 b_check_doors)) := by
  have nd := sc_check_doors.nd
  refine fn_ok (c := (CF K A ns a p Tb)) (N := N_check_doors) (ps := ["house", "some"]) T.d_check_doors sc_check_doors rfl rfl fun cdv Ar outer s H E hr => ?_
  exact ⟨_, (dss_cons (ds_expr (de_call (c := CF K A ns a p Tb) (ok_check_house T) hr T.m_check_house (da_cons (de_var 0) da_nil)))
 (dss_one (ds_if (DW.dt (dw_or (dt_not (dt_val (de_call (c := CF K A ns a p Tb) (ok_is_row T) hr T.m_is_row (da_cons (de_var 1) da_nil)))) (dw_or1 (dt_not (dt_val (de_callB ca_all (rc_all rfl) (by rfl) T.g_all bt_all (da_cons (DL'.de (dl_lc (own := [("one", 2)]) rfl nd (DI.c (di_seq (by rfl) (de_var 1))) (blkOk_by (own := [("one", 2)]) (N := N_check_doors) (sc := (defScope s_check_doors)) (scope := (⟨.function, [(".0", .local), ("one", .local), ("isinstance", .globalImplicit), ("str", .globalImplicit), ("house", .free)], false, false, []⟩ : Scope)) (by decide +kernel)) (fun _ _ _ _ _ => (dg_name 2 nd)) (fun _ _ _ _ _ => dts_nil) (fun _ _ _ _ _ => (de_and (de_isi kit_str (by rfl) bt_str (by rfl) T.g_isinstance (by rfl) T.g_str (de_var 2)) (de_one (de_cmp (op_inA (hu65 hr)) (rd_in rfl) (de_var 2) (de_meth0 (c := CF K A ns a p Tb) (C := 0) (by rfl) (de_var 0) T.c_House T.M_House_door_names nf_House_door_names (ok_House_door_names T) hr))))))) da_nil)))))))
 dss_never
 dss_nil)))⟩
/-! House.locks_of -/
abbrev N_House_locks_of : List Str := ["self", "door"]
theorem sc_House_locks_of : FnScope N_House_locks_of ["self", "door"] (defScope s_House_locks_of) := ⟨rfl, rfl, rfl, by decide +kernel, rfl, by decide +kernel, by decide +kernel⟩
theorem ok_House_locks_of (T : Txt K mg base A a Tb) : FnD P w K mg base 2 A.f_House_locks_of (spD (CF K A ns a p Tb).T (CF K A ns a p Tb).Z (CF K A ns a p Tb).B 2 (fM 2 b_House_locks_of)) := by
  have nd := sc_House_locks_of.nd
  refine fn_ok (c := (CF K A ns a p Tb)) (N := N_House_locks_of) (ps := ["self", "door"]) T.d_House_locks_of sc_House_locks_of rfl rfl fun cdv Ar outer s H E hr => ?_
  exact ⟨_, (dss_cons (ds_if (DW.dt (dw_or (dt_not (dt_val (de_isi kit_str (by rfl) bt_str (by rfl) T.g_isinstance (by rfl) T.g_str (de_var 1)))) (dw_or1 (dt_cmp (op_notInA (hu65 hr)) (rd_notIn rfl) (de_var 1) (de_meth0 (c := CF K A ns a p Tb) (C := 0) (by rfl) (de_var 0) T.c_House T.M_House_door_names nf_House_door_names (ok_House_door_names T) hr)))))
 dss_never
 dss_nil)
 (dss_one (ds_ret (de_get (hu_of hr) (DK.de (dk_dict (by rfl) rfl (by rfl) T.g_dict (da_cons (de_fldP T.cl (by rfl) (de_var 0)) da_nil))) (de_var 1)))))⟩
/-! door_locks -/
abbrev N_door_locks : List Str := ["house", "door", "some", "locks"]
theorem sc_door_locks : FnScope N_door_locks ["house", "door", "some"] (defScope s_door_locks) := ⟨rfl, rfl, rfl, by decide +kernel, rfl, by decide +kernel, by decide +kernel⟩
theorem ok_door_locks (T : Txt K mg base A a Tb) : FnD P w K mg base 3 A.f_door_locks (spD (CF K A ns a p Tb).T (CF K A ns a p Tb).Z (CF K A ns a p Tb).B 3 (fM 4 b_door_locks)) := by
  have nd := sc_door_locks.nd
  refine fn_ok (c := (CF K A ns a p Tb)) (N := N_door_locks) (ps := ["house", "door", "some"]) T.d_door_locks sc_door_locks rfl rfl fun cdv Ar outer s H E hr => ?_
  exact ⟨_, (dss_cons (ds_expr (de_call (c := CF K A ns a p Tb) (ok_check_doors T) hr T.m_check_doors (da_cons (de_var 0) (da_cons (DL'.de (dl_lst da_nil)) da_nil))))
 (dss_cons (ds_set 3 nd (DE.v (de_meth (c := CF K A ns a p Tb) (C := 0) (by rfl) (de_var 0) T.c_House T.M_House_locks_of nf_House_locks_of (ok_House_locks_of T) hr (da_cons (de_var 1) da_nil))))
 (dss_cons (ds_expr (de_call (c := CF K A ns a p Tb) (ok_check_keys T) hr T.m_check_keys (da_cons (de_var 0) (da_cons (de_var 2) da_nil))))
 (dss_one (ds_ret (de_var 3))))))⟩
/-! House.lock_names -/
abbrev N_House_lock_names : List Str := ["self", "name", "some"]
theorem sc_House_lock_names : FnScope N_House_lock_names ["self"] (defScope s_House_lock_names) := ⟨rfl, rfl, rfl, by decide +kernel, rfl, by decide +kernel, by decide +kernel⟩
theorem ok_House_lock_names (T : Txt K mg base A a Tb) : FnD P w K mg base 1 A.f_House_lock_names (spD (CF K A ns a p Tb).T (CF K A ns a p Tb).Z (CF K A ns a p Tb).B 1 (fM 3 b_House_lock_names)) := by
  have nd := sc_House_lock_names.nd
  refine fn_ok (c := (CF K A ns a p Tb)) (N := N_House_lock_names) (ps := ["self"]) T.d_House_lock_names sc_House_lock_names rfl rfl fun cdv Ar outer s H E hr => ?_
  exact ⟨_, (dss_one (ds_ret (DL'.de (dl_lc (own := [("name", 1), ("some", 2)]) rfl nd (DI.c (di_seq (by rfl) (de_fld T.cl (by rfl) (de_var 0)))) (blkOk_by (own := [("name", 1), ("some", 2)]) (N := N_House_lock_names) (sc := (defScope s_House_lock_names)) (scope := (⟨.function, [(".0", .local), ("name", .local), ("some", .local)], false, false, []⟩ : Scope)) (by decide +kernel)) (fun _ _ _ _ _ => (dg_tup (by rfl) rfl (dgs_cons (dg_name 1 nd) (dgs_cons (dg_name 2 nd) dgs_nil)))) (fun _ _ _ _ _ => dts_nil) (fun _ _ _ _ _ => (de_var 1))))))⟩
/-! House.openers -/
abbrev N_House_openers : List Str := ["self", "lock"]
theorem sc_House_openers : FnScope N_House_openers ["self", "lock"] (defScope s_House_openers) := ⟨rfl, rfl, rfl, by decide +kernel, rfl, by decide +kernel, by decide +kernel⟩
theorem ok_House_openers (T : Txt K mg base A a Tb) : FnD P w K mg base 2 A.f_House_openers (spD (CF K A ns a p Tb).T (CF K A ns a p Tb).Z (CF K A ns a p Tb).B 2 (fM 2 b_House_openers)) := by
  have nd := sc_House_openers.nd
  refine fn_ok (c := (CF K A ns a p Tb)) (N := N_House_openers) (ps := ["self", "lock"]) T.d_House_openers sc_House_openers rfl rfl fun cdv Ar outer s H E hr => ?_
  exact ⟨_, (dss_cons (ds_if (DW.dt (dw_or (dt_not (dt_val (de_isi kit_str (by rfl) bt_str (by rfl) T.g_isinstance (by rfl) T.g_str (de_var 1)))) (dw_or1 (dt_cmp (op_notInA (hu65 hr)) (rd_notIn rfl) (de_var 1) (de_meth0 (c := CF K A ns a p Tb) (C := 0) (by rfl) (de_var 0) T.c_House T.M_House_lock_names nf_House_lock_names (ok_House_lock_names T) hr)))))
 dss_never
 dss_nil)
 (dss_one (ds_ret (de_get (hu_of hr) (DK.de (dk_dict (by rfl) rfl (by rfl) T.g_dict (da_cons (de_fldP T.cl (by rfl) (de_var 0)) da_nil))) (de_var 1)))))⟩
/-! opens_lock -/
abbrev N_opens_lock : List Str := ["house", "lock", "some", "openers", "one"]
theorem sc_opens_lock : FnScope N_opens_lock ["house", "lock", "some"] (defScope s_opens_lock) := ⟨rfl, rfl, rfl, by decide +kernel, rfl, by decide +kernel, by decide +kernel⟩
theorem ok_opens_lock (T : Txt K mg base A a Tb) : FnD P w K mg base 3 A.f_opens_lock (spD (CF K A ns a p Tb).T (CF K A ns a p Tb).Z (CF K A ns a p Tb).B 3 (fM 5 b_opens_lock)) := by
  have nd := sc_opens_lock.nd
  refine fn_ok (c := (CF K A ns a p Tb)) (N := N_opens_lock) (ps := ["house", "lock", "some"]) T.d_opens_lock sc_opens_lock rfl rfl fun cdv Ar outer s H E hr => ?_
  exact ⟨_, (dss_cons (ds_expr (de_call (c := CF K A ns a p Tb) (ok_check_house T) hr T.m_check_house (da_cons (de_var 0) da_nil)))
 (dss_cons (ds_set 3 nd (DE.v (de_meth (c := CF K A ns a p Tb) (C := 0) (by rfl) (de_var 0) T.c_House T.M_House_openers nf_House_openers (ok_House_openers T) hr (da_cons (de_var 1) da_nil))))
 (dss_cons (ds_expr (de_call (c := CF K A ns a p Tb) (ok_check_keys T) hr T.m_check_keys (da_cons (de_var 0) (da_cons (de_var 2) da_nil))))
 (dss_one (ds_ret (de_callB ca_any (rc_any rfl) (by rfl) T.g_any bt_any (da_cons (DL'.de (dl_lc (own := [("one", 4)]) rfl nd (DI.c (di_seq (by rfl) (de_var 2))) (blkOk_by (own := [("one", 4)]) (N := N_opens_lock) (sc := (defScope s_opens_lock)) (scope := (⟨.function, [(".0", .local), ("one", .local), ("openers", .free)], false, false, []⟩ : Scope)) (by decide +kernel)) (fun _ _ _ _ _ => (dg_name 4 nd)) (fun _ _ _ _ _ => dts_nil) (fun _ _ _ _ _ => (de_cmp (op_inA (hu65 hr)) (rd_in rfl) (de_var 4) (de_var 3))))) da_nil)))))))⟩
/-! opens -/
abbrev N_opens : List Str := ["house", "door", "some", "lock"]
theorem sc_opens : FnScope N_opens ["house", "door", "some"] (defScope s_opens) := ⟨rfl, rfl, rfl, by decide +kernel, rfl, by decide +kernel, by decide +kernel⟩
theorem ok_opens (T : Txt K mg base A a Tb) : FnD P w K mg base 4 A.f_opens (spD (CF K A ns a p Tb).T (CF K A ns a p Tb).Z (CF K A ns a p Tb).B 3 (fM 4 b_opens)) := by
  have nd := sc_opens.nd
  refine fn_ok (c := (CF K A ns a p Tb)) (N := N_opens) (ps := ["house", "door", "some"]) T.d_opens sc_opens rfl rfl fun cdv Ar outer s H E hr => ?_
  exact ⟨_, (dss_one (ds_ret (de_callB ca_all (rc_all rfl) (by rfl) T.g_all bt_all (da_cons (DL'.de (dl_lc (own := [("lock", 3)]) rfl nd (DI.c (di_seq (by rfl) (de_call (c := CF K A ns a p Tb) (ok_door_locks T) hr T.m_door_locks (da_cons (de_var 0) (da_cons (de_var 1) (da_cons (de_var 2) da_nil)))))) (blkOk_by (own := [("lock", 3)]) (N := N_opens) (sc := (defScope s_opens)) (scope := (⟨.function, [(".0", .local), ("lock", .local), ("opens_lock", .globalImplicit), ("house", .free), ("some", .free)], false, false, []⟩ : Scope)) (by decide +kernel)) (fun _ _ _ _ _ => (dg_name 3 nd)) (fun _ _ _ _ _ => dts_nil) (fun _ _ _ _ _ => (de_call (c := CF K A ns a p Tb) (ok_opens_lock T) hr T.m_opens_lock (da_cons (de_var 0) (da_cons (de_var 3) (da_cons (de_var 2) da_nil))))))) da_nil))))⟩
/-! doors_of -/
abbrev N_doors_of : List Str := ["house", "some", "door"]
theorem sc_doors_of : FnScope N_doors_of ["house", "some"] (defScope s_doors_of) := ⟨rfl, rfl, rfl, by decide +kernel, rfl, by decide +kernel, by decide +kernel⟩
theorem ok_doors_of (T : Txt K mg base A a Tb) : FnD P w K mg base 5 A.f_doors_of (spD (CF K A ns a p Tb).T (CF K A ns a p Tb).Z (CF K A ns a p Tb).B 2 (fM 3 b_doors_of)) := by
  have nd := sc_doors_of.nd
  refine fn_ok (c := (CF K A ns a p Tb)) (N := N_doors_of) (ps := ["house", "some"]) T.d_doors_of sc_doors_of rfl rfl fun cdv Ar outer s H E hr => ?_
  exact ⟨_, (dss_cons (ds_expr (de_call (c := CF K A ns a p Tb) (ok_check_keys T) hr T.m_check_keys (da_cons (de_var 0) (da_cons (de_var 1) da_nil))))
 (dss_one (ds_ret (DL'.de (dl_lc (own := [("door", 2)]) rfl nd (DI.c (di_seq (by rfl) (de_meth0 (c := CF K A ns a p Tb) (C := 0) (by rfl) (de_var 0) T.c_House T.M_House_door_names nf_House_door_names (ok_House_door_names T) hr))) (blkOk_by (own := [("door", 2)]) (N := N_doors_of) (sc := (defScope s_doors_of)) (scope := (⟨.function, [(".0", .local), ("door", .local), ("opens", .globalImplicit), ("house", .free), ("some", .free)], false, false, []⟩ : Scope)) (by decide +kernel)) (fun _ _ _ _ _ => (dg_name 2 nd)) (fun _ _ _ _ _ => (dts_one (dt_val (de_call (c := CF K A ns a p Tb) (ok_opens T) hr T.m_opens (da_cons (de_var 0) (da_cons (de_var 2) (da_cons (de_var 1) da_nil))))))) (fun _ _ _ _ _ => (de_var 2)))))))⟩
/-! is_below_key -/
abbrev N_is_below_key : List Str := ["house", "one", "other", "mine", "theirs", "door"]
theorem sc_is_below_key : FnScope N_is_below_key ["house", "one", "other"] (defScope s_is_below_key) := ⟨rfl, rfl, rfl, by decide +kernel, rfl, by decide +kernel, by decide +kernel⟩
theorem ok_is_below_key (T : Txt K mg base A a Tb) : FnD P w K mg base 6 A.f_is_below_key (spD (CF K A ns a p Tb).T (CF K A ns a p Tb).Z (CF K A ns a p Tb).B 3 (fM 6 b_is_below_key)) := by
  have nd := sc_is_below_key.nd
  refine fn_ok (c := (CF K A ns a p Tb)) (N := N_is_below_key) (ps := ["house", "one", "other"]) T.d_is_below_key sc_is_below_key rfl rfl fun cdv Ar outer s H E hr => ?_
  exact ⟨_, (dss_cons (ds_expr (de_call (c := CF K A ns a p Tb) (ok_check_key T) hr T.m_check_key (da_cons (de_var 0) (da_cons (de_var 1) da_nil))))
 (dss_cons (ds_expr (de_call (c := CF K A ns a p Tb) (ok_check_key T) hr T.m_check_key (da_cons (de_var 0) (da_cons (de_var 2) da_nil))))
 (dss_cons (ds_asg (de_tup (da_cons (de_call (c := CF K A ns a p Tb) (ok_doors_of T) hr T.m_doors_of (da_cons (de_var 0) (da_cons (DL'.de (dl_lst (da_cons (de_var 1) da_nil))) da_nil))) (da_cons (de_call (c := CF K A ns a p Tb) (ok_doors_of T) hr T.m_doors_of (da_cons (de_var 0) (da_cons (DL'.de (dl_lst (da_cons (de_var 2) da_nil))) da_nil))) da_nil))) (dg_tup (by rfl) rfl (dgs_cons (dg_name 3 nd) (dgs_cons (dg_name 4 nd) dgs_nil))))
 (dss_one (ds_ret (de_and (de_cmp (op_neA hr.units) (rd_ne rfl) (de_var 3) (de_var 4)) (de_one (de_callB ca_all (rc_all rfl) (by rfl) T.g_all bt_all (da_cons (DL'.de (dl_lc (own := [("door", 5)]) rfl nd (DI.c (di_seq (by rfl) (de_var 3))) (blkOk_by (own := [("door", 5)]) (N := N_is_below_key) (sc := (defScope s_is_below_key)) (scope := (⟨.function, [(".0", .local), ("door", .local), ("theirs", .free)], false, false, []⟩ : Scope)) (by decide +kernel)) (fun _ _ _ _ _ => (dg_name 5 nd)) (fun _ _ _ _ _ => dts_nil) (fun _ _ _ _ _ => (de_cmp (op_inA (hu65 hr)) (rd_in rfl) (de_var 5) (de_var 4))))) da_nil)))))))))⟩
/-! above -/
abbrev N_above : List Str := ["house", "one", "other"]
theorem sc_above : FnScope N_above ["house", "one"] (defScope s_above) := ⟨rfl, rfl, rfl, by decide +kernel, rfl, by decide +kernel, by decide +kernel⟩
theorem ok_above (T : Txt K mg base A a Tb) : FnD P w K mg base 7 A.f_above (spD (CF K A ns a p Tb).T (CF K A ns a p Tb).Z (CF K A ns a p Tb).B 2 (fM 3 b_above)) := by
  have nd := sc_above.nd
  refine fn_ok (c := (CF K A ns a p Tb)) (N := N_above) (ps := ["house", "one"]) T.d_above sc_above rfl rfl fun cdv Ar outer s H E hr => ?_
  exact ⟨_, (dss_cons (ds_expr (de_call (c := CF K A ns a p Tb) (ok_check_key T) hr T.m_check_key (da_cons (de_var 0) (da_cons (de_var 1) da_nil))))
 (dss_one (ds_ret (DL'.de (dl_lc (own := [("other", 2)]) rfl nd (DI.c (di_seq (by rfl) (de_fld T.cl (by rfl) (de_var 0)))) (blkOk_by (own := [("other", 2)]) (N := N_above) (sc := (defScope s_above)) (scope := (⟨.function, [(".0", .local), ("other", .local), ("is_below_key", .globalImplicit), ("house", .free), ("one", .free)], false, false, []⟩ : Scope)) (by decide +kernel)) (fun _ _ _ _ _ => (dg_name 2 nd)) (fun _ _ _ _ _ => (dts_one (dt_val (de_call (c := CF K A ns a p Tb) (ok_is_below_key T) hr T.m_is_below_key (da_cons (de_var 0) (da_cons (de_var 1) (da_cons (de_var 2) da_nil))))))) (fun _ _ _ _ _ => (de_var 2)))))))⟩
/-! alike_keys -/
abbrev N_alike_keys : List Str := ["house", "one", "other", "key", "name", "some"]
theorem sc_alike_keys : FnScope N_alike_keys ["house", "one", "other"] (defScope s_alike_keys) := ⟨rfl, rfl, rfl, by decide +kernel, rfl, by decide +kernel, by decide +kernel⟩
theorem ok_alike_keys (T : Txt K mg base A a Tb) : FnD P w K mg base 2 A.f_alike_keys (spD (CF K A ns a p Tb).T (CF K A ns a p Tb).Z (CF K A ns a p Tb).B 3 (fM 6 b_alike_keys)) := by
  have nd := sc_alike_keys.nd
  refine fn_ok (c := (CF K A ns a p Tb)) (N := N_alike_keys) (ps := ["house", "one", "other"]) T.d_alike_keys sc_alike_keys rfl rfl fun cdv Ar outer s H E hr => ?_
  exact ⟨_, (dss_cons (ds_expr (de_call (c := CF K A ns a p Tb) (ok_check_house T) hr T.m_check_house (da_cons (de_var 0) da_nil)))
 (dss_cons (ds_for PassesOwn.never rfl (di_seq (by rfl) (de_tup (da_cons (de_var 1) (da_cons (de_var 2) da_nil)))) (dg_name 3 nd)
 (dss_one (ds_if (DW.dt (dw_or (dt_not (dt_val (de_isi kit_str (by rfl) bt_str (by rfl) T.g_isinstance (by rfl) T.g_str (de_var 3)))) (dw_or1 (dt_cmp (op_notInA (hu65 hr)) (rd_notIn rfl) (de_var 3) (de_fld T.cl (by rfl) (de_var 0))))))
 dss_never
 dss_nil)))
 (dss_one (ds_ret (de_callB ca_all (rc_all rfl) (by rfl) T.g_all bt_all (da_cons (DL'.de (dl_lc (own := [("name", 4), ("some", 5)]) rfl nd (DI.c (di_seq (by rfl) (de_fld T.cl (by rfl) (de_var 0)))) (blkOk_by (own := [("name", 4), ("some", 5)]) (N := N_alike_keys) (sc := (defScope s_alike_keys)) (scope := (⟨.function, [(".0", .local), ("name", .local), ("some", .local), ("one", .free), ("other", .free)], false, false, []⟩ : Scope)) (by decide +kernel)) (fun _ _ _ _ _ => (dg_tup (by rfl) rfl (dgs_cons (dg_name 4 nd) (dgs_cons (dg_name 5 nd) dgs_nil)))) (fun _ _ _ _ _ => dts_nil) (fun _ _ _ _ _ => (de_cmp (op_eqA hr.units) (rd_eq rfl) (de_cmp (op_inA (hu65 hr)) (rd_in rfl) (de_var 1) (de_var 5)) (de_cmp (op_inA (hu65 hr)) (rd_in rfl) (de_var 2) (de_var 5)))))) da_nil))))))⟩
/-! tops -/
abbrev N_tops : List Str := ["house", "one"]
theorem sc_tops : FnScope N_tops ["house"] (defScope s_tops) := ⟨rfl, rfl, rfl, by decide +kernel, rfl, by decide +kernel, by decide +kernel⟩
theorem ok_tops (T : Txt K mg base A a Tb) : FnD P w K mg base 8 A.f_tops (spD (CF K A ns a p Tb).T (CF K A ns a p Tb).Z (CF K A ns a p Tb).B 1 (fM 2 b_tops)) := by
  have nd := sc_tops.nd
  refine fn_ok (c := (CF K A ns a p Tb)) (N := N_tops) (ps := ["house"]) T.d_tops sc_tops rfl rfl fun cdv Ar outer s H E hr => ?_
  exact ⟨_, (dss_cons (ds_expr (de_call (c := CF K A ns a p Tb) (ok_check_house T) hr T.m_check_house (da_cons (de_var 0) da_nil)))
 (dss_one (ds_ret (DL'.de (dl_lc (own := [("one", 1)]) rfl nd (DI.c (di_seq (by rfl) (de_fld T.cl (by rfl) (de_var 0)))) (blkOk_by (own := [("one", 1)]) (N := N_tops) (sc := (defScope s_tops)) (scope := (⟨.function, [(".0", .local), ("one", .local), ("above", .globalImplicit), ("house", .free)], false, false, []⟩ : Scope)) (by decide +kernel)) (fun _ _ _ _ _ => (dg_name 1 nd)) (fun _ _ _ _ _ => (dts_one (dt_cmp (op_eqA hr.units) (rd_eq rfl) (de_call (c := CF K A ns a p Tb) (ok_above T) hr T.m_above (da_cons (de_var 0) (da_cons (de_var 1) da_nil))) (DL'.de (dl_lst da_nil))))) (fun _ _ _ _ _ => (de_var 1)))))))⟩
/-! longest_chain -/
abbrev N_longest_chain : List Str := ["house", "rows", "best", "one", "row", "late"]
theorem sc_longest_chain : FnScope N_longest_chain ["house"] (defScope s_longest_chain) := ⟨rfl, rfl, rfl, by decide +kernel, rfl, by decide +kernel, by decide +kernel⟩
theorem ok_longest_chain (T : Txt K mg base A a Tb) : FnD P w K mg base 8 A.f_longest_chain (spD (CF K A ns a p Tb).T (CF K A ns a p Tb).Z (CF K A ns a p Tb).B 1 (fM 6 b_longest_chain)) := by
  have nd := sc_longest_chain.nd
  refine fn_ok (c := (CF K A ns a p Tb)) (N := N_longest_chain) (ps := ["house"]) T.d_longest_chain sc_longest_chain rfl rfl fun cdv Ar outer s H E hr => ?_
  exact ⟨_, (dss_cons (ds_expr (de_call (c := CF K A ns a p Tb) (ok_check_house T) hr T.m_check_house (da_cons (de_var 0) da_nil)))
 (dss_cons (ds_setLcE 1 (own := [("one", 3)]) rfl nd (DI.c (di_seq (by rfl) (de_fld T.cl (by rfl) (de_var 0)))) (blkOk_by (own := [("one", 3)]) (N := N_longest_chain) (sc := (defScope s_longest_chain)) (scope := (⟨.function, [(".0", .local), ("one", .local)], false, false, []⟩ : Scope)) (by decide +kernel)) (fun _ _ _ _ _ => (dg_name 3 nd)) (fun _ _ _ _ _ => dts_nil) (fun _ _ _ _ _ => (de_tup (da_cons (de_var 3) da_nil))))
 (dss_cons (ds_set 2 nd (DE.v (de_ix (by rfl) (de_var 1) de_int)))
 (dss_cons (ds_while PassesOwn.never (dt_cmp (op_neA hr.units) (rd_ne rfl) (de_var 1) (DL'.de (dl_lst da_nil)))
 (dss_cons (ds_set 2 nd (DE.v (de_ix (by rfl) (de_var 1) de_int)))
 (dss_one (ds_setLc2E 1 (own := [("row", 4), ("late", 5)]) (vs1 := [5]) rfl nd (DI.c (di_seq (by rfl) (de_var 1))) (blkOk_by (own := [("row", 4), ("late", 5)]) (N := N_longest_chain) (sc := (defScope s_longest_chain)) (scope := (⟨.function, [(".0", .local), ("row", .local), ("late", .local), ("above", .globalImplicit), ("house", .free)], false, false, []⟩ : Scope)) (by decide +kernel)) (fun _ _ _ _ _ => (dg_name 4 nd)) (fun _ _ _ _ _ => dts_nil) (fun _ _ _ _ _ => (di_seq (by rfl) (de_call (c := CF K A ns a p Tb) (ok_above T) hr T.m_above (da_cons (de_var 0) (da_cons (de_ix (by rfl) (de_var 4) (de_neg de_int)) da_nil))))) (fun _ _ _ _ _ => (dg_name 5 nd)) (fun _ _ _ _ _ => dts_nil) (fun _ _ _ _ _ => (de_tup (da_star (by rfl) (de_var 4) (da_cons (de_var 5) da_nil))))))))
 (dss_one (ds_ret (de_var 2)))))))⟩
/-! masters -/
abbrev N_masters : List Str := ["house", "one"]
theorem sc_masters : FnScope N_masters ["house"] (defScope s_masters) := ⟨rfl, rfl, rfl, by decide +kernel, rfl, by decide +kernel, by decide +kernel⟩
theorem ok_masters (T : Txt K mg base A a Tb) : FnD P w K mg base 6 A.f_masters (spD (CF K A ns a p Tb).T (CF K A ns a p Tb).Z (CF K A ns a p Tb).B 1 (fM 2 b_masters)) := by
  have nd := sc_masters.nd
  refine fn_ok (c := (CF K A ns a p Tb)) (N := N_masters) (ps := ["house"]) T.d_masters sc_masters rfl rfl fun cdv Ar outer s H E hr => ?_
  exact ⟨_, (dss_cons (ds_expr (de_call (c := CF K A ns a p Tb) (ok_check_house T) hr T.m_check_house (da_cons (de_var 0) da_nil)))
 (dss_one (ds_ret (DL'.de (dl_lc (own := [("one", 1)]) rfl nd (DI.c (di_seq (by rfl) (de_fld T.cl (by rfl) (de_var 0)))) (blkOk_by (own := [("one", 1)]) (N := N_masters) (sc := (defScope s_masters)) (scope := (⟨.function, [(".0", .local), ("one", .local), ("len", .globalImplicit), ("doors_of", .globalImplicit), ("house", .free)], false, false, []⟩ : Scope)) (by decide +kernel)) (fun _ _ _ _ _ => (dg_name 1 nd)) (fun _ _ _ _ _ => (dts_one (dt_cmp (op_eqA hr.units) (rd_eq rfl) (de_callB call_lenA (rc_len rfl) (by rfl) T.g_len bt_len (da_cons (de_call (c := CF K A ns a p Tb) (ok_doors_of T) hr T.m_doors_of (da_cons (de_var 0) (da_cons (DL'.de (dl_lst (da_cons (de_var 1) da_nil))) da_nil))) da_nil)) (de_callB call_lenA (rc_len rfl) (by rfl) T.g_len bt_len (da_cons (de_fld T.cl (by rfl) (de_var 0)) da_nil))))) (fun _ _ _ _ _ => (de_var 1)))))))⟩
/-! exposed -/
abbrev N_exposed : List Str := ["house", "lost", "door"]
theorem sc_exposed : FnScope N_exposed ["house", "lost"] (defScope s_exposed) := ⟨rfl, rfl, rfl, by decide +kernel, rfl, by decide +kernel, by decide +kernel⟩
theorem ok_exposed (T : Txt K mg base A a Tb) : FnD P w K mg base 5 A.f_exposed (spD (CF K A ns a p Tb).T (CF K A ns a p Tb).Z (CF K A ns a p Tb).B 2 (fM 3 b_exposed)) := by
  have nd := sc_exposed.nd
  refine fn_ok (c := (CF K A ns a p Tb)) (N := N_exposed) (ps := ["house", "lost"]) T.d_exposed sc_exposed rfl rfl fun cdv Ar outer s H E hr => ?_
  exact ⟨_, (dss_cons (ds_expr (de_call (c := CF K A ns a p Tb) (ok_check_keys T) hr T.m_check_keys (da_cons (de_var 0) (da_cons (de_var 1) da_nil))))
 (dss_one (ds_ret (DL'.de (dl_lc (own := [("door", 2)]) rfl nd (DI.c (di_seq (by rfl) (de_meth0 (c := CF K A ns a p Tb) (C := 0) (by rfl) (de_var 0) T.c_House T.M_House_door_names nf_House_door_names (ok_House_door_names T) hr))) (blkOk_by (own := [("door", 2)]) (N := N_exposed) (sc := (defScope s_exposed)) (scope := (⟨.function, [(".0", .local), ("door", .local), ("opens", .globalImplicit), ("house", .free), ("lost", .free)], false, false, []⟩ : Scope)) (by decide +kernel)) (fun _ _ _ _ _ => (dg_name 2 nd)) (fun _ _ _ _ _ => (dts_one (dt_val (de_call (c := CF K A ns a p Tb) (ok_opens T) hr T.m_opens (da_cons (de_var 0) (da_cons (de_var 2) (da_cons (de_var 1) da_nil))))))) (fun _ _ _ _ _ => (de_var 2)))))))⟩
/-! worst_loss -/
abbrev N_worst_loss : List Str := ["house", "many", "one"]
theorem sc_worst_loss : FnScope N_worst_loss ["house"] (defScope s_worst_loss) := ⟨rfl, rfl, rfl, by decide +kernel, rfl, by decide +kernel, by decide +kernel⟩
theorem ok_worst_loss (T : Txt K mg base A a Tb) : FnD P w K mg base 6 A.f_worst_loss (spD (CF K A ns a p Tb).T (CF K A ns a p Tb).Z (CF K A ns a p Tb).B 1 (fM 3 b_worst_loss)) := by
  have nd := sc_worst_loss.nd
  refine fn_ok (c := (CF K A ns a p Tb)) (N := N_worst_loss) (ps := ["house"]) T.d_worst_loss sc_worst_loss rfl rfl fun cdv Ar outer s H E hr => ?_
  exact ⟨_, (dss_cons (ds_expr (de_call (c := CF K A ns a p Tb) (ok_check_house T) hr T.m_check_house (da_cons (de_var 0) da_nil)))
 (dss_cons (ds_set 1 nd (DE.v (DK.de (dk_dc (own := [("one", 2)]) rfl nd (DI.c (di_seq (by rfl) (de_fld T.cl (by rfl) (de_var 0)))) (blkOk_by (own := [("one", 2)]) (N := N_worst_loss) (sc := (defScope s_worst_loss)) (scope := (⟨.function, [(".0", .local), ("one", .local), ("len", .globalImplicit), ("exposed", .globalImplicit), ("house", .free)], false, false, []⟩ : Scope)) (by decide +kernel)) (fun _ _ _ _ _ => (dg_name 2 nd)) (fun _ _ _ _ _ => dts_nil) (fun _ _ _ _ _ => (de_var 2)) (fun _ _ _ _ _ => (de_callB call_lenA (rc_len rfl) (by rfl) T.g_len bt_len (da_cons (de_call (c := CF K A ns a p Tb) (ok_exposed T) hr T.m_exposed (da_cons (de_var 0) (da_cons (DL'.de (dl_lst (da_cons (de_var 2) da_nil))) da_nil))) da_nil)))))))
 (dss_one (ds_ret (de_ix (by rfl) (DL'.de (dl_lc (own := [("one", 2)]) rfl nd (DI.c (di_seq (by rfl) (de_fld T.cl (by rfl) (de_var 0)))) (blkOk_by (own := [("one", 2)]) (N := N_worst_loss) (sc := (defScope s_worst_loss)) (scope := (⟨.function, [(".0", .local), ("one", .local), ("max", .globalImplicit), ("many", .free)], false, false, []⟩ : Scope)) (by decide +kernel)) (fun _ _ _ _ _ => (dg_name 2 nd)) (fun _ _ _ _ _ => (dts_one (dt_cmp (op_eqA hr.units) (rd_eq rfl) (de_get (hu_of hr) (de_var 1) (de_var 2)) (de_maxV rfl (de_var 1) (by rfl) T.g_max)))) (fun _ _ _ _ _ => (de_var 2)))) de_int)))))⟩
/-! are_apart -/
abbrev N_are_apart : List Str := ["house", "one", "other", "mine", "theirs", "door"]
theorem sc_are_apart : FnScope N_are_apart ["house", "one", "other"] (defScope s_are_apart) := ⟨rfl, rfl, rfl, by decide +kernel, rfl, by decide +kernel, by decide +kernel⟩
theorem ok_are_apart (T : Txt K mg base A a Tb) : FnD P w K mg base 6 A.f_are_apart (spD (CF K A ns a p Tb).T (CF K A ns a p Tb).Z (CF K A ns a p Tb).B 3 (fM 6 b_are_apart)) := by
  have nd := sc_are_apart.nd
  refine fn_ok (c := (CF K A ns a p Tb)) (N := N_are_apart) (ps := ["house", "one", "other"]) T.d_are_apart sc_are_apart rfl rfl fun cdv Ar outer s H E hr => ?_
  exact ⟨_, (dss_cons (ds_asg (de_tup (da_cons (de_call (c := CF K A ns a p Tb) (ok_doors_of T) hr T.m_doors_of (da_cons (de_var 0) (da_cons (DL'.de (dl_lst (da_cons (de_var 1) da_nil))) da_nil))) (da_cons (de_call (c := CF K A ns a p Tb) (ok_doors_of T) hr T.m_doors_of (da_cons (de_var 0) (da_cons (DL'.de (dl_lst (da_cons (de_var 2) da_nil))) da_nil))) da_nil))) (dg_tup (by rfl) rfl (dgs_cons (dg_name 3 nd) (dgs_cons (dg_name 4 nd) dgs_nil))))
 (dss_one (ds_ret (de_and (de_not (de_callB ca_all (rc_all rfl) (by rfl) T.g_all bt_all (da_cons (DL'.de (dl_lc (own := [("door", 5)]) rfl nd (DI.c (di_seq (by rfl) (de_var 3))) (blkOk_by (own := [("door", 5)]) (N := N_are_apart) (sc := (defScope s_are_apart)) (scope := (⟨.function, [(".0", .local), ("door", .local), ("theirs", .free)], false, false, []⟩ : Scope)) (by decide +kernel)) (fun _ _ _ _ _ => (dg_name 5 nd)) (fun _ _ _ _ _ => dts_nil) (fun _ _ _ _ _ => (de_cmp (op_inA (hu65 hr)) (rd_in rfl) (de_var 5) (de_var 4))))) da_nil))) (de_one (de_not (de_callB ca_all (rc_all rfl) (by rfl) T.g_all bt_all (da_cons (DL'.de (dl_lc (own := [("door", 5)]) rfl nd (DI.c (di_seq (by rfl) (de_var 4))) (blkOk_by (own := [("door", 5)]) (N := N_are_apart) (sc := (defScope s_are_apart)) (scope := (⟨.function, [(".0", .local), ("door", .local), ("mine", .free)], false, false, []⟩ : Scope)) (by decide +kernel)) (fun _ _ _ _ _ => (dg_name 5 nd)) (fun _ _ _ _ _ => dts_nil) (fun _ _ _ _ _ => (de_cmp (op_inA (hu65 hr)) (rd_in rfl) (de_var 5) (de_var 3))))) da_nil))))))))⟩
/-! Fork.__init__ -/
abbrev N_Forkdd_initdd : List Str := ["self", "one", "first", "last"]
theorem sc_Forkdd_initdd : FnScope N_Forkdd_initdd ["self", "one", "first", "last"] (defScope s_Forkdd_initdd) := ⟨rfl, rfl, rfl, by decide +kernel, rfl, by decide +kernel, by decide +kernel⟩
theorem ok_Forkdd_initdd (T : Txt K mg base A a Tb) : FnD P w K mg base 1 A.f_Forkdd_initdd (spI (CF K A ns a p Tb).T (CF K A ns a p Tb).Z (CF K A ns a p Tb).B 2 3 (iM fdT 4 2 b_Forkdd_initdd)) := by
  have nd := sc_Forkdd_initdd.nd
  refine in_ok (c := (CF K A ns a p Tb)) (N := N_Forkdd_initdd) (ps := ["self", "one", "first", "last"]) T.d_Forkdd_initdd sc_Forkdd_initdd rfl rfl fun x cdv Ar outer s H E hr => ?_
  exact ⟨_, (dss_cons (ds_fld 0 2 0 rfl (de_var 1) T.c_Fork T.n_Fork_one (by rfl) (show ("one" : Str) ∉ (fdT 2).take 0 by decide +kernel) (show (fdT 2).length < 1000 by decide))
 (dss_cons (ds_fld 0 2 1 rfl (de_var 2) T.c_Fork T.n_Fork_first (by rfl) (show ("first" : Str) ∉ (fdT 2).take 1 by decide +kernel) (show (fdT 2).length < 1000 by decide))
 (dss_one (ds_fld 0 2 2 rfl (de_var 3) T.c_Fork T.n_Fork_last (by rfl) (show ("last" : Str) ∉ (fdT 2).take 2 by decide +kernel) (show (fdT 2).length < 1000 by decide)))))⟩
/-! rowed -/
abbrev N_rowed : List Str := ["thing", "part"]
theorem sc_rowed : FnScope N_rowed ["thing"] (defScope s_rowed) := ⟨rfl, rfl, rfl, by decide +kernel, rfl, by decide +kernel, by decide +kernel⟩
theorem ok_rowed (T : Txt K mg base A a Tb) : ∀ j : Nat, FnD P w K mg base (1 + j) A.f_rowed (spD (CF K A ns a p Tb).T (CF K A ns a p Tb).Z (CF K A ns a p Tb).B 1 (m_rowed j))
  | 0 => fn_zero T.d_rowed
  | j + 1 => by
    have IH := ok_rowed T j
    have nd := sc_rowed.nd
    refine fn_ok (c := (CF K A ns a p Tb)) (k := 1 + j) (N := N_rowed) (ps := ["thing"]) T.d_rowed sc_rowed rfl rfl fun cdv Ar outer s H E hr => ?_
    exact ⟨_, (dss_one (ds_ret (de_if (dt_val (de_call (c := CF K A ns a p Tb) (ok_is_row T) hr T.m_is_row (da_cons (de_var 0) da_nil) (hk := by omega))) (de_callTy ca_tuple (rc_tuple rfl) (by rfl) T.g_tuple bt_tuple (da_cons (DL'.de (dl_lc (own := [("part", 1)]) rfl nd (DI.c (di_seq (by rfl) (de_var 0))) (blkOk_by (own := [("part", 1)]) (N := N_rowed) (sc := (defScope s_rowed)) (scope := (⟨.function, [(".0", .local), ("part", .local), ("rowed", .globalImplicit)], false, false, []⟩ : Scope)) (by decide +kernel)) (fun _ _ _ _ _ => (dg_name 1 nd)) (fun _ _ _ _ _ => dts_nil) (fun _ _ _ _ _ => (de_call (c := CF K A ns a p Tb) (IH) hr T.m_rowed (da_cons (de_var 1) da_nil) (hk := by omega))))) da_nil)) (de_var 0))))⟩
/-! Tree.__init__ -/
abbrev N_Treedd_initdd : List Str := ["self", "rows"]
theorem sc_Treedd_initdd : FnScope N_Treedd_initdd ["self", "rows"] (defScope s_Treedd_initdd) := ⟨rfl, rfl, rfl, by decide +kernel, rfl, by decide +kernel, by decide +kernel⟩
theorem ok_Treedd_initdd (T : Txt K mg base A a Tb) : FnD P w K mg base 6 A.f_Treedd_initdd (spI (CF K A ns a p Tb).T (CF K A ns a p Tb).Z (CF K A ns a p Tb).B 1 1 (iM fdT 2 1 b_Treedd_initdd)) := by
  have nd := sc_Treedd_initdd.nd
  refine in_ok (c := (CF K A ns a p Tb)) (N := N_Treedd_initdd) (ps := ["self", "rows"]) T.d_Treedd_initdd sc_Treedd_initdd rfl rfl fun x cdv Ar outer s H E hr => ?_
  exact ⟨_, (dss_one (ds_fld 0 1 0 rfl (de_call (c := (CF K A ns a p Tb).sf x) (ok_rowed T 4) hr T.m_rowed (da_cons (de_var 1) da_nil)) T.c_Tree T.n_Tree_rows (by rfl) (show ("rows" : Str) ∉ (fdT 1).take 0 by decide +kernel) (show (fdT 1).length < 1000 by decide)))⟩
/-! judge_tree -/
abbrev N_judge_tree : List Str := ["house", "found", "one", "rows", "first", "last", "least", "late", "other"]
theorem sc_judge_tree : FnScope N_judge_tree ["house"] (defScope s_judge_tree) := ⟨rfl, rfl, rfl, by decide +kernel, rfl, by decide +kernel, by decide +kernel⟩
theorem ok_judge_tree (T : Txt K mg base A a Tb) : FnD P w K mg base 8 A.f_judge_tree (spD (CF K A ns a p Tb).T (CF K A ns a p Tb).Z (CF K A ns a p Tb).B 1 (fM 9 b_judge_tree)) := by
  have nd := sc_judge_tree.nd
  refine fn_ok (c := (CF K A ns a p Tb)) (N := N_judge_tree) (ps := ["house"]) T.d_judge_tree sc_judge_tree rfl rfl fun cdv Ar outer s H E hr => ?_
  exact ⟨_, (dss_cons (ds_expr (de_call (c := CF K A ns a p Tb) (ok_check_house T) hr T.m_check_house (da_cons (de_var 0) da_nil)))
 (dss_cons (ds_set 1 nd (DL'.v (dl_lst da_nil)))
 (dss_cons (ds_for PassesOwn.never rfl (di_seq (by rfl) (de_fld T.cl (by rfl) (de_var 0))) (dg_name 2 nd)
 (dss_cons (ds_set 3 nd (DE.v (de_call (c := CF K A ns a p Tb) (ok_above T) hr T.m_above (da_cons (de_var 0) (da_cons (de_var 2) da_nil)))))
 (dss_cons (ds_for PassesOwn.never rfl (di_comb (by rfl) T.k_combinations (da_cons (de_var 3) (da_cons de_int da_nil))) (dg_tup (by rfl) rfl (dgs_cons (dg_name 4 nd) (dgs_cons (dg_name 5 nd) dgs_nil)))
 (dss_one (ds_if (dt_val (de_call (c := CF K A ns a p Tb) (ok_are_apart T) hr T.m_are_apart (da_cons (de_var 0) (da_cons (de_var 4) (da_cons (de_var 5) da_nil)))))
 (dss_one (ds_ret (de_mk (c := CF K A ns a p Tb) (C := 2) (by rfl) T.M_Fork (ok_Forkdd_initdd T) hr T.m_Fork (da_cons (de_var 2) (da_cons (de_var 4) (da_cons (de_var 5) da_nil))))))
 dss_nil)))
 (dss_cons (ds_setLcE 6 (own := [("late", 7)]) rfl nd (DI.c (di_seq (by rfl) (de_var 3))) (blkOk_by (own := [("late", 7)]) (N := N_judge_tree) (sc := (defScope s_judge_tree)) (scope := (⟨.function, [(".0", .local), ("late", .cell), ("any", .globalImplicit), ("house", .free), ("rows", .free)], false, false, []⟩ : Scope)) (by decide +kernel)) (fun _ _ _ _ _ => (dg_name 7 nd)) (fun _ _ _ _ _ => (dts_one (dt_not (dt_val (de_callB ca_any (rc_any rfl) (by rfl) T.g_any bt_any (da_cons (DL'.de (dl_lc (own := [("other", 8)]) rfl nd (DI.c (di_seq (by rfl) (de_var 3))) (blkOk_by (own := [("other", 8)]) (N := N_judge_tree) (sc := (⟨.function, [(".0", .local), ("late", .cell), ("any", .globalImplicit), ("house", .cell), ("rows", .cell)], false, false, []⟩ : Scope)) (scope := (⟨.function, [(".0", .local), ("other", .local), ("is_below_key", .globalImplicit), ("house", .free), ("late", .free)], false, false, []⟩ : Scope)) (by decide +kernel)) (fun _ _ _ _ _ => (dg_name 8 nd)) (fun _ _ _ _ _ => dts_nil) (fun _ _ _ _ _ => (de_call (c := CF K A ns a p Tb) (ok_is_below_key T) hr T.m_is_below_key (da_cons (de_var 0) (da_cons (de_var 8) (da_cons (de_var 7) da_nil))))))) da_nil)))))) (fun _ _ _ _ _ => (de_var 7)))
 (dss_one (ds_app 1 (de_if (dt_cmp (op_neA hr.units) (rd_ne rfl) (de_var 6) (DL'.de (dl_lst da_nil))) (de_ix (by rfl) (de_var 6) de_int) de_non)))))))
 (dss_one (ds_frz 1 (ds_ret (de_mk (c := CF K A ns a p Tb) (C := 1) (by rfl) T.M_Tree (ok_Treedd_initdd T) hr T.m_Tree (da_cons (de_var 1) da_nil))))))))⟩
/-! Issue.__init__ -/
abbrev N_Issuedd_initdd : List Str := ["self", "some"]
theorem sc_Issuedd_initdd : FnScope N_Issuedd_initdd ["self", "some"] (defScope s_Issuedd_initdd) := ⟨rfl, rfl, rfl, by decide +kernel, rfl, by decide +kernel, by decide +kernel⟩
theorem ok_Issuedd_initdd (T : Txt K mg base A a Tb) : FnD P w K mg base 6 A.f_Issuedd_initdd (spI (CF K A ns a p Tb).T (CF K A ns a p Tb).Z (CF K A ns a p Tb).B 3 1 (iM fdT 2 3 b_Issuedd_initdd)) := by
  have nd := sc_Issuedd_initdd.nd
  refine in_ok (c := (CF K A ns a p Tb)) (N := N_Issuedd_initdd) (ps := ["self", "some"]) T.d_Issuedd_initdd sc_Issuedd_initdd rfl rfl fun x cdv Ar outer s H E hr => ?_
  exact ⟨_, (dss_one (ds_fld 0 3 0 rfl (de_call (c := (CF K A ns a p Tb).sf x) (ok_rowed T 4) hr T.m_rowed (da_cons (de_var 1) da_nil)) T.c_Issue T.n_Issue_some (by rfl) (show ("some" : Str) ∉ (fdT 3).take 0 by decide +kernel) (show (fdT 3).length < 1000 by decide)))⟩
/-! in_house -/
abbrev N_in_house : List Str := ["house", "doors", "door"]
theorem sc_in_house : FnScope N_in_house ["house", "doors"] (defScope s_in_house) := ⟨rfl, rfl, rfl, by decide +kernel, rfl, by decide +kernel, by decide +kernel⟩
theorem ok_in_house (T : Txt K mg base A a Tb) : FnD P w K mg base 2 A.f_in_house (spD (CF K A ns a p Tb).T (CF K A ns a p Tb).Z (CF K A ns a p Tb).B 2 (fM 3 b_in_house)) := by
  have nd := sc_in_house.nd
  refine fn_ok (c := (CF K A ns a p Tb)) (N := N_in_house) (ps := ["house", "doors"]) T.d_in_house sc_in_house rfl rfl fun cdv Ar outer s H E hr => ?_
  exact ⟨_, (dss_one (ds_ret (DL'.de (dl_lc (own := [("door", 2)]) rfl nd (DI.c (di_seq (by rfl) (de_meth0 (c := CF K A ns a p Tb) (C := 0) (by rfl) (de_var 0) T.c_House T.M_House_door_names nf_House_door_names (ok_House_door_names T) hr))) (blkOk_by (own := [("door", 2)]) (N := N_in_house) (sc := (defScope s_in_house)) (scope := (⟨.function, [(".0", .local), ("door", .local), ("doors", .free)], false, false, []⟩ : Scope)) (by decide +kernel)) (fun _ _ _ _ _ => (dg_name 2 nd)) (fun _ _ _ _ _ => (dts_one (dt_cmp (op_inA (hu65 hr)) (rd_in rfl) (de_var 2) (de_var 1)))) (fun _ _ _ _ _ => (de_var 2))))))⟩
/-! least_up_to -/
abbrev N_least_up_to : List Str := ["things", "most", "test", "found", "many", "some", "less", "one"]
theorem sc_least_up_to : FnScope N_least_up_to ["things", "most", "test"] (defScope s_least_up_to) := ⟨rfl, rfl, rfl, by decide +kernel, rfl, by decide +kernel, by decide +kernel⟩
theorem ok_least_up_to (T : Txt K mg base A a Tb) : FnS P w K mg base 10 A.f_least_up_to 3 (spL P w K mg base (CF K A ns a p Tb).T (CF K A ns a p Tb).Z (CF K A ns a p Tb).B (LV + 1) 2 (lM 8 b_least_up_to)) := by
  have nd := sc_least_up_to.nd
  refine fnL_ok (Bm := (CF K A ns a p Tb).Bm) (N := N_least_up_to) (ps := ["things", "most", "test"]) T.d_least_up_to sc_least_up_to rfl rfl fun Hk0 fa F body fr ws g cdv Ar outer s H E hr C R n1 n2 => ?_
  exact ⟨_, (dss_cons (ds_set 3 nd (DL'.v (dl_lst da_nil)))
 (dss_cons (ds_for PassesOwn.never rfl (di_range1 (by rfl) T.g_range (da_cons (de_bin op_addA (rd_add rfl) (de_callB ca_min (rc_min rfl) (by rfl) T.g_min bt_min (da_cons (de_var 1) (da_cons (de_callB call_lenA (rc_len rfl) (by rfl) T.g_len bt_len (da_cons (de_var 0) da_nil)) da_nil))) de_int) da_nil)) (dg_name 4 nd)
 (dss_one (ds_for PassesOwn.never rfl (di_comb (by rfl) T.k_combinations (da_cons (de_var 0) (da_cons (de_var 4) da_nil))) (dg_name 5 nd)
 (dss_one (ds_if (dt_peek 3 (DW.dt (dw_and (dt_not (dt_val (de_callB ca_any (rc_any rfl) (by rfl) T.g_any bt_any (da_cons (DL'.de (dl_lc (own := [("less", 6)]) rfl nd (DI.c (di_seq (by rfl) (de_var 3))) (blkOk_by (own := [("less", 6)]) (N := N_least_up_to) (sc := (defScope s_least_up_to)) (scope := (⟨.function, [(".0", .local), ("less", .local), ("all", .globalImplicit), ("some", .free)], false, false, []⟩ : Scope)) (by decide +kernel)) (fun _ _ _ _ _ => (dg_name 6 nd)) (fun _ _ _ _ _ => dts_nil) (fun _ _ _ _ _ => (de_callB ca_all (rc_all rfl) (by rfl) T.g_all bt_all (da_cons (DL'.de (dl_lc (own := [("one", 7)]) rfl nd (DI.c (di_seq (by rfl) (de_var 6))) (blkOk_by (own := [("one", 7)]) (N := N_least_up_to) (sc := (⟨.function, [(".0", .local), ("less", .local), ("all", .globalImplicit), ("some", .cell)], false, false, []⟩ : Scope)) (scope := (⟨.function, [(".0", .local), ("one", .local), ("some", .free)], false, false, []⟩ : Scope)) (by decide +kernel)) (fun _ _ _ _ _ => (dg_name 7 nd)) (fun _ _ _ _ _ => dts_nil) (fun _ _ _ _ _ => (de_cmp (op_inA (hu65 hr)) (rd_in rfl) (de_var 7) (de_var 5))))) da_nil))))) da_nil)))) (dw_and1 (dt_val (de_test 2 R C n1 n2 hr (de_var 5)))))))
 (dss_one (ds_app 3 (de_var 5)))
 dss_nil)))))
 (dss_one (ds_frz 3 (ds_ret (de_var 3))))))⟩
/-! least_sets -/
abbrev N_least_sets : List Str := ["things", "test"]
theorem sc_least_sets : FnScope N_least_sets ["things", "test"] (defScope s_least_sets) := ⟨rfl, rfl, rfl, by decide +kernel, rfl, by decide +kernel, by decide +kernel⟩
theorem ok_least_sets (T : Txt K mg base A a Tb) : FnS P w K mg base 11 A.f_least_sets 2 (spL P w K mg base (CF K A ns a p Tb).T (CF K A ns a p Tb).Z (CF K A ns a p Tb).B (LV + 1) 1 (lM 2 b_least_sets)) := by
  have nd := sc_least_sets.nd
  refine fnL_ok (Bm := (CF K A ns a p Tb).Bm) (N := N_least_sets) (ps := ["things", "test"]) T.d_least_sets sc_least_sets rfl rfl fun Hk0 fa F body fr ws g cdv Ar outer s H E hr C R n1 n2 => ?_
  exact ⟨_, (dss_one (ds_ret (de_callT 1 (ok_least_up_to T) hr T.m_least_up_to R n1 n2 (dav_cons (de_var 0) (dav_cons (de_callB call_lenA (rc_len rfl) (by rfl) T.g_len bt_len (da_cons (de_var 0) da_nil)) (dav_last C))))))⟩
/-! least_issues -/
abbrev N_least_issues : List Str := ["house", "doors", "good", "wanted", "some", "door"]
theorem sc_least_issues : FnScope N_least_issues ["house", "doors"] (defScope s_least_issues) := ⟨rfl, rfl, rfl, by decide +kernel, rfl, by decide +kernel, by decide +kernel⟩
abbrev N_least_issues_l1 : List Str := ["some", "house", "wanted", "door"]
theorem sl_least_issues_l1 : CScope N_least_issues_l1 ["house", "wanted"] "some" (⟨.function, [("some", .cell), ("house", .free), ("wanted", .free), ("all", .globalImplicit)], false, false, [ (PySem.Str.ofString "fast", (PySem.Const.str "some")), (PySem.Str.ofString "fast", (PySem.Const.str "door")), (PySem.Str.ofString "fast", (PySem.Const.str "house")), (PySem.Str.ofString "fast", (PySem.Const.str "wanted"))]⟩ : Scope) := ⟨rfl, rfl, rfl, by decide +kernel, rfl, rfl, by decide +kernel, by decide +kernel, by decide +kernel⟩
theorem ok_least_issues (T : Txt K mg base A a Tb) : FnD P w K mg base 12 A.f_least_issues (spD (CF K A ns a p Tb).T (CF K A ns a p Tb).Z (CF K A ns a p Tb).B 2 (fM 6 b_least_issues)) := by
  have nd := sc_least_issues.nd
  refine fn_okC (c := (CF K A ns a p Tb)) (N := N_least_issues) (ps := ["house", "doors"]) T.d_least_issues sc_least_issues rfl rfl fun Ar outer s H E hr => ?_
  exact ⟨_, (dss_cons (ds_expr (de_call (c := CF K A ns a p Tb) (ok_check_doors T) hr T.m_check_doors (da_cons (de_var 0) (da_cons (de_var 1) da_nil))))
 (dss_cons (ds_set 3 nd (DE.v (de_call (c := CF K A ns a p Tb) (ok_in_house T) hr T.m_in_house (da_cons (de_var 0) (da_cons (de_var 1) da_nil)))))
 (dss_cons (ds_set 2 nd (DE.v (de_callLamC (X := (cxOf CX0 P w K mg base N_least_issues "least_issues" (defScope s_least_issues) A.f_least_issues (.ref A.cd_least_issues) Ar outer s H E).nox) (c := CF K A ns a p Tb) (kb := LV) (φb := g_least_issues_l1) (ok_least_sets T) hr T.m_least_sets (dal_cons (de_fld T.cl (by rfl) (de_var 0)) (dal_last (X := (cxOf CX0 P w K mg base N_least_issues "least_issues" (defScope s_least_issues) A.f_least_issues (.ref A.cd_least_issues) Ar outer s H E).nox) (js := [0, 3]) (fr := ["house", "wanted"]) T.t_least_issues T.i_least_issues T.q_least_issues T.aT (ndef_fr (sc := defScope s_least_issues) (nsc := (⟨.function, [("some", .cell), ("house", .free), ("wanted", .free), ("all", .globalImplicit)], false, false, [ (PySem.Str.ofString "fast", (PySem.Const.str "some")), (PySem.Str.ofString "fast", (PySem.Const.str "door")), (PySem.Str.ofString "fast", (PySem.Const.str "house")), (PySem.Str.ofString "fast", (PySem.Const.str "wanted"))]⟩ : Scope)) (fr := ["house", "wanted"]) (by decide +kernel)) (ndef_free (sc := defScope s_least_issues) (nsc := (⟨.function, [("some", .cell), ("house", .free), ("wanted", .free), ("all", .globalImplicit)], false, false, [ (PySem.Str.ofString "fast", (PySem.Const.str "some")), (PySem.Str.ofString "fast", (PySem.Const.str "door")), (PySem.Str.ofString "fast", (PySem.Const.str "house")), (PySem.Str.ofString "fast", (PySem.Const.str "wanted"))]⟩ : Scope)) (fr := ["house", "wanted"]) (by decide +kernel)))) sl_least_issues_l1 (fun _ _ => rfl) (fun _ => rfl) rfl (fun _ h => h) (fun c1 f1 Ar1 outer1 s1 H1 E1 hr => ⟨_, (de_callB ca_all (rc_all rfl) (by rfl) T.g_all bt_all (da_cons (DL'.de (dl_lc (own := [("door", 3)]) rfl sl_least_issues_l1.nd (DI.c (di_seq (by rfl) (de_var 2))) (blkOk_by (own := [("door", 3)]) (N := N_least_issues_l1) (sc := (⟨.function, [("some", .cell), ("house", .free), ("wanted", .free), ("all", .globalImplicit)], false, false, [ (PySem.Str.ofString "fast", (PySem.Const.str "some")), (PySem.Str.ofString "fast", (PySem.Const.str "door")), (PySem.Str.ofString "fast", (PySem.Const.str "house")), (PySem.Str.ofString "fast", (PySem.Const.str "wanted"))]⟩ : Scope)) (scope := (⟨.function, [(".0", .local), ("door", .local), ("opens", .globalImplicit), ("house", .free), ("some", .free)], false, false, []⟩ : Scope)) (by decide +kernel)) (fun _ _ _ _ _ => (dg_name 3 sl_least_issues_l1.nd)) (fun _ _ _ _ _ => dts_nil) (fun _ _ _ _ _ => (de_call (c := CF K A ns a p Tb) (ok_opens T) hr T.m_opens (da_cons (de_var 1) (da_cons (de_var 3) (da_cons (de_var 0) da_nil))))))) da_nil))⟩) (fun _ _ _ _ _ us hl => match us, hl with | [_], _ => rfl))))
 (dss_one (ds_ret (DL'.de (dl_lc (own := [("some", 4)]) rfl nd (DI.c (di_seq (by rfl) (de_var 2))) (blkOk_by (own := [("some", 4)]) (N := N_least_issues) (sc := (defScope s_least_issues)) (scope := (⟨.function, [(".0", .local), ("some", .local), ("doors_of", .globalImplicit), ("house", .free), ("wanted", .free)], false, false, []⟩ : Scope)) (by decide +kernel)) (fun _ _ _ _ _ => (dg_name 4 nd)) (fun _ _ _ _ _ => (dts_one (dt_cmp (op_eqA hr.units) (rd_eq rfl) (de_call (c := CF K A ns a p Tb) (ok_doors_of T) hr T.m_doors_of (da_cons (de_var 0) (da_cons (de_var 4) da_nil))) (de_var 3)))) (fun _ _ _ _ _ => (de_var 4)))))))))⟩
/-! judge_issue -/
abbrev N_judge_issue : List Str := ["house", "doors", "found", "rows", "some", "door"]
theorem sc_judge_issue : FnScope N_judge_issue ["house", "doors"] (defScope s_judge_issue) := ⟨rfl, rfl, rfl, by decide +kernel, rfl, by decide +kernel, by decide +kernel⟩
theorem ok_judge_issue (T : Txt K mg base A a Tb) : FnD P w K mg base 13 A.f_judge_issue (spD (CF K A ns a p Tb).T (CF K A ns a p Tb).Z (CF K A ns a p Tb).B 2 (fM 6 b_judge_issue)) := by
  have nd := sc_judge_issue.nd
  refine fn_ok (c := (CF K A ns a p Tb)) (N := N_judge_issue) (ps := ["house", "doors"]) T.d_judge_issue sc_judge_issue rfl rfl fun cdv Ar outer s H E hr => ?_
  exact ⟨_, (dss_cons (ds_expr (de_call (c := CF K A ns a p Tb) (ok_check_doors T) hr T.m_check_doors (da_cons (de_var 0) (da_cons (de_var 1) da_nil))))
 (dss_cons (ds_set 2 nd (DE.v (de_call (c := CF K A ns a p Tb) (ok_least_issues T) hr T.m_least_issues (da_cons (de_var 0) (da_cons (de_var 1) da_nil)))))
 (dss_cons (ds_if (dt_cmp (op_neA hr.units) (rd_ne rfl) (de_var 2) (DL'.de (dl_lst da_nil)))
 (dss_one (ds_ret (de_mk (c := CF K A ns a p Tb) (C := 3) (by rfl) T.M_Issue (ok_Issuedd_initdd T) hr T.m_Issue (da_cons (de_ix (by rfl) (de_var 2) de_int) da_nil))))
 dss_nil)
 dss_never)))⟩
/-! law -/
abbrev N_law : List Str := ["script", "draw", "spec", "house", "ring", "names", "one", "rows", "other", "late", "same", "chain", "early", "paper", "parent", "less", "wanted"]
theorem sc_law : FnScope N_law ["script"] (defScope s_law) := ⟨rfl, rfl, rfl, by decide +kernel, rfl, by decide +kernel, by decide +kernel⟩
theorem ok_law (hKT : ∀ q ∈ Tb, K.lookup q.1 = none) (TT : ∀ a : Addr, a ∉ Tb.map (·.1) → Txt K mg base A a Tb) {fd : FuncData} (Fd : Fun K "law" "law" s_law A.f_law fd) : FnOk P w K mg base CX0 14 A.f_law fd ["script"] (spLaw K Tb 17 b_law) := by
  have nd := sc_law.nd
  refine law_ok (ad := adT A) (fd := fdT) (N := N_law) Fd sc_law rfl rfl (by decide) hKT (fun cdv Ar outer s H E => ?_) fun ns a p aT cdv Ar outer s H E hr => ?_
  · exact ps_set (i := 1) nd rfl (by first | exact Or.inl rfl | exact Or.inr rfl) (pe_lst (pa_cons (pe_var (i := 0) rfl (by first | exact Or.inl rfl | exact Or.inr (Or.inl rfl) | exact Or.inr (Or.inr rfl)) (by decide) (by decide)) (pa_cons pe_int pa_nil)))
  have T := TT a aT
  exact ⟨_, (dss_cons (ds_set 2 nd (DE.v (de_call (c := CF K A ns a p Tb) (ok__law_drawn_house T) hr T.m__law_drawn_house (da_cons (de_var 1) (da_cons (de_bin op_addA (rd_add rfl) de_int (de_call (c := CF K A ns a p Tb) (ok__law_take T) hr T.m__law_take (da_cons (de_var 1) (da_cons de_int da_nil)))) da_nil)))))
 (dss_cons (ds_asg (de_tup (da_cons (de_call (c := CF K A ns a p Tb) (ok__law_house T) hr T.m__law_house (da_cons (de_var 2) da_nil)) (da_cons (de_get (hu_of hr) (de_var 2) de_str) (da_cons (de_call (c := CF K A ns a p Tb) (ok__law_door_names T) hr T.m__law_door_names (da_cons (de_var 2) da_nil)) da_nil)))) (dg_tup (by rfl) rfl (dgs_cons (dg_name 3 nd) (dgs_cons (dg_name 4 nd) (dgs_cons (dg_name 5 nd) dgs_nil)))))
 (dss_cons (ds_set 7 nd (DE.v (DK.de (dk_dict (by rfl) rfl (by rfl) T.g_dict (da_cons (DL'.de (dl_lc (own := [("one", 6)]) rfl nd (DI.c (di_seq (by rfl) (de_var 4))) (blkOk_by (own := [("one", 6)]) (N := N_law) (sc := (defScope s_law)) (scope := (⟨.function, [(".0", .local), ("one", .local), ("list", .globalImplicit), ("above", .globalImplicit), ("house", .free)], false, false, []⟩ : Scope)) (by decide +kernel)) (fun _ _ _ _ _ => (dg_name 6 nd)) (fun _ _ _ _ _ => dts_nil) (fun _ _ _ _ _ => (de_tup (da_cons (de_var 6) (da_cons (DL'.de (dl_callTy ca_list (rc_list rfl) (by rfl) T.g_list bt_list (da_cons (de_call (c := CF K A ns a p Tb) (ok_above T) hr T.m_above (da_cons (de_var 3) (da_cons (de_var 6) da_nil))) da_nil))) da_nil)))))) da_nil)))))
 (dss_cons (ds_for PassesOwn.never rfl (di_seq (by rfl) (de_var 4)) (dg_name 6 nd)
 (dss_cons (ds_if (DW.dt (dw_or (dt_cmp (op_inA (hu65 hr)) (rd_in rfl) (de_var 6) (de_get (hu_of hr) (de_var 7) (de_var 6))) (dw_or1 (dt_val (de_callB ca_any (rc_any rfl) (by rfl) T.g_any bt_any (da_cons (DL'.de (dl_lc (own := [("other", 8)]) rfl nd (DI.c (di_seq (by rfl) (de_get (hu_of hr) (de_var 7) (de_var 6)))) (blkOk_by (own := [("other", 8)]) (N := N_law) (sc := (defScope s_law)) (scope := (⟨.function, [(".0", .local), ("other", .local), ("one", .free), ("rows", .free)], false, false, []⟩ : Scope)) (by decide +kernel)) (fun _ _ _ _ _ => (dg_name 8 nd)) (fun _ _ _ _ _ => dts_nil) (fun _ _ _ _ _ => (de_cmp (op_inA (hu65 hr)) (rd_in rfl) (de_var 6) (de_get (hu_of hr) (de_var 7) (de_var 8)))))) da_nil))))))
 (dss_one (ds_ret de_bl))
 dss_nil)
 (dss_cons (ds_for PassesOwn.never rfl (di_seq (by rfl) (de_get (hu_of hr) (de_var 7) (de_var 6))) (dg_name 8 nd)
 (dss_one (ds_if (DW.dt (dw_or (dt_not (dt_val (de_callB ca_all (rc_all rfl) (by rfl) T.g_all bt_all (da_cons (DL'.de (dl_lc (own := [("late", 9)]) rfl nd (DI.c (di_seq (by rfl) (de_get (hu_of hr) (de_var 7) (de_var 8)))) (blkOk_by (own := [("late", 9)]) (N := N_law) (sc := (defScope s_law)) (scope := (⟨.function, [(".0", .local), ("late", .local), ("one", .free), ("rows", .free)], false, false, []⟩ : Scope)) (by decide +kernel)) (fun _ _ _ _ _ => (dg_name 9 nd)) (fun _ _ _ _ _ => dts_nil) (fun _ _ _ _ _ => (de_cmp (op_inA (hu65 hr)) (rd_in rfl) (de_var 9) (de_get (hu_of hr) (de_var 7) (de_var 6)))))) da_nil)))) (dw_or (dt_not (dt_val (de_call (c := CF K A ns a p Tb) (ok_is_below_key T) hr T.m_is_below_key (da_cons (de_var 3) (da_cons (de_var 6) (da_cons (de_var 8) da_nil)))))) (dw_or1 (dt_cmp op_le rd_le (de_callB call_lenA (rc_len rfl) (by rfl) T.g_len bt_len (da_cons (de_call (c := CF K A ns a p Tb) (ok_doors_of T) hr T.m_doors_of (da_cons (de_var 3) (da_cons (DL'.de (dl_lst (da_cons (de_var 8) da_nil))) da_nil))) da_nil)) (de_callB call_lenA (rc_len rfl) (by rfl) T.g_len bt_len (da_cons (de_call (c := CF K A ns a p Tb) (ok_doors_of T) hr T.m_doors_of (da_cons (de_var 3) (da_cons (DL'.de (dl_lst (da_cons (de_var 6) da_nil))) da_nil))) da_nil)))))))
 (dss_one (ds_ret de_bl))
 dss_nil)))
 (dss_cons (ds_set 10 nd (DE.v (DL'.de (dl_lc (own := [("other", 8)]) rfl nd (DI.c (di_seq (by rfl) (de_var 4))) (blkOk_by (own := [("other", 8)]) (N := N_law) (sc := (defScope s_law)) (scope := (⟨.function, [(".0", .local), ("other", .local), ("doors_of", .globalImplicit), ("house", .free), ("one", .free)], false, false, []⟩ : Scope)) (by decide +kernel)) (fun _ _ _ _ _ => (dg_name 8 nd)) (fun _ _ _ _ _ => (dts_one (dt_cmp (op_eqA hr.units) (rd_eq rfl) (de_call (c := CF K A ns a p Tb) (ok_doors_of T) hr T.m_doors_of (da_cons (de_var 3) (da_cons (DL'.de (dl_lst (da_cons (de_var 8) da_nil))) da_nil))) (de_call (c := CF K A ns a p Tb) (ok_doors_of T) hr T.m_doors_of (da_cons (de_var 3) (da_cons (DL'.de (dl_lst (da_cons (de_var 6) da_nil))) da_nil)))))) (fun _ _ _ _ _ => (de_var 8))))))
 (dss_cons (ds_if (DW.dt (dw_or (dt_val (de_callB ca_any (rc_any rfl) (by rfl) T.g_any bt_any (da_cons (DL'.de (dl_lc (own := [("other", 8)]) rfl nd (DI.c (di_seq (by rfl) (de_var 10))) (blkOk_by (own := [("other", 8)]) (N := N_law) (sc := (defScope s_law)) (scope := (⟨.function, [(".0", .local), ("other", .local), ("one", .free), ("rows", .free)], false, false, []⟩ : Scope)) (by decide +kernel)) (fun _ _ _ _ _ => (dg_name 8 nd)) (fun _ _ _ _ _ => dts_nil) (fun _ _ _ _ _ => (de_cmp (op_neA hr.units) (rd_ne rfl) (de_get (hu_of hr) (de_var 7) (de_var 8)) (de_get (hu_of hr) (de_var 7) (de_var 6)))))) da_nil))) (dw_or1 (dt_val (de_callB ca_any (rc_any rfl) (by rfl) T.g_any bt_any (da_cons (DL'.de (dl_lc (own := [("other", 8)]) rfl nd (DI.c (di_seq (by rfl) (de_var 4))) (blkOk_by (own := [("other", 8)]) (N := N_law) (sc := (defScope s_law)) (scope := (⟨.function, [(".0", .local), ("other", .local), ("alike_keys", .globalImplicit), ("house", .free), ("one", .free), ("same", .free)], false, false, []⟩ : Scope)) (by decide +kernel)) (fun _ _ _ _ _ => (dg_name 8 nd)) (fun _ _ _ _ _ => dts_nil) (fun _ _ _ _ _ => (de_and (de_call (c := CF K A ns a p Tb) (ok_alike_keys T) hr T.m_alike_keys (da_cons (de_var 3) (da_cons (de_var 6) (da_cons (de_var 8) da_nil)))) (de_one (de_cmp (op_notInA (hu65 hr)) (rd_notIn rfl) (de_var 8) (de_var 10))))))) da_nil))))))
 (dss_one (ds_ret de_bl))
 dss_nil)
 (dss_one (ds_if (DW.dt (dw_or (DW.dt (dw_and (dt_cmp (op_eqA hr.units) (rd_eq rfl) (de_get (hu_of hr) (de_var 7) (de_var 6)) (DL'.de (dl_lst da_nil))) (dw_and1 (dt_cmp (op_notInA (hu65 hr)) (rd_notIn rfl) (de_var 6) (de_call (c := CF K A ns a p Tb) (ok_tops T) hr T.m_tops (da_cons (de_var 3) da_nil)))))) (dw_or1 (DW.dt (dw_and (dt_cmp (op_neA hr.units) (rd_ne rfl) (de_get (hu_of hr) (de_var 7) (de_var 6)) (DL'.de (dl_lst da_nil))) (dw_and1 (dt_not (dt_val (de_callB ca_any (rc_any rfl) (by rfl) T.g_any bt_any (da_cons (DL'.de (dl_lc (own := [("other", 8)]) rfl nd (DI.c (di_seq (by rfl) (de_get (hu_of hr) (de_var 7) (de_var 6)))) (blkOk_by (own := [("other", 8)]) (N := N_law) (sc := (defScope s_law)) (scope := (⟨.function, [(".0", .local), ("other", .local), ("tops", .globalImplicit), ("house", .free)], false, false, []⟩ : Scope)) (by decide +kernel)) (fun _ _ _ _ _ => (dg_name 8 nd)) (fun _ _ _ _ _ => dts_nil) (fun _ _ _ _ _ => (de_cmp (op_inA (hu65 hr)) (rd_in rfl) (de_var 8) (de_call (c := CF K A ns a p Tb) (ok_tops T) hr T.m_tops (da_cons (de_var 3) da_nil)))))) da_nil))))))))))
 (dss_one (ds_ret de_bl))
 dss_nil)))))))
 (dss_cons (ds_set 11 nd (DE.v (de_call (c := CF K A ns a p Tb) (ok_longest_chain T) hr T.m_longest_chain (da_cons (de_var 3) da_nil))))
 (dss_cons (ds_for PassesOwn.never rfl (di_seq (by rfl) (DL'.de (dl_listZip (by rfl) T.g_list T.g_zip (da_cons (de_var 11) (da_cons (de_cut (by rfl) (de_var 11) (dp_some de_int) dp_none) da_nil))))) (dg_tup (by rfl) rfl (dgs_cons (dg_name 12 nd) (dgs_cons (dg_name 9 nd) dgs_nil)))
 (dss_one (ds_if (dt_cmp (op_notInA (hu65 hr)) (rd_notIn rfl) (de_var 9) (de_get (hu_of hr) (de_var 7) (de_var 12)))
 (dss_one (ds_ret de_bl))
 dss_nil)))
 (dss_cons (ds_if (DW.dt (dw_or (dt_cmp (op_notInA (hu65 hr)) (rd_notIn rfl) (de_ix (by rfl) (de_var 11) (de_neg de_int)) (de_call (c := CF K A ns a p Tb) (ok_tops T) hr T.m_tops (da_cons (de_var 3) da_nil))) (dw_or (dt_val (de_callB ca_any (rc_any rfl) (by rfl) T.g_any bt_any (da_cons (DL'.de (dl_lc (own := [("one", 6)]) rfl nd (DI.c (di_seq (by rfl) (de_var 4))) (blkOk_by (own := [("one", 6)]) (N := N_law) (sc := (defScope s_law)) (scope := (⟨.function, [(".0", .local), ("one", .local), ("chain", .free), ("rows", .free)], false, false, []⟩ : Scope)) (by decide +kernel)) (fun _ _ _ _ _ => (dg_name 6 nd)) (fun _ _ _ _ _ => dts_nil) (fun _ _ _ _ _ => (de_cmp (op_inA (hu65 hr)) (rd_in rfl) (de_ix (by rfl) (de_var 11) de_int) (de_get (hu_of hr) (de_var 7) (de_var 6)))))) da_nil))) (dw_or1 (dt_cmp op_gt rd_gt (de_callB call_lenA (rc_len rfl) (by rfl) T.g_len bt_len (da_cons (de_var 11) da_nil)) (de_bin op_addA (rd_add rfl) (de_callB call_lenA (rc_len rfl) (by rfl) T.g_len bt_len (da_cons (de_var 5) da_nil)) de_int))))))
 (dss_one (ds_ret de_bl))
 dss_nil)
 (dss_cons (ds_if (DW.dt (dw_or (DW.dt (dw_and (dt_cmp (op_neA hr.units) (rd_ne rfl) (de_call (c := CF K A ns a p Tb) (ok_masters T) hr T.m_masters (da_cons (de_var 3) da_nil)) (DL'.de (dl_lst da_nil))) (dw_and1 (dt_cmp (op_neA hr.units) (rd_ne rfl) (DL'.de (dl_callB cr_sortedS rc_sorted (by rfl) T.g_sorted bt_sorted (da_cons (de_call (c := CF K A ns a p Tb) (ok_tops T) hr T.m_tops (da_cons (de_var 3) da_nil)) da_nil))) (DL'.de (dl_callB cr_sortedS rc_sorted (by rfl) T.g_sorted bt_sorted (da_cons (de_call (c := CF K A ns a p Tb) (ok_masters T) hr T.m_masters (da_cons (de_var 3) da_nil)) da_nil))))))) (dw_or1 (dt_cmp (op_notInA (hu65 hr)) (rd_notIn rfl) (de_call (c := CF K A ns a p Tb) (ok_worst_loss T) hr T.m_worst_loss (da_cons (de_var 3) da_nil)) (de_call (c := CF K A ns a p Tb) (ok_tops T) hr T.m_tops (da_cons (de_var 3) da_nil))))))
 (dss_one (ds_ret de_bl))
 dss_nil)
 (dss_cons (ds_set 13 nd (DE.v (de_call (c := CF K A ns a p Tb) (ok_judge_tree T) hr T.m_judge_tree (da_cons (de_var 3) da_nil))))
 (dss_cons (ds_if (dt_truth (T.tru hr T.bl) (de_var 13))
 (dss_one (ds_for PassesOwn.never rfl (di_seq (by rfl) (DL'.de (dl_listZip (by rfl) T.g_list T.g_zip (da_cons (de_var 4) (da_cons (de_fld T.cl (by rfl) (de_var 13)) da_nil))))) (dg_tup (by rfl) rfl (dgs_cons (dg_name 6 nd) (dgs_cons (dg_name 14 nd) dgs_nil)))
 (dss_cons (ds_if (dt_cmp (op_neA hr.units) (rd_ne rfl) (de_cmp op_isN rd_isN (de_var 14) de_non) (de_cmp (op_eqA hr.units) (rd_eq rfl) (de_get (hu_of hr) (de_var 7) (de_var 6)) (DL'.de (dl_lst da_nil))))
 (dss_one (ds_ret de_bl))
 dss_nil)
 (dss_one (ds_if (DW.dt (dw_and (dt_cmp op_notN rd_notN (de_var 14) de_non) (dw_and1 (DW.dt (dw_or (dt_cmp (op_notInA (hu65 hr)) (rd_notIn rfl) (de_var 14) (de_get (hu_of hr) (de_var 7) (de_var 6))) (dw_or1 (dt_val (de_callB ca_any (rc_any rfl) (by rfl) T.g_any bt_any (da_cons (DL'.de (dl_lc (own := [("other", 8)]) rfl nd (DI.c (di_seq (by rfl) (de_get (hu_of hr) (de_var 7) (de_var 6)))) (blkOk_by (own := [("other", 8)]) (N := N_law) (sc := (defScope s_law)) (scope := (⟨.function, [(".0", .local), ("other", .local), ("doors_of", .globalImplicit), ("house", .free), ("parent", .free), ("rows", .free)], false, false, []⟩ : Scope)) (by decide +kernel)) (fun _ _ _ _ _ => (dg_name 8 nd)) (fun _ _ _ _ _ => dts_nil) (fun _ _ _ _ _ => (de_and (de_cmp (op_notInA (hu65 hr)) (rd_notIn rfl) (de_var 8) (de_get (hu_of hr) (de_var 7) (de_var 14))) (de_one (de_cmp (op_neA hr.units) (rd_ne rfl) (de_call (c := CF K A ns a p Tb) (ok_doors_of T) hr T.m_doors_of (da_cons (de_var 3) (da_cons (DL'.de (dl_lst (da_cons (de_var 8) da_nil))) da_nil))) (de_call (c := CF K A ns a p Tb) (ok_doors_of T) hr T.m_doors_of (da_cons (de_var 3) (da_cons (DL'.de (dl_lst (da_cons (de_var 14) da_nil))) da_nil))))))))) da_nil)))))))))
 (dss_one (ds_ret de_bl))
 dss_nil)))))
 dss_nil)
 (dss_cons (ds_if (DW.dt (dw_and (dt_not (dt_truth (T.tru hr T.bl) (de_var 13))) (dw_and1 (DW.dt (dw_or (dt_cmp (op_notInA (hu65 hr)) (rd_notIn rfl) (de_fld T.cl (by rfl) (de_var 13)) (de_get (hu_of hr) (de_var 7) (de_fld T.cl (by rfl) (de_var 13)))) (dw_or (dt_cmp (op_notInA (hu65 hr)) (rd_notIn rfl) (de_fld T.cl (by rfl) (de_var 13)) (de_get (hu_of hr) (de_var 7) (de_fld T.cl (by rfl) (de_var 13)))) (dw_or (dt_cmp (op_inA (hu65 hr)) (rd_in rfl) (de_fld T.cl (by rfl) (de_var 13)) (de_get (hu_of hr) (de_var 7) (de_fld T.cl (by rfl) (de_var 13)))) (dw_or1 (dt_cmp (op_inA (hu65 hr)) (rd_in rfl) (de_fld T.cl (by rfl) (de_var 13)) (de_get (hu_of hr) (de_var 7) (de_fld T.cl (by rfl) (de_var 13))))))))))))
 (dss_one (ds_ret de_bl))
 dss_nil)
 (dss_cons (ds_if (dt_cmp op_gt rd_gt (de_callB call_lenA (rc_len rfl) (by rfl) T.g_len bt_len (da_cons (de_get (hu_of hr) (de_var 2) de_str) da_nil)) de_int)
 (dss_cons (ds_set 15 nd (DE.v (de_mk (c := CF K A ns a p Tb) (C := 0) (by rfl) T.M_House (ok_Housedd_initdd T) hr T.m_House (da_cons (de_var 4) (da_cons (de_get (hu_of hr) (de_var 2) de_str) (da_cons (de_cut (by rfl) (de_get (hu_of hr) (de_var 2) de_str) dp_none (dp_some (de_neg de_int))) da_nil))))))
 (dss_one (ds_for PassesOwn.never rfl (di_seq (by rfl) (de_var 4)) (dg_name 6 nd)
 (dss_one (ds_for PassesOwn.never rfl (di_seq (by rfl) (de_get (hu_of hr) (de_var 7) (de_var 6))) (dg_name 8 nd)
 (dss_one (ds_if (DW.dt (dw_and (dt_cmp (op_notInA (hu65 hr)) (rd_notIn rfl) (de_var 8) (de_call (c := CF K A ns a p Tb) (ok_above T) hr T.m_above (da_cons (de_var 15) (da_cons (de_var 6) da_nil)))) (dw_and1 (dt_cmp (op_neA hr.units) (rd_ne rfl) (de_call (c := CF K A ns a p Tb) (ok_doors_of T) hr T.m_doors_of (da_cons (de_var 15) (da_cons (DL'.de (dl_lst (da_cons (de_var 8) da_nil))) da_nil))) (de_call (c := CF K A ns a p Tb) (ok_doors_of T) hr T.m_doors_of (da_cons (de_var 15) (da_cons (DL'.de (dl_lst (da_cons (de_var 6) da_nil))) da_nil)))))))
 (dss_one (ds_ret de_bl))
 dss_nil)))))))
 dss_nil)
 (dss_cons (ds_set 6 nd (DE.v (de_call (c := CF K A ns a p Tb) (ok__law_pick T) hr T.m__law_pick (da_cons (de_var 1) (da_cons (de_var 4) da_nil)))))
 (dss_cons (ds_set 16 nd (DE.v (DL'.de (dl_callTy ca_list (rc_list rfl) (by rfl) T.g_list bt_list (da_cons (de_call (c := CF K A ns a p Tb) (ok_doors_of T) hr T.m_doors_of (da_cons (de_var 3) (da_cons (DL'.de (dl_lst (da_cons (de_var 6) da_nil))) da_nil))) da_nil)))))
 (dss_one (ds_ret (de_and (de_boolI (by rfl) T.bl hr (by rfl) T.g_bool (de_call (c := CF K A ns a p Tb) (ok_judge_issue T) hr T.m_judge_issue (da_cons (de_var 3) (da_cons (de_var 16) da_nil)))) (de_and (de_cmp (op_eqA hr.units) (rd_eq rfl) (DL'.de (dl_callTy ca_list (rc_list rfl) (by rfl) T.g_list bt_list (da_cons (de_call (c := CF K A ns a p Tb) (ok_exposed T) hr T.m_exposed (da_cons (de_var 3) (da_cons (DL'.de (dl_lst (da_cons (de_var 6) da_nil))) da_nil))) da_nil))) (de_var 16)) (de_one (de_cmp op_le rd_le (de_callB call_lenA (rc_len rfl) (by rfl) T.g_len bt_len (da_cons (de_fld T.cl (by rfl) (de_call (c := CF K A ns a p Tb) (ok_judge_issue T) hr T.m_judge_issue (da_cons (de_var 3) (da_cons (de_var 16) da_nil)))) da_nil)) de_int))))))))))))))))))))⟩
end
end K82
namespace K82
open PySem PySem.Spec PyProof.Rows L2 Evl DL NdefX PL Comb
/-! ### houses as data -/
abbrev NMs := List (Str × List Str)
def pairE (p : Str × List Str) : D := .tup [.str p.1, .tup (sts p.2)]
def rgD : Bool → List D → D
  | true, l => .pt l
  | false, l => .tup l
@[simp] theorem nrm_rg (b : Bool) (l : List D) : nrm (rgD b l) = .tup l := by cases b <;> rfl
def hD (b : Bool) (h : Hs Str) : D := .ins cHouse [rgD b (sts h.ring), .pt (h.locks.map pairE), .pt (h.doors.map pairE)]
structure Bnd (h : Hs Str) : Prop where
  wf : h.WF
  r1 : 1 ≤ h.ring.length
  r8 : h.ring.length ≤ 8
  l8 : h.locks.length ≤ 8
  d8 : h.doors.length ≤ 8
  rs : ∀ x ∈ h.ring, Sok x
  ls : ∀ x ∈ names h.locks, Sok x
  ds : ∀ x ∈ names h.doors, Sok x
section
variable {b : Bool} {h : Hs Str} {w : W0}
@[simp] theorem f_ring : fldD NC fdT "ring" (hD b h) = some (.tup (sts h.ring)) := by
  unfold hD fldD; cases b <;> rfl
@[simp] theorem f_locks : fldD NC fdT "locks" (hD b h) = some (.tup (h.locks.map pairE)) := by
  unfold hD fldD; cases b <;> rfl
@[simp] theorem f_doors : fldD NC fdT "doors" (hD b h) = some (.tup (h.doors.map pairE)) := by
  unfold hD fldD; cases b <;> rfl
@[simp] theorem p_locks : fldP NC fdT "locks" (hD b h) = some (.pt (h.locks.map pairE)) := by
  unfold hD fldP; cases b <;> rfl
@[simp] theorem p_doors : fldP NC fdT "doors" (hD b h) = some (.pt (h.doors.map pairE)) := by
  unfold hD fldP; cases b <;> rfl
@[simp] theorem ins_hD : insOf cHouse (hD b h) = some [rgD b (sts h.ring), .pt (h.locks.map pairE), .pt (h.doors.map pairE)] := by unfold hD; simp
theorem hD_fold : (.ins cHouse [rgD b (sts h.ring), .pt (h.locks.map pairE), .pt (h.doors.map pairE)] : D) = hD b h := rfl
@[simp] theorem m_is_row_l {l : List D} : fM 1 b_is_row [.lst l] w = some (.bl true, w) := rfl
@[simp] theorem m_is_row_t {l : List D} : fM 1 b_is_row [.tup l] w = some (.bl true, w) := rfl
theorem m_is_row {d : D} {s : List Str} (r : Row d s) : fM 1 b_is_row [d] w = some (.bl true, w) := by cases r <;> rfl
@[simp] theorem m_check_house : fM 1 b_check_house [hD b h] w = some (.non, w) := by cases b <;> rfl
theorem m_check_keys {d : D} {s : List Str} (r : Row d s) (hs : ∀ k ∈ s, k ∈ h.ring) (hl : s.length ≤ 1000) : fM 3 b_check_keys [hD b h, d] w = some (.non, w) := by
  have q : lLc [2] (iSeq (eVar 1)) (gmName 2) tYesM (eAnd (eUn is_str (eVar 2)) (eOp fIn (eVar 2) (eUn (fldD NC fdT "ring") (eVar 0)))) [.val (hD b h), .val d, .un] w = some (s.map fun _ => .bl true, w) := by
    refine lLc_all D.str _ s ?_ (le_line hl) fun k hk => ⟨_, rfl, rfl, ?_⟩
    · simp [r.seq]
    · simp [hs k hk]
  show ((b_check_keys [.val (hD b h), .val d, .un] w).bind _) = _
  unfold b_check_keys
  simp [m_is_row r, q]
@[simp] theorem m_door_names (h8 : h.doors.length ≤ 8) : fM 3 b_House_door_names [hD b h] w = some (.lst (sts (names h.doors)), w) := by
  have q : lLc [1, 2] (iSeq (eUn (fldD NC fdT "doors") (eVar 0))) (gmTup 2 (gmCons (gmName 1) (gmCons (gmName 2) gmNil))) tYesM (eVar 1) [.val (hD b h), .un, .un] w = some (h.doors.map fun p => .str p.1, w) := by
    refine lLc_all pairE _ h.doors ?_ (le_line (by omega)) fun p hp => ⟨_, by unfold pairE; simp; rfl, rfl, ?_⟩
    · simp
    · simp
  show ((b_House_door_names [.val (hD b h), .un, .un] w).bind _) = _
  unfold b_House_door_names
  simp [q, names]
@[simp] theorem m_lock_names (h8 : h.locks.length ≤ 8) : fM 3 b_House_lock_names [hD b h] w = some (.lst (sts (names h.locks)), w) := by
  have q : lLc [1, 2] (iSeq (eUn (fldD NC fdT "locks") (eVar 0))) (gmTup 2 (gmCons (gmName 1) (gmCons (gmName 2) gmNil))) tYesM (eVar 1) [.val (hD b h), .un, .un] w = some (h.locks.map fun p => .str p.1, w) := by
    refine lLc_all pairE _ h.locks ?_ (le_line (by omega)) fun p hp => ⟨_, by unfold pairE; simp; rfl, rfl, ?_⟩
    · simp
    · simp
  show ((b_House_lock_names [.val (hD b h), .un, .un] w).bind _) = _
  unfold b_House_lock_names
  simp [q, names]
theorem m_check_doors (B : Bnd h) {d : D} {s : List Str} (r : Row d s) (hs : ∀ k ∈ s, k ∈ names h.doors) (hl : s.length ≤ 1000) : fM 3 b_check_doors [hD b h, d] w = some (.non, w) := by
  have q : lLc [2] (iSeq (eVar 1)) (gmName 2) tYesM (eAnd (eUn is_str (eVar 2)) (eOp fIn (eVar 2) (eMeth cHouse 0 (fM 3 b_House_door_names) (eVar 0) aNil))) [.val (hD b h), .val d, .un] w = some (s.map fun _ => .bl true, w) := by
    refine lLc_all D.str _ s ?_ (le_line hl) fun k hk => ⟨_, rfl, rfl, ?_⟩
    · simp [r.seq]
    · simp [hs k hk, hD_fold, m_door_names B.d8]
  show ((b_check_doors [.val (hD b h), .val d, .un] w).bind _) = _
  unfold b_check_doors
  simp [m_is_row r, q]
theorem pairsD_map : ∀ l : NMs, pairsD (l.map pairE) = some (l.map fun p => (.inr p.1, .tup (sts p.2)))
  | [] => rfl
  | p :: l => by
    rw [List.map_cons]
    show ((keyD (.str p.1)).bind fun k => (pairsD (l.map pairE)).map fun r => (k, .tup (sts p.2)) :: r) = _
    rw [pairsD_map l]; rfl
theorem kDict_pt {l : NMs} (hn : (names l).Nodup) : kDict [.pt (l.map pairE)] = some (l.map fun p => .inr p.1, l.map fun p => .tup (sts p.2)) := by
  show (pairsD _).map _ = _
  rw [pairsD_map]
  show some (mrgD _ _) = _
  rw [mrgD_nodup (by rw [List.map_map]; exact hn.map (Sum.inr (α := Int)) (fun a b e h => e (Sum.inr.inj h)) |> fun z => by simpa [names, List.map_map, Function.comp_def, List.Nodup] using z)]
  simp [List.map_map, Function.comp_def]
theorem look_find {l : NMs} {n : Str} (h : n ∈ names l) : lookD (l.map fun p => .inr p.1) (l.map fun p => .tup (sts p.2)) (.inr n) = some (.tup (sts (look l n))) := by
  rw [lookD_map (fun p : Str × List Str => (Sum.inr p.1 : Key)) (fun p => D.tup (sts p.2))]
  unfold look
  have e : (fun p : Str × List Str => decide ((Sum.inr p.1 : Key) = Sum.inr n)) = fun p => decide (p.1 = n) := by
    funext p
    rw [decide_eq_decide]
    exact ⟨fun z => Sum.inr.inj z, fun z => by rw [z]⟩
  rw [e]
  cases q : l.find? fun p => decide (p.1 = n) with
  | none =>
    obtain ⟨p, hp, e⟩ := List.mem_map.mp h
    have := List.find?_eq_none.mp q p hp
    simp [e] at this
  | some p => rfl
theorem m_locks_of (B : Bnd h) {d : Str} (hd : d ∈ names h.doors) : fM 2 b_House_locks_of [hD b h, .str d] w = some (.tup (sts (look h.doors d)), w) := by
  show ((b_House_locks_of [.val (hD b h), .val (.str d)] w).bind _) = _
  unfold b_House_locks_of
  simp [hD_fold, m_door_names B.d8, hd, kDict_pt B.wf.dn, look_find hd]
theorem m_openers (B : Bnd h) {d : Str} (hd : d ∈ names h.locks) : fM 2 b_House_openers [hD b h, .str d] w = some (.tup (sts (look h.locks d)), w) := by
  show ((b_House_openers [.val (hD b h), .val (.str d)] w).bind _) = _
  unfold b_House_openers
  simp [hD_fold, m_lock_names B.l8, hd, kDict_pt B.wf.ln, look_find hd]
theorem m_door_locks (B : Bnd h) {d : Str} (hd : d ∈ names h.doors) {e : D} {s : List Str} (r : Row e s) (hs : ∀ k ∈ s, k ∈ h.ring) (hl : s.length ≤ 1000) : fM 4 b_door_locks [hD b h, .str d, e] w = some (.tup (sts (look h.doors d)), w) := by
  have q := m_check_doors (b := b) (w := w) B (Row.l []) (fun k h => by simp at h) (by simp)
  show ((b_door_locks [.val (hD b h), .val (.str d), .val e, .un] w).bind _) = _
  unfold b_door_locks
  simp [hD_fold, show fM 3 b_check_doors [hD b h, .lst []] w = some (.non, w) from q, m_locks_of B hd, m_check_keys r hs hl, show (0 : Nat) ≤ sizeLine from Nat.zero_le _]
theorem m_opens_lock (B : Bnd h) {l : Str} (hd : l ∈ names h.locks) {e : D} {s : List Str} (r : Row e s) (hs : ∀ k ∈ s, k ∈ h.ring) (hl : s.length ≤ 1000) : fM 5 b_opens_lock [hD b h, .str l, e] w = some (.bl (h.opensLock l s), w) := by
  have q : lLc [4] (iSeq (eVar 2)) (gmName 4) tYesM (eOp fIn (eVar 4) (eVar 3)) [.val (hD b h), .val (.str l), .val e, .val (.tup (sts (look h.locks l))), .un] w = some (s.map fun k => .bl (decide (k ∈ look h.locks l)), w) := by
    refine lLc_all D.str _ s ?_ (le_line hl) fun k hk => ⟨_, rfl, rfl, ?_⟩
    · simp [r.seq]
    · simp
  show ((b_opens_lock [.val (hD b h), .val (.str l), .val e, .un, .un] w).bind _) = _
  unfold b_opens_lock
  simp [hD_fold, m_openers B hd, m_check_keys r hs hl, q, Hs.opensLock]
theorem look_sub {l : NMs} {n : Str} {xs : List Str} (hn : (names l).Nodup) (hs : ∀ p ∈ l, p.2.Sublist xs) (h : n ∈ names l) : (look l n).Sublist xs := hs _ (look_of hn h)
theorem m_opens (B : Bnd h) {d : Str} (hd : d ∈ names h.doors) {e : D} {s : List Str} (r : Row e s) (hs : ∀ k ∈ s, k ∈ h.ring) (hl : s.length ≤ 1000) : fM 4 b_opens [hD b h, .str d, e] w = some (.bl (h.opens d s), w) := by
  have sub := look_sub B.wf.dn B.wf.dk hd
  have q : lLc [3] (iSeq (eFn 3 (fM 4 b_door_locks) (aCons (eVar 0) (aCons (eVar 1) (aCons (eVar 2) aNil))))) (gmName 3) tYesM (eFn 3 (fM 5 b_opens_lock) (aCons (eVar 0) (aCons (eVar 3) (aCons (eVar 2) aNil)))) [.val (hD b h), .val (.str d), .val e, .un] w
      = some ((look h.doors d).map fun l => .bl (h.opensLock l s), w) := by
    refine lLc_all D.str _ (look h.doors d) ?_ (le_line ?_) fun l hm => ⟨_, rfl, rfl, ?_⟩
    · simp [m_door_locks B hd r hs hl]
    · have := sub.length_le
      have := B.l8
      simp only [names, List.length_map] at *
      omega
    · simp [m_opens_lock B (sub.subset hm) r hs hl]
  show ((b_opens [.val (hD b h), .val (.str d), .val e, .un] w).bind _) = _
  unfold b_opens
  simp [q, Hs.opens]
theorem m_doors_of (B : Bnd h) {e : D} {s : List Str} (r : Row e s) (hs : ∀ k ∈ s, k ∈ h.ring) (hl : s.length ≤ 1000) : fM 3 b_doors_of [hD b h, e] w = some (.lst (sts (h.doorsOf s)), w) := by
  have q : lLc [2] (iSeq (eMeth cHouse 0 (fM 3 b_House_door_names) (eVar 0) aNil)) (gmName 2) (tOf (eFn 3 (fM 4 b_opens) (aCons (eVar 0) (aCons (eVar 2) (aCons (eVar 1) aNil))))) (eVar 2) [.val (hD b h), .val e, .un] w
      = some (((names h.doors).filter fun d => h.opens d s).map D.str, w) := by
    refine lLc_map D.str _ _ (names h.doors) ?_ (le_line ?_) fun d hd => ⟨_, rfl, ?_, fun _ => ?_⟩
    · simp [hD_fold, m_door_names B.d8]
    · have := B.d8
      simp only [names, List.length_map] at *
      omega
    · simp [m_opens B hd r hs hl]
    · simp
  show ((b_doors_of [.val (hD b h), .val e, .un] w).bind _) = _
  unfold b_doors_of
  simp [m_check_keys r hs hl, q, Hs.doorsOf]
theorem m_exposed (B : Bnd h) {e : D} {s : List Str} (r : Row e s) (hs : ∀ k ∈ s, k ∈ h.ring) (hl : s.length ≤ 1000) : fM 3 b_exposed [hD b h, e] w = some (.lst (sts (h.doorsOf s)), w) := by
  have q : lLc [2] (iSeq (eMeth cHouse 0 (fM 3 b_House_door_names) (eVar 0) aNil)) (gmName 2) (tOf (eFn 3 (fM 4 b_opens) (aCons (eVar 0) (aCons (eVar 2) (aCons (eVar 1) aNil))))) (eVar 2) [.val (hD b h), .val e, .un] w
      = some (((names h.doors).filter fun d => h.opens d s).map D.str, w) := by
    refine lLc_map D.str _ _ (names h.doors) ?_ (le_line ?_) fun d hd => ⟨_, rfl, ?_, fun _ => ?_⟩
    · simp [hD_fold, m_door_names B.d8]
    · have := B.d8
      simp only [names, List.length_map] at *
      omega
    · simp [m_opens B hd r hs hl]
    · simp
  show ((b_exposed [.val (hD b h), .val e, .un] w).bind _) = _
  unfold b_exposed
  simp [m_check_keys r hs hl, q, Hs.doorsOf]
end

end K82
namespace K82
open PySem PySem.Spec PyProof.Rows L2 Evl DL NdefX PL Comb
/-! ### houses made -/
def NameOk (x : Str) : Prop := Sok x ∧ ∀ w, fM 2 b_is_name [.str x] w = some (.bl true, w)
section
variable {w : W0}
theorem zipIdx_at {α : Type} {l : List α} {p : α × Nat} (h : p ∈ l.zipIdx) : l[p.2]? = some p.1 := List.mem_zipIdx_iff_getElem?.mp h
theorem nodup_take {l : List Str} (hn : l.Nodup) {x : Str} {i : Nat} (h : l[i]? = some x) : x ∉ l.take i := fun z => by
  obtain ⟨j, hj, e⟩ := List.mem_iff_getElem.mp z
  rw [List.getElem_take] at e
  rw [List.length_take] at hj
  have h2 := (List.getElem?_eq_some_iff.mp h)
  obtain ⟨hi, e2⟩ := h2
  have := (List.nodup_iff_pairwise_ne.mp hn)
  exact List.pairwise_iff_getElem.mp this j i (by omega) hi (by omega) (e.trans e2.symm)
theorem m_check_ring {ks : List Str} (h1 : 1 ≤ ks.length) (h8 : ks.length ≤ 8) (hn : ks.Nodup) (ho : ∀ k ∈ ks, NameOk k) : fM 3 b_check_ring [.lst (sts ks)] w = some (.non, w) := by
  show ((b_check_ring [.val (.lst (sts ks)), .un, .un] w).bind _) = _
  unfold b_check_ring
  obtain ⟨env', e1, _⟩ := forGo_inv (W := W0) (γ := gmTup 2 (gmCons (gmName 1) (gmCons (gmName 2) gmNil)))
    (ψ := sIf (bOr (bNot (tOf (eFn 1 (fM 2 b_is_name) (aCons (eVar 2) aNil)))) (tOf (eOp fIn (eVar 2) (eCut (eVar 0) pNone (pSome (eVar 1)))))) (fun _ _ => none) sNil)
    (fun env => ∃ a b, env = [.val (.lst (sts ks)), a, b]) (fun p : Str × Nat => .tup [.int (p.2 : Nat), .str p.1]) ks.zipIdx [.val (.lst (sts ks)), .un, .un] w ⟨_, _, rfl⟩ (by
      rintro p hp env ⟨a, b, rfl⟩
      refine ⟨_, [.val (.lst (sts ks)), .val (.int p.2), .val (.str p.1)], by simp; rfl, ?_, _, _, rfl⟩
      have hp' := zipIdx_at hp
      have hm := List.mem_of_getElem? hp'
      have nt := nodup_take hn hp'
      simp [(ho p.1 hm).2 w, fIn_l, ← List.map_take, nt])
  simp [m_is_row_l, h1, h8, enumL_map, e1, show (1 : Int) ≤ ks.length by omega, show (ks.length : Int) ≤ 8 by omega]
theorem m_are_some {d e : D} {s ns : List Str} {k : Nat} (r : Row d s) (q : Row e ns) (hs : ∀ x ∈ s, x ∈ ns) (hn : s.Nodup) (hk : k ≤ s.length) (hl : s.length ≤ 1000) : fM 4 b_are_some [d, e, .int k] w = some (.bl true, w) := by
  have q1 : lLc [3] (iSeq (eVar 0)) (gmName 3) tYesM (eAnd (eUn is_str (eVar 3)) (eOp fIn (eVar 3) (eVar 1))) [.val d, .val e, .val (.int k), .un] w = some (s.map fun _ => .bl true, w) := by
    refine lLc_all D.str _ s ?_ (le_line hl) fun x hx => ⟨_, rfl, rfl, ?_⟩
    · simp [r.seq]
    · simp [q.in_, hs x hx]
  have q2 : kDc [3] (iSeq (eVar 0)) (gmName 3) tYesM (eVar 3) (eC (.bl true)) [.val d, .val e, .val (.int k), .un] w = some ((s.map Sum.inr, s.map fun _ => .bl true), w) := by
    refine kDc_map D.str Sum.inr _ s ?_ (le_line hl) ?_ fun x hx => ⟨_, _, rfl, rfl, rfl, rfl, rfl⟩
    · simp [r.seq]
    · exact hn.map _ fun a b e h => e (Sum.inr.inj h)
  show ((b_are_some [.val d, .val e, .val (.int k), .un] w).bind _) = _
  unfold b_are_some
  simp [m_is_row r, q1, q2, r.len, hk]
theorem m_in_order {d e : D} {ns s : List Str} (r : Row d ns) (q : Row e s) (hl : ns.length ≤ 1000) : fM 3 b_in_order [d, e] w = some (.tup (sts (ns.filter fun x => decide (x ∈ s))), w) := by
  have q1 : lLc [2] (iSeq (eVar 0)) (gmName 2) (tOf (eOp fIn (eVar 2) (eVar 1))) (eVar 2) [.val d, .val e, .un] w = some ((ns.filter fun x => decide (x ∈ s)).map D.str, w) := by
    refine lLc_map D.str _ _ ns ?_ (le_line hl) fun x hx => ⟨_, rfl, ?_, fun _ => ?_⟩
    · simp [r.seq]
    · simp [q.in_]
    · simp
  show ((b_in_order [.val d, .val e, .un] w).bind _) = _
  unfold b_in_order
  simp [q1]
/-- a row of rows as it is handed in -/
def rawE (e : List Str → D) (p : Str × List Str) : D := .tup [.str p.1, e p.2]
theorem rawE_pair : rawE (fun s => .tup (sts s)) = pairE := rfl
structure RowsOk (l : NMs) (ns taken : List Str) (least : Nat) : Prop where
  ok : ∀ p ∈ l, NameOk p.1
  nd : (names l).Nodup
  ap : ∀ p ∈ l, p.1 ∉ taken
  sub : ∀ p ∈ l, ∀ x ∈ p.2, x ∈ ns
  sn : ∀ p ∈ l, p.2.Nodup
  le : ∀ p ∈ l, least ≤ p.2.length
  sl : ∀ p ∈ l, p.2.length ≤ 1000
theorem m_check_rows {e : List Str → D} (he : ∀ s, Row (e s) s) {l : NMs} {part dn dt : D} {ns taken : List Str} {least most : Nat} (rn : Row dn ns) (rt : Row dt taken) (R : RowsOk l ns taken least) (h1 : 1 ≤ l.length) (hm : l.length ≤ most) (hl : l.length ≤ 1000) (ht : taken.length ≤ 1000) :
    fM 9 b_check_rows [.lst (l.map (rawE e)), part, dn, dt, .int least, .int most] w = some (.non, w) := by
  show ((b_check_rows [.val (.lst (l.map (rawE e))), .val part, .val dn, .val dt, .val (.int least), .val (.int most), .un, .un, .un] w).bind _) = _
  unfold b_check_rows
  obtain ⟨env', w', e1, e2⟩ := forGo_ind (W := W0) (γ := gmTup 2 (gmCons (gmName 7) (gmCons (gmName 8) gmNil)))
    (ψ := sSeq (sIf (tPeek 6 (bOr (bNot (tOf (eFn 1 (fM 1 b_is_row) (aCons (eVar 8) aNil)))) (bOr (tOf (eOp fNe (eCall fLen (aCons (eVar 8) aNil)) (eC (.int 2)))) (bOr (bNot (tOf (eFn 1 (fM 2 b_is_name) (aCons (eOp fIx (eVar 8) (eC (.int 0))) aNil)))) (tOf (eOp fIn (eOp fIx (eVar 8) (eC (.int 0))) (eVar 6)))))))
       (fun _ _ => none) sNil)
       (sSeq (sIf (bNot (tOf (eFn 3 (fM 4 b_are_some) (aCons (eOp fIx (eVar 8) (eC (.int 1))) (aCons (eVar 2) (aCons (eVar 4) aNil)))))) (fun _ _ => none) sNil)
       (sApp 6 (eOp fIx (eVar 8) (eC (.int 0))))))
    (fun k env v => v = w ∧ ∃ a b, env = [.val (.lst (l.map (rawE e))), .val part, .val dn, .val dt, .val (.int least), .val (.int most), .own (sts (taken ++ names (l.take k))), a, b])
    (fun p : (Str × List Str) × Nat => .tup [.int (p.2 : Nat), rawE e p.1]) l.zipIdx 0 [.val (.lst (l.map (rawE e))), .val part, .val dn, .val dt, .val (.int least), .val (.int most), .own (sts taken), .un, .un] w ⟨rfl, .un, .un, by simp [names]⟩ (by
      rintro i p env v hi ⟨rfl, a, b, rfl⟩
      rw [Nat.zero_add]
      have hp : l[i]? = some p.1 := by
        rw [List.getElem?_zipIdx] at hi
        obtain ⟨x, e1, e2⟩ := map_some hi
        rw [← e2]; exact e1
      have hmem := List.mem_of_getElem? hp
      have hil := (List.getElem?_eq_some_iff.mp hp).1
      have nin : p.1.1 ∉ taken ++ names (l.take i) := fun z => by
        rcases List.mem_append.mp z with z | z
        · exact R.ap _ hmem z
        · refine nodup_take R.nd (x := p.1.1) (i := i) ?_ ?_
          · unfold names; rw [List.getElem?_map, hp]; rfl
          · unfold names at z ⊢; rw [← List.map_take]; exact z
      have ar := m_are_some (w := v) (he p.1.2) rn (R.sub _ hmem) (R.sn _ hmem) (R.le _ hmem) (R.sl _ hmem)
      have tk : names (l.take (i + 1)) = names (l.take i) ++ [p.1.1] := by
        unfold names
        rw [List.take_add_one, hp, List.map_append]; rfl
      refine ⟨_, [.val (.lst (l.map (rawE e))), .val part, .val dn, .val dt, .val (.int least), .val (.int most), .own (sts (taken ++ names (l.take (i + 1)))), .val (.int p.2), .val (rawE e p.1)], v, by simp; rfl, ?_, rfl, _, _, rfl⟩
      have sz : (taken ++ names (l.take i)).length < sizeLine := by
        have : (names (l.take i)).length ≤ l.length := by unfold names; rw [List.length_map, List.length_take]; omega
        rw [List.length_append]; unfold sizeLine; omega
      have sz' : taken.length + (names (l.take i)).length < sizeLine := by rw [List.length_append] at sz; exact sz
      have fin : fIn (.str p.1.1) (.lst (sts taken ++ sts (names (l.take i)))) = some (.bl false) := by
        rw [← List.map_append, fIn_l]; simp only [nin, decide_false]
      simp [rawE, (R.ok _ hmem).2 v, ar, tk, sz', fin])
  obtain ⟨rfl, a, b, e3⟩ := e2
  have e4 : lList [dt] = some (sts taken) := by cases rt <;> rfl
  simp [h1, hm, enumL_map, show (1 : Int) ≤ l.length by omega, show (l.length : Int) ≤ most by omega, e4, e1]
end

end K82
namespace K82
open PySem PySem.Spec PyProof.Rows L2 Evl DL NdefX PL Comb
def mkHs (ring : List Str) (locks doors : NMs) : Hs Str := ⟨ring, locks.map fun p => (p.1, ring.filter fun x => decide (x ∈ p.2)), doors.map fun p => (p.1, (names locks).filter fun x => decide (x ∈ p.2))⟩
structure HouseOk (ring : List Str) (locks doors : NMs) : Prop where
  r1 : 1 ≤ ring.length
  r8 : ring.length ≤ 8
  rn : ring.Nodup
  ro : ∀ k ∈ ring, NameOk k
  l1 : 1 ≤ locks.length
  l8 : locks.length ≤ 8
  lk : RowsOk locks ring ring 0
  d1 : 1 ≤ doors.length
  d8 : doors.length ≤ 8
  dk : RowsOk doors (names locks) (ring ++ names locks) 1
theorem names_map {l : NMs} {f : Str × List Str → List Str} : names (l.map fun p => (p.1, f p)) = names l := by
  unfold names; rw [List.map_map]; rfl
theorem HouseOk.bnd {ring : List Str} {locks doors : NMs} (o : HouseOk ring locks doors) : Bnd (mkHs ring locks doors) := by
  refine ⟨⟨o.rn, ?_, ?_, ?_, ?_, ?_⟩, o.r1, o.r8, by unfold mkHs; simp [o.l8], by unfold mkHs; simp [o.d8], fun x hx => (o.ro x hx).1, ?_, ?_⟩
  · show (names (locks.map fun p => (p.1, _))).Nodup
    rw [names_map]; exact o.lk.nd
  · show (names (doors.map fun p => (p.1, _))).Nodup
    rw [names_map]; exact o.dk.nd
  · intro p hp
    obtain ⟨q, hq, rfl⟩ := List.mem_map.mp hp
    exact List.filter_sublist
  · intro p hp
    obtain ⟨q, hq, rfl⟩ := List.mem_map.mp hp
    show List.Sublist _ (names (locks.map fun p => (p.1, _)))
    rw [names_map]
    exact List.filter_sublist
  · intro p hp
    obtain ⟨q, hq, rfl⟩ := List.mem_map.mp hp
    have h1 := o.dk.le q hq
    have h2 := o.dk.sub q hq
    cases e : q.2 with
    | nil => rw [e] at h1; simp at h1
    | cons x r =>
      intro z
      have : x ∈ (names locks).filter fun y => decide (y ∈ x :: r) := by
        rw [List.mem_filter, decide_eq_true_iff]
        exact ⟨h2 x (by rw [e]; exact List.mem_cons_self), List.mem_cons_self⟩
      have z : (names locks).filter (fun y => decide (y ∈ x :: r)) = [] := z
      rw [z] at this
      simp at this
  · intro x hx
    have hx : x ∈ names (locks.map fun p => (p.1, _)) := hx
    rw [names_map] at hx
    obtain ⟨p, hp, rfl⟩ := List.mem_map.mp hx
    exact (o.lk.ok p hp).1
  · intro x hx
    have hx : x ∈ names (doors.map fun p => (p.1, _)) := hx
    rw [names_map] at hx
    obtain ⟨p, hp, rfl⟩ := List.mem_map.mp hx
    exact (o.dk.ok p hp).1
section
variable {w : W0}
theorem m_House_init {e e' : List Str → D} (he : ∀ s, Row (e s) s) (he' : ∀ s, Row (e' s) s) {ring : List Str} {locks doors : NMs} (o : HouseOk ring locks doors) :
    iM fdT 8 cHouse b_Housedd_initdd [.lst (sts ring), .lst (locks.map (rawE e)), .lst (doors.map (rawE e'))] w = some ([.pt (sts ring), .pt ((mkHs ring locks doors).locks.map pairE), .pt ((mkHs ring locks doors).doors.map pairE)], w) := by
  have q1 := m_check_ring (w := w) o.r1 o.r8 o.rn o.ro
  have q2 := m_check_rows (w := w) (part := .str "locks") (most := 8) he (Row.l ring) (Row.l ring) o.lk o.l1 o.l8 (by have := o.l8; omega) (by have := o.r8; omega)
  have nl : (names locks).length = locks.length := by unfold names; rw [List.length_map]
  have l8 := o.l8
  have r8 := o.r8
  have d8 := o.d8
  have q3 := m_check_rows (w := w) (part := .str "doors") (most := 8) he' (Row.l (names locks)) (Row.l (ring ++ names locks)) o.dk o.d1 o.d8 (by omega) (by rw [List.length_append]; omega)
  have c1 : lLc [5] (iSeq (eVar 2)) (gmName 5) tYesM (eOp fIx (eVar 5) (eC (.int 0))) [.obj cHouse [], .val (.lst (sts ring)), .val (.lst (locks.map (rawE e))), .val (.lst (doors.map (rawE e'))), .un, .un, .un, .un] w = some (sts (names locks), w) := by
    have : sts (names locks) = locks.map fun p => .str p.1 := by
      unfold names
      show List.map D.str (List.map (·.1) locks) = _
      rw [List.map_map]; rfl
    rw [this]
    refine lLc_all (rawE e) _ locks ?_ (le_line (by omega)) fun p hp => ⟨_, rfl, rfl, ?_⟩
    · simp
    · simp [rawE]
  have c2 : lLc [6, 7] (iSeq (eVar 2)) (gmTup 2 (gmCons (gmName 6) (gmCons (gmName 7) gmNil))) tYesM (eTup (aCons (eVar 6) (aCons (eFn 2 (fM 3 b_in_order) (aCons (eVar 1) (aCons (eVar 7) aNil))) aNil)))
      [.obj cHouse [.pt (sts ring)], .val (.lst (sts ring)), .val (.lst (locks.map (rawE e))), .val (.lst (doors.map (rawE e'))), .val (.lst (sts (names locks))), .un, .un, .un] w = some ((mkHs ring locks doors).locks.map pairE, w) := by
    have : (mkHs ring locks doors).locks.map pairE = locks.map fun p => pairE (p.1, ring.filter fun x => decide (x ∈ p.2)) := by unfold mkHs; rw [List.map_map]; rfl
    rw [this]
    refine lLc_all (rawE e) _ locks ?_ (le_line (by omega)) fun p hp => ⟨[.obj cHouse [.pt (sts ring)], .val (.lst (sts ring)), .val (.lst (locks.map (rawE e))), .val (.lst (doors.map (rawE e'))), .val (.lst (sts (names locks))), .un, .val (.str p.1), .val (e p.2)], ?_, rfl, ?_⟩
    · simp
    · simp [rawE]
    · simp [m_in_order (Row.l ring) (he p.2) (by omega : ring.length ≤ 1000), pairE, show (2 : Nat) ≤ sizeLine from le_line (by omega)]
  have c3 : lLc [6, 7] (iSeq (eVar 3)) (gmTup 2 (gmCons (gmName 6) (gmCons (gmName 7) gmNil))) tYesM (eTup (aCons (eVar 6) (aCons (eFn 2 (fM 3 b_in_order) (aCons (eVar 4) (aCons (eVar 7) aNil))) aNil)))
      [.obj cHouse [.pt (sts ring), .pt ((mkHs ring locks doors).locks.map pairE)], .val (.lst (sts ring)), .val (.lst (locks.map (rawE e))), .val (.lst (doors.map (rawE e'))), .val (.lst (sts (names locks))), .un, .un, .un] w = some ((mkHs ring locks doors).doors.map pairE, w) := by
    have : (mkHs ring locks doors).doors.map pairE = doors.map fun p => pairE (p.1, (names locks).filter fun x => decide (x ∈ p.2)) := by unfold mkHs; rw [List.map_map]; rfl
    rw [this]
    refine lLc_all (rawE e') _ doors ?_ (le_line (by omega)) fun p hp => ⟨[.obj cHouse [.pt (sts ring), .pt ((mkHs ring locks doors).locks.map pairE)], .val (.lst (sts ring)), .val (.lst (locks.map (rawE e))), .val (.lst (doors.map (rawE e'))), .val (.lst (sts (names locks))), .un, .val (.str p.1), .val (e' p.2)], ?_, rfl, ?_⟩
    · simp
    · simp [rawE]
    · simp [m_in_order (Row.l (names locks)) (he' p.2) (by omega : (names locks).length ≤ 1000), pairE, show (2 : Nat) ≤ sizeLine from le_line (by omega)]
  show ((b_Housedd_initdd [.obj cHouse [], .val (.lst (sts ring)), .val (.lst (locks.map (rawE e))), .val (.lst (doors.map (rawE e'))), .un, .un, .un, .un] w).bind _) = _
  unfold b_Housedd_initdd
  have q2' : fM 9 b_check_rows [.lst (locks.map (rawE e)), .str "locks", .lst (sts ring), .lst (sts ring), .int 0, .int 8] w = some (.non, w) := q2
  have q3' : fM 9 b_check_rows [.lst (doors.map (rawE e')), .str "doors", .lst (sts (names locks)), .lst (sts ring ++ sts (names locks)), .int 1, .int 8] w = some (.non, w) := by
    rw [← List.map_append]; exact q3
  have sn1 : seqN (.lst (sts ring)) = some (sts ring) := rfl
  have sn2 : seqN (.lst (sts (names locks))) = some (sts (names locks)) := rfl
  simp [q1, q2', c1, aStar, sn1, sn2, show ring.length + (names locks).length ≤ sizeLine from le_line (by omega), q3', c2, c3, objAt, fdT]
end

end K82
namespace K82
open PySem PySem.Spec PyProof.Rows L2 Evl DL NdefX PL Comb
/-! ### ranks -/
section
variable {b : Bool} {h : Hs Str} {w : W0}
theorem one_row (k : Str) : Row (.lst [.str k]) [k] := Row.l [k]
theorem one_le : (1 : Nat) ≤ sizeLine := le_line (by omega)
theorem m_doors1 (B : Bnd h) {k : Str} (hk : k ∈ h.ring) : fM 3 b_doors_of [hD b h, .lst [.str k]] w = some (.lst (sts (h.doorsOf [k])), w) := m_doors_of B (one_row k) (fun x hx => by rw [List.mem_singleton.mp hx]; exact hk) (by simp)
theorem m_exposed1 (B : Bnd h) {k : Str} (hk : k ∈ h.ring) : fM 3 b_exposed [hD b h, .lst [.str k]] w = some (.lst (sts (h.doorsOf [k])), w) := m_exposed B (one_row k) (fun x hx => by rw [List.mem_singleton.mp hx]; exact hk) (by simp)
theorem m_check_key {k : Str} (hk : k ∈ h.ring) : fM 2 b_check_key [hD b h, .str k] w = some (.non, w) := by
  show ((b_check_key [.val (hD b h), .val (.str k)] w).bind _) = _
  unfold b_check_key
  simp [hk]
theorem doors_sok (B : Bnd h) (s : List Str) : ∀ x ∈ h.doorsOf s, Sok x := fun x hx => B.ds x (mem_doorsOf.mp hx).1
theorem doors_len (B : Bnd h) (s : List Str) : (h.doorsOf s).length ≤ 8 := by
  have := (doorsOf_sub h s).length_le
  have := B.d8
  simp only [names, List.length_map] at *
  omega
theorem eq_doors (B : Bnd h) (s t : List Str) : fEq (.lst (sts (h.doorsOf s))) (.lst (sts (h.doorsOf t))) = some (.bl (decide (h.doorsOf s = h.doorsOf t))) := enc_str.eq_lst (by omega) (doors_sok B s) (doors_sok B t)
theorem ne_doors (B : Bnd h) (s t : List Str) : fNe (.lst (sts (h.doorsOf s))) (.lst (sts (h.doorsOf t))) = some (.bl (!decide (h.doorsOf s = h.doorsOf t))) := enc_str.ne_lst (by omega) (doors_sok B s) (doors_sok B t)
theorem m_below (B : Bnd h) {k l : Str} (hk : k ∈ h.ring) (hl : l ∈ h.ring) : fM 6 b_is_below_key [hD b h, .str k, .str l] w = some (.bl (h.below k l), w) := by
  have q : lLc [5] (iSeq (eVar 3)) (gmName 5) tYesM (eOp fIn (eVar 5) (eVar 4)) [.val (hD b h), .val (.str k), .val (.str l), .val (.lst (sts (h.doorsOf [k]))), .val (.lst (sts (h.doorsOf [l]))), .un] w
      = some ((h.doorsOf [k]).map fun d => .bl (decide (d ∈ h.doorsOf [l])), w) := by
    refine lLc_all D.str _ (h.doorsOf [k]) ?_ (le_line (by have := doors_len B [k]; omega)) fun d hd => ⟨_, rfl, rfl, ?_⟩
    · simp
    · simp
  show ((b_is_below_key [.val (hD b h), .val (.str k), .val (.str l), .un, .un, .un] w).bind _) = _
  unfold b_is_below_key
  simp [m_check_key hk, m_check_key hl, m_doors1 B hk, m_doors1 B hl, one_le, show (2 : Nat) ≤ sizeLine from le_line (by omega), ne_doors B, q, Hs.below, PL.subB]
  by_cases e : h.doorsOf [k] = h.doorsOf [l] <;> simp [e]
theorem m_above (B : Bnd h) {k : Str} (hk : k ∈ h.ring) : fM 3 b_above [hD b h, .str k] w = some (.lst (sts (h.above k)), w) := by
  have q : lLc [2] (iSeq (eUn (fldD NC fdT "ring") (eVar 0))) (gmName 2) (tOf (eFn 3 (fM 6 b_is_below_key) (aCons (eVar 0) (aCons (eVar 1) (aCons (eVar 2) aNil))))) (eVar 2) [.val (hD b h), .val (.str k), .un] w
      = some ((h.ring.filter fun l => h.below k l).map D.str, w) := by
    refine lLc_map D.str _ _ h.ring ?_ (le_line (by have := B.r8; omega)) fun l hl => ⟨_, rfl, ?_, fun _ => ?_⟩
    · simp
    · simp [m_below B hk hl]
    · simp
  show ((b_above [.val (hD b h), .val (.str k), .un] w).bind _) = _
  unfold b_above
  simp [m_check_key hk, q, Hs.above]
theorem above_sub (h : Hs Str) (k : Str) : (h.above k).Sublist h.ring := List.filter_sublist
theorem above_sok (B : Bnd h) (k : Str) : ∀ x ∈ h.above k, Sok x := fun x hx => B.rs x ((above_sub h k).subset hx)
theorem above_len (B : Bnd h) (k : Str) : (h.above k).length ≤ 8 := Nat.le_trans (above_sub h k).length_le B.r8
theorem m_tops (B : Bnd h) : fM 2 b_tops [hD b h] w = some (.lst (sts h.tops), w) := by
  have q : lLc [1] (iSeq (eUn (fldD NC fdT "ring") (eVar 0))) (gmName 1) (tOf (eOp fEq (eFn 2 (fM 3 b_above) (aCons (eVar 0) (aCons (eVar 1) aNil))) (eL (lLst aNil)))) (eVar 1) [.val (hD b h), .un] w
      = some ((h.ring.filter fun k => decide (h.above k = [])).map D.str, w) := by
    refine lLc_map D.str _ _ h.ring ?_ (le_line (by have := B.r8; omega)) fun k hk => ⟨_, rfl, ?_, fun _ => ?_⟩
    · simp
    · simp [m_above B hk, enc_str.nil (by omega) (above_sok B k)]
    · simp
  show ((b_tops [.val (hD b h), .un] w).bind _) = _
  unfold b_tops
  simp [q, Hs.tops]
theorem m_masters (B : Bnd h) : fM 2 b_masters [hD b h] w = some (.lst (sts h.masters), w) := by
  have q : lLc [1] (iSeq (eUn (fldD NC fdT "ring") (eVar 0))) (gmName 1) (tOf (eOp fEq (eCall fLen (aCons (eFn 2 (fM 3 b_doors_of) (aCons (eVar 0) (aCons (eL (lLst (aCons (eVar 1) aNil))) aNil))) aNil)) (eCall fLen (aCons (eUn (fldD NC fdT "doors") (eVar 0)) aNil)))) (eVar 1) [.val (hD b h), .un] w
      = some ((h.ring.filter fun k => decide ((h.doorsOf [k]).length = h.doors.length)).map D.str, w) := by
    refine lLc_map D.str _ _ h.ring ?_ (le_line (by have := B.r8; omega)) fun k hk => ⟨_, rfl, ?_, fun _ => ?_⟩
    · simp
    · simp [m_doors1 B hk, one_le]
      omega
    · simp
  show ((b_masters [.val (hD b h), .un] w).bind _) = _
  unfold b_masters
  simp [q, Hs.masters]
def Hs.alike (h : Hs Str) (k l : Str) : Bool := h.locks.all fun p => decide (decide (k ∈ p.2) = decide (l ∈ p.2))
theorem alike_doors (w : h.WF) {k l : Str} (e : Hs.alike h k l = true) : h.doorsOf [k] = h.doorsOf [l] := by
  have key : ∀ n, n ∈ names h.locks → h.opensLock n [k] = h.opensLock n [l] := fun n hn => by
    have hm := look_of w.ln hn
    have := of_decide_eq_true (List.all_eq_true.mp e _ hm)
    unfold Hs.opensLock
    simp only [List.any_cons, List.any_nil, Bool.or_false]
    exact this
  unfold Hs.doorsOf
  refine List.filter_congr fun d hd => ?_
  have sub := look_sub w.dn w.dk hd
  unfold Hs.opens
  rw [Bool.eq_iff_iff, List.all_eq_true, List.all_eq_true]
  exact ⟨fun z n hn => by rw [← key n (sub.subset hn)]; exact z n hn, fun z n hn => by rw [key n (sub.subset hn)]; exact z n hn⟩
theorem m_alike (B : Bnd h) {k l : Str} (hk : k ∈ h.ring) (hl : l ∈ h.ring) : fM 6 b_alike_keys [hD b h, .str k, .str l] w = some (.bl (Hs.alike h k l), w) := by
  have q : lLc [4, 5] (iSeq (eUn (fldD NC fdT "locks") (eVar 0))) (gmTup 2 (gmCons (gmName 4) (gmCons (gmName 5) gmNil))) tYesM (eOp fEq (eOp fIn (eVar 1) (eVar 5)) (eOp fIn (eVar 2) (eVar 5))) [.val (hD b h), .val (.str k), .val (.str l), .val (.str l), .un, .un] w
      = some (h.locks.map fun p => .bl (decide (decide (k ∈ p.2) = decide (l ∈ p.2))), w) := by
    refine lLc_all pairE _ h.locks ?_ (le_line (by have := B.l8; omega)) fun p hp => ⟨[.val (hD b h), .val (.str k), .val (.str l), .val (.str l), .val (.str p.1), .val (.tup (sts p.2))], by unfold pairE; simp, rfl, ?_⟩
    · simp
    · simp only [eOp_s, eVar_s, List.getElem?_cons_succ, List.getElem?_cons_zero, Option.bind_some, fIn_t, Option.map_some, fEq_bl]
  show ((b_alike_keys [.val (hD b h), .val (.str k), .val (.str l), .un, .un, .un] w).bind _) = _
  unfold b_alike_keys
  simp [forGo, hk, hl, show (2 : Nat) ≤ sizeLine from le_line (by omega), q]
  rfl
theorem m_apart (B : Bnd h) {k l : Str} (hk : k ∈ h.ring) (hl : l ∈ h.ring) : fM 6 b_are_apart [hD b h, .str k, .str l] w = some (.bl (h.apart k l), w) := by
  have q1 : lLc [5] (iSeq (eVar 3)) (gmName 5) tYesM (eOp fIn (eVar 5) (eVar 4)) [.val (hD b h), .val (.str k), .val (.str l), .val (.lst (sts (h.doorsOf [k]))), .val (.lst (sts (h.doorsOf [l]))), .un] w
      = some ((h.doorsOf [k]).map fun d => .bl (decide (d ∈ h.doorsOf [l])), w) := by
    refine lLc_all D.str _ (h.doorsOf [k]) ?_ (le_line (by have := doors_len B [k]; omega)) fun d hd => ⟨_, rfl, rfl, ?_⟩
    · simp
    · simp
  have q2 : lLc [5] (iSeq (eVar 4)) (gmName 5) tYesM (eOp fIn (eVar 5) (eVar 3)) [.val (hD b h), .val (.str k), .val (.str l), .val (.lst (sts (h.doorsOf [k]))), .val (.lst (sts (h.doorsOf [l]))), .un] w
      = some ((h.doorsOf [l]).map fun d => .bl (decide (d ∈ h.doorsOf [k])), w) := by
    refine lLc_all D.str _ (h.doorsOf [l]) ?_ (le_line (by have := doors_len B [l]; omega)) fun d hd => ⟨_, rfl, rfl, ?_⟩
    · simp
    · simp
  show ((b_are_apart [.val (hD b h), .val (.str k), .val (.str l), .un, .un, .un] w).bind _) = _
  unfold b_are_apart
  have f1 : fAll [.lst ((h.doorsOf [k]).map fun d => .bl (decide (d ∈ h.doorsOf [l])))] = some (.bl (PL.subB (h.doorsOf [k]) (h.doorsOf [l]))) := fAll_map
  have f2 : fAll [.lst ((h.doorsOf [l]).map fun d => .bl (decide (d ∈ h.doorsOf [k])))] = some (.bl (PL.subB (h.doorsOf [l]) (h.doorsOf [k]))) := fAll_map
  unfold Hs.apart
  generalize PL.subB (h.doorsOf [k]) (h.doorsOf [l]) = x at f1 ⊢
  generalize PL.subB (h.doorsOf [l]) (h.doorsOf [k]) = y at f2 ⊢
  cases x <;> cases y <;> simp [-fAll_map, m_doors1 B hk, m_doors1 B hl, one_le, show (2 : Nat) ≤ sizeLine from le_line (by omega), q1, q2, f1, f2]
/-! the chain -/
theorem lc2Go_map {γ γ1 : GM} {tt tt1 : TM W0} {te : EM W0} {ι1 : AM W0} {vs1 : List Nat} {env : Env'} {α β : Type} (enc : α → D) (g : α → List β) (v : α → β → D) (enc1 : α → β → D) : ∀ (l : List α), (∀ x ∈ l, ∃ env1, γ (enc x) env = some env1 ∧ tt env1 w = some (true, w) ∧ ι1 env1 w = some ((g x).map (enc1 x), w) ∧ ∀ y ∈ g x, ∃ env2, γ1 (enc1 x y) (wipeE env1 vs1) = some env2 ∧ tt1 env2 w = some (true, w) ∧ te env2 w = some (v x y, w)) →
    lc2Go γ tt ι1 γ1 tt1 te vs1 (l.map enc) env w = some (l.flatMap fun x => (g x).map (v x), w)
  | [], _ => rfl
  | x :: l, hh => by
    obtain ⟨env1, h1, h2, h3, h4⟩ := hh x List.mem_cons_self
    have ih := lc2Go_map (γ := γ) (γ1 := γ1) (tt := tt) (tt1 := tt1) (te := te) (ι1 := ι1) (vs1 := vs1) (env := env) enc g v enc1 l fun y hy => hh y (List.mem_cons_of_mem _ hy)
    have q := lcGo_map (γ := γ1) (tt := tt1) (te := te) (env := wipeE env1 vs1) (w := w) (enc1 x) (fun _ => true) (v x) (g x) fun y hy => by
      obtain ⟨e2, a1, a2, a3⟩ := h4 y hy
      exact ⟨e2, a1, a2, fun _ => a3⟩
    rw [List.map_cons]
    unfold lc2Go
    rw [h1]
    show ((tt env1 w).bind _) = _
    rw [h2]
    show ((ι1 env1 w).bind _) = _
    rw [h3]
    show ((lcGo γ1 tt1 te ((g x).map (enc1 x)) (wipeE env1 vs1) w).bind _) = _
    rw [q]
    show ((lc2Go γ tt ι1 γ1 tt1 te vs1 (l.map enc) env w).map _) = _
    rw [ih, List.filter_eq_self.mpr fun _ _ => rfl]
    rfl
theorem level_bound (B : Bnd h) : ∀ n, (h.level n).length ≤ 8 ^ (n + 1)
  | 0 => by show (h.ring.map _).length ≤ _; rw [List.length_map]; have := B.r8; omega
  | n + 1 => by
    have ih := level_bound B n
    have : ∀ rows : List (List Str), (h.nextRows rows).length ≤ rows.length * 8 := by
      intro rows
      induction rows with
      | nil => simp [Hs.nextRows]
      | cons r rows ih2 =>
        have e : h.nextRows (r :: rows) = ((h.lastAbove r).map fun late => r ++ [late]) ++ h.nextRows rows := by unfold Hs.nextRows; rw [List.flatMap_cons]
        rw [e, List.length_append, List.length_cons, List.length_map]
        have : (h.lastAbove r).length ≤ 8 := by
          unfold Hs.lastAbove
          split
          · exact above_len B _
          · simp
        omega
    have := this (h.level n)
    show (h.nextRows (h.level n)).length ≤ _
    rw [show (8 : Nat) ^ (n + 1 + 1) = 8 ^ (n + 1) * 8 from Nat.pow_succ ..]
    have := Nat.mul_le_mul_right 8 ih
    omega
theorem level_sok (B : Bnd h) {n : Nat} {c : List Str} (hc : c ∈ h.level n) : ∀ x ∈ c, Sok x := fun x hx => B.rs x ((level_ok hc).ring x hx)
theorem level_ne {n : Nat} {c : List Str} (hc : c ∈ h.level n) : c ≠ [] := fun e => by have := (level_ok hc).len; rw [e] at this; simp at this
theorem m_chain (B : Bnd h) (d5 : h.doors.length ≤ 5) : ∃ c, Longest h c ∧ fM 6 b_longest_chain [hD b h] w = some (tupS c, w) := by
  have r0 : h.ring ≠ [] := fun e => by have := B.r1; rw [e] at this; simp at this
  obtain ⟨m, c, l1, l2, l3, l4⟩ := climb_at B.wf r0
  have dn : (names h.doors).length = h.doors.length := by unfold names; rw [List.length_map]
  refine ⟨c, longest_ok l3 l2 l4, ?_⟩
  have q0 : lLc [3] (iSeq (eUn (fldD NC fdT "ring") (eVar 0))) (gmName 3) tYesM (eTup (aCons (eVar 3) aNil)) [.val (hD b h), .un, .un, .un, .un, .un] w = some ((h.level 0).map tupS, w) := by
    have : (h.level 0).map tupS = h.ring.map fun k => .tup [.str k] := by
      show (h.ring.map fun k => [k]).map tupS = _
      rw [List.map_map]; rfl
    rw [this]
    refine lLc_all D.str _ h.ring ?_ (le_line (by have := B.r8; omega)) fun k hk => ⟨_, rfl, rfl, ?_⟩
    · simp
    · simp [one_le]
  have turn : ∀ (n : Nat) (a : Sl), n ≤ 5 → lLc2 [4, 5] [5] (iSeq (eVar 1)) (gmName 4) tYesM (iSeq (eFn 2 (fM 3 b_above) (aCons (eVar 0) (aCons (eOp fIx (eVar 4) (eUn fNeg (eC (.int 1)))) aNil)))) (gmName 5) tYesM (eTup (aStar (eVar 4) (aCons (eVar 5) aNil)))
      [.val (hD b h), .val (.lst ((h.level n).map tupS)), a, .un, .un, .un] w = some ((h.level (n + 1)).map tupS, w) := by
    intro n a hn
    have e : (h.level (n + 1)).map tupS = (h.level n).flatMap fun r => ((h.lastAbove r).map fun late => tupS (r ++ [late])) := by
      show (h.nextRows (h.level n)).map tupS = _
      unfold Hs.nextRows
      rw [List.map_flatMap]
      congr 1
      funext r
      rw [List.map_map]; rfl
    have lb := level_bound B (n + 1)
    have lb2 : (8 : Nat) ^ (n + 1 + 1) ≤ 8 ^ 7 := Nat.pow_le_pow_right (by omega) (by omega)
    unfold lLc2
    have is : iSeq (eVar 1) [.val (hD b h), .val (.lst ((h.level n).map tupS)), a, .un, .un, .un] w = some ((h.level n).map tupS, w) := by simp
    rw [is]
    show ((lc2Go _ _ _ _ _ _ _ ((h.level n).map tupS) (wipeE [.val (hD b h), .val (.lst ((h.level n).map tupS)), a, .un, .un, .un] [4, 5]) w).bind _) = _
    rw [lc2Go_map (w := w) tupS (fun r => h.lastAbove r) (fun r late => tupS (r ++ [late])) (fun _ => D.str) (h.level n) fun r hr => ?_]
    · rw [← e]
      show (if ((h.level (n + 1)).map tupS).length ≤ sizeLine then _ else _) = _
      rw [if_pos (by rw [List.length_map]; unfold sizeLine; omega)]
    · have ok := level_ok hr
      cases hg : r.getLast? with
      | none => rw [List.getLast?_eq_none_iff] at hg; exact absurd hg (level_ne hr)
      | some x =>
        have hx : x ∈ h.ring := ok.ring x (List.mem_of_getLast? hg)
        have ix : fIx (tupS r) (.int (-1)) = some (.str x) := by
          show fIx (.tup (r.map D.str)) (.int (-1)) = _
          rw [fIx_tm, List.getLast?_map, hg]; rfl
        refine ⟨[.val (hD b h), .val (.lst ((h.level n).map tupS)), a, .un, .val (tupS r), .un], by simp, rfl, ?_, fun late hlate => ⟨_, rfl, rfl, ?_⟩⟩
        · have ng : fNeg (.int 1) = some (.int (-1)) := rfl
          have la : h.lastAbove r = h.above x := by unfold Hs.lastAbove; rw [hg]
          simp [ng, ix, m_above B hx, la]
        · have sn : seqN (tupS r) = some (sts r) := rfl
          have := ok.len
          simp [aStar, sn, show r.length + 1 ≤ sizeLine from le_line (by omega)]
  have wh : ∀ (k n : Nat) (a : Sl), n + k = m + 1 → (n = m + 1 → a = .val (tupS c)) → ∃ f env, whGo (tOf (eOp fNe (eVar 1) (eL (lLst aNil)))) (sSeq (sSet 2 (vE (eOp fIx (eVar 1) (eC (.int 0)))))
      (sSet 1 (vE (eL (lLc2 [4, 5] [5] (iSeq (eVar 1)) (gmName 4) tYesM (iSeq (eFn 2 (fM 3 b_above) (aCons (eVar 0) (aCons (eOp fIx (eVar 4) (eUn fNeg (eC (.int 1)))) aNil)))) (gmName 5) tYesM (eTup (aStar (eVar 4) (aCons (eVar 5) aNil))))))))
      f [.val (hD b h), .val (.lst ((h.level n).map tupS)), a, .un, .un, .un] w = some (.nx, env, w) ∧ env[2]? = some (.val (tupS c)) := by
    intro k
    induction k with
    | zero =>
      intro n a hn ha
      have hn : n = m + 1 := by omega
      subst hn
      refine ⟨1, [.val (hD b h), .val (.lst ((h.level (m + 1)).map tupS)), a, .un, .un, .un], ?_, by rw [ha rfl]; rfl⟩
      unfold whGo
      have nn : fNe (.lst []) (.lst []) = some (.bl false) := rfl
      simp [nn, l2]
    | succ k ih =>
      intro n a hn ha
      have hnm : n ≤ m := by omega
      cases he : h.level n with
      | nil => exact absurd he (l1 n hnm)
      | cons r rows =>
        obtain ⟨f, env, e1, e2⟩ := ih (n + 1) (.val (tupS r)) (by omega) (fun z => by
          have : n = m := by omega
          subst this
          rw [he] at l3
          simp at l3
          rw [l3])
        refine ⟨f + 1, env, ?_, e2⟩
        unfold whGo
        have nn := enc_tup.nnil (by omega) (a := h.level n) (fun c hc => level_sok B hc)
        have t := turn n (.val (tupS r)) (by omega)
        rw [he] at nn t
        have nn' : fNe (.lst (tupS r :: rows.map tupS)) (.lst []) = some (.bl true) := by simpa using nn
        have t' : lLc2 [4, 5] [5] (iSeq (eVar 1)) (gmName 4) tYesM (iSeq (eFn 2 (fM 3 b_above) (aCons (eVar 0) (aCons (eOp fIx (eVar 4) (eUn fNeg (eC (.int 1)))) aNil)))) (gmName 5) tYesM (eTup (aStar (eVar 4) (aCons (eVar 5) aNil)))
          [.val (hD b h), .val (.lst (tupS r :: rows.map tupS)), .val (tupS r), .un, .un, .un] w = some ((h.level (n + 1)).map tupS, w) := t
        simp [nn', t', e1]
  obtain ⟨f, env, e1, e2⟩ := wh (m + 1) 0 (.val (tupS ((h.level 0).headD []))) (by omega) (by omega)
  have e3 := sWhile_of e1
  show ((b_longest_chain [.val (hD b h), .un, .un, .un, .un, .un] w).bind _) = _
  unfold b_longest_chain
  cases he : h.level 0 with
  | nil => exact absurd he (l1 0 (Nat.zero_le _))
  | cons r rows =>
    rw [he] at e3 q0
    have q0' : lLc [3] (iSeq (eUn (fldD NC fdT "ring") (eVar 0))) (gmName 3) tYesM (eTup (aCons (eVar 3) aNil)) [.val (hD b h), .un, .un, .un, .un, .un] w = some (tupS r :: rows.map tupS, w) := q0
    have e3' := e3
    simp only [List.map_cons, List.headD_cons] at e3'
    simp [q0', e3', e2]
end

end K82
namespace K82
open PySem PySem.Spec PyProof.Rows L2 Evl DL NdefX PL Comb
/-! ### least sets -/
section
variable {w : W0}
theorem foldl_len (t : List Str → Bool) : ∀ (cs F : List (List Str)), (leastGo t F cs).length ≤ F.length + cs.length
  | [], F => by simp [leastGo]
  | c :: cs, F => by
    have h1 := foldl_len t cs (leastStep t F c)
    have h2 : (leastStep t F c).length ≤ F.length + 1 := by unfold leastStep; split <;> simp
    show (leastGo t (leastStep t F c) cs).length ≤ _
    rw [List.length_cons]; omega
theorem leastGo_append (t : List Str → Bool) (F a b : List (List Str)) : leastGo t F (a ++ b) = leastGo t (leastGo t F a) b := List.foldl_append ..
theorem cands_succ {α : Type} (n : Nat) (xs : List α) : cands (n + 1) xs = cands n xs ++ combL n xs := by
  unfold cands
  rw [List.range_succ, List.flatMap_append]
  simp
theorem cands_small {α : Type} (xs : List α) : ∀ n, (cands n xs).length ≤ n * 2 ^ xs.length
  | 0 => by simp [cands]
  | n + 1 => by
    rw [cands_succ, List.length_append]
    have h1 := cands_small xs n
    have h2 := combL_small n xs
    rw [Nat.succ_mul]; omega
/-- one choice looked at -/
theorem least_turn {A Bs : D} {g : D → Option Bool} {t : List Str → Bool} {F : List (List Str)} {m s6 s7 : Sl} {c : List Str} (hg : g (tupS c) = some (t c)) (hF : ∀ f ∈ F, f.length ≤ 1000) (hl : F.length < 100000) :
    (sIf (tPeek 3 (bAnd (bNot (tOf (eCall fAny (aCons (eL (lLc [6] (iSeq (eVar 3)) (gmName 6) tYesM (eCall fAll (aCons (eL (lLc [7] (iSeq (eVar 6)) (gmName 7) tYesM (eOp fIn (eVar 7) (eVar 5)))) aNil)))) aNil)))) (tOf (eTest 2 (eVar 5)))))
      (sApp 3 (eVar 5)) sNil : SM W0) [.val A, .val Bs, .fn g, .own (F.map tupS), m, .val (tupS c), s6, s7] w
      = some (.nx, [.val A, .val Bs, .fn g, .own ((leastStep t F c).map tupS), m, .val (tupS c), s6, s7], w) := by
  have q : lLc [6] (iSeq (eVar 3)) (gmName 6) tYesM (eCall fAll (aCons (eL (lLc [7] (iSeq (eVar 6)) (gmName 7) tYesM (eOp fIn (eVar 7) (eVar 5)))) aNil)) [.val A, .val Bs, .fn g, .val (.lst (F.map tupS)), m, .val (tupS c), s6, s7] w
      = some (F.map fun less => .bl (PL.subB less c), w) := by
    refine lLc_all tupS _ F ?_ (by unfold sizeLine; omega) fun less hless => ⟨_, rfl, rfl, ?_⟩
    · simp
    · have q2 : lLc [7] (iSeq (eVar 6)) (gmName 7) tYesM (eOp fIn (eVar 7) (eVar 5)) [.val A, .val Bs, .fn g, .val (.lst (F.map tupS)), m, .val (tupS c), .val (tupS less), s7] w = some (less.map fun x => .bl (decide (x ∈ c)), w) := by
        refine lLc_all D.str _ less ?_ (le_line (hF less hless)) fun x hx => ⟨_, rfl, rfl, ?_⟩
        · simp [tupS]
        · simp [tupS]
      simp [q2, PL.subB]
  have f1 : fAny [.lst (F.map fun less => .bl (PL.subB less c))] = some (.bl (F.any fun less => PL.subB less c)) := fAny_map
  unfold leastStep
  generalize (F.any fun less => PL.subB less c) = x at f1 ⊢
  have et : eTest 2 (eVar 5) [.val A, .val Bs, .fn g, .val (.lst (F.map tupS)), m, .val (tupS c), s6, s7] w = some (.bl (t c), w) := by
    unfold eTest
    simp [hg]
  cases x <;> cases ht : t c <;> simp [-fAny_map, q, f1, et, ht, show F.length < sizeLine by unfold sizeLine; omega]
theorem m_least_up {A : D} {xs : List Str} (hA : A = .lst (sts xs) ∨ A = .tup (sts xs)) (h8 : xs.length ≤ 8) {g : D → Option Bool} {t : List Str → Bool} (hg : ∀ s, s.Sublist xs → g (tupS s) = some (t s)) {n : Nat} (hn : n ≤ xs.length) :
    lM 8 b_least_up_to g [A, .int n] w = some (.lst ((leastUp (n + 1) xs t).map tupS), w) := by
  have hc : ∀ k : Nat, k ≤ 1000 → combD [A, .int k] = some ((combL k xs).map tupS) := fun k hk => by
    rcases hA with rfl | rfl
    · exact combD_map k hk xs
    · exact combD_mapT k hk xs
  have hlen : fLen [A] = some (.int xs.length) := by rcases hA with rfl | rfl <;> simp
  have p8 : (2 : Nat) ^ xs.length ≤ 2 ^ 8 := Nat.pow_le_pow_right (by omega) h8
  have sub : ∀ (k : Nat) F, (∀ f ∈ F, f.length ≤ 8) → ∀ cs : List (List Str), (∀ c ∈ cs, c ∈ combL k xs) → ∀ f ∈ leastGo t F cs, f.length ≤ 8 := by
    intro k F hF cs hcs f hf
    obtain ⟨r, e, h1, _⟩ := leastGo_sub t cs F
    rw [e] at hf
    rcases List.mem_append.mp hf with z | z
    · exact hF f z
    · have := (mem_combL.mp (hcs f (h1.subset z))).1.length_le
      omega
  have subc : ∀ k : Nat, ∀ f ∈ leastGo t [] (cands k xs), f.length ≤ 8 := by
    intro k f hf
    obtain ⟨r, e, h1, _⟩ := leastGo_sub t (cands k xs) []
    rw [e, List.nil_append] at hf
    have := (mem_cands.mp (h1.subset hf)).1.length_le
    omega
  -- the inner loop
  have inner : ∀ k : Nat, k ≤ n → ∀ m s5 s6 s7, ∃ s5', forGo (gmName 5) (sIf (tPeek 3 (bAnd (bNot (tOf (eCall fAny (aCons (eL (lLc [6] (iSeq (eVar 3)) (gmName 6) tYesM (eCall fAll (aCons (eL (lLc [7] (iSeq (eVar 6)) (gmName 7) tYesM (eOp fIn (eVar 7) (eVar 5)))) aNil)))) aNil)))) (tOf (eTest 2 (eVar 5)))))
      (sApp 3 (eVar 5)) sNil) ((combL k xs).map tupS) [.val A, .val (.int n), .fn g, .own ((leastGo t [] (cands k xs)).map tupS), m, s5, s6, s7] w
      = some (.nx, [.val A, .val (.int n), .fn g, .own ((leastGo t [] (cands (k + 1) xs)).map tupS), m, s5', s6, s7], w) := by
    intro k hk m s5 s6 s7
    obtain ⟨env', w', e1, rfl, s5', e2⟩ := forGo_ind (W := W0) (γ := gmName 5) (ψ := sIf (tPeek 3 (bAnd (bNot (tOf (eCall fAny (aCons (eL (lLc [6] (iSeq (eVar 3)) (gmName 6) tYesM (eCall fAll (aCons (eL (lLc [7] (iSeq (eVar 6)) (gmName 7) tYesM (eOp fIn (eVar 7) (eVar 5)))) aNil)))) aNil)))) (tOf (eTest 2 (eVar 5)))))
      (sApp 3 (eVar 5)) sNil) (fun i env v => v = w ∧ ∃ s5', env = [.val A, .val (.int n), .fn g, .own ((leastGo t (leastGo t [] (cands k xs)) ((combL k xs).take i)).map tupS), m, s5', s6, s7]) tupS (combL k xs) 0
      [.val A, .val (.int n), .fn g, .own ((leastGo t [] (cands k xs)).map tupS), m, s5, s6, s7] w ⟨rfl, s5, rfl⟩ (by
        rintro i c env v hi ⟨rfl, s5', rfl⟩
        rw [Nat.zero_add]
        have hcm := List.mem_of_getElem? hi
        refine ⟨_, _, v, rfl, least_turn (t := t) (hg c (mem_combL.mp hcm).1) (fun f hf => ?_) ?_, rfl, .val (tupS c), ?_⟩
        · have := sub k _ (subc k) ((combL k xs).take i) (fun c hc => List.mem_of_mem_take hc) f hf
          omega
        · have h1 := foldl_len t ((combL k xs).take i) (leastGo t [] (cands k xs))
          have h2 := foldl_len t (cands k xs) []
          have h3 := cands_small xs k
          have h4 := combL_small k xs
          have h5 : ((combL k xs).take i).length ≤ (combL k xs).length := by rw [List.length_take]; omega
          have h6 : k * 2 ^ xs.length ≤ 8 * 2 ^ 8 := Nat.mul_le_mul (by omega) p8
          simp only [List.length_nil] at h2
          omega
        · rw [List.take_add_one, hi, leastGo_append]; rfl)
    rw [Nat.zero_add, List.take_length, ← leastGo_append, ← cands_succ] at e2
    exact ⟨s5', by rw [e1, e2]⟩
  show ((b_least_up_to [.val A, .val (.int n), .fn g, .un, .un, .un, .un, .un] w).bind _) = _
  unfold b_least_up_to
  obtain ⟨env', w', e1, hw, s4, s5, e2⟩ := forGo_ind (W := W0) (γ := gmName 4) (ψ := sFor (iRng combD (aCons (eVar 0) (aCons (eVar 4) aNil))) (gmName 5) (sIf (tPeek 3 (bAnd (bNot (tOf (eCall fAny (aCons (eL (lLc [6] (iSeq (eVar 3)) (gmName 6) tYesM (eCall fAll (aCons (eL (lLc [7] (iSeq (eVar 6)) (gmName 7) tYesM (eOp fIn (eVar 7) (eVar 5)))) aNil)))) aNil)))) (tOf (eTest 2 (eVar 5)))))
      (sApp 3 (eVar 5)) sNil)) (fun i env v => v = w ∧ ∃ s4 s5, env = [.val A, .val (.int n), .fn g, .own ((leastGo t [] (cands i xs)).map tupS), s4, s5, .un, .un]) (fun i : Nat => D.int (0 + (i : Int))) (List.range (n + 1)) 0
      [.val A, .val (.int n), .fn g, .own [], .un, .un, .un, .un] w ⟨rfl, .un, .un, rfl⟩ (by
        rintro i c env v hi ⟨rfl, s4, s5, rfl⟩
        rw [Nat.zero_add]
        have hci : c = i ∧ i < n + 1 := by
          obtain ⟨h1, h2⟩ := List.getElem?_eq_some_iff.mp hi
          rw [List.getElem_range] at h2
          rw [List.length_range] at h1
          exact ⟨h2.symm, h1⟩
        obtain ⟨rfl, hlt⟩ := hci
        obtain ⟨s5', e⟩ := inner c (by omega) (.val (.int (0 + (c : Int)))) s5 .un .un
        have hc' := hc c (by omega)
        refine ⟨_, _, v, rfl, ?_, rfl, .val (.int (0 + (c : Int))), s5', rfl⟩
        rw [Int.zero_add] at e ⊢
        simp only [sFor_s, iRng_s, aCons_s, eVar_s, aNil_s, List.set_cons_succ, List.set_cons_zero, List.getElem?_cons_succ, List.getElem?_cons_zero, Option.bind_some, hc', Option.map_some]
        exact e)
  have er : rng1 [.int ((n : Int) + 1)] = some ((List.range (n + 1)).map fun i : Nat => D.int (0 + (i : Int))) := by
    show (if inR ((n : Int) + 1) then some (intsFrom 0 ((n : Int) + 1).toNat) else none) = _
    rw [if_pos (by unfold DL.inR; exact decide_eq_true (by omega)), show ((n : Int) + 1).toNat = n + 1 by omega]
    rfl
  have em : fMin [.int n, .int xs.length] = some (.int n) := by
    show some (D.int (if (xs.length : Int) < n then _ else _)) = _
    rw [if_neg (by omega)]
  rw [Nat.zero_add, List.length_range] at e2
  rw [hw] at e1
  have s1 : (sSet 3 (vL (lLst aNil)) : SM W0) [.val A, .val (.int n), .fn g, .un, .un, .un, .un, .un] w = some (.nx, [.val A, .val (.int n), .fn g, .own [], .un, .un, .un, .un], w) := by
    simp [show (0 : Nat) ≤ sizeLine from Nat.zero_le _]
  have s2 : iRng rng1 (aCons (eOp fAdd (eCall fMin (aCons (eVar 1) (aCons (eCall fLen (aCons (eVar 0) aNil)) aNil))) (eC (.int 1))) aNil) [.val A, .val (.int n), .fn g, .own [], .un, .un, .un, .un] w
      = some ((List.range (n + 1)).map fun i : Nat => D.int (0 + (i : Int)), w) := by
    have h1 : (aCons (eOp fAdd (eCall fMin (aCons (eVar 1) (aCons (eCall fLen (aCons (eVar 0) aNil)) aNil))) (eC (.int 1))) aNil : AM W0) [.val A, .val (.int n), .fn g, .own [], .un, .un, .un, .un] w = some ([.int ((n : Int) + 1)], w) := by
      simp [hlen, em]
    rw [iRng_s, h1, Option.bind_some]
    dsimp only
    rw [er, Option.map_some]
  rw [sSeq_s, s1]
  show ((sSeq _ _ [.val A, .val (.int n), .fn g, .own [], .un, .un, .un, .un] w).bind _) = _
  rw [sSeq_s, sFor_s, s2]
  show (((forGo _ _ ((List.range (n + 1)).map fun i : Nat => D.int (0 + (i : Int))) [.val A, .val (.int n), .fn g, .own [], .un, .un, .un, .un] w).bind _).bind _) = _
  rw [e1, e2]
  show ((sFrz 3 (sRet (eVar 3)) [.val A, .val (.int n), .fn g, .own ((leastGo t [] (cands (n + 1) xs)).map tupS), s4, s5, .un, .un] w).bind _) = _
  rw [sFrz_s, frzE_own (l := (leastGo t [] (cands (n + 1) xs)).map tupS) rfl]
  rfl
theorem m_least_sets {A : D} {xs : List Str} (hA : A = .lst (sts xs) ∨ A = .tup (sts xs)) (h8 : xs.length ≤ 8) {g : D → Option Bool} {t : List Str → Bool} (hg : ∀ s, s.Sublist xs → g (tupS s) = some (t s)) :
    lM 2 b_least_sets g [A] w = some (.lst ((leastSets xs t).map tupS), w) := by
  have hlen : fLen [A] = some (.int xs.length) := by rcases hA with rfl | rfl <;> simp
  have q := m_least_up (w := w) hA h8 hg (Nat.le_refl xs.length)
  show ((b_least_sets [.val A, .fn g] w).bind _) = _
  unfold b_least_sets
  have e : eCallT 1 2 (lM 8 b_least_up_to) (aCons (eVar 0) (aCons (eCall fLen (aCons (eVar 0) aNil)) aNil)) [.val A, .fn g] w = some (.lst ((leastUp (xs.length + 1) xs t).map tupS), w) := by
    show ((aCons (eVar 0) (aCons (eCall fLen (aCons (eVar 0) aNil)) aNil) [.val A, .fn g] w).bind fun p => if p.1.length = 2 then lM 8 b_least_up_to g p.1 p.2 else none) = _
    simp [hlen, q]
  simp [e, leastSets]
end

end K82
namespace K82
open PySem PySem.Spec PyProof.Rows L2 Evl DL NdefX PL Comb
/-! ### the worst loss, rows as tuples, trees -/
section
variable {b : Bool} {h : Hs Str} {w : W0}
theorem find_inr {α : Type} (n : Str → α) {l : List Str} {k : Str} (hk : k ∈ l) : ((l.find? fun p => decide ((Sum.inr p : Key) = Sum.inr k)).map n) = some (n k) := by
  cases q : l.find? fun p => decide ((Sum.inr p : Key) = Sum.inr k) with
  | none =>
    have := List.find?_eq_none.mp q k hk
    simp at this
  | some p =>
    have := List.find?_some q
    have := Sum.inr.inj (of_decide_eq_true this)
    rw [this]; rfl
theorem m_worst (B : Bnd h) : ∃ a ∈ h.ring, (∀ c ∈ h.ring, (h.doorsOf [c]).length ≤ (h.doorsOf [a]).length) ∧ fM 3 b_worst_loss [hD b h] w = some (.str a, w) := by
  let n : Str → Int := fun k => ((h.doorsOf [k]).length : Nat)
  have r0 : h.ring ≠ [] := fun e => by have := B.r1; rw [e] at this; simp at this
  have q1 : kDc [2] (iSeq (eUn (fldD NC fdT "ring") (eVar 0))) (gmName 2) tYesM (eVar 2) (eCall fLen (aCons (eFn 2 (fM 3 b_exposed) (aCons (eVar 0) (aCons (eL (lLst (aCons (eVar 2) aNil))) aNil))) aNil)) [.val (hD b h), .un, .un] w
      = some ((h.ring.map Sum.inr, h.ring.map fun k => .int (n k)), w) := by
    refine kDc_map D.str Sum.inr _ h.ring ?_ (le_line (by have := B.r8; omega)) ?_ fun k hk => ⟨_, _, rfl, rfl, rfl, rfl, ?_⟩
    · simp
    · exact B.wf.ring.map _ fun a b e h => e (Sum.inr.inj h)
    · simp [m_exposed1 B hk, one_le, n]
  obtain ⟨M, hM⟩ : ∃ M, maxI (h.ring.map n) = some M := by
    cases e : h.ring with
    | nil => exact absurd e r0
    | cons x r => exact ⟨_, rfl⟩
  have hM2 : M ∈ h.ring.map n ∧ ∀ y ∈ h.ring.map n, y ≤ M := by
    cases e : h.ring.map n with
    | nil => rw [e] at hM; cases hM
    | cons x r =>
      rw [e] at hM
      cases hM
      exact maxI_spec r x
  have fm : fMaxV (.dic (h.ring.map Sum.inr) (h.ring.map fun k => .int (n k))) = some (.int M) := by
    show (if (h.ring.map (Sum.inr : Str → Key)).length = (h.ring.map fun k => D.int (n k)).length then (asInts (h.ring.map fun k => D.int (n k))).bind fun ns => (maxI ns).map D.int else none) = _
    rw [if_pos (by simp), asInts_map]
    show (maxI (h.ring.map n)).map D.int = _
    rw [hM]; rfl
  have q2 : lLc [2] (iSeq (eUn (fldD NC fdT "ring") (eVar 0))) (gmName 2) (tOf (eOp fEq (eOp fGet (eVar 1) (eVar 2)) (eUn fMaxV (eVar 1)))) (eVar 2) [.val (hD b h), .val (.dic (h.ring.map Sum.inr) (h.ring.map fun k => .int (n k))), .un] w
      = some ((h.ring.filter fun k => decide (n k = M)).map D.str, w) := by
    refine lLc_map D.str _ _ h.ring ?_ (le_line (by have := B.r8; omega)) fun k hk => ⟨_, rfl, ?_, fun _ => ?_⟩
    · simp
    · have lk := lookD_map (fun p : Str => (Sum.inr p : Key)) (fun p => D.int (n p)) h.ring (.inr k)
      have lk2 : lookD (h.ring.map Sum.inr) (h.ring.map fun k => .int (n k)) (.inr k) = some (.int (n k)) := lk.trans (find_inr (fun p => D.int (n p)) hk)
      simp [fm, lk2]
    · simp
  obtain ⟨a, ha, ea⟩ := List.mem_map.mp hM2.1
  cases e : h.ring.filter fun k => decide (n k = M) with
  | nil =>
    have : a ∈ h.ring.filter fun k => decide (n k = M) := List.mem_filter.mpr ⟨ha, decide_eq_true ea⟩
    rw [e] at this; simp at this
  | cons c r =>
    have hc : c ∈ h.ring.filter fun k => decide (n k = M) := by rw [e]; exact List.mem_cons_self
    obtain ⟨c1, c2⟩ := List.mem_filter.mp hc
    have c2 := of_decide_eq_true c2
    refine ⟨c, c1, fun y hy => ?_, ?_⟩
    · have := hM2.2 (n y) (List.mem_map_of_mem hy)
      rw [← c2] at this
      exact Int.ofNat_le.mp this
    · show ((b_worst_loss [.val (hD b h), .un, .un] w).bind _) = _
      unfold b_worst_loss
      rw [e] at q2
      have q2' : lLc [2] (iSeq (eUn (fldD NC fdT "ring") (eVar 0))) (gmName 2) (tOf (eOp fEq (eOp fGet (eVar 1) (eVar 2)) (eUn fMaxV (eVar 1)))) (eVar 2) [.val (hD b h), .val (.dic (h.ring.map Sum.inr) (h.ring.map fun k => .int (n k))), .un] w = some (.str c :: r.map D.str, w) := q2
      simp [q1, q2']
theorem m_rowed_s {j : Nat} {x : Str} : m_rowed (j + 1) [.str x] w = some (.str x, w) := rfl
theorem m_rowed_n {j : Nat} : m_rowed (j + 1) [.non] w = some (.non, w) := rfl
theorem m_rowed_row {α : Type} {j : Nat} {d : D} {f : α → D} {l : List α} (hd : d = .lst (l.map f) ∨ d = .tup (l.map f)) (hl : l.length ≤ 1000) (hf : ∀ x ∈ l, m_rowed (j + 1) [f x] w = some (f x, w)) : m_rowed (j + 2) [d] w = some (.tup (l.map f), w) := by
  have hs : seqD d = some (l.map f) := by rcases hd with rfl | rfl <;> rfl
  have hr : fM 1 b_is_row [d] w = some (.bl true, w) := by rcases hd with rfl | rfl <;> rfl
  have q : lLc [1] (iSeq (eVar 0)) (gmName 1) tYesM (eFn 1 (m_rowed (j + 1)) (aCons (eVar 1) aNil)) [.val d, .un] w = some (l.map f, w) := by
    refine lLc_all f f l ?_ (le_line hl) fun x hx => ⟨_, rfl, rfl, ?_⟩
    · simp [hs]
    · simp [hf x hx]
  show ((b_rowed (m_rowed (j + 1)) [.val d, .un] w).bind _) = _
  unfold b_rowed
  simp [hr, q]
def optD : Option Str → D
  | some x => .str x
  | none => .non
@[simp] theorem optD_none : optD none = .non := rfl
@[simp] theorem optD_some {x : Str} : optD (some x) = .str x := rfl
theorem rowed_opt {j : Nat} (o : Option Str) : m_rowed (j + 1) [optD o] w = some (optD o, w) := by cases o <;> rfl
theorem m_Fork_init {x y z : D} : iM fdT 4 cFork b_Forkdd_initdd [x, y, z] w = some ([x, y, z], w) := rfl
theorem m_Tree_init {l : List (Option Str)} (hl : l.length ≤ 1000) : iM fdT 2 cTree b_Treedd_initdd [.lst (l.map optD)] w = some ([.tup (l.map optD)], w) := by
  have q := m_rowed_row (w := w) (j := 2) (f := optD) (l := l) (.inl rfl) hl fun o _ => rowed_opt o
  show ((b_Treedd_initdd [.obj cTree [], .val (.lst (l.map optD))] w).bind _) = _
  unfold b_Treedd_initdd
  simp [q, objAt, fdT]
/-- what judge_tree gives -/
inductive TreeR (h : Hs Str) : D → Prop
  | fork (one first last : Str) (h1 : one ∈ h.ring) (h2 : first ∈ h.above one) (h3 : last ∈ h.above one) (h4 : h.apart first last = true) : TreeR h (.ins cFork [.str one, .str first, .str last])
  | tree (hh : ∀ one ∈ h.ring, ∀ x ∈ h.above one, ∀ y ∈ h.above one, h.apart x y = false) : TreeR h (.ins cTree [.tup (h.ring.map fun one => optD (h.leastAbove one).head?)])
theorem m_judge_tree (B : Bnd h) : ∃ d, TreeR h d ∧ fM 9 b_judge_tree [hD b h] w = some (d, w) := by
  have r8 := B.r8
  -- the pairs above one
  have inner : ∀ (F : Sl) (one : Str), one ∈ h.ring → ∀ s4 s5 s6 s7 s8 : Sl,
      (∃ d env', forGo (gmTup 2 (gmCons (gmName 4) (gmCons (gmName 5) gmNil))) (sIf (tOf (eFn 3 (fM 6 b_are_apart) (aCons (eVar 0) (aCons (eVar 4) (aCons (eVar 5) aNil)))))
        (sRet (eMk cFork 3 (iM fdT 4 cFork b_Forkdd_initdd) (aCons (eVar 2) (aCons (eVar 4) (aCons (eVar 5) aNil))))) sNil) ((combL 2 (h.above one)).map tupS) [.val (hD b h), F, .val (.str one), .val (.lst (sts (h.above one))), s4, s5, s6, s7, s8] w = some (.rt d, env', w) ∧ TreeR h d) ∨
      ∃ env', forGo (gmTup 2 (gmCons (gmName 4) (gmCons (gmName 5) gmNil))) (sIf (tOf (eFn 3 (fM 6 b_are_apart) (aCons (eVar 0) (aCons (eVar 4) (aCons (eVar 5) aNil)))))
        (sRet (eMk cFork 3 (iM fdT 4 cFork b_Forkdd_initdd) (aCons (eVar 2) (aCons (eVar 4) (aCons (eVar 5) aNil))))) sNil) ((combL 2 (h.above one)).map tupS) [.val (hD b h), F, .val (.str one), .val (.lst (sts (h.above one))), s4, s5, s6, s7, s8] w = some (.nx, env', w) ∧
        (∃ t4 t5, env' = [.val (hD b h), F, .val (.str one), .val (.lst (sts (h.above one))), t4, t5, s6, s7, s8]) ∧ ∀ x ∈ h.above one, ∀ y ∈ h.above one, h.apart x y = false := by
    intro F one hone s4 s5 s6 s7 s8
    have := forGo_or (w := w) (γ := gmTup 2 (gmCons (gmName 4) (gmCons (gmName 5) gmNil))) (ψ := sIf (tOf (eFn 3 (fM 6 b_are_apart) (aCons (eVar 0) (aCons (eVar 4) (aCons (eVar 5) aNil)))))
        (sRet (eMk cFork 3 (iM fdT 4 cFork b_Forkdd_initdd) (aCons (eVar 2) (aCons (eVar 4) (aCons (eVar 5) aNil))))) sNil)
      (fun i env => (∃ t4 t5, env = [.val (hD b h), F, .val (.str one), .val (.lst (sts (h.above one))), t4, t5, s6, s7, s8]) ∧ ∀ j, j < i → ∀ x y, (combL 2 (h.above one))[j]? = some [x, y] → h.apart x y = false) (TreeR h) tupS (combL 2 (h.above one)) 0
      [.val (hD b h), F, .val (.str one), .val (.lst (sts (h.above one))), s4, s5, s6, s7, s8] ⟨⟨_, _, rfl⟩, fun j hj => absurd hj (by omega)⟩ (by
        rintro i c env hi ⟨⟨t4, t5, rfl⟩, hap⟩
        rw [Nat.zero_add] at *
        obtain ⟨c1, c2⟩ := mem_combL.mp (List.mem_of_getElem? hi)
        obtain ⟨x, y, rfl⟩ : ∃ x y, c = [x, y] := by
          match c, c2 with
          | [x, y], _ => exact ⟨x, y, rfl⟩
        have hx : x ∈ h.above one := c1.subset (by simp)
        have hy : y ∈ h.above one := c1.subset (by simp)
        have xr := (above_sub h one).subset hx
        have yr := (above_sub h one).subset hy
        refine ⟨[.val (hD b h), F, .val (.str one), .val (.lst (sts (h.above one))), .val (.str x), .val (.str y), s6, s7, s8], by simp, ?_⟩
        cases ha : h.apart x y with
        | true => exact .inl ⟨.ins cFork [.str one, .str x, .str y], [.val (hD b h), F, .val (.str one), .val (.lst (sts (h.above one))), .val (.str x), .val (.str y), s6, s7, s8], by simp [m_apart B xr yr, ha, m_Fork_init], .fork one x y hone hx hy ha⟩
        | false =>
          refine .inr ⟨[.val (hD b h), F, .val (.str one), .val (.lst (sts (h.above one))), .val (.str x), .val (.str y), s6, s7, s8], by simp [m_apart B xr yr, ha], ⟨_, _, rfl⟩, fun j hj x' y' e => ?_⟩
          by_cases z : j < i
          · exact hap j z x' y' e
          · have : j = i := by omega
            subst this
            rw [hi] at e
            cases e
            exact ha)
    rcases this with z | ⟨env', e1, e2, e3⟩
    · exact .inl z
    · refine .inr ⟨env', e1, e2, comb2_all (fun a b e => by rw [apart_symm]; exact e) (fun a => apart_irr) fun x y hm => ?_⟩
      obtain ⟨j, hj⟩ := List.mem_iff_getElem?.mp hm
      exact e3 j (by have := (List.getElem?_eq_some_iff.mp hj).1; omega) x y hj
  -- the least above one
  have least : ∀ (F s4 s5 s6 s7 s8 : Sl) (one : Str), one ∈ h.ring → lLc [7] (iSeq (eVar 3)) (gmName 7) (bNot (tOf (eCall fAny (aCons (eL (lLc [8] (iSeq (eVar 3)) (gmName 8) tYesM (eFn 3 (fM 6 b_is_below_key) (aCons (eVar 0) (aCons (eVar 8) (aCons (eVar 7) aNil)))))) aNil)))) (eVar 7)
      [.val (hD b h), F, .val (.str one), .val (.lst (sts (h.above one))), s4, s5, s6, s7, s8] w = some ((h.leastAbove one).map D.str, w) := by
    intro F s4 s5 s6 s7 s8 one hone
    have al := above_len B one
    refine lLc_map D.str _ _ (h.above one) ?_ (le_line (by omega)) fun late hlate => ⟨_, rfl, ?_, fun _ => ?_⟩
    · simp
    · have q : lLc [8] (iSeq (eVar 3)) (gmName 8) tYesM (eFn 3 (fM 6 b_is_below_key) (aCons (eVar 0) (aCons (eVar 8) (aCons (eVar 7) aNil)))) [.val (hD b h), F, .val (.str one), .val (.lst (sts (h.above one))), s4, s5, s6, .val (.str late), s8] w
          = some ((h.above one).map fun o => .bl (h.below o late), w) := by
        refine lLc_all D.str _ (h.above one) ?_ (le_line (by omega)) fun o ho => ⟨_, rfl, rfl, ?_⟩
        · simp
        · simp [m_below B ((above_sub h one).subset ho) ((above_sub h one).subset hlate)]
      simp [q]
    · simp
  have main := forGo_or (w := w) (γ := gmName 2) (ψ := (sSeq (sSet 3 (vE (eFn 2 (fM 3 b_above) (aCons (eVar 0) (aCons (eVar 2) aNil)))))
     (sSeq (sFor (iRng combD (aCons (eVar 3) (aCons (eC (.int 2)) aNil))) (gmTup 2 (gmCons (gmName 4) (gmCons (gmName 5) gmNil)))
     (sIf (tOf (eFn 3 (fM 6 b_are_apart) (aCons (eVar 0) (aCons (eVar 4) (aCons (eVar 5) aNil)))))
     (sRet (eMk cFork 3 (iM fdT 4 cFork b_Forkdd_initdd) (aCons (eVar 2) (aCons (eVar 4) (aCons (eVar 5) aNil)))))
     sNil))
     (sSeq (sSet 6 (vE (eL (lLc [7] (iSeq (eVar 3)) (gmName 7) (bNot (tOf (eCall fAny (aCons (eL (lLc [8] (iSeq (eVar 3)) (gmName 8) tYesM (eFn 3 (fM 6 b_is_below_key) (aCons (eVar 0) (aCons (eVar 8) (aCons (eVar 7) aNil)))))) aNil)))) (eVar 7)))))
     (sApp 1 (eIf (tOf (eOp fNe (eVar 6) (eL (lLst aNil)))) (eOp fIx (eVar 6) (eC (.int 0))) (eC .non)))))))
    (fun i env => (∃ s2 s3 s4 s5 s6 s7 s8, env = [.val (hD b h), .own ((h.ring.take i).map fun one => optD (h.leastAbove one).head?), s2, s3, s4, s5, s6, s7, s8]) ∧ ∀ j, j < i → ∀ one, h.ring[j]? = some one → ∀ x ∈ h.above one, ∀ y ∈ h.above one, h.apart x y = false) (TreeR h) D.str h.ring 0
    [.val (hD b h), .own [], .un, .un, .un, .un, .un, .un, .un] ⟨⟨_, _, _, _, _, _, _, rfl⟩, fun j hj => absurd hj (by omega)⟩ (by
      rintro i one env hi ⟨⟨s2, s3, s4, s5, s6, s7, s8, rfl⟩, hap⟩
      rw [Nat.zero_add] at *
      have hone := List.mem_of_getElem? hi
      have hil := (List.getElem?_eq_some_iff.mp hi).1
      refine ⟨_, rfl, ?_⟩
      have cd : combD [.lst (sts (h.above one)), .int 2] = some ((combL 2 (h.above one)).map tupS) := combD_map 2 (by omega) _
      rcases inner (.own ((h.ring.take i).map fun one => optD (h.leastAbove one).head?)) one hone s4 s5 s6 s7 s8 with ⟨d, env', e1, e2⟩ | ⟨env', e1, ⟨t4, t5, e2⟩, e3⟩
      · exact .inl ⟨d, env', by simp [-List.map_take, m_above B hone, cd, e1], e2⟩
      · subst e2
        have l1 := least (.own ((h.ring.take i).map fun one => optD (h.leastAbove one).head?)) t4 t5 s6 s7 s8 one hone
        have lsub : (h.leastAbove one).Sublist (h.above one) := List.filter_sublist
        have sk : ∀ x ∈ h.leastAbove one, Sok x := fun x hx => above_sok B one x (lsub.subset hx)
        have nn := enc_str.nnil (by omega) sk
        have sz : min i h.ring.length < sizeLine := by unfold sizeLine; omega
        refine .inr ⟨[.val (hD b h), .own ((h.ring.take (i + 1)).map fun one => optD (h.leastAbove one).head?), .val (.str one), .val (.lst (sts (h.above one))), t4, t5, .val (.lst (sts (h.leastAbove one))), s7, s8], ?_, ⟨_, _, _, _, _, _, _, rfl⟩, fun j hj o ho => ?_⟩
        · rw [List.take_add_one, hi]
          cases hl : h.leastAbove one with
          | nil =>
            rw [hl] at l1 nn
            have nn' : fNe (.lst []) (.lst []) = some (.bl false) := rfl
            simp only [List.map_nil] at l1
            simp [-List.map_take, m_above B hone, cd, e1, l1, nn', sz, hl]
          | cons x r =>
            rw [hl] at l1 nn
            have nn' : fNe (.lst (.str x :: r.map D.str)) (.lst []) = some (.bl true) := by simpa using nn
            simp only [List.map_cons] at l1
            simp [-List.map_take, m_above B hone, cd, e1, l1, nn', sz, hl]
        · by_cases z : j < i
          · exact hap j z o ho
          · have : j = i := by omega
            subst this
            rw [hi] at ho
            cases ho
            exact e3)
  show ∃ d, TreeR h d ∧ ((b_judge_tree [.val (hD b h), .un, .un, .un, .un, .un, .un, .un, .un] w).bind _) = _
  unfold b_judge_tree
  rcases main with ⟨d, env', e1, e2⟩ | ⟨env', e1, ⟨s2, s3, s4, s5, s6, s7, s8, e2⟩, e3⟩
  · exact ⟨d, e2, by simp [e1, show (0 : Nat) ≤ sizeLine from Nat.zero_le _]⟩
  · subst e2
    rw [Nat.zero_add, List.take_length] at e1
    have ti := m_Tree_init (w := w) (l := h.ring.map fun one => (h.leastAbove one).head?) (by rw [List.length_map]; omega)
    rw [List.map_map] at ti
    have ti' : iM fdT 2 cTree b_Treedd_initdd [.lst (h.ring.map fun one => optD (h.leastAbove one).head?)] w = some ([.tup (h.ring.map fun one => optD (h.leastAbove one).head?)], w) := ti
    refine ⟨.ins cTree [.tup (h.ring.map fun one => optD (h.leastAbove one).head?)], .tree fun one ho => ?_, by simp [e1, show (0 : Nat) ≤ sizeLine from Nat.zero_le _, ti']⟩
    obtain ⟨j, hj⟩ := List.mem_iff_getElem?.mp ho
    exact e3 j (by have := (List.getElem?_eq_some_iff.mp hj).1; omega) one hj
end

end K82
namespace K82
open PySem PySem.Spec PyProof.Rows L2 Evl DL NdefX PL Comb
/-! ### issues -/
section
variable {b : Bool} {h : Hs Str} {w : W0}
theorem least_small {xs : List Str} {t : List Str → Bool} (h8 : xs.length ≤ 8) : (leastSets xs t).length ≤ 3000 := by
  have h2 := foldl_len t (cands (xs.length + 1) xs) []
  have h3 := cands_small xs (xs.length + 1)
  have p8 : (2 : Nat) ^ xs.length ≤ 2 ^ 8 := Nat.pow_le_pow_right (by omega) h8
  have h6 : (xs.length + 1) * 2 ^ xs.length ≤ 9 * 2 ^ 8 := Nat.mul_le_mul (by omega) p8
  simp only [List.length_nil] at h2
  show (leastGo t [] (cands (xs.length + 1) xs)).length ≤ _
  omega
theorem inHouse_sok (B : Bnd h) (ds : List Str) : ∀ x ∈ h.inHouse ds, Sok x := fun x hx => B.ds x (List.mem_filter.mp hx).1
theorem inHouse_len (B : Bnd h) (ds : List Str) : (h.inHouse ds).length ≤ 8 := by
  have : (h.inHouse ds).length ≤ (names h.doors).length := (List.filter_sublist (p := fun d => decide (d ∈ ds)) (l := names h.doors)).length_le
  have := B.d8
  simp only [names, List.length_map] at *
  omega
theorem m_in_house (B : Bnd h) {d : D} {ds : List Str} (r : Row d ds) : fM 3 b_in_house [hD b h, d] w = some (.lst (sts (h.inHouse ds)), w) := by
  have q : lLc [2] (iSeq (eMeth cHouse 0 (fM 3 b_House_door_names) (eVar 0) aNil)) (gmName 2) (tOf (eOp fIn (eVar 2) (eVar 1))) (eVar 2) [.val (hD b h), .val d, .un] w = some (((names h.doors).filter fun x => decide (x ∈ ds)).map D.str, w) := by
    refine lLc_map D.str _ _ (names h.doors) ?_ (le_line ?_) fun x hx => ⟨_, rfl, ?_, fun _ => ?_⟩
    · simp [hD_fold, m_door_names B.d8]
    · have := B.d8
      simp only [names, List.length_map] at *
      omega
    · simp [r.in_]
    · simp
  show ((b_in_house [.val (hD b h), .val d, .un] w).bind _) = _
  unfold b_in_house
  simp [q, Hs.inHouse]
theorem lam_least_issues (B : Bnd h) {ds : List Str} {s : List Str} (hs : s.Sublist h.ring) : lamG 4 g_least_issues_l1 [hD b h, .lst (sts (h.inHouse ds))] (tupS s) = some ((h.inHouse ds).all fun d => h.opens d s) := by
  refine lamG_of fun w => ?_
  have hl : s.length ≤ 1000 := by have := hs.length_le; have := B.r8; omega
  have q : lLc [3] (iSeq (eVar 2)) (gmName 3) tYesM (eFn 3 (fM 4 b_opens) (aCons (eVar 1) (aCons (eVar 3) (aCons (eVar 0) aNil)))) [.val (tupS s), .val (hD b h), .val (.lst (sts (h.inHouse ds))), .un] w
      = some ((h.inHouse ds).map fun d => .bl (h.opens d s), w) := by
    refine lLc_all D.str _ (h.inHouse ds) ?_ (le_line (by have := inHouse_len B ds; omega)) fun d hd => ⟨_, rfl, rfl, ?_⟩
    · simp
    · simp [m_opens B (List.mem_filter.mp hd).1 (Row.t s) (fun k hk => hs.subset hk) hl]
  show g_least_issues_l1 [.val (tupS s), .val (hD b h), .val (.lst (sts (h.inHouse ds))), .un] w = _
  unfold g_least_issues_l1
  simp [q]
theorem m_least_issues (B : Bnd h) {d : D} {ds : List Str} (r : Row d ds) (hd : ∀ x ∈ ds, x ∈ names h.doors) (hl : ds.length ≤ 1000) : fM 6 b_least_issues [hD b h, d] w = some (.lst ((h.leastIssues ds).map tupS), w) := by
  have ls := m_least_sets (w := w) (A := .tup (sts h.ring)) (xs := h.ring) (g := lamG 4 g_least_issues_l1 [hD b h, .lst (sts (h.inHouse ds))]) (t := fun s => (h.inHouse ds).all fun d => h.opens d s) (.inr rfl) B.r8 fun s hs => lam_least_issues B hs
  generalize hG : leastSets h.ring (fun s => (h.inHouse ds).all fun d => h.opens d s) = G at ls
  have ok := leastUp_ok (h.ring.length + 1) h.ring fun s => (h.inHouse ds).all fun d => h.opens d s
  have hGs : ∀ s ∈ G, s.Sublist h.ring := fun s hs => ok.sub s (by rw [← hG] at hs; exact hs)
  have hGl : G.length ≤ 3000 := by rw [← hG]; exact least_small B.r8
  have q : lLc [4] (iSeq (eVar 2)) (gmName 4) (tOf (eOp fEq (eFn 2 (fM 3 b_doors_of) (aCons (eVar 0) (aCons (eVar 4) aNil))) (eVar 3))) (eVar 4) [.val (hD b h), .val d, .val (.lst (G.map tupS)), .val (.lst (sts (h.inHouse ds))), .un, .un] w
      = some ((G.filter fun s => decide (h.doorsOf s = h.inHouse ds)).map tupS, w) := by
    refine lLc_map tupS _ _ G ?_ (by unfold sizeLine; omega) fun s hs => ⟨_, rfl, ?_, fun _ => ?_⟩
    · simp
    · have sl : s.length ≤ 1000 := by have := (hGs s hs).length_le; have := B.r8; omega
      have e := enc_str.eq_lst (by omega) (doors_sok B s) (inHouse_sok B ds)
      simp [m_doors_of B (Row.t s) (fun k hk => (hGs s hs).subset hk) sl, e]
    · simp
  show ((b_least_issues [.val (hD b h), .val d, .un, .un, .un, .un] w).bind _) = _
  unfold b_least_issues
  have ec : eCallLam [0, 3] 1 4 g_least_issues_l1 (lM 2 b_least_sets) (aCons (eUn (fldD NC fdT "ring") (eVar 0)) aNil) [.val (hD b h), .val d, .un, .val (.lst (sts (h.inHouse ds))), .un, .un] w = some (.lst (G.map tupS), w) := by
    unfold eCallLam
    have cap : capE [.val (hD b h), .val d, .un, .val (.lst (sts (h.inHouse ds))), .un, .un] [0, 3] = some [hD b h, .lst (sts (h.inHouse ds))] := rfl
    rw [cap]
    simp [ls]
  simp [m_check_doors B r hd hl, m_in_house B r, ec, q, Hs.leastIssues, hG]
theorem m_Issue_init {d : D} {s : List Str} (r : Row d s) (hl : s.length ≤ 1000) : iM fdT 2 cIssue b_Issuedd_initdd [d] w = some ([tupS s], w) := by
  have q := m_rowed_row (w := w) (j := 2) (d := d) (f := D.str) (l := s) (by cases r <;> simp) hl fun o _ => m_rowed_s
  show ((b_Issuedd_initdd [.obj cIssue [], .val d] w).bind _) = _
  unfold b_Issuedd_initdd
  simp [q, objAt, fdT]
theorem m_judge_issue (B : Bnd h) {d : D} {ds : List Str} (r : Row d ds) (hd : ∀ x ∈ ds, x ∈ names h.doors) (hl : ds.length ≤ 1000) {s : List Str} {q : List (List Str)} (e : h.leastIssues ds = s :: q) (hs : s.Sublist h.ring) : fM 6 b_judge_issue [hD b h, d] w = some (.ins cIssue [tupS s], w) := by
  have li := m_least_issues (b := b) (w := w) B r hd hl
  have ok := leastUp_ok (h.ring.length + 1) h.ring fun s => (h.inHouse ds).all fun d => h.opens d s
  have sk : ∀ x ∈ h.leastIssues ds, ∀ y ∈ x, Sok y := fun x hx y hy => B.rs y ((ok.sub x (List.mem_filter.mp hx).1).subset hy)
  have nn := enc_tup.nnil (by omega) sk
  rw [e] at li nn
  have li' : fM 6 b_least_issues [hD b h, d] w = some (.lst (tupS s :: q.map tupS), w) := li
  have nn' : fNe (.lst (tupS s :: q.map tupS)) (.lst []) = some (.bl true) := by simpa using nn
  have sl : s.length ≤ 1000 := by have := hs.length_le; have := B.r8; omega
  have ii := m_Issue_init (w := w) (Row.t s) sl
  show ((b_judge_issue [.val (hD b h), .val d, .un, .un, .un, .un] w).bind _) = _
  unfold b_judge_issue
  simp [m_check_doors B r hd hl, li', nn', ii]
end

end K82
namespace K82
open PySem PySem.Spec PyProof.Rows L2 Evl DL NdefX PL Comb
/-! ### draws -/
section
variable {ns : List Int} {c : Nat}
theorem rng1_nat {n : Nat} (h : n < 1000000) : rng1 [.int n] = some ((List.range n).map fun i : Nat => D.int (0 + (i : Int))) := by
  show (if DL.inR (n : Int) then some (intsFrom 0 (n : Int).toNat) else none) = _
  rw [if_pos (by unfold DL.inR; exact decide_eq_true (by omega)), Int.toNat_natCast]
  rfl
theorem fMod_s {i j : Int} (h : j ≠ 0) : fMod (.int i) (.int j) = some (.int (i.fmod j)) := by
  show (if decide (j ≠ 0) = true then some (D.int (i.fmod j)) else none) = _
  rw [if_pos (decide_eq_true h)]
theorem fDiv_s {i j : Int} (h : j ≠ 0) (h2 : j.natAbs < 1073741824) : fDiv (.int i) (.int j) = some (.int (i.fdiv j)) := by
  show (if decide (j ≠ 0 ∧ j.natAbs < 1073741824) = true then some (D.int (i.fdiv j)) else none) = _
  rw [if_pos (decide_eq_true ⟨h, h2⟩)]
theorem fMul_l {i j : Int} (h : smallI i = true) : fMul (.int i) (.int j) = some (.int (i * j)) := by
  show (if (smallI i || smallI j) = true then some (D.int (i * j)) else none) = _
  rw [if_pos (by rw [h]; rfl)]
theorem fMul_r {i j : Int} (h : smallI j = true) : fMul (.int i) (.int j) = some (.int (i * j)) := by
  show (if (smallI i || smallI j) = true then some (D.int (i * j)) else none) = _
  rw [if_pos (by rw [h, Bool.or_true])]
theorem small_of {i : Int} (h0 : 0 ≤ i) (h : i < 2147483647) : smallI i = true := by unfold smallI; exact decide_eq_true (by omega)
@[simp] theorem fInt_s {i : Int} : fInt [.int i] = some (.int i) := rfl
theorem fmod_nn {i j : Int} (h : 0 < j) : 0 ≤ i.fmod j ∧ i.fmod j < j := ⟨Int.fmod_nonneg_of_pos i h, Int.fmod_lt_of_pos i h⟩
theorem scr_ne : fNe (.scr ns) (.lst []) = some (.bl (!ns.isEmpty)) := by
  show (eqD (.scr ns) (.lst [])).map _ = _
  have : eqD (.scr ns) (.lst []) = some ns.isEmpty := by
    show (if (D.scr ns).okn 60 && (D.lst []).okn 60 then some (PyData.eqv (D.scr ns).py (D.lst []).py) else none) = _
    cases ns <;> rfl
  rw [this]; rfl
theorem two_le : (2 : Nat) ≤ sizeLine := le_line (by omega)
theorem zero_le' : (0 : Nat) ≤ sizeLine := Nat.zero_le _
theorem m_number (hn63 : ns.length ≤ 63) (i : Nat) (w : W0) : ∃ r : Int, fM 7 b__law_number [.scr ns, .int i] w = some (.int r, w) := by
  show ∃ r : Int, ((b__law_number [.val (.scr ns), .val (.int i), .un, .un, .un, .un, .un] w).bind _) = _
  unfold b__law_number
  have flen : fLen [.scr ns] = some (.int ns.length) := rfl
  -- cell, turn
  obtain ⟨cell, turn, hct⟩ : ∃ cell turn : Int, (sAsg (eIf (tOf (eOp fNe (eVar 0) (eL (lLst aNil)))) (eTup (aCons (eOp fIx (eVar 0) (eOp fMod (eVar 1) (eCall fLen (aCons (eVar 0) aNil)))) (aCons (eOp fDiv (eVar 1) (eCall fLen (aCons (eVar 0) aNil))) aNil))) (eTup (aCons (eC (.int 12345)) (aCons (eC (.int 0)) aNil)))) (gmTup 2 (gmCons (gmName 2) (gmCons (gmName 3) gmNil))) : SM W0)
      [.val (.scr ns), .val (.int i), .un, .un, .un, .un, .un] w = some (.nx, [.val (.scr ns), .val (.int i), .val (.int cell), .val (.int turn), .un, .un, .un], w) := by
    by_cases hn : ns = []
    · refine ⟨12345, 0, ?_⟩
      have e : fNe (.scr ns) (.lst []) = some (.bl false) := by rw [scr_ne, hn]; rfl
      simp [e, zero_le', two_le]
    · have hpos : 0 < ns.length := List.length_pos_iff.mpr hn
      have hl : (ns.length : Int) ≠ 0 := by omega
      have e : fNe (.scr ns) (.lst []) = some (.bl true) := by
        rw [scr_ne]
        cases h : ns with
        | nil => exact absurd h hn
        | cons x r => rfl
      obtain ⟨m1, m2⟩ := fmod_nn (i := (i : Int)) (j := ns.length) (by omega)
      obtain ⟨k, hk⟩ : ∃ k : Nat, ((i : Int).fmod ns.length) = k := ⟨((i : Int).fmod ns.length).toNat, by omega⟩
      have hkl : k < ns.length := by omega
      have ix : fIx (.scr ns) (.int k) = some (.int ns[k]) := by
        show (atI ns (k : Int)).map D.int = _
        rw [DL.atI_nat, List.getElem?_eq_getElem hkl]; rfl
      refine ⟨ns[k], (i : Int).fdiv ns.length, ?_⟩
      simp [e, zero_le', two_le, flen, fMod_s hl, hk, ix, fDiv_s hl (by omega)]
  -- rest
  have fp : fPow (.int 10) (.int 18) = some (.int 1000000000000000000) := by rfl
  obtain ⟨rest, hrest⟩ : ∃ rest : Int, (sSet 4 (vE (eIf (tOf (eOp fLt (eVar 3) (eC (.int 60)))) (eOp fSub (eVar 2) (eOp fPow (eC (.int 10)) (eC (.int 18)))) (eC (.int 0)))) : SM W0)
      [.val (.scr ns), .val (.int i), .val (.int cell), .val (.int turn), .un, .un, .un] w = some (.nx, [.val (.scr ns), .val (.int i), .val (.int cell), .val (.int turn), .val (.int rest), .un, .un], w) := by
    by_cases ht : turn < 60
    · exact ⟨cell - 1000000000000000000, by simp [ht, fp]⟩
    · exact ⟨0, by simp [ht]⟩
  obtain ⟨m1, m2⟩ := fmod_nn (i := turn) (j := 60) (by omega)
  obtain ⟨k, hk⟩ : ∃ k : Nat, turn.fmod 60 = k := ⟨(turn.fmod 60).toNat, by omega⟩
  have hr1 : rng1 [.int k] = some ((List.range k).map fun i : Nat => D.int (0 + (i : Int))) := rng1_nat (by omega)
  obtain ⟨env', he, rest2, s5, hr⟩ := forGo_inv (W := W0) (γ := gmName 5) (ψ := sSet 4 (vE (eOp fDiv (eVar 4) (eC (.int 1009))))) (fun env => ∃ r s5, env = [.val (.scr ns), .val (.int i), .val (.int cell), .val (.int turn), .val (.int r), s5, .un]) (fun i : Nat => D.int (0 + (i : Int))) (List.range k)
    [.val (.scr ns), .val (.int i), .val (.int cell), .val (.int turn), .val (.int rest), .un, .un] w ⟨rest, .un, rfl⟩ (by
      rintro x _ env ⟨r, s5, rfl⟩
      have fd : fDiv (.int r) (.int 1009) = some (.int (r.fdiv 1009)) := fDiv_s (by omega) (by decide)
      exact ⟨_, [.val (.scr ns), .val (.int i), .val (.int cell), .val (.int turn), .val (.int (r.fdiv 1009)), .val (.int (0 + (x : Int))), .un], rfl, by simp [fd], _, _, rfl⟩)
  subst hr
  have hfor : (sFor (iRng rng1 (aCons (eOp fMod (eCall fInt (aCons (eVar 3) aNil)) (eC (.int 60))) aNil)) (gmName 5) (sSet 4 (vE (eOp fDiv (eVar 4) (eC (.int 1009))))) : SM W0)
      [.val (.scr ns), .val (.int i), .val (.int cell), .val (.int turn), .val (.int rest), .un, .un] w = some (.nx, [.val (.scr ns), .val (.int i), .val (.int cell), .val (.int turn), .val (.int rest2), s5, .un], w) := by
    have h1 : (aCons (eOp fMod (eCall fInt (aCons (eVar 3) aNil)) (eC (.int 60))) aNil : AM W0) [.val (.scr ns), .val (.int i), .val (.int cell), .val (.int turn), .val (.int rest), .un, .un] w = some ([.int k], w) := by
      simp [fMod_s (show (60 : Int) ≠ 0 by omega), hk]
    rw [sFor_s, iRng_s, h1, Option.bind_some]
    dsimp only
    rw [hr1, Option.map_some, Option.bind_some]
    exact he
  rw [sSeq_s, hct]
  show ∃ r : Int, ((sSeq _ _ [.val (.scr ns), .val (.int i), .val (.int cell), .val (.int turn), .un, .un, .un] w).bind _) = _
  rw [sSeq_s, hrest]
  show ∃ r : Int, ((sSeq _ _ [.val (.scr ns), .val (.int i), .val (.int cell), .val (.int turn), .val (.int rest), .un, .un] w).bind _) = _
  rw [sSeq_s, hfor]
  show ∃ r : Int, ((sSeq _ _ [.val (.scr ns), .val (.int i), .val (.int cell), .val (.int turn), .val (.int rest2), s5, .un] w).bind _) = _
  by_cases hp : 0 < rest2
  · exact ⟨rest2.fmod 1009, by simp [hp, fMod_s (show (1009 : Int) ≠ 0 by omega)]⟩
  · obtain ⟨b1, b2⟩ := fmod_nn (i := (cell + 977 * (i : Int)) * 48271 + 31 * (ns.length : Int)) (j := 2147483647) (by omega)
    generalize hB : ((cell + 977 * (i : Int)) * 48271 + 31 * (ns.length : Int)).fmod 2147483647 = B at b1 b2
    obtain ⟨c1, c2⟩ := fmod_nn (i := B * B + 40503 * (i : Int)) (j := 2147483629) (by omega)
    generalize hC : (B * B + 40503 * (i : Int)).fmod 2147483629 = C at c1 c2
    refine ⟨(C * 69621 + C.fdiv 977).fmod 2147483587, ?_⟩
    have s1 : smallI 977 = true := by decide
    have s2 : smallI 48271 = true := by decide
    have s3 : smallI 31 = true := by decide
    have s4 : smallI 40503 = true := by decide
    have s6 : smallI 69621 = true := by decide
    have s5' : smallI B = true := small_of b1 b2
    have d1 : fDiv (.int C) (.int 977) = some (.int (C.fdiv 977)) := fDiv_s (by omega) (by decide)
    simp [hp, fMul_l s1, fMul_r s2, fMul_l s3, flen, fMod_s (show (2147483647 : Int) ≠ 0 by omega), hB, fMul_l s5', fMul_l s4, fMod_s (show (2147483629 : Int) ≠ 0 by omega), hC, fMul_r s6, d1, fMod_s (show (2147483587 : Int) ≠ 0 by omega)]
theorem m_take (hn63 : ns.length ≤ 63) {n : Nat} (hn : 0 < n) : ∃ t : Nat, t < n ∧ fM 2 b__law_take [.ob, .int n] (ns, c) = some (.int t, (ns, c + 1)) := by
  obtain ⟨r, hr⟩ := m_number hn63 (c + 1) (ns, c + 1)
  obtain ⟨m1, m2⟩ := fmod_nn (i := r) (j := n) (by omega)
  refine ⟨(r.fmod n).toNat, by omega, ?_⟩
  show ((b__law_take [.val .ob, .val (.int n)] (ns, c)).bind _) = _
  unfold b__law_take
  have d0 : eDraw0 0 [.val .ob, .val (.int n)] (ns, c + 1) = some (.scr ns, (ns, c + 1)) := rfl
  have d1 : eDraw1 0 [.val .ob, .val (.int n)] (ns, c + 1) = some (.int ((c + 1 : Nat) : Int), (ns, c + 1)) := rfl
  have sd : sDraw 0 [.val .ob, .val (.int n)] (ns, c) = some (.nx, [.val .ob, .val (.int n)], (ns, c + 1)) := rfl
  rw [sSeq_s, sd]
  show ((sRet _ [.val .ob, .val (.int n)] (ns, c + 1)).bind _) = _
  have tn : (((r.fmod n).toNat : Nat) : Int) = r.fmod n := by omega
  simp only [sRet_s, eOp_s, eCall_s, aCons_s, eFn_s, d0, d1, aNil_s, Option.bind_some, fInt_s, Option.map_some, List.length_cons, List.length_nil, if_true, hr, eVar_s, List.getElem?_cons_succ, List.getElem?_cons_zero, fMod_s (show (n : Int) ≠ 0 by omega), tn]
theorem m_pick (hn63 : ns.length ≤ 63) {l : List Str} (hl : l ≠ []) (hl2 : l.length ≤ 1000) : ∃ x ∈ l, fM 2 b__law_pick [.ob, .lst (sts l)] (ns, c) = some (.str x, (ns, c + 1)) := by
  have hp : 0 < l.length := List.length_pos_iff.mpr hl
  obtain ⟨t, ht, e⟩ := m_take (c := c) hn63 hp
  refine ⟨l[t], List.getElem_mem _, ?_⟩
  show ((b__law_pick [.val .ob, .val (.lst (sts l))] (ns, c)).bind _) = _
  unfold b__law_pick
  have ix : fIx (.lst (sts l)) (.int t) = some (.str l[t]) := by
    show atI (sts l) (t : Int) = _
    rw [DL.atI_nat, List.getElem?_map, List.getElem?_eq_getElem ht]; rfl
  simp [e, ix]
end

end K82
namespace K82
open PySem PySem.Spec PyProof.Rows L2 Evl DL NdefX PL Comb
/-! ### the drawn house -/
section
variable {ns : List Int}
theorem lcGo_draw {γ : GM} {tt : TM W0} {te : EM W0} {env : Env'} (enc : Str → D) : ∀ (l : List Str) (c : Nat), (∀ x ∈ l, ∀ c, ∃ env1 b, γ (enc x) env = some env1 ∧ tt env1 (ns, c) = some (b, (ns, c + 1)) ∧ te env1 (ns, c + 1) = some (enc x, (ns, c + 1))) →
    ∃ (s : List Str) (c' : Nat), s.Sublist l ∧ lcGo γ tt te (l.map enc) env (ns, c) = some (s.map enc, (ns, c'))
  | [], c, _ => ⟨[], c, .slnil, rfl⟩
  | x :: l, c, h => by
    obtain ⟨env1, b, h1, h2, h3⟩ := h x List.mem_cons_self c
    obtain ⟨s, c', hs, ih⟩ := lcGo_draw enc l (c + 1) fun y hy => h y (List.mem_cons_of_mem _ hy)
    cases b with
    | true =>
      refine ⟨x :: s, c', hs.cons_cons x, ?_⟩
      rw [List.map_cons]
      unfold lcGo
      rw [h1]
      show ((tt env1 (ns, c)).bind _) = _
      rw [h2]
      show ((te env1 (ns, c + 1)).bind _) = _
      rw [h3]
      show (lcGo γ tt te (l.map enc) env (ns, c + 1)).map _ = _
      rw [ih]; rfl
    | false =>
      refine ⟨s, c', hs.cons x, ?_⟩
      rw [List.map_cons]
      unfold lcGo
      rw [h1]
      show ((tt env1 (ns, c)).bind _) = _
      rw [h2]
      exact ih
theorem lLc_draw {vs : List Nat} {ι : AM W0} {γ : GM} {tt : TM W0} {te : EM W0} {env : Env'} {c : Nat} (enc : Str → D) (l : List Str) (hi : ι env (ns, c) = some (l.map enc, (ns, c))) (hl : l.length ≤ sizeLine)
    (h : ∀ x ∈ l, ∀ c, ∃ env1 b, γ (enc x) (wipeE env vs) = some env1 ∧ tt env1 (ns, c) = some (b, (ns, c + 1)) ∧ te env1 (ns, c + 1) = some (enc x, (ns, c + 1))) : ∃ (s : List Str) (c' : Nat), s.Sublist l ∧ lLc vs ι γ tt te env (ns, c) = some (s.map enc, (ns, c')) := by
  obtain ⟨s, c', hs, e⟩ := lcGo_draw (γ := γ) (tt := tt) (te := te) enc l c h
  refine ⟨s, c', hs, ?_⟩
  unfold lLc
  rw [hi]
  show (if (l.map enc).length ≤ sizeLine then _ else _) = _
  rw [List.length_map, if_pos hl]
  exact e
def numN (x : Str) (i : Nat) : Str := x ++ toString (0 + (i : Int))
theorem fStr_num {i : Nat} (h : i < 10) : fStr [.int (0 + (i : Int))] = some (.str (toString (0 + (i : Int)))) := by
  match i, h with
  | 0, _ => rfl
  | 1, _ => rfl
  | 2, _ => rfl
  | 3, _ => rfl
  | 4, _ => rfl
  | 5, _ => rfl
  | 6, _ => rfl
  | 7, _ => rfl
  | 8, _ => rfl
  | 9, _ => rfl
def keys6 : List Str := ["k1", "k2", "k3", "k4", "k5", "k6"]
theorem keys6_ok : ∀ k ∈ keys6, NameOk k := by
  intro k hk
  simp only [keys6, List.mem_cons, List.not_mem_nil, or_false] at hk
  rcases hk with rfl | rfl | rfl | rfl | rfl | rfl <;> exact ⟨show PyData.strOk _ = true by decide +kernel, fun _ => rfl⟩
theorem keys6_nd : keys6.Nodup := by decide
theorem lN_ok : ∀ i, i < 4 → NameOk (numN "l" i) := by
  intro i h
  match i, h with
  | 0, _ => exact ⟨show PyData.strOk _ = true by decide +kernel, fun _ => rfl⟩
  | 1, _ => exact ⟨show PyData.strOk _ = true by decide +kernel, fun _ => rfl⟩
  | 2, _ => exact ⟨show PyData.strOk _ = true by decide +kernel, fun _ => rfl⟩
  | 3, _ => exact ⟨show PyData.strOk _ = true by decide +kernel, fun _ => rfl⟩
theorem dN_ok : ∀ i, i < 3 → NameOk (numN "d" i) := by
  intro i h
  match i, h with
  | 0, _ => exact ⟨show PyData.strOk _ = true by decide +kernel, fun _ => rfl⟩
  | 1, _ => exact ⟨show PyData.strOk _ = true by decide +kernel, fun _ => rfl⟩
  | 2, _ => exact ⟨show PyData.strOk _ = true by decide +kernel, fun _ => rfl⟩
theorem fAdd_num {x : Str} (hx : x.length = 1) {i : Nat} (h : i < 10) : fAdd (.str x) (.str (toString (0 + (i : Int)))) = some (.str (numN x i)) := by
  have : (Str.ofString (toString (0 + (i : Int)))).length ≤ 10 := by
    match i, h with
    | 0, _ => decide
    | 1, _ => decide
    | 2, _ => decide
    | 3, _ => decide
    | 4, _ => decide
    | 5, _ => decide
    | 6, _ => decide
    | 7, _ => decide
    | 8, _ => decide
    | 9, _ => decide
  show (if x.length + (Str.ofString (toString (0 + (i : Int)))).length ≤ sizeLine then _ else _) = _
  rw [if_pos (le_line (by omega))]
  rfl
theorem num_nd : ((List.range 4).map (numN "l")).Nodup ∧ ((List.range 3).map (numN "d")).Nodup := by decide
theorem num_apart : (∀ i < 4, numN "l" i ∉ keys6) ∧ (∀ i < 3, numN "d" i ∉ keys6 ++ (List.range 4).map (numN "l")) := by decide
/-- what a row of a draw is: its names are numbered, what it lists is of these names -/
theorem rows_of {x : Str} {n : Nat} {l : NMs} {xs taken : List Str} {least : Nat} (hn : names l = (List.range n).map (numN x)) (hx : xs.length ≤ 1000) (hxn : xs.Nodup) (ho : ∀ i, i < n → NameOk (numN x i)) (hd : ((List.range n).map (numN x)).Nodup) (ha : ∀ i, i < n → numN x i ∉ taken)
    (hs : ∀ p ∈ l, p.2.Sublist xs) (hl : ∀ p ∈ l, least ≤ p.2.length) : RowsOk l xs taken least := by
  have key : ∀ p ∈ l, ∃ i, i < n ∧ p.1 = numN x i := by
    intro p hp
    have : p.1 ∈ names l := List.mem_map_of_mem hp
    rw [hn] at this
    obtain ⟨i, hi, e⟩ := List.mem_map.mp this
    exact ⟨i, List.mem_range.mp hi, e.symm⟩
  refine ⟨fun p hp => ?_, by rw [hn]; exact hd, fun p hp => ?_, fun p hp y hy => (hs p hp).subset hy, fun p hp => (hs p hp).nodup hxn, hl, fun p hp => Nat.le_trans (hs p hp).length_le hx⟩
  · obtain ⟨i, hi, e⟩ := key p hp
    rw [e]; exact ho i hi
  · obtain ⟨i, hi, e⟩ := key p hp
    rw [e]; exact ha i hi
theorem range_nd {x : Str} {n m : Nat} (h : n ≤ m) (hd : ((List.range m).map (numN x)).Nodup) : ((List.range n).map (numN x)).Nodup := by
  refine List.Nodup.sublist ((List.Sublist.map _ ?_)) hd
  have : List.range n = (List.range m).take n := by
    rw [List.take_range, Nat.min_eq_left h]
  rw [this]; exact List.take_sublist ..
structure Drawn (ring : List Str) (locks doors : NMs) : Prop where
  ok : HouseOk ring locks doors
  ls : ∀ p ∈ locks, p.2.Sublist ring
  ds : ∀ p ∈ doors, p.2.Sublist (names locks)
  r6 : ring.length ≤ 6
  l4 : locks.length ≤ 4
  d3 : doors.length ≤ 3
theorem Drawn.same {ring : List Str} {locks doors : NMs} (o : Drawn ring locks doors) : mkHs ring locks doors = ⟨ring, locks, doors⟩ := by
  have e : ∀ (l : NMs) (xs : List Str), xs.Nodup → (∀ p ∈ l, p.2.Sublist xs) → (l.map fun p => (p.1, xs.filter fun x => decide (x ∈ p.2))) = l := by
    intro l xs hn hs
    conv => rhs; rw [← List.map_id l]
    refine List.map_congr_left fun p hp => ?_
    show (p.1, _) = p
    rw [sub_filter hn (hs p hp)]
  unfold mkHs
  rw [e locks ring o.ok.rn o.ls, e doors (names locks) o.ok.lk.nd o.ds]
theorem drawn_of {k n m : Nat} {ring : List Str} {locks doors : NMs} (hk : 1 ≤ k) (hr : ring = keys6.take k) (n1 : 1 ≤ n) (hn : n ≤ 4) (m1 : 1 ≤ m) (hm : m ≤ 3) (hL : names locks = (List.range n).map (numN "l")) (hD : names doors = (List.range m).map (numN "d"))
    (ls : ∀ p ∈ locks, p.2.Sublist ring) (ds : ∀ p ∈ doors, p.2.Sublist (names locks) ∧ 1 ≤ p.2.length) : Drawn ring locks doors := by
  have sub : ring.Sublist keys6 := by rw [hr]; exact List.take_sublist ..
  have r6 : ring.length ≤ 6 := sub.length_le
  have rn : ring.Nodup := sub.nodup keys6_nd
  have ll : locks.length = n := by
    have := congrArg List.length hL
    unfold names at this
    simpa using this
  have dl : doors.length = m := by
    have := congrArg List.length hD
    unfold names at this
    simpa using this
  have nl : (names locks).length = n := by unfold names; rw [List.length_map, ll]
  have ln : (names locks).Nodup := by rw [hL]; exact range_nd hn num_nd.1
  refine ⟨⟨?_, by omega, rn, fun x hx => keys6_ok x (sub.subset hx), by omega, by omega, ?_, by omega, by omega, ?_⟩, ls, fun p hp => (ds p hp).1, r6, by omega, by omega⟩
  · rw [hr, List.length_take, show keys6.length = 6 from rfl]; omega
  · exact rows_of (x := "l") hL (by omega) rn (fun i hi => lN_ok i (by omega)) (range_nd hn num_nd.1) (fun i hi z => num_apart.1 i (by omega) (sub.subset z)) ls fun _ _ => Nat.zero_le _
  · refine rows_of (x := "d") hD (by omega) ln (fun i hi => dN_ok i (by omega)) (range_nd hm num_nd.2) (fun i hi z => num_apart.2 i (by omega) ?_) (fun p hp => (ds p hp).1) fun p hp => (ds p hp).2
    rw [List.mem_append] at z ⊢
    refine z.imp (fun z => sub.subset z) fun z => ?_
    rw [hL] at z
    obtain ⟨j, hj, e⟩ := List.mem_map.mp z
    exact List.mem_map.mpr ⟨j, List.mem_range.mpr (by have := List.mem_range.mp hj; omega), e⟩
end

end K82
namespace K82
open PySem PySem.Spec PyProof.Rows L2 Evl DL NdefX PL Comb
/-! ### the walk over the drawn house -/
section
variable {ns : List Int} {c : Nat}
@[simp] theorem kDisp_s {W : Type} {r : Env' → W → Option (List (Key × D) × W)} {env : Env'} {w : W} : kDisp r env w = (r env w).bind fun p => if p.1.length ≤ 15 then some (mrgD ([], []) p.1, p.2) else none := rfl
theorem names_snoc {l : NMs} {x : Str} {s : List Str} : names (l ++ [(x, s)]) = names l ++ [x] := by unfold names; simp
theorem map_snoc {l : NMs} {x : Str} {s : List Str} : l.map pairE ++ [.tup [.str x, .tup (sts s)]] = (l ++ [(x, s)]).map pairE := by simp [pairE]
theorem names_pairs {l : NMs} {env : Env'} {w : W0} {i j : Nat} {own : List Nat} (hij : (wipeE env own)[i]? = env[i]?) (hi : env[i]? = some (.val (.lst (l.map pairE)))) (hj : ∀ v, ((wipeE env own).set j v)[j]? = some v) (hl : l.length ≤ 1000) : lLc own (iSeq (eVar i)) (gmName j) tYesM (eOp fIx (eVar j) (eC (.int 0))) env w = some (sts (names l), w) := by
  have := lLc_all (W := W0) (w := w) (vs := own) (ι := iSeq (eVar i)) (γ := gmName j) (tt := tYesM) (te := eOp fIx (eVar j) (eC (.int 0))) (env := env) pairE (fun p => D.str p.1) l (by simp [hi]) (le_line hl) fun p hp => ⟨(wipeE env own).set j (.val (pairE p)), rfl, rfl, by simp [hj, pairE]⟩
  rw [this]
  unfold names sts
  rw [List.map_map]; rfl
theorem m_drawn (h63 : ns.length ≤ 63) {k : Nat} (hk : 1 ≤ k) : ∃ ring locks doors c', Drawn ring locks doors ∧
    fM 11 b__law_drawn_house [.ob, .int k] (ns, c) = some (.dic [.inr "ring", .inr "locks", .inr "doors"] [.lst (sts ring), .lst (locks.map pairE), .lst (doors.map pairE)], (ns, c')) := by
  obtain ⟨ring, hring⟩ : ∃ ring : List Str, ring = keys6.take k := ⟨_, rfl⟩
  have ringl : ring.length ≤ 6 := by rw [hring, List.length_take]; exact Nat.min_le_right ..
  have i6 : (6 : Nat) ≤ sizeLine := le_line (by omega)
  have i0 : (0 : Nat) ≤ sizeLine := Nat.zero_le _
  have i1 : (1 : Nat) ≤ sizeLine := le_line (by omega)
  have i2 : (2 : Nat) ≤ sizeLine := le_line (by omega)
  have s1 : (sSet 2 (vE (eCut (eL (lLst (aCons (eC (.str "k1")) (aCons (eC (.str "k2")) (aCons (eC (.str "k3")) (aCons (eC (.str "k4")) (aCons (eC (.str "k5")) (aCons (eC (.str "k6")) aNil)))))))) pNone (pSome (eVar 1)))) : SM W0)
      [.val .ob, .val (.int k), .un, .un, .un, .un, .un, .un, .un, .un, .un] (ns, c) = some (.nx, [.val .ob, .val (.int k), .val (.lst (sts ring)), .un, .un, .un, .un, .un, .un, .un, .un], (ns, c)) := by
    have : sts ring = (sts keys6).take k := by rw [hring]; exact List.map_take ..
    rw [this]
    simp [-List.map_take, i6, keys6]
  have s2 : (sSet 3 (vL (lLst aNil)) : SM W0) [.val .ob, .val (.int k), .val (.lst (sts ring)), .un, .un, .un, .un, .un, .un, .un, .un] (ns, c) = some (.nx, [.val .ob, .val (.int k), .val (.lst (sts ring)), .own [], .un, .un, .un, .un, .un, .un, .un], (ns, c)) := by
    simp [i0]
  -- locks
  obtain ⟨t, ht, et⟩ : ∃ u : Nat, u < 4 ∧ fM 2 b__law_take [.ob, .int 4] (ns, c) = some (.int u, (ns, c + 1)) := m_take h63 (n := 4) (by omega)
  obtain ⟨env1, w1, e1, locks, s4, c1, hL, hls, rfl, rfl⟩ := forGo_ind (W := W0) (γ := gmName 4) (ψ := sApp 3 (eTup (aCons (eOp fAdd (eC (.str "l")) (eCall fStr (aCons (eVar 4) aNil))) (aCons (eCall fTuple (aCons (eL (lLc [10] (iSeq (eVar 2)) (gmName 10) (tOf (eOp fLt (eFn 2 (fM 2 b__law_take) (aCons (eVar 0) (aCons (eC (.int 5)) aNil))) (eC (.int 2)))) (eVar 10))) aNil)) aNil))))
    (fun i env w => ∃ (locks : NMs) (s4 : Sl) (c1 : Nat), names locks = (List.range i).map (numN "l") ∧ (∀ p ∈ locks, p.2.Sublist ring) ∧ env = [.val .ob, .val (.int k), .val (.lst (sts ring)), .own (locks.map pairE), s4, .un, .un, .un, .un, .un, .un] ∧ w = (ns, c1))
    (fun i : Nat => D.int (0 + (i : Int))) (List.range (1 + t)) 0 [.val .ob, .val (.int k), .val (.lst (sts ring)), .own [], .un, .un, .un, .un, .un, .un, .un] (ns, c + 1) ⟨[], .un, c + 1, rfl, fun p hp => absurd hp (by simp), rfl, rfl⟩ (by
      rintro i x _ _ hx ⟨locks, s4, c1, hL, hls, rfl, rfl⟩
      obtain ⟨hi, rfl⟩ : i < 1 + t ∧ x = i := by
        obtain ⟨h1, h2⟩ := List.getElem?_eq_some_iff.mp hx
        rw [List.getElem_range] at h2
        exact ⟨by simpa using h1, h2.symm⟩
      rw [Nat.zero_add] at hL
      have il : locks.length < 10 := by
        have := congrArg List.length hL
        unfold names at this
        rw [List.length_map, List.length_map, List.length_range] at this
        omega
      have bl : (locks.map pairE).length < sizeLine := by rw [List.length_map]; unfold sizeLine; omega
      obtain ⟨s, c2, hs, es⟩ := lLc_draw (ns := ns) (c := c1) (vs := [10]) (ι := iSeq (eVar 2)) (γ := gmName 10) (tt := tOf (eOp fLt (eFn 2 (fM 2 b__law_take) (aCons (eVar 0) (aCons (eC (.int 5)) aNil))) (eC (.int 2)))) (te := eVar 10)
        (env := [.val .ob, .val (.int k), .val (.lst (sts ring)), .own (locks.map pairE), .val (.int (0 + (x : Int))), .un, .un, .un, .un, .un, .un]) D.str ring (by simp) (le_line (by omega)) (fun y hy c => by
          obtain ⟨u, hu, eu⟩ : ∃ u : Nat, u < 5 ∧ fM 2 b__law_take [.ob, .int 5] (ns, c) = some (.int u, (ns, c + 1)) := m_take h63 (n := 5) (by omega)
          exact ⟨_, decide ((u : Int) < 2), rfl, by simp [eu], by simp⟩)
      refine ⟨_, [.val .ob, .val (.int k), .val (.lst (sts ring)), .own ((locks ++ [(numN "l" x, s)]).map pairE), .val (.int (0 + (x : Int))), .un, .un, .un, .un, .un, .un], (ns, c2), rfl, ?_, locks ++ [(numN "l" x, s)], _, c2, ?_, ?_, rfl, rfl⟩
      · rw [← map_snoc]
        simp only [sApp_s, eTup_s, aCons_s, eOp_s, eC_s, eCall_s, eVar_s, List.set_cons_succ, List.set_cons_zero, List.getElem?_cons_succ, List.getElem?_cons_zero, aNil_s, Option.bind_some, Option.map_some, fStr_num (show x < 10 by omega), fAdd_num (show ("l" : Str).length = 1 by rfl) (show x < 10 by omega), eL_s, es, fTuple_l, List.length_cons, List.length_nil, if_pos i2]
        rw [if_pos bl]
      · rw [names_snoc, hL, Nat.zero_add, List.range_succ, List.map_append]; rfl
      · intro p hp
        rcases List.mem_append.mp hp with hp | hp
        · exact hls p hp
        · rw [List.mem_singleton.mp hp]; exact hs)
  rw [Nat.zero_add, List.length_range] at hL
  have r1 : rng1 [.int (1 + (t : Int))] = some ((List.range (1 + t)).map fun i : Nat => D.int (0 + (i : Int))) := rng1_nat (n := 1 + t) (by omega)
  have f1 : (iRng rng1 (aCons (eOp fAdd (eC (.int 1)) (eFn 2 (fM 2 b__law_take) (aCons (eVar 0) (aCons (eC (.int 4)) aNil)))) aNil) : AM W0) [.val .ob, .val (.int k), .val (.lst (sts ring)), .own [], .un, .un, .un, .un, .un, .un, .un] (ns, c) = some ((List.range (1 + t)).map fun i : Nat => D.int (0 + (i : Int)), (ns, c + 1)) := by
    rw [iRng_s]
    have : (aCons (eOp fAdd (eC (.int 1)) (eFn 2 (fM 2 b__law_take) (aCons (eVar 0) (aCons (eC (.int 4)) aNil)))) aNil : AM W0) [.val .ob, .val (.int k), .val (.lst (sts ring)), .own [], .un, .un, .un, .un, .un, .un, .un] (ns, c) = some ([.int (1 + (t : Int))], (ns, c + 1)) := by simp [et]
    rw [this, Option.bind_some]
    dsimp only
    rw [r1]; rfl
  have ll : locks.length = 1 + t := by
    have := congrArg List.length hL
    unfold names at this
    simpa using this
  have nl : (names locks).length = 1 + t := by unfold names; rw [List.length_map, ll]
  have np := names_pairs (w := (ns, c1)) (l := locks) (env := [.val .ob, .val (.int k), .val (.lst (sts ring)), .val (.lst (locks.map pairE)), s4, .un, .un, .un, .un, .un, .un]) (i := 3) (j := 8) (own := [8]) rfl rfl (fun _ => rfl) (by omega)
  have s3 : (sPar 5 6 (vE (eL (lLc [8] (iSeq (eVar 3)) (gmName 8) tYesM (eOp fIx (eVar 8) (eC (.int 0)))))) (vL (lLst aNil)) : SM W0) [.val .ob, .val (.int k), .val (.lst (sts ring)), .val (.lst (locks.map pairE)), s4, .un, .un, .un, .un, .un, .un] (ns, c1) =
      some (.nx, [.val .ob, .val (.int k), .val (.lst (sts ring)), .val (.lst (locks.map pairE)), s4, .val (.lst (sts (names locks))), .own [], .un, .un, .un, .un], (ns, c1)) := by
    simp [np, i0]
  -- doors
  obtain ⟨t2, ht2, et2⟩ : ∃ u : Nat, u < 3 ∧ fM 2 b__law_take [.ob, .int 3] (ns, c1) = some (.int u, (ns, c1 + 1)) := m_take h63 (n := 3) (by omega)
  obtain ⟨env1, w1, e2, doors, s4', s7, c3, hD, hds, rfl, rfl⟩ := forGo_ind (W := W0) (γ := gmName 4) (ψ := sSeq (sSet 7 (vE (eCall fTuple (aCons (eL (lLc [9] (iSeq (eVar 5)) (gmName 9) (tOf (eOp fEq (eFn 2 (fM 2 b__law_take) (aCons (eVar 0) (aCons (eC (.int 2)) aNil))) (eC (.int 0)))) (eVar 9))) aNil))))
 (sApp 6 (eTup (aCons (eOp fAdd (eC (.str "d")) (eCall fStr (aCons (eVar 4) aNil))) (aCons (eIf (tOf (eOp fNe (eVar 7) (eTup aNil))) (eVar 7) (eTup (aCons (eFn 2 (fM 2 b__law_pick) (aCons (eVar 0) (aCons (eVar 5) aNil))) aNil))) aNil)))))
    (fun i env w => ∃ (doors : NMs) (s4 s7 : Sl) (c1 : Nat), names doors = (List.range i).map (numN "d") ∧ (∀ p ∈ doors, p.2.Sublist (names locks) ∧ 1 ≤ p.2.length) ∧ env = [.val .ob, .val (.int k), .val (.lst (sts ring)), .val (.lst (locks.map pairE)), s4, .val (.lst (sts (names locks))), .own (doors.map pairE), s7, .un, .un, .un] ∧ w = (ns, c1))
    (fun i : Nat => D.int (0 + (i : Int))) (List.range (1 + t2)) 0 [.val .ob, .val (.int k), .val (.lst (sts ring)), .val (.lst (locks.map pairE)), s4, .val (.lst (sts (names locks))), .own [], .un, .un, .un, .un] (ns, c1 + 1) ⟨[], s4, .un, c1 + 1, rfl, fun p hp => absurd hp (by simp), rfl, rfl⟩ (by
      rintro i x _ _ hx ⟨doors, s4, s7, c1, hD, hds, rfl, rfl⟩
      obtain ⟨hi, rfl⟩ : i < 1 + t2 ∧ x = i := by
        obtain ⟨h1, h2⟩ := List.getElem?_eq_some_iff.mp hx
        rw [List.getElem_range] at h2
        exact ⟨by simpa using h1, h2.symm⟩
      rw [Nat.zero_add] at hD
      have il : doors.length < 10 := by
        have := congrArg List.length hD
        unfold names at this
        rw [List.length_map, List.length_map, List.length_range] at this
        omega
      have bl : (doors.map pairE).length < sizeLine := by rw [List.length_map]; unfold sizeLine; omega
      obtain ⟨s, c2, hs, es⟩ := lLc_draw (ns := ns) (c := c1) (vs := [9]) (ι := iSeq (eVar 5)) (γ := gmName 9) (tt := tOf (eOp fEq (eFn 2 (fM 2 b__law_take) (aCons (eVar 0) (aCons (eC (.int 2)) aNil))) (eC (.int 0)))) (te := eVar 9)
        (env := [.val .ob, .val (.int k), .val (.lst (sts ring)), .val (.lst (locks.map pairE)), .val (.int (0 + (x : Int))), .val (.lst (sts (names locks))), .own (doors.map pairE), s7, .un, .un, .un]) D.str (names locks) (by simp) (le_line (by omega)) (fun y hy c => by
          obtain ⟨u, hu, eu⟩ : ∃ u : Nat, u < 2 ∧ fM 2 b__law_take [.ob, .int 2] (ns, c) = some (.int u, (ns, c + 1)) := m_take h63 (n := 2) (by omega)
          exact ⟨_, decide ((u : Int) = 0), rfl, by simp [eu], by simp⟩)
      have g1 : (sSet 7 (vE (eCall fTuple (aCons (eL (lLc [9] (iSeq (eVar 5)) (gmName 9) (tOf (eOp fEq (eFn 2 (fM 2 b__law_take) (aCons (eVar 0) (aCons (eC (.int 2)) aNil))) (eC (.int 0)))) (eVar 9))) aNil))) : SM W0)
          [.val .ob, .val (.int k), .val (.lst (sts ring)), .val (.lst (locks.map pairE)), .val (.int (0 + (x : Int))), .val (.lst (sts (names locks))), .own (doors.map pairE), s7, .un, .un, .un] (ns, c1) = some (.nx, [.val .ob, .val (.int k), .val (.lst (sts ring)), .val (.lst (locks.map pairE)), .val (.int (0 + (x : Int))), .val (.lst (sts (names locks))), .own (doors.map pairE), .val (.tup (sts s)), .un, .un, .un], (ns, c2)) := by
        simp only [sSet_s, vE_s, eCall_s, aCons_s, eL_s, es, aNil_s, Option.bind_some, Option.map_some, fTuple_l, List.set_cons_succ, List.set_cons_zero]
      have sok : ∀ y ∈ s, Sok y := by
        intro y hy
        have := hs.subset hy
        rw [hL] at this
        obtain ⟨j, hj, rfl⟩ := List.mem_map.mp this
        exact (lN_ok j (by have := List.mem_range.mp hj; omega)).1
      have ne0 : fNe (.tup (sts s)) (.tup []) = some (.bl (!decide (s = []))) := enc_str.tnnil (by omega) sok
      obtain ⟨s', c4, hs', hl', g2⟩ : ∃ (s' : List Str) (c4 : Nat), s'.Sublist (names locks) ∧ 1 ≤ s'.length ∧ (eIf (tOf (eOp fNe (eVar 7) (eTup aNil))) (eVar 7) (eTup (aCons (eFn 2 (fM 2 b__law_pick) (aCons (eVar 0) (aCons (eVar 5) aNil))) aNil)) : EM W0)
          [.val .ob, .val (.int k), .val (.lst (sts ring)), .val (.lst (locks.map pairE)), .val (.int (0 + (x : Int))), .val (.lst (sts (names locks))), .own (doors.map pairE), .val (.tup (sts s)), .un, .un, .un] (ns, c2) = some (.tup (sts s'), (ns, c4)) := by
        by_cases hse : s = []
        · rw [hse] at ne0 ⊢
          obtain ⟨y, hy, ey⟩ := m_pick (c := c2) h63 (l := names locks) (fun z => by rw [z] at nl; simp at nl; omega) (by omega)
          have ne0 : fNe (.tup []) (.tup []) = some (.bl false) := ne0
          exact ⟨[y], c2 + 1, List.singleton_sublist.mpr hy, by simp, by simp [ne0, i0, i1, ey]⟩
        · exact ⟨s, c2, hs, List.length_pos_iff.mpr hse, by simp [ne0, i0, i1, hse]⟩
      refine ⟨_, [.val .ob, .val (.int k), .val (.lst (sts ring)), .val (.lst (locks.map pairE)), .val (.int (0 + (x : Int))), .val (.lst (sts (names locks))), .own ((doors ++ [(numN "d" x, s')]).map pairE), .val (.tup (sts s)), .un, .un, .un], (ns, c4), rfl, ?_, doors ++ [(numN "d" x, s')], _, _, c4, ?_, ?_, rfl, rfl⟩
      · rw [← map_snoc, sSeq_s]
        show ((sSet 7 _ [.val .ob, .val (.int k), .val (.lst (sts ring)), .val (.lst (locks.map pairE)), .val (.int (0 + (x : Int))), .val (.lst (sts (names locks))), .own (doors.map pairE), s7, .un, .un, .un] (ns, c1)).bind _) = _
        rw [g1, Option.bind_some]
        simp only [sApp_s, eTup_s, aCons_s, eOp_s, eC_s, eCall_s, eVar_s, List.set_cons_succ, List.set_cons_zero, List.getElem?_cons_succ, List.getElem?_cons_zero, aNil_s, Option.bind_some, Option.map_some, fStr_num (show x < 10 by omega), fAdd_num (show ("d" : Str).length = 1 by rfl) (show x < 10 by omega), g2, List.length_cons, List.length_nil, if_pos i2]
        rw [if_pos bl]
      · rw [names_snoc, hD, Nat.zero_add, List.range_succ, List.map_append]; rfl
      · intro p hp
        rcases List.mem_append.mp hp with hp | hp
        · exact hds p hp
        · rw [List.mem_singleton.mp hp]; exact ⟨hs', hl'⟩)
  rw [Nat.zero_add, List.length_range] at hD
  have r2 : rng1 [.int (1 + (t2 : Int))] = some ((List.range (1 + t2)).map fun i : Nat => D.int (0 + (i : Int))) := rng1_nat (n := 1 + t2) (by omega)
  have f2 : (iRng rng1 (aCons (eOp fAdd (eC (.int 1)) (eFn 2 (fM 2 b__law_take) (aCons (eVar 0) (aCons (eC (.int 3)) aNil)))) aNil) : AM W0) [.val .ob, .val (.int k), .val (.lst (sts ring)), .val (.lst (locks.map pairE)), s4, .val (.lst (sts (names locks))), .own [], .un, .un, .un, .un] (ns, c1) = some ((List.range (1 + t2)).map fun i : Nat => D.int (0 + (i : Int)), (ns, c1 + 1)) := by
    rw [iRng_s]
    have : (aCons (eOp fAdd (eC (.int 1)) (eFn 2 (fM 2 b__law_take) (aCons (eVar 0) (aCons (eC (.int 3)) aNil)))) aNil : AM W0) [.val .ob, .val (.int k), .val (.lst (sts ring)), .val (.lst (locks.map pairE)), s4, .val (.lst (sts (names locks))), .own [], .un, .un, .un, .un] (ns, c1) = some ([.int (1 + (t2 : Int))], (ns, c1 + 1)) := by simp [et2]
    rw [this, Option.bind_some]
    dsimp only
    rw [r2]; rfl
  refine ⟨ring, locks, doors, c3, drawn_of hk hring (by omega) (by omega) (by omega) (by omega) hL hD hls hds, ?_⟩
  show ((b__law_drawn_house [.val .ob, .val (.int k), .un, .un, .un, .un, .un, .un, .un, .un, .un] (ns, c)).bind _) = _
  unfold b__law_drawn_house
  rw [sSeq_s, s1, Option.bind_some]
  dsimp only
  rw [sSeq_s, s2, Option.bind_some]
  dsimp only
  rw [sSeq_s, sFor_s, f1, Option.bind_some, e1, Option.bind_some]
  dsimp only
  rw [sSeq_s, sFrz_s, frzE_own rfl]
  simp only [List.set_cons_succ, List.set_cons_zero]
  rw [s3, Option.bind_some]
  dsimp only
  rw [sSeq_s, sFor_s, f2, Option.bind_some, e2, Option.bind_some]
  have q1 : ("ring" : Str) ≠ "locks" := by decide
  have q2 : ("ring" : Str) ≠ "doors" := by decide
  have q3 : ("locks" : Str) ≠ "doors" := by decide
  simp [psCons, psNil, mrgD, putD, frzE_own, frzE_val, q1, q2, q3]
end

end K82
namespace K82
open PySem PySem.Spec PyProof.Rows L2 Evl DL NdefX PL Comb
/-! ### the law: what the loops see -/
section
variable {ns : List Int} {h : Hs Str} {b : Bool} {w : W0} {env : Env'} {sp : D}
theorem anyT {v : Nat} {ι : AM W0} {te : EM W0} {l : List Str} (f : Str → Bool) (hi : ι env w = some (sts l, w)) (hl : l.length ≤ 1000) (hx : ∀ x ∈ l, te ((wipeE env [v]).set v (.val (.str x))) w = some (.bl (f x), w)) :
    (tOf (eCall fAny (aCons (eL (lLc [v] ι (gmName v) tYesM te)) aNil)) : TM W0) env w = some (l.any f, w) := by
  have := lLc_all (W := W0) (w := w) (vs := [v]) (ι := ι) (γ := gmName v) (tt := tYesM) (te := te) (env := env) D.str (fun x => D.bl (f x)) l hi (le_line hl) fun x hx' => ⟨(wipeE env [v]).set v (.val (.str x)), rfl, rfl, hx x hx'⟩
  simp [-wipeE_cons, this]
theorem allT {v : Nat} {ι : AM W0} {te : EM W0} {l : List Str} (f : Str → Bool) (hi : ι env w = some (sts l, w)) (hl : l.length ≤ 1000) (hx : ∀ x ∈ l, te ((wipeE env [v]).set v (.val (.str x))) w = some (.bl (f x), w)) :
    (tOf (eCall fAll (aCons (eL (lLc [v] ι (gmName v) tYesM te)) aNil)) : TM W0) env w = some (l.all f, w) := by
  have := lLc_all (W := W0) (w := w) (vs := [v]) (ι := ι) (γ := gmName v) (tt := tYesM) (te := te) (env := env) D.str (fun x => D.bl (f x)) l hi (le_line hl) fun x hx' => ⟨(wipeE env [v]).set v (.val (.str x)), rfl, rfl, hx x hx'⟩
  simp [-wipeE_cons, this]
def rowsD (h : Hs Str) : D := .dic (h.ring.map .inr) (h.ring.map fun k => .lst (sts (h.above k)))
theorem get_row {k : Str} (hk : k ∈ h.ring) : fGet (rowsD h) (.str k) = some (.lst (sts (h.above k))) := by
  show lookD (h.ring.map Sum.inr) (h.ring.map fun k => .lst (sts (h.above k))) (.inr k) = _
  exact (lookD_map (fun p : Str => (Sum.inr p : Key)) (fun p => D.lst (sts (h.above p))) h.ring (.inr k)).trans (find_inr (fun p => D.lst (sts (h.above p))) hk)
theorem row_eq (B : Bnd h) (k l : Str) : fNe (.lst (sts (h.above k))) (.lst (sts (h.above l))) = some (.bl (!decide (h.above k = h.above l))) := enc_str.ne_lst (by omega) (above_sok B k) (above_sok B l)
theorem row_nil (B : Bnd h) (k : Str) : fEq (.lst (sts (h.above k))) (.lst []) = some (.bl (decide (h.above k = []))) := enc_str.nil (by omega) (above_sok B k)
theorem row_nnil (B : Bnd h) (k : Str) : fNe (.lst (sts (h.above k))) (.lst []) = some (.bl (!decide (h.above k = []))) := enc_str.nnil (by omega) (above_sok B k)
/-- the slots of the law from the rows on -/
abbrev LE (ns : List Int) (sp : D) (b : Bool) (h : Hs Str) (s6 s8 s9 s10 s11 s12 s13 s14 s15 s16 : Sl) : Env' :=
  [.val (.scr ns), .val .ob, .val sp, .val (hD b h), .val (.lst (sts h.ring)), .val (.lst (sts (names h.doors))), s6, .val (rowsD h), s8, s9, s10, s11, s12, s13, s14, s15, s16]
abbrev tops_loop1 : SM W0 :=
 (sFor (iSeq (eOp fGet (eVar 7) (eVar 6))) (gmName 8)
 (sIf (bOr (bNot (tOf (eCall fAll (aCons (eL (lLc [9] (iSeq (eOp fGet (eVar 7) (eVar 8))) (gmName 9) tYesM (eOp fIn (eVar 9) (eOp fGet (eVar 7) (eVar 6))))) aNil)))) (bOr (bNot (tOf (eFn 3 (fM 6 b_is_below_key) (aCons (eVar 3) (aCons (eVar 6) (aCons (eVar 8) aNil)))))) (tOf (eOp fLe (eCall fLen (aCons (eFn 2 (fM 3 b_doors_of) (aCons (eVar 3) (aCons (eL (lLst (aCons (eVar 8) aNil))) aNil))) aNil)) (eCall fLen (aCons (eFn 2 (fM 3 b_doors_of) (aCons (eVar 3) (aCons (eL (lLst (aCons (eVar 6) aNil))) aNil))) aNil))))))
 (sRet (eC (.bl false)))
 sNil))
theorem above_ring {k x : Str} (hx : x ∈ h.above k) : x ∈ h.ring := (above_sub h k).subset hx
theorem w_loop1 (B : Bnd h) {one : Str} (ho : one ∈ h.ring) (s8 s9 s10 s11 s12 s13 s14 s15 s16 : Sl) : ∃ t8, tops_loop1 (LE ns sp b h (.val (.str one)) s8 s9 s10 s11 s12 s13 s14 s15 s16) w = some (.nx, LE ns sp b h (.val (.str one)) t8 s9 s10 s11 s12 s13 s14 s15 s16, w) := by
  obtain ⟨env', e, t8, rfl⟩ := forGo_inv (W := W0) (w := w) (γ := gmName 8) (ψ := (sIf (bOr (bNot (tOf (eCall fAll (aCons (eL (lLc [9] (iSeq (eOp fGet (eVar 7) (eVar 8))) (gmName 9) tYesM (eOp fIn (eVar 9) (eOp fGet (eVar 7) (eVar 6))))) aNil)))) (bOr (bNot (tOf (eFn 3 (fM 6 b_is_below_key) (aCons (eVar 3) (aCons (eVar 6) (aCons (eVar 8) aNil)))))) (tOf (eOp fLe (eCall fLen (aCons (eFn 2 (fM 3 b_doors_of) (aCons (eVar 3) (aCons (eL (lLst (aCons (eVar 8) aNil))) aNil))) aNil)) (eCall fLen (aCons (eFn 2 (fM 3 b_doors_of) (aCons (eVar 3) (aCons (eL (lLst (aCons (eVar 6) aNil))) aNil))) aNil))))))
      (sRet (eC (.bl false))) sNil)) (fun env => ∃ s8, env = LE ns sp b h (.val (.str one)) s8 s9 s10 s11 s12 s13 s14 s15 s16) D.str (h.above one) (LE ns sp b h (.val (.str one)) s8 s9 s10 s11 s12 s13 s14 s15 s16) ⟨s8, rfl⟩ (by
    rintro x hx _ ⟨s8, rfl⟩
    have hr := above_ring hx
    obtain ⟨_, hb⟩ := mem_above.mp hx
    have q1 := allT (w := w) (v := 9) (ι := iSeq (eOp fGet (eVar 7) (eVar 8))) (te := eOp fIn (eVar 9) (eOp fGet (eVar 7) (eVar 6))) (env := LE ns sp b h (.val (.str one)) (.val (.str x)) s9 s10 s11 s12 s13 s14 s15 s16) (l := h.above x) (fun y => decide (y ∈ h.above one)) (by simp [get_row hr]) (by have := above_len B x; omega) fun y hy => by simp [get_row ho]
    have q2 : ((h.above x).all fun y => decide (y ∈ h.above one)) = true := by
      rw [List.all_eq_true]
      intro y hy
      obtain ⟨y1, y2⟩ := mem_above.mp hy
      exact decide_eq_true (mem_above.mpr ⟨y1, below_trans B.wf hb y2⟩)
    rw [q2] at q1
    have lt := below_len B.wf hb
    have nle : ¬ ((h.doorsOf [x]).length ≤ (h.doorsOf [one]).length) := by omega
    refine ⟨_, LE ns sp b h (.val (.str one)) (.val (.str x)) s9 s10 s11 s12 s13 s14 s15 s16, rfl, ?_, _, rfl⟩
    rw [sIf_s, bOr_s, bNot_s]
    show ((((tOf _ (LE ns sp b h (.val (.str one)) (.val (.str x)) s9 s10 s11 s12 s13 s14 s15 s16) w).map _).bind _).bind _) = _
    rw [q1]
    simp [m_below B ho hr, hb, m_doors1 B ho, m_doors1 B hr, one_le, nle])
  refine ⟨t8, ?_⟩
  show ((iSeq _ _ w).bind _) = _
  have : (iSeq (eOp fGet (eVar 7) (eVar 6)) : AM W0) (LE ns sp b h (.val (.str one)) s8 s9 s10 s11 s12 s13 s14 s15 s16) w = some (sts (h.above one), w) := by simp [get_row ho]
  rw [this]
  exact e
/-- being above is never back -/
theorem w_if1 (B : Bnd h) {one : Str} (ho : one ∈ h.ring) (s8 s9 s10 s11 s12 s13 s14 s15 s16 : Sl) : (sIf (bOr (tOf (eOp fIn (eVar 6) (eOp fGet (eVar 7) (eVar 6)))) (tOf (eCall fAny (aCons (eL (lLc [8] (iSeq (eOp fGet (eVar 7) (eVar 6))) (gmName 8) tYesM (eOp fIn (eVar 6) (eOp fGet (eVar 7) (eVar 8))))) aNil))))
 (sRet (eC (.bl false))) sNil : SM W0) (LE ns sp b h (.val (.str one)) s8 s9 s10 s11 s12 s13 s14 s15 s16) w = some (.nx, LE ns sp b h (.val (.str one)) s8 s9 s10 s11 s12 s13 s14 s15 s16, w) := by
  have n1 : one ∉ h.above one := fun z => by
    have := (mem_above.mp z).2
    rw [below_irr] at this; cases this
  have q1 := anyT (w := w) (v := 8) (ι := iSeq (eOp fGet (eVar 7) (eVar 6))) (te := eOp fIn (eVar 6) (eOp fGet (eVar 7) (eVar 8))) (env := LE ns sp b h (.val (.str one)) s8 s9 s10 s11 s12 s13 s14 s15 s16) (l := h.above one) (fun y => decide (one ∈ h.above y)) (by simp [get_row ho]) (by have := above_len B one; omega) fun y hy => by simp [get_row (above_ring hy)]
  have q2 : ((h.above one).any fun y => decide (one ∈ h.above y)) = false := by
    rw [List.any_eq_false]
    intro y hy z
    have z := (mem_above.mp (of_decide_eq_true z)).2
    rw [below_asym B.wf (mem_above.mp hy).2] at z
    cases z
  rw [q2] at q1
  have e1 : (tOf (eOp fIn (eVar 6) (eOp fGet (eVar 7) (eVar 6))) : TM W0) (LE ns sp b h (.val (.str one)) s8 s9 s10 s11 s12 s13 s14 s15 s16) w = some (false, w) := by simp [get_row ho, n1]
  rw [sIf_s, bOr_s, e1, Option.bind_some, if_neg (by simp), q1, Option.bind_some, if_neg (by simp)]
  rfl
def Hs.same (h : Hs Str) (one : Str) : List Str := h.ring.filter fun x => decide (h.doorsOf [x] = h.doorsOf [one])
theorem w_same (B : Bnd h) {one : Str} (ho : one ∈ h.ring) (s8 s9 s10 s11 s12 s13 s14 s15 s16 : Sl) : (sSet 10 (vE (eL (lLc [8] (iSeq (eVar 4)) (gmName 8) (tOf (eOp fEq (eFn 2 (fM 3 b_doors_of) (aCons (eVar 3) (aCons (eL (lLst (aCons (eVar 8) aNil))) aNil))) (eFn 2 (fM 3 b_doors_of) (aCons (eVar 3) (aCons (eL (lLst (aCons (eVar 6) aNil))) aNil))))) (eVar 8)))) : SM W0)
    (LE ns sp b h (.val (.str one)) s8 s9 s10 s11 s12 s13 s14 s15 s16) w = some (.nx, LE ns sp b h (.val (.str one)) s8 s9 (.val (.lst (sts (Hs.same h one)))) s11 s12 s13 s14 s15 s16, w) := by
  have q : lLc [8] (iSeq (eVar 4)) (gmName 8) (tOf (eOp fEq (eFn 2 (fM 3 b_doors_of) (aCons (eVar 3) (aCons (eL (lLst (aCons (eVar 8) aNil))) aNil))) (eFn 2 (fM 3 b_doors_of) (aCons (eVar 3) (aCons (eL (lLst (aCons (eVar 6) aNil))) aNil))))) (eVar 8) (LE ns sp b h (.val (.str one)) s8 s9 s10 s11 s12 s13 s14 s15 s16) w
      = some ((Hs.same h one).map D.str, w) := by
    refine lLc_map D.str _ _ h.ring ?_ (le_line (by have := B.r8; omega)) fun l hl => ⟨_, rfl, ?_, fun _ => ?_⟩
    · simp
    · simp [m_doors1 B hl, m_doors1 B ho, one_le, eq_doors B]
    · simp
  simp [q]
theorem w_if2 (B : Bnd h) {one : Str} (ho : one ∈ h.ring) (s8 s9 s11 s12 s13 s14 s15 s16 : Sl) : (sIf (bOr (tOf (eCall fAny (aCons (eL (lLc [8] (iSeq (eVar 10)) (gmName 8) tYesM (eOp fNe (eOp fGet (eVar 7) (eVar 8)) (eOp fGet (eVar 7) (eVar 6))))) aNil))) (tOf (eCall fAny (aCons (eL (lLc [8] (iSeq (eVar 4)) (gmName 8) tYesM (eAnd (eFn 3 (fM 6 b_alike_keys) (aCons (eVar 3) (aCons (eVar 6) (aCons (eVar 8) aNil)))) (eOp fNotIn (eVar 8) (eVar 10))))) aNil))))
 (sRet (eC (.bl false))) sNil : SM W0) (LE ns sp b h (.val (.str one)) s8 s9 (.val (.lst (sts (Hs.same h one)))) s11 s12 s13 s14 s15 s16) w = some (.nx, LE ns sp b h (.val (.str one)) s8 s9 (.val (.lst (sts (Hs.same h one)))) s11 s12 s13 s14 s15 s16, w) := by
  have sl : (Hs.same h one).length ≤ 8 := Nat.le_trans (List.filter_sublist).length_le B.r8
  have q1 := anyT (w := w) (v := 8) (ι := iSeq (eVar 10)) (te := eOp fNe (eOp fGet (eVar 7) (eVar 8)) (eOp fGet (eVar 7) (eVar 6))) (env := LE ns sp b h (.val (.str one)) s8 s9 (.val (.lst (sts (Hs.same h one)))) s11 s12 s13 s14 s15 s16) (l := Hs.same h one) (fun y => !decide (h.above y = h.above one)) (by simp) (by omega) fun y hy => by simp [get_row (List.mem_filter.mp hy).1, get_row ho, row_eq B]
  have q2 : ((Hs.same h one).any fun y => !decide (h.above y = h.above one)) = false := by
    rw [List.any_eq_false]
    intro y hy z
    have := below_congr (of_decide_eq_true (List.mem_filter.mp hy).2)
    simp [this] at z
  rw [q2] at q1
  have q3 := anyT (w := w) (v := 8) (ι := iSeq (eVar 4)) (te := eAnd (eFn 3 (fM 6 b_alike_keys) (aCons (eVar 3) (aCons (eVar 6) (aCons (eVar 8) aNil)))) (eOp fNotIn (eVar 8) (eVar 10))) (env := LE ns sp b h (.val (.str one)) s8 s9 (.val (.lst (sts (Hs.same h one)))) s11 s12 s13 s14 s15 s16) (l := h.ring) (fun _ => false) (by simp) (by have := B.r8; omega) fun y hy => by
    have e := m_alike (w := w) (b := b) B ho hy
    cases ha : Hs.alike h one y with
    | false => rw [ha] at e; simp [e]
    | true =>
      rw [ha] at e
      have : y ∈ Hs.same h one := List.mem_filter.mpr ⟨hy, decide_eq_true (alike_doors B.wf ha).symm⟩
      simp [e, this]
  have q4 : (h.ring.any fun _ => false) = false := by rw [List.any_eq_false]; intro _ _; simp
  rw [q4] at q3
  rw [sIf_s, bOr_s, q1, Option.bind_some, if_neg (by simp), q3, Option.bind_some, if_neg (by simp)]
  rfl
theorem w_if3 (B : Bnd h) {one : Str} (ho : one ∈ h.ring) (s8 s9 s10 s11 s12 s13 s14 s15 s16 : Sl) : (sIf (bOr (bAnd (tOf (eOp fEq (eOp fGet (eVar 7) (eVar 6)) (eL (lLst aNil)))) (tOf (eOp fNotIn (eVar 6) (eFn 1 (fM 2 b_tops) (aCons (eVar 3) aNil))))) (bAnd (tOf (eOp fNe (eOp fGet (eVar 7) (eVar 6)) (eL (lLst aNil)))) (bNot (tOf (eCall fAny (aCons (eL (lLc [8] (iSeq (eOp fGet (eVar 7) (eVar 6))) (gmName 8) tYesM (eOp fIn (eVar 8) (eFn 1 (fM 2 b_tops) (aCons (eVar 3) aNil))))) aNil))))))
 (sRet (eC (.bl false))) sNil : SM W0) (LE ns sp b h (.val (.str one)) s8 s9 s10 s11 s12 s13 s14 s15 s16) w = some (.nx, LE ns sp b h (.val (.str one)) s8 s9 s10 s11 s12 s13 s14 s15 s16, w) := by
  have z0 : (0 : Nat) ≤ sizeLine := Nat.zero_le _
  by_cases hn : h.above one = []
  · have ht : one ∈ h.tops := mem_tops.mpr ⟨ho, hn⟩
    have r1 : fEq (.lst []) (.lst []) = some (.bl true) := by
      have := row_nil B one
      rw [hn] at this; exact this
    have r2 : fNe (.lst []) (.lst []) = some (.bl false) := by
      have := row_nnil B one
      rw [hn] at this; exact this
    simp [get_row ho, r1, r2, m_tops B, ht, hn, z0]
  · have q1 := anyT (w := w) (v := 8) (ι := iSeq (eOp fGet (eVar 7) (eVar 6))) (te := eOp fIn (eVar 8) (eFn 1 (fM 2 b_tops) (aCons (eVar 3) aNil))) (env := LE ns sp b h (.val (.str one)) s8 s9 s10 s11 s12 s13 s14 s15 s16) (l := h.above one) (fun y => decide (y ∈ h.tops)) (by simp [get_row ho]) (by have := above_len B one; omega) fun y hy => by simp [m_tops B]
    obtain ⟨x, hx⟩ := List.exists_mem_of_ne_nil _ hn
    obtain ⟨t, ht, ht2⟩ := above_max B.wf hx
    have q2 : ((h.above one).any fun y => decide (y ∈ h.tops)) = true := List.any_eq_true.mpr ⟨t, ht, decide_eq_true (mem_tops.mpr ⟨above_ring ht, ht2⟩)⟩
    rw [q2] at q1
    have e1 : (tOf (eOp fEq (eOp fGet (eVar 7) (eVar 6)) (eL (lLst aNil))) : TM W0) (LE ns sp b h (.val (.str one)) s8 s9 s10 s11 s12 s13 s14 s15 s16) w = some (false, w) := by simp [get_row ho, row_nil B, hn, z0]
    have e2 : (tOf (eOp fNe (eOp fGet (eVar 7) (eVar 6)) (eL (lLst aNil))) : TM W0) (LE ns sp b h (.val (.str one)) s8 s9 s10 s11 s12 s13 s14 s15 s16) w = some (true, w) := by simp [get_row ho, row_nnil B, hn, z0]
    rw [sIf_s, bOr_s, bAnd_s, e1, Option.bind_some, if_neg (by simp), Option.bind_some, if_neg (by simp), bAnd_s, e2, Option.bind_some, if_pos rfl, bNot_s, q1]
    simp
end

end K82
namespace K82
open PySem PySem.Spec PyProof.Rows L2 Evl DL NdefX PL Comb
/-! ### the law: the rows, the chain, the masters -/
section
variable {ns : List Int} {h : Hs Str} {b : Bool} {w : W0} {env : Env'} {sp : D}
theorem w_for1 (B : Bnd h) (s6 s8 s9 s10 s11 s12 s13 s14 s15 s16 : Sl) : ∃ t6 t8 t10 : Sl,
 (sFor (iSeq (eVar 4)) (gmName 6)
 (sSeq (sIf (bOr (tOf (eOp fIn (eVar 6) (eOp fGet (eVar 7) (eVar 6)))) (tOf (eCall fAny (aCons (eL (lLc [8] (iSeq (eOp fGet (eVar 7) (eVar 6))) (gmName 8) tYesM (eOp fIn (eVar 6) (eOp fGet (eVar 7) (eVar 8))))) aNil))))
 (sRet (eC (.bl false)))
 sNil)
 (sSeq tops_loop1
 (sSeq (sSet 10 (vE (eL (lLc [8] (iSeq (eVar 4)) (gmName 8) (tOf (eOp fEq (eFn 2 (fM 3 b_doors_of) (aCons (eVar 3) (aCons (eL (lLst (aCons (eVar 8) aNil))) aNil))) (eFn 2 (fM 3 b_doors_of) (aCons (eVar 3) (aCons (eL (lLst (aCons (eVar 6) aNil))) aNil))))) (eVar 8)))))
 (sSeq (sIf (bOr (tOf (eCall fAny (aCons (eL (lLc [8] (iSeq (eVar 10)) (gmName 8) tYesM (eOp fNe (eOp fGet (eVar 7) (eVar 8)) (eOp fGet (eVar 7) (eVar 6))))) aNil))) (tOf (eCall fAny (aCons (eL (lLc [8] (iSeq (eVar 4)) (gmName 8) tYesM (eAnd (eFn 3 (fM 6 b_alike_keys) (aCons (eVar 3) (aCons (eVar 6) (aCons (eVar 8) aNil)))) (eOp fNotIn (eVar 8) (eVar 10))))) aNil))))
 (sRet (eC (.bl false)))
 sNil)
 (sIf (bOr (bAnd (tOf (eOp fEq (eOp fGet (eVar 7) (eVar 6)) (eL (lLst aNil)))) (tOf (eOp fNotIn (eVar 6) (eFn 1 (fM 2 b_tops) (aCons (eVar 3) aNil))))) (bAnd (tOf (eOp fNe (eOp fGet (eVar 7) (eVar 6)) (eL (lLst aNil)))) (bNot (tOf (eCall fAny (aCons (eL (lLc [8] (iSeq (eOp fGet (eVar 7) (eVar 6))) (gmName 8) tYesM (eOp fIn (eVar 8) (eFn 1 (fM 2 b_tops) (aCons (eVar 3) aNil))))) aNil))))))
 (sRet (eC (.bl false)))
 sNil))))) : SM W0) (LE ns sp b h s6 s8 s9 s10 s11 s12 s13 s14 s15 s16) w = some (.nx, LE ns sp b h t6 t8 s9 t10 s11 s12 s13 s14 s15 s16, w) := by
  obtain ⟨env', e, t6, t8, t10, rfl⟩ := forGo_inv (W := W0) (w := w) (γ := gmName 6) (ψ := (sSeq (sIf (bOr (tOf (eOp fIn (eVar 6) (eOp fGet (eVar 7) (eVar 6)))) (tOf (eCall fAny (aCons (eL (lLc [8] (iSeq (eOp fGet (eVar 7) (eVar 6))) (gmName 8) tYesM (eOp fIn (eVar 6) (eOp fGet (eVar 7) (eVar 8))))) aNil))))
 (sRet (eC (.bl false)))
 sNil)
 (sSeq tops_loop1
 (sSeq (sSet 10 (vE (eL (lLc [8] (iSeq (eVar 4)) (gmName 8) (tOf (eOp fEq (eFn 2 (fM 3 b_doors_of) (aCons (eVar 3) (aCons (eL (lLst (aCons (eVar 8) aNil))) aNil))) (eFn 2 (fM 3 b_doors_of) (aCons (eVar 3) (aCons (eL (lLst (aCons (eVar 6) aNil))) aNil))))) (eVar 8)))))
 (sSeq (sIf (bOr (tOf (eCall fAny (aCons (eL (lLc [8] (iSeq (eVar 10)) (gmName 8) tYesM (eOp fNe (eOp fGet (eVar 7) (eVar 8)) (eOp fGet (eVar 7) (eVar 6))))) aNil))) (tOf (eCall fAny (aCons (eL (lLc [8] (iSeq (eVar 4)) (gmName 8) tYesM (eAnd (eFn 3 (fM 6 b_alike_keys) (aCons (eVar 3) (aCons (eVar 6) (aCons (eVar 8) aNil)))) (eOp fNotIn (eVar 8) (eVar 10))))) aNil))))
 (sRet (eC (.bl false)))
 sNil)
 (sIf (bOr (bAnd (tOf (eOp fEq (eOp fGet (eVar 7) (eVar 6)) (eL (lLst aNil)))) (tOf (eOp fNotIn (eVar 6) (eFn 1 (fM 2 b_tops) (aCons (eVar 3) aNil))))) (bAnd (tOf (eOp fNe (eOp fGet (eVar 7) (eVar 6)) (eL (lLst aNil)))) (bNot (tOf (eCall fAny (aCons (eL (lLc [8] (iSeq (eOp fGet (eVar 7) (eVar 6))) (gmName 8) tYesM (eOp fIn (eVar 8) (eFn 1 (fM 2 b_tops) (aCons (eVar 3) aNil))))) aNil))))))
 (sRet (eC (.bl false)))
 sNil))))))
    (fun env => ∃ t6 t8 t10 : Sl, env = LE ns sp b h t6 t8 s9 t10 s11 s12 s13 s14 s15 s16) D.str h.ring (LE ns sp b h s6 s8 s9 s10 s11 s12 s13 s14 s15 s16) ⟨_, _, _, rfl⟩ (by
    rintro one ho _ ⟨t6, t8, t10, rfl⟩
    obtain ⟨u8, e1⟩ := w_loop1 (ns := ns) (sp := sp) (b := b) (w := w) B ho t8 s9 t10 s11 s12 s13 s14 s15 s16
    refine ⟨LE ns sp b h (.val (.str one)) t8 s9 t10 s11 s12 s13 s14 s15 s16, LE ns sp b h (.val (.str one)) u8 s9 (.val (.lst (sts (Hs.same h one)))) s11 s12 s13 s14 s15 s16, rfl, ?_, _, _, _, rfl⟩
    rw [sSeq_s, w_if1 B ho, Option.bind_some]
    dsimp only
    rw [sSeq_s, e1, Option.bind_some]
    dsimp only
    rw [sSeq_s, w_same B ho, Option.bind_some]
    dsimp only
    rw [sSeq_s, w_if2 B ho, Option.bind_some]
    dsimp only
    exact w_if3 B ho ..)
  exact ⟨t6, t8, t10, e⟩
abbrev strP (p : Str × Str) : D := .tup [.str p.1, .str p.2]
theorem zip_sts : ∀ (l m : List Str), ((sts l).zip (sts m)).map DL.pairD = (l.zip m).map strP
  | [], _ => rfl
  | _ :: _, [] => rfl
  | x :: l, y :: m => by
    show _ :: ((sts l).zip (sts m)).map DL.pairD = _ :: (l.zip m).map strP
    rw [zip_sts l m]; rfl
theorem zip_self (g : Str → D) : ∀ l : List Str, ((sts l).zip (l.map g)).map DL.pairD = l.map fun x => .tup [.str x, g x]
  | [] => rfl
  | x :: l => by
    show _ :: ((sts l).zip (l.map g)).map DL.pairD = _ :: _
    rw [zip_self g l]; rfl
@[simp] theorem lZip_s {a : AM W0} : lZip a env w = (a env w).bind fun p => match p.1 with
  | [x, y] => (seqN x).bind fun l => (seqN y).map fun m => ((l.zip m).map DL.pairD, p.2)
  | _ => none := rfl
@[simp] theorem seqN_t {l : List D} : seqN (.tup l) = some l := rfl
@[simp] theorem seqN_l {l : List D} : seqN (.lst l) = some l := rfl
@[simp] theorem fNeg_s {i : Int} : fNeg (.int i) = some (.int (-i)) := rfl
theorem w_for2 (B : Bnd h) {c : List Str} (L : Longest h c) (s6 s8 s9 s10 s12 s13 s14 s15 s16 : Sl) : ∃ t9 t12 : Sl,
  (sFor (iSeq (eL (lZip (aCons (eVar 11) (aCons (eCut (eVar 11) (pSome (eC (.int 1))) pNone) aNil))))) (gmTup 2 (gmCons (gmName 12) (gmCons (gmName 9) gmNil)))
 (sIf (tOf (eOp fNotIn (eVar 9) (eOp fGet (eVar 7) (eVar 12))))
 (sRet (eC (.bl false)))
 sNil) : SM W0) (LE ns sp b h s6 s8 s9 s10 (.val (tupS c)) s12 s13 s14 s15 s16) w = some (.nx, LE ns sp b h s6 s8 t9 s10 (.val (tupS c)) t12 s13 s14 s15 s16, w) := by
  obtain ⟨env', e, t9, t12, rfl⟩ := forGo_inv (W := W0) (w := w) (γ := (gmTup 2 (gmCons (gmName 12) (gmCons (gmName 9) gmNil)))) (ψ := (sIf (tOf (eOp fNotIn (eVar 9) (eOp fGet (eVar 7) (eVar 12))))
 (sRet (eC (.bl false)))
 sNil)) (fun env => ∃ t9 t12, env = LE ns sp b h s6 s8 t9 s10 (.val (tupS c)) t12 s13 s14 s15 s16) strP (c.zip c.tail) (LE ns sp b h s6 s8 s9 s10 (.val (tupS c)) s12 s13 s14 s15 s16) ⟨_, _, rfl⟩ (by
    rintro ⟨x, y⟩ hp _ ⟨t9, t12, rfl⟩
    have hy : y ∈ h.above x := L.next _ hp
    have hx : x ∈ h.ring := L.ring x (List.of_mem_zip hp).1
    exact ⟨_, LE ns sp b h s6 s8 (.val (.str y)) s10 (.val (tupS c)) (.val (.str x)) s13 s14 s15 s16, by simp; rfl, by simp [get_row hx, hy], _, _, rfl⟩)
  refine ⟨t9, t12, ?_⟩
  have : (iSeq (eL (lZip (aCons (eVar 11) (aCons (eCut (eVar 11) (pSome (eC (.int 1))) pNone) aNil)))) : AM W0) (LE ns sp b h s6 s8 s9 s10 (.val (tupS c)) s12 s13 s14 s15 s16) w = some ((c.zip c.tail).map strP, w) := by
    have z := zip_sts c c.tail
    have e2 : (sts c).tail = sts c.tail := by cases c <;> rfl
    rw [← z, ← e2]
    simp
  rw [sFor_s, this]
  exact e
theorem w_if4 (B : Bnd h) {c : List Str} (L : Longest h c) (s6 s8 s9 s10 s12 s13 s14 s15 s16 : Sl) : (sIf (bOr (tOf (eOp fNotIn (eOp fIx (eVar 11) (eUn fNeg (eC (.int 1)))) (eFn 1 (fM 2 b_tops) (aCons (eVar 3) aNil)))) (bOr (tOf (eCall fAny (aCons (eL (lLc [6] (iSeq (eVar 4)) (gmName 6) tYesM (eOp fIn (eOp fIx (eVar 11) (eC (.int 0))) (eOp fGet (eVar 7) (eVar 6))))) aNil))) (tOf (eOp fGt (eCall fLen (aCons (eVar 11) aNil)) (eOp fAdd (eCall fLen (aCons (eVar 5) aNil)) (eC (.int 1)))))))
 (sRet (eC (.bl false)))
 sNil : SM W0) (LE ns sp b h s6 s8 s9 s10 (.val (tupS c)) s12 s13 s14 s15 s16) w = some (.nx, LE ns sp b h s6 s8 s9 s10 (.val (tupS c)) s12 s13 s14 s15 s16, w) := by
  have q1 : (tOf (eOp fNotIn (eOp fIx (eVar 11) (eUn fNeg (eC (.int 1)))) (eFn 1 (fM 2 b_tops) (aCons (eVar 3) aNil))) : TM W0) (LE ns sp b h s6 s8 s9 s10 (.val (tupS c)) s12 s13 s14 s15 s16) w = some (false, w) := by
    obtain ⟨x, hx⟩ : ∃ x, c.getLast? = some x := by
      cases e : c.getLast? with
      | none => exact absurd (List.getLast?_eq_none_iff.mp e) L.ne
      | some x => exact ⟨x, rfl⟩
    have ix : fIx (tupS c) (.int (-1)) = some (.str x) := by
      rw [fIx_tm, List.getLast?_map, hx]; rfl
    have hr : x ∈ h.ring := L.ring x (List.mem_of_getLast? hx)
    have ht : x ∈ h.tops := mem_tops.mpr ⟨hr, L.last x hx⟩
    simp [ix, m_tops B, ht]
  obtain ⟨y, r, hc⟩ : ∃ y r, c = y :: r := by
    cases e : c with
    | nil => exact absurd e L.ne
    | cons y r => exact ⟨y, r, rfl⟩
  have q2 := anyT (w := w) (v := 6) (ι := iSeq (eVar 4)) (te := eOp fIn (eOp fIx (eVar 11) (eC (.int 0))) (eOp fGet (eVar 7) (eVar 6))) (env := LE ns sp b h s6 s8 s9 s10 (.val (tupS c)) s12 s13 s14 s15 s16) (l := h.ring) (fun _ => false) (by simp) (by have := B.r8; omega) fun k hk => by
    have := L.first y k (by rw [hc]; rfl) hk
    have ix : fIx (tupS c) (.int 0) = some (.str y) := by rw [hc]; exact fIx_t0
    simp [ix, get_row hk, this]
  have q4 : (h.ring.any fun _ => false) = false := by rw [List.any_eq_false]; intro _ _; simp
  rw [q4] at q2
  have q3 : (tOf (eOp fGt (eCall fLen (aCons (eVar 11) aNil)) (eOp fAdd (eCall fLen (aCons (eVar 5) aNil)) (eC (.int 1)))) : TM W0) (LE ns sp b h s6 s8 s9 s10 (.val (tupS c)) s12 s13 s14 s15 s16) w = some (false, w) := by
    have := L.len
    simp
    omega
  rw [sIf_s, bOr_s, q1, Option.bind_some, if_neg (by simp), bOr_s, q2, Option.bind_some, if_neg (by simp), q3, Option.bind_some, if_neg (by simp)]
  rfl
theorem w_if5 (B : Bnd h) (s6 s8 s9 s10 s11 s12 s13 s14 s15 s16 : Sl) : (sIf (bOr (bAnd (tOf (eOp fNe (eFn 1 (fM 2 b_masters) (aCons (eVar 3) aNil)) (eL (lLst aNil)))) (tOf (eOp fNe (eL (lCall lSorted (aCons (eFn 1 (fM 2 b_tops) (aCons (eVar 3) aNil)) aNil))) (eL (lCall lSorted (aCons (eFn 1 (fM 2 b_masters) (aCons (eVar 3) aNil)) aNil)))))) (tOf (eOp fNotIn (eFn 1 (fM 3 b_worst_loss) (aCons (eVar 3) aNil)) (eFn 1 (fM 2 b_tops) (aCons (eVar 3) aNil)))))
 (sRet (eC (.bl false)))
 sNil : SM W0) (LE ns sp b h s6 s8 s9 s10 s11 s12 s13 s14 s15 s16) w = some (.nx, LE ns sp b h s6 s8 s9 s10 s11 s12 s13 s14 s15 s16, w) := by
  have z0 : (0 : Nat) ≤ sizeLine := Nat.zero_le _
  have mr : ∀ x ∈ h.masters, Sok x := fun x hx => B.rs x (List.mem_filter.mp hx).1
  have ml : h.masters.length ≤ 8 := Nat.le_trans (List.filter_sublist).length_le B.r8
  obtain ⟨a, ha, hm, ew⟩ := m_worst (w := w) (b := b) B
  have ht : a ∈ h.tops := worst_top B.wf ha hm
  have q2 : (tOf (eOp fNotIn (eFn 1 (fM 3 b_worst_loss) (aCons (eVar 3) aNil)) (eFn 1 (fM 2 b_tops) (aCons (eVar 3) aNil))) : TM W0) (LE ns sp b h s6 s8 s9 s10 s11 s12 s13 s14 s15 s16) w = some (false, w) := by simp [ew, m_tops B, ht]
  have q1 : (bAnd (tOf (eOp fNe (eFn 1 (fM 2 b_masters) (aCons (eVar 3) aNil)) (eL (lLst aNil)))) (tOf (eOp fNe (eL (lCall lSorted (aCons (eFn 1 (fM 2 b_tops) (aCons (eVar 3) aNil)) aNil))) (eL (lCall lSorted (aCons (eFn 1 (fM 2 b_masters) (aCons (eVar 3) aNil)) aNil))))) : TM W0) (LE ns sp b h s6 s8 s9 s10 s11 s12 s13 s14 s15 s16) w = some (false, w) := by
    have e1 : fNe (.lst (sts h.masters)) (.lst []) = some (.bl (!decide (h.masters = []))) := enc_str.nnil (by omega) mr
    by_cases hz : h.masters = []
    · simp [m_masters B, e1, z0, hz] at e1 ⊢
      simp [e1]
    · have tm := tops_masters B.wf hz
      have sl : lSorted [.lst (sts h.masters)] = some (sts (sortS h.masters)) := by
        show (asStrs (h.masters.map D.str)).bind _ = _
        rw [DL.strs_map, Option.bind_some, if_pos (by omega)]
      have sk : ∀ x ∈ sortS h.masters, Sok x := fun x hx => mr x ((sortS_perm h.masters).mem_iff.mp hx)
      have e2 : fNe (.lst (sts (sortS h.masters))) (.lst (sts (sortS h.masters))) = some (.bl (!decide (sortS h.masters = sortS h.masters))) := enc_str.ne_lst (by omega) sk sk
      simp [m_masters B, m_tops B, e1, z0, hz, tm, sl, e2]
  rw [sIf_s, bOr_s, q1, Option.bind_some, if_neg (by simp), q2, Option.bind_some, if_neg (by simp)]
  rfl
end

end K82
namespace K82
open PySem PySem.Spec PyProof.Rows L2 Evl DL NdefX PL Comb
/-! ### the law: the tree -/
section
variable {ns : List Int} {h : Hs Str} {b : Bool} {w : W0} {env : Env'} {sp : D}
abbrev tree_body : SM W0 :=
 (sSeq (sIf (tOf (eOp fNe (eOp fIsN (eVar 14) (eC .non)) (eOp fEq (eOp fGet (eVar 7) (eVar 6)) (eL (lLst aNil)))))
 (sRet (eC (.bl false)))
 sNil)
 (sIf (bAnd (tOf (eOp fNotN (eVar 14) (eC .non))) (bOr (tOf (eOp fNotIn (eVar 14) (eOp fGet (eVar 7) (eVar 6)))) (tOf (eCall fAny (aCons (eL (lLc [8] (iSeq (eOp fGet (eVar 7) (eVar 6))) (gmName 8) tYesM (eAnd (eOp fNotIn (eVar 8) (eOp fGet (eVar 7) (eVar 14))) (eOp fNe (eFn 2 (fM 3 b_doors_of) (aCons (eVar 3) (aCons (eL (lLst (aCons (eVar 8) aNil))) aNil))) (eFn 2 (fM 3 b_doors_of) (aCons (eVar 3) (aCons (eL (lLst (aCons (eVar 14) aNil))) aNil))))))) aNil)))))
 (sRet (eC (.bl false)))
 sNil))
theorem w_tree1 (B : Bnd h) (hh : ∀ one ∈ h.ring, ∀ x ∈ h.above one, ∀ y ∈ h.above one, h.apart x y = false) {one : Str} (ho : one ∈ h.ring) (s8 s9 s10 s11 s12 s13 s15 s16 : Sl) :
    tree_body (LE ns sp b h (.val (.str one)) s8 s9 s10 s11 s12 s13 (.val (optD (h.leastAbove one).head?)) s15 s16) w = some (.nx, LE ns sp b h (.val (.str one)) s8 s9 s10 s11 s12 s13 (.val (optD (h.leastAbove one).head?)) s15 s16, w) := by
  have z0 : (0 : Nat) ≤ sizeLine := Nat.zero_le _
  cases e : (h.leastAbove one).head? with
  | none =>
    have e : h.leastAbove one = [] := by
      cases z : h.leastAbove one with
      | nil => rfl
      | cons x r => rw [z] at e; cases e
    have en : h.above one = [] := Classical.byContradiction fun z => leastAbove_ne B.wf z e
    have r1 : fEq (.lst (sts (h.above one))) (.lst []) = some (.bl true) := by rw [row_nil B one, decide_eq_true en]
    have g1 : (sIf (tOf (eOp fNe (eOp fIsN (eVar 14) (eC .non)) (eOp fEq (eOp fGet (eVar 7) (eVar 6)) (eL (lLst aNil))))) (sRet (eC (.bl false))) sNil : SM W0) (LE ns sp b h (.val (.str one)) s8 s9 s10 s11 s12 s13 (.val .non) s15 s16) w = some (.nx, LE ns sp b h (.val (.str one)) s8 s9 s10 s11 s12 s13 (.val .non) s15 s16, w) := by
      simp only [sIf_s, tOf_s, eOp_s, eVar_s, List.getElem?_cons_succ, List.getElem?_cons_zero, eC_s, eL_s, lLst_s, aNil_s, Option.bind_some, Option.map_some, fIsN_s, isNon_n, get_row ho, List.length_nil, if_pos z0, r1, fNe_bl, decide_true, Bool.not_true, asB_s, Bool.false_eq_true, if_false, sNil_s]
    unfold tree_body
    rw [sSeq_s]
    show ((sIf _ _ _ (LE ns sp b h (.val (.str one)) s8 s9 s10 s11 s12 s13 (.val .non) s15 s16) w).bind _) = _
    rw [g1, Option.bind_some]
    simp
  | some p =>
    have hp : p ∈ h.leastAbove one := by
      cases z : h.leastAbove one with
      | nil => rw [z] at e; cases e
      | cons x r => rw [z] at e; cases e; exact List.mem_cons_self
    have hpa : p ∈ h.above one := (List.mem_filter.mp hp).1
    have hpr := above_ring hpa
    have ne : h.above one ≠ [] := fun z => by rw [z] at hpa; simp at hpa
    have r1 : fEq (.lst (sts (h.above one))) (.lst []) = some (.bl false) := by rw [row_nil B one, decide_eq_false ne]
    have g1 : (sIf (tOf (eOp fNe (eOp fIsN (eVar 14) (eC .non)) (eOp fEq (eOp fGet (eVar 7) (eVar 6)) (eL (lLst aNil))))) (sRet (eC (.bl false))) sNil : SM W0) (LE ns sp b h (.val (.str one)) s8 s9 s10 s11 s12 s13 (.val (.str p)) s15 s16) w = some (.nx, LE ns sp b h (.val (.str one)) s8 s9 s10 s11 s12 s13 (.val (.str p)) s15 s16, w) := by
      simp only [sIf_s, tOf_s, eOp_s, eVar_s, List.getElem?_cons_succ, List.getElem?_cons_zero, eC_s, eL_s, lLst_s, aNil_s, Option.bind_some, Option.map_some, fIsN_s, isNon_s, get_row ho, List.length_nil, if_pos z0, r1, fNe_bl, decide_true, Bool.not_true, asB_s, Bool.false_eq_true, if_false, sNil_s]
    have q := anyT (w := w) (v := 8) (ι := iSeq (eOp fGet (eVar 7) (eVar 6))) (te := (eAnd (eOp fNotIn (eVar 8) (eOp fGet (eVar 7) (eVar 14))) (eOp fNe (eFn 2 (fM 3 b_doors_of) (aCons (eVar 3) (aCons (eL (lLst (aCons (eVar 8) aNil))) aNil))) (eFn 2 (fM 3 b_doors_of) (aCons (eVar 3) (aCons (eL (lLst (aCons (eVar 14) aNil))) aNil)))))) (env := LE ns sp b h (.val (.str one)) s8 s9 s10 s11 s12 s13 (.val (.str p)) s15 s16) (l := h.above one) (fun _ => false) (by simp [get_row ho]) (by have := above_len B one; omega) fun o hoa => by
      have hor := above_ring hoa
      by_cases hn : o ∈ h.above p
      · simp [get_row hpr, hn]
      · have := leastAbove_ok hp hoa (hh one ho o hoa p hpa) hn
        simp [get_row hpr, hn, m_doors1 B hor, m_doors1 B hpr, one_le, ne_doors B, this]
    have q4 : ((h.above one).any fun _ => false) = false := by rw [List.any_eq_false]; intro _ _; simp
    rw [q4] at q
    have g2 : (tOf (eOp fNotN (eVar 14) (eC .non)) : TM W0) (LE ns sp b h (.val (.str one)) s8 s9 s10 s11 s12 s13 (.val (.str p)) s15 s16) w = some (true, w) := by simp
    have g3 : (tOf (eOp fNotIn (eVar 14) (eOp fGet (eVar 7) (eVar 6))) : TM W0) (LE ns sp b h (.val (.str one)) s8 s9 s10 s11 s12 s13 (.val (.str p)) s15 s16) w = some (false, w) := by simp [get_row ho, hpa]
    unfold tree_body
    rw [sSeq_s]
    show ((sIf _ _ _ (LE ns sp b h (.val (.str one)) s8 s9 s10 s11 s12 s13 (.val (.str p)) s15 s16) w).bind _) = _
    rw [g1, Option.bind_some]
    show (sIf _ _ _ (LE ns sp b h (.val (.str one)) s8 s9 s10 s11 s12 s13 (.val (.str p)) s15 s16) w) = _
    rw [sIf_s, bAnd_s, g2, Option.bind_some, if_pos rfl, bOr_s, g3, Option.bind_some, if_neg (by simp), q, Option.bind_some, if_neg (by simp)]
    rfl
theorem w_tree (B : Bnd h) {d : D} (R : TreeR h d) (s6 s8 s9 s10 s11 s12 s14 s15 s16 : Sl) : ∃ t6 t14 : Sl,
  (sIf (tTru tiA (eVar 13))
 (sFor (iSeq (eL (lZip (aCons (eVar 4) (aCons (eUn (fldD NC fdT "rows") (eVar 13)) aNil))))) (gmTup 2 (gmCons (gmName 6) (gmCons (gmName 14) gmNil)))
 tree_body)
 sNil : SM W0) (LE ns sp b h s6 s8 s9 s10 s11 s12 (.val d) s14 s15 s16) w = some (.nx, LE ns sp b h t6 s8 s9 s10 s11 s12 (.val d) t14 s15 s16, w) := by
  cases R with
  | fork one first last h1 h2 h3 h4 =>
    have t : tru tiA (.ins cFork [.str one, .str first, .str last]) = some false := rfl
    exact ⟨s6, s14, by simp [t]⟩
  | tree hh =>
    have t : tru tiA (.ins cTree [.tup (h.ring.map fun one => optD (h.leastAbove one).head?)]) = some true := rfl
    obtain ⟨env', e, t6, t14, rfl⟩ := forGo_inv (W := W0) (w := w) (γ := (gmTup 2 (gmCons (gmName 6) (gmCons (gmName 14) gmNil)))) (ψ := tree_body) (fun env => ∃ t6 t14, env = LE ns sp b h t6 s8 s9 s10 s11 s12 (.val (.ins cTree [.tup (h.ring.map fun one => optD (h.leastAbove one).head?)])) t14 s15 s16)
      (fun x => D.tup [.str x, optD (h.leastAbove x).head?]) h.ring (LE ns sp b h s6 s8 s9 s10 s11 s12 (.val (.ins cTree [.tup (h.ring.map fun one => optD (h.leastAbove one).head?)])) s14 s15 s16) ⟨_, _, rfl⟩ (by
      rintro x hx _ ⟨t6, t14, rfl⟩
      exact ⟨_, _, by simp, w_tree1 B hh hx .., _, _, rfl⟩)
    refine ⟨t6, t14, ?_⟩
    have : (iSeq (eL (lZip (aCons (eVar 4) (aCons (eUn (fldD NC fdT "rows") (eVar 13)) aNil)))) : AM W0) (LE ns sp b h s6 s8 s9 s10 s11 s12 (.val (.ins cTree [.tup (h.ring.map fun one => optD (h.leastAbove one).head?)])) s14 s15 s16) w = some (h.ring.map fun x => .tup [.str x, optD (h.leastAbove x).head?], w) := by
      rw [← zip_self]
      have fr : fldD NC fdT "rows" (.ins cTree [.tup (h.ring.map fun one => optD (h.leastAbove one).head?)]) = some (.tup (h.ring.map fun one => optD (h.leastAbove one).head?)) := rfl
      simp [fr]
    rw [sIf_s]
    show ((tTru tiA (eVar 13) (LE ns sp b h s6 s8 s9 s10 s11 s12 (.val (.ins cTree [.tup (h.ring.map fun one => optD (h.leastAbove one).head?)])) s14 s15 s16) w).bind _) = _
    have g : (tTru tiA (eVar 13) : TM W0) (LE ns sp b h s6 s8 s9 s10 s11 s12 (.val (.ins cTree [.tup (h.ring.map fun one => optD (h.leastAbove one).head?)])) s14 s15 s16) w = some (true, w) := by
      rw [tTru_s, eVar_s]
      simp only [List.getElem?_cons_succ, List.getElem?_cons_zero, Option.bind_some, t]
      rfl
    rw [g, Option.bind_some, if_pos rfl]
    show (sFor _ _ _ (LE ns sp b h s6 s8 s9 s10 s11 s12 (.val (.ins cTree [.tup (h.ring.map fun one => optD (h.leastAbove one).head?)])) s14 s15 s16) w) = _
    rw [sFor_s, this]
    exact e
theorem w_fork (B : Bnd h) {d : D} (R : TreeR h d) (s6 s8 s9 s10 s11 s12 s14 s15 s16 : Sl) :
  (sIf (bAnd (bNot (tTru tiA (eVar 13))) (bOr (tOf (eOp fNotIn (eUn (fldD NC fdT "first") (eVar 13)) (eOp fGet (eVar 7) (eUn (fldD NC fdT "one") (eVar 13))))) (bOr (tOf (eOp fNotIn (eUn (fldD NC fdT "last") (eVar 13)) (eOp fGet (eVar 7) (eUn (fldD NC fdT "one") (eVar 13))))) (bOr (tOf (eOp fIn (eUn (fldD NC fdT "last") (eVar 13)) (eOp fGet (eVar 7) (eUn (fldD NC fdT "first") (eVar 13))))) (tOf (eOp fIn (eUn (fldD NC fdT "first") (eVar 13)) (eOp fGet (eVar 7) (eUn (fldD NC fdT "last") (eVar 13)))))))))
 (sRet (eC (.bl false)))
 sNil : SM W0) (LE ns sp b h s6 s8 s9 s10 s11 s12 (.val d) s14 s15 s16) w = some (.nx, LE ns sp b h s6 s8 s9 s10 s11 s12 (.val d) s14 s15 s16, w) := by
  cases R with
  | fork one first last h1 h2 h3 h4 =>
    have t : tru tiA (.ins cFork [.str one, .str first, .str last]) = some false := rfl
    have f1 : fldD NC fdT "one" (.ins cFork [.str one, .str first, .str last]) = some (.str one) := rfl
    have f2 : fldD NC fdT "first" (.ins cFork [.str one, .str first, .str last]) = some (.str first) := rfl
    have f3 : fldD NC fdT "last" (.ins cFork [.str one, .str first, .str last]) = some (.str last) := rfl
    have g2 := above_ring h2
    have g3 := above_ring h3
    obtain ⟨n1, n2⟩ := apart_above h4
    simp [t, f1, f2, f3, get_row h1, get_row g2, get_row g3, h2, h3, n1, n2]
  | tree hh =>
    have t : tru tiA (.ins cTree [.tup (h.ring.map fun one => optD (h.leastAbove one).head?)]) = some true := rfl
    simp [t]
end

end K82
namespace K82
open PySem PySem.Spec PyProof.Rows L2 Evl DL NdefX PL Comb
/-! ### the law: fewer doors, the issue -/
section
variable {ns : List Int} {h : Hs Str} {w : W0} {env : Env'} {ring : List Str} {locks doors : NMs}
def specD (ring : List Str) (locks doors : NMs) : D := .dic [.inr "ring", .inr "locks", .inr "doors"] [.lst (sts ring), .lst (locks.map pairE), .lst (doors.map pairE)]
theorem spec_ring : fGet (specD ring locks doors) (.str "ring") = some (.lst (sts ring)) := rfl
theorem spec_locks : fGet (specD ring locks doors) (.str "locks") = some (.lst (locks.map pairE)) := rfl
theorem spec_doors : fGet (specD ring locks doors) (.str "doors") = some (.lst (doors.map pairE)) := rfl
theorem Drawn.init (o : Drawn ring locks doors) : iM fdT 8 cHouse b_Housedd_initdd [.lst (sts ring), .lst (locks.map pairE), .lst (doors.map pairE)] w = some ([.pt (sts ring), .pt (locks.map pairE), .pt (doors.map pairE)], w) := by
  have := m_House_init (w := w) (e := fun s => .tup (sts s)) (e' := fun s => .tup (sts s)) (fun s => Row.t s) (fun s => Row.t s) o.ok
  rw [rawE_pair, o.same] at this
  exact this
theorem Drawn.bnd (o : Drawn ring locks doors) : Bnd (⟨ring, locks, doors⟩ : Hs Str) := by
  have := o.ok.bnd
  rw [o.same] at this; exact this
theorem Drawn.house (o : Drawn ring locks doors) : fM 1 b__law_house [specD ring locks doors] w = some (hD true ⟨ring, locks, doors⟩, w) := by
  show ((b__law_house [.val (specD ring locks doors)] w).bind _) = _
  unfold b__law_house
  simp [spec_ring, spec_locks, spec_doors, o.init, hD, rgD]
theorem names_sub {l m : NMs} (s : m.Sublist l) : (names m).Sublist (names l) := List.Sublist.map _ s
theorem Drawn.less (o : Drawn ring locks doors) (h2 : 1 < doors.length) : Drawn ring locks doors.dropLast := by
  have s : doors.dropLast.Sublist doors := List.dropLast_sublist _
  have l : doors.dropLast.length = doors.length - 1 := List.length_dropLast ..
  have dk := o.ok.dk
  have d8 := o.ok.d8
  have d3 := o.d3
  refine ⟨⟨o.ok.r1, o.ok.r8, o.ok.rn, o.ok.ro, o.ok.l1, o.ok.l8, o.ok.lk, by omega, by omega, ?_⟩, o.ls, fun p hp => o.ds p (s.subset hp), o.r6, o.l4, by omega⟩
  exact ⟨fun p hp => dk.ok p (s.subset hp), (names_sub s).nodup dk.nd, fun p hp => dk.ap p (s.subset hp), fun p hp => dk.sub p (s.subset hp), fun p hp => dk.sn p (s.subset hp), fun p hp => dk.le p (s.subset hp), fun p hp => dk.sl p (s.subset hp)⟩
abbrev less_body : SM W0 :=
 (sFor (iSeq (eOp fGet (eVar 7) (eVar 6))) (gmName 8)
 (sIf (bAnd (tOf (eOp fNotIn (eVar 8) (eFn 2 (fM 3 b_above) (aCons (eVar 15) (aCons (eVar 6) aNil))))) (tOf (eOp fNe (eFn 2 (fM 3 b_doors_of) (aCons (eVar 15) (aCons (eL (lLst (aCons (eVar 8) aNil))) aNil))) (eFn 2 (fM 3 b_doors_of) (aCons (eVar 15) (aCons (eL (lLst (aCons (eVar 6) aNil))) aNil))))))
 (sRet (eC (.bl false)))
 sNil))
theorem w_less1 {sp : D} {b : Bool} (B : Bnd h) {h2 : Hs Str} (e2 : h2 = ⟨h.ring, h.locks, h.doors.dropLast⟩) (B2 : Bnd h2) {one : Str} (ho : one ∈ h.ring) (s8 s9 s10 s11 s12 s13 s14 s16 : Sl) : ∃ t8 : Sl,
    less_body (LE ns sp b h (.val (.str one)) s8 s9 s10 s11 s12 s13 s14 (.val (hD true h2)) s16) w = some (.nx, LE ns sp b h (.val (.str one)) t8 s9 s10 s11 s12 s13 s14 (.val (hD true h2)) s16, w) := by
  obtain ⟨env', e, t8, rfl⟩ := forGo_inv (W := W0) (w := w) (γ := gmName 8) (ψ := (sIf (bAnd (tOf (eOp fNotIn (eVar 8) (eFn 2 (fM 3 b_above) (aCons (eVar 15) (aCons (eVar 6) aNil))))) (tOf (eOp fNe (eFn 2 (fM 3 b_doors_of) (aCons (eVar 15) (aCons (eL (lLst (aCons (eVar 8) aNil))) aNil))) (eFn 2 (fM 3 b_doors_of) (aCons (eVar 15) (aCons (eL (lLst (aCons (eVar 6) aNil))) aNil))))))
 (sRet (eC (.bl false)))
 sNil)) (fun env => ∃ t8, env = LE ns sp b h (.val (.str one)) t8 s9 s10 s11 s12 s13 s14 (.val (hD true h2)) s16) D.str (h.above one) (LE ns sp b h (.val (.str one)) s8 s9 s10 s11 s12 s13 s14 (.val (hD true h2)) s16) ⟨_, rfl⟩ (by
    rintro x hx _ ⟨t8, rfl⟩
    have hr := above_ring hx
    have ho2 : one ∈ h2.ring := by rw [e2]; exact ho
    have hr2 : x ∈ h2.ring := by rw [e2]; exact hr
    have key : x ∈ h2.above one ∨ h2.doorsOf [x] = h2.doorsOf [one] := by
      rw [e2]
      exact above_less B.wf (by rw [← e2]; exact B2.wf) hx
    refine ⟨_, LE ns sp b h (.val (.str one)) (.val (.str x)) s9 s10 s11 s12 s13 s14 (.val (hD true h2)) s16, rfl, ?_, _, rfl⟩
    by_cases hz : x ∈ h2.above one
    · simp [m_above B2 ho2, hz]
    · have hd := key.resolve_left hz
      simp [m_above B2 ho2, hz, m_doors1 B2 hr2, m_doors1 B2 ho2, one_le, ne_doors B2, hd])
  refine ⟨t8, ?_⟩
  have : (iSeq (eOp fGet (eVar 7) (eVar 6)) : AM W0) (LE ns sp b h (.val (.str one)) s8 s9 s10 s11 s12 s13 s14 (.val (hD true h2)) s16) w = some (sts (h.above one), w) := by simp [get_row ho]
  show ((iSeq _ _ w).bind _) = _
  rw [this]
  exact e
theorem w_less {b : Bool} (o : Drawn ring locks doors) (s6 s8 s9 s10 s11 s12 s13 s14 s15 s16 : Sl) : ∃ t6 t8 t15 : Sl,
 (sIf (tOf (eOp fGt (eCall fLen (aCons (eOp fGet (eVar 2) (eC (.str "doors"))) aNil)) (eC (.int 1))))
 (sSeq (sSet 15 (vE (eMk 0 3 (iM fdT 8 0 b_Housedd_initdd) (aCons (eVar 4) (aCons (eOp fGet (eVar 2) (eC (.str "locks"))) (aCons (eCut (eOp fGet (eVar 2) (eC (.str "doors"))) pNone (pSome (eUn fNeg (eC (.int 1))))) aNil))))))
 (sFor (iSeq (eVar 4)) (gmName 6)
 less_body))
 sNil : SM W0) (LE ns (specD ring locks doors) b ⟨ring, locks, doors⟩ s6 s8 s9 s10 s11 s12 s13 s14 s15 s16) w = some (.nx, LE ns (specD ring locks doors) b ⟨ring, locks, doors⟩ t6 t8 s9 s10 s11 s12 s13 s14 t15 s16, w) := by
  have g : (tOf (eOp fGt (eCall fLen (aCons (eOp fGet (eVar 2) (eC (.str "doors"))) aNil)) (eC (.int 1))) : TM W0) (LE ns (specD ring locks doors) b ⟨ring, locks, doors⟩ s6 s8 s9 s10 s11 s12 s13 s14 s15 s16) w = some (decide ((1 : Int) < doors.length), w) := by
    simp [spec_doors]
  by_cases hd : 1 < doors.length
  · have dr := o.less hd
    obtain ⟨env', e, t6, t8, rfl⟩ := forGo_inv (W := W0) (w := w) (γ := gmName 6) (ψ := less_body) (fun env => ∃ t6 t8, env = LE ns (specD ring locks doors) b ⟨ring, locks, doors⟩ t6 t8 s9 s10 s11 s12 s13 s14 (.val (hD true ⟨ring, locks, doors.dropLast⟩)) s16) D.str ring
      (LE ns (specD ring locks doors) b ⟨ring, locks, doors⟩ s6 s8 s9 s10 s11 s12 s13 s14 (.val (hD true ⟨ring, locks, doors.dropLast⟩)) s16) ⟨_, _, rfl⟩ (by
      rintro one ho _ ⟨t6, t8, rfl⟩
      obtain ⟨u8, e⟩ := w_less1 (ns := ns) (w := w) (sp := specD ring locks doors) (b := b) o.bnd (h2 := ⟨ring, locks, doors.dropLast⟩) rfl dr.bnd ho t8 s9 s10 s11 s12 s13 s14 s16
      exact ⟨_, _, rfl, e, _, _, rfl⟩)
    refine ⟨t6, t8, .val (hD true ⟨ring, locks, doors.dropLast⟩), ?_⟩
    have bl : (doors.map pairE).dropLast = doors.dropLast.map pairE := (List.map_dropLast ..).symm
    have g2 : (sSet 15 (vE (eMk 0 3 (iM fdT 8 0 b_Housedd_initdd) (aCons (eVar 4) (aCons (eOp fGet (eVar 2) (eC (.str "locks"))) (aCons (eCut (eOp fGet (eVar 2) (eC (.str "doors"))) pNone (pSome (eUn fNeg (eC (.int 1))))) aNil))))) : SM W0)
        (LE ns (specD ring locks doors) b ⟨ring, locks, doors⟩ s6 s8 s9 s10 s11 s12 s13 s14 s15 s16) w = some (.nx, LE ns (specD ring locks doors) b ⟨ring, locks, doors⟩ s6 s8 s9 s10 s11 s12 s13 s14 (.val (hD true ⟨ring, locks, doors.dropLast⟩)) s16, w) := by
      simp only [sSet_s, vE_s, eMk_s, aCons_s, aNil_s, eVar_s, List.getElem?_cons_succ, List.getElem?_cons_zero, Option.bind_some, Option.map_some, eOp_s, eC_s, eCut_s, pNone_s, pSome_s, eUn_s, fNeg_s, spec_locks, spec_doors, asI_s, fCut_bl, bl, dr.init, List.length_cons, List.length_nil, List.set_cons_succ, List.set_cons_zero]
      simp [hD, rgD]
    rw [sIf_s, g, Option.bind_some, if_pos (decide_eq_true (by omega)), sSeq_s, g2, Option.bind_some]
    exact e
  · refine ⟨s6, s8, s15, ?_⟩
    rw [sIf_s, g, Option.bind_some, if_neg (by simp; omega)]
    rfl
theorem w_end {sp : D} {b : Bool} (B : Bnd h) {one : Str} (ho : one ∈ h.ring) (s8 s9 s10 s11 s12 s13 s14 s15 s16 : Sl) : ∃ env',
  (sSeq (sSet 16 (vE (eL (lCall lList (aCons (eFn 2 (fM 3 b_doors_of) (aCons (eVar 3) (aCons (eL (lLst (aCons (eVar 6) aNil))) aNil))) aNil)))))
 (sRet (eAnd (eBoolI tiA (eFn 2 (fM 6 b_judge_issue) (aCons (eVar 3) (aCons (eVar 16) aNil)))) (eAnd (eOp fEq (eL (lCall lList (aCons (eFn 2 (fM 3 b_exposed) (aCons (eVar 3) (aCons (eL (lLst (aCons (eVar 6) aNil))) aNil))) aNil))) (eVar 16)) (eOp fLe (eCall fLen (aCons (eUn (fldD NC fdT "some") (eFn 2 (fM 6 b_judge_issue) (aCons (eVar 3) (aCons (eVar 16) aNil)))) aNil)) (eC (.int 1)))))) : SM W0)
  (LE ns sp b h (.val (.str one)) s8 s9 s10 s11 s12 s13 s14 s15 s16) w = some (.rt (.bl true), env', w) := by
  obtain ⟨s, r, e, hl, hs⟩ := issue_one B.wf ho
  have ji := m_judge_issue (w := w) (b := b) B (Row.l (h.doorsOf [one])) (fun x hx => (mem_doorsOf.mp hx).1) (by have := doors_len B [one]; omega) e hs
  have fs : fldD NC fdT "some" (.ins cIssue [tupS s]) = some (tupS s) := rfl
  have q : (eBoolI tiA (eFn 2 (fM 6 b_judge_issue) (aCons (eVar 3) (aCons (eVar 16) aNil))) : EM W0) (LE ns sp b h (.val (.str one)) s8 s9 s10 s11 s12 s13 s14 s15 (.val (.lst (sts (h.doorsOf [one]))))) w = some (.bl true, w) := by
    have : (eFn 2 (fM 6 b_judge_issue) (aCons (eVar 3) (aCons (eVar 16) aNil)) : EM W0) (LE ns sp b h (.val (.str one)) s8 s9 s10 s11 s12 s13 s14 s15 (.val (.lst (sts (h.doorsOf [one]))))) w = some (.ins cIssue [tupS s], w) := by simp [ji]
    unfold eBoolI
    rw [this]; rfl
  refine ⟨LE ns sp b h (.val (.str one)) s8 s9 s10 s11 s12 s13 s14 s15 (.val (.lst (sts (h.doorsOf [one])))), ?_⟩
  have g : (sSet 16 (vE (eL (lCall lList (aCons (eFn 2 (fM 3 b_doors_of) (aCons (eVar 3) (aCons (eL (lLst (aCons (eVar 6) aNil))) aNil))) aNil)))) : SM W0) (LE ns sp b h (.val (.str one)) s8 s9 s10 s11 s12 s13 s14 s15 s16) w = some (.nx, LE ns sp b h (.val (.str one)) s8 s9 s10 s11 s12 s13 s14 s15 (.val (.lst (sts (h.doorsOf [one])))), w) := by
    simp [m_doors1 B ho, one_le]
  rw [sSeq_s, g, Option.bind_some]
  dsimp only
  rw [sRet_s, eAnd_s, q]
  have le : (s.length : Int) ≤ 1 := by omega
  simp [m_exposed1 B ho, one_le, eq_doors B, ji, fs, le]
end

end K82
namespace K82
open PySem PySem.Spec PyProof.Rows L2 Evl DL NdefX PL Comb
/-! ### the law holds -/
section
variable {ns : List Int}
theorem m_dnames {ring : List Str} {locks doors : NMs} (o : Drawn ring locks doors) (w : W0) : fM 2 b__law_door_names [specD ring locks doors] w = some (.lst (sts (names doors)), w) := by
  have q : lLc [1] (iSeq (eOp fGet (eVar 0) (eC (.str "doors")))) (gmName 1) tYesM (eOp fIx (eVar 1) (eC (.int 0))) [.val (specD ring locks doors), .un] w = some (doors.map fun p => .str p.1, w) := by
    refine lLc_all pairE _ doors ?_ (le_line (by have := o.d3; omega)) fun p hp => ⟨_, rfl, rfl, ?_⟩
    · simp [spec_doors]
    · simp [pairE]
  show ((b__law_door_names [.val (specD ring locks doors), .un] w).bind _) = _
  unfold b__law_door_names
  simp [q, names]
theorem law_true (h63 : ns.length ≤ 63) : ∃ env' w', b_law (lawE 17 ns) (ns, 0) = some (.rt (.bl true), env', w') := by
  obtain ⟨t, ht, et⟩ : ∃ u : Nat, u < 6 ∧ fM 2 b__law_take [.ob, .int 6] (ns, 0) = some (.int u, (ns, 0 + 1)) := m_take h63 (n := 6) (by omega)
  obtain ⟨ring, locks, doors, c, o, ed⟩ := m_drawn (c := 1) h63 (k := 1 + t) (by omega)
  have ed : fM 11 b__law_drawn_house [.ob, .int (1 + (t : Int))] (ns, 1) = some (specD ring locks doors, (ns, c)) := ed
  have B := o.bnd
  obtain ⟨chain, L, ec⟩ := m_chain (w := (ns, c)) (b := true) B (by have := o.d3; show doors.length ≤ 5; omega)
  obtain ⟨d, R, ej⟩ := m_judge_tree (w := (ns, c)) (b := true) B
  have r0 : ring ≠ [] := fun e => by have := o.ok.r1; rw [e] at this; simp at this
  obtain ⟨one, ho, ep⟩ := m_pick (c := c) h63 r0 (by have := o.r6; omega)
  have g1 : (sSet 2 (vE (eFn 2 (fM 11 b__law_drawn_house) (aCons (eVar 1) (aCons (eOp fAdd (eC (.int 1)) (eFn 2 (fM 2 b__law_take) (aCons (eVar 1) (aCons (eC (.int 6)) aNil)))) aNil)))) : SM W0) [.val (.scr ns), .val .ob, .un, .un, .un, .un, .un, .un, .un, .un, .un, .un, .un, .un, .un, .un, .un] (ns, 0)
      = some (.nx, [.val (.scr ns), .val .ob, .val (specD ring locks doors), .un, .un, .un, .un, .un, .un, .un, .un, .un, .un, .un, .un, .un, .un], (ns, c)) := by
    simp [et, ed]
  have i3 : (3 : Nat) ≤ sizeLine := le_line (by omega)
  have i2 : (2 : Nat) ≤ sizeLine := le_line (by omega)
  have g2 : (sAsg (eTup (aCons (eFn 1 (fM 1 b__law_house) (aCons (eVar 2) aNil)) (aCons (eOp fGet (eVar 2) (eC (.str "ring"))) (aCons (eFn 1 (fM 2 b__law_door_names) (aCons (eVar 2) aNil)) aNil)))) (gmTup 3 (gmCons (gmName 3) (gmCons (gmName 4) (gmCons (gmName 5) gmNil)))) : SM W0)
      [.val (.scr ns), .val .ob, .val (specD ring locks doors), .un, .un, .un, .un, .un, .un, .un, .un, .un, .un, .un, .un, .un, .un] (ns, c)
      = some (.nx, [.val (.scr ns), .val .ob, .val (specD ring locks doors), .val (hD true ⟨ring, locks, doors⟩), .val (.lst (sts ring)), .val (.lst (sts (names doors))), .un, .un, .un, .un, .un, .un, .un, .un, .un, .un, .un], (ns, c)) := by
    simp [o.house, spec_ring, m_dnames o, i3]
  have g3 : (sSet 7 (vE (eK (kCall kDict (aCons (eL (lLc [6] (iSeq (eVar 4)) (gmName 6) tYesM (eTup (aCons (eVar 6) (aCons (eL (lCall lList (aCons (eFn 2 (fM 3 b_above) (aCons (eVar 3) (aCons (eVar 6) aNil))) aNil))) aNil))))) aNil)))) : SM W0)
      [.val (.scr ns), .val .ob, .val (specD ring locks doors), .val (hD true ⟨ring, locks, doors⟩), .val (.lst (sts ring)), .val (.lst (sts (names doors))), .un, .un, .un, .un, .un, .un, .un, .un, .un, .un, .un] (ns, c)
      = some (.nx, LE ns (specD ring locks doors) true ⟨ring, locks, doors⟩ .un .un .un .un .un .un .un .un .un .un, (ns, c)) := by
    have q : lLc [6] (iSeq (eVar 4)) (gmName 6) tYesM (eTup (aCons (eVar 6) (aCons (eL (lCall lList (aCons (eFn 2 (fM 3 b_above) (aCons (eVar 3) (aCons (eVar 6) aNil))) aNil))) aNil))) [.val (.scr ns), .val .ob, .val (specD ring locks doors), .val (hD true ⟨ring, locks, doors⟩), .val (.lst (sts ring)), .val (.lst (sts (names doors))), .un, .un, .un, .un, .un, .un, .un, .un, .un, .un, .un] (ns, c)
        = some (ring.map fun k => D.tup [.str k, .lst (sts ((⟨ring, locks, doors⟩ : Hs Str).above k))], (ns, c)) := by
      refine lLc_all D.str _ ring ?_ (le_line (by have := o.r6; omega)) fun k hk => ⟨_, rfl, rfl, ?_⟩
      · simp
      · have := m_above (w := (ns, c)) (b := true) B hk
        simp [this, i2]
    have pd : ∀ l : List Str, pairsD (l.map fun k => D.tup [.str k, .lst (sts ((⟨ring, locks, doors⟩ : Hs Str).above k))]) = some (l.map fun k => (.inr k, .lst (sts ((⟨ring, locks, doors⟩ : Hs Str).above k)))) := by
      intro l
      induction l with
      | nil => rfl
      | cons x l ih =>
        rw [List.map_cons]
        show ((pairsD (l.map _)).map _) = _
        rw [ih]; rfl
    have kd : kDict [.lst (ring.map fun k => D.tup [.str k, .lst (sts ((⟨ring, locks, doors⟩ : Hs Str).above k))])] = some (ring.map .inr, ring.map fun k => .lst (sts ((⟨ring, locks, doors⟩ : Hs Str).above k))) := by
      show (pairsD _).map _ = _
      rw [pd, Option.map_some, mrgD_nodup]
      · rw [List.map_map, List.map_map]; rfl
      · rw [List.map_map]
        exact o.ok.rn.map _ fun a b e h => e (Sum.inr.inj h)
    simp [q, kd, rowsD]
  obtain ⟨t6, t8, t10, g4⟩ := w_for1 (ns := ns) (sp := specD ring locks doors) (b := true) (w := (ns, c)) B .un .un .un .un .un .un .un .un .un .un
  have g5 : (sSet 11 (vE (eFn 1 (fM 6 b_longest_chain) (aCons (eVar 3) aNil))) : SM W0) (LE ns (specD ring locks doors) true ⟨ring, locks, doors⟩ t6 t8 .un t10 .un .un .un .un .un .un) (ns, c) = some (.nx, LE ns (specD ring locks doors) true ⟨ring, locks, doors⟩ t6 t8 .un t10 (.val (tupS chain)) .un .un .un .un .un, (ns, c)) := by
    simp [ec]
  obtain ⟨t9, t12, g6⟩ := w_for2 (ns := ns) (sp := specD ring locks doors) (b := true) (w := (ns, c)) B L t6 t8 .un t10 .un .un .un .un .un
  have g7 : (sSet 13 (vE (eFn 1 (fM 9 b_judge_tree) (aCons (eVar 3) aNil))) : SM W0) (LE ns (specD ring locks doors) true ⟨ring, locks, doors⟩ t6 t8 t9 t10 (.val (tupS chain)) t12 .un .un .un .un) (ns, c) = some (.nx, LE ns (specD ring locks doors) true ⟨ring, locks, doors⟩ t6 t8 t9 t10 (.val (tupS chain)) t12 (.val d) .un .un .un, (ns, c)) := by
    simp [ej]
  obtain ⟨u6, t14, g8⟩ := w_tree (ns := ns) (sp := specD ring locks doors) (b := true) (w := (ns, c)) B R t6 t8 t9 t10 (.val (tupS chain)) t12 .un .un .un
  obtain ⟨v6, v8, t15, g9⟩ := w_less (ns := ns) (b := true) (w := (ns, c)) o u6 t8 t9 t10 (.val (tupS chain)) t12 (.val d) t14 .un .un
  have g10 : (sSet 6 (vE (eFn 2 (fM 2 b__law_pick) (aCons (eVar 1) (aCons (eVar 4) aNil)))) : SM W0) (LE ns (specD ring locks doors) true ⟨ring, locks, doors⟩ v6 v8 t9 t10 (.val (tupS chain)) t12 (.val d) t14 t15 .un) (ns, c) = some (.nx, LE ns (specD ring locks doors) true ⟨ring, locks, doors⟩ (.val (.str one)) v8 t9 t10 (.val (tupS chain)) t12 (.val d) t14 t15 .un, (ns, c + 1)) := by
    simp [ep]
  obtain ⟨env', g11⟩ := w_end (ns := ns) (sp := specD ring locks doors) (b := true) (w := (ns, c + 1)) B ho v8 t9 t10 (.val (tupS chain)) t12 (.val d) t14 t15 .un
  refine ⟨env', (ns, c + 1), ?_⟩
  show b_law [.val (.scr ns), .val .ob, .un, .un, .un, .un, .un, .un, .un, .un, .un, .un, .un, .un, .un, .un, .un] (ns, 0) = _
  unfold b_law
  rw [sSeq_s, g1, Option.bind_some]
  dsimp only
  rw [sSeq_s, g2, Option.bind_some]
  dsimp only
  rw [sSeq_s, g3, Option.bind_some]
  dsimp only
  rw [sSeq_s, g4, Option.bind_some]
  dsimp only
  rw [sSeq_s, g5, Option.bind_some]
  dsimp only
  rw [sSeq_s, g6, Option.bind_some]
  dsimp only
  rw [sSeq_s, w_if4 B L, Option.bind_some]
  dsimp only
  rw [sSeq_s, w_if5 B, Option.bind_some]
  dsimp only
  rw [sSeq_s, g7, Option.bind_some]
  dsimp only
  rw [sSeq_s, g8, Option.bind_some]
  dsimp only
  rw [sSeq_s, w_fork B R, Option.bind_some]
  dsimp only
  rw [sSeq_s, g9, Option.bind_some]
  dsimp only
  rw [sSeq_s, g10, Option.bind_some]
  exact g11
end

end K82
namespace K82
open PySem PySem.Spec PyProof.Rows L2 Evl DL NdefX PL Comb
/-! ### the end -/
theorem all_mk {l : PySem.W.OpenLaw} {w : World} {K : PySem.W.Frag} {h : Heap} {mg : Str → Option Value} {fa : Addr} (X : K.In h) (G : h.Ns mainGlobals mg) (hfa : mg "law" = some (.ref fa))
    {c_House c_Tree c_Fork c_Issue c_NoIssue f_Treedd_booldd f_Forkdd_booldd f_Issuedd_booldd f__law_number f__law_take f__law_pick f__law_drawn_house f_is_row f_is_name f_check_ring f_are_some f_check_rows f_in_order f_Housedd_initdd f__law_house f__law_door_names f_check_house f_check_key f_check_keys f_House_door_names f_check_doors f_House_locks_of f_door_locks f_House_lock_names f_House_openers f_opens_lock f_opens f_doors_of f_is_below_key f_above f_alike_keys f_tops f_longest_chain f_masters f_exposed f_worst_loss f_are_apart f_Forkdd_initdd f_rowed f_Treedd_initdd f_judge_tree f_Issuedd_initdd f_in_house f_least_up_to f_least_sets f_least_issues cd_least_issues tb_least_issues f_judge_issue f_law : Addr}
    {od1 an1 od2 an2 od3 an3 od4 an4 od5 an5 od6 an6 od7 an7 od8 an8 od9 an9 od10 an10 od11 an11 od12 an12 od13 an13 od14 an14 od15 an15 od16 an16 od17 an17 od18 an18 od19 an19 od20 an20 od21 an21 od22 an22 od23 an23 od24 an24 od25 an25 od26 an26 od27 an27 od28 an28 od29 an29 od30 an30 od31 an31 od32 an32 od33 an33 od34 an34 od35 an35 od36 an36 od37 an37 od38 an38 od39 an39 od40 an40 od41 an41 od42 an42 od43 an43 od44 an44 od45 an45 od46 an46 oq46 od47 an47 od48 an48 : Option Addr}
    {sl1 sl2 sl3 sl4 sl5 sl6 sl7 sl8 sl9 sl10 sl11 sl12 sl13 sl14 sl15 sl16 sl17 sl18 sl19 sl20 sl21 sl22 sl23 sl24 sl25 sl26 sl27 sl28 sl29 sl30 sl31 sl32 sl33 sl34 sl35 sl36 sl37 sl38 sl39 sl40 sl41 sl42 sl43 sl44 sl45 sl46 sq46 sl47 sl48 : Array (Option Value)}
    {oc1 kV1 dc1 pm1 cd1 ct1 oc2 kV2 dc2 pm2 cd2 ct2 oc3 kV3 dc3 pm3 cd3 ct3 oc4 kV4 dc4 pm4 cd4 ct4 oc5 kV5 dc5 pm5 cd5 ct5 oc6 kV6 dc6 pm6 cd6 ct6 oc7 kV7 dc7 pm7 cd7 ct7 oc8 kV8 dc8 pm8 cd8 ct8 oc9 kV9 dc9 pm9 cd9 ct9 oc10 kV10 dc10 pm10 cd10 ct10 oc11 kV11 dc11 pm11 cd11 ct11 oc12 kV12 dc12 pm12 cd12 ct12 oc13 kV13 dc13 pm13 cd13 ct13 oc14 kV14 dc14 pm14 cd14 ct14 oc15 kV15 dc15 pm15 cd15 ct15 oc16 kV16 dc16 pm16 cd16 ct16 oc17 kV17 dc17 pm17 cd17 ct17 oc18 kV18 dc18 pm18 cd18 ct18 oc19 kV19 dc19 pm19 cd19 ct19 oc20 kV20 dc20 pm20 cd20 ct20 oc21 kV21 dc21 pm21 cd21 ct21 oc22 kV22 dc22 pm22 cd22 ct22 oc23 kV23 dc23 pm23 cd23 ct23 oc24 kV24 dc24 pm24 cd24 ct24 oc25 kV25 dc25 pm25 cd25 ct25 oc26 kV26 dc26 pm26 cd26 ct26 oc27 kV27 dc27 pm27 cd27 ct27 oc28 kV28 dc28 pm28 cd28 ct28 oc29 kV29 dc29 pm29 cd29 ct29 oc30 kV30 dc30 pm30 cd30 ct30 oc31 kV31 dc31 pm31 cd31 ct31 oc32 kV32 dc32 pm32 cd32 ct32 oc33 kV33 dc33 pm33 cd33 ct33 oc34 kV34 dc34 pm34 cd34 ct34 oc35 kV35 dc35 pm35 cd35 ct35 oc36 kV36 dc36 pm36 cd36 ct36 oc37 kV37 dc37 pm37 cd37 ct37 oc38 kV38 dc38 pm38 cd38 ct38 oc39 kV39 dc39 pm39 cd39 ct39 oc40 kV40 dc40 pm40 cd40 ct40 oc41 kV41 dc41 pm41 cd41 ct41 oc42 kV42 dc42 pm42 cd42 ct42 oc43 kV43 dc43 pm43 cd43 ct43 oc44 kV44 dc44 pm44 cd44 ct44 oc45 kV45 dc45 pm45 cd45 ct45 oc46 kV46 dc46 pm46 ct46 oc47 kV47 dc47 pm47 cd47 ct47 oc48 kV48 dc48 pm48 cd48 ct48 : Value}
    {tk_MOST_LOCKS tk_MOST_DOORS tk_MOST_KEYS tk_MOST_SIGNS tk_LETTERS tk_FIGURES : Tok}
    {vs46 : Array Value}
    (hm__law_number : PySem.W.nsIn K mainGlobals "_law_number" = some (some (.ref f__law_number)))
    (hm__law_take : PySem.W.nsIn K mainGlobals "_law_take" = some (some (.ref f__law_take)))
    (hm__law_pick : PySem.W.nsIn K mainGlobals "_law_pick" = some (some (.ref f__law_pick)))
    (hm__law_drawn_house : PySem.W.nsIn K mainGlobals "_law_drawn_house" = some (some (.ref f__law_drawn_house)))
    (hm_is_row : PySem.W.nsIn K mainGlobals "is_row" = some (some (.ref f_is_row)))
    (hm_is_name : PySem.W.nsIn K mainGlobals "is_name" = some (some (.ref f_is_name)))
    (hm_check_ring : PySem.W.nsIn K mainGlobals "check_ring" = some (some (.ref f_check_ring)))
    (hm_are_some : PySem.W.nsIn K mainGlobals "are_some" = some (some (.ref f_are_some)))
    (hm_check_rows : PySem.W.nsIn K mainGlobals "check_rows" = some (some (.ref f_check_rows)))
    (hm_in_order : PySem.W.nsIn K mainGlobals "in_order" = some (some (.ref f_in_order)))
    (hm__law_house : PySem.W.nsIn K mainGlobals "_law_house" = some (some (.ref f__law_house)))
    (hm__law_door_names : PySem.W.nsIn K mainGlobals "_law_door_names" = some (some (.ref f__law_door_names)))
    (hm_check_house : PySem.W.nsIn K mainGlobals "check_house" = some (some (.ref f_check_house)))
    (hm_check_key : PySem.W.nsIn K mainGlobals "check_key" = some (some (.ref f_check_key)))
    (hm_check_keys : PySem.W.nsIn K mainGlobals "check_keys" = some (some (.ref f_check_keys)))
    (hm_check_doors : PySem.W.nsIn K mainGlobals "check_doors" = some (some (.ref f_check_doors)))
    (hm_door_locks : PySem.W.nsIn K mainGlobals "door_locks" = some (some (.ref f_door_locks)))
    (hm_opens_lock : PySem.W.nsIn K mainGlobals "opens_lock" = some (some (.ref f_opens_lock)))
    (hm_opens : PySem.W.nsIn K mainGlobals "opens" = some (some (.ref f_opens)))
    (hm_doors_of : PySem.W.nsIn K mainGlobals "doors_of" = some (some (.ref f_doors_of)))
    (hm_is_below_key : PySem.W.nsIn K mainGlobals "is_below_key" = some (some (.ref f_is_below_key)))
    (hm_above : PySem.W.nsIn K mainGlobals "above" = some (some (.ref f_above)))
    (hm_alike_keys : PySem.W.nsIn K mainGlobals "alike_keys" = some (some (.ref f_alike_keys)))
    (hm_tops : PySem.W.nsIn K mainGlobals "tops" = some (some (.ref f_tops)))
    (hm_longest_chain : PySem.W.nsIn K mainGlobals "longest_chain" = some (some (.ref f_longest_chain)))
    (hm_masters : PySem.W.nsIn K mainGlobals "masters" = some (some (.ref f_masters)))
    (hm_exposed : PySem.W.nsIn K mainGlobals "exposed" = some (some (.ref f_exposed)))
    (hm_worst_loss : PySem.W.nsIn K mainGlobals "worst_loss" = some (some (.ref f_worst_loss)))
    (hm_are_apart : PySem.W.nsIn K mainGlobals "are_apart" = some (some (.ref f_are_apart)))
    (hm_rowed : PySem.W.nsIn K mainGlobals "rowed" = some (some (.ref f_rowed)))
    (hm_judge_tree : PySem.W.nsIn K mainGlobals "judge_tree" = some (some (.ref f_judge_tree)))
    (hm_in_house : PySem.W.nsIn K mainGlobals "in_house" = some (some (.ref f_in_house)))
    (hm_least_up_to : PySem.W.nsIn K mainGlobals "least_up_to" = some (some (.ref f_least_up_to)))
    (hm_least_sets : PySem.W.nsIn K mainGlobals "least_sets" = some (some (.ref f_least_sets)))
    (hm_least_issues : PySem.W.nsIn K mainGlobals "least_issues" = some (some (.ref f_least_issues)))
    (hm_judge_issue : PySem.W.nsIn K mainGlobals "judge_issue" = some (some (.ref f_judge_issue)))
    (hm_law : PySem.W.nsIn K mainGlobals "law" = some (some (.ref f_law)))
    (hm_House : PySem.W.nsIn K mainGlobals "House" = some (some (.ref c_House)))
    (hm_Tree : PySem.W.nsIn K mainGlobals "Tree" = some (some (.ref c_Tree)))
    (hm_Fork : PySem.W.nsIn K mainGlobals "Fork" = some (some (.ref c_Fork)))
    (hm_Issue : PySem.W.nsIn K mainGlobals "Issue" = some (some (.ref c_Issue)))
    (hm_NoIssue : PySem.W.nsIn K mainGlobals "NoIssue" = some (some (.ref c_NoIssue)))
    (hc_Housep : PySem.W.plainGet K c_House Str.empty = true)
    (hc_Househ : PySem.W.hasDictIn K c_House = true)
    (hc_Houseo : PySem.W.plainOver K c_House = true)
    (hc_Houses : PySem.W.findIn K (.ref c_House) "__setattr__" = some (some (.builtin "object.__setattr__")))
    (hc_Treep : PySem.W.plainGet K c_Tree Str.empty = true)
    (hc_Treeh : PySem.W.hasDictIn K c_Tree = true)
    (hc_Treeo : PySem.W.plainOver K c_Tree = true)
    (hc_Trees : PySem.W.findIn K (.ref c_Tree) "__setattr__" = some (some (.builtin "object.__setattr__")))
    (hc_Forkp : PySem.W.plainGet K c_Fork Str.empty = true)
    (hc_Forkh : PySem.W.hasDictIn K c_Fork = true)
    (hc_Forko : PySem.W.plainOver K c_Fork = true)
    (hc_Forks : PySem.W.findIn K (.ref c_Fork) "__setattr__" = some (some (.builtin "object.__setattr__")))
    (hc_Issuep : PySem.W.plainGet K c_Issue Str.empty = true)
    (hc_Issueh : PySem.W.hasDictIn K c_Issue = true)
    (hc_Issueo : PySem.W.plainOver K c_Issue = true)
    (hc_Issues : PySem.W.findIn K (.ref c_Issue) "__setattr__" = some (some (.builtin "object.__setattr__")))
    (hc_NoIssuep : PySem.W.plainGet K c_NoIssue Str.empty = true)
    (hc_NoIssueh : PySem.W.hasDictIn K c_NoIssue = true)
    (hc_NoIssueo : PySem.W.plainOver K c_NoIssue = true)
    (hc_NoIssues : PySem.W.findIn K (.ref c_NoIssue) "__setattr__" = some (some (.builtin "object.__setattr__")))
    (hM_Treedd_boolddi : PySem.W.findIn K (.ref c_Tree) "__bool__" = some (some (.ref f_Treedd_booldd)))
    (hM_Treedd_boolddf : PySem.W.isFn K (.ref f_Treedd_booldd) = true)
    (hM_Treedd_boolddk : PySem.W.keepIn K (.ref f_Treedd_booldd) = true)
    (hM_Forkdd_boolddi : PySem.W.findIn K (.ref c_Fork) "__bool__" = some (some (.ref f_Forkdd_booldd)))
    (hM_Forkdd_boolddf : PySem.W.isFn K (.ref f_Forkdd_booldd) = true)
    (hM_Forkdd_boolddk : PySem.W.keepIn K (.ref f_Forkdd_booldd) = true)
    (hM_Issuedd_boolddi : PySem.W.findIn K (.ref c_Issue) "__bool__" = some (some (.ref f_Issuedd_booldd)))
    (hM_Issuedd_boolddf : PySem.W.isFn K (.ref f_Issuedd_booldd) = true)
    (hM_Issuedd_boolddk : PySem.W.keepIn K (.ref f_Issuedd_booldd) = true)
    (hM_House_door_namesi : PySem.W.findIn K (.ref c_House) "door_names" = some (some (.ref f_House_door_names)))
    (hM_House_door_namesf : PySem.W.isFn K (.ref f_House_door_names) = true)
    (hM_House_door_namesk : PySem.W.keepIn K (.ref f_House_door_names) = true)
    (hM_House_locks_ofi : PySem.W.findIn K (.ref c_House) "locks_of" = some (some (.ref f_House_locks_of)))
    (hM_House_locks_off : PySem.W.isFn K (.ref f_House_locks_of) = true)
    (hM_House_locks_ofk : PySem.W.keepIn K (.ref f_House_locks_of) = true)
    (hM_House_lock_namesi : PySem.W.findIn K (.ref c_House) "lock_names" = some (some (.ref f_House_lock_names)))
    (hM_House_lock_namesf : PySem.W.isFn K (.ref f_House_lock_names) = true)
    (hM_House_lock_namesk : PySem.W.keepIn K (.ref f_House_lock_names) = true)
    (hM_House_openersi : PySem.W.findIn K (.ref c_House) "openers" = some (some (.ref f_House_openers)))
    (hM_House_openersf : PySem.W.isFn K (.ref f_House_openers) = true)
    (hM_House_openersk : PySem.W.keepIn K (.ref f_House_openers) = true)
    (hM_Housei : PySem.W.findIn K (.ref c_House) "__init__" = some (some (.ref f_Housedd_initdd)))
    (hM_Housem : PySem.W.makesIn K c_House = true)
    (hM_Housef : PySem.W.isFn K (.ref f_Housedd_initdd) = true)
    (hM_Housek : PySem.W.keepIn K (.ref c_House) = true)
    (hn_House_ring : PySem.W.findIn K (.ref c_House) "ring" = some none)
    (hn_House_locks : PySem.W.findIn K (.ref c_House) "locks" = some none)
    (hn_House_doors : PySem.W.findIn K (.ref c_House) "doors" = some none)
    (hM_Treei : PySem.W.findIn K (.ref c_Tree) "__init__" = some (some (.ref f_Treedd_initdd)))
    (hM_Treem : PySem.W.makesIn K c_Tree = true)
    (hM_Treef : PySem.W.isFn K (.ref f_Treedd_initdd) = true)
    (hM_Treek : PySem.W.keepIn K (.ref c_Tree) = true)
    (hn_Tree_rows : PySem.W.findIn K (.ref c_Tree) "rows" = some none)
    (hM_Forki : PySem.W.findIn K (.ref c_Fork) "__init__" = some (some (.ref f_Forkdd_initdd)))
    (hM_Forkm : PySem.W.makesIn K c_Fork = true)
    (hM_Forkf : PySem.W.isFn K (.ref f_Forkdd_initdd) = true)
    (hM_Forkk : PySem.W.keepIn K (.ref c_Fork) = true)
    (hn_Fork_one : PySem.W.findIn K (.ref c_Fork) "one" = some none)
    (hn_Fork_first : PySem.W.findIn K (.ref c_Fork) "first" = some none)
    (hn_Fork_last : PySem.W.findIn K (.ref c_Fork) "last" = some none)
    (hM_Issuei : PySem.W.findIn K (.ref c_Issue) "__init__" = some (some (.ref f_Issuedd_initdd)))
    (hM_Issuem : PySem.W.makesIn K c_Issue = true)
    (hM_Issuef : PySem.W.isFn K (.ref f_Issuedd_initdd) = true)
    (hM_Issuek : PySem.W.keepIn K (.ref c_Issue) = true)
    (hn_Issue_some : PySem.W.findIn K (.ref c_Issue) "some" = some none)
    (hn_NoIssue_rows : PySem.W.findIn K (.ref c_NoIssue) "rows" = some none)
    (hg_dict : PySem.W.nsIn K mainGlobals "dict" = some none)
    (hg_list : PySem.W.nsIn K mainGlobals "list" = some none)
    (hg_any : PySem.W.nsIn K mainGlobals "any" = some none)
    (hg_all : PySem.W.nsIn K mainGlobals "all" = some none)
    (hg_len : PySem.W.nsIn K mainGlobals "len" = some none)
    (hg_zip : PySem.W.nsIn K mainGlobals "zip" = some none)
    (hg_sorted : PySem.W.nsIn K mainGlobals "sorted" = some none)
    (hg_bool : PySem.W.nsIn K mainGlobals "bool" = some none)
    (hg_range : PySem.W.nsIn K mainGlobals "range" = some none)
    (hg_str : PySem.W.nsIn K mainGlobals "str" = some none)
    (hg_tuple : PySem.W.nsIn K mainGlobals "tuple" = some none)
    (hg_int : PySem.W.nsIn K mainGlobals "int" = some none)
    (hk_MOST_LOCKS : PySem.W.nsIn K mainGlobals "MOST_LOCKS" = some (some (.int 8  tk_MOST_LOCKS)))
    (hk_MOST_DOORS : PySem.W.nsIn K mainGlobals "MOST_DOORS" = some (some (.int 8  tk_MOST_DOORS)))
    (hk_MOST_KEYS : PySem.W.nsIn K mainGlobals "MOST_KEYS" = some (some (.int 8  tk_MOST_KEYS)))
    (hg_enumerate : PySem.W.nsIn K mainGlobals "enumerate" = some none)
    (hg_isinstance : PySem.W.nsIn K mainGlobals "isinstance" = some none)
    (hk_MOST_SIGNS : PySem.W.nsIn K mainGlobals "MOST_SIGNS" = some (some (.int 8  tk_MOST_SIGNS)))
    (hk_LETTERS : PySem.W.nsIn K mainGlobals "LETTERS" = some (some (.str "abcdefghijklmnopqrstuvwxyz"  tk_LETTERS)))
    (hk_FIGURES : PySem.W.nsIn K mainGlobals "FIGURES" = some (some (.str "0123456789"  tk_FIGURES)))
    (hg_max : PySem.W.nsIn K mainGlobals "max" = some none)
    (hk_combinations : PySem.W.nsIn K mainGlobals "combinations" = some (some (.type "itertools.combinations")))
    (hg_min : PySem.W.nsIn K mainGlobals "min" = some none)
    (hisi_0_0a : PySem.W.findIn K (.ref c_House) "__class__" = some (some (.builtin "object.__class__")))
    (hisi_0_0n : PySem.W.specialIn K (.builtin "object.__class__") "__get__" = some (some (.builtin "getset_descriptor.__get__")))
    (hisi_0_0t : PySem.W.takesIn K (.builtin "object.__class__") = some true)
    (hisi_0_0m : PySem.W.mroIn K c_House (.type "object") = some true)
    (hisi_0_0k : PySem.W.kitOne K (.ref c_House) (.ref c_House) = some true)
    (hd_Treedd_boolddl : K.lookup f_Treedd_booldd = some ⟨oc1, od1, .func (PySem.W.fnOf "__bool__" "Tree.__bool__" (defArgs s_Treedd_booldd) (defBody s_Treedd_booldd) (defScope s_Treedd_booldd) .none kV1 dc1 pm1 an1 cd1 ct1), sl1⟩)
    (hd_Treedd_boolddc : PySem.W.codeIn K cd1 "Tree.__bool__" = true)
    (hd_Treedd_boolddk : PySem.W.keepIn K (.ref f_Treedd_booldd) = true)
    (hd_Forkdd_boolddl : K.lookup f_Forkdd_booldd = some ⟨oc2, od2, .func (PySem.W.fnOf "__bool__" "Fork.__bool__" (defArgs s_Forkdd_booldd) (defBody s_Forkdd_booldd) (defScope s_Forkdd_booldd) .none kV2 dc2 pm2 an2 cd2 ct2), sl2⟩)
    (hd_Forkdd_boolddc : PySem.W.codeIn K cd2 "Fork.__bool__" = true)
    (hd_Forkdd_boolddk : PySem.W.keepIn K (.ref f_Forkdd_booldd) = true)
    (hd_Issuedd_boolddl : K.lookup f_Issuedd_booldd = some ⟨oc3, od3, .func (PySem.W.fnOf "__bool__" "Issue.__bool__" (defArgs s_Issuedd_booldd) (defBody s_Issuedd_booldd) (defScope s_Issuedd_booldd) .none kV3 dc3 pm3 an3 cd3 ct3), sl3⟩)
    (hd_Issuedd_boolddc : PySem.W.codeIn K cd3 "Issue.__bool__" = true)
    (hd_Issuedd_boolddk : PySem.W.keepIn K (.ref f_Issuedd_booldd) = true)
    (hd__law_numberl : K.lookup f__law_number = some ⟨oc4, od4, .func (PySem.W.fnOf "_law_number" "_law_number" (defArgs s__law_number) (defBody s__law_number) (defScope s__law_number) .none kV4 dc4 pm4 an4 cd4 ct4), sl4⟩)
    (hd__law_numberc : PySem.W.codeIn K cd4 "_law_number" = true)
    (hd__law_numberk : PySem.W.keepIn K (.ref f__law_number) = true)
    (hd__law_takel : K.lookup f__law_take = some ⟨oc5, od5, .func (PySem.W.fnOf "_law_take" "_law_take" (defArgs s__law_take) (defBody s__law_take) (defScope s__law_take) .none kV5 dc5 pm5 an5 cd5 ct5), sl5⟩)
    (hd__law_takec : PySem.W.codeIn K cd5 "_law_take" = true)
    (hd__law_takek : PySem.W.keepIn K (.ref f__law_take) = true)
    (hd__law_pickl : K.lookup f__law_pick = some ⟨oc6, od6, .func (PySem.W.fnOf "_law_pick" "_law_pick" (defArgs s__law_pick) (defBody s__law_pick) (defScope s__law_pick) .none kV6 dc6 pm6 an6 cd6 ct6), sl6⟩)
    (hd__law_pickc : PySem.W.codeIn K cd6 "_law_pick" = true)
    (hd__law_pickk : PySem.W.keepIn K (.ref f__law_pick) = true)
    (hd__law_drawn_housel : K.lookup f__law_drawn_house = some ⟨oc7, od7, .func (PySem.W.fnOf "_law_drawn_house" "_law_drawn_house" (defArgs s__law_drawn_house) (defBody s__law_drawn_house) (defScope s__law_drawn_house) .none kV7 dc7 pm7 an7 cd7 ct7), sl7⟩)
    (hd__law_drawn_housec : PySem.W.codeIn K cd7 "_law_drawn_house" = true)
    (hd__law_drawn_housek : PySem.W.keepIn K (.ref f__law_drawn_house) = true)
    (hd_is_rowl : K.lookup f_is_row = some ⟨oc8, od8, .func (PySem.W.fnOf "is_row" "is_row" (defArgs s_is_row) (defBody s_is_row) (defScope s_is_row) .none kV8 dc8 pm8 an8 cd8 ct8), sl8⟩)
    (hd_is_rowc : PySem.W.codeIn K cd8 "is_row" = true)
    (hd_is_rowk : PySem.W.keepIn K (.ref f_is_row) = true)
    (hd_is_namel : K.lookup f_is_name = some ⟨oc9, od9, .func (PySem.W.fnOf "is_name" "is_name" (defArgs s_is_name) (defBody s_is_name) (defScope s_is_name) .none kV9 dc9 pm9 an9 cd9 ct9), sl9⟩)
    (hd_is_namec : PySem.W.codeIn K cd9 "is_name" = true)
    (hd_is_namek : PySem.W.keepIn K (.ref f_is_name) = true)
    (hd_check_ringl : K.lookup f_check_ring = some ⟨oc10, od10, .func (PySem.W.fnOf "check_ring" "check_ring" (defArgs s_check_ring) (defBody s_check_ring) (defScope s_check_ring) .none kV10 dc10 pm10 an10 cd10 ct10), sl10⟩)
    (hd_check_ringc : PySem.W.codeIn K cd10 "check_ring" = true)
    (hd_check_ringk : PySem.W.keepIn K (.ref f_check_ring) = true)
    (hd_are_somel : K.lookup f_are_some = some ⟨oc11, od11, .func (PySem.W.fnOf "are_some" "are_some" (defArgs s_are_some) (defBody s_are_some) (defScope s_are_some) .none kV11 dc11 pm11 an11 cd11 ct11), sl11⟩)
    (hd_are_somec : PySem.W.codeIn K cd11 "are_some" = true)
    (hd_are_somek : PySem.W.keepIn K (.ref f_are_some) = true)
    (hd_check_rowsl : K.lookup f_check_rows = some ⟨oc12, od12, .func (PySem.W.fnOf "check_rows" "check_rows" (defArgs s_check_rows) (defBody s_check_rows) (defScope s_check_rows) .none kV12 dc12 pm12 an12 cd12 ct12), sl12⟩)
    (hd_check_rowsc : PySem.W.codeIn K cd12 "check_rows" = true)
    (hd_check_rowsk : PySem.W.keepIn K (.ref f_check_rows) = true)
    (hd_in_orderl : K.lookup f_in_order = some ⟨oc13, od13, .func (PySem.W.fnOf "in_order" "in_order" (defArgs s_in_order) (defBody s_in_order) (defScope s_in_order) .none kV13 dc13 pm13 an13 cd13 ct13), sl13⟩)
    (hd_in_orderc : PySem.W.codeIn K cd13 "in_order" = true)
    (hd_in_orderk : PySem.W.keepIn K (.ref f_in_order) = true)
    (hd_Housedd_initddl : K.lookup f_Housedd_initdd = some ⟨oc14, od14, .func (PySem.W.fnOf "__init__" "House.__init__" (defArgs s_Housedd_initdd) (defBody s_Housedd_initdd) (defScope s_Housedd_initdd) .none kV14 dc14 pm14 an14 cd14 ct14), sl14⟩)
    (hd_Housedd_initddc : PySem.W.codeIn K cd14 "House.__init__" = true)
    (hd_Housedd_initddk : PySem.W.keepIn K (.ref f_Housedd_initdd) = true)
    (hd__law_housel : K.lookup f__law_house = some ⟨oc15, od15, .func (PySem.W.fnOf "_law_house" "_law_house" (defArgs s__law_house) (defBody s__law_house) (defScope s__law_house) .none kV15 dc15 pm15 an15 cd15 ct15), sl15⟩)
    (hd__law_housec : PySem.W.codeIn K cd15 "_law_house" = true)
    (hd__law_housek : PySem.W.keepIn K (.ref f__law_house) = true)
    (hd__law_door_namesl : K.lookup f__law_door_names = some ⟨oc16, od16, .func (PySem.W.fnOf "_law_door_names" "_law_door_names" (defArgs s__law_door_names) (defBody s__law_door_names) (defScope s__law_door_names) .none kV16 dc16 pm16 an16 cd16 ct16), sl16⟩)
    (hd__law_door_namesc : PySem.W.codeIn K cd16 "_law_door_names" = true)
    (hd__law_door_namesk : PySem.W.keepIn K (.ref f__law_door_names) = true)
    (hd_check_housel : K.lookup f_check_house = some ⟨oc17, od17, .func (PySem.W.fnOf "check_house" "check_house" (defArgs s_check_house) (defBody s_check_house) (defScope s_check_house) .none kV17 dc17 pm17 an17 cd17 ct17), sl17⟩)
    (hd_check_housec : PySem.W.codeIn K cd17 "check_house" = true)
    (hd_check_housek : PySem.W.keepIn K (.ref f_check_house) = true)
    (hd_check_keyl : K.lookup f_check_key = some ⟨oc18, od18, .func (PySem.W.fnOf "check_key" "check_key" (defArgs s_check_key) (defBody s_check_key) (defScope s_check_key) .none kV18 dc18 pm18 an18 cd18 ct18), sl18⟩)
    (hd_check_keyc : PySem.W.codeIn K cd18 "check_key" = true)
    (hd_check_keyk : PySem.W.keepIn K (.ref f_check_key) = true)
    (hd_check_keysl : K.lookup f_check_keys = some ⟨oc19, od19, .func (PySem.W.fnOf "check_keys" "check_keys" (defArgs s_check_keys) (defBody s_check_keys) (defScope s_check_keys) .none kV19 dc19 pm19 an19 cd19 ct19), sl19⟩)
    (hd_check_keysc : PySem.W.codeIn K cd19 "check_keys" = true)
    (hd_check_keysk : PySem.W.keepIn K (.ref f_check_keys) = true)
    (hd_House_door_namesl : K.lookup f_House_door_names = some ⟨oc20, od20, .func (PySem.W.fnOf "door_names" "House.door_names" (defArgs s_House_door_names) (defBody s_House_door_names) (defScope s_House_door_names) .none kV20 dc20 pm20 an20 cd20 ct20), sl20⟩)
    (hd_House_door_namesc : PySem.W.codeIn K cd20 "House.door_names" = true)
    (hd_House_door_namesk : PySem.W.keepIn K (.ref f_House_door_names) = true)
    (hd_check_doorsl : K.lookup f_check_doors = some ⟨oc21, od21, .func (PySem.W.fnOf "check_doors" "check_doors" (defArgs s_check_doors) (defBody s_check_doors) (defScope s_check_doors) .none kV21 dc21 pm21 an21 cd21 ct21), sl21⟩)
    (hd_check_doorsc : PySem.W.codeIn K cd21 "check_doors" = true)
    (hd_check_doorsk : PySem.W.keepIn K (.ref f_check_doors) = true)
    (hd_House_locks_ofl : K.lookup f_House_locks_of = some ⟨oc22, od22, .func (PySem.W.fnOf "locks_of" "House.locks_of" (defArgs s_House_locks_of) (defBody s_House_locks_of) (defScope s_House_locks_of) .none kV22 dc22 pm22 an22 cd22 ct22), sl22⟩)
    (hd_House_locks_ofc : PySem.W.codeIn K cd22 "House.locks_of" = true)
    (hd_House_locks_ofk : PySem.W.keepIn K (.ref f_House_locks_of) = true)
    (hd_door_locksl : K.lookup f_door_locks = some ⟨oc23, od23, .func (PySem.W.fnOf "door_locks" "door_locks" (defArgs s_door_locks) (defBody s_door_locks) (defScope s_door_locks) .none kV23 dc23 pm23 an23 cd23 ct23), sl23⟩)
    (hd_door_locksc : PySem.W.codeIn K cd23 "door_locks" = true)
    (hd_door_locksk : PySem.W.keepIn K (.ref f_door_locks) = true)
    (hd_House_lock_namesl : K.lookup f_House_lock_names = some ⟨oc24, od24, .func (PySem.W.fnOf "lock_names" "House.lock_names" (defArgs s_House_lock_names) (defBody s_House_lock_names) (defScope s_House_lock_names) .none kV24 dc24 pm24 an24 cd24 ct24), sl24⟩)
    (hd_House_lock_namesc : PySem.W.codeIn K cd24 "House.lock_names" = true)
    (hd_House_lock_namesk : PySem.W.keepIn K (.ref f_House_lock_names) = true)
    (hd_House_openersl : K.lookup f_House_openers = some ⟨oc25, od25, .func (PySem.W.fnOf "openers" "House.openers" (defArgs s_House_openers) (defBody s_House_openers) (defScope s_House_openers) .none kV25 dc25 pm25 an25 cd25 ct25), sl25⟩)
    (hd_House_openersc : PySem.W.codeIn K cd25 "House.openers" = true)
    (hd_House_openersk : PySem.W.keepIn K (.ref f_House_openers) = true)
    (hd_opens_lockl : K.lookup f_opens_lock = some ⟨oc26, od26, .func (PySem.W.fnOf "opens_lock" "opens_lock" (defArgs s_opens_lock) (defBody s_opens_lock) (defScope s_opens_lock) .none kV26 dc26 pm26 an26 cd26 ct26), sl26⟩)
    (hd_opens_lockc : PySem.W.codeIn K cd26 "opens_lock" = true)
    (hd_opens_lockk : PySem.W.keepIn K (.ref f_opens_lock) = true)
    (hd_opensl : K.lookup f_opens = some ⟨oc27, od27, .func (PySem.W.fnOf "opens" "opens" (defArgs s_opens) (defBody s_opens) (defScope s_opens) .none kV27 dc27 pm27 an27 cd27 ct27), sl27⟩)
    (hd_opensc : PySem.W.codeIn K cd27 "opens" = true)
    (hd_opensk : PySem.W.keepIn K (.ref f_opens) = true)
    (hd_doors_ofl : K.lookup f_doors_of = some ⟨oc28, od28, .func (PySem.W.fnOf "doors_of" "doors_of" (defArgs s_doors_of) (defBody s_doors_of) (defScope s_doors_of) .none kV28 dc28 pm28 an28 cd28 ct28), sl28⟩)
    (hd_doors_ofc : PySem.W.codeIn K cd28 "doors_of" = true)
    (hd_doors_ofk : PySem.W.keepIn K (.ref f_doors_of) = true)
    (hd_is_below_keyl : K.lookup f_is_below_key = some ⟨oc29, od29, .func (PySem.W.fnOf "is_below_key" "is_below_key" (defArgs s_is_below_key) (defBody s_is_below_key) (defScope s_is_below_key) .none kV29 dc29 pm29 an29 cd29 ct29), sl29⟩)
    (hd_is_below_keyc : PySem.W.codeIn K cd29 "is_below_key" = true)
    (hd_is_below_keyk : PySem.W.keepIn K (.ref f_is_below_key) = true)
    (hd_abovel : K.lookup f_above = some ⟨oc30, od30, .func (PySem.W.fnOf "above" "above" (defArgs s_above) (defBody s_above) (defScope s_above) .none kV30 dc30 pm30 an30 cd30 ct30), sl30⟩)
    (hd_abovec : PySem.W.codeIn K cd30 "above" = true)
    (hd_abovek : PySem.W.keepIn K (.ref f_above) = true)
    (hd_alike_keysl : K.lookup f_alike_keys = some ⟨oc31, od31, .func (PySem.W.fnOf "alike_keys" "alike_keys" (defArgs s_alike_keys) (defBody s_alike_keys) (defScope s_alike_keys) .none kV31 dc31 pm31 an31 cd31 ct31), sl31⟩)
    (hd_alike_keysc : PySem.W.codeIn K cd31 "alike_keys" = true)
    (hd_alike_keysk : PySem.W.keepIn K (.ref f_alike_keys) = true)
    (hd_topsl : K.lookup f_tops = some ⟨oc32, od32, .func (PySem.W.fnOf "tops" "tops" (defArgs s_tops) (defBody s_tops) (defScope s_tops) .none kV32 dc32 pm32 an32 cd32 ct32), sl32⟩)
    (hd_topsc : PySem.W.codeIn K cd32 "tops" = true)
    (hd_topsk : PySem.W.keepIn K (.ref f_tops) = true)
    (hd_longest_chainl : K.lookup f_longest_chain = some ⟨oc33, od33, .func (PySem.W.fnOf "longest_chain" "longest_chain" (defArgs s_longest_chain) (defBody s_longest_chain) (defScope s_longest_chain) .none kV33 dc33 pm33 an33 cd33 ct33), sl33⟩)
    (hd_longest_chainc : PySem.W.codeIn K cd33 "longest_chain" = true)
    (hd_longest_chaink : PySem.W.keepIn K (.ref f_longest_chain) = true)
    (hd_mastersl : K.lookup f_masters = some ⟨oc34, od34, .func (PySem.W.fnOf "masters" "masters" (defArgs s_masters) (defBody s_masters) (defScope s_masters) .none kV34 dc34 pm34 an34 cd34 ct34), sl34⟩)
    (hd_mastersc : PySem.W.codeIn K cd34 "masters" = true)
    (hd_mastersk : PySem.W.keepIn K (.ref f_masters) = true)
    (hd_exposedl : K.lookup f_exposed = some ⟨oc35, od35, .func (PySem.W.fnOf "exposed" "exposed" (defArgs s_exposed) (defBody s_exposed) (defScope s_exposed) .none kV35 dc35 pm35 an35 cd35 ct35), sl35⟩)
    (hd_exposedc : PySem.W.codeIn K cd35 "exposed" = true)
    (hd_exposedk : PySem.W.keepIn K (.ref f_exposed) = true)
    (hd_worst_lossl : K.lookup f_worst_loss = some ⟨oc36, od36, .func (PySem.W.fnOf "worst_loss" "worst_loss" (defArgs s_worst_loss) (defBody s_worst_loss) (defScope s_worst_loss) .none kV36 dc36 pm36 an36 cd36 ct36), sl36⟩)
    (hd_worst_lossc : PySem.W.codeIn K cd36 "worst_loss" = true)
    (hd_worst_lossk : PySem.W.keepIn K (.ref f_worst_loss) = true)
    (hd_are_apartl : K.lookup f_are_apart = some ⟨oc37, od37, .func (PySem.W.fnOf "are_apart" "are_apart" (defArgs s_are_apart) (defBody s_are_apart) (defScope s_are_apart) .none kV37 dc37 pm37 an37 cd37 ct37), sl37⟩)
    (hd_are_apartc : PySem.W.codeIn K cd37 "are_apart" = true)
    (hd_are_apartk : PySem.W.keepIn K (.ref f_are_apart) = true)
    (hd_Forkdd_initddl : K.lookup f_Forkdd_initdd = some ⟨oc38, od38, .func (PySem.W.fnOf "__init__" "Fork.__init__" (defArgs s_Forkdd_initdd) (defBody s_Forkdd_initdd) (defScope s_Forkdd_initdd) .none kV38 dc38 pm38 an38 cd38 ct38), sl38⟩)
    (hd_Forkdd_initddc : PySem.W.codeIn K cd38 "Fork.__init__" = true)
    (hd_Forkdd_initddk : PySem.W.keepIn K (.ref f_Forkdd_initdd) = true)
    (hd_rowedl : K.lookup f_rowed = some ⟨oc39, od39, .func (PySem.W.fnOf "rowed" "rowed" (defArgs s_rowed) (defBody s_rowed) (defScope s_rowed) .none kV39 dc39 pm39 an39 cd39 ct39), sl39⟩)
    (hd_rowedc : PySem.W.codeIn K cd39 "rowed" = true)
    (hd_rowedk : PySem.W.keepIn K (.ref f_rowed) = true)
    (hd_Treedd_initddl : K.lookup f_Treedd_initdd = some ⟨oc40, od40, .func (PySem.W.fnOf "__init__" "Tree.__init__" (defArgs s_Treedd_initdd) (defBody s_Treedd_initdd) (defScope s_Treedd_initdd) .none kV40 dc40 pm40 an40 cd40 ct40), sl40⟩)
    (hd_Treedd_initddc : PySem.W.codeIn K cd40 "Tree.__init__" = true)
    (hd_Treedd_initddk : PySem.W.keepIn K (.ref f_Treedd_initdd) = true)
    (hd_judge_treel : K.lookup f_judge_tree = some ⟨oc41, od41, .func (PySem.W.fnOf "judge_tree" "judge_tree" (defArgs s_judge_tree) (defBody s_judge_tree) (defScope s_judge_tree) .none kV41 dc41 pm41 an41 cd41 ct41), sl41⟩)
    (hd_judge_treec : PySem.W.codeIn K cd41 "judge_tree" = true)
    (hd_judge_treek : PySem.W.keepIn K (.ref f_judge_tree) = true)
    (hd_Issuedd_initddl : K.lookup f_Issuedd_initdd = some ⟨oc42, od42, .func (PySem.W.fnOf "__init__" "Issue.__init__" (defArgs s_Issuedd_initdd) (defBody s_Issuedd_initdd) (defScope s_Issuedd_initdd) .none kV42 dc42 pm42 an42 cd42 ct42), sl42⟩)
    (hd_Issuedd_initddc : PySem.W.codeIn K cd42 "Issue.__init__" = true)
    (hd_Issuedd_initddk : PySem.W.keepIn K (.ref f_Issuedd_initdd) = true)
    (hd_in_housel : K.lookup f_in_house = some ⟨oc43, od43, .func (PySem.W.fnOf "in_house" "in_house" (defArgs s_in_house) (defBody s_in_house) (defScope s_in_house) .none kV43 dc43 pm43 an43 cd43 ct43), sl43⟩)
    (hd_in_housec : PySem.W.codeIn K cd43 "in_house" = true)
    (hd_in_housek : PySem.W.keepIn K (.ref f_in_house) = true)
    (hd_least_up_tol : K.lookup f_least_up_to = some ⟨oc44, od44, .func (PySem.W.fnOf "least_up_to" "least_up_to" (defArgs s_least_up_to) (defBody s_least_up_to) (defScope s_least_up_to) .none kV44 dc44 pm44 an44 cd44 ct44), sl44⟩)
    (hd_least_up_toc : PySem.W.codeIn K cd44 "least_up_to" = true)
    (hd_least_up_tok : PySem.W.keepIn K (.ref f_least_up_to) = true)
    (hd_least_setsl : K.lookup f_least_sets = some ⟨oc45, od45, .func (PySem.W.fnOf "least_sets" "least_sets" (defArgs s_least_sets) (defBody s_least_sets) (defScope s_least_sets) .none kV45 dc45 pm45 an45 cd45 ct45), sl45⟩)
    (hd_least_setsc : PySem.W.codeIn K cd45 "least_sets" = true)
    (hd_least_setsk : PySem.W.keepIn K (.ref f_least_sets) = true)
    (hd_least_issuesl : K.lookup f_least_issues = some ⟨oc46, od46, .func (PySem.W.fnOf "least_issues" "least_issues" (defArgs s_least_issues) (defBody s_least_issues) (defScope s_least_issues) .none kV46 dc46 pm46 an46 (.ref cd_least_issues) ct46), sl46⟩)
    (hd_least_issuesc : PySem.W.codeIn K (.ref cd_least_issues) "least_issues" = true)
    (hd_least_issuesk : PySem.W.keepIn K (.ref f_least_issues) = true)
    (hd_least_issuesq : K.lookup cd_least_issues = some ⟨.type "code", oq46, .fields vs46, sq46⟩)
    (hd_least_issuesx : vs46[11]? = some (.ref tb_least_issues))
    (hd_least_issuesy : PySem.W.codeHdIn K cd_least_issues tb_least_issues = true)
    (hd_least_issuesz : K.lookup tb_least_issues = none)
    (hd_least_issuest : h.get? tb_least_issues = some { cls := .none, data := .fields #[] })
    (hd_judge_issuel : K.lookup f_judge_issue = some ⟨oc47, od47, .func (PySem.W.fnOf "judge_issue" "judge_issue" (defArgs s_judge_issue) (defBody s_judge_issue) (defScope s_judge_issue) .none kV47 dc47 pm47 an47 cd47 ct47), sl47⟩)
    (hd_judge_issuec : PySem.W.codeIn K cd47 "judge_issue" = true)
    (hd_judge_issuek : PySem.W.keepIn K (.ref f_judge_issue) = true)
    (hd_lawl : K.lookup f_law = some ⟨oc48, od48, .func (PySem.W.fnOf "law" "law" (defArgs s_law) (defBody s_law) (defScope s_law) .none kV48 dc48 pm48 an48 cd48 ct48), sl48⟩)
    (hd_lawc : PySem.W.codeIn K cd48 "law" = true)
    (hd_lawk : PySem.W.keepIn K (.ref f_law) = true)
    : LamX.LawAtS l w K CX0 14 63 "script" mg fa h := by
  have e := hfa.symm.trans (PySem.W.mg_of X G hm_law)
  cases e
  let A : Ad := ⟨c_House, c_Tree, c_Fork, c_Issue, c_NoIssue, f_Treedd_booldd, f_Forkdd_booldd, f_Issuedd_booldd, f__law_number, f__law_take, f__law_pick, f__law_drawn_house, f_is_row, f_is_name, f_check_ring, f_are_some, f_check_rows, f_in_order, f_Housedd_initdd, f__law_house, f__law_door_names, f_check_house, f_check_key, f_check_keys, f_House_door_names, f_check_doors, f_House_locks_of, f_door_locks, f_House_lock_names, f_House_openers, f_opens_lock, f_opens, f_doors_of, f_is_below_key, f_above, f_alike_keys, f_tops, f_longest_chain, f_masters, f_exposed, f_worst_loss, f_are_apart, f_Forkdd_initdd, f_rowed, f_Treedd_initdd, f_judge_tree, f_Issuedd_initdd, f_in_house, f_least_up_to, f_least_sets, f_least_issues, cd_least_issues, tb_least_issues, f_judge_issue, fa⟩
  let Tb : List NdefX.NTab := [(tb_least_issues, nm_least_issues)]
  refine ⟨PySem.W.fnOf "law" "law" (defArgs s_law) (defBody s_law) (defScope s_law) .none kV48 dc48 pm48 an48 cd48 ct48, [(cd_least_issues, tb_least_issues)], spLaw K Tb 17 b_law, List.forall_mem_cons.mpr ⟨hd_least_issuest, fun p hp => absurd hp List.not_mem_nil⟩, List.forall_mem_cons.mpr ⟨hd_least_issuesz, fun p hp => absurd hp List.not_mem_nil⟩, List.forall_mem_cons.mpr ⟨PySem.W.codeHd_of_K X hd_least_issuesy, fun p hp => absurd hp List.not_mem_nil⟩, fun s v => .of_eq rfl, ?_, ?_⟩
  · intro H a ns hl _ hT hS
    obtain ⟨env', w', e⟩ := law_true (ns := ns) hl
    exact ⟨a, ns, env', w', rfl, hS, List.forall_mem_cons.mpr ⟨hT (cd_least_issues, tb_least_issues) (by simp), fun p hp => absurd hp List.not_mem_nil⟩, e, fun _ => rfl⟩
  · intro base _ _ hB
    have hKT : ∀ q ∈ Tb, K.lookup q.1 = none := List.forall_mem_cons.mpr ⟨hd_least_issuesz, fun p hp => absurd hp List.not_mem_nil⟩
    refine ok_law (A := A) (Tb := Tb) hKT (fun a aT => ?_) (fun_mk (st := s_law) hd_lawl hd_lawc hd_lawk)
    exact {
      aT := aT
      d_Treedd_booldd := ⟨_, (fun_mk (st := s_Treedd_booldd) hd_Treedd_boolddl hd_Treedd_boolddc hd_Treedd_boolddk), ((fun_mk (st := s_Treedd_booldd) hd_Treedd_boolddl hd_Treedd_boolddc hd_Treedd_boolddk).binds (ps := ["self"]) fun _ _ _ _ _ _ us hl => match us, hl with | [_], _ => rfl)⟩
      M_Treedd_booldd := ⟨hM_Treedd_boolddi, hM_Treedd_boolddf, hM_Treedd_boolddk⟩
      d_Forkdd_booldd := ⟨_, (fun_mk (st := s_Forkdd_booldd) hd_Forkdd_boolddl hd_Forkdd_boolddc hd_Forkdd_boolddk), ((fun_mk (st := s_Forkdd_booldd) hd_Forkdd_boolddl hd_Forkdd_boolddc hd_Forkdd_boolddk).binds (ps := ["self"]) fun _ _ _ _ _ _ us hl => match us, hl with | [_], _ => rfl)⟩
      M_Forkdd_booldd := ⟨hM_Forkdd_boolddi, hM_Forkdd_boolddf, hM_Forkdd_boolddk⟩
      d_Issuedd_booldd := ⟨_, (fun_mk (st := s_Issuedd_booldd) hd_Issuedd_boolddl hd_Issuedd_boolddc hd_Issuedd_boolddk), ((fun_mk (st := s_Issuedd_booldd) hd_Issuedd_boolddl hd_Issuedd_boolddc hd_Issuedd_boolddk).binds (ps := ["self"]) fun _ _ _ _ _ _ us hl => match us, hl with | [_], _ => rfl)⟩
      M_Issuedd_booldd := ⟨hM_Issuedd_boolddi, hM_Issuedd_boolddf, hM_Issuedd_boolddk⟩
      d__law_number := ⟨_, (fun_mk (st := s__law_number) hd__law_numberl hd__law_numberc hd__law_numberk), ((fun_mk (st := s__law_number) hd__law_numberl hd__law_numberc hd__law_numberk).binds (ps := ["script", "index"]) fun _ _ _ _ _ _ us hl => match us, hl with | [_, _], _ => rfl)⟩
      m__law_number := PySem.W.mg_of X G hm__law_number
      d__law_take := ⟨_, (fun_mk (st := s__law_take) hd__law_takel hd__law_takec hd__law_takek), ((fun_mk (st := s__law_take) hd__law_takel hd__law_takec hd__law_takek).binds (ps := ["draw", "many"]) fun _ _ _ _ _ _ us hl => match us, hl with | [_, _], _ => rfl)⟩
      m__law_take := PySem.W.mg_of X G hm__law_take
      d__law_pick := ⟨_, (fun_mk (st := s__law_pick) hd__law_pickl hd__law_pickc hd__law_pickk), ((fun_mk (st := s__law_pick) hd__law_pickl hd__law_pickc hd__law_pickk).binds (ps := ["draw", "things"]) fun _ _ _ _ _ _ us hl => match us, hl with | [_, _], _ => rfl)⟩
      m__law_pick := PySem.W.mg_of X G hm__law_pick
      d__law_drawn_house := ⟨_, (fun_mk (st := s__law_drawn_house) hd__law_drawn_housel hd__law_drawn_housec hd__law_drawn_housek), ((fun_mk (st := s__law_drawn_house) hd__law_drawn_housel hd__law_drawn_housec hd__law_drawn_housek).binds (ps := ["draw", "many"]) fun _ _ _ _ _ _ us hl => match us, hl with | [_, _], _ => rfl)⟩
      m__law_drawn_house := PySem.W.mg_of X G hm__law_drawn_house
      d_is_row := ⟨_, (fun_mk (st := s_is_row) hd_is_rowl hd_is_rowc hd_is_rowk), ((fun_mk (st := s_is_row) hd_is_rowl hd_is_rowc hd_is_rowk).binds (ps := ["thing"]) fun _ _ _ _ _ _ us hl => match us, hl with | [_], _ => rfl)⟩
      m_is_row := PySem.W.mg_of X G hm_is_row
      d_is_name := ⟨_, (fun_mk (st := s_is_name) hd_is_namel hd_is_namec hd_is_namek), ((fun_mk (st := s_is_name) hd_is_namel hd_is_namec hd_is_namek).binds (ps := ["thing"]) fun _ _ _ _ _ _ us hl => match us, hl with | [_], _ => rfl)⟩
      m_is_name := PySem.W.mg_of X G hm_is_name
      d_check_ring := ⟨_, (fun_mk (st := s_check_ring) hd_check_ringl hd_check_ringc hd_check_ringk), ((fun_mk (st := s_check_ring) hd_check_ringl hd_check_ringc hd_check_ringk).binds (ps := ["ring"]) fun _ _ _ _ _ _ us hl => match us, hl with | [_], _ => rfl)⟩
      m_check_ring := PySem.W.mg_of X G hm_check_ring
      d_are_some := ⟨_, (fun_mk (st := s_are_some) hd_are_somel hd_are_somec hd_are_somek), ((fun_mk (st := s_are_some) hd_are_somel hd_are_somec hd_are_somek).binds (ps := ["thing", "names", "least"]) fun _ _ _ _ _ _ us hl => match us, hl with | [_, _, _], _ => rfl)⟩
      m_are_some := PySem.W.mg_of X G hm_are_some
      d_check_rows := ⟨_, (fun_mk (st := s_check_rows) hd_check_rowsl hd_check_rowsc hd_check_rowsk), ((fun_mk (st := s_check_rows) hd_check_rowsl hd_check_rowsc hd_check_rowsk).binds (ps := ["rows", "part", "names", "taken", "least", "most"]) fun _ _ _ _ _ _ us hl => match us, hl with | [_, _, _, _, _, _], _ => rfl)⟩
      m_check_rows := PySem.W.mg_of X G hm_check_rows
      d_in_order := ⟨_, (fun_mk (st := s_in_order) hd_in_orderl hd_in_orderc hd_in_orderk), ((fun_mk (st := s_in_order) hd_in_orderl hd_in_orderc hd_in_orderk).binds (ps := ["names", "some"]) fun _ _ _ _ _ _ us hl => match us, hl with | [_, _], _ => rfl)⟩
      m_in_order := PySem.W.mg_of X G hm_in_order
      d_Housedd_initdd := ⟨_, (fun_mk (st := s_Housedd_initdd) hd_Housedd_initddl hd_Housedd_initddc hd_Housedd_initddk), ((fun_mk (st := s_Housedd_initdd) hd_Housedd_initddl hd_Housedd_initddc hd_Housedd_initddk).binds (ps := ["self", "ring", "locks", "doors"]) fun _ _ _ _ _ _ us hl => match us, hl with | [_, _, _, _], _ => rfl)⟩
      d__law_house := ⟨_, (fun_mk (st := s__law_house) hd__law_housel hd__law_housec hd__law_housek), ((fun_mk (st := s__law_house) hd__law_housel hd__law_housec hd__law_housek).binds (ps := ["spec"]) fun _ _ _ _ _ _ us hl => match us, hl with | [_], _ => rfl)⟩
      m__law_house := PySem.W.mg_of X G hm__law_house
      d__law_door_names := ⟨_, (fun_mk (st := s__law_door_names) hd__law_door_namesl hd__law_door_namesc hd__law_door_namesk), ((fun_mk (st := s__law_door_names) hd__law_door_namesl hd__law_door_namesc hd__law_door_namesk).binds (ps := ["spec"]) fun _ _ _ _ _ _ us hl => match us, hl with | [_], _ => rfl)⟩
      m__law_door_names := PySem.W.mg_of X G hm__law_door_names
      d_check_house := ⟨_, (fun_mk (st := s_check_house) hd_check_housel hd_check_housec hd_check_housek), ((fun_mk (st := s_check_house) hd_check_housel hd_check_housec hd_check_housek).binds (ps := ["house"]) fun _ _ _ _ _ _ us hl => match us, hl with | [_], _ => rfl)⟩
      m_check_house := PySem.W.mg_of X G hm_check_house
      d_check_key := ⟨_, (fun_mk (st := s_check_key) hd_check_keyl hd_check_keyc hd_check_keyk), ((fun_mk (st := s_check_key) hd_check_keyl hd_check_keyc hd_check_keyk).binds (ps := ["house", "one"]) fun _ _ _ _ _ _ us hl => match us, hl with | [_, _], _ => rfl)⟩
      m_check_key := PySem.W.mg_of X G hm_check_key
      d_check_keys := ⟨_, (fun_mk (st := s_check_keys) hd_check_keysl hd_check_keysc hd_check_keysk), ((fun_mk (st := s_check_keys) hd_check_keysl hd_check_keysc hd_check_keysk).binds (ps := ["house", "some"]) fun _ _ _ _ _ _ us hl => match us, hl with | [_, _], _ => rfl)⟩
      m_check_keys := PySem.W.mg_of X G hm_check_keys
      d_House_door_names := ⟨_, (fun_mk (st := s_House_door_names) hd_House_door_namesl hd_House_door_namesc hd_House_door_namesk), ((fun_mk (st := s_House_door_names) hd_House_door_namesl hd_House_door_namesc hd_House_door_namesk).binds (ps := ["self"]) fun _ _ _ _ _ _ us hl => match us, hl with | [_], _ => rfl)⟩
      M_House_door_names := ⟨hM_House_door_namesi, hM_House_door_namesf, hM_House_door_namesk⟩
      d_check_doors := ⟨_, (fun_mk (st := s_check_doors) hd_check_doorsl hd_check_doorsc hd_check_doorsk), ((fun_mk (st := s_check_doors) hd_check_doorsl hd_check_doorsc hd_check_doorsk).binds (ps := ["house", "some"]) fun _ _ _ _ _ _ us hl => match us, hl with | [_, _], _ => rfl)⟩
      m_check_doors := PySem.W.mg_of X G hm_check_doors
      d_House_locks_of := ⟨_, (fun_mk (st := s_House_locks_of) hd_House_locks_ofl hd_House_locks_ofc hd_House_locks_ofk), ((fun_mk (st := s_House_locks_of) hd_House_locks_ofl hd_House_locks_ofc hd_House_locks_ofk).binds (ps := ["self", "door"]) fun _ _ _ _ _ _ us hl => match us, hl with | [_, _], _ => rfl)⟩
      M_House_locks_of := ⟨hM_House_locks_ofi, hM_House_locks_off, hM_House_locks_ofk⟩
      d_door_locks := ⟨_, (fun_mk (st := s_door_locks) hd_door_locksl hd_door_locksc hd_door_locksk), ((fun_mk (st := s_door_locks) hd_door_locksl hd_door_locksc hd_door_locksk).binds (ps := ["house", "door", "some"]) fun _ _ _ _ _ _ us hl => match us, hl with | [_, _, _], _ => rfl)⟩
      m_door_locks := PySem.W.mg_of X G hm_door_locks
      d_House_lock_names := ⟨_, (fun_mk (st := s_House_lock_names) hd_House_lock_namesl hd_House_lock_namesc hd_House_lock_namesk), ((fun_mk (st := s_House_lock_names) hd_House_lock_namesl hd_House_lock_namesc hd_House_lock_namesk).binds (ps := ["self"]) fun _ _ _ _ _ _ us hl => match us, hl with | [_], _ => rfl)⟩
      M_House_lock_names := ⟨hM_House_lock_namesi, hM_House_lock_namesf, hM_House_lock_namesk⟩
      d_House_openers := ⟨_, (fun_mk (st := s_House_openers) hd_House_openersl hd_House_openersc hd_House_openersk), ((fun_mk (st := s_House_openers) hd_House_openersl hd_House_openersc hd_House_openersk).binds (ps := ["self", "lock"]) fun _ _ _ _ _ _ us hl => match us, hl with | [_, _], _ => rfl)⟩
      M_House_openers := ⟨hM_House_openersi, hM_House_openersf, hM_House_openersk⟩
      d_opens_lock := ⟨_, (fun_mk (st := s_opens_lock) hd_opens_lockl hd_opens_lockc hd_opens_lockk), ((fun_mk (st := s_opens_lock) hd_opens_lockl hd_opens_lockc hd_opens_lockk).binds (ps := ["house", "lock", "some"]) fun _ _ _ _ _ _ us hl => match us, hl with | [_, _, _], _ => rfl)⟩
      m_opens_lock := PySem.W.mg_of X G hm_opens_lock
      d_opens := ⟨_, (fun_mk (st := s_opens) hd_opensl hd_opensc hd_opensk), ((fun_mk (st := s_opens) hd_opensl hd_opensc hd_opensk).binds (ps := ["house", "door", "some"]) fun _ _ _ _ _ _ us hl => match us, hl with | [_, _, _], _ => rfl)⟩
      m_opens := PySem.W.mg_of X G hm_opens
      d_doors_of := ⟨_, (fun_mk (st := s_doors_of) hd_doors_ofl hd_doors_ofc hd_doors_ofk), ((fun_mk (st := s_doors_of) hd_doors_ofl hd_doors_ofc hd_doors_ofk).binds (ps := ["house", "some"]) fun _ _ _ _ _ _ us hl => match us, hl with | [_, _], _ => rfl)⟩
      m_doors_of := PySem.W.mg_of X G hm_doors_of
      d_is_below_key := ⟨_, (fun_mk (st := s_is_below_key) hd_is_below_keyl hd_is_below_keyc hd_is_below_keyk), ((fun_mk (st := s_is_below_key) hd_is_below_keyl hd_is_below_keyc hd_is_below_keyk).binds (ps := ["house", "one", "other"]) fun _ _ _ _ _ _ us hl => match us, hl with | [_, _, _], _ => rfl)⟩
      m_is_below_key := PySem.W.mg_of X G hm_is_below_key
      d_above := ⟨_, (fun_mk (st := s_above) hd_abovel hd_abovec hd_abovek), ((fun_mk (st := s_above) hd_abovel hd_abovec hd_abovek).binds (ps := ["house", "one"]) fun _ _ _ _ _ _ us hl => match us, hl with | [_, _], _ => rfl)⟩
      m_above := PySem.W.mg_of X G hm_above
      d_alike_keys := ⟨_, (fun_mk (st := s_alike_keys) hd_alike_keysl hd_alike_keysc hd_alike_keysk), ((fun_mk (st := s_alike_keys) hd_alike_keysl hd_alike_keysc hd_alike_keysk).binds (ps := ["house", "one", "other"]) fun _ _ _ _ _ _ us hl => match us, hl with | [_, _, _], _ => rfl)⟩
      m_alike_keys := PySem.W.mg_of X G hm_alike_keys
      d_tops := ⟨_, (fun_mk (st := s_tops) hd_topsl hd_topsc hd_topsk), ((fun_mk (st := s_tops) hd_topsl hd_topsc hd_topsk).binds (ps := ["house"]) fun _ _ _ _ _ _ us hl => match us, hl with | [_], _ => rfl)⟩
      m_tops := PySem.W.mg_of X G hm_tops
      d_longest_chain := ⟨_, (fun_mk (st := s_longest_chain) hd_longest_chainl hd_longest_chainc hd_longest_chaink), ((fun_mk (st := s_longest_chain) hd_longest_chainl hd_longest_chainc hd_longest_chaink).binds (ps := ["house"]) fun _ _ _ _ _ _ us hl => match us, hl with | [_], _ => rfl)⟩
      m_longest_chain := PySem.W.mg_of X G hm_longest_chain
      d_masters := ⟨_, (fun_mk (st := s_masters) hd_mastersl hd_mastersc hd_mastersk), ((fun_mk (st := s_masters) hd_mastersl hd_mastersc hd_mastersk).binds (ps := ["house"]) fun _ _ _ _ _ _ us hl => match us, hl with | [_], _ => rfl)⟩
      m_masters := PySem.W.mg_of X G hm_masters
      d_exposed := ⟨_, (fun_mk (st := s_exposed) hd_exposedl hd_exposedc hd_exposedk), ((fun_mk (st := s_exposed) hd_exposedl hd_exposedc hd_exposedk).binds (ps := ["house", "lost"]) fun _ _ _ _ _ _ us hl => match us, hl with | [_, _], _ => rfl)⟩
      m_exposed := PySem.W.mg_of X G hm_exposed
      d_worst_loss := ⟨_, (fun_mk (st := s_worst_loss) hd_worst_lossl hd_worst_lossc hd_worst_lossk), ((fun_mk (st := s_worst_loss) hd_worst_lossl hd_worst_lossc hd_worst_lossk).binds (ps := ["house"]) fun _ _ _ _ _ _ us hl => match us, hl with | [_], _ => rfl)⟩
      m_worst_loss := PySem.W.mg_of X G hm_worst_loss
      d_are_apart := ⟨_, (fun_mk (st := s_are_apart) hd_are_apartl hd_are_apartc hd_are_apartk), ((fun_mk (st := s_are_apart) hd_are_apartl hd_are_apartc hd_are_apartk).binds (ps := ["house", "one", "other"]) fun _ _ _ _ _ _ us hl => match us, hl with | [_, _, _], _ => rfl)⟩
      m_are_apart := PySem.W.mg_of X G hm_are_apart
      d_Forkdd_initdd := ⟨_, (fun_mk (st := s_Forkdd_initdd) hd_Forkdd_initddl hd_Forkdd_initddc hd_Forkdd_initddk), ((fun_mk (st := s_Forkdd_initdd) hd_Forkdd_initddl hd_Forkdd_initddc hd_Forkdd_initddk).binds (ps := ["self", "one", "first", "last"]) fun _ _ _ _ _ _ us hl => match us, hl with | [_, _, _, _], _ => rfl)⟩
      d_rowed := ⟨_, (fun_mk (st := s_rowed) hd_rowedl hd_rowedc hd_rowedk), ((fun_mk (st := s_rowed) hd_rowedl hd_rowedc hd_rowedk).binds (ps := ["thing"]) fun _ _ _ _ _ _ us hl => match us, hl with | [_], _ => rfl)⟩
      m_rowed := PySem.W.mg_of X G hm_rowed
      d_Treedd_initdd := ⟨_, (fun_mk (st := s_Treedd_initdd) hd_Treedd_initddl hd_Treedd_initddc hd_Treedd_initddk), ((fun_mk (st := s_Treedd_initdd) hd_Treedd_initddl hd_Treedd_initddc hd_Treedd_initddk).binds (ps := ["self", "rows"]) fun _ _ _ _ _ _ us hl => match us, hl with | [_, _], _ => rfl)⟩
      d_judge_tree := ⟨_, (fun_mk (st := s_judge_tree) hd_judge_treel hd_judge_treec hd_judge_treek), ((fun_mk (st := s_judge_tree) hd_judge_treel hd_judge_treec hd_judge_treek).binds (ps := ["house"]) fun _ _ _ _ _ _ us hl => match us, hl with | [_], _ => rfl)⟩
      m_judge_tree := PySem.W.mg_of X G hm_judge_tree
      d_Issuedd_initdd := ⟨_, (fun_mk (st := s_Issuedd_initdd) hd_Issuedd_initddl hd_Issuedd_initddc hd_Issuedd_initddk), ((fun_mk (st := s_Issuedd_initdd) hd_Issuedd_initddl hd_Issuedd_initddc hd_Issuedd_initddk).binds (ps := ["self", "some"]) fun _ _ _ _ _ _ us hl => match us, hl with | [_, _], _ => rfl)⟩
      d_in_house := ⟨_, (fun_mk (st := s_in_house) hd_in_housel hd_in_housec hd_in_housek), ((fun_mk (st := s_in_house) hd_in_housel hd_in_housec hd_in_housek).binds (ps := ["house", "doors"]) fun _ _ _ _ _ _ us hl => match us, hl with | [_, _], _ => rfl)⟩
      m_in_house := PySem.W.mg_of X G hm_in_house
      d_least_up_to := ⟨_, (fun_mk (st := s_least_up_to) hd_least_up_tol hd_least_up_toc hd_least_up_tok), ((fun_mk (st := s_least_up_to) hd_least_up_tol hd_least_up_toc hd_least_up_tok).binds (ps := ["things", "most", "test"]) fun _ _ _ _ _ _ us hl => match us, hl with | [_, _, _], _ => rfl)⟩
      m_least_up_to := PySem.W.mg_of X G hm_least_up_to
      d_least_sets := ⟨_, (fun_mk (st := s_least_sets) hd_least_setsl hd_least_setsc hd_least_setsk), ((fun_mk (st := s_least_sets) hd_least_setsl hd_least_setsc hd_least_setsk).binds (ps := ["things", "test"]) fun _ _ _ _ _ _ us hl => match us, hl with | [_, _], _ => rfl)⟩
      m_least_sets := PySem.W.mg_of X G hm_least_sets
      d_least_issues := ⟨_, _, _, _, _, _, _, _, hd_least_issuesl, hd_least_issuesc, hd_least_issuesk, ((fun_mk (st := s_least_issues) hd_least_issuesl hd_least_issuesc hd_least_issuesk).binds (ps := ["house", "doors"]) fun _ _ _ _ _ _ us hl => match us, hl with | [_, _], _ => rfl)⟩
      t_least_issues := hB (cd_least_issues, tb_least_issues) (by simp)
      i_least_issues := by simp [Tb, A]
      q_least_issues := by simp [Tb, A]
      m_least_issues := PySem.W.mg_of X G hm_least_issues
      d_judge_issue := ⟨_, (fun_mk (st := s_judge_issue) hd_judge_issuel hd_judge_issuec hd_judge_issuek), ((fun_mk (st := s_judge_issue) hd_judge_issuel hd_judge_issuec hd_judge_issuek).binds (ps := ["house", "doors"]) fun _ _ _ _ _ _ us hl => match us, hl with | [_, _], _ => rfl)⟩
      m_judge_issue := PySem.W.mg_of X G hm_judge_issue
      d_law := ⟨_, (fun_mk (st := s_law) hd_lawl hd_lawc hd_lawk), ((fun_mk (st := s_law) hd_lawl hd_lawc hd_lawk).binds (ps := ["script"]) fun _ _ _ _ _ _ us hl => match us, hl with | [_], _ => rfl)⟩
      m_law := PySem.W.mg_of X G hm_law
      c_House := ⟨hc_Housep, hc_Househ, hc_Houseo, hc_Houses⟩
      m_House := PySem.W.mg_of X G hm_House
      M_House := ⟨hM_Housem, hM_Housei, hM_Housef, hM_Housek⟩
      n_House_ring := hn_House_ring
      n_House_locks := hn_House_locks
      n_House_doors := hn_House_doors
      c_Tree := ⟨hc_Treep, hc_Treeh, hc_Treeo, hc_Trees⟩
      m_Tree := PySem.W.mg_of X G hm_Tree
      M_Tree := ⟨hM_Treem, hM_Treei, hM_Treef, hM_Treek⟩
      n_Tree_rows := hn_Tree_rows
      c_Fork := ⟨hc_Forkp, hc_Forkh, hc_Forko, hc_Forks⟩
      m_Fork := PySem.W.mg_of X G hm_Fork
      M_Fork := ⟨hM_Forkm, hM_Forki, hM_Forkf, hM_Forkk⟩
      n_Fork_one := hn_Fork_one
      n_Fork_first := hn_Fork_first
      n_Fork_last := hn_Fork_last
      c_Issue := ⟨hc_Issuep, hc_Issueh, hc_Issueo, hc_Issues⟩
      m_Issue := PySem.W.mg_of X G hm_Issue
      M_Issue := ⟨hM_Issuem, hM_Issuei, hM_Issuef, hM_Issuek⟩
      n_Issue_some := hn_Issue_some
      c_NoIssue := ⟨hc_NoIssuep, hc_NoIssueh, hc_NoIssueo, hc_NoIssues⟩
      m_NoIssue := PySem.W.mg_of X G hm_NoIssue
      n_NoIssue_rows := hn_NoIssue_rows
      g_dict := PySem.W.mg_none_of X G hg_dict
      g_list := PySem.W.mg_none_of X G hg_list
      g_any := PySem.W.mg_none_of X G hg_any
      g_all := PySem.W.mg_none_of X G hg_all
      g_len := PySem.W.mg_none_of X G hg_len
      g_zip := PySem.W.mg_none_of X G hg_zip
      g_sorted := PySem.W.mg_none_of X G hg_sorted
      g_bool := PySem.W.mg_none_of X G hg_bool
      g_range := PySem.W.mg_none_of X G hg_range
      g_str := PySem.W.mg_none_of X G hg_str
      g_tuple := PySem.W.mg_none_of X G hg_tuple
      g_int := PySem.W.mg_none_of X G hg_int
      k_MOST_LOCKS := ⟨_, PySem.W.mg_of X G hk_MOST_LOCKS⟩
      k_MOST_DOORS := ⟨_, PySem.W.mg_of X G hk_MOST_DOORS⟩
      k_MOST_KEYS := ⟨_, PySem.W.mg_of X G hk_MOST_KEYS⟩
      g_enumerate := PySem.W.mg_none_of X G hg_enumerate
      g_isinstance := PySem.W.mg_none_of X G hg_isinstance
      k_MOST_SIGNS := ⟨_, PySem.W.mg_of X G hk_MOST_SIGNS⟩
      k_LETTERS := ⟨_, PySem.W.mg_of X G hk_LETTERS⟩
      k_FIGURES := ⟨_, PySem.W.mg_of X G hk_FIGURES⟩
      g_max := PySem.W.mg_none_of X G hg_max
      k_combinations := PySem.W.mg_of X G hk_combinations
      g_min := PySem.W.mg_none_of X G hg_min
      isi_0_0 := ⟨⟨hc_Housep, hc_Househ, hc_Houseo, hc_Houses⟩, hisi_0_0a, hisi_0_0n, hisi_0_0t, hisi_0_0m, hisi_0_0k⟩
    }
theorem walk {l : PySem.W.OpenLaw} {q : Program} {loose : List Str} {XP : (Str → Option Value) → Heap → Prop} {YP : World → Heap → Prop} {d : DefRec} {K : Params → PySem.W.Frag} (hn : l.most = some 63) (hdf : d.params.defaults = [])
    (hY : ∀ (w : World) (h : Heap), YP w h → (K w.params).In h)
    (F : ∀ (w : World) (mg : Str → Option Value) (fa : Addr) (h : Heap), YP w h → (K w.params).In h → h.Ns mainGlobals mg → mg d.name = some (.ref fa) → LamX.LawAtS l w (K w.params) CX0 14 63 "script" mg fa h) :
    PySem.W.WalkO q loose XP YP l.row.toRowW d [] (fun f vs => PySem.call f vs) :=
  LamX.walk_ofTs (n := 63) (CX := fun _ => CX0) hn (by decide) hdf ⟨rfl, by decide, by decide⟩ hY F fun _ _ _ _ _ z => z

end K82
open PySem PySem.W PyProof.Rows in
set_option maxRecDepth 100000 in
set_option maxHeartbeats 0 in
theorem PySem.Challenge.cw_keysout_k82_who_is_above_whom_holds : PySem.Challenge.rw_keysout_k82_who_is_above_whom.Holds := by
  w_on; o_law; k_head; (case hw => w_witness2)
  k_fill
  refine K82.walk (l := PySem.Challenge.rw_keysout_k82_who_is_above_whom) rfl rfl (fun w h Y => PySem.W.km_in_of Y) ?F
  case F =>
    intro w mg fa h Y KX G hmg
    refine' K82.all_mk KX G hmg ?hm__law_number ?hm__law_take ?hm__law_pick ?hm__law_drawn_house ?hm_is_row ?hm_is_name ?hm_check_ring ?hm_are_some ?hm_check_rows ?hm_in_order ?hm__law_house ?hm__law_door_names ?hm_check_house ?hm_check_key ?hm_check_keys ?hm_check_doors ?hm_door_locks ?hm_opens_lock ?hm_opens ?hm_doors_of ?hm_is_below_key ?hm_above ?hm_alike_keys ?hm_tops ?hm_longest_chain ?hm_masters ?hm_exposed ?hm_worst_loss ?hm_are_apart ?hm_rowed ?hm_judge_tree ?hm_in_house ?hm_least_up_to ?hm_least_sets ?hm_least_issues ?hm_judge_issue ?hm_law ?hm_House ?hm_Tree ?hm_Fork ?hm_Issue ?hm_NoIssue ?hc_Housep ?hc_Househ ?hc_Houseo ?hc_Houses ?hc_Treep ?hc_Treeh ?hc_Treeo ?hc_Trees ?hc_Forkp ?hc_Forkh ?hc_Forko ?hc_Forks ?hc_Issuep ?hc_Issueh ?hc_Issueo ?hc_Issues ?hc_NoIssuep ?hc_NoIssueh ?hc_NoIssueo ?hc_NoIssues ?hM_Treedd_boolddi ?hM_Treedd_boolddf ?hM_Treedd_boolddk ?hM_Forkdd_boolddi ?hM_Forkdd_boolddf ?hM_Forkdd_boolddk ?hM_Issuedd_boolddi ?hM_Issuedd_boolddf ?hM_Issuedd_boolddk ?hM_House_door_namesi ?hM_House_door_namesf ?hM_House_door_namesk ?hM_House_locks_ofi ?hM_House_locks_off ?hM_House_locks_ofk ?hM_House_lock_namesi ?hM_House_lock_namesf ?hM_House_lock_namesk ?hM_House_openersi ?hM_House_openersf ?hM_House_openersk ?hM_Housei ?hM_Housem ?hM_Housef ?hM_Housek ?hn_House_ring ?hn_House_locks ?hn_House_doors ?hM_Treei ?hM_Treem ?hM_Treef ?hM_Treek ?hn_Tree_rows ?hM_Forki ?hM_Forkm ?hM_Forkf ?hM_Forkk ?hn_Fork_one ?hn_Fork_first ?hn_Fork_last ?hM_Issuei ?hM_Issuem ?hM_Issuef ?hM_Issuek ?hn_Issue_some ?hn_NoIssue_rows ?hg_dict ?hg_list ?hg_any ?hg_all ?hg_len ?hg_zip ?hg_sorted ?hg_bool ?hg_range ?hg_str ?hg_tuple ?hg_int ?hk_MOST_LOCKS ?hk_MOST_DOORS ?hk_MOST_KEYS ?hg_enumerate ?hg_isinstance ?hk_MOST_SIGNS ?hk_LETTERS ?hk_FIGURES ?hg_max ?hk_combinations ?hg_min ?hisi_0_0a ?hisi_0_0n ?hisi_0_0t ?hisi_0_0m ?hisi_0_0k ?hd_Treedd_boolddl ?hd_Treedd_boolddc ?hd_Treedd_boolddk ?hd_Forkdd_boolddl ?hd_Forkdd_boolddc ?hd_Forkdd_boolddk ?hd_Issuedd_boolddl ?hd_Issuedd_boolddc ?hd_Issuedd_boolddk ?hd__law_numberl ?hd__law_numberc ?hd__law_numberk ?hd__law_takel ?hd__law_takec ?hd__law_takek ?hd__law_pickl ?hd__law_pickc ?hd__law_pickk ?hd__law_drawn_housel ?hd__law_drawn_housec ?hd__law_drawn_housek ?hd_is_rowl ?hd_is_rowc ?hd_is_rowk ?hd_is_namel ?hd_is_namec ?hd_is_namek ?hd_check_ringl ?hd_check_ringc ?hd_check_ringk ?hd_are_somel ?hd_are_somec ?hd_are_somek ?hd_check_rowsl ?hd_check_rowsc ?hd_check_rowsk ?hd_in_orderl ?hd_in_orderc ?hd_in_orderk ?hd_Housedd_initddl ?hd_Housedd_initddc ?hd_Housedd_initddk ?hd__law_housel ?hd__law_housec ?hd__law_housek ?hd__law_door_namesl ?hd__law_door_namesc ?hd__law_door_namesk ?hd_check_housel ?hd_check_housec ?hd_check_housek ?hd_check_keyl ?hd_check_keyc ?hd_check_keyk ?hd_check_keysl ?hd_check_keysc ?hd_check_keysk ?hd_House_door_namesl ?hd_House_door_namesc ?hd_House_door_namesk ?hd_check_doorsl ?hd_check_doorsc ?hd_check_doorsk ?hd_House_locks_ofl ?hd_House_locks_ofc ?hd_House_locks_ofk ?hd_door_locksl ?hd_door_locksc ?hd_door_locksk ?hd_House_lock_namesl ?hd_House_lock_namesc ?hd_House_lock_namesk ?hd_House_openersl ?hd_House_openersc ?hd_House_openersk ?hd_opens_lockl ?hd_opens_lockc ?hd_opens_lockk ?hd_opensl ?hd_opensc ?hd_opensk ?hd_doors_ofl ?hd_doors_ofc ?hd_doors_ofk ?hd_is_below_keyl ?hd_is_below_keyc ?hd_is_below_keyk ?hd_abovel ?hd_abovec ?hd_abovek ?hd_alike_keysl ?hd_alike_keysc ?hd_alike_keysk ?hd_topsl ?hd_topsc ?hd_topsk ?hd_longest_chainl ?hd_longest_chainc ?hd_longest_chaink ?hd_mastersl ?hd_mastersc ?hd_mastersk ?hd_exposedl ?hd_exposedc ?hd_exposedk ?hd_worst_lossl ?hd_worst_lossc ?hd_worst_lossk ?hd_are_apartl ?hd_are_apartc ?hd_are_apartk ?hd_Forkdd_initddl ?hd_Forkdd_initddc ?hd_Forkdd_initddk ?hd_rowedl ?hd_rowedc ?hd_rowedk ?hd_Treedd_initddl ?hd_Treedd_initddc ?hd_Treedd_initddk ?hd_judge_treel ?hd_judge_treec ?hd_judge_treek ?hd_Issuedd_initddl ?hd_Issuedd_initddc ?hd_Issuedd_initddk ?hd_in_housel ?hd_in_housec ?hd_in_housek ?hd_least_up_tol ?hd_least_up_toc ?hd_least_up_tok ?hd_least_setsl ?hd_least_setsc ?hd_least_setsk ?hd_least_issuesl ?hd_least_issuesc ?hd_least_issuesk ?hd_least_issuesq ?hd_least_issuesx ?hd_least_issuesy ?hd_least_issuesz ?hd_least_issuest ?hd_judge_issuel ?hd_judge_issuec ?hd_judge_issuek ?hd_lawl ?hd_lawc ?hd_lawk
    (case hm__law_number => k_is)
    (case hm__law_take => k_is)
    (case hm__law_pick => k_is)
    (case hm__law_drawn_house => k_is)
    (case hm_is_row => k_is)
    (case hm_is_name => k_is)
    (case hm_check_ring => k_is)
    (case hm_are_some => k_is)
    (case hm_check_rows => k_is)
    (case hm_in_order => k_is)
    (case hm__law_house => k_is)
    (case hm__law_door_names => k_is)
    (case hm_check_house => k_is)
    (case hm_check_key => k_is)
    (case hm_check_keys => k_is)
    (case hm_check_doors => k_is)
    (case hm_door_locks => k_is)
    (case hm_opens_lock => k_is)
    (case hm_opens => k_is)
    (case hm_doors_of => k_is)
    (case hm_is_below_key => k_is)
    (case hm_above => k_is)
    (case hm_alike_keys => k_is)
    (case hm_tops => k_is)
    (case hm_longest_chain => k_is)
    (case hm_masters => k_is)
    (case hm_exposed => k_is)
    (case hm_worst_loss => k_is)
    (case hm_are_apart => k_is)
    (case hm_rowed => k_is)
    (case hm_judge_tree => k_is)
    (case hm_in_house => k_is)
    (case hm_least_up_to => k_is)
    (case hm_least_sets => k_is)
    (case hm_least_issues => k_is)
    (case hm_judge_issue => k_is)
    (case hm_law => k_is)
    (case hm_House => k_is)
    (case hm_Tree => k_is)
    (case hm_Fork => k_is)
    (case hm_Issue => k_is)
    (case hm_NoIssue => k_is)
    (case hc_Housep => k_is)
    (case hc_Househ => k_is)
    (case hc_Houseo => k_is)
    (case hc_Houses => k_is)
    (case hc_Treep => k_is)
    (case hc_Treeh => k_is)
    (case hc_Treeo => k_is)
    (case hc_Trees => k_is)
    (case hc_Forkp => k_is)
    (case hc_Forkh => k_is)
    (case hc_Forko => k_is)
    (case hc_Forks => k_is)
    (case hc_Issuep => k_is)
    (case hc_Issueh => k_is)
    (case hc_Issueo => k_is)
    (case hc_Issues => k_is)
    (case hc_NoIssuep => k_is)
    (case hc_NoIssueh => k_is)
    (case hc_NoIssueo => k_is)
    (case hc_NoIssues => k_is)
    (case hM_Treedd_boolddi => k_is)
    (case hM_Treedd_boolddf => k_is)
    (case hM_Treedd_boolddk => k_is)
    (case hM_Forkdd_boolddi => k_is)
    (case hM_Forkdd_boolddf => k_is)
    (case hM_Forkdd_boolddk => k_is)
    (case hM_Issuedd_boolddi => k_is)
    (case hM_Issuedd_boolddf => k_is)
    (case hM_Issuedd_boolddk => k_is)
    (case hM_House_door_namesi => k_is)
    (case hM_House_door_namesf => k_is)
    (case hM_House_door_namesk => k_is)
    (case hM_House_locks_ofi => k_is)
    (case hM_House_locks_off => k_is)
    (case hM_House_locks_ofk => k_is)
    (case hM_House_lock_namesi => k_is)
    (case hM_House_lock_namesf => k_is)
    (case hM_House_lock_namesk => k_is)
    (case hM_House_openersi => k_is)
    (case hM_House_openersf => k_is)
    (case hM_House_openersk => k_is)
    (case hM_Housei => k_is)
    (case hM_Housem => k_is)
    (case hM_Housef => k_is)
    (case hM_Housek => k_is)
    (case hn_House_ring => k_is)
    (case hn_House_locks => k_is)
    (case hn_House_doors => k_is)
    (case hM_Treei => k_is)
    (case hM_Treem => k_is)
    (case hM_Treef => k_is)
    (case hM_Treek => k_is)
    (case hn_Tree_rows => k_is)
    (case hM_Forki => k_is)
    (case hM_Forkm => k_is)
    (case hM_Forkf => k_is)
    (case hM_Forkk => k_is)
    (case hn_Fork_one => k_is)
    (case hn_Fork_first => k_is)
    (case hn_Fork_last => k_is)
    (case hM_Issuei => k_is)
    (case hM_Issuem => k_is)
    (case hM_Issuef => k_is)
    (case hM_Issuek => k_is)
    (case hn_Issue_some => k_is)
    (case hn_NoIssue_rows => k_is)
    (case hg_dict => k_is)
    (case hg_list => k_is)
    (case hg_any => k_is)
    (case hg_all => k_is)
    (case hg_len => k_is)
    (case hg_zip => k_is)
    (case hg_sorted => k_is)
    (case hg_bool => k_is)
    (case hg_range => k_is)
    (case hg_str => k_is)
    (case hg_tuple => k_is)
    (case hg_int => k_is)
    (case hk_MOST_LOCKS => k_is)
    (case hk_MOST_DOORS => k_is)
    (case hk_MOST_KEYS => k_is)
    (case hg_enumerate => k_is)
    (case hg_isinstance => k_is)
    (case hk_MOST_SIGNS => k_is)
    (case hk_LETTERS => k_is)
    (case hk_FIGURES => k_is)
    (case hg_max => k_is)
    (case hk_combinations => k_is)
    (case hg_min => k_is)
    (case hisi_0_0a => k_is)
    (case hisi_0_0n => k_is)
    (case hisi_0_0t => k_is)
    (case hisi_0_0m => k_is)
    (case hisi_0_0k => kernel_rfl)
    (case hd_Treedd_boolddl => k_is)
    (case hd_Treedd_boolddc => k_is)
    (case hd_Treedd_boolddk => k_is)
    (case hd_Forkdd_boolddl => k_is)
    (case hd_Forkdd_boolddc => k_is)
    (case hd_Forkdd_boolddk => k_is)
    (case hd_Issuedd_boolddl => k_is)
    (case hd_Issuedd_boolddc => k_is)
    (case hd_Issuedd_boolddk => k_is)
    (case hd__law_numberl => k_is)
    (case hd__law_numberc => k_is)
    (case hd__law_numberk => k_is)
    (case hd__law_takel => k_is)
    (case hd__law_takec => k_is)
    (case hd__law_takek => k_is)
    (case hd__law_pickl => k_is)
    (case hd__law_pickc => k_is)
    (case hd__law_pickk => k_is)
    (case hd__law_drawn_housel => k_is)
    (case hd__law_drawn_housec => k_is)
    (case hd__law_drawn_housek => k_is)
    (case hd_is_rowl => k_is)
    (case hd_is_rowc => k_is)
    (case hd_is_rowk => k_is)
    (case hd_is_namel => k_is)
    (case hd_is_namec => k_is)
    (case hd_is_namek => k_is)
    (case hd_check_ringl => k_is)
    (case hd_check_ringc => k_is)
    (case hd_check_ringk => k_is)
    (case hd_are_somel => k_is)
    (case hd_are_somec => k_is)
    (case hd_are_somek => k_is)
    (case hd_check_rowsl => k_is)
    (case hd_check_rowsc => k_is)
    (case hd_check_rowsk => k_is)
    (case hd_in_orderl => k_is)
    (case hd_in_orderc => k_is)
    (case hd_in_orderk => k_is)
    (case hd_Housedd_initddl => k_is)
    (case hd_Housedd_initddc => k_is)
    (case hd_Housedd_initddk => k_is)
    (case hd__law_housel => k_is)
    (case hd__law_housec => k_is)
    (case hd__law_housek => k_is)
    (case hd__law_door_namesl => k_is)
    (case hd__law_door_namesc => k_is)
    (case hd__law_door_namesk => k_is)
    (case hd_check_housel => k_is)
    (case hd_check_housec => k_is)
    (case hd_check_housek => k_is)
    (case hd_check_keyl => k_is)
    (case hd_check_keyc => k_is)
    (case hd_check_keyk => k_is)
    (case hd_check_keysl => k_is)
    (case hd_check_keysc => k_is)
    (case hd_check_keysk => k_is)
    (case hd_House_door_namesl => k_is)
    (case hd_House_door_namesc => k_is)
    (case hd_House_door_namesk => k_is)
    (case hd_check_doorsl => k_is)
    (case hd_check_doorsc => k_is)
    (case hd_check_doorsk => k_is)
    (case hd_House_locks_ofl => k_is)
    (case hd_House_locks_ofc => k_is)
    (case hd_House_locks_ofk => k_is)
    (case hd_door_locksl => k_is)
    (case hd_door_locksc => k_is)
    (case hd_door_locksk => k_is)
    (case hd_House_lock_namesl => k_is)
    (case hd_House_lock_namesc => k_is)
    (case hd_House_lock_namesk => k_is)
    (case hd_House_openersl => k_is)
    (case hd_House_openersc => k_is)
    (case hd_House_openersk => k_is)
    (case hd_opens_lockl => k_is)
    (case hd_opens_lockc => k_is)
    (case hd_opens_lockk => k_is)
    (case hd_opensl => k_is)
    (case hd_opensc => k_is)
    (case hd_opensk => k_is)
    (case hd_doors_ofl => k_is)
    (case hd_doors_ofc => k_is)
    (case hd_doors_ofk => k_is)
    (case hd_is_below_keyl => k_is)
    (case hd_is_below_keyc => k_is)
    (case hd_is_below_keyk => k_is)
    (case hd_abovel => k_is)
    (case hd_abovec => k_is)
    (case hd_abovek => k_is)
    (case hd_alike_keysl => k_is)
    (case hd_alike_keysc => k_is)
    (case hd_alike_keysk => k_is)
    (case hd_topsl => k_is)
    (case hd_topsc => k_is)
    (case hd_topsk => k_is)
    (case hd_longest_chainl => k_is)
    (case hd_longest_chainc => k_is)
    (case hd_longest_chaink => k_is)
    (case hd_mastersl => k_is)
    (case hd_mastersc => k_is)
    (case hd_mastersk => k_is)
    (case hd_exposedl => k_is)
    (case hd_exposedc => k_is)
    (case hd_exposedk => k_is)
    (case hd_worst_lossl => k_is)
    (case hd_worst_lossc => k_is)
    (case hd_worst_lossk => k_is)
    (case hd_are_apartl => k_is)
    (case hd_are_apartc => k_is)
    (case hd_are_apartk => k_is)
    (case hd_Forkdd_initddl => k_is)
    (case hd_Forkdd_initddc => k_is)
    (case hd_Forkdd_initddk => k_is)
    (case hd_rowedl => k_is)
    (case hd_rowedc => k_is)
    (case hd_rowedk => k_is)
    (case hd_Treedd_initddl => k_is)
    (case hd_Treedd_initddc => k_is)
    (case hd_Treedd_initddk => k_is)
    (case hd_judge_treel => k_is)
    (case hd_judge_treec => k_is)
    (case hd_judge_treek => k_is)
    (case hd_Issuedd_initddl => k_is)
    (case hd_Issuedd_initddc => k_is)
    (case hd_Issuedd_initddk => k_is)
    (case hd_in_housel => k_is)
    (case hd_in_housec => k_is)
    (case hd_in_housek => k_is)
    (case hd_least_up_tol => k_is)
    (case hd_least_up_toc => k_is)
    (case hd_least_up_tok => k_is)
    (case hd_least_setsl => k_is)
    (case hd_least_setsc => k_is)
    (case hd_least_setsk => k_is)
    (case hd_least_issuesl => k_is)
    (case hd_least_issuesc => k_is)
    (case hd_least_issuesk => k_is)
    (case hd_least_issuesq => k_is)
    (case hd_least_issuesx => rfl)
    (case hd_least_issuesy => kernel_rfl)
    (case hd_least_issuesz => kernel_rfl)
    (case hd_least_issuest => exact PySem.W.km_tabs_of Y _ (by first | k_mem | simp))
    (case hd_judge_issuel => k_is)
    (case hd_judge_issuec => k_is)
    (case hd_judge_issuek => k_is)
    (case hd_lawl => k_is)
    (case hd_lawc => k_is)
    (case hd_lawk => k_is)
