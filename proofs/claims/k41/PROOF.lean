import PyProof.Rows.All
import PyProof.ZipIter
import PyProof.CallType
import PyProof.Walk
import PyProof.WalkLemmas
import PyProof.RangeIter
import PyProof.RulesTry
import HandS.RepeatKit
import HandS.ForExc
import HandS.Wide
import HandS.WideBits
import HandS.Deep
import HandS.SortRule
import HandS.NamedTupSort
import HandS.TupAny
import HandS.TupLe
import HandS.Style
import HandS.TupMul
import HandS.IsInst
import HandS.Gcd
import HandS.Conv
import HandS.SortInts
import HandS.Exc
import HandS.MakeKwOnly
import HandS.Comp
import HandS.Iter
import HandS.Zip
import HandS.List
import HandS.Star
import KE.GoesNew
import KE.GoesMore
import HandS.TryOnly
import HandS.Dict
import HandS.DictComp
import HandS.More
import HandS.Ends
import HandS.Defaults
import HandS.Head0
import HandS.Head1
import HandS.Head2
import HandS.HeadEnd
import HandS.HeadHook1
import HandS.HeadHook2
import PyProof.ReprLen
import HandS.Head3
import PySem.Challenge.RW_surefinds_k41_whole_shares_and_worths
set_option Elab.async false
set_option linter.all false
set_option autoImplicit false
set_option maxRecDepth 100000
set_option maxHeartbeats 0
section
/-! itertools.combinations, at the library's level. -/
namespace R
open PySem PySem.Spec PyProof.Rows
open Sem (wp)
abbrev tyC : String := "itertools.combinations"
theorem mro_comb : mroOf (.type "itertools.combinations") = pure [.type "itertools.combinations", .type "object"] := by rw [mroOf_type]; kernel_rfl
theorem lookup_comb_new : typeLookup (.type "itertools.combinations") "__new__" = pure (some (.builtin "itertools.combinations.__new__")) := by rw [typeLookup_type, builtinLookup_eq_fast]; kernel_rfl
theorem slot_comb_init : Slot "itertools.combinations" "__init__" "object.__init__" :=
  .of (owner := "object") (n := "__init__") (by rw [typeLookup_type, builtinLookup_eq_fast]; kernel_rfl) (by decide +kernel) (by decide +kernel) (by decide +kernel)
    (by first | exact .inl (by decide +kernel) | exact .inr (by decide +kernel)) (by rw [isSubtype_type]; kernel_rfl)
theorem sub_comb : isSubtype (.type "itertools.combinations") (.type "itertools.combinations") = pure true := by rw [isSubtype_type]; kernel_rfl
theorem called_comb : TypeCalled "itertools.combinations" "itertools.combinations.__new__" "object.__init__" :=
  ⟨by decide +kernel, by decide +kernel, ⟨_, _, mro_comb⟩, madeBy_type mro_comb lookup_comb_new (by decide +kernel), by decide +kernel, sub_comb, slot_comb_init⟩
theorem typeCall_comb_2 (a b : Value) : checkTypeCall "itertools.combinations" ⟨[a, b], []⟩ = pure () := by kernel_rfl
theorem newCall_comb_2 (a b : Value) : checkBuiltinCall "itertools.combinations.__new__" ⟨[.type "itertools.combinations", a, b], []⟩ = pure () := by kernel_rfl
theorem entry_comb_new : entryFor table "itertools.combinations.__new__" = some Builtin.«itertools.combinations.__new__» := entryFor_of_tree (by kernel_rfl)
theorem slot_comb_iter : Slot "itertools.combinations" "__iter__" "itertools.combinations.__iter__" :=
  .of (owner := "itertools.combinations") (n := "__iter__") (by rw [typeLookup_type, builtinLookup_eq_fast]; kernel_rfl) (by decide +kernel) (by decide +kernel) (by decide +kernel)
    (by first | exact .inl (by decide +kernel) | exact .inr (by decide +kernel)) sub_comb
theorem slot_comb_next : Slot "itertools.combinations" "__next__" "itertools.combinations.__next__" :=
  .of (owner := "itertools.combinations") (n := "__next__") (by rw [typeLookup_type, builtinLookup_eq_fast]; kernel_rfl) (by decide +kernel) (by decide +kernel) (by decide +kernel)
    (by first | exact .inl (by decide +kernel) | exact .inr (by decide +kernel)) sub_comb
theorem entry_comb_iter : entryFor table "itertools.combinations.__iter__" = some Builtin.«dict_keyiterator.__iter__» :=
  entryFor_alias (id' := "dict_keyiterator.__iter__") (by kernel_rfl) (by first | rfl | decide +kernel | (unfold String.splitOn; simp +decide [String.splitOnAux])) (by decide +kernel) (by kernel_rfl)
theorem entry_comb_next : entryFor table "itertools.combinations.__next__" = some Builtin.«itertools.combinations.__next__» := entryFor_of_tree (by kernel_rfl)
theorem noDict_comb : typeHasDict (.type "itertools.combinations") = false := by decide +kernel
theorem noClose_comb : typeLookup (.type "itertools.combinations") "close" = pure none := by rw [typeLookup_type, builtinLookup_eq_fast]; kernel_rfl
end R
end
section
namespace R
open PySem PySem.Spec PyProof.Rows
open Sem (wp)
theorem owner_comb : Manifest.owners.lookup (String.ofList ['s', 'n', 'o', 'i', 't', 'a', 'n', 'i', 'b', 'm', 'o', 'c', '.', 's', 'l', 'o', 'o', 't', 'r', 'e', 't', 'i'].reverse) = some Manifest.sig_itertools_combinations := by kernel_rfl
theorem args_comb_iter (a : Value) : argsOk "itertools.combinations.__iter__" ⟨[a], []⟩ := by
  unfold argsOk; rw [signature?_of (id := "itertools.combinations.__iter__") (n := ['_', '_', 'r', 'e', 't', 'i', '_', '_']) (o := ['s', 'n', 'o', 'i', 't', 'a', 'n', 'i', 'b', 'm', 'o', 'c', '.', 's', 'l', 'o', 'o', 't', 'r', 'e', 't', 'i']) (by kernel_rfl) owner_comb]; kernel_rfl
theorem args_comb_next (a : Value) : argsOk "itertools.combinations.__next__" ⟨[a], []⟩ := by
  unfold argsOk; rw [signature?_of (id := "itertools.combinations.__next__") (n := ['_', '_', 't', 'x', 'e', 'n', '_', '_']) (o := ['s', 'n', 'o', 'i', 't', 'a', 'n', 'i', 'b', 'm', 'o', 'c', '.', 's', 'l', 'o', 'o', 't', 'r', 'e', 't', 'i']) (by kernel_rfl) owner_comb]; kernel_rfl
theorem meets_comb_new (p : Addr) (its : Array Value) (k : Int) (t : Tok) (h0 : 0 ≤ k) (h1 : k ≤ 60) (hz : its.size ≤ 60) :
    Meets (Builtin.«itertools.combinations.__new__» ⟨[.type "itertools.combinations", .ref p, .int k t], []⟩)
      (fun _ R s => IsTup s.heap p its ∧ ∀ h' : Heap, (∀ b o, s.heap.get? b = some o → h'.get? b = some o) → R (.ok (.ret (.ref (h'.objs.size + 1)))) { s with heap := (h'.push { cls := .type "tuple", data := .seq its.toList.toArray }).push { cls := .type "itertools.combinations", data := .fields (([Value.ref h'.objs.size, rawInt (if k.toNat > its.toList.length then 2 else 0), Value.none] ++ (List.range k.toNat).map fun (i : Nat) => rawInt i)).toArray } }) :=
  .of_wp fun prog w A R s h => by
    obtain ⟨hp, g, dd, tk, os⟩ := s
    obtain ⟨ht, hr⟩ := h
    have es : ("itertools." ++ "combinations" : String) = "itertools.combinations" := by decide +kernel
    have hsub : isSubtype (Value.type "itertools.combinations") (Value.type ("itertools." ++ "combinations")) = pure true := by rw [es]; exact sub_comb
    have e22 : (decide (2 < 2)) = false := by decide
    have hmany : Builtin.Itertools.itTooMany k = false := decide_eq_false (by have : (2 : Int) ^ 20 = 1048576 := by decide
                                                                              omega)
    have hd := noDict_comb
    repeat (first
      | wp_step
      | (refine wpAny_bind (wpAny_of_eq hsub ?_))
      | (refine wpAny_of_eq hsub ?_)
      | simp only [List.head?_cons, Option.some_or, List.getElem?_cons_succ, List.getElem?_cons_zero, List.length_cons, List.length_nil, List.forIn_nil])
    have hn : ¬ ((decide (k < -2 ^ 63) || decide (k ≥ 2 ^ 63)) = true) := by
      have e : (2 : Int) ^ 63 = 9223372036854775808 := by decide
      rw [decide_eq_false (by omega), decide_eq_false (by omega)]
      decide
    rw [if_neg hn]
    refine wpAny_pure ?_
    obtain ⟨o, ho, hc, n, hdt⟩ := id ht
    refine wpAny_bind (wpAny_collect_seq p (.inr rfl) ho hc hdt (fun h' hk => ?_) (by have := sizeLine_eq; omega))
    have hneg : ¬ (k < 0) := by omega
    show wpAny _ _ (if k < 0 then _ else _) _ _ _
    rw [if_neg hneg]
    show wpAny _ _ (if Builtin.Itertools.itTooMany k = true then _ else _) _ _ _
    rw [if_neg (by rw [hmany]; decide)]
    have hr := hr h' hk
    have hz1 : its.toList.toArray.size ≤ sizeLine := by
      have := sizeLine_eq
      simp
      omega
    have hz2 : (([Value.ref h'.objs.size, rawInt (if k.toNat > its.toList.length then 2 else 0), Value.none] ++ (List.range k.toNat).map fun (i : Nat) => rawInt i)).toArray.size ≤ sizeLine := by
      have := sizeLine_eq
      simp
      omega
    refine wpAny_bind ?_
    simp only [newTuple]
    refine wpAny_newObj_type ?_ hz1
    refine wpAny_pure ?_
    refine wpAny_bind ?_
    unfold Builtin.Itertools.itNewRecord
    rw [hd]
    rw [if_pos (show (!false) = true from rfl)]
    refine wpAny_newObj_type (wpAny_pure ⟨_, rfl, ?_⟩) ?_
    · have e : (h'.push { cls := Value.type "tuple", data := Data.seq its.toList.toArray }).objs.size = h'.objs.size + 1 := by simp [Heap.push]
      simp only [e]
      exact hr
    · first | exact hz2 | exact Nat.le_trans hz2 (by omega)
end R
end
section
namespace R
open PySem PySem.Spec PyProof.Rows
open Sem (wp)
/-- the fields of a combinations object: its pool, where it stands, what it handed out last, the places -/
def combF (pool : Addr) (st : Int) (res : Value) (idx : List Nat) : Array Value := (Value.ref pool :: rawInt st :: res :: idx.map fun (i : Nat) => rawInt i).toArray
def combO (pool : Addr) (st : Int) (res : Value) (idx : List Nat) : Obj := { cls := .type "itertools.combinations", dict := none, data := .fields (combF pool st res idx), slots := #[] }
abbrev IsComb (h : Heap) (it pool : Addr) (st : Int) (res : Value) (idx : List Nat) : Prop := h.get? it = some (combO pool st res idx)
section
variable {prog : Program} {w : World} {A : Around} {E : Value → Shared → Prop} {s : Shared}
theorem call_comb {p : Addr} {its : Array Value} {k : Int} {t : Tok} {Q : Value → Shared → Prop} (ht : IsTup s.heap p its) (h0 : 0 ≤ k) (h1 : k ≤ 60) (hz : its.size ≤ 60)
    (h : ∀ h0 h' : Heap, (∀ b o, s.heap.get? b = some o → h0.get? b = some o) → IsComb h' (h0.objs.size + 1) h0.objs.size (if k.toNat > its.size then 2 else 0) .none (List.range k.toNat) → IsTup h' h0.objs.size its → (∀ b o, h0.get? b = some o → h'.get? b = some o) → Q (.ref (h0.objs.size + 1)) { s with heap := h' }) :
    wpAny (model prog w) A (call (.type "itertools.combinations") [.ref p, .int k t]) Q E s := by
  refine callType_new called_comb (by decide +kernel) (typeCall_comb_2 _ _) (newCall_comb_2 _ _) (fun obj => F.args_object_init_3 obj _ _) entry_comb_new (meets_comb_new p its k t h0 h1 hz) ?_
  refine ⟨ht, fun h' hk => ?_⟩
  have e : (h'.push { cls := .type "tuple", data := .seq its.toList.toArray }).objs.size = h'.objs.size + 1 := by simp [Heap.push]
  have g1 : ((h'.push { cls := .type "tuple", data := .seq its.toList.toArray }).push (combO h'.objs.size (if k.toNat > its.toList.length then 2 else 0) .none (List.range k.toNat))).get? (h'.objs.size + 1) = some (combO h'.objs.size (if k.toNat > its.toList.length then 2 else 0) .none (List.range k.toNat)) := by
    rw [← e]
    exact Heap.get?_push_size _ rfl
  have g2 : ((h'.push { cls := .type "tuple", data := .seq its.toList.toArray }).push (combO h'.objs.size (if k.toNat > its.toList.length then 2 else 0) .none (List.range k.toNat))).get? h'.objs.size = some { cls := .type "tuple", data := .seq its.toList.toArray } := Heap.get?_push_of_some _ (Heap.get?_push_size _ rfl)
  show _ ∧ _
  refine ⟨⟨_, g1, rfl⟩, ?_⟩
  exact h h' _ hk g1 ⟨_, g2, rfl, _, rfl⟩ fun b o q => Heap.get?_push_of_some _ (Heap.get?_push_of_some _ q)
theorem iter_comb {it pool : Addr} {st : Int} {res : Value} {idx : List Nat} {Q : Value → Shared → Prop} (hit : IsComb s.heap it pool st res idx) (h : Q (.ref it) s) : wpAny (model prog w) A (pyIter (.ref it)) Q E s := by
  have hT : s.TypeIs (.ref it) "itertools.combinations" := ⟨_, hit, rfl⟩
  refine wpAny_pyIter_slot hT slot_comb_iter (wpAny_call_entry slot_comb_iter hT entry_comb_iter ?_ (args_comb_iter _))
  show wpAny _ _ (ret (.ref it)) _ _ s
  exact wpAny_pure ⟨_, rfl, "itertools.combinations", _, hT, slot_comb_next.lookup, h⟩
def numOf : Value → Nat
  | .int n _ => n.toNat
  | _ => 0
theorem nums_eq (pool : Addr) (st : Int) (res : Value) (idx : List Nat) : ((combF pool st res idx).toList.drop 3).map numOf = idx := by
  simp [combF, rawInt, numOf, List.map_map, Function.comp_def]
theorem wp_nums {it pool : Addr} {st : Int} {res : Value} {idx : List Nat} {Q : List Nat → Shared → Prop} (hit : IsComb s.heap it pool st res idx) (h : Q idx s) : wpAny (model prog w) A (Builtin.Itertools.itNumbersFrom (.ref it) 3) Q E s := by
  unfold Builtin.Itertools.itNumbersFrom
  refine wpAny_bind (wpAny_load hit ?_)
  have h2 : Q (((combF pool st res idx).toList.drop 3).map numOf) s := by rw [nums_eq]; exact h
  exact wpAny_pure h2
theorem wp_intf {it pool : Addr} {st : Int} {res : Value} {idx : List Nat} {Q : Int → Shared → Prop} (hit : IsComb s.heap it pool st res idx) (h : Q st s) : wpAny (model prog w) A (Builtin.Itertools.itIntField (.ref it) 1) Q E s := by
  unfold Builtin.Itertools.itIntField
  exact wpAny_bind (wpAny_field hit rfl (x := rawInt st) rfl (wpAny_pure h))
theorem wp_pool {pool : Addr} {its : Array Value} {Q : Array Value → Shared → Prop} (hp : IsTup s.heap pool its) (h : Q its s) : wpAny (model prog w) A (Builtin.Itertools.itPoolItems (.ref pool)) Q E s := by
  obtain ⟨o, ho, hc, n, hd⟩ := hp
  unfold Builtin.Itertools.itPoolItems
  exact wpAny_bind (wpAny_seqItems ho hd (wpAny_pure h))
theorem comb_set1 {h : Heap} {it pool : Addr} {st st' : Int} {res : Value} {idx : List Nat} (hit : IsComb h it pool st res idx) : IsComb (h.update it (Obj.mapFields (·.setIfInBounds 1 (rawInt st')))) it pool st' res idx := by
  have := Heap.get?_update_self (Obj.mapFields (·.setIfInBounds 1 (rawInt st'))) hit rfl
  exact this
theorem comb_set2 {h : Heap} {it pool : Addr} {st : Int} {res res' : Value} {idx : List Nat} (hit : IsComb h it pool st res idx) : IsComb (h.update it (Obj.mapFields (·.setIfInBounds 2 res'))) it pool st res' idx := by
  have := Heap.get?_update_self (Obj.mapFields (·.setIfInBounds 2 res')) hit rfl
  exact this
theorem comb_setN {h : Heap} {it pool : Addr} {st : Int} {res : Value} {idx idx' : List Nat} (hit : IsComb h it pool st res idx) : IsComb (h.update it (Obj.mapFields fun fs => fs.extract 0 3 ++ (idx'.map fun (n : Nat) => rawInt n).toArray)) it pool st res idx' := by
  have := Heap.get?_update_self (Obj.mapFields fun fs => fs.extract 0 3 ++ (idx'.map fun (n : Nat) => rawInt n).toArray) hit rfl
  rw [show IsComb _ it pool st res idx' = (_ = _) from rfl]
  rw [this]
  congr 1
  simp [combO, combF, Obj.mapFields]
theorem upd_it {h : Heap} {it b : Addr} {f : Obj → Obj} {o : Obj} (hb : b ≠ it) (e : h.get? b = some o) : (h.update it f).get? b = some o := (Heap.get?_update_other _ _ (Ne.symm hb)).trans e
/-- what is handed out next -/
theorem comb_out {it pool : Addr} {st : Int} {res : Value} {idx : List Nat} {its : Array Value} {Q : PySem.Fin → Shared → Prop} (hit : IsComb s.heap it pool st res idx) (hp : IsTup s.heap pool its) (hne : pool ≠ it) (hz : idx.length ≤ 60)
    (hQ : ∀ h' r, s.heap.objs.size ≤ r → IsComb h' it pool st (.ref r) idx → IsTup h' r (idx.map fun i => its.getD i .none).toArray → (∀ b o, b ≠ it → s.heap.get? b = some o → h'.get? b = some o) → Q (.done (.ret (.ref r))) { s with heap := h' }) :
    wpAny (model prog w) A (newTuple (idx.map fun i => its.getD i .none)) (fun a s' => wpAny (model prog w) A (do
      let old ← field (.ref it) 2
      setField (.ref it) 2 a
      letGo [old] [a]
      ret a) Q E s') E s := by
  have hz1 : (idx.map fun i => its.getD i Value.none).toArray.size ≤ sizeLine := by
    have := sizeLine_eq
    simp
    omega
  simp only [newTuple]
  refine wpAny_newObj_type ?_ hz1
  have nit : it ≠ s.heap.objs.size := Nat.ne_of_lt (Heap.lt_size hit)
  have hit2 := Heap.get?_push_of_some ({ cls := .type "tuple", data := .seq (idx.map fun i => its.getD i .none).toArray }) hit
  refine wpAny_bind (wpAny_field hit2 rfl (x := res) rfl ?_)
  refine wpAny_bind (wpAny_setField hit2 rfl (by simp [combF]) ?_)
  refine wpAny_bind (wpAny_letGo ?_)
  refine wpAny_pure ?_
  refine hQ _ s.heap.objs.size (Nat.le_refl _) (comb_set2 hit2) ⟨_, upd_it (Ne.symm nit) (Heap.get?_push_size _ rfl), rfl, _, rfl⟩ fun b o nb e => upd_it nb (Heap.get?_push_of_some _ e)
theorem upd_size (h : Heap) (it : Addr) (f : Obj → Obj) : h.objs.size ≤ (h.update it f).objs.size := by
  simp [Heap.update]
theorem comb_first {it pool : Addr} {res : Value} {idx : List Nat} {its : Array Value} {Q : Option Value → Shared → Prop} (hit : IsComb s.heap it pool 0 res idx) (hp : IsTup s.heap pool its) (hne : pool ≠ it) (hz : idx.length ≤ 60)
    (hQ : ∀ h' r, s.heap.objs.size ≤ r → IsComb h' it pool 1 (.ref r) idx → IsTup h' r (idx.map fun i => its.getD i .none).toArray → (∀ b o, b ≠ it → s.heap.get? b = some o → h'.get? b = some o) → Q (some (.ref r)) { s with heap := h' }) : wpAny (model prog w) A (callSpecial? (.ref it) "__next__") Q E s := by
  have hT : s.TypeIs (.ref it) "itertools.combinations" := ⟨_, hit, rfl⟩
  refine wpAny_callSpecial?_slot (name := Str.ofString "__next__") hT slot_comb_next (wpAny_call_entry slot_comb_next hT entry_comb_next ?_ (args_comb_next _))
  refine wpAny_bind (wpAny_of_eq (a := (Value.ref it, [])) rfl ?_)
  refine wpAny_bind (wpAny_field hit rfl (x := .ref pool) rfl ?_)
  refine wpAny_bind (wp_nums hit ?_)
  refine wpAny_bind (wp_intf hit ?_)
  refine wpAny_bind (wpAny_setField hit rfl (by simp [combF]) ?_)
  have hit2 := comb_set1 (st' := 1) hit
  have hp2 : IsTup (s.heap.update it (Obj.mapFields (·.setIfInBounds 1 (rawInt 1)))) pool its := by
    obtain ⟨o, ho, q⟩ := hp
    exact ⟨o, upd_it hne ho, q⟩
  refine wpAny_bind (wpAny_bind (wp_pool hp2 ?_))
  refine comb_out hit2 hp2 hne hz fun h' r hr c t k => ⟨_, rfl, hQ h' r (Nat.le_trans (upd_size ..) hr) c t fun b o nb e => k b o nb (upd_it nb e)⟩
/-- the places that come next -/
def nextC (n : Nat) (idx : List Nat) : Option (List Nat) :=
  match (List.range idx.length).reverse.find? fun j => idx.getD j 0 != j + n - idx.length with
  | .none => .none
  | .some j => .some (idx.take j ++ (List.range (idx.length - j)).map (idx.getD j 0 + 1 + ·))
theorem comb_step {it pool : Addr} {res : Value} {idx idx' : List Nat} {its : Array Value} {Q : Option Value → Shared → Prop} (hit : IsComb s.heap it pool 1 res idx) (hp : IsTup s.heap pool its) (hne : pool ≠ it) (hz : idx'.length ≤ 60) (hn : nextC its.size idx = some idx')
    (hQ : ∀ h' r, s.heap.objs.size ≤ r → IsComb h' it pool 1 (.ref r) idx' → IsTup h' r (idx'.map fun i => its.getD i .none).toArray → (∀ b o, b ≠ it → s.heap.get? b = some o → h'.get? b = some o) → Q (some (.ref r)) { s with heap := h' }) : wpAny (model prog w) A (callSpecial? (.ref it) "__next__") Q E s := by
  have hT : s.TypeIs (.ref it) "itertools.combinations" := ⟨_, hit, rfl⟩
  refine wpAny_callSpecial?_slot (name := Str.ofString "__next__") hT slot_comb_next (wpAny_call_entry slot_comb_next hT entry_comb_next ?_ (args_comb_next _))
  refine wpAny_bind (wpAny_of_eq (a := (Value.ref it, [])) rfl ?_)
  refine wpAny_bind (wpAny_field hit rfl (x := .ref pool) rfl ?_)
  refine wpAny_bind (wp_nums hit ?_)
  refine wpAny_bind (wp_intf hit ?_)
  refine wpAny_bind (wp_pool hp ?_)
  split
  · rename_i v e
    have e2 : nextC its.size idx = some v := e
    rw [hn] at e2
    obtain rfl := Option.some.inj e2
    have hz3 : idx'.length + 3 ≤ sizeLine := by
      have := sizeLine_eq
      omega
    unfold Builtin.Itertools.itSetNumbersFrom
    refine wpAny_bind (wpAny_updateFields hit rfl ?_ (by
      simp [combF]
      omega))
    have hit2 := comb_setN (idx' := idx') hit
    have hp2 : IsTup (s.heap.update it (Obj.mapFields fun fs => fs.extract 0 3 ++ (idx'.map fun (n : Nat) => rawInt n).toArray)) pool its := by
      obtain ⟨o, ho, q⟩ := hp
      exact ⟨o, upd_it hne ho, q⟩
    refine wpAny_bind (wpAny_bind (wp_pool hp2 ?_))
    exact comb_out hit2 hp2 hne hz fun h' r hr c t k => ⟨_, rfl, hQ h' r (Nat.le_trans (upd_size ..) hr) c t fun b o nb e => k b o nb (upd_it nb e)⟩
  · rename_i e
    have e2 : nextC its.size idx = none := e
    rw [hn] at e2
    cases e2
theorem comb_end {it pool : Addr} {res : Value} {idx : List Nat} {its : Array Value} {Q : Option Value → Shared → Prop} (hh : A.handled = none) (hit : IsComb s.heap it pool 1 res idx) (hp : IsTup s.heap pool its) (hne : pool ≠ it) (hn : nextC its.size idx = none)
    (hQ : ∀ e h', CpRep.StopE e h' → Heap.ExtBut it s.heap h' → E e { s with heap := h' }) : wpAny (model prog w) A (callSpecial? (.ref it) "__next__") Q E s := by
  have hT : s.TypeIs (.ref it) "itertools.combinations" := ⟨_, hit, rfl⟩
  refine wpAny_callSpecial?_slot (name := Str.ofString "__next__") hT slot_comb_next (wpAny_call_entry slot_comb_next hT entry_comb_next ?_ (args_comb_next _))
  refine wpAny_bind (wpAny_of_eq (a := (Value.ref it, [])) rfl ?_)
  refine wpAny_bind (wpAny_field hit rfl (x := .ref pool) rfl ?_)
  refine wpAny_bind (wp_nums hit ?_)
  refine wpAny_bind (wp_intf hit ?_)
  refine wpAny_bind (wp_pool hp ?_)
  split
  · rename_i v e
    have e2 : nextC its.size idx = some v := e
    rw [hn] at e2
    cases e2
  refine wpAny_bind (wpAny_setField hit rfl (by simp [combF]) ?_)
  show wpAny _ _ (newExc (.type "StopIteration") [] >>= _) _ _ _
  refine wpAny_bind ?_
  simp only [newExc, newTuple]
  refine wpAny_bind (wpAny_newObj_type ?_ (by size_fits))
  refine wpAny_bind (m := firstArgMember _ _) (wpAny_of_eq (a := Value.none) (by first | rfl | (simp only [firstArgMember]; rfl)) ?_)
  refine wpAny_newObj_type ?_ (by size_fits)
  simp only [raiseNew]
  refine wpAny_bind (wpAny_handled ?_)
  first | rw [show A.in1.handled = none from hh] | rw [hh]
  refine wpAny_bind (wpAny_pure (wpAny_throw ?_))
  exact hQ _ _ ⟨_, _, _, rfl, Heap.get?_push_size _ rfl, rfl, rfl, rfl⟩ ((((Heap.SameBut.update ..).extBut).push _).push _)
end
end R
end
section
/-! A small language of own with its meaning over plain data. -/
namespace R
open PySem L2

/-- a value: data, or a well (a list that callees change) -/
inductive Vl where
  | d (x : PyData)
  | loc (n : Nat)
abbrev Wd := List (List Int)

inductive Res (α : Type) where
  | ok (a : α) (w : Wd)
  | exc (c : Nat) (x : PyData) (w : Wd)
  | bad
def Res.bind {α β : Type} (r : Res α) (f : α → Wd → Res β) : Res β :=
  match r with
  | .ok a w => f a w
  | .exc c x w => .exc c x w
  | .bad => .bad
/-- no exception is let out -/
def Res.nox {α : Type} (r : Res α) : Res α :=
  match r with
  | .ok a w => .ok a w
  | _ => .bad
@[simp] theorem nox_ok_eq {α : Type} (a : α) (w : Wd) : (Res.ok a w).nox = .ok a w := Eq.trans rfl rfl
theorem Res.bind_ok {α β : Type} {r : Res α} {f : α → Wd → Res β} {b : β} {w' : Wd} (h : r.bind f = .ok b w') : ∃ a w, r = .ok a w ∧ f a w = .ok b w' := by
  cases r with
  | ok a w => exact ⟨a, w, rfl, h⟩
  | exc c x w => cases h
  | bad => cases h
@[simp] theorem bind_ok_eq {α β : Type} (a : α) (w : Wd) (f : α → Wd → Res β) : (Res.ok a w).bind f = f a w := Eq.trans rfl rfl
@[simp] theorem bind_exc_eq {α β : Type} (c : Nat) (x : PyData) (w : Wd) (f : α → Wd → Res β) : (Res.exc c x w).bind f = .exc c x w := Eq.trans rfl rfl
@[simp] theorem bind_bad_eq {α β : Type} (f : α → Wd → Res β) : (Res.bad : Res α).bind f = .bad := Eq.trans rfl rfl

theorem bind_assoc' {α β γ : Type} {r : Res α} {f : α → Wd → Res β} {g : β → Wd → Res γ} : (r.bind f).bind g = r.bind fun a w => (f a w).bind g := by
  cases r <;> rfl
inductive Slot where
  | non
  | val (v : Vl)
  | own (xs : List PyData)
  | rng (n : Int)
abbrev En := List Slot

inductive Op2 where
  | add | sub | mul | fdiv | mod | pow | eq | ne | lt | le | gt | ge | inn | nin | is | nis
  deriving DecidableEq
inductive Ty where
  | int | bool | tuple | str | list
  deriving DecidableEq
inductive Bi where
  | len | all | any | tuple | list | sorted | sum | max | min | abs | int | repr | str | divmod | gcd | factorial | combos
  deriving DecidableEq


mutual
inductive Tg where
  | nm (i : Nat)
  | tup (ts : Tgs)
inductive Tgs where
  | nil
  | cons (t : Tg) (r : Tgs)
end

mutual
inductive E where
  | var (i : Nat)
  | cst (c : PyData)
  | glob (g : Nat)
  | tup (es : Es)
  | lst (es : Es)
  | new (es : Es)
  | rep (es : Es) (k : E)
  | neg (a : E)
  | no (a : E)
  | bools (conj : Bool) (es : Es)
  | op2 (o : Op2) (a b : E)
  | chain (o p : Op2) (a b c : E)
  | isN (pos : Bool) (a : E)
  | ite (c a b : E)
  | ix (a b : E)
  | sl (a : E) (lo hi : Eo)
  | bi (f : Bi) (es : Es)
  | isi (t : Ty) (a : E)
  | rngV (tup : Bool) (a : E)
  | star (a : E) (es : Es)
  | rev (a : E)
  | call (f : Nat) (es : Es)
  | callK (f : Nat) (es : Es) (ks : List Nat) (ws : Es)
  | lc (vs : List Nat) (elt : E) (tg : Tg) (it : It) (cs : Es)
  | lc2 (vs vs1 : List Nat) (elt : E) (tg : Tg) (it : It) (tg1 : Tg) (it1 : It)
  | get (i : Nat) (b : E)
  | idx (i : Nat) (b : E)
  | dsp (i j : Nat)
  | dcv (i : Nat) (a : E) (v : Nat)
inductive Es where
  | nil
  | cons (e : E) (r : Es)
inductive Eo where
  | none
  | some (e : E)
inductive It where
  | seq (e : E)
  | rng1 (a : E)
  | rng2 (a b : E)
  | rng3 (a b c : E)
  | zip (a b : E)
  | enm (a : E)
  | comb (a b : E)
  | rgv (i : Nat)
  | ezp (a b : E)
end

/-! ### values -/
def asInt : PyData → Option Int
  | .int i => some i
  | _ => none
def asSeq : PyData → Option (List PyData)
  | .list xs => some xs
  | .tuple xs => some xs
  | _ => none
def asInts : List PyData → Option (List Int)
  | [] => some []
  | .int i :: r => (asInts r).map (i :: ·)
  | _ :: _ => none
def asBools : List PyData → Option (List Bool)
  | [] => some []
  | .bool b :: r => (asBools r).map (b :: ·)
  | _ :: _ => none

def mulOk (i j : Int) : Bool := decide (i.natAbs < 2 ^ 64) || decide (j.natAbs < 2 ^ 64) || decide (Builtin.Int.intBits i + Builtin.Int.intBits j ≤ 134217728)
def fits (n : Nat) : Bool := decide (n ≤ sizeLine)

def lexLt : List Int → List Int → Bool
  | [], [] => false
  | [], _ :: _ => true
  | _ :: _, [] => false
  | x :: xs, y :: ys => if x = y then lexLt xs ys else decide (x < y)

def addV : PyData → PyData → Option PyData
  | .int i, .int j => some (.int (i + j))
  | .str x, .str y => if fits (x.length + y.length) then some (.str (x ++ y)) else none
  | .list xs, .list ys => if fits (xs.length + ys.length) then some (.list (xs ++ ys)) else none
  | .tuple xs, .tuple ys => if fits (xs.length + ys.length) then some (.tuple (xs ++ ys)) else none
  | _, _ => none
def subV : PyData → PyData → Option PyData
  | .int i, .int j => some (.int (i - j))
  | _, _ => none
def mulV : PyData → PyData → Option PyData
  | .int i, .int j => if mulOk i j then some (.int (i * j)) else none
  | .tuple xs, .int k => if !xs.isEmpty && decide (1 ≤ k) && decide (k ≤ 1000) && decide (xs.length ≤ 1000) then some (.tuple (List.replicate k.toNat xs).flatten) else none
  | _, _ => none
def fdivV : PyData → PyData → Option PyData
  | .int i, .int j => if decide (j ≠ 0) && decide (j.natAbs.log2 < 9000) then some (.int (i.fdiv j)) else none
  | _, _ => none
def modV : PyData → PyData → Option PyData
  | .int i, .int j => if decide (j ≠ 0) then some (.int (i.fmod j)) else none
  | _, _ => none
def powV : PyData → PyData → Option PyData
  | .int i, .int j => if decide (0 ≤ j) && decide (j ≤ 1000000) && decide (i.natAbs < 2 ^ 64) then some (.int (i ^ j.toNat)) else none
  | _, _ => none
def eqV (x y : PyData) : Option PyData := if SeqAt.shaped x && SeqAt.shaped y then some (.bool (PyData.eqv x y)) else none
def neV (x y : PyData) : Option PyData := if SeqAt.shaped x && SeqAt.shaped y then some (.bool (!PyData.eqv x y)) else none
def ltV : PyData → PyData → Option PyData
  | .int i, .int j => some (.bool (decide (i < j)))
  | .tuple xs, .tuple ys => (asInts xs).bind fun a => (asInts ys).map fun b => .bool (lexLt a b)
  | _, _ => none
def leV : PyData → PyData → Option PyData
  | .int i, .int j => some (.bool (decide (i ≤ j)))
  | _, _ => none
def gtV : PyData → PyData → Option PyData
  | .int i, .int j => some (.bool (decide (j < i)))
  | _, _ => none
def geV : PyData → PyData → Option PyData
  | .int i, .int j => some (.bool (decide (j ≤ i)))
  | _, _ => none
def inV (x y : PyData) : Option PyData := (asSeq y).bind fun ds => if SeqAt.shaped x && SeqAt.shaped y then some (.bool (ds.any fun z => PyData.eqv z x)) else none
def ninV (x y : PyData) : Option PyData := (asSeq y).bind fun ds => if SeqAt.shaped x && SeqAt.shaped y then some (.bool (!ds.any fun z => PyData.eqv z x)) else none
def isV : PyData → PyData → Option PyData
  | .bool a, .bool b => some (.bool (decide (a = b)))
  | _, _ => none
def nisV : PyData → PyData → Option PyData
  | .bool a, .bool b => some (.bool (!decide (a = b)))
  | _, _ => none
/-- d.get(k) -/
def lookI : List (PyData × PyData) → Int → PyData
  | [], _ => .none
  | (.int j, y) :: r, k => if j = k then y else lookI r k
  | _ :: r, k => lookI r k
def intKeys : List (PyData × PyData) → Bool
  | [] => true
  | (.int _, _) :: r => intKeys r
  | _ :: _ => false
def dictOf : Vl → Option (List (PyData × PyData))
  | .d (.dict kvs) => if intKeys kvs then some kvs else none
  | _ => none
def listOf : Vl → Option (List PyData)
  | .d (.list ds) => if SeqAt.shaped (.list ds) then some ds else none
  | _ => none
def getDV (kvs : List (PyData × PyData)) : PyData → Option PyData
  | .int k => some (lookI kvs k)
  | _ => none
/-- l.index(x) -/
def findIx (y : PyData) : List PyData → Option Nat
  | [] => none
  | x :: r => if PyData.eqv x y then some 0 else (findIx y r).map (· + 1)
def idxV (ds : List PyData) (y : PyData) : Option PyData := if SeqAt.shaped y then (findIx y ds).map fun j => .int (j : Nat) else none
def dspV : PyData → PyData → Option PyData
  | .int k, y => some (.dict [(.int k, y)])
  | _, _ => none
def noDup : List Int → Bool
  | [] => true
  | x :: r => !r.contains x && noDup r
/-- {x: y for x in t} -/
def dcvV : PyData → PyData → Option PyData
  | .tuple xs, y => (asInts xs).bind fun ns => if noDup ns && decide (ns.length ≤ 1000) then some (.dict (ns.map fun n => (.int n, y))) else none
  | _, _ => none
def revV : PyData → Option PyData
  | .tuple xs => some (.tuple xs.reverse)
  | _ => none
def op2V : Op2 → PyData → PyData → Option PyData
  | .add => addV
  | .sub => subV
  | .mul => mulV
  | .fdiv => fdivV
  | .mod => modV
  | .pow => powV
  | .eq => eqV
  | .ne => neV
  | .lt => ltV
  | .le => leV
  | .gt => gtV
  | .ge => geV
  | .inn => inV
  | .nin => ninV
  | .is => isV
  | .nis => nisV

def at? {α : Type} (xs : List α) (i : Int) : Option α := if 0 ≤ i then xs[i.toNat]? else if -(xs.length : Int) ≤ i then xs[(i + xs.length).toNat]? else none
def ixV : PyData → PyData → Option PyData
  | .list xs, .int i => at? xs i
  | .tuple xs, .int i => at? xs i
  | _, _ => none
/-- a slice's bound -/
def slIx (n d : Nat) : Option Int → Nat
  | none => d
  | some v => if v < 0 then (v + (n : Int)).toNat else min v.toNat n
def cut {α : Type} (xs : List α) (lo hi : Option Int) : List α :=
  (xs.drop (slIx xs.length 0 lo)).take (slIx xs.length xs.length hi - slIx xs.length 0 lo)
def slV : PyData → Option Int → Option Int → Option PyData
  | .list xs, lo, hi => some (.list (cut xs lo hi))
  | .tuple xs, lo, hi => some (.tuple (cut xs lo hi))
  | _, _, _ => none
def isiV : Ty → PyData → Bool
  | .int, .int _ => true
  | .int, .bool _ => true
  | .bool, .bool _ => true
  | .tuple, .tuple _ => true
  | .str, .str _ => true
  | .list, .list _ => true
  | _, _ => false
def insI (x : Int) : List Int → List Int
  | [] => [x]
  | y :: r => if x ≤ y then x :: y :: r else y :: insI x r
def sortI : List Int → List Int
  | [] => []
  | x :: r => insI x (sortI r)
def asTups : List PyData → Option (List (List Int))
  | [] => some []
  | .tuple xs :: r => (asInts xs).bind fun a => (asTups r).map (a :: ·)
  | _ :: _ => none
def insT (x : List Int) : List (List Int) → List (List Int)
  | [] => [x]
  | y :: r => if lexLt y x then y :: insT x r else x :: y :: r
def sortT : List (List Int) → List (List Int)
  | [] => []
  | x :: r => insT x (sortT r)
/-- () stands first -/
def firstE : List (List Int) → Bool
  | [] :: _ => true
  | _ => false
def sortTV (xs : List PyData) : Option PyData := (asTups xs).bind fun ts => if (ts.all fun t => !t.isEmpty) || firstE ts then some (.list ((sortT ts).map fun t => .tuple (t.map .int))) else none
def maxL : Int → List Int → Int
  | m, [] => m
  | m, x :: r => maxL (if x > m then x else m) r
def minL : Int → List Int → Int
  | m, [] => m
  | m, x :: r => minL (if x < m then x else m) r
def showOk (x : PyData) : Bool := x.canLay0 && x.showable && decide (x.depth ≤ 60) && fits x.shown.length
def biV : Bi → List PyData → Option PyData
  | .len, [x] => (asSeq x).map fun xs => .int xs.length
  | .all, [.list xs] => (asBools xs).map fun bs => .bool (bs.all id)
  | .any, [.list xs] => (asBools xs).map fun bs => .bool (bs.any id)
  | .tuple, [x] => (asSeq x).map .tuple
  | .list, [x] => (asSeq x).map .list
  | .sorted, [.list xs] => match asInts xs with
    | some a => some (.list ((sortI a).map .int))
    | none => sortTV xs
  | .sum, [.list xs] => (asInts xs).map fun a => .int a.sum
  | .max, [.int i, .int j] => some (.int (if j > i then j else i))
  | .max, [.list xs] => (asInts xs).bind fun a => match a with
    | [] => none
    | x :: r => some (.int (maxL x r))
  | .min, [.int i, .int j] => some (.int (if j < i then j else i))
  | .min, [.list xs] => (asInts xs).bind fun a => match a with
    | [] => none
    | x :: r => some (.int (minL x r))
  | .abs, [.int i] => some (.int (if i < 0 then -i else i))
  | .int, [.int i] => some (.int i)
  | .int, [.bool b] => some (.int (if b then 1 else 0))
  | .repr, [x] => if showOk x then some (.str x.shown) else none
  | .divmod, [.int i, .int j] => if decide (0 < j) && decide (j < 1073741824) then some (.tuple [.int (i / j), .int (i % j)]) else none
  | .gcd, [.int i, .int j] => some (.int (Nat.gcd i.natAbs j.natAbs : Nat))
  | _, _ => none

/-- all sublists of the length n, in the order of places -/
def combs : Nat → List PyData → List (List PyData)
  | 0, _ => [[]]
  | _ + 1, [] => []
  | n + 1, x :: r => (combs n r).map (x :: ·) ++ combs (n + 1) r

/-! ### expressions -/
abbrev Fns := Nat → List Vl → Wd → Res Vl
def getV (env : En) (i : Nat) : Option Vl :=
  match env[i]? with
  | some (.val v) => some v
  | some (.own xs) => some (.d (.list xs))
  | _ => none
def wipeE (env : En) : List Nat → En
  | [] => env
  | v :: vs => (wipeE env vs).set v .non
/-- own lists taken as data -/
def demE (env : En) : List Nat → En
  | [] => env
  | v :: vs => match (demE env vs)[v]? with
    | some (.own xs) => (demE env vs).set v (.val (.d (.list xs)))
    | _ => demE env vs
mutual
def bindT : Tg → PyData → En → Option En
  | .nm i, x, env => some (env.set i (.val (.d x)))
  | .tup ts, x, env => (asSeq x).bind fun xs => bindTs ts xs env
def bindTs : Tgs → List PyData → En → Option En
  | .nil, [], env => some env
  | .cons t r, x :: xs, env => (bindT t x env).bind fun env => bindTs r xs env
  | _, _, _ => none
end
mutual
def tgIx : Tg → List Nat
  | .nm i => [i]
  | .tup ts => tgsIx ts
def tgsIx : Tgs → List Nat
  | .nil => []
  | .cons t r => tgIx t ++ tgsIx r
end
def ofOpt {α : Type} (o : Option α) (w : Wd) : Res α :=
  match o with
  | some a => .ok a w
  | none => .bad
/-- a loop that gathers -/
def gath (step : PyData → Wd → Res (Option PyData)) : List PyData → List PyData → Wd → Res (List PyData)
  | [], acc, w => .ok acc w
  | x :: r, acc, w => (step x w).bind fun o w => match o with
    | none => gath step r acc w
    | some y => if acc.length < sizeLine then gath step r (acc ++ [y]) w else .bad
/-- .. the inner of two -/
def gathM (step : PyData → List PyData → Wd → Res (List PyData)) : List PyData → List PyData → Wd → Res (List PyData)
  | [], acc, w => .ok acc w
  | x :: r, acc, w => (step x acc w).bind fun acc w => gathM step r acc w
def asD : Vl → Wd → Res PyData
  | .d x, w => .ok x w
  | .loc _, _ => .bad
def datas : List Vl → Option (List PyData)
  | [] => some []
  | .d x :: r => (datas r).map (x :: ·)
  | .loc _ :: _ => none
def boolOf : Vl → Wd → Res Bool
  | .d (.bool b), w => .ok b w
  | _, _ => .bad
def bound? : PyData → Option (Option Int)
  | .int i => some (some i)
  | _ => none
/-- positional values, then values for the places ks -/
def putK {α : Type} (n : Nat) (ks : List Nat) (us ws : List α) : List α :=
  (List.range n).filterMap fun j => if j < us.length then us[j]? else (ks.zip ws).lookup j
def rangeL (lo : Int) (n : Nat) (c : Int) : List PyData := (List.range n).map fun (k : Nat) => .int (lo + k * c)
def small62 (i : Int) : Bool := decide (-(2 ^ 62) ≤ i) && decide (i < 2 ^ 62)

/-! ### which own lists a value may hold -/
mutual
def esc : E → List Nat
  | .var i => [i]
  | .cst _ => []
  | .glob _ => []
  | .tup es => escs es
  | .lst es => escs es
  | .new _ => []
  | .rep es _ => escs es
  | .neg _ => []
  | .no _ => []
  | .bools _ _ => []
  | .op2 _ a b => escV a ++ escV b
  | .chain _ _ _ b c => escV b ++ escV c
  | .isN _ _ => []
  | .ite _ a b => esc a ++ esc b
  | .ix a _ => escV a
  | .sl a _ _ => escV a
  | .bi _ es => escW es
  | .isi _ _ => []
  | .rngV _ _ => []
  | .star a es => escV a ++ escs es
  | .rev a => escV a
  | .call _ es => escs es
  | .callK _ es _ ws => escs es ++ escs ws
  | .lc _ elt _ it _ => escI it ++ esc elt
  | .lc2 _ _ elt _ it _ it1 => escI it ++ (escI it1 ++ esc elt)
  | .get _ _ => []
  | .idx _ _ => []
  | .dsp _ _ => []
  | .dcv _ a _ => escV a
def escs : Es → List Nat
  | .nil => []
  | .cons e r => esc e ++ escs r
/-- as an operand -/
def escV : E → List Nat
  | .var _ => []
  | .cst _ => []
  | .glob _ => []
  | .tup es => escs es
  | .lst es => escs es
  | .new _ => []
  | .rep es _ => escs es
  | .neg _ => []
  | .no _ => []
  | .bools _ _ => []
  | .op2 _ a b => escV a ++ escV b
  | .chain _ _ _ b c => escV b ++ escV c
  | .isN _ _ => []
  | .ite _ a b => esc a ++ esc b
  | .ix a _ => escV a
  | .sl a _ _ => escV a
  | .bi _ es => escW es
  | .isi _ _ => []
  | .rngV _ _ => []
  | .star a es => escV a ++ escs es
  | .rev a => escV a
  | .call _ es => escs es
  | .callK _ es _ ws => escs es ++ escs ws
  | .lc _ elt _ it _ => escI it ++ esc elt
  | .lc2 _ _ elt _ it _ it1 => escI it ++ (escI it1 ++ esc elt)
  | .get _ _ => []
  | .idx _ _ => []
  | .dsp _ _ => []
  | .dcv _ a _ => escV a
def escW : Es → List Nat
  | .nil => []
  | .cons e r => escV e ++ escW r
def escI : It → List Nat
  | .seq e => escV e
  | .rng1 _ => []
  | .rng2 _ _ => []
  | .rng3 _ _ _ => []
  | .zip a b => escV a ++ escV b
  | .enm a => escV a
  | .comb a _ => escV a
  | .rgv _ => []
  | .ezp a b => escV a ++ escV b
end

variable (G : List PyData) (F : Fns) (np : Nat → Nat)
mutual
def ev (env : En) : E → Wd → Res Vl
  | .var i, w => ofOpt (getV env i) w
  | .cst c, w => .ok (.d c) w
  | .glob g, w => ofOpt (G[g]?.map .d) w
  | .tup es, w => (evs env es w).bind fun vs w => ofOpt ((datas vs).map fun xs => .d (.tuple xs)) w
  | .lst es, w => (evs env es w).bind fun vs w => ofOpt ((datas vs).map fun xs => .d (.list xs)) w
  | .new es, w => (evs env es w).bind fun vs w => match (datas vs).bind asInts with
    | some xs => .ok (.loc w.length) (w ++ [xs])
    | none => .bad
  | .rep es a, w => (evs env es w).bind fun vs w => (ev env a w).bind fun u w => match datas vs, u with
    | some xs, .d (.int k) => if decide (-(2 ^ 63) ≤ k) && decide (k < 2 ^ 63) && fits (xs.length * k.toNat) then .ok (.d (.list (List.replicate k.toNat xs).flatten)) w else .bad
    | _, _ => .bad
  | .neg a, w => (ev env a w).bind fun v w => match v with
    | .d (.int i) => .ok (.d (.int (-i))) w
    | _ => .bad
  | .no a, w => (ev env a w).bind fun v w => (boolOf v w).bind fun b w => .ok (.d (.bool (!b))) w
  | .bools conj es, w => evB env conj es w
  | .op2 o a b, w => (ev env a w).bind fun v w => (asD v w).bind fun x w => (ev env b w).bind fun u w => (asD u w).bind fun y w => ofOpt ((op2V o x y).map .d) w
  | .chain o p a b c, w => (ev env a w).bind fun v w => (asD v w).bind fun x w => (ev env b w).bind fun u w => (asD u w).bind fun y w =>
      (ofOpt (op2V o x y) w).bind fun t w => match t with
        | .bool true => (ev env c w).bind fun u w => (asD u w).bind fun z w => ofOpt ((op2V p y z).map .d) w
        | .bool false => .ok (.d (.bool false)) w
        | _ => .bad
  | .isN pos a, w => (ev env a w).bind fun v w => (asD v w).bind fun x w => .ok (.d (.bool (match x with
    | .none => pos
    | _ => !pos))) w
  | .ite c a b, w => (ev env c w).bind fun v w => (boolOf v w).bind fun t w => if t then ev env a w else ev env b w
  | .ix a b, w => (ev env a w).bind fun v w => (ev env b w).bind fun u w => match v, u with
    | .d x, .d y => ofOpt ((ixV x y).map .d) w
    | .loc n, .d (.int i) => ofOpt ((w[n]?.bind fun xs => if 0 ≤ i then xs[i.toNat]? else none).map fun k => .d (.int k)) w
    | _, _ => .bad
  | .sl a lo hi, w => (ev env a w).bind fun v w => (asD v w).bind fun x w => (evO env lo w).bind fun l w => (evO env hi w).bind fun h w => ofOpt ((slV x l h).map .d) w
  | .bi f es, w => (evs env es w).bind fun vs w => ofOpt (((datas vs).bind (biV f)).map .d) w
  | .isi t a, w => (ev env a w).bind fun v w => (asD v w).bind fun x w => .ok (.d (.bool (isiV t x))) w
  | .rngV tup a, w => (ev env a w).bind fun v w => (asD v w).bind fun x w => match x with
    | .int i => if decide (0 ≤ i) && decide (i ≤ 1000000) then .ok (.d (if tup then .tuple (rangeL 0 i.toNat 1) else .list (rangeL 0 i.toNat 1))) w else .bad
    | _ => .bad
  | .rev a, w => (ev env a w).bind fun v w => (asD v w).bind fun x w => ofOpt ((revV x).map .d) w
  | .star a es, w => (ev env a w).bind fun v w => (asD v w).bind fun x w => (ofOpt (asSeq x) w).bind fun xs w => (evs env es w).bind fun vs w => ofOpt ((datas vs).bind fun ys => if fits (xs.length + ys.length) then some (.d (.tuple (xs ++ ys))) else none) w
  | .call f es, w => (evs env es w).bind fun vs w => F f vs w
  | .callK f es ks ws, w => (evs env es w).bind fun vs w => (evs env ws w).bind fun us w => F f (putK (np f) ks vs us) w
  | .lc vs elt tg it cs, w => (evI env it w).bind fun xs w => (gath (fun x w => match bindT tg x (wipeE (demE env (escI it)) vs) with
      | none => .bad
      | some env1 => (evB env1 true cs w).bind fun t w => (boolOf t w).bind fun b w => if b then (ev env1 elt w).bind fun v w => (asD v w).bind fun y w => .ok (some y) w else .ok none w) xs [] w).nox.bind fun ys w => .ok (.d (.list ys)) w
  | .lc2 vs vs1 elt tg it tg1 it1, w => (evI env it w).bind fun xs w => (gathM (fun x acc w => match bindT tg x (wipeE (demE env (escI it)) vs) with
      | none => .bad
      | some env1 => (evI env1 it1 w).bind fun xs1 w => gath (fun x1 w => match bindT tg1 x1 (wipeE (demE env1 (escI it1)) vs1) with
        | none => .bad
        | some env2 => (ev env2 elt w).bind fun v w => (asD v w).bind fun y w => .ok (some y) w) xs1 acc w) xs [] w).nox.bind fun ys w => .ok (.d (.list ys)) w
  | .get i b, w => (ofOpt (getV env i) w).bind fun v w => (ofOpt (dictOf v) w).bind fun kvs w => (ev env b w).bind fun u w => (asD u w).bind fun y w => ofOpt ((getDV kvs y).map .d) w
  | .idx i b, w => (ofOpt (getV env i) w).bind fun v w => (ofOpt (listOf v) w).bind fun ds w => (ev env b w).bind fun u w => (asD u w).bind fun y w => ofOpt ((idxV ds y).map .d) w
  | .dsp i j, w => match env[i]?, env[j]? with
    | some (.val (.d x)), some (.val (.d y)) => ofOpt ((dspV x y).map .d) w
    | _, _ => .bad
  | .dcv i a v, w => (ev env a w).bind fun u w => (asD u w).bind fun x w => match env[v]? with
    | some (.val (.d y)) => if decide (i ≠ v) && decide (i < env.length) then ofOpt ((dcvV x y).map .d) w else .bad
    | _ => .bad
def evs (env : En) : Es → Wd → Res (List Vl)
  | .nil, w => .ok [] w
  | .cons e r, w => (ev env e w).bind fun v w => (evs env r w).bind fun vs w => .ok (v :: vs) w
def evB (env : En) (conj : Bool) : Es → Wd → Res Vl
  | .nil, w => .ok (.d (.bool conj)) w
  | .cons e r, w => (ev env e w).bind fun v w => (boolOf v w).bind fun b w => if b = conj then evB env conj r w else .ok (.d (.bool b)) w
def evO (env : En) : Eo → Wd → Res (Option Int)
  | .none, w => .ok none w
  | .some e, w => (ev env e w).bind fun v w => (asD v w).bind fun x w => ofOpt (bound? x) w
def evI (env : En) : It → Wd → Res (List PyData)
  | .seq e, w => (ev env e w).bind fun v w => (asD v w).bind fun x w => ofOpt (asSeq x) w
  | .rng1 a, w => (ev env a w).bind fun v w => (asD v w).bind fun x w => match x with
    | .int i => if small62 i then .ok (rangeL 0 i.toNat 1) w else .bad
    | _ => .bad
  | .rng2 a b, w => (ev env a w).bind fun v w => (asD v w).bind fun x w => (ev env b w).bind fun u w => (asD u w).bind fun y w => match x, y with
    | .int i, .int j => if small62 i && small62 j then .ok (rangeL i (j - i).toNat 1) w else .bad
    | _, _ => .bad
  | .rng3 a b c, w => (ev env a w).bind fun v w => (asD v w).bind fun x w => (ev env b w).bind fun u w => (asD u w).bind fun y w => (ev env c w).bind fun t w => (asD t w).bind fun z w => match x, y, z with
    | .int i, .int j, .int k => if small62 i && small62 j && decide (k = -1) then .ok (rangeL i (i - j).toNat (-1)) w else .bad
    | _, _, _ => .bad
  | .zip a b, w => (ev env a w).bind fun v w => (asD v w).bind fun x w => (ev env b w).bind fun u w => (asD u w).bind fun y w =>
    match asSeq x, asSeq y with
    | some xs, some ys => .ok (List.zipWith (fun x y => .tuple [x, y]) xs ys) w
    | _, _ => .bad
  | .enm a, w => (ev env a w).bind fun v w => (asD v w).bind fun x w => match asSeq x with
    | some xs => .ok (xs.zipIdx.map fun p => .tuple [.int p.2, p.1]) w
    | none => .bad
  | .comb a b, w => (ev env a w).bind fun v w => (asD v w).bind fun x w => (ev env b w).bind fun u w => (asD u w).bind fun y w => match x, y with
    | .tuple xs, .int k => if decide (0 ≤ k) && decide (k ≤ xs.length) && decide (xs.length ≤ 5) && (asInts xs).isSome then .ok ((combs k.toNat xs).map .tuple) w else .bad
    | _, _ => .bad
  | .rgv i, w => match env[i]? with
    | some (.rng n) => if decide (0 ≤ n) && small62 n then .ok (rangeL 0 n.toNat 1) w else .bad
    | _ => .bad
  | .ezp a b, w => (ev env a w).bind fun v w => (asD v w).bind fun x w => (ev env b w).bind fun u w => (asD u w).bind fun y w =>
    match asSeq x, asSeq y with
    | some xs, some ys => .ok ((List.zipWith (fun x y => PyData.tuple [x, y]) xs ys).zipIdx.map fun p => .tuple [.int p.2, p.1]) w
    | _, _ => .bad
end
end R
end
section
/-! sorted of tuples of ints, none of them (), or the first one. -/
namespace R
open PySem L2
open PySem.Spec PyProof.Rows Srt
theorem lexLt_asym : ∀ {a b : List Int}, lexLt a b = true → lexLt b a = false
  | [], [], h => by simp [lexLt] at h
  | [], _ :: _, _ => rfl
  | _ :: _, [], h => by simp [lexLt] at h
  | x :: a, y :: b, h => by
    simp only [lexLt] at h ⊢
    split at h
    · rename_i e
      rw [if_pos e.symm]
      exact lexLt_asym h
    · rename_i e
      rw [if_neg (Ne.symm e)]
      have := of_decide_eq_true h
      exact decide_eq_false (by omega)
theorem lexLt_antisymm : ∀ {a b : List Int}, lexLt a b = false → lexLt b a = false → a = b
  | [], [], _, _ => rfl
  | [], _ :: _, h, _ => by simp [lexLt] at h
  | _ :: _, [], _, h => by simp [lexLt] at h
  | x :: a, y :: b, h, g => by
    simp only [lexLt] at h g
    by_cases e : x = y
    · rw [if_pos e] at h
      rw [if_pos e.symm] at g
      rw [e, lexLt_antisymm h g]
    · rw [if_neg e] at h
      rw [if_neg (Ne.symm e)] at g
      have h := of_decide_eq_false h
      have g := of_decide_eq_false g
      omega
theorem lexLt_trans : ∀ {a b c : List Int}, lexLt b a = false → lexLt c b = false → lexLt c a = false
  | [], [], c, _, g => g
  | [], _ :: _, [], _, g => by simp [lexLt]
  | [], _ :: _, _ :: _, h, g => by simp [lexLt]
  | _ :: _, [], _, h, _ => by simp [lexLt] at h
  | x :: a, y :: b, [], _, g => by simp [lexLt] at g
  | x :: a, y :: b, z :: c, h, g => by
    simp only [lexLt] at h g ⊢
    by_cases e : y = x
    · rw [if_pos e] at h
      subst e
      by_cases e2 : z = y
      · rw [if_pos e2] at g ⊢
        exact lexLt_trans h g
      · rw [if_neg e2] at g ⊢
        exact g
    · rw [if_neg e] at h
      have h := of_decide_eq_false h
      by_cases e2 : z = y
      · subst e2
        rw [if_neg e]
        exact decide_eq_false h
      · rw [if_neg e2] at g
        have g := of_decide_eq_false g
        rw [if_neg (by omega)]
        exact decide_eq_false (by omega)
theorem swo_tup {α : Type} (k : α → List Int) : SrtO.Swo fun v u => lexLt (k v) (k u) := ⟨fun _ _ h => lexLt_asym h, fun _ _ _ h g => lexLt_trans h g⟩
theorem insT_perm (x : List Int) : ∀ l, (insT x l).Perm (x :: l)
  | [] => .refl _
  | y :: r => by
    unfold insT
    split
    · exact ((insT_perm x r).cons y).trans (.swap x y r)
    · exact .refl _
theorem sortT_perm : ∀ l, (sortT l).Perm l
  | [] => .refl _
  | x :: r => (insT_perm x _).trans ((sortT_perm r).cons x)
abbrev SrtT (l : List (List Int)) : Prop := l.Pairwise fun a b => lexLt b a = false
theorem insT_srt (x : List Int) : ∀ l, SrtT l → SrtT (insT x l)
  | [], _ => by simp [insT]
  | y :: r, h => by
    obtain ⟨h1, h2⟩ := List.pairwise_cons.mp h
    unfold insT
    split
    · rename_i c
      refine List.pairwise_cons.mpr ⟨fun z hz => ?_, insT_srt x r h2⟩
      rcases List.mem_cons.mp ((insT_perm x r).mem_iff.mp hz) with rfl | hz
      · exact lexLt_asym c
      · exact h1 z hz
    · rename_i c
      have c : lexLt y x = false := by simpa using c
      refine List.pairwise_cons.mpr ⟨fun z hz => ?_, h⟩
      rcases List.mem_cons.mp hz with rfl | hz
      · exact c
      · exact lexLt_trans c (h1 z hz)
theorem sortT_srt : ∀ l, SrtT (sortT l)
  | [] => .nil
  | x :: r => insT_srt x _ (sortT_srt r)
theorem srtT_uniq : ∀ {a b : List (List Int)}, a.Perm b → SrtT a → SrtT b → a = b
  | [], b, p, _, _ => p.nil_eq
  | x :: a, [], p, _, _ => by simp at p
  | x :: a, y :: b, p, ha, hb => by
    obtain ⟨a1, a2⟩ := List.pairwise_cons.mp ha
    obtain ⟨b1, b2⟩ := List.pairwise_cons.mp hb
    have exy : x = y := by
      rcases List.mem_cons.mp (p.mem_iff.mp List.mem_cons_self) with e | e
      · exact e
      · rcases List.mem_cons.mp (p.mem_iff.mpr List.mem_cons_self) with e' | e'
        · exact e'.symm
        · exact lexLt_antisymm (b1 x e) (a1 y e')
    subst exy
    rw [srtT_uniq p.cons_inv a2 b2]
section
variable {prog : Program} {w : World} {A : Around} {E : Value → Shared → Prop} {s : Shared} {Q : Bool → Shared → Prop}
theorem lexT {b d : Bool} {xs ys : List Value} {ns ms : List Int} (i : Nat) (hx : IntsAre xs ns) (hy : IntsAre ys ms) (hd : d = decide (ns.length < ms.length)) (h : Q (lexLt ns ms) s) : PySem.W.KatLex prog w A b d Q (xs.zip ys) i s := by
  induction hx generalizing ys ms i d with
  | nil =>
    subst hd
    cases hy with
    | nil => exact PySem.W.kat_nil h
    | cons q u t => exact PySem.W.kat_nil h
  | @cons p t xs ns hx ih =>
    subst hd
    cases hy with
    | nil => exact PySem.W.kat_nil h
    | @cons q u ys ms hy =>
      refine PySem.W.kat_cons (wpAny_eqBool_int ?_)
      by_cases e : p = q
      · subst e
        rw [beq_self_eq_true]
        simp only [lexLt, if_pos] at h
        refine PySem.W.kat_yes ?_
        first
          | exact ih (i + 1) hy (by simp) h
          | exact ih _ _ (i + 1) hy (by simp) h
      · simp only [lexLt, if_neg e] at h
        rw [beq_eq_false_iff_ne.mpr e]
        exact PySem.W.kat_no (TS.oneLt_ints _ h)
end
section
variable {prog : Program} {w : World} {A : Around} {E : Value → Shared → Prop} {s : Shared}
/-- tuples of ints, none of them empty -/
def TupsK (h : Heap) (k : Value → List Int) (vs : List Value) : Prop := ∀ v ∈ vs, TS.TupInts h v (k v) ∧ k v ≠ []
theorem firstsK {h : Heap} {k : Value → List Int} : ∀ {vs : List Value}, TupsK h k vs → ∃ gs, PySem.W.KatTups h vs gs ∧ gs.length = vs.length ∧ ∀ g ∈ gs, ∃ n t, g = Value.int n t
  | [], _ => ⟨[], .nil, rfl, by simp⟩
  | v :: vs, q => by
    obtain ⟨gs, g1, g2, g3⟩ := firstsK fun u hu => q u (List.mem_cons_of_mem _ hu)
    obtain ⟨⟨a, xs, rfl, ⟨o, o1, o2, n, o3⟩, hi⟩, ne⟩ := q v List.mem_cons_self
    generalize k (Value.ref a) = ns at hi ne
    cases hl : xs.toList with
    | nil =>
      rw [hl] at hi
      cases hi
      exact absurd rfl ne
    | cons y ys =>
      rw [hl] at hi
      cases hi with
      | cons m t _ =>
        refine ⟨.int m t :: gs, .cons o1 o2 o3 ?_ g1, congrArg (· + 1) g2, fun g hg => ?_⟩
        · have := congrArg (fun l : List Value => l[0]?) hl
          simpa using this
        · rcases List.mem_cons.mp hg with rfl | hg
          · exact ⟨m, t, rfl⟩
          · exact g3 g hg
theorem cmpK {k : Value → List Int} {vs : List Value} (h : TupsK s.heap k vs) : SrtO.Cmp prog w A s (tuples' true) (fun p => p.1 ∈ vs) (SrtO.lt2 fun v u => lexLt (k v) (k u)) := by
  intro p q m1 m2
  obtain ⟨⟨a1, x1, e1, ⟨o1, p1, c1, n1, d1⟩, i1⟩, _⟩ := h _ m1
  obtain ⟨⟨a2, x2, e2, ⟨o2, p2, c2, n2, d2⟩, i2⟩, _⟩ := h _ m2
  show wpAny (model prog w) A (keyLt' (tuples' true) p.1 q.1) (fun r s' => s' = s ∧ r = lexLt (k p.1) (k q.1)) _ s
  generalize k p.1 = n at i1
  generalize k q.1 = m at i2
  rw [e1, e2]
  refine PySem.W.kat_lt p1 d1 p2 d2 ?_
  have l1 := i1.length
  have l2 := i2.length
  rw [Array.length_toList] at l1 l2
  exact lexT 0 i1 i2 (by rw [l1, l2]) ⟨rfl, rfl⟩
theorem sortableK {a : Addr} {k : Value → List Int} {vs : List Value} (h0 : 0 < vs.length) (h : TupsK s.heap k vs) (ha : ∀ o, s.heap.get? a = some o → o.cls ≠ .type "tuple") : SrtO.SortableO prog w A s a vs fun v u => lexLt (k v) (k u) := by
  intro h' kp
  have g : TupsK h' k vs := fun v hv => ⟨(h v hv).1.keeps fun b o e c => kp b o (fun z => ha o (z ▸ e) c) e, (h v hv).2⟩
  obtain ⟨gs, g1, g2, g3⟩ := firstsK g
  refine ⟨tuples' true, fun Q E hq => ?_, cmpK g⟩
  refine PySem.W.kat_kind (T := .type "int") g1 (by omega) (fun f hm => ?_) (by rfl) ?_
  · obtain ⟨n, t, rfl⟩ := g3 f hm
    exact PySem.W.Looks.now
  · have e : (Value.type "int" != Value.type "tuple") = true := by first | decide +kernel | rfl
    rw [e]
    exact hq
end
open PySem.W
section
variable {prog : Program} {w : World} {A : Around} {E : Value → Shared → Prop} {s : Shared}
theorem tupLooks {M : Model} {a : Addr} {o : Obj} (g : s.heap.get? a = some o) (c : o.cls = .type "tuple") : Looks M s.heap (typeOf (.ref a)) (.type "tuple") := by
  rw [← c]
  exact (Looks.ld g).andThen .now
theorem tupInst {M : Model} {a : Addr} {o : Obj} (g : s.heap.get? a = some o) (c : o.cls = .type "tuple") : Looks M s.heap (isInstance (.ref a) (.type "tuple")) true := by
  refine (tupLooks g c).andThen ?_
  show Looks M s.heap (isSubtype (.type "tuple") (.type "tuple")) true
  rw [PySem.AutoSeq1.sub_tuple_tuple]
  exact .now
theorem lexHT : ∀ a b : List Int, lexLt a b = HT.lexLt a b
  | [], [] => rfl
  | [], _ :: _ => rfl
  | _ :: _, [] => rfl
  | x :: xs, y :: ys => by
    unfold lexLt HT.lexLt
    rw [lexHT xs ys]
theorem callT {a b : Addr} {dd dd2 : Option Addr} {items items2 : Array Value} {n n2 : Nat} {sl sl2 : Array (Option Value)} {ns ms : List Int} {Q : Value → Shared → Prop} (ga : s.heap.get? a = some { cls := .type "tuple", dict := dd, data := .seq items n, slots := sl })
    (gb : s.heap.get? b = some { cls := .type "tuple", dict := dd2, data := .seq items2 n2, slots := sl2 }) (ia : IntsAre items.toList ns) (ib : IntsAre items2.toList ms) (h : Q (.bool (HT.lexLt ns ms)) s) : wpAny (model prog w) A (call (.builtin "tuple.__lt__") [.ref a, .ref b]) Q E s := by
  refine wpAny_call (codeAny_call_builtin PySem.F.slot_tuple_lt.plain PySem.F.entry_tuple_lt (@check_slot (model prog w) _ _ _ "tuple.__lt__" "tuple" "__lt__" (.ref a) [.ref b] [] _ (by decide +kernel) (by decide +kernel) (tupInst ga rfl) (PySem.F.args_tuple_lt_2 _ _) ?_))
  refine wpAny_mono (NtL.nt_lt_ints a b _ _ items items2 n n2 dd dd2 sl sl2 ns ms ia ib prog w _ (wants Q E) s ⟨ga, gb, fun M => tupInst gb rfl, h⟩) (fun fin s' q => ?_) fun _ _ z => z
  cases fin with
  | done f => exact q
  | again c => exact q
theorem ltE {v u : Value} {ns ms : List Int} {Q : Bool → Shared → Prop} (hu : A.units < cLine) (hv : TS.TupInts s.heap v ns) (hw : TS.TupInts s.heap u ms) (h : Q (lexLt ns ms) s) : wpAny (model prog w) A (keyLt' oneType' v u) Q E s := by
  obtain ⟨a, xs, rfl, ⟨⟨cls, dd, data, sl⟩, ho, hc, n, hd⟩, ia⟩ := hv
  obtain ⟨b, ys, rfl, ⟨⟨cls2, dd2, data2, sl2⟩, ho2, hc2, n2, hd2⟩, ib⟩ := hw
  simp only at hc hd hc2 hd2
  subst hc hd hc2 hd2
  rw [lexHT] at h
  rw [keyLt'_oneType, oneLt'_eq]
  simp only [if_true]
  refine wpAny_bind (wpAny_cRoomFor hu ?_)
  refine wpAny_bind (wpAny_callSpecialIfBound?_slot (T := "tuple") (id := "tuple.__lt__") (name := "__lt__") ⟨_, ho, rfl⟩ PySem.F.slot_tuple_lt (callT ho ho2 ia ib ?_))
  exact wpAny_truthy_bool h
/-- tuples of ints -/
def TupsA (h : Heap) (k : Value → List Int) (vs : List Value) : Prop := ∀ v ∈ vs, TS.TupInts h v (k v)
theorem cmpE {k : Value → List Int} {vs : List Value} (hu : A.units < cLine) (h : TupsA s.heap k vs) : SrtO.Cmp prog w A s oneType' (fun p => p.1 ∈ vs) (SrtO.lt2 fun v u => lexLt (k v) (k u)) := by
  intro p q m1 m2
  exact ltE (Q := fun r s' => s' = s ∧ r = lexLt (k p.1) (k q.1)) (E := fun _ _ => False) hu (h _ m1) (h _ m2) ⟨rfl, rfl⟩
theorem restM {M : Model} : ∀ (vs : List Value) {Q : List (Option Value) → Shared → Prop}, (∀ v ∈ vs, ∃ ns, TS.TupInts s.heap v ns) → (∀ bs, Q bs s) → wpAny M A (vs.mapM firstOfTuple') Q E s
  | [], _, _, h => by rw [List.mapM_nil]; exact wpAny_pure (h [])
  | v :: vs, Q, t, h => by
    obtain ⟨ns, a, xs, rfl, ⟨o, ho, hc, n, hd⟩, _⟩ := t v List.mem_cons_self
    rw [List.mapM_cons]
    refine wpAny_bind ?_
    rw [kas_first_eq]
    refine wpAny_bind (Looks.here (show Looks M s.heap (typeOf (.ref a)) o.cls from (Looks.ld ho).andThen .now) ?_)
    rw [hc, if_neg (by first | decide | simp)]
    refine wpAny_bind (listItems_at ho hd (wpAny_pure ?_))
    exact wpAny_bind (restM vs (Q := fun bs s' => wpAny M A (pure (_ :: bs)) Q E s') (fun v hv => t v (List.mem_cons_of_mem _ hv)) fun bs => wpAny_pure (h _))
theorem kindE {M : Model} {v : Value} {vs : List Value} {Q : SortKind → Shared → Prop} (h0 : TS.TupInts s.heap v []) (t : ∀ v ∈ vs, ∃ ns, TS.TupInts s.heap v ns) (h : Q oneType' s) : wpAny M A (keyKind' (v :: vs).toArray) Q E s := by
  have hT : ∀ u ∈ v :: vs, Looks M s.heap (typeOf u) (.type "tuple") := fun u hu => by
    have : ∃ ns, TS.TupInts s.heap u ns := by
      rcases List.mem_cons.mp hu with rfl | hu
      · exact ⟨_, h0⟩
      · exact t u hu
    obtain ⟨ns, a, xs, rfl, ⟨o, ho, hc, n, hd⟩, _⟩ := this
    exact tupLooks ho hc
  obtain ⟨a, xs, rfl, ⟨o, ho, hc, n, hd⟩, hi⟩ := h0
  have hx : xs[0]? = none := by
    have : xs.toList = [] := by
      generalize xs.toList = l at hi
      cases hi
      rfl
    simp at this
    simp [this]
  rw [keyKind'_eq, List.mapM_toArray, map_eq_pure_bind]
  refine wpAny_bind (wpAny_bind ?_)
  rw [List.mapM_cons]
  refine wpAny_bind ?_
  rw [kas_first_eq]
  refine wpAny_bind (Looks.here (show Looks M s.heap (typeOf (.ref a)) o.cls from (Looks.ld ho).andThen .now) ?_)
  rw [hc, if_neg (by first | decide | simp)]
  refine wpAny_bind (listItems_at ho hd (wpAny_pure ?_))
  rw [hx]
  refine wpAny_bind (restM vs t fun bs => wpAny_pure (wpAny_pure ?_))
  rw [if_neg (by simp), if_neg (by simp)]
  rw [oneTypeOnly'_eq, List.mapM_toArray, map_eq_pure_bind]
  refine wpAny_bind (wpAny_bind (wpAny_bind (kas_mapM (r := .type "tuple") _ (fun v hv Q' hq => (hT v hv).here hq) (wpAny_pure ?_))))
  have hall : ((List.map (fun _ => Value.type "tuple") (Value.ref a :: vs)).toArray.all fun x => x == Value.type "tuple") = true := by
    simp only [List.all_toArray, List.all_map, List.all_eq_true]
    intro _ _
    rfl
  have h0 : (List.map (fun _ => Value.type "tuple") (Value.ref a :: vs)).toArray[0]? = some (Value.type "tuple") := by simp
  rw [h0]
  simp only [hall, if_true]
  exact wpAny_pure (wpAny_pure h)
theorem sortableE {a : Addr} {k : Value → List Int} {v : Value} {vs : List Value} (hu : A.units < cLine) (h : TupsA s.heap k (v :: vs)) (h0 : k v = []) (ha : ∀ o, s.heap.get? a = some o → o.cls ≠ .type "tuple") : SrtO.SortableO prog w A s a (v :: vs) fun v u => lexLt (k v) (k u) := by
  intro h' kp
  have g : TupsA h' k (v :: vs) := fun u hu => (h u hu).keeps fun b o e c => kp b o (fun z => ha o (z ▸ e) c) e
  refine ⟨oneType', fun Q E hq => ?_, cmpE hu g⟩
  exact kindE (s := { s with heap := h' }) (h0 ▸ g v List.mem_cons_self) (fun u hu => ⟨_, g u (List.mem_cons_of_mem _ hu)⟩) hq
end
/-- sorted(xs), xs a list of tuples of ints, k says which; none is (), or the first one -/
def rSortK (K : PySem.W.Frag) : List V → Hp → VK → Prop := fun vs H Q => ∃ (a : Addr) (xs : List V) (k : V → List Int), vs = [V.ref a] ∧ SqL K H a xs ∧ (∀ x ∈ xs, ∃ t, x = V.ref t ∧ SqT K H t ((k x).map V.int)) ∧ ((∀ x ∈ xs, k x ≠ []) ∨ ∃ x r, xs = x :: r ∧ k x = []) ∧
  ∀ ys p, ys.Perm xs → SrtT (ys.map k) → H p = none → Q (.ref p) (upd H p (.lst ys))
theorem cr_sortK {X : Cx} (hu : X.A.units + 64 < cLine) : CallR X (.builtin "sorted") (rSortK X.K) := by
  intro pins s σ H vs us Q I r h
  obtain ⟨a, xs, k, rfl, hs, hx, hne, q⟩ := h
  obtain ⟨its, rv, hl, hz⟩ := I.list hs
  obtain ⟨u, rfl, ru⟩ := vals1 r
  cases ru
  obtain ⟨e1, e2⟩ := refs_back rv fun x m => (hx x m).imp fun t h => h.1
  have tk : TupsA s.heap (fun u => k (backV u)) its := fun v hv => by
    obtain ⟨t, rfl⟩ := e2 v hv
    obtain ⟨t', et, ht⟩ := hx (V.ref t) (by rw [e1]; exact List.mem_map.mpr ⟨_, hv, rfl⟩)
    cases et
    obtain ⟨ws, r2, p2, _⟩ := I.tuple ht
    refine ⟨t, ws.toArray, rfl, p2, ?_⟩
    have hi := r2.ints
    rw [List.toList_toArray]
    exact hi
  refine SrtO.sorted_ord (swo_tup fun u => k (backV u)) hl.isList (by rw [← rv.length]; exact hz) (fun h2 h1 b hb kk => ?_) fun out h1 h2 => ?_
  · have nt : ∀ o, ({ s with heap := h1 } : Shared).heap.get? b = some o → o.cls ≠ .type "tuple" := fun o e => by
      obtain rfl := Option.some.inj (e.symm.trans hb)
      intro c
      exact absurd (Value.type.inj c) (by decide)
    have tk1 : TupsA h1 (fun u => k (backV u)) its := fun v hv => (tk v hv).keeps fun b o e _ => (kk b o e).2
    rcases hne with hne | ⟨x, r, ex, kx⟩
    · refine sortableK (s := { s with heap := h1 }) (by omega) (fun v hv => ⟨tk1 v hv, ?_⟩) nt
      exact hne _ (by rw [e1]; exact List.mem_map.mpr ⟨_, hv, rfl⟩)
    · cases its with
      | nil => simp at h2
      | cons v vs =>
        refine sortableE (s := { s with heap := h1 }) ?_ tk1 ?_ nt
        · show X.A.units + 1 + 1 < cLine
          omega
        · rw [ex] at e1
          injection e1 with e1 _
          rw [← e1]
          exact kx
  · obtain ⟨n, hn⟩ := sortedAll_at s.heap its out.toArray
    have hp : (out.map backV).Perm xs := by
      rw [e1]
      exact h2.perm.map _
    have hle : s.heap.objs.size ≤ s.heap.objs.size + 1 := Nat.le_succ _
    refine ⟨.ref _, upd H _ (.lst (out.map backV)), I.laid (t' := s.toks) (fun b o e => sortedAll_old e) hle ⟨?_, out, n, vals_back fun u hu => e2 u (h2.perm.mem_iff.mp hu), hn⟩, rfl, q _ _ hp ?_ (I.hok.fresh hle)⟩
    · rw [hp.length_eq]
      exact hz
    · rw [List.map_map]
      exact List.pairwise_map.mpr h1
end R
end
section
/-! How data lie in the abstract heap, apart from a set of addresses that may change. -/
namespace R
open PySem L2
abbrev AO := Addr → Prop

/-- written list, tuple -/
def KL (K : PySem.W.Frag) (a : Addr) (xs : List V) : Prop := ∃ (o : Obj) (its : Array Value) (n : Nat), K.lookup a = some o ∧ o.cls = .type "list" ∧ o.dict = none ∧ o.data = .seq its n ∧ its.size ≤ sizeLine ∧ Vals xs its.toList
/-- a list at a that is out of P -/
def LsA (K : PySem.W.Frag) (H : Hp) (P : AO) (a : Addr) (xs : List V) : Prop :=
  (H a = some (.lst xs) ∧ ¬ P a) ∨ (∃ o, H a = some (.frz o (.lst xs))) ∨ KL K a xs
theorem LsA.sq {K : PySem.W.Frag} {H : Hp} {P : AO} {a : Addr} {xs : List V} (h : LsA K H P a xs) : SqL K H a xs := by
  rcases h with ⟨h, _⟩ | ⟨o, h⟩ | h
  · exact .inl (.inl h)
  · exact .inl (.inr ⟨o, h⟩)
  · exact .inr h

mutual
inductive Rp (K : PySem.W.Frag) (H : Hp) (P : AO) : V → PyData → Prop
  | non : Rp K H P .non .none
  | bl (b : Bool) : Rp K H P (.bl b) (.bool b)
  | int (i : Int) : Rp K H P (.int i) (.int i)
  | str (x : Str) : Rp K H P (.str x) (.str x)
  | lst {a : Addr} {xs : List V} {ds : List PyData} (h : LsA K H P a xs) (hz : xs.length ≤ sizeLine) (hd : RpL K H P xs ds) : Rp K H P (.ref a) (.list ds)
  | tup {a : Addr} {xs : List V} {ds : List PyData} (h : SqT K H a xs) (hz : xs.length ≤ sizeLine) (hd : RpL K H P xs ds) : Rp K H P (.ref a) (.tuple ds)
  | dic {a : Addr} {kvs : List (Key × V)} {ds : List (PyData × PyData)} (h : H a = some (.dK kvs)) (hd : RpK K H P kvs ds) : Rp K H P (.ref a) (.dict ds)
inductive RpL (K : PySem.W.Frag) (H : Hp) (P : AO) : List V → List PyData → Prop
  | nil : RpL K H P [] []
  | cons {v : V} {vs : List V} {d : PyData} {ds : List PyData} (h : Rp K H P v d) (t : RpL K H P vs ds) : RpL K H P (v :: vs) (d :: ds)
inductive RpK (K : PySem.W.Frag) (H : Hp) (P : AO) : List (Key × V) → List (PyData × PyData) → Prop
  | nil : RpK K H P [] []
  | cons {k : Key} {v : V} {kvs : List (Key × V)} {d e : PyData} {ds : List (PyData × PyData)} (hk : Rp K H P (kV k) d) (h : Rp K H P v e) (t : RpK K H P kvs ds) : RpK K H P ((k, v) :: kvs) ((d, e) :: ds)
end

/-- what carries data over to another heap -/
structure Cr (H : Hp) (P : AO) (H' : Hp) (P' : AO) : Prop where
  l : ∀ a vs, H a = some (.lst vs) → ¬ P a → H' a = some (.lst vs) ∧ ¬ P' a
  t : ∀ a o, H a = some o → (∀ vs, o ≠ .lst vs) → H' a = some o
variable {K : PySem.W.Frag} {H H' H2 : Hp} {P P' P2 : AO}
theorem Cr.sqT (c : Cr H P H' P') {a : Addr} {xs : List V} (h : SqT K H a xs) : SqT K H' a xs := by
  rcases h with (h | ⟨o, h⟩) | h
  · exact .inl (.inl (c.t _ _ h fun _ z => nomatch z))
  · exact .inl (.inr ⟨o, c.t _ _ h fun _ z => nomatch z⟩)
  · exact .inr h
theorem Cr.lsA (c : Cr H P H' P') {a : Addr} {xs : List V} (h : LsA K H P a xs) : LsA K H' P' a xs := by
  rcases h with ⟨h, n⟩ | ⟨o, h⟩ | h
  · exact .inl (c.l _ _ h n)
  · exact .inr (.inl ⟨o, c.t _ _ h fun _ z => nomatch z⟩)
  · exact .inr (.inr h)
mutual
theorem Rp.cr (c : Cr H P H' P') : ∀ (d : PyData) (v : V), Rp K H P v d → Rp K H' P' v d
  | .none, _, .non => .non
  | .bool _, _, .bl b => .bl b
  | .int _, _, .int i => .int i
  | .str _, _, .str x => .str x
  | .list ds, _, .lst h hz hd => .lst (c.lsA h) hz (RpL.cr c ds _ hd)
  | .tuple ds, _, .tup h hz hd => .tup (c.sqT h) hz (RpL.cr c ds _ hd)
  | .dict ds, _, .dic h hd => .dic (c.t _ _ h fun _ z => nomatch z) (RpK.cr c ds _ hd)
theorem RpL.cr (c : Cr H P H' P') : ∀ (ds : List PyData) (vs : List V), RpL K H P vs ds → RpL K H' P' vs ds
  | [], _, .nil => .nil
  | d :: ds, _, .cons h t => .cons (Rp.cr c d _ h) (RpL.cr c ds _ t)
theorem RpK.cr (c : Cr H P H' P') : ∀ (ds : List (PyData × PyData)) (vs : List (Key × V)), RpK K H P vs ds → RpK K H' P' vs ds
  | [], _, .nil => .nil
  | (d, e) :: ds, _, .cons hk h t => .cons (Rp.cr c d _ hk) (Rp.cr c e _ h) (RpK.cr c ds _ t)
end
theorem Cr.refl : Cr H P H P := ⟨fun _ _ h n => ⟨h, n⟩, fun _ _ h _ => h⟩
theorem Cr.weak (h : ∀ a, P' a → P a) : Cr H P H P' := ⟨fun _ _ e n => ⟨e, fun z => n (h _ z)⟩, fun _ _ e _ => e⟩
theorem Cr.trans (a : Cr H P H' P') (b : Cr H' P' H2 P2) : Cr H P H2 P2 :=
  ⟨fun x vs h n => let ⟨h1, n1⟩ := a.l x vs h n; b.l x vs h1 n1, fun x o h n => b.t x o (a.t x o h n) n⟩
/-- all is kept -/
def Kp (H H' : Hp) : Prop := ∀ a o, H a = some o → H' a = some o
theorem Kp.refl : Kp H H := fun _ _ h => h
theorem Kp.trans {H1 H2 H3 : Hp} (a : Kp H1 H2) (b : Kp H2 H3) : Kp H1 H3 := fun x o h => b x o (a x o h)
theorem Kp.upd {p : Addr} {o : HO} (h : H p = none) : Kp H (upd H p o) := fun a u e => by rw [upd_ne (ne_of_none e h)]; exact e
theorem Cr.kp (k : Kp H H') (h : ∀ a, P' a → P a ∨ H a = none) : Cr H P H' P' :=
  ⟨fun a vs e n => ⟨k _ _ e, fun z => (h a z).elim n fun y => by rw [e] at y; cases y⟩, fun a o e _ => k _ _ e⟩
theorem RpL.length : ∀ {vs : List V} {ds : List PyData}, RpL K H P vs ds → vs.length = ds.length
  | _, _, .nil => rfl
  | _, _, .cons _ t => congrArg (· + 1) t.length
theorem RpL.get : ∀ {vs : List V} {ds : List PyData} {i : Nat} {d : PyData}, RpL K H P vs ds → ds[i]? = some d → ∃ v, vs[i]? = some v ∧ Rp K H P v d
  | _, _, _, _, .nil, e => by simp at e
  | _, _, 0, _, .cons h _, e => by simp at e; subst e; exact ⟨_, rfl, h⟩
  | _, _, i + 1, _, .cons _ t, e => by
    obtain ⟨v, h1, h2⟩ := RpL.get (i := i) t (by simpa using e)
    exact ⟨v, by simpa using h1, h2⟩
theorem RpL.append : ∀ {vs us : List V} {ds es : List PyData}, RpL K H P vs ds → RpL K H P us es → RpL K H P (vs ++ us) (ds ++ es)
  | _, _, _, _, .nil, t => t
  | _, _, _, _, .cons h r, t => .cons h (RpL.append r t)
theorem RpL.take : ∀ {vs : List V} {ds : List PyData} (n : Nat), RpL K H P vs ds → RpL K H P (vs.take n) (ds.take n)
  | _, _, 0, _ => .nil
  | _, _, _ + 1, .nil => .nil
  | _, _, n + 1, .cons h t => .cons h (RpL.take n t)
theorem RpL.drop : ∀ {vs : List V} {ds : List PyData} (n : Nat), RpL K H P vs ds → RpL K H P (vs.drop n) (ds.drop n)
  | _, _, 0, r => r
  | _, _, _ + 1, .nil => .nil
  | _, _, n + 1, .cons _ t => RpL.drop n t
theorem RpL.set {v : V} {d : PyData} (r : Rp K H P v d) : ∀ {vs : List V} {ds : List PyData} (i : Nat), RpL K H P vs ds → RpL K H P (vs.set i v) (ds.set i d)
  | _, _, _, .nil => .nil
  | _, _, 0, .cons _ t => .cons r t
  | _, _, i + 1, .cons h t => .cons h (RpL.set r i t)
theorem RpL.ints : ∀ (ds : List PyData) (vs : List V) (ns : List Int), RpL K H P vs ds → asInts ds = some ns → vs = ns.map V.int
  | [], _, ns, .nil, e => by
    have e' : ns = [] := (Option.some.inj e).symm
    subst e'
    rfl
  | .int i :: ds, _, ns, .cons h t, e => by
    cases h
    simp only [asInts, Option.map_eq_some_iff] at e
    obtain ⟨r, e1, e2⟩ := e
    subst e2
    rw [List.map_cons, RpL.ints ds _ r t e1]
  | .none :: _, _, _, _, e => nomatch (show Option.none = some _ from e)
  | .bool _ :: _, _, _, _, e => nomatch (show Option.none = some _ from e)
  | .str _ :: _, _, _, _, e => nomatch (show Option.none = some _ from e)
  | .list _ :: _, _, _, _, e => nomatch (show Option.none = some _ from e)
  | .tuple _ :: _, _, _, _, e => nomatch (show Option.none = some _ from e)
  | .dict _ :: _, _, _, _, e => nomatch (show Option.none = some _ from e)
theorem RpL.bools : ∀ (ds : List PyData) (vs : List V) (ns : List Bool), RpL K H P vs ds → asBools ds = some ns → vs = ns.map V.bl
  | [], _, ns, .nil, e => by
    have e' : ns = [] := (Option.some.inj e).symm
    subst e'
    rfl
  | .bool i :: ds, _, ns, .cons h t, e => by
    cases h
    simp only [asBools, Option.map_eq_some_iff] at e
    obtain ⟨r, e1, e2⟩ := e
    subst e2
    rw [List.map_cons, RpL.bools ds _ r t e1]
  | .none :: _, _, _, _, e => nomatch (show Option.none = some _ from e)
  | .int _ :: _, _, _, _, e => nomatch (show Option.none = some _ from e)
  | .str _ :: _, _, _, _, e => nomatch (show Option.none = some _ from e)
  | .list _ :: _, _, _, _, e => nomatch (show Option.none = some _ from e)
  | .tuple _ :: _, _, _, _, e => nomatch (show Option.none = some _ from e)
  | .dict _ :: _, _, _, _, e => nomatch (show Option.none = some _ from e)
theorem RpL.of_ints : ∀ ns : List Int, RpL K H P (ns.map V.int) (ns.map PyData.int)
  | [] => .nil
  | n :: r => .cons (.int n) (RpL.of_ints r)
theorem RpL.rep {vs : List V} {ds : List PyData} (r : RpL K H P vs ds) : ∀ n : Nat, RpL K H P (List.replicate n vs).flatten (List.replicate n ds).flatten
  | 0 => .nil
  | n + 1 => by
    rw [List.replicate_succ, List.replicate_succ, List.flatten_cons, List.flatten_cons]
    exact r.append (RpL.rep r n)
mutual
theorem Rp.dp : ∀ (d : PyData) (v : V), Rp K H P v d → d.canLay0 = true → Dp K H v d
  | .none, _, .non, _ => .non
  | .bool _, _, .bl b, _ => .bl b
  | .int _, _, .int i, _ => .int i
  | .str _, _, .str x, _ => .str x
  | .list ds, _, .lst h hz hd, c => .lst h.sq (RpL.dp ds _ hd (by simpa [PyData.canLay0] using c))
  | .tuple ds, _, .tup h hz hd, c => .tup h (RpL.dp ds _ hd (by simpa [PyData.canLay0] using c))
  | .dict ds, _, _, c => by simp [PyData.canLay0] at c
theorem RpL.dp : ∀ (ds : List PyData) (vs : List V), RpL K H P vs ds → PyData.canLayAll0 ds = true → DpAll K H vs ds
  | [], _, .nil, _ => .nil
  | d :: ds, _, .cons h t, c => by
    have c' : d.canLay0 = true ∧ PyData.canLayAll0 ds = true := by simpa [PyData.canLayAll0] using c
    exact .cons (Rp.dp d _ h c'.1) (RpL.dp ds _ t c'.2)
end
/-- as an operand: a list's own address is out of S alone, what it holds is out of P -/
inductive Rq (K : PySem.W.Frag) (H : Hp) (S P : AO) : V → PyData → Prop
  | lst {a : Addr} {xs : List V} {ds : List PyData} (h : LsA K H S a xs) (hz : xs.length ≤ sizeLine) (hd : RpL K H P xs ds) : Rq K H S P (.ref a) (.list ds)
  | of {v : V} {d : PyData} (h : Rp K H P v d) (hn : ∀ ds, d ≠ .list ds) : Rq K H S P v d
variable {S S' : AO}
theorem LsA.weak {a : Addr} {xs : List V} (h : ∀ a, S a → P a) (l : LsA K H P a xs) : LsA K H S a xs := (Cr.weak h).lsA l
theorem Rp.rq (h : ∀ a, S a → P a) {v : V} {d : PyData} (r : Rp K H P v d) : Rq K H S P v d := by
  cases r with
  | lst l hz hd => exact .lst (l.weak h) hz hd
  | non => exact .of .non fun _ z => nomatch z
  | bl b => exact .of (.bl b) fun _ z => nomatch z
  | int b => exact .of (.int b) fun _ z => nomatch z
  | str b => exact .of (.str b) fun _ z => nomatch z
  | tup a b c => exact .of (.tup a b c) fun _ z => nomatch z
  | dic a b => exact .of (.dic a b) fun _ z => nomatch z
theorem Rq.dp {d : PyData} {v : V} (h : Rq K H S P v d) (c : d.canLay0 = true) : Dp K H v d := by
  cases h with
  | lst h hz hd => exact .lst h.sq (RpL.dp _ _ hd (by simpa [PyData.canLay0] using c))
  | of h => exact Rp.dp _ _ h c
theorem Rq.int {v : V} {i : Int} (h : Rq K H S P v (.int i)) : v = .int i := by
  cases h with
  | of h => cases h; rfl
theorem Rq.str {v : V} {i : Str} (h : Rq K H S P v (.str i)) : v = .str i := by
  cases h with
  | of h => cases h; rfl
theorem Rq.bl {v : V} {i : Bool} (h : Rq K H S P v (.bool i)) : v = .bl i := by
  cases h with
  | of h => cases h; rfl
theorem Rq.non {v : V} (h : Rq K H S P v .none) : v = .non := by
  cases h with
  | of h => cases h; rfl
theorem Rq.list {v : V} {ds : List PyData} (h : Rq K H S P v (.list ds)) : ∃ a xs, v = .ref a ∧ LsA K H S a xs ∧ xs.length ≤ sizeLine ∧ RpL K H P xs ds := by
  cases h with
  | lst h hz hd => exact ⟨_, _, rfl, h, hz, hd⟩
  | of h hn => exact absurd rfl (hn _)
theorem Rq.tuple {v : V} {ds : List PyData} (h : Rq K H S P v (.tuple ds)) : ∃ a xs, v = .ref a ∧ SqT K H a xs ∧ xs.length ≤ sizeLine ∧ RpL K H P xs ds := by
  cases h with
  | of h =>
    cases h with
    | tup h hz hd => exact ⟨_, _, rfl, h, hz, hd⟩
theorem Rq.cr (c : Cr H P H' P') (k : Cr H S H' S') {d : PyData} {v : V} (h : Rq K H S P v d) : Rq K H' S' P' v d := by
  cases h with
  | lst h hz hd => exact .lst (k.lsA h) hz (RpL.cr c _ _ hd)
  | of h hn => exact .of (Rp.cr c _ _ h) hn
end R
end
section
/-! The operators by values. -/
namespace R
open PySem L2
open PySem.Spec PyProof.Rows
variable {X : Cx}
/-- addresses to be out of are lists that are held -/
def Held (H : Hp) (P : AO) : Prop := ∀ a, P a → ∃ vs, H a = some (.lst vs)
theorem Held.new {H : Hp} {P : AO} {p : Addr} (h : Held H P) (n : H p = none) : ¬ P p := fun z => by
  obtain ⟨vs, e⟩ := h p z
  rw [n] at e
  cases e
theorem Held.cr {H : Hp} {P : AO} {p : Addr} {o : HO} (n : H p = none) : Cr H P (upd H p o) P := Cr.kp (Kp.upd n) fun _ z => .inl z
/-- a value that is handed on: all is kept, it is as told -/
def Gv (K : PySem.W.Frag) (H : Hp) (P : AO) (d : PyData) (Q : VK) : Prop := ∀ z H', Kp H H' → Rp K H' P z d → Q z H'
theorem Gv.int {K : PySem.W.Frag} {H : Hp} {P : AO} {i : Int} {Q : VK} (g : Gv K H P (.int i) Q) : Q (.int i) H := g _ _ Kp.refl (.int i)
theorem Gv.bl {K : PySem.W.Frag} {H : Hp} {P : AO} {i : Bool} {Q : VK} (g : Gv K H P (.bool i) Q) : Q (.bl i) H := g _ _ Kp.refl (.bl i)
theorem Gv.str {K : PySem.W.Frag} {H : Hp} {P : AO} {i : Str} {Q : VK} (g : Gv K H P (.str i) Q) : Q (.str i) H := g _ _ Kp.refl (.str i)
theorem Gv.nlist {K : PySem.W.Frag} {H : Hp} {P : AO} {ds : List PyData} {vs : List V} {Q : VK} {p : Addr} (g : Gv K H P (.list ds) Q) (hp : Held H P) (n : H p = none) (r : RpL K H P vs ds) (z : vs.length ≤ sizeLine) : Q (.ref p) (upd H p (.lst vs)) :=
  g _ _ (Kp.upd n) (.lst (.inl ⟨upd_same, hp.new n⟩) z (RpL.cr (Held.cr n) _ _ r))
theorem Gv.ntup {K : PySem.W.Frag} {H : Hp} {P : AO} {ds : List PyData} {vs : List V} {Q : VK} {p : Addr} (g : Gv K H P (.tuple ds) Q) (n : H p = none) (r : RpL K H P vs ds) (z : vs.length ≤ sizeLine) : Q (.ref p) (upd H p (.tup vs)) :=
  g _ _ (Kp.upd n) (.tup (.inl (.inl upd_same)) z (RpL.cr (Held.cr n) _ _ r))

/-- list + list, of whatever make -/
def rCatL (K : PySem.W.Frag) : R2 := fun x y H Q => ∃ l b xs zs, x = .ref l ∧ y = .ref b ∧ SqL K H l xs ∧ SqL K H b zs ∧ xs.length + zs.length ≤ sizeLine ∧ ∀ p, H p = none → Q (.ref p) (upd H p (.lst (xs ++ zs)))
theorem op_catL : OpR X (binaryOp .Add) (rCatL X.K) := by
  intro pins s σ H x y v u Q I rx ry h
  obtain ⟨l, b, xs, zs, rfl, rfl, hH, hB, hz, q⟩ := h
  cases rx
  cases ry
  obtain ⟨its, r, ⟨⟨c1, d1, dt1, sl1⟩, n1, e1, f1, g1, k1⟩, _⟩ := I.list hH
  obtain ⟨its2, r2, ⟨⟨c2, d2, dt2, sl2⟩, n2, e2, f2, g2, k2⟩, _⟩ := I.list hB
  simp only at f1 g1 k1 f2 g2 k2
  subst f1 k1 f2 k2
  have z1 := r.length
  have z2 := r2.length
  refine concat_meets ⟨_, e1, rfl⟩ ⟨_, e2, rfl⟩ noFill_list_add seq_list_add PySem.F.slot_list_add PySem.F.entry_list_add (PySem.F.args_list_add_2 _ _) (PyProof.Rows.list_addW l b its.toArray its2.toArray n1 n2 d1 d2 sl1 sl2 (by rw [List.size_toArray, List.size_toArray]; omega)) ⟨e1, e2, ?_⟩
  have ea : its.toArray ++ its2.toArray = (its ++ its2).toArray := by simp
  rw [ea]
  exact ⟨.ref _, _, I.lnew (t' := s.toks) (r.append r2) (by rw [List.length_append]; omega), rfl, q _ I.fresh⟩

/-! ### op2 -/
def rOp (K : PySem.W.Frag) (o : Op2) : R2 := fun x y H Q => ∃ S P dx dy dz, Held H P ∧ Rq K H S P x dx ∧ Rq K H S P y dy ∧ op2V o dx dy = some dz ∧ Gv K H P dz Q
theorem lexLt_eq : ∀ a b : List Int, lexLt a b = HT.lexLt a b
  | [], [] => rfl
  | [], _ :: _ => rfl
  | _ :: _, [] => rfl
  | x :: xs, y :: ys => by
    unfold lexLt HT.lexLt
    rw [lexLt_eq xs ys]
theorem mulOk_ok {i j : Int} (h : mulOk i j = true) : IntMulOk i j := by
  unfold mulOk at h
  simp only [Bool.or_eq_true, decide_eq_true_eq] at h
  rcases h with (h | h) | h
  · exact .of_left (intBits_le h)
  · exact .of_right (intBits_le h)
  · exact CMulX.ok (by unfold CMulX; omega)
theorem shaped_and {x y : PyData} (h : (SeqAt.shaped x && SeqAt.shaped y) = true) : SeqAt.shaped x = true ∧ SeqAt.shaped y = true := Bool.and_eq_true_iff.mp h
theorem shaped_lay {x : PyData} (h : SeqAt.shaped x = true) : x.canLay0 = true := SeqAt.canLay_of_shaped h
theorem if_some {α : Type} {c : Bool} {a b : α} (h : (if c = true then some a else none) = some b) : c = true ∧ a = b := by
  cases c with
  | true => exact ⟨rfl, Option.some.inj h⟩
  | false => cases h
theorem op_add : OpR X (binaryOp .Add) (rOp X.K .add) := by
  intro pins s σ H x y v u Q I rx ry h
  obtain ⟨S, P, dx, dy, dz, hp, hx, hy, e, g⟩ := h
  have e : addV dx dy = some dz := e
  unfold addV at e
  split at e <;> first | cases e | skip
  · obtain rfl := hx.int
    obtain rfl := hy.int
    exact L2.op_add pins s σ H _ _ v u Q I rx ry ⟨_, _, rfl, rfl, g.int⟩
  · obtain ⟨z, rfl⟩ := if_some e
    obtain rfl := hx.str
    obtain rfl := hy.str
    exact L2.op_add_str pins s σ H _ _ v u Q I rx ry ⟨_, _, rfl, rfl, of_decide_eq_true z, g.str⟩
  · obtain ⟨z, rfl⟩ := if_some e
    obtain ⟨a, xs, rfl, l1, z1, r1⟩ := hx.list
    obtain ⟨b, ys, rfl, l2, z2, r2⟩ := hy.list
    have zz : xs.length + ys.length ≤ sizeLine := by rw [r1.length, r2.length]; exact of_decide_eq_true z
    exact op_catL pins s σ H _ _ v u Q I rx ry ⟨a, b, xs, ys, rfl, rfl, l1.sq, l2.sq, zz, fun p np => g.nlist hp np (r1.append r2) (by rw [List.length_append]; exact zz)⟩
  · obtain ⟨z, rfl⟩ := if_some e
    obtain ⟨a, xs, rfl, l1, z1, r1⟩ := hx.tuple
    obtain ⟨b, ys, rfl, l2, z2, r2⟩ := hy.tuple
    have zz : xs.length + ys.length ≤ sizeLine := by rw [r1.length, r2.length]; exact of_decide_eq_true z
    refine op_catA pins s σ H _ _ v u Q I rx ry ⟨a, b, xs, ys, rfl, rfl, l1, l2, zz, fun e0 => ?_, fun _ e0 => ?_, fun _ _ p np => g.ntup np (r1.append r2) (by rw [List.length_append]; exact zz)⟩
    · subst e0
      cases r1
      exact g _ _ Kp.refl (.tup l2 z2 r2)
    · subst e0
      cases r2
      rw [List.append_nil] at g
      exact g _ _ Kp.refl (.tup l1 z1 r1)
theorem op_sub : OpR X (binaryOp .Sub) (rOp X.K .sub) := by
  intro pins s σ H x y v u Q I rx ry h
  obtain ⟨S, P, dx, dy, dz, hp, hx, hy, e, g⟩ := h
  have e : subV dx dy = some dz := e
  unfold subV at e
  split at e <;> first | cases e | skip
  obtain rfl := hx.int
  obtain rfl := hy.int
  exact L2.op_sub pins s σ H _ _ v u Q I rx ry ⟨_, _, rfl, rfl, g.int⟩
theorem tuple_mul1 (l : Addr) (items : Array Value) (n : Nat) (dd : Option Addr) (sl : Array (Option Value)) (u : Tok) :
    Meets (Builtin.«tuple.__mul__» ⟨[.ref l, .int 1 u], []⟩) (fun _ R s => s.heap.get? l = some { cls := .type "tuple", dict := dd, data := .seq items n, slots := sl } ∧ R (.ok (.ret (Value.ref l))) s) :=
  .of_wp fun prog w A R s h => by
    obtain ⟨hp, g, d, tk, os⟩ := s
    obtain ⟨hl, h⟩ := h
    have f1 := AutoSeq1.idx_int
    have c0 : (decide ((1 : Int) < -(2 ^ 63)) || decide ((1 : Int) ≥ 2 ^ 63)) = false := by decide
    have c1 : (items.isEmpty || (1 : Int) == 1) = true := by simp
    wp_walk using wpAny_loadPart' hl
    repeat (first
      | (refine wpAny_ite_false (decide_eq_false (by rw [c0]; exact Bool.false_ne_true)) ?_; wp_walk using wpAny_loadPart' hl)
      | (refine wpAny_ite_true (decide_eq_true (by rw [c1])) ?_; wp_walk using wpAny_loadPart' hl))
    exact ⟨_, rfl, h⟩
theorem op_mul : OpR X (binaryOp .Mult) (rOp X.K .mul) := by
  intro pins s σ H x y v u Q I rx ry h
  obtain ⟨S, P, dx, dy, dz, hp, hx, hy, e, g⟩ := h
  have e : mulV dx dy = some dz := e
  unfold mulV at e
  split at e <;> first | cases e | skip
  · obtain ⟨z, rfl⟩ := if_some e
    obtain rfl := hx.int
    obtain rfl := hy.int
    obtain ⟨t, rfl⟩ := rx
    obtain ⟨t', rfl⟩ := ry
    exact mul_int ⟨.int _, H, I.tok _, ⟨_, rfl⟩, g.int⟩ (mulOk_ok z)
  · rename_i ds k _e0
    obtain ⟨z, rfl⟩ := if_some e
    simp only [Bool.and_eq_true, decide_eq_true_eq, Bool.not_eq_true', List.isEmpty_eq_false_iff] at z
    obtain ⟨⟨⟨z1, z2⟩, z3⟩, z4⟩ := z
    obtain rfl := hy.int
    obtain ⟨a, xs, rfl, l1, zz, r1⟩ := hx.tuple
    have hl := r1.length
    have hne : xs ≠ [] := fun q => z1 (by
      rw [q] at hl
      exact List.eq_nil_of_length_eq_zero hl.symm)
    by_cases h1 : k = 1
    · subst h1
      cases rx
      obtain ⟨t, rfl⟩ := ry
      obtain ⟨its, r, ⟨⟨cls, dd, data, sl⟩, ho, hc, n, hd⟩, hs⟩ := I.tuple l1
      simp only at hc hd
      subst hc hd
      refine wpAny_binaryOp_repeat_ref (T := "tuple") (U := "int") (by decide) ⟨_, ho, rfl⟩ (fun s' => typeIs_int s' 1 t) noFill_tuple_mul F.fills_int_mul F.slot_int_rmul repeat_tuple F.slot_int_index.lookup
        (call_meets F.slot_int_rmul (typeIs_int s 1 t) F.entry_int_rmul (F.args_int_rmul_2 _ _) (int_rmul_tuple 1 t a its.toArray n dd sl)
          ⟨ho, rfl, ⟨_, ho, rfl⟩, call_meets F.slot_tuple_mul ⟨_, ho, rfl⟩ F.entry_tuple_mul (F.args_tuple_mul_2 _ _) (tuple_mul1 a its.toArray n dd sl t) ⟨ho, .ref a, H, I, rfl, ?_⟩⟩)
      have e1 : (List.replicate (1 : Int).toNat ds).flatten = ds := by simp
      rw [e1] at g
      exact g _ _ Kp.refl (.tup l1 zz r1)
    · exact op_repT pins s σ H _ _ v u Q I rx ry ⟨a, k, xs, rfl, rfl, l1, hne, by omega, z3, by omega, fun p np => g.ntup np (RpL.rep r1 k.toNat) (by
        rw [PyProof.Rows.lm_len_rep_flat, sizeLine_eq]
        have a1 : k.toNat * xs.length ≤ 1000 * 1000 := Nat.mul_le_mul (by omega) (by omega)
        omega)⟩
theorem op_fdiv : OpR X (binaryOp .FloorDiv) (rOp X.K .fdiv) := by
  intro pins s σ H x y v u Q I rx ry h
  obtain ⟨S, P, dx, dy, dz, hp, hx, hy, e, g⟩ := h
  have e : fdivV dx dy = some dz := e
  unfold fdivV at e
  split at e <;> first | cases e | skip
  obtain ⟨z, rfl⟩ := if_some e
  simp only [Bool.and_eq_true, decide_eq_true_eq] at z
  obtain rfl := hx.int
  obtain rfl := hy.int
  obtain ⟨t, rfl⟩ := rx
  obtain ⟨t', rfl⟩ := ry
  exact floordiv_int z.1 ⟨.int _, H, I.tok _, ⟨_, rfl⟩, g.int⟩ (.inl (PyProof.noPylong_of_log2 z.2))
theorem op_mod : OpR X (binaryOp .Mod) (rOp X.K .mod) := by
  intro pins s σ H x y v u Q I rx ry h
  obtain ⟨S, P, dx, dy, dz, hp, hx, hy, e, g⟩ := h
  have e : modV dx dy = some dz := e
  unfold modV at e
  split at e <;> first | cases e | skip
  obtain ⟨z, rfl⟩ := if_some e
  obtain rfl := hx.int
  obtain rfl := hy.int
  exact L2.op_modN pins s σ H _ _ v u Q I rx ry ⟨_, _, rfl, rfl, of_decide_eq_true z, g.int⟩
theorem op_pow : OpR X (binaryOp .Pow) (rOp X.K .pow) := by
  intro pins s σ H x y v u Q I rx ry h
  obtain ⟨S, P, dx, dy, dz, hp, hx, hy, e, g⟩ := h
  have e : powV dx dy = some dz := e
  unfold powV at e
  split at e <;> first | cases e | skip
  obtain ⟨z, rfl⟩ := if_some e
  simp only [Bool.and_eq_true, decide_eq_true_eq] at z
  obtain rfl := hx.int
  obtain rfl := hy.int
  exact L2.op_pow pins s σ H _ _ v u Q I rx ry ⟨_, _, rfl, rfl, ⟨z.1.1, z.1.2, z.2⟩, g.int⟩
theorem op_eq (hu : X.A.units + 64 < cLine) : OpR X (compareOp .Eq) (rOp X.K .eq) := by
  intro pins s σ H x y v u Q I rx ry h
  obtain ⟨S, P, dx, dy, dz, hp, hx, hy, e, g⟩ := h
  have e : eqV dx dy = some dz := e
  unfold eqV at e
  obtain ⟨z, rfl⟩ := if_some e
  obtain ⟨s1, s2⟩ := shaped_and z
  exact L2.op_eqD hu pins s σ H _ _ v u Q I rx ry ⟨_, _, hx.dp (shaped_lay s1), hy.dp (shaped_lay s2), s1, s2, g.bl⟩
theorem op_ne (hu : X.A.units + 64 < cLine) : OpR X (compareOp .NotEq) (rOp X.K .ne) := by
  intro pins s σ H x y v u Q I rx ry h
  obtain ⟨S, P, dx, dy, dz, hp, hx, hy, e, g⟩ := h
  have e : neV dx dy = some dz := e
  unfold neV at e
  obtain ⟨z, rfl⟩ := if_some e
  obtain ⟨s1, s2⟩ := shaped_and z
  exact L2.op_neD hu pins s σ H _ _ v u Q I rx ry ⟨_, _, hx.dp (shaped_lay s1), hy.dp (shaped_lay s2), s1, s2, g.bl⟩
theorem op_lt (hu : X.A.units + 64 < cLine) : OpR X (compareOp .Lt) (rOp X.K .lt) := by
  intro pins s σ H x y v u Q I rx ry h
  obtain ⟨S, P, dx, dy, dz, hp, hx, hy, e, g⟩ := h
  have e : ltV dx dy = some dz := e
  unfold ltV at e
  split at e <;> first | cases e | skip
  · obtain rfl := hx.int
    obtain rfl := hy.int
    exact L2.op_lt pins s σ H _ _ v u Q I rx ry ⟨_, _, rfl, rfl, g.bl⟩
  · simp only [Option.bind_eq_some_iff, Option.map_eq_some_iff] at e
    obtain ⟨ns, e1, ms, e2, rfl⟩ := e
    obtain ⟨a, xs, rfl, l1, z1, r1⟩ := hx.tuple
    obtain ⟨b, ys, rfl, l2, z2, r2⟩ := hy.tuple
    have q1 := RpL.ints _ _ _ r1 e1
    have q2 := RpL.ints _ _ _ r2 e2
    subst q1 q2
    rw [lexLt_eq] at g
    exact L2.op_ltT (by omega) pins s σ H _ _ v u Q I rx ry ⟨a, b, ns, ms, rfl, rfl, l1, l2, g.bl⟩
theorem op_le : OpR X (compareOp .LtE) (rOp X.K .le) := by
  intro pins s σ H x y v u Q I rx ry h
  obtain ⟨S, P, dx, dy, dz, hp, hx, hy, e, g⟩ := h
  have e : leV dx dy = some dz := e
  unfold leV at e
  split at e <;> first | cases e | skip
  obtain rfl := hx.int
  obtain rfl := hy.int
  exact L2.op_le pins s σ H _ _ v u Q I rx ry ⟨_, _, rfl, rfl, g.bl⟩
theorem op_gt : OpR X (compareOp .Gt) (rOp X.K .gt) := by
  intro pins s σ H x y v u Q I rx ry h
  obtain ⟨S, P, dx, dy, dz, hp, hx, hy, e, g⟩ := h
  have e : gtV dx dy = some dz := e
  unfold gtV at e
  split at e <;> first | cases e | skip
  obtain rfl := hx.int
  obtain rfl := hy.int
  exact L2.op_gt pins s σ H _ _ v u Q I rx ry ⟨_, _, rfl, rfl, g.bl⟩
theorem op_ge : OpR X (compareOp .GtE) (rOp X.K .ge) := by
  intro pins s σ H x y v u Q I rx ry h
  obtain ⟨S, P, dx, dy, dz, hp, hx, hy, e, g⟩ := h
  have e : geV dx dy = some dz := e
  unfold geV at e
  split at e <;> first | cases e | skip
  obtain rfl := hx.int
  obtain rfl := hy.int
  exact L2.op_ge pins s σ H _ _ v u Q I rx ry ⟨_, _, rfl, rfl, g.bl⟩
theorem asSeq_some {d : PyData} {ds : List PyData} (h : asSeq d = some ds) : d = .list ds ∨ d = .tuple ds := by
  cases d with
  | list xs => exact .inl (congrArg _ (Option.some.inj h))
  | tuple xs => exact .inr (congrArg _ (Option.some.inj h))
  | none => cases h
  | bool b => cases h
  | int b => cases h
  | str b => cases h
  | dict b => cases h
theorem op_in (hu : X.A.units + 65 < cLine) : OpR X (compareOp .In) (rOp X.K .inn) := by
  intro pins s σ H x y v u Q I rx ry h
  obtain ⟨S, P, dx, dy, dz, hp, hx, hy, e, g⟩ := h
  have e : R.inV dx dy = some dz := e
  unfold R.inV at e
  simp only [Option.bind_eq_some_iff] at e
  obtain ⟨ds, e1, e2⟩ := e
  obtain ⟨z, rfl⟩ := if_some e2
  obtain ⟨s1, s2⟩ := shaped_and z
  obtain ⟨as, q1⟩ := Dp.reads I _ x v (hx.dp (shaped_lay s1)) rx
  obtain ⟨bs, q2⟩ := Dp.reads I _ y u (hy.dp (shaped_lay s2)) ry
  rcases asSeq_some e1 with rfl | rfl
  · exact SeqAt.in_list_reads q2 q1 (shaped_lay s2) (shaped_lay s1) (room_in_shaped s1 hu) ⟨.bl _, H, I, rfl, g.bl⟩
  · exact SeqAt.in_tuple_reads q2 q1 (shaped_lay s2) (shaped_lay s1) (room_in_shaped s1 hu) ⟨.bl _, H, I, rfl, g.bl⟩
theorem op_nin (hu : X.A.units + 65 < cLine) : OpR X (compareOp .NotIn) (rOp X.K .nin) := by
  intro pins s σ H x y v u Q I rx ry h
  obtain ⟨S, P, dx, dy, dz, hp, hx, hy, e, g⟩ := h
  have e : R.ninV dx dy = some dz := e
  unfold R.ninV at e
  simp only [Option.bind_eq_some_iff] at e
  obtain ⟨ds, e1, e2⟩ := e
  obtain ⟨z, rfl⟩ := if_some e2
  obtain ⟨s1, s2⟩ := shaped_and z
  obtain ⟨as, q1⟩ := Dp.reads I _ x v (hx.dp (shaped_lay s1)) rx
  obtain ⟨bs, q2⟩ := Dp.reads I _ y u (hy.dp (shaped_lay s2)) ry
  rcases asSeq_some e1 with rfl | rfl
  · exact SeqAt.notIn_list_reads q2 q1 (shaped_lay s2) (shaped_lay s1) (room_in_shaped s1 hu) ⟨.bl _, H, I, rfl, g.bl⟩
  · exact SeqAt.notIn_tuple_reads q2 q1 (shaped_lay s2) (shaped_lay s1) (room_in_shaped s1 hu) ⟨.bl _, H, I, rfl, g.bl⟩
theorem op_isB : OpR X (compareOp .Is) (rOp X.K .is) := by
  intro pins s σ H x y v u Q I rx ry h
  obtain ⟨S, P, dx, dy, dz, hp, hx, hy, e, g⟩ := h
  have e : isV dx dy = some dz := e
  unfold isV at e
  split at e <;> first | cases e | skip
  obtain rfl := hx.bl
  obtain rfl := hy.bl
  exact L2.op_isBl pins s σ H _ _ v u Q I rx ry ⟨_, _, rfl, rfl, g.bl⟩
theorem op_nisB : OpR X (compareOp .IsNot) (rOp X.K .nis) := by
  intro pins s σ H x y v u Q I rx ry h
  obtain ⟨S, P, dx, dy, dz, hp, hx, hy, e, g⟩ := h
  have e : nisV dx dy = some dz := e
  unfold nisV at e
  split at e <;> first | cases e | skip
  obtain rfl := hx.bl
  obtain rfl := hy.bl
  exact L2.op_notBl pins s σ H _ _ v u Q I rx ry ⟨_, _, rfl, rfl, g.bl⟩
/-- which operator of the language it is -/
def binOf : Op2 → Option Operator
  | .add => some .Add
  | .sub => some .Sub
  | .mul => some .Mult
  | .fdiv => some .FloorDiv
  | .mod => some .Mod
  | .pow => some .Pow
  | _ => none
def cmpOf : Op2 → Option CmpOp
  | .eq => some .Eq
  | .ne => some .NotEq
  | .lt => some .Lt
  | .le => some .LtE
  | .gt => some .Gt
  | .ge => some .GtE
  | .inn => some .In
  | .nin => some .NotIn
  | .is => some .Is
  | .nis => some .IsNot
  | _ => none
theorem bin_ok {o : Op2} {p : Operator} (h : binOf o = some p) : OpR X (binaryOp p) (rOp X.K o) := by
  cases o <;> first | cases h | skip
  · exact op_add
  · exact op_sub
  · exact op_mul
  · exact op_fdiv
  · exact op_mod
  · exact op_pow
theorem cmp_ok {o : Op2} {p : CmpOp} (hu : X.A.units + 65 < cLine) (h : cmpOf o = some p) : OpR X (compareOp p) (rOp X.K o) := by
  have hu' : X.A.units + 64 < cLine := by omega
  cases o <;> first | cases h | skip
  · exact op_eq hu'
  · exact op_ne hu'
  · exact op_lt hu'
  · exact op_le
  · exact op_gt
  · exact op_ge
  · exact op_in hu
  · exact op_nin hu
  · exact op_isB
  · exact op_nisB
end R
end
section
/-! Items, slices, built-ins by values. -/
namespace R
open PySem L2
open PySem.Spec PyProof.Rows
variable {X : Cx}
theorem at_atI {α : Type} (xs : List α) (i : Int) : atI xs i = at? xs i := by
  unfold atI at? ixN
  by_cases h : 0 ≤ i
  · rw [if_pos h, if_pos h]
    by_cases h2 : i < xs.length
    · rw [if_pos h2]
      rfl
    · rw [if_neg h2, List.getElem?_eq_none (by omega)]
      rfl
  · rw [if_neg h, if_neg h]
    by_cases h2 : -(xs.length : Int) ≤ i
    · rw [if_pos h2, if_pos h2]
      rfl
    · rw [if_neg h2, if_neg h2]
      rfl
theorem RpL.at {K : PySem.W.Frag} {H : Hp} {P : AO} {vs : List V} {ds : List PyData} {i : Int} {d : PyData} (r : RpL K H P vs ds) (h : at? ds i = some d) : ∃ v, atI vs i = some v ∧ Rp K H P v d := by
  rw [at_atI]
  unfold at? at h ⊢
  rw [r.length]
  split
  · rename_i h1
    rw [if_pos h1] at h
    exact r.get h
  · rename_i h1
    rw [if_neg h1] at h
    split
    · rename_i h2
      rw [if_pos h2] at h
      exact r.get h
    · rename_i h2
      rw [if_neg h2] at h
      cases h
def rIxD (K : PySem.W.Frag) : R2 := fun x y H Q => ∃ S P dx dy dz, Rq K H S P x dx ∧ Rq K H S P y dy ∧ ixV dx dy = some dz ∧ Gv K H P dz Q
theorem ix_d : IxR X (rIxD X.K) := by
  intro value slice pins s σ H x y v u Q I rx ry h hs
  obtain ⟨S, P, dx, dy, dz, hx, hy, e, g⟩ := h
  unfold ixV at e
  split at e <;> first | cases e | skip
  · obtain rfl := hy.int
    obtain ⟨a, xs, rfl, l, z, r⟩ := hx.list
    obtain ⟨v', e1, e2⟩ := r.at e
    exact ix_list value slice pins s σ H _ _ v u Q I rx ry ⟨a, xs, _, v', rfl, rfl, l.sq, e1, g _ _ Kp.refl e2⟩ hs
  · obtain rfl := hy.int
    obtain ⟨a, xs, rfl, l, z, r⟩ := hx.tuple
    obtain ⟨v', e1, e2⟩ := r.at e
    exact ix_tup value slice pins s σ H _ _ v u Q I rx ry ⟨a, xs, _, v', rfl, rfl, l, e1, g _ _ Kp.refl e2⟩ hs
/-- an item of a well -/
def rIxW : R2 := fun x y H Q => ∃ (a : Addr) (ns : List Int) (i : Int) (k : Int), x = .ref a ∧ y = .int i ∧ H a = some (.lst (ns.map V.int)) ∧ 0 ≤ i ∧ ns[i.toNat]? = some k ∧ Q (.int k) H
theorem ix_w : IxR X rIxW := by
  intro value slice pins s σ H x y v u Q I rx ry h hs
  obtain ⟨a, ns, i, k, rfl, rfl, e, h0, h1, q⟩ := h
  refine ix_list value slice pins s σ H _ _ v u Q I rx ry ⟨a, _, i, .int k, rfl, rfl, .of e, ?_, q⟩ hs
  rw [at_atI]
  unfold at?
  rw [if_pos h0, List.getElem?_map, h1]
  rfl
theorem slIx_eq (n d : Nat) (o : Option Int) : HT.sIx n d o = slIx n d o := by
  cases o with
  | none => rfl
  | some v => rfl
theorem cutV_eq (xs : List V) (lo hi : Option Int) : cutV xs lo hi = cut xs lo hi := by
  unfold cutV cut
  rw [slIx_eq, slIx_eq]
theorem RpL.cut {K : PySem.W.Frag} {H : Hp} {P : AO} {vs : List V} {ds : List PyData} {lo hi : Option Int} (r : RpL K H P vs ds) : RpL K H P (R.cut vs lo hi) (R.cut ds lo hi) := by
  unfold R.cut
  rw [r.length]
  exact (r.drop _).take _
theorem cut_le {α : Type} (xs : List α) (lo hi : Option Int) : (cut xs lo hi).length ≤ xs.length := by
  unfold cut
  rw [List.length_take, List.length_drop]
  omega
theorem cut_all {α : Type} {xs : List α} {lo hi : Option Int} (h : slIx xs.length 0 lo = 0 ∧ slIx xs.length xs.length hi = xs.length) : cut xs lo hi = xs := by
  unfold cut
  rw [h.1, h.2, List.drop_zero, Nat.sub_zero, List.take_length]
def rSlD (K : PySem.W.Frag) : V → Option Int → Option Int → Hp → VK → Prop := fun x lo hi H Q => ∃ S P dx dz, Held H P ∧ Rq K H S P x dx ∧ slV dx lo hi = some dz ∧ Gv K H P dz Q
theorem sl_d : SlR X (rSlD X.K) := by
  intro pins s σ H x v vl vu lo hi sl Q I rx hs pl pu h
  obtain ⟨S, P, dx, dz, hp, hx, e, g⟩ := h
  unfold slV at e
  split at e <;> first | cases e | skip
  · obtain ⟨a, xs, rfl, l, z, r⟩ := hx.list
    refine sl_list pins s σ H _ v vl vu lo hi sl Q I rx hs pl pu ⟨a, xs, rfl, l.sq, fun p np => ?_⟩
    rw [cutV_eq]
    exact g.nlist hp np r.cut (Nat.le_trans (cut_le _ _ _) z)
  · obtain ⟨a, xs, rfl, l, z, r⟩ := hx.tuple
    refine sl_tupA pins s σ H _ v vl vu lo hi sl Q I rx hs pl pu ⟨a, xs, rfl, l, fun hw => ?_, fun _ p np => ?_⟩
    · rw [slIx_eq, slIx_eq] at hw
      have e1 : R.cut xs lo hi = xs := cut_all hw
      have rc := r.cut (lo := lo) (hi := hi)
      rw [e1] at rc
      exact g _ _ Kp.refl (.tup l z rc)
    · rw [cutV_eq]
      exact g.ntup np r.cut (Nat.le_trans (cut_le _ _ _) z)
/-! ### built-ins -/
inductive RqL (K : PySem.W.Frag) (H : Hp) (S P : AO) : List V → List PyData → Prop
  | nil : RqL K H S P [] []
  | cons {v : V} {vs : List V} {d : PyData} {ds : List PyData} (h : Rq K H S P v d) (t : RqL K H S P vs ds) : RqL K H S P (v :: vs) (d :: ds)
theorem RqL.cr {K : PySem.W.Frag} {H H' : Hp} {S P S' P' : AO} (c : Cr H P H' P') (k : Cr H S H' S') : ∀ {vs : List V} {ds : List PyData}, RqL K H S P vs ds → RqL K H' S' P' vs ds
  | _, _, .nil => .nil
  | _, _, .cons h t => .cons (h.cr c k) (t.cr c k)
def rBi (K : PySem.W.Frag) (f : Bi) : List V → Hp → VK → Prop := fun xs H Q => ∃ S P ds d, Held H P ∧ RqL K H S P xs ds ∧ biV f ds = some d ∧ Gv K H P d Q
def biOf : Bi → Option Value
  | .len => some (.builtin "len")
  | .all => some (.builtin "all")
  | .any => some (.builtin "any")
  | .tuple => some (.type "tuple")
  | .list => some (.type "list")
  | .sorted => some (.builtin "sorted")
  | .sum => some (.builtin "sum")
  | .max => some (.builtin "max")
  | .min => some (.builtin "min")
  | .abs => some (.builtin "abs")
  | .int => some (.type "int")
  | .repr => some (.builtin "repr")
  | .str => none
  | .divmod => some (.builtin "divmod")
  | .gcd => some (.builtin "math.gcd")
  | .factorial => none
  | .combos => none
theorem bi1 {f : Bi} {K : PySem.W.Frag} {H : Hp} {S P : AO} {xs : List V} {d : PyData} (h : RqL K H S P xs [d]) : ∃ x, xs = [x] ∧ Rq K H S P x d := by
  cases h with
  | cons h t =>
    cases t
    exact ⟨_, rfl, h⟩
theorem bi2 {f : Bi} {K : PySem.W.Frag} {H : Hp} {S P : AO} {xs : List V} {d e : PyData} (h : RqL K H S P xs [d, e]) : ∃ x y, xs = [x, y] ∧ Rq K H S P x d ∧ Rq K H S P y e := by
  cases h with
  | cons h t =>
    cases t with
    | cons h2 t2 =>
      cases t2
      exact ⟨_, _, rfl, h, h2⟩
theorem Rq.seq {K : PySem.W.Frag} {H : Hp} {S P : AO} {x : V} {d : PyData} {ds : List PyData} (h : Rq K H S P x d) (e : asSeq d = some ds) : ∃ a xs, x = .ref a ∧ (SqL K H a xs ∨ SqT K H a xs) ∧ xs.length ≤ sizeLine ∧ RpL K H P xs ds := by
  rcases asSeq_some e with rfl | rfl
  · obtain ⟨a, xs, h1, h2, h3, h4⟩ := h.list
    exact ⟨a, xs, h1, .inl h2.sq, h3, h4⟩
  · obtain ⟨a, xs, h1, h2, h3, h4⟩ := h.tuple
    exact ⟨a, xs, h1, .inr h2, h3, h4⟩
theorem maxL_mem : ∀ (l : List Int) (m : Int), maxL m l ∈ m :: l ∧ ∀ y ∈ m :: l, y ≤ maxL m l
  | [], m => ⟨by simp [maxL], by simp [maxL]⟩
  | x :: r, m => by
    obtain ⟨h1, h2⟩ := maxL_mem r (if x > m then x else m)
    unfold maxL
    by_cases c : x > m
    · rw [if_pos c] at h1 h2 ⊢
      refine ⟨List.mem_cons_of_mem _ h1, fun y hy => ?_⟩
      rcases List.mem_cons.mp hy with rfl | hy
      · have := h2 x List.mem_cons_self
        omega
      · exact h2 y hy
    · rw [if_neg c] at h1 h2 ⊢
      refine ⟨?_, fun y hy => ?_⟩
      · rcases List.mem_cons.mp h1 with e | e
        · rw [e]
          exact List.mem_cons_self
        · exact List.mem_cons_of_mem _ (List.mem_cons_of_mem _ e)
      · rcases List.mem_cons.mp hy with rfl | hy
        · exact h2 _ List.mem_cons_self
        · rcases List.mem_cons.mp hy with rfl | hy
          · have := h2 m List.mem_cons_self
            omega
          · exact h2 y (List.mem_cons_of_mem _ hy)
theorem minL_mem : ∀ (l : List Int) (m : Int), minL m l ∈ m :: l ∧ ∀ y ∈ m :: l, minL m l ≤ y
  | [], m => ⟨by simp [minL], by simp [minL]⟩
  | x :: r, m => by
    obtain ⟨h1, h2⟩ := minL_mem r (if x < m then x else m)
    unfold minL
    by_cases c : x < m
    · rw [if_pos c] at h1 h2 ⊢
      refine ⟨List.mem_cons_of_mem _ h1, fun y hy => ?_⟩
      rcases List.mem_cons.mp hy with rfl | hy
      · have := h2 x List.mem_cons_self
        omega
      · exact h2 y hy
    · rw [if_neg c] at h1 h2 ⊢
      refine ⟨?_, fun y hy => ?_⟩
      · rcases List.mem_cons.mp h1 with e | e
        · rw [e]
          exact List.mem_cons_self
        · exact List.mem_cons_of_mem _ (List.mem_cons_of_mem _ e)
      · rcases List.mem_cons.mp hy with rfl | hy
        · exact h2 _ List.mem_cons_self
        · rcases List.mem_cons.mp hy with rfl | hy
          · have := h2 m List.mem_cons_self
            omega
          · exact h2 y (List.mem_cons_of_mem _ hy)
theorem insI_perm (x : Int) : ∀ l : List Int, (insI x l).Perm (x :: l)
  | [] => .refl _
  | y :: r => by
    unfold insI
    split
    · exact .refl _
    · exact ((insI_perm x r).cons y).trans (.swap x y r)
theorem sortI_perm : ∀ l : List Int, (sortI l).Perm l
  | [] => .refl _
  | x :: r => (insI_perm x _).trans ((sortI_perm r).cons x)
theorem insI_srt (x : Int) : ∀ l : List Int, l.Pairwise (· ≤ ·) → (insI x l).Pairwise (· ≤ ·)
  | [], _ => by simp [insI]
  | y :: r, h => by
    unfold insI
    split
    · rename_i c
      refine List.pairwise_cons.mpr ⟨fun z hz => ?_, h⟩
      rcases List.mem_cons.mp hz with rfl | hz
      · exact c
      · exact Int.le_trans c ((List.pairwise_cons.mp h).1 z hz)
    · rename_i c
      obtain ⟨h1, h2⟩ := List.pairwise_cons.mp h
      refine List.pairwise_cons.mpr ⟨fun z hz => ?_, insI_srt x r h2⟩
      rcases List.mem_cons.mp ((insI_perm x r).mem_iff.mp hz) with rfl | hz
      · omega
      · exact h1 z hz
theorem sortI_srt : ∀ l : List Int, (sortI l).Pairwise (· ≤ ·)
  | [] => .nil
  | x :: r => insI_srt x _ (sortI_srt r)
theorem srt_uniq : ∀ {a b : List Int}, a.Perm b → a.Pairwise (· ≤ ·) → b.Pairwise (· ≤ ·) → a = b
  | [], b, p, _, _ => p.nil_eq
  | x :: a, [], p, _, _ => by simp at p
  | x :: a, y :: b, p, ha, hb => by
    obtain ⟨a1, a2⟩ := List.pairwise_cons.mp ha
    obtain ⟨b1, b2⟩ := List.pairwise_cons.mp hb
    have hxy : x = y := by
      have h1 : x ∈ y :: b := p.mem_iff.mp List.mem_cons_self
      have h2 : y ∈ x :: a := p.mem_iff.mpr List.mem_cons_self
      rcases List.mem_cons.mp h1 with e | e
      · exact e
      · rcases List.mem_cons.mp h2 with e' | e'
        · exact e'.symm
        · have := b1 x e
          have := a1 y e'
          omega
    subst hxy
    rw [srt_uniq ((List.perm_cons x).mp p) a2 b2]
theorem asInts_some : ∀ {ds : List PyData} {ns : List Int}, asInts ds = some ns → ds = ns.map PyData.int
  | [], ns, e => by
    have e' : ns = [] := (Option.some.inj e).symm
    subst e'
    rfl
  | .int i :: ds, ns, e => by
    simp only [asInts, Option.map_eq_some_iff] at e
    obtain ⟨r, e1, e2⟩ := e
    subst e2
    rw [List.map_cons, asInts_some e1]
  | .none :: _, _, e => nomatch (show Option.none = some _ from e)
  | .bool _ :: _, _, e => nomatch (show Option.none = some _ from e)
  | .str _ :: _, _, e => nomatch (show Option.none = some _ from e)
  | .list _ :: _, _, e => nomatch (show Option.none = some _ from e)
  | .tuple _ :: _, _, e => nomatch (show Option.none = some _ from e)
  | .dict _ :: _, _, e => nomatch (show Option.none = some _ from e)
theorem asTups_some : ∀ {ds : List PyData} {ts : List (List Int)}, asTups ds = some ts → ds = ts.map fun t => PyData.tuple (t.map PyData.int)
  | [], ts, e => by
    obtain rfl : ts = [] := (Option.some.inj e).symm
    rfl
  | .tuple xs :: ds, ts, e => by
    simp only [asTups, Option.bind_eq_some_iff, Option.map_eq_some_iff] at e
    obtain ⟨a, e1, b, e2, rfl⟩ := e
    rw [List.map_cons, ← asTups_some e2, asInts_some e1]
  | .none :: _, _, e => nomatch (show Option.none = some _ from e)
  | .bool _ :: _, _, e => nomatch (show Option.none = some _ from e)
  | .str _ :: _, _, e => nomatch (show Option.none = some _ from e)
  | .list _ :: _, _, e => nomatch (show Option.none = some _ from e)
  | .int _ :: _, _, e => nomatch (show Option.none = some _ from e)
  | .dict _ :: _, _, e => nomatch (show Option.none = some _ from e)
theorem asInts_map : ∀ ns : List Int, asInts (ns.map PyData.int) = some ns
  | [] => rfl
  | n :: r => by
    simp only [List.map_cons, asInts, asInts_map r]
    rfl
theorem RpL.of_all {K : PySem.W.Frag} {H : Hp} {P : AO} {f : V → PyData} : ∀ {ys : List V}, (∀ y ∈ ys, Rp K H P y (f y)) → RpL K H P ys (ys.map f)
  | [], _ => .nil
  | y :: ys, h => .cons (h y List.mem_cons_self) (RpL.of_all fun z hz => h z (List.mem_cons_of_mem _ hz))
theorem mapInt_inj : ∀ {a b : List Int}, a.map V.int = b.map V.int → a = b
  | [], [], _ => rfl
  | [], _ :: _, h => by simp at h
  | _ :: _, [], h => by simp at h
  | x :: a, y :: b, h => by
    simp only [List.map_cons, List.cons.injEq] at h
    rw [V.int.inj h.1, mapInt_inj h.2]
open Classical in
/-- the ints of the tuple that a value is -/
noncomputable def keyV (K : PySem.W.Frag) (H : Hp) (x : V) : List Int := if h : ∃ ns : List Int, ∃ t, x = .ref t ∧ SqT K H t (ns.map V.int) then h.choose else []
theorem keyV_eq {pins : List (Addr × Obj)} {σ : L2.St} {H : Hp} {s : Shared} {t : Addr} {ns : List Int} (I : L2.Inv X pins σ H s) (h : SqT X.K H t (ns.map V.int)) : keyV X.K H (.ref t) = ns := by
  unfold keyV
  have e : ∃ ns : List Int, ∃ u, V.ref t = .ref u ∧ SqT X.K H u (ns.map V.int) := ⟨ns, t, rfl, h⟩
  rw [dif_pos e]
  obtain ⟨u, e1, e2⟩ := e.choose_spec
  cases e1
  exact mapInt_inj (I.tuple_inj e2 h)
theorem keysOf {pins : List (Addr × Obj)} {σ : L2.St} {H : Hp} {s : Shared} {P : AO} (I : L2.Inv X pins σ H s) : ∀ {ts : List (List Int)} {zs : List V}, RpL X.K H P zs (ts.map fun t => PyData.tuple (t.map PyData.int)) →
    ∃ k : V → List Int, zs.map k = ts ∧ ∀ x ∈ zs, (∃ t, x = V.ref t ∧ SqT X.K H t ((k x).map V.int)) ∧ Rp X.K H P x (.tuple ((k x).map PyData.int)) := by
  intro ts zs h
  refine ⟨keyV X.K H, ?_⟩
  induction ts generalizing zs with
  | nil =>
    cases h
    exact ⟨rfl, by simp⟩
  | cons t ts ih =>
    cases h with
    | @cons v vs d ds r rr =>
      obtain ⟨i1, i2⟩ := ih rr
      cases r with
      | @tup a xs ds hq hz hd =>
        obtain rfl := RpL.ints _ _ _ hd (asInts_map t)
        have e := keyV_eq I hq
        refine ⟨by rw [List.map_cons, i1, e], fun x hx => ?_⟩
        rcases List.mem_cons.mp hx with rfl | hx
        · rw [e]
          exact ⟨⟨a, rfl, hq⟩, .tup hq hz hd⟩
        · exact i2 x hx
theorem unV {α β : Type} {F : α → β → Prop} {x : α} {us : List β} (h : Paired F [x] us) : ∃ u, us = [u] ∧ F x u := by
  cases h with
  | cons a t =>
    cases t
    exact ⟨_, rfl, a⟩
theorem bi_repr (hg : X.A.guards = some []) (hu : X.A.units + 65 < cLine) : CallR X (.builtin "repr") (rBi X.K .repr) := by
  intro pins s σ H xs us Q I r h
  obtain ⟨S, P, ds, d, hp, hl, e, g⟩ := h
  unfold biV at e
  split at e <;> first | contradiction | skip
  rename_i x _
  obtain ⟨z, rfl⟩ := if_some e
  unfold showOk at z
  simp only [Bool.and_eq_true, decide_eq_true_eq] at z
  obtain ⟨⟨⟨z0, z1⟩, z2⟩, z3⟩ := z
  have z3 : x.shown.length ≤ sizeLine := of_decide_eq_true z3
  obtain ⟨y, rfl, hx⟩ := bi1 (f := .repr) hl
  obtain ⟨u, rfl, ru⟩ := unV r
  obtain ⟨as, q⟩ := Dp.reads I _ y u (hx.dp z0) ru
  have fin : ∀ tk u', EP X pins σ Q (.str x.shown u') { s with toks := tk } := fun tk u' => ⟨.str _, H, I.tok _, ⟨_, rfl⟩, g.str⟩
  have ref : ∀ a, u = .ref a → wpAny (model X.prog X.w) X.A (call (.builtin "repr") [u]) (EP X pins σ Q) X.xe s := by
    intro a ea
    subst ea
    exact PySem.repr_of_reads' q z1 (PyData.noDict_hsm (PyData.hasDict_of_canLay x z0)) hg (by omega) (fun _ _ e => e) (fun h' u tk hk => ⟨.str _, H, I.kept (t' := tk) hk, ⟨_, rfl⟩, g.str⟩) z3
  cases x with
  | none =>
    obtain rfl := hx.non
    cases ru
    exact PySem.P.repr_of_none (fin _ _)
  | bool b =>
    obtain rfl := hx.bl
    cases ru
    exact PySem.P.repr_of_bool (fin _ _)
  | int i =>
    obtain rfl := hx.int
    obtain ⟨t, rfl⟩ := ru
    exact PySem.P.repr_of_int (of_decide_eq_true z1) (fin _ _)
  | str i =>
    obtain rfl := hx.str
    obtain ⟨t, rfl⟩ := ru
    exact PySem.P.repr_of_str (fin _ _) z3
  | list l =>
    obtain ⟨a, xs, rfl, _⟩ := hx.list
    exact ref a ru
  | tuple l =>
    obtain ⟨a, xs, rfl, _⟩ := hx.tuple
    exact ref a ru
  | dict l => exact absurd z0 (by simp [PyData.canLay0])
theorem bi_ok {f : Bi} {v : Value} (hc : X.calm = true) (hg : X.A.guards = some []) (hu : X.A.units + 65 < cLine) (h : biOf f = some v) : CallR X v (rBi X.K f) := by
  cases f <;> first | cases h | skip
  case repr => exact bi_repr hg hu
  all_goals
    intro pins s σ H xs us Q I r h
    obtain ⟨S, P, ds, d, hp, hl, e, g⟩ := h
    unfold biV at e
    split at e <;> first | contradiction | skip
  · simp only [Option.map_eq_some_iff] at e
    obtain ⟨ys, e1, rfl⟩ := e
    obtain ⟨y, rfl, hx⟩ := bi1 (f := .len) hl
    obtain ⟨a, zs, rfl, h1, h2, h3⟩ := hx.seq e1
    rw [← h3.length] at g
    exact call_len_seq pins s σ H _ us Q I r ⟨a, zs, rfl, h1, g.int⟩
  · simp only [Option.map_eq_some_iff] at e
    obtain ⟨bs, e1, rfl⟩ := e
    obtain ⟨y, rfl, hx⟩ := bi1 (f := .len) hl
    obtain ⟨a, zs, rfl, h1, h2, h3⟩ := hx.list
    obtain rfl := RpL.bools _ _ _ h3 e1
    exact cr_all hc pins s σ H _ us Q I r ⟨a, bs, rfl, h1.sq, g.bl⟩
  · simp only [Option.map_eq_some_iff] at e
    obtain ⟨bs, e1, rfl⟩ := e
    obtain ⟨y, rfl, hx⟩ := bi1 (f := .len) hl
    obtain ⟨a, zs, rfl, h1, h2, h3⟩ := hx.list
    obtain rfl := RpL.bools _ _ _ h3 e1
    exact cr_any hc pins s σ H _ us Q I r ⟨a, bs, rfl, h1.sq, g.bl⟩
  · simp only [Option.map_eq_some_iff] at e
    obtain ⟨ys, e1, rfl⟩ := e
    obtain ⟨y, rfl, hx⟩ := bi1 (f := .len) hl
    obtain ⟨a, zs, rfl, h1, h2, h3⟩ := hx.seq e1
    refine call_tuple_of pins s σ H _ us Q I r ⟨a, zs, rfl, ?_⟩
    rcases h1 with h1 | h1
    · exact .inl ⟨h1, fun l nl => g.ntup nl h3 h2⟩
    · exact .inr ⟨h1, g _ _ Kp.refl (.tup h1 h2 h3)⟩
  · simp only [Option.map_eq_some_iff] at e
    obtain ⟨ys, e1, rfl⟩ := e
    obtain ⟨y, rfl, hx⟩ := bi1 (f := .len) hl
    obtain ⟨a, zs, rfl, h1, h2, h3⟩ := hx.seq e1
    exact call_list_of pins s σ H _ us Q I r ⟨a, zs, rfl, h1, fun l nl => g.nlist hp nl h3 h2⟩
  · split at e
    · rename_i xs' ns e1
      obtain rfl := Option.some.inj e
      obtain ⟨y, rfl, hx⟩ := bi1 (f := .len) hl
      obtain ⟨a, zs, rfl, h1, h2, h3⟩ := hx.list
      obtain rfl := RpL.ints _ _ _ h3 e1
      refine cr_sortedI pins s σ H _ us Q I r ⟨a, ns, rfl, h1.sq, fun ns' p hperm hsrt np => ?_⟩
      obtain rfl := srt_uniq (hperm.trans (sortI_perm ns).symm) hsrt (sortI_srt ns)
      refine g.nlist hp np (RpL.of_ints _) ?_
      rw [List.length_map] at h2 ⊢
      rw [hperm.length_eq]
      exact h2
    · obtain ⟨y, rfl, hx⟩ := bi1 (f := .len) hl
      obtain ⟨a, zs, rfl, h1, h2, h3⟩ := hx.list
      unfold sortTV at e
      obtain ⟨ts, e1, e2⟩ := Option.bind_eq_some_iff.mp e
      obtain ⟨z, rfl⟩ := if_some e2
      obtain rfl := asTups_some e1
      obtain ⟨k, k1, k2⟩ := keysOf I h3
      refine cr_sortK (by omega) pins s σ H _ us Q I r ⟨a, zs, k, rfl, h1.sq, fun x hx => ?_, ?_, fun ys p hperm hsrt np => ?_⟩
      · obtain ⟨⟨t, et, q⟩, _⟩ := k2 x hx
        exact ⟨t, et, q⟩
      · rw [Bool.or_eq_true] at z
        rcases z with z | z
        · refine .inl fun x hx ne => ?_
          have := List.all_eq_true.mp z (k x) (by rw [← k1]; exact List.mem_map.mpr ⟨x, hx, rfl⟩)
          rw [ne] at this
          cases this
        · refine .inr ?_
          rw [← k1] at z
          cases zs with
          | nil => cases z
          | cons x r =>
            refine ⟨x, r, rfl, ?_⟩
            rw [List.map_cons] at z
            generalize k x = y at z
            cases y with
            | nil => rfl
            | cons _ _ => cases z
      · have e3 : ys.map k = sortT ts := srtT_uniq ((hperm.map k).trans (k1 ▸ (sortT_perm ts).symm)) hsrt (sortT_srt ts)
        rw [← e3] at g
        refine g.nlist hp np ?_ (by rw [hperm.length_eq]; exact h2)
        rw [List.map_map]
        exact RpL.of_all fun y hy => (k2 y (hperm.mem_iff.mp hy)).2
  · simp only [Option.map_eq_some_iff] at e
    obtain ⟨ns, e1, rfl⟩ := e
    obtain ⟨y, rfl, hx⟩ := bi1 (f := .len) hl
    obtain ⟨a, zs, rfl, h1, h2, h3⟩ := hx.list
    obtain rfl := RpL.ints _ _ _ h3 e1
    exact cr_sum hc pins s σ H _ us Q I r ⟨a, ns, rfl, h1.sq, g.int⟩
  · obtain rfl := Option.some.inj e
    obtain ⟨x, y, rfl, hx, hy⟩ := bi2 (f := .len) hl
    obtain rfl := hx.int
    obtain rfl := hy.int
    exact call_max2 hc pins s σ H _ us Q I r ⟨_, _, rfl, g.int⟩
  · simp only [Option.bind_eq_some_iff] at e
    obtain ⟨ns, e1, e2⟩ := e
    split at e2 <;> first | contradiction | skip
    rename_i x l
    obtain rfl := Option.some.inj e2
    obtain ⟨y, rfl, hx⟩ := bi1 (f := .len) hl
    obtain ⟨a, zs, rfl, h1, h2, h3⟩ := hx.list
    obtain rfl := RpL.ints _ _ _ h3 e1
    refine cr_max hc pins s σ H _ us Q I r ⟨a, x :: l, rfl, h1.sq, Nat.succ_pos _, fun m hm hb => ?_⟩
    obtain ⟨q1, q2⟩ := maxL_mem l x
    have e3 : maxL x l = m := Int.le_antisymm (hb _ q1) (q2 _ hm)
    rw [e3] at g
    exact g.int
  · obtain rfl := Option.some.inj e
    obtain ⟨x, y, rfl, hx, hy⟩ := bi2 (f := .len) hl
    obtain rfl := hx.int
    obtain rfl := hy.int
    exact call_min2 hc pins s σ H _ us Q I r ⟨_, _, rfl, g.int⟩
  · simp only [Option.bind_eq_some_iff] at e
    obtain ⟨ns, e1, e2⟩ := e
    split at e2 <;> first | contradiction | skip
    rename_i x l
    obtain rfl := Option.some.inj e2
    obtain ⟨y, rfl, hx⟩ := bi1 (f := .len) hl
    obtain ⟨a, zs, rfl, h1, h2, h3⟩ := hx.list
    obtain rfl := RpL.ints _ _ _ h3 e1
    refine cr_min hc pins s σ H _ us Q I r ⟨a, x :: l, rfl, h1.sq, Nat.succ_pos _, fun m hm hb => ?_⟩
    obtain ⟨q1, q2⟩ := minL_mem l x
    have e3 : minL x l = m := Int.le_antisymm (q2 _ hm) (hb _ q1)
    rw [e3] at g
    exact g.int
  · obtain rfl := Option.some.inj e
    obtain ⟨x, rfl, hx⟩ := bi1 (f := .len) hl
    obtain rfl := hx.int
    exact call_abs pins s σ H _ us Q I r ⟨_, rfl, g.int⟩
  · obtain rfl := Option.some.inj e
    obtain ⟨x, rfl, hx⟩ := bi1 (f := .len) hl
    obtain rfl := hx.int
    exact call_int1 pins s σ H _ us Q I r (.inl ⟨_, rfl, g.int⟩)
  · obtain rfl := Option.some.inj e
    obtain ⟨x, rfl, hx⟩ := bi1 (f := .len) hl
    obtain rfl := hx.bl
    exact call_int1 pins s σ H _ us Q I r (.inr ⟨_, rfl, g.int⟩)
  · obtain ⟨z, rfl⟩ := if_some e
    simp only [Bool.and_eq_true, decide_eq_true_eq] at z
    obtain ⟨x, y, rfl, hx, hy⟩ := bi2 (f := .len) hl
    obtain rfl := hx.int
    obtain rfl := hy.int
    exact call_divmod pins s σ H _ us Q I r ⟨_, _, rfl, z, fun p np => g.ntup np (.cons (.int _) (.cons (.int _) .nil)) (by show 2 ≤ sizeLine; decide)⟩
  · obtain rfl := Option.some.inj e
    obtain ⟨x, y, rfl, hx, hy⟩ := bi2 (f := .len) hl
    obtain rfl := hx.int
    obtain rfl := hy.int
    exact cr_gcd pins s σ H _ us Q I r ⟨_, _, rfl, g.int⟩
/-! ### isinstance -/
def tyName : Ty → String
  | .int => "int"
  | .bool => "bool"
  | .tuple => "tuple"
  | .str => "str"
  | .list => "list"
theorem Rq.ty {K : PySem.W.Frag} {H : Hp} {S P : AO} {x : V} {d : PyData} (h : Rq K H S P x d) : ∃ T : String, TyX K H x (.type T) ∧ ∀ t, PySem.W.kitOne K (.type T) (.type (tyName t)) = some (isiV t d) := by
  have k : ∀ (T : String) (f : Ty → Bool), (∀ t, kitB T (tyName t) = some (f t)) → ∀ t, PySem.W.kitOne K (.type T) (.type (tyName t)) = some (f t) := fun T f hf t => kit_ty (hf t)
  cases d with
  | none =>
    obtain rfl := h.non
    exact ⟨"NoneType", .base .non, k _ _ fun t => by cases t <;> decide +kernel⟩
  | bool b =>
    obtain rfl := h.bl
    exact ⟨"bool", .base (.bl b), k _ (fun t => isiV t (.bool b)) fun t => by cases t <;> (simp only [isiV]; decide +kernel)⟩
  | int b =>
    obtain rfl := h.int
    exact ⟨"int", .base (.int b), k _ (fun t => isiV t (.int b)) fun t => by cases t <;> (simp only [isiV]; decide +kernel)⟩
  | str b =>
    obtain rfl := h.str
    exact ⟨"str", .base (.str b), k _ (fun t => isiV t (.str b)) fun t => by cases t <;> (simp only [isiV]; decide +kernel)⟩
  | list l =>
    obtain ⟨a, xs, rfl, h1, _⟩ := h.list
    refine ⟨"list", ?_, k _ (fun t => isiV t (.list l)) fun t => by cases t <;> (simp only [isiV]; decide +kernel)⟩
    rcases h1 with ⟨h1, _⟩ | ⟨o, h1⟩ | ⟨o, its, n, h1, h2, _⟩
    · exact .base (.lst h1)
    · exact .base (.frz h1)
    · exact .kList h1 h2
  | tuple l =>
    obtain ⟨a, xs, rfl, h1, _⟩ := h.tuple
    refine ⟨"tuple", ?_, k _ (fun t => isiV t (.tuple l)) fun t => by cases t <;> (simp only [isiV]; decide +kernel)⟩
    rcases h1 with (h1 | ⟨o, h1⟩) | ⟨o, its, n, h1, h2, _⟩
    · exact .base (.tup h1)
    · exact .fTuple h1
    · exact .kTuple h1 h2
  | dict l =>
    cases h with
    | of h =>
      cases h with
      | dic h hd => exact ⟨"dict", .base (.dK h), k _ (fun t => isiV t (.dict l)) fun t => by cases t <;> (simp only [isiV]; decide +kernel)⟩
end R
end
section
/-! States, what an expression's meaning asks, and its readings. -/
namespace R
open PySem L2
open PySem.Spec PyProof.Rows

/-- what is the same for all that runs -/
structure Par where
  K : PySem.W.Frag
  cs : List (Str × Addr × Str)
  G : List PyData
  F : Fns
  np : Nat → Nat
  XE : XK
  B : AO

structure WRel (H : Hp) (φ : List Addr) (w : Wd) (P : AO) : Prop where
  len : φ.length = w.length
  at_ : ∀ (n : Nat) (a : Addr) (ns : List Int), φ[n]? = some a → w[n]? = some ns → H a = some (.lst (ns.map V.int)) ∧ ns.length ≤ sizeLine
  av : ∀ a ∈ φ, P a
  nd : φ.Nodup
structure Wst (φ : List Addr) (w : Wd) (P : AO) (H : Hp) : Prop where
  held : Held H P
  wr : WRel H φ w P
theorem Wst.lists {φ : List Addr} {w : Wd} {P : AO} {H : Hp} (W : Wst φ w P H) : ∀ a ∈ φ, ∃ vs, H a = some (.lst vs) := fun a ha => W.held a (W.wr.av a ha)

def RpV (K : PySem.W.Frag) (H : Hp) (P : AO) (φ : List Addr) : V → Vl → Prop
  | x, .d c => Rp K H P x c
  | x, .loc n => ∃ a, φ[n]? = some a ∧ x = .ref a
def RqV (K : PySem.W.Frag) (H : Hp) (P : AO) (φ : List Addr) : V → Vl → Prop
  | x, .d c => Rq K H (· ∈ φ) P x c
  | x, .loc n => ∃ a, φ[n]? = some a ∧ x = .ref a

inductive SlotR (K : PySem.W.Frag) (B : AO) (H : Hp) (P : AO) (φ : List Addr) : Option (Option V) → Slot → Prop
  | non (o : Option (Option V)) : SlotR K B H P φ o .non
  | val {x : V} {v : Vl} (h : RpV K H P φ x v) : SlotR K B H P φ (some (some x)) (.val v)
  | own {a : Addr} {vs : List V} {xs : List PyData} (hp : P a) (hn : a ∉ φ) (hb : ¬ B a) (h : H a = some (.lst vs)) (hz : vs.length ≤ sizeLine) (hd : RpL K H P vs xs) : SlotR K B H P φ (some (some (.ref a))) (.own xs)
  | rng {a : Addr} {n : Int} (h : H a = some (.rng 0 n)) : SlotR K B H P φ (some (some (.ref a))) (.rng n)
structure Rel (p : Par) (env : En) (w : Wd) (φ : List Addr) (P : AO) (σ : L2.St) (H : Hp) : Prop where
  st : Wst φ w P H
  sl : ∀ (i : Nat) (s : Slot), env[i]? = some s → SlotR p.K p.B H P φ σ[i]? s
  un : ∀ (i j : Nat) (xs ys : List PyData) (a : Addr), env[i]? = some (.own xs) → env[j]? = some (.own ys) → σ[i]? = some (some (.ref a)) → σ[j]? = some (some (.ref a)) → i = j
  len : env.length = σ.length
  bP : ∀ a, p.B a → P a
/-- the own lists of the slots l -/
def Ob (env : En) (σ : L2.St) (l : List Nat) : AO := fun a => ∃ i ∈ l, ∃ xs, env[i]? = some (.own xs) ∧ σ[i]? = some (some (.ref a))
def Av (P : AO) (env : En) (σ : L2.St) (l : List Nat) : AO := fun a => P a ∧ ¬ Ob env σ l a

structure Ev (φ : List Addr) (P : AO) (H : Hp) (φ' : List Addr) (P' : AO) (H' : Hp) : Prop where
  pre : ∃ ψ, φ' = φ ++ ψ
  kp : ∀ a o, H a = some o → a ∉ φ → H' a = some o
  dm : ∀ a, H' a = none → H a = none
  up : ∀ a, P a → P' a
  nw : ∀ a, P' a → P a ∨ H a = none
  nf : ∀ a ∈ φ', a ∈ φ ∨ H a = none
section
variable {p : Par} {K : PySem.W.Frag} {env : En} {w w' : Wd} {φ φ' φ2 : List Addr} {P P' P2 : AO} {σ : L2.St} {H H' H2 : Hp}
theorem Ev.refl : Ev φ P H φ P H := ⟨⟨[], by simp⟩, fun _ _ h _ => h, fun _ h => h, fun _ h => h, fun _ h => .inl h, fun _ h => .inl h⟩
theorem Kp.dm {H1 H2 : Hp} (k : Kp H1 H2) : ∀ a, H2 a = none → H1 a = none := fun a h => by
  cases e : H1 a with
  | none => rfl
  | some o =>
    rw [k a o e] at h
    cases h
theorem Ev.of_kp (k : Kp H H') : Ev φ P H φ P H' := ⟨⟨[], by simp⟩, fun _ _ h _ => k _ _ h, k.dm, fun _ h => h, fun _ h => .inl h, fun _ h => .inl h⟩
theorem WRel.kp (W : WRel H φ w P) (k : Kp H H') : WRel H' φ w P := ⟨W.len, fun n a ns h1 h2 => let ⟨q1, q2⟩ := W.at_ n a ns h1 h2; ⟨k _ _ q1, q2⟩, W.av, W.nd⟩
theorem Wst.kp (W : Wst φ w P H) (k : Kp H H') : Wst φ w P H' := ⟨fun a h => let ⟨vs, e⟩ := W.held a h; ⟨vs, k _ _ e⟩, W.wr.kp k⟩
theorem Ev.trans (a : Ev φ P H φ' P' H') (b : Ev φ' P' H' φ2 P2 H2) : Ev φ P H φ2 P2 H2 := by
  refine ⟨?_, fun x o h n => b.kp x o (a.kp x o h n) fun z => ?_, fun x h => a.dm x (b.dm x h), fun x h => b.up x (a.up x h), fun x h => ?_, fun x h => ?_⟩
  · obtain ⟨ψ, e⟩ := a.pre
    obtain ⟨ψ', e'⟩ := b.pre
    exact ⟨ψ ++ ψ', by rw [e', e, List.append_assoc]⟩
  · rcases a.nf x z with q | q
    · exact n q
    · rw [h] at q; cases q
  · rcases b.nw x h with q | q
    · exact a.nw x q
    · exact .inr (a.dm x q)
  · rcases b.nf x h with q | q
    · exact a.nf x q
    · exact .inr (a.dm x q)
theorem Ev.cr {S S' : AO} (e : Ev φ P H φ' P' H') (W : Wst φ w P H) (h1 : ∀ a ∈ φ, S a) (h2 : ∀ a, S' a → S a ∨ H a = none) : Cr H S H' S' :=
  ⟨fun a vs ea na => ⟨e.kp a _ ea fun z => na (h1 a z), fun z => (h2 a z).elim na fun q => by rw [ea] at q; cases q⟩,
   fun a o ea nl => e.kp a o ea fun z => by
    obtain ⟨vs, q⟩ := W.lists a z
    rw [ea] at q
    exact nl vs (Option.some.inj q)⟩
theorem Ev.get (e : Ev φ P H φ' P' H') {n : Nat} {a : Addr} (h : φ[n]? = some a) : φ'[n]? = some a := by
  obtain ⟨ψ, rfl⟩ := e.pre
  rw [List.getElem?_append_left]
  · exact h
  · exact (List.getElem?_eq_some_iff.mp h).1
theorem Rel.es_out (R : Rel p env w φ P σ H) {l : List Nat} {a : Addr} (h : Ob env σ l a) : a ∉ φ ∧ P a ∧ ∃ vs, H a = some (.lst vs) := by
  obtain ⟨i, _, xs, e1, e2⟩ := h
  have s := R.sl i _ e1
  rw [e2] at s
  cases s with
  | own hp hn hb h hz hd => exact ⟨hn, hp, _, h⟩
theorem Rel.b_out (R : Rel p env w φ P σ H) {l : List Nat} {a : Addr} (hb : p.B a) : ¬ Ob env σ l a := fun ⟨i, _, xs, e1, e2⟩ => by
  have s := R.sl i _ e1
  rw [e2] at s
  cases s with
  | own hp hn hb' h hz hd => exact hb' hb
theorem Rel.av_phi (R : Rel p env w φ P σ H) (l : List Nat) : ∀ a ∈ φ, Av P env σ l a := fun a ha => ⟨R.st.wr.av a ha, fun z => (R.es_out z).1 ha⟩
theorem Av.nw (e : Ev φ P H φ' P' H') {l : List Nat} : ∀ a, Av P' env σ l a → Av P env σ l a ∨ H a = none := fun a ⟨h1, h2⟩ => (e.nw a h1).imp (fun z => ⟨z, h2⟩) id
/-- what was told of a value stays told -/
theorem RpV.ev {S S' : AO} {x : V} {v : Vl} (e : Ev φ P H φ' P' H') (W : Wst φ w P H) (h1 : ∀ a ∈ φ, S a) (h2 : ∀ a, S' a → S a ∨ H a = none) (r : RpV K H S φ x v) : RpV K H' S' φ' x v := by
  cases v with
  | d c => exact Rp.cr (e.cr W h1 h2) _ _ r
  | loc n =>
    obtain ⟨a, q, ea⟩ := r
    exact ⟨a, e.get q, ea⟩
theorem RqV.ev {S S' : AO} {x : V} {v : Vl} (e : Ev φ P H φ' P' H') (W : Wst φ w P H) (h1 : ∀ a ∈ φ, S a) (h2 : ∀ a, S' a → S a ∨ H a = none) (r : RqV K H S φ x v) : RqV K H' S' φ' x v := by
  cases v with
  | d c => exact Rq.cr (e.cr W h1 h2) (e.cr W (fun _ h => h) e.nf) r
  | loc n =>
    obtain ⟨a, q, ea⟩ := r
    exact ⟨a, e.get q, ea⟩
theorem Rel.ev (R : Rel p env w φ P σ H) (e : Ev φ P H φ' P' H') (W : Wst φ' w' P' H') : Rel p env w' φ' P' σ H' := by
  refine ⟨W, fun i s h => ?_, R.un, R.len, fun a h => e.up _ (R.bP a h)⟩
  have q := R.sl i s h
  generalize hg : σ[i]? = o at q
  cases q with
  | non => exact .non _
  | val r => exact .val (r.ev e R.st R.st.wr.av e.nw)
  | own hp hn hb ho hz hd =>
    refine .own (e.up _ hp) (fun z => ?_) hb (e.kp _ _ ho hn) hz (RpL.cr (e.cr R.st R.st.wr.av e.nw) _ _ hd)
    rcases e.nf _ z with q | q
    · exact hn q
    · rw [ho] at q; cases q
  | rng hr =>
    refine .rng (e.kp _ _ hr fun z => ?_)
    obtain ⟨vs, q⟩ := R.st.lists _ z
    rw [hr] at q
    cases q
theorem RpV.weak {S S' : AO} {x : V} {v : Vl} (h : ∀ a, S' a → S a) (r : RpV K H S φ x v) : RpV K H S' φ x v := by
  cases v with
  | d c => exact Rp.cr (Cr.weak h) _ _ r
  | loc n => exact r
theorem Av.sub {l m : List Nat} (h : ∀ i ∈ l, i ∈ m) : ∀ a, Av P env σ m a → Av P env σ l a := fun a ⟨h1, h2⟩ => ⟨h1, fun ⟨i, hi, q⟩ => h2 ⟨i, h i hi, q⟩⟩
theorem Held.av (h : Held H P) (l : List Nat) : Held H (Av P env σ l) := fun a z => h a z.1
end
/-- how an exception lies -/
def ExR (p : Par) (H : Hp) (P : AO) (c : Nat) (x : PyData) (cls : Value) (d : Option Addr) : Prop :=
  ∃ (nm : Str) (C : Addr) (at_ : Str) (dd : Addr) (v : V), p.cs[c]? = some (nm, C, at_) ∧ cls = .ref C ∧ d = some dd ∧ H dd = some (.xd [(at_, v)]) ∧ Rp p.K H P v x
def Ans {α : Type} (p : Par) (r : Res α) (φ : List Addr) (P : AO) (H : Hp) (T : α → Wd → List Addr → AO → Hp → Prop) : Prop :=
  match r with
  | .ok v w' => ∀ H' φ' P', Ev φ P H φ' P' H' → Wst φ' w' P' H' → T v w' φ' P' H'
  | .exc c x w' => ∀ H' φ' P' cls d, Ev φ P H φ' P' H' → Wst φ' w' P' H' → ExR p H' (fun z => p.B z ∨ z ∈ φ') c x cls d → p.XE cls d H'
  | .bad => False
section
variable {p : Par} {α β : Type} {r : Res α} {φ φ' : List Addr} {P P' : AO} {H H' : Hp} {T T' : α → Wd → List Addr → AO → Hp → Prop} {w : Wd}
theorem Ans.ev (h : Ans p r φ P H T) (e : Ev φ P H φ' P' H') : Ans p r φ' P' H' T := by
  cases r with
  | ok v w' => exact fun H2 φ2 P2 e2 W => h H2 φ2 P2 (e.trans e2) W
  | exc c x w' => exact fun H2 φ2 P2 cls d e2 W => h H2 φ2 P2 cls d (e.trans e2) W
  | bad => exact h
theorem Ans.imp (h : Ans p r φ P H T) (i : ∀ v w' φ' P' H', Ev φ P H φ' P' H' → Wst φ' w' P' H' → T v w' φ' P' H' → T' v w' φ' P' H') : Ans p r φ P H T' := by
  cases r with
  | ok v w' => exact fun H2 φ2 P2 e2 W => i _ _ _ _ _ e2 W (h H2 φ2 P2 e2 W)
  | exc c x w' => exact h
  | bad => exact h
theorem Ans.impE (h : Ans p r φ P H T) (i : ∀ v w' φ' P' H', r = .ok v w' → Ev φ P H φ' P' H' → Wst φ' w' P' H' → T v w' φ' P' H' → T' v w' φ' P' H') : Ans p r φ P H T' := by
  cases r with
  | ok v w' => exact fun H2 φ2 P2 e2 W => i _ _ _ _ _ rfl e2 W (h H2 φ2 P2 e2 W)
  | exc c x w' => exact h
  | bad => exact h
theorem Ans.bind {f : α → Wd → Res β} {T : β → Wd → List Addr → AO → Hp → Prop} (h : Ans p (r.bind f) φ P H T) : Ans p r φ P H (fun v w1 φ1 P1 H1 => Ans p (f v w1) φ1 P1 H1 T) := by
  cases r with
  | ok v w' =>
    have h : Ans p (f v w') φ P H T := h
    exact fun H2 φ2 P2 e2 W => h.ev e2
  | exc c x w' => exact h
  | bad => exact h
theorem Ans.opt {o : Option α} (h : Ans p (ofOpt o w) φ P H T) : ∃ a, o = some a ∧ Ans p (.ok a w) φ P H T := by
  cases o with
  | none => exact False.elim h
  | some a => exact ⟨a, rfl, h⟩
theorem Ans.here {v : α} (h : Ans p (.ok v w) φ P H T) (W : Wst φ w P H) : T v w φ P H := h H φ P Ev.refl W
theorem Ans.data {v : Vl} {T : PyData → Wd → List Addr → AO → Hp → Prop} (h : Ans p (asD v w) φ P H T) : ∃ x, v = .d x ∧ Ans p (.ok x w) φ P H T := by
  cases v with
  | d x => exact ⟨x, rfl, h⟩
  | loc n => exact False.elim h
theorem Ans.bool {v : Vl} {T : Bool → Wd → List Addr → AO → Hp → Prop} (h : Ans p (boolOf v w) φ P H T) : ∃ x, v = .d (.bool x) ∧ Ans p (.ok x w) φ P H T := by
  cases v with
  | loc n => exact False.elim h
  | d x =>
    cases x with
    | bool b => exact ⟨b, rfl, h⟩
    | none => exact False.elim h
    | int b => exact False.elim h
    | str b => exact False.elim h
    | list b => exact False.elim h
    | tuple b => exact False.elim h
    | dict b => exact False.elim h
end

theorem escV_ne {e : E} (h : ∀ i, e ≠ .var i) : escV e = esc e := by
  cases e with
  | var i => exact absurd rfl (h i)
  | _ => simp only [escV, esc]

/-! ### readings -/
section
variable (p : Par)
def rdE (e : E) : TE := fun σ H Q => ∃ env w φ P, Rel p env w φ P σ H ∧ Ans p (ev p.G p.F p.np env e w) φ P H fun v _ φ' P' H' => ∀ x, RpV p.K H' (Av P' env σ (esc e)) φ' x v → Q x H'
def rdQ (e : E) : TE := fun σ H Q => ∃ env w φ P, Rel p env w φ P σ H ∧ Ans p (ev p.G p.F p.np env e w) φ P H fun v _ φ' P' H' => ∀ x, RqV p.K H' (Av P' env σ (escV e)) φ' x v → Q x H'
inductive RpVs (K : PySem.W.Frag) (H : Hp) (P : AO) (φ : List Addr) : List V → List Vl → Prop
  | nil : RpVs K H P φ [] []
  | cons {x : V} {xs : List V} {v : Vl} {vs : List Vl} (h : RpV K H P φ x v) (t : RpVs K H P φ xs vs) : RpVs K H P φ (x :: xs) (v :: vs)
inductive RqVs (K : PySem.W.Frag) (H : Hp) (P : AO) (φ : List Addr) : List V → List Vl → Prop
  | nil : RqVs K H P φ [] []
  | cons {x : V} {xs : List V} {v : Vl} {vs : List Vl} (h : RqV K H P φ x v) (t : RqVs K H P φ xs vs) : RqVs K H P φ (x :: xs) (v :: vs)
def rdEs (es : Es) : TA := fun σ H Q => ∃ env w φ P, Rel p env w φ P σ H ∧ Ans p (evs p.G p.F p.np env es w) φ P H fun vs _ φ' P' H' => ∀ xs, RpVs p.K H' (Av P' env σ (escs es)) φ' xs vs → Q xs H'
def rdQs (es : Es) : TA := fun σ H Q => ∃ env w φ P, Rel p env w φ P σ H ∧ Ans p (evs p.G p.F p.np env es w) φ P H fun vs _ φ' P' H' => ∀ xs, RqVs p.K H' (Av P' env σ (escW es)) φ' xs vs → Q xs H'
/-- a test -/
def rdT (e : E) : TT := fun σ H Q => ∃ env w φ P, Rel p env w φ P σ H ∧ Ans p ((ev p.G p.F p.np env e w).bind boolOf) φ P H fun b _ _ _ H' => Q b H'
end
theorem PEi {X : Cx} {e : Expr} {t t' : TE} (h : PE X e t) (i : ∀ σ H Q, t' σ H Q → t σ H Q) : PE X e t' := ⟨fun pins s σ H Q I q => h.run pins s σ H Q I (i σ H Q q)⟩
theorem PTi {X : Cx} {e : Expr} {t t' : TT} (h : PT X e t) (i : ∀ σ H Q, t' σ H Q → t σ H Q) : PT X e t' := ⟨fun pins s σ H Q I q => h.run pins s σ H Q I (i σ H Q q)⟩
theorem PWi {X : Cx} {e : Expr} {t t' : TT} (h : PW X e t) (i : ∀ σ H Q, t' σ H Q → t σ H Q) : PW X e t' := ⟨fun whole pins s σ H Q I q => h.run whole pins s σ H Q I (i σ H Q q)⟩
theorem PAi {X : Cx} {es : List Expr} {t t' : TA} (h : PA X es t) (i : ∀ σ H Q, t' σ H Q → t σ H Q) : PA X es t' := ⟨fun pos pins s σ H Q I q => h.run pos pins s σ H Q I (i σ H Q q)⟩
end R
end
section
/-! Calls of the text's own defs. -/
namespace R
open PySem L2
open PySem.Spec PyProof.Rows
/-- a promise, where nothing is being shown -/
structure FnG (P : Program) (w : World) (K : PySem.W.Frag) (mg : Str → Option Value) (base : Heap) (k : Nat) (f : Addr) (fd : FuncData) (ps : List Str) (sp : Sp) : Prop where
  len : ∀ vs H Q E, sp vs H Q E → vs.length = ps.length
  run : ∀ (A : Around) (outer : List Env) (s : Shared) (H : Hp) (args : Args) (us : List Value) (vs : List V) (Q : VK) (E : XK), A.guards = some [] → Room k A → Env0 P w K mg base A outer s H →
    BindsTo s fd args (ps.zip us) → Vals vs us → sp vs H Q E → codeAny (model P w) A (.call (.ref f) args) (CR (L2.CX P w) outer P w H s Q E) s
theorem FnG.mono {P : Program} {w : World} {K : PySem.W.Frag} {mg : Str → Option Value} {base : Heap} {j k : Nat} {f : Addr} {fd : FuncData} {ps : List Str} {sp : Sp} (F : FnG P w K mg base j f fd ps sp) (h : j ≤ k) : FnG P w K mg base k f fd ps sp :=
  ⟨F.len, fun A outer s H args us vs Q E g hr => F.run A outer s H args us vs Q E g (hr.mono h)⟩

def noStar : Expr → Bool
  | .Starred _ _ => false
  | _ => true
theorem star_cons {e : Expr} {es : List Expr} {env : Env} (h : noStar e = true) : starEach (e :: es) env = (false, eval e env) :: starEach es env := by
  cases e <;> first | rfl | cases h
theorem star_plain {pos : Pos} {env : Env} : ∀ {es : List Expr}, es.all noStar = true → (backTo pos (starEach es env)).any (·.1) = false
  | [], _ => rfl
  | e :: r, h => by
    have h' : noStar e = true ∧ r.all noStar = true := by simpa using h
    rw [star_cons h'.1]
    show (false || (backTo pos (starEach r env)).any (·.1)) = false
    rw [star_plain h'.2]
    rfl
section
variable {X : Cx}
theorem pa_cons' {e : Expr} {es : List Expr} {te : TE} {t : TA} (h : noStar e = true) (ha : PE X e te) (hr : PA X es t) : PA X (e :: es) (tCons te t) := L2.pa_cons ha hr (star_cons h)
variable {k : Nat} {f : Addr} {fd : FuncData} {ps : List Str} {sp : Sp} {E : XK} {x : Str} {p pos : Pos} {es : List Expr} {t : TA}
/-- how positional values, then some by name, are bound -/
def BindK (fd : FuncData) (ps : List Str) (n : Nat) (ks : List Nat) (nms : List Str) : Prop :=
  ∀ (s : Shared) (us ws : List Value), us.length = n → ws.length = ks.length → BindsTo s fd ⟨us, nms.zip ws⟩ (ps.zip (putK ps.length ks us ws))
theorem lookup_vals {j : Nat} : ∀ {ks : List Nat} {vs : List V} {us : List Value}, Vals vs us → (∃ v u, (ks.zip vs).lookup j = some v ∧ (ks.zip us).lookup j = some u ∧ RelV v u) ∨ ((ks.zip vs).lookup j = none ∧ (ks.zip us).lookup j = none)
  | [], _, _, _ => .inr ⟨rfl, rfl⟩
  | _ :: _, _, _, .nil => .inr ⟨rfl, rfl⟩
  | k :: ks, _, _, .cons (a := v) (b := u) r rt => by
    by_cases e : j = k
    · subst e
      refine .inl ⟨v, u, ?_, ?_, r⟩ <;> simp [List.lookup]
    · have q := lookup_vals (j := j) (ks := ks) rt
      have b : (j == k) = false := by simpa using e
      simpa only [List.zip_cons_cons, List.lookup, b] using q
theorem putK_vals {n : Nat} {ks : List Nat} {vs zs : List V} {us ws : List Value} (r : Vals vs us) (q : Vals zs ws) : Vals (putK n ks vs zs) (putK n ks us ws) := by
  unfold putK
  have hl := r.length
  induction List.range n with
  | nil => exact .nil
  | cons j l ih =>
    rw [List.filterMap_cons, List.filterMap_cons]
    by_cases c : j < vs.length
    · have c' : j < us.length := by omega
      rw [if_pos c, if_pos c', List.getElem?_eq_getElem c, List.getElem?_eq_getElem c']
      obtain ⟨u, h1, h2⟩ := r.get (List.getElem?_eq_getElem c)
      rw [List.getElem?_eq_getElem c'] at h1
      obtain rfl := Option.some.inj h1
      exact .cons h2 ih
    · have c' : ¬ j < us.length := by omega
      rw [if_neg c, if_neg c']
      rcases lookup_vals (j := j) (ks := ks) q with ⟨v, u, h1, h2, h3⟩ | ⟨h1, h2⟩
      · rw [h1, h2]
        exact .cons h3 ih
      · rw [h1, h2]
        exact ih
theorem run_g {pins : List (Addr × Obj)} {σ : L2.St} {H : Hp} {s : Shared} {Q : VK} {a : Args} {us : List Value} {vs : List V} (F : FnG X.prog X.w X.K X.mg X.base k f fd ps sp) (hg : X.A.guards = some []) (hr : Room k X.A) (hx : Passes (L2.CX X.prog X.w) X E)
    (I : Inv X pins σ H s) (hb : BindsTo s fd a (ps.zip us)) (r : Vals vs us) (h : sp vs H Q E) : codeAny (model X.prog X.w) X.A (.call (.ref f) a) (fun r s' => match r with
      | .ok (.ret u) => EP X pins σ Q u s'
      | .error e => X.xe e s'
      | _ => False) s :=
  codeAny_mono (F.run X.A X.stack s H a us vs Q E hg hr I.env0 hb r h) fun r s' hq => by
    cases r with
    | error e => exact hx pins σ H s e s' I hq
    | ok fl =>
      cases fl with
      | ret u => exact I.after hq
      | next => exact False.elim hq
      | brk => exact False.elim hq
      | cont => exact False.elim hq
theorem run_gw {pins : List (Addr × Obj)} {σ : L2.St} {H : Hp} {s : Shared} {Q : VK} {us rs : List Value} {kw : List (Str × Value)} {vs : List V} (F : FnG X.prog X.w X.K X.mg X.base k f fd ps sp) (hg : X.A.guards = some []) (hr : Room k X.A) (hx : Passes (L2.CX X.prog X.w) X E)
    (I : Inv X pins σ H s) (hb : BindsTo s fd ⟨rs, kw⟩ (ps.zip us)) (r : Vals vs us) (h : sp vs H Q E) : wpAny (model X.prog X.w) X.A (call (.ref f) rs kw) (EP X pins σ Q) X.xe s :=
  wpAny_call (codeAny_mono (run_g F hg hr hx I hb r h) fun r s' hq => by
    cases r with
    | error e => exact hq
    | ok fl =>
      cases fl with
      | ret u => exact hq
      | next => exact False.elim hq
      | brk => exact False.elim hq
      | cont => exact False.elim hq)
def tCl (sp : Sp) (E : XK) (t : TA) : TE := fun σ H Q => t σ H fun vs H1 => sp vs H1 Q E
theorem run_pos {pins : List (Addr × Obj)} {σ : L2.St} {H : Hp} {s : Shared} {Q : VK} {us : List Value} {vs : List V} (F : FnG X.prog X.w X.K X.mg X.base k f fd ps sp) (hg : X.A.guards = some []) (hr : Room k X.A) (hx : Passes (L2.CX X.prog X.w) X E) (hb : Binds X.K fd ps [])
    (I : Inv X pins σ H s) (r : Vals vs us) (q : sp vs H Q E) : wpAny (model X.prog X.w) X.A (call (.ref f) us) (EP X pins σ Q) X.xe s := by
  have e : us.length = ps.length := by rw [← r.length]; exact F.len _ _ _ _ q
  have b := hb s us I.kIn (by rw [List.append_nil]; exact e)
  rw [List.append_nil] at b
  exact run_gw F hg hr hx I b r q
theorem pe_cl {e : Expr} (F : FnG X.prog X.w X.K X.mg X.base k f fd ps sp) (hg : X.A.guards = some []) (hr : Room k X.A) (hx : Passes (L2.CX X.prog X.w) X E) (gx : Gl X x) (hm : X.mg x = some (.ref f)) (hk : PySem.W.keepIn X.K (.ref f) = true) (hb : Binds X.K fd ps [])
    (ha : PA X (e :: es) t) (hd : (x == ("__debug__" : Str)) = false) (hs : (e :: es).all noStar = true) : PE X (.Call (.Name x p) (e :: es) [] pos) (tCl sp E t) := by
  refine ⟨fun pins s σ H Q I h => ?_⟩
  refine wpAny_Call_Name_kw (ld_glob I gx hm ?_ hd)
  have h' : noStar e = true ∧ es.all noStar = true := by simpa using hs
  exact PySem.W.callWith_K (h₀ := X.base) I.ok.mod.kin hk (thn (ha.run pos pins s σ H _ I h) fun us s1 ⟨vs, H1, I1, r, q⟩ => ⟨I1.kIn, run_pos F hg hr hx hb I1 r q⟩) (star_cons h'.1) (star_plain h'.2)
theorem pe_cl0 (F : FnG X.prog X.w X.K X.mg X.base k f fd ps sp) (hg : X.A.guards = some []) (hr : Room k X.A) (hx : Passes (L2.CX X.prog X.w) X E) (gx : Gl X x) (hm : X.mg x = some (.ref f)) (hk : PySem.W.keepIn X.K (.ref f) = true) (hb : Binds X.K fd ps [])
    (hd : (x == ("__debug__" : Str)) = false) : PE X (.Call (.Name x p) [] [] pos) (fun _ H Q => sp [] H Q E) := by
  refine ⟨fun pins s σ H Q I h => ?_⟩
  refine wpAny_Call_Name_kw (ld_glob I gx hm ?_ hd)
  exact PySem.W.callWith_K0 I.kIn hk (run_pos F hg hr hx hb I .nil h)
/-! ### keywords -/
theorem kw_all {pos : Pos} {env : Env} : ∀ {kws : List Keyword}, (kws.all fun k => k.arg.isSome) = true → (backToKw pos (keywordEach kws env)).all (·.1.isSome) = true ∧ (backToKw pos (keywordEach kws env)).any (·.1.isNone) = false
  | [], _ => ⟨rfl, rfl⟩
  | ⟨nm, v, q⟩ :: r, h => by
    have h' : nm.isSome = true ∧ (r.all fun k => k.arg.isSome) = true := by simpa using h
    obtain ⟨i1, i2⟩ := kw_all (pos := pos) (env := env) h'.2
    obtain ⟨x, rfl⟩ := Option.isSome_iff_exists.mp h'.1
    constructor
    · show (true && (backToKw pos (keywordEach r env)).all (·.1.isSome)) = true
      rw [i1]
      rfl
    · show (false || (backToKw pos (keywordEach r env)).any (·.1.isNone)) = false
      rw [i2]
      rfl
theorem kw_names {pos : Pos} {env : Env} : ∀ {kws : List Keyword}, (backToKw pos (keywordEach kws env)).filterMap (·.1) = kws.filterMap (·.arg)
  | [] => rfl
  | ⟨some nm, v, q⟩ :: r => by
    show nm :: (backToKw pos (keywordEach r env)).filterMap (·.1) = nm :: r.filterMap (·.arg)
    rw [kw_names]
  | ⟨none, v, q⟩ :: r => by
    show (backToKw pos (keywordEach r env)).filterMap (·.1) = r.filterMap (·.arg)
    rw [kw_names]
def tClK (sp : Sp) (n : Nat) (ks : List Nat) (np : Nat) (E : XK) (t tk : TA) : TE := fun σ H Q => t σ H fun vs H1 => tk σ H1 fun zs H2 => vs.length = n ∧ zs.length = ks.length ∧ sp (putK np ks vs zs) H2 Q E
variable {n : Nat} {ks : List Nat} {nms : List Str} {kws : List Keyword} {tk : TA}
theorem run_kw {pins : List (Addr × Obj)} {σ : L2.St} {H : Hp} {s : Shared} {Q : VK} {us ws : List Value} {vs zs : List V} (F : FnG X.prog X.w X.K X.mg X.base k f fd ps sp) (hg : X.A.guards = some []) (hr : Room k X.A) (hx : Passes (L2.CX X.prog X.w) X E) (hb : BindK fd ps n ks nms)
    (I : Inv X pins σ H s) (r : Vals vs us) (rz : Vals zs ws) (q : vs.length = n ∧ zs.length = ks.length ∧ sp (putK ps.length ks vs zs) H Q E) : wpAny (model X.prog X.w) X.A (call (.ref f) us (nms.zip ws)) (EP X pins σ Q) X.xe s :=
  run_gw F hg hr hx I (hb s us ws (by rw [← r.length]; exact q.1) (by rw [← rz.length]; exact q.2.1)) (putK_vals r rz) q.2.2
theorem pe_clK {e : Expr} (F : FnG X.prog X.w X.K X.mg X.base k f fd ps sp) (hg : X.A.guards = some []) (hr : Room k X.A) (hx : Passes (L2.CX X.prog X.w) X E) (gx : Gl X x) (hm : X.mg x = some (.ref f)) (hk : PySem.W.keepIn X.K (.ref f) = true) (hb : BindK fd ps n ks nms)
    (ha : PA X (e :: es) t) (hkw : PK X kws tk) (hd : (x == ("__debug__" : Str)) = false) (hs : (e :: es).all noStar = true) (hks : kws.filterMap (·.arg) = nms) (hall : (kws.all fun k => k.arg.isSome) = true) :
    PE X (.Call (.Name x p) (e :: es) kws pos) (tClK sp n ks ps.length E t tk) := by
  refine ⟨fun pins s σ H Q I h => ?_⟩
  refine wpAny_Call_Name_kw (ld_glob I gx hm ?_ hd)
  have h' : noStar e = true ∧ es.all noStar = true := by simpa using hs
  obtain ⟨a1, a2⟩ := kw_all (pos := pos) (env := X.env) hall
  refine PySem.W.callWith_KW (h₀ := X.base) I.ok.mod.kin hk a1 (thn (ha.run pos pins s σ H _ I h) fun us s1 ⟨vs, H1, I1, r, q⟩ => thn (hkw.run pos pins s1 σ H1 _ I1 q) fun ws s2 ⟨zs, H2, I2, rz, q2⟩ => ⟨I2.kIn, ?_⟩) (by rw [star_plain hs, a2]; rfl) (star_cons h'.1)
  rw [kw_names, hks]
  exact run_kw F hg hr hx hb I2 r rz q2
theorem pe_clK0 (F : FnG X.prog X.w X.K X.mg X.base k f fd ps sp) (hg : X.A.guards = some []) (hr : Room k X.A) (hx : Passes (L2.CX X.prog X.w) X E) (gx : Gl X x) (hm : X.mg x = some (.ref f)) (hk : PySem.W.keepIn X.K (.ref f) = true) (hb : BindK fd ps 0 ks nms)
    (hkw : PK X kws tk) (hd : (x == ("__debug__" : Str)) = false) (hks : kws.filterMap (·.arg) = nms) (hall : (kws.all fun k => k.arg.isSome) = true) :
    PE X (.Call (.Name x p) [] kws pos) (tClK sp 0 ks ps.length E tNil tk) := by
  refine ⟨fun pins s σ H Q I h => ?_⟩
  refine wpAny_Call_Name_kw (ld_glob I gx hm ?_ hd)
  obtain ⟨a1, a2⟩ := kw_all (pos := pos) (env := X.env) hall
  refine PySem.W.callWith_KW0 (h₀ := X.base) I.ok.mod.kin hk a1 (thn (hkw.run pos pins s σ H _ I h) fun ws s2 ⟨zs, H2, I2, rz, q2⟩ => ⟨I2.kIn, ?_⟩) (by rw [a2]; rfl)
  rw [kw_names, hks]
  exact run_kw (us := []) F hg hr hx hb I2 .nil rz q2
end
/-! ### a def by its body -/
theorem fn_g {P : Program} {w : World} {K : PySem.W.Frag} {mg : Str → Option Value} {base : Heap} {k : Nat} {f : Addr} {name qual : Str} {params : Arguments} {body : List Stmt} {scope : Scope} {dV kV doc pm cdv ct oc : Value} {an od : Option Addr}
    {osl : Array (Option Value)} {N ps : List Str} {sp : Sp} (lk : K.lookup f = some ⟨oc, od, .func (PySem.W.fnOf name qual params body scope dV kV doc pm an cdv ct), osl⟩) (hcd : PySem.W.codeIn K cdv qual = true) (S : FnScope N ps scope)
    (len : ∀ vs H Q E, sp vs H Q E → vs.length = ps.length)
    (hbody : ∀ (A : Around) (outer : List Env) (s : Shared) (H : Hp) (vs : List V) (Q : VK) (E : XK), A.guards = some [] → Room k (A.deeper (envOfC qual scope s.heap.objs.size f cdv)) → sp vs H Q E →
      ∃ t, PSs (cxOf (L2.CX P w) P w K mg base N qual scope f cdv A outer s H E) body t ∧ t { nx := fun _ H' => Q .non H', rt := Q } (start N vs) H) :
    FnG P w K mg base (k + 1) f (PySem.W.fnOf name qual params body scope dV kV doc pm an cdv ct) ps sp := by
  refine ⟨len, fun A outer s H args us vs Q E hgd hr e0 hb r hsp => ?_⟩
  have hlv := len _ _ _ _ hsp
  have kx : K.In s.heap := e0.mod.kin.keeps fun b o e => (e0.bs b o e).1
  have lim : s.heap.NoLimit := e0.mod.nolimit.keeps fun b o e => (e0.bs b o e).1
  refine codeAny_call_function hr.depth (kx _ _ lk) rfl S.co S.gen rfl (PySem.W.codeRec_of kx hcd) (hb _ _ _ _ ?_)
  refine wpAny_newFunctionEnv_cells S.kind (fun y hy => ?_) fun en he s1 x => ?_
  · obtain ⟨yn, yv⟩ := y
    rcases S.par yn (List.of_mem_zip hy).1 with q | q
    · exact .inl q
    · exact .inr ⟨q, PySem.W.cellsFrom_some _ _ _ (.inl q)⟩
  subst he
  refine ⟨lim.keeps x.toInCall.keep, codeAny_func ?_⟩
  obtain ⟨t, ht, hq⟩ := hbody A outer s H vs Q E hgd (hr.deeper _) hsp
  have I0 : Inv (cxOf (L2.CX P w) P w K mg base N qual scope f cdv A outer s H E) [] (start N vs) H s1 := inv_start S hr.hd e0 hlv r x
  refine wpAny_mono (ht.run [] s1 (start N vs) H _ I0 hq) (fun fl s' hs => ?_) fun e s' hs => hs
  cases fl with
  | ret u =>
    obtain ⟨v, σ', H', J, rv, q⟩ := hs
    exact ⟨v, H', J.os, J.bare, J.base, J.hok, rv, q⟩
  | next =>
    obtain ⟨σ', H', J, q⟩ := hs
    exact ⟨V.non, H', J.os, J.bare, J.base, J.hok, rfl, q⟩
  | brk =>
    obtain ⟨_, _, _, q⟩ := hs
    exact q.elim
  | cont =>
    obtain ⟨_, _, _, q⟩ := hs
    exact q.elim
end R
end
section
/-! Whether the small language's term is the text's. -/
namespace R
open PySem L2
/-- the text's names -/
structure Stx where
  fr : List Str
  gn : List Str
  bf : List (Str × Bi)
  fn : List (Str × List Str)
  kw : List (Nat × Nat × List Nat)
  cl : List (Str × Str)
structure Ct where
  t : Stx
  N : List Str
  sc : Scope
  own : Str → Bool
def visB (sc : Scope) (x : Str) : Bool := match sc.names.lookup x with
  | some .local => true
  | some .cell => true
  | some .free => true
  | _ => false
def glB (sc : Scope) (x : Str) : Bool := match sc.names.lookup x with
  | some .globalImplicit => true
  | _ => false
def okName (x : Str) : Bool := !(x == ("__debug__" : Str)) && !(x == ("__classdict__" : Str)) && !decide (x = ("__name__" : Str))
def storeB (c : Ct) (x : Str) : Bool := match c.sc.names.lookup x with
  | some .local => true
  | some .cell => c.own x
  | _ => false
def mC : PyData → Const → Bool
  | .none, .none => true
  | .bool b, .bool b' => b == b'
  | .int i, .int j => decide (i = j)
  | .str x, .str y => decide (x = y)
  | _, _ => false
def biName : Bi → Option Str
  | .len => some "len"
  | .all => some "all"
  | .any => some "any"
  | .tuple => some "tuple"
  | .list => some "list"
  | .sorted => some "sorted"
  | .sum => some "sum"
  | .max => some "max"
  | .min => some "min"
  | .abs => some "abs"
  | .int => some "int"
  | .repr => some "repr"
  | .str => none
  | .divmod => some "divmod"
  | .gcd => none
  | .factorial => none
  | .combos => none
def tyStr : Ty → Str
  | .int => "int"
  | .bool => "bool"
  | .tuple => "tuple"
  | .str => "str"
  | .list => "list"
def nmOf (c : Ct) (i : Nat) (x : Str) : Bool := decide (c.N[i]? = some x)
mutual
def mTg (c : Ct) : Tg → Expr → Bool
  | .nm i, .Name x _ => nmOf c i x && storeB c x
  | .tup ts, .Tuple l _ _ => mTgs c ts l
  | _, _ => false
def mTgs (c : Ct) : Tgs → List Expr → Bool
  | .nil, [] => true
  | .cons t r, x :: l => mTg c t x && mTgs c r l
  | _, _ => false
end
def isTup : Tg → Bool
  | .tup _ => true
  | _ => false
/-- a built-in's name -/
def frB (c : Ct) (x : Str) : Bool := glB c.sc x && decide (x ∈ c.t.fr) && okName x
def binCmp (o : Op2) (op : CmpOp) : Bool := decide (cmpOf o = some op)
def blkCt (c : Ct) (scope : Scope) : Ct := { c with sc := relS scope c.sc, own := fun x => scope.names.lookup x == some .cell }
def ownOf (N : List Str) : List Nat → Option (List (Str × Nat))
  | [] => some []
  | i :: is => match N[i]?, ownOf N is with
    | some x, some r => some ((x, i) :: r)
    | _, _ => none
def ezParts : Expr → Option (Str × Str × Expr × Expr)
  | .Call (.Name z _) [.Call (.Name z2 _) [x, y] [] _] [] _ => some (z, z2, x, y)
  | _ => none
theorem ezParts_some {e : Expr} {r : Str × Str × Expr × Expr} (h : ezParts e = some r) : ∃ p1 p2 p3 p4, e = .Call (.Name r.1 p1) [.Call (.Name r.2.1 p2) [r.2.2.1, r.2.2.2] [] p3] [] p4 := by
  unfold ezParts at h
  split at h
  · cases h
    exact ⟨_, _, _, _, rfl⟩
  · cases h
def isNm : Expr → Bool
  | .Name _ _ => true
  | _ => false
mutual
def mE (c : Ct) : E → Expr → Bool
  | .var i, .Name x _ => nmOf c i x && visB c.sc x && okName x
  | .cst d, .Constant k _ _ => mC d k
  | .glob g, .Name x _ => decide (c.t.gn[g]? = some x) && glB c.sc x && okName x
  | .tup es, .Tuple l _ _ => mEs c es l && decide (l.length ≤ 1000)
  | .lst es, .List l _ => mEs c es l && decide (l.length ≤ 1000)
  | .new es, .List l _ => mEs c es l && decide (l.length ≤ 1000)
  | .rep es k, .BinOp (.List l _) .Mult b _ => mEs c es l && mE c k b && decide (l.length ≤ 1000)
  | .neg a, .UnaryOp .USub x _ => mE c a x
  | .no a, .UnaryOp .Not x _ => mE c a x
  | .bools conj es, .BoolOp op l _ => decide (op = (if conj then .And else .Or)) && mEs c es l && !l.isEmpty
  | .op2 o a b, .BinOp l op r _ => decide (binOf o = some op) && mE c a l && mE c b r
  | .op2 o a b, .Compare l [op] [r] _ => binCmp o op && mE c a l && mE c b r
  | .chain o q a b d, .Compare l [op, op'] [r, r'] _ => binCmp o op && binCmp q op' && mE c a l && mE c b r && mE c d r'
  | .isN pos a, .Compare l [op] [.Constant .none _ _] _ => decide (op = (if pos then .Is else .IsNot)) && mE c a l
  | .ite d a b, .IfExp t x y _ => mE c d t && mE c a x && mE c b y
  | .ix a b, .Subscript x y _ => mE c a x && mE c b y
  | .sl a lo hi, .Subscript x (.Slice l h .none _) _ => mE c a x && mEo c lo l && mEo c hi h
  | .bi f es, .Call (.Name x _) l [] _ => (decide (biName f = some x) && frB c x || decide ((x, f) ∈ c.t.bf) && decide (f ≠ .combos) && glB c.sc x && okName x) && mEs c es l && !l.isEmpty
  | .isi t a, .Call (.Name x _) [y, .Name z _] [] _ => decide (x = "isinstance") && frB c x && decide (z = tyStr t) && frB c z && mE c a y
  | .rngV tup a, .Call (.Name x _) [.Call (.Name z _) [y] [] _] [] _ => decide (x = (if tup then "tuple" else "list")) && frB c x && decide (z = "range") && frB c z && mE c a y
  | .rev a, .Subscript x (.Slice none none (some (.UnaryOp .USub (.Constant (.int 1) _ _) _)) _) _ => mE c a x
  | .star a es, .Tuple (.Starred x _ :: l) _ _ => mE c a x && mEs c es l && decide (l.length ≤ 1000)
  | .call f es, .Call (.Name x _) l [] _ => decide ((c.t.fn[f]?.map (·.1)) = some x) && glB c.sc x && okName x && mEs c es l
  | .callK f es ks ws, .Call (.Name x _) l kws _ => decide ((c.t.fn[f]?.map (·.1)) = some x) && glB c.sc x && okName x && mEs c es l && mKs c ws kws && decide ((f, l.length, ks) ∈ c.t.kw) &&
      decide (kws.map (·.arg) = ks.map fun k => (c.t.fn[f]?.bind fun p => p.2[k]?)) && decide (kws.length = ks.length) && (kws.all fun k => k.arg.isSome)
  | .lc vs elt tg it cs, .ListComp e [⟨tg', it', ifs, aw⟩] scope _ => (match ownOf c.N vs with
      | some own => blkC c.N c.sc scope own
      | none => false) && decide (aw = 0) && ((tgIx tg).all fun i => vs.contains i) && mI c it (isTup tg) it' && mTg (blkCt c scope) tg tg' && mEs (blkCt c scope) cs ifs && decide (ifs.length ≤ 1) && mE (blkCt c scope) elt e
  | .lc2 vs vs1 elt tg it tg1 it1, .ListComp e [⟨tg', it', [], aw⟩, ⟨tg1', it1', [], aw1⟩] scope _ => (match ownOf c.N vs with
      | some own => blkC c.N c.sc scope own
      | none => false) && decide (aw = 0) && decide (aw1 = 0) && (vs1.all fun i => vs.contains i) && ((tgIx tg).all fun i => vs.contains i) && ((tgIx tg1).all fun i => vs1.contains i) && mI c it (isTup tg) it' && mTg (blkCt c scope) tg tg' && mI (blkCt c scope) it1 (isTup tg1) it1' && mTg (blkCt c scope) tg1 tg1' && mE (blkCt c scope) elt e
  | .get i b, .Call (.Attribute (.Name x _) m q2) [y] [] q3 => decide (m = "get") && nmOf c i x && visB c.sc x && okName x && mE c b y && (q2.endLine == q3.line)
  | .idx i b, .Call (.Attribute (.Name x _) m q2) [y] [] q3 => decide (m = "index") && nmOf c i x && visB c.sc x && okName x && mE c b y && (q2.endLine == q3.line)
  | .dsp i j, .Dict [some (.Name x _)] [.Name y _] _ => nmOf c i x && visB c.sc x && okName x && nmOf c j y && visB c.sc y && okName y
  | .dcv i a v, .DictComp (.Name kx _) (.Name vx _) [⟨tg', it', [], aw⟩] scope _ => (match ownOf c.N [i] with
      | some own => blkC c.N c.sc scope own
      | none => false) && decide (aw = 0) && decide (i ≠ v) && mE c a it' && mTg (blkCt c scope) (.nm i) tg' && (nmOf c i kx && visB (blkCt c scope).sc kx && okName kx) && (nmOf c v vx && visB (blkCt c scope).sc vx && okName vx) && isNm it'
  | _, _ => false
def mEs (c : Ct) : Es → List Expr → Bool
  | .nil, [] => true
  | .cons e r, x :: l => mE c e x && mEs c r l
  | _, _ => false
def mEo (c : Ct) : Eo → Option Expr → Bool
  | .none, none => true
  | .some e, some x => mE c e x
  | _, _ => false
def mKs (c : Ct) : Es → List Keyword → Bool
  | .nil, [] => true
  | .cons e r, k :: l => mE c e k.value && mKs c r l
  | _, _ => false
/-- tup: the target is a tuple -/
def mI (c : Ct) : It → Bool → Expr → Bool
  | .seq e, _, x => mE c e x
  | .rng1 a, _, .Call (.Name z _) [x] [] _ => decide (z = "range") && frB c z && mE c a x
  | .rng2 a b, _, .Call (.Name z _) [x, y] [] _ => decide (z = "range") && frB c z && mE c a x && mE c b y
  | .rng3 a b d, _, .Call (.Name z _) [x, y, u] [] _ => decide (z = "range") && frB c z && mE c a x && mE c b y && mE c d u
  | .zip a b, tup, .Call (.Name z _) [x, y] [] _ => tup && decide (z = "zip") && frB c z && mE c a x && mE c b y
  | .enm a, tup, .Call (.Name z _) [x] [] _ => tup && decide (z = "enumerate") && frB c z && mE c a x
  | .comb a b, _, .Call (.Name z _) [x, y] [] _ => decide ((z, Bi.combos) ∈ c.t.bf) && glB c.sc z && okName z && mE c a x && mE c b y
  | .rgv i, _, .Name x _ => nmOf c i x && visB c.sc x && okName x
  | .ezp a b, tup, e => match ezParts e with
    | some (z, z2, x, y) => tup && decide (z = "enumerate") && frB c z && decide (z2 = "zip") && frB c z2 && mE c a x && mE c b y
    | none => false
  | _, _, _ => false
end
end R
end
section
/-! Where the meaning answers, the text does so. -/
namespace R
open PySem L2
open PySem.Spec PyProof.Rows
def spD (p : Par) (f n : Nat) : Sp := fun vs H Q E => vs.length = n ∧ ∃ w φ P ds, Wst φ w P H ∧ RpVs p.K H P φ vs ds ∧ Ans { p with XE := E, B := P } (p.F f ds w) φ P H fun v _ φ' P' H' => ∀ x, RpV p.K H' P' φ' x v → Q x H'
structure Cal (p : Par) (t : Stx) (X : Cx) (f : Nat) (nm : Str) (ps : List Str) (fa : Addr) (fd : FuncData) (k : Nat) : Prop where
  mg : X.mg nm = some (.ref fa)
  kp : PySem.W.keepIn X.K (.ref fa) = true
  bd : Binds X.K fd ps []
  ok : FnG X.prog X.w X.K X.mg X.base k fa fd ps (spD p f ps.length)
  rm : Room k X.A
  np : p.np f = ps.length
  kw : ∀ n ks, (f, n, ks) ∈ t.kw → BindK fd ps n ks (ks.filterMap fun j => ps[j]?)
structure XOk (p : Par) (t : Stx) (X : Cx) : Prop where
  K : X.K = p.K
  calm : X.calm = true
  nd : X.N.Nodup
  gd : X.A.guards = some []
  un : X.A.units + 65 < cLine
  fr : ∀ x ∈ t.fr, X.mg x = none
  gl : ∀ (g : Nat) (x : Str), t.gn[g]? = some x → ∃ d u v, p.G[g]? = some d ∧ X.mg x = some u ∧ RelV v u ∧ ∀ H P, Rp p.K H P v d
  bf : ∀ (x : Str) (f : Bi), (x, f) ∈ t.bf → (f = .combos ∧ X.mg x = some (.type "itertools.combinations")) ∨ ∃ id, biOf f = some (.builtin id) ∧ X.mg x = some (.builtin id)
  fn : ∀ (f : Nat) (nm : Str) (ps : List Str), t.fn[f]? = some (nm, ps) → ∃ fa fd k, Cal p t X f nm ps fa fd k
  px : Passes (L2.CX X.prog X.w) X p.XE
  ar : ∀ (f : Nat) (vs : List Vl) (w : Wd), vs.length ≠ p.np f → p.F f vs w = .bad
/-- the place in the text -/
structure At (c : Ct) (X : Cx) : Prop where
  N : X.N = c.N
  sc : X.env.scope = c.sc
  own : X.fn = c.own
section
variable {p : Par} {c : Ct} {X : Cx} {pe : Expr} {e : E}
theorem vis_ok {sc : Scope} {x : Str} (h : visB sc x = true) : Vis sc x := by
  unfold visB at h
  split at h <;> first | cases h | skip
  · rename_i q; exact .inl q
  · rename_i q; exact .inr (.inl q)
  · rename_i q; exact .inr (.inr q)
theorem gl_ok (a : At c X) {x : Str} (h : glB c.sc x = true) : Gl X x := by
  unfold glB at h
  split at h <;> first | cases h | skip
  rename_i q
  rw [← a.sc] at q
  exact q
structure OkN (x : Str) : Prop where
  d : (x == ("__debug__" : Str)) = false
  cd : (x == ("__classdict__" : Str)) = false
  nm : x ≠ "__name__"
theorem okn {x : Str} (h : okName x = true) : OkN x := by
  unfold okName at h
  simp only [Bool.and_eq_true, Bool.not_eq_true', decide_eq_false_iff_not] at h
  exact ⟨h.1.1, h.1.2, h.2⟩
theorem nm_ok (a : At c X) {i : Nat} {x : Str} (h : nmOf c i x = true) : X.N[i]? = some x := by
  rw [a.N]
  exact of_decide_eq_true h
theorem fr_ok (o : XOk p c.t X) (a : At c X) {x : Str} (h : frB c x = true) : Gl X x ∧ X.mg x = none ∧ OkN x := by
  unfold frB at h
  simp only [Bool.and_eq_true, decide_eq_true_eq] at h
  exact ⟨gl_ok a h.1.1, o.fr x h.1.2, okn h.2⟩
/-! ### forms -/
theorem mE_set {e : E} {l : List Expr} {k : Nat} {q : Pos} : mE c e (.Set l k q) = false := by cases e <;> simp [mE]
theorem mE_star {e : E} {x : Expr} {q : Pos} : mE c e (.Starred x q) = false := by cases e <;> simp [mE]
theorem mE_slice {e : E} {l u st : Option Expr} {q : Pos} : mE c e (.Slice l u st q) = false := by cases e <;> simp [mE]
theorem m_star (h : mE c e pe = true) : noStar pe = true := by
  cases pe <;> first | rfl | (rw [mE_star] at h; cases h)
theorem m_mark {op : CmpOp} (h : mE c e pe = true) : behindInMarks op pe = false := by
  cases pe <;> first | rfl | (rw [mE_set] at h; cases h)
theorem m_plain (h : mE c e pe = true) : PlainIx pe := by
  intro o i
  cases pe <;> first | rfl | (rw [mE_slice] at h; cases h)
theorem m_fold (h : mE c e pe = true) (env : Env) (x : Value) : foldedSetIterable pe env x = pure x := by
  cases pe <;> first | rfl | (rw [mE_set] at h; cases h)
theorem ms_star : ∀ {es : Es} {l : List Expr}, mEs c es l = true → l.all noStar = true
  | .nil, [], _ => rfl
  | .cons e r, x :: l, h => by
    simp only [mEs, Bool.and_eq_true] at h
    rw [List.all_cons, m_star h.1, ms_star h.2]
    rfl
  | .nil, _ :: _, h => by simp [mEs] at h
  | .cons _ _, [], h => by simp [mEs] at h
/-! ### values and operands -/
theorem RpV.rq {K : PySem.W.Frag} {H : Hp} {P : AO} {φ : List Addr} {x : V} {v : Vl} (h : ∀ a ∈ φ, P a) (r : RpV K H P φ x v) : RqV K H P φ x v := by
  cases v with
  | d d => exact Rp.rq h r
  | loc n => exact r
theorem rq_of (h : PE X pe (rdE p e)) (hv : ∀ i, e ≠ .var i) : PE X pe (rdQ p e) := PEi h fun σ H Q ⟨env, w, φ, P, R, A⟩ => ⟨env, w, φ, P, R, A.imp fun v w' φ' P' H' hE W T x r => T x (by
  rw [escV_ne hv]
  exact RpV.rq ((R.ev hE W).av_phi _) r)⟩
theorem getV_some {env : En} {i : Nat} {v : Vl} (h : getV env i = some v) : env[i]? = some (.val v) ∨ ∃ xs, env[i]? = some (.own xs) ∧ v = .d (.list xs) := by
  unfold getV at h
  split at h <;> first | cases h | skip
  · rename_i q
    exact .inl q
  · rename_i q
    exact .inr ⟨_, q, rfl⟩
theorem Av.le {P : AO} {env : En} {σ : L2.St} {l : List Nat} : ∀ a, Av P env σ l a → P a := fun a h => h.1
theorem av_nil {P : AO} {env : En} {σ : L2.St} : ∀ a, P a → Av P env σ [] a := fun a h => ⟨h, fun ⟨i, hi, _⟩ => by cases hi⟩
theorem rd_var {i : Nat} {x : Str} {q : Pos} (hN : X.N[i]? = some x) (hv : Vis X.env.scope x) (n : OkN x) : PE X (.Name x q) (rdE p (.var i)) ∧ PE X (.Name x q) (rdQ p (.var i)) := by
  have b := pe_var (pos := q) hN hv n.d n.cd
  refine ⟨PEi b fun σ H Q ⟨env, w, φ, P, R, A⟩ => ?_, PEi b fun σ H Q ⟨env, w, φ, P, R, A⟩ => ?_⟩
  all_goals
    obtain ⟨v, e, A⟩ := Ans.opt (o := getV env i) (by simpa only [ev] using A)
    have T := A.here R.st
    rcases getV_some e with e1 | ⟨xs, e1, rfl⟩
  · have s := R.sl i _ e1
    generalize hg : σ[i]? = o at s
    cases s with
    | val h => exact ⟨_, hg, T _ (h.weak Av.le)⟩
  · have s := R.sl i _ e1
    generalize hg : σ[i]? = o at s
    cases s with
    | own hp hn hb h hz hd => exact ⟨_, hg, T _ (.lst (.inl ⟨h, fun z => z.2 ⟨i, by simp [esc], xs, e1, hg⟩⟩) hz (RpL.cr (Cr.weak Av.le) _ _ hd))⟩
  · have s := R.sl i _ e1
    generalize hg : σ[i]? = o at s
    cases s with
    | val h => exact ⟨_, hg, T _ (RpV.rq (R.av_phi _) (h.weak Av.le))⟩
  · have s := R.sl i _ e1
    generalize hg : σ[i]? = o at s
    cases s with
    | own hp hn hb h hz hd => exact ⟨_, hg, T _ (.lst (.inl ⟨h, hn⟩) hz (RpL.cr (Cr.weak Av.le) _ _ hd))⟩
theorem rd_cst {d : PyData} {k : Const} {n : Nat} {q : Pos} (h : mC d k = true) : PE X (.Constant k n q) (rdE p (.cst d)) := by
  have go : ∀ (v : V) (d : PyData), PE X (.Constant k n q) (tC v) → (∀ H P, Rp p.K H P v d) → PE X (.Constant k n q) (rdE p (.cst d)) := fun v d b r => PEi b fun σ H Q ⟨env, w, φ, P, R, A⟩ => by
    simp only [ev] at A
    exact A.here R.st _ (r _ _)
  cases d <;> cases k <;> first | (simp [mC] at h; done) | skip
  · exact go _ _ pe_non fun _ _ => .non
  · simp only [mC, beq_iff_eq] at h
    subst h
    exact go _ _ pe_bl fun _ _ => .bl _
  · simp only [mC, decide_eq_true_eq] at h
    subst h
    exact go _ _ pe_int fun _ _ => .int _
  · simp only [mC, decide_eq_true_eq] at h
    subst h
    exact go _ _ pe_str fun _ _ => .str _
theorem rd_glob (o : XOk p c.t X) {g : Nat} {x : Str} {q : Pos} (hg : c.t.gn[g]? = some x) (gx : Gl X x) (n : OkN x) : PE X (.Name x q) (rdE p (.glob g)) := by
  obtain ⟨d, u, v, e1, e2, e3, e4⟩ := o.gl g x hg
  refine PEi (pe_glob gx e2 e3 n.d) fun σ H Q ⟨env, w, φ, P, R, A⟩ => ?_
  obtain ⟨z, e, A⟩ := Ans.opt (o := p.G[g]?.map Vl.d) (by simpa only [ev] using A)
  rw [e1] at e
  obtain rfl := Option.some.inj e
  exact (A.here R.st) _ (e4 _ _)
/-! ### lists of expressions -/
theorem RpVs.ev {env : En} {w : Wd} {φ φ' : List Addr} {P P' : AO} {H H' : Hp} {S S' : AO} {K : PySem.W.Frag} (e : Ev φ P H φ' P' H') (W : Wst φ w P H) (h1 : ∀ a ∈ φ, S a) (h2 : ∀ a, S' a → S a ∨ H a = none) : ∀ {xs : List V} {vs : List Vl}, RpVs K H S φ xs vs → RpVs K H' S' φ' xs vs
  | _, _, .nil => .nil
  | _, _, .cons h t => .cons (h.ev e W h1 h2) (t.ev (env := env) e W h1 h2)
theorem RqVs.ev {env : En} {w : Wd} {φ φ' : List Addr} {P P' : AO} {H H' : Hp} {S S' : AO} {K : PySem.W.Frag} (e : Ev φ P H φ' P' H') (W : Wst φ w P H) (h1 : ∀ a ∈ φ, S a) (h2 : ∀ a, S' a → S a ∨ H a = none) : ∀ {xs : List V} {vs : List Vl}, RqVs K H S φ xs vs → RqVs K H' S' φ' xs vs
  | _, _, .nil => .nil
  | _, _, .cons h t => .cons (h.ev e W h1 h2) (t.ev (env := env) e W h1 h2)
theorem RpV.mono {K : PySem.W.Frag} {H : Hp} {φ : List Addr} {S S' : AO} {x : V} {v : Vl} (r : RpV K H S φ x v) (h : ∀ a, S' a → S a) : RpV K H S' φ x v := r.weak h
theorem rqV_mono {K : PySem.W.Frag} {H : Hp} {φ : List Addr} {S S' : AO} {x : V} {v : Vl} (r : RqV K H S φ x v) (h : ∀ a, S' a → S a) : RqV K H S' φ x v := by
  cases v with
  | d c => exact Rq.cr (Cr.weak h) Cr.refl r
  | loc n => exact r
theorem RpVs.mono {K : PySem.W.Frag} {H : Hp} {φ : List Addr} {S S' : AO} (h : ∀ a, S' a → S a) : ∀ {xs : List V} {vs : List Vl}, RpVs K H S φ xs vs → RpVs K H S' φ xs vs
  | _, _, .nil => .nil
  | _, _, .cons r t => .cons (r.mono h) (t.mono h)
theorem RqVs.mono {K : PySem.W.Frag} {H : Hp} {φ : List Addr} {S S' : AO} (h : ∀ a, S' a → S a) : ∀ {xs : List V} {vs : List Vl}, RqVs K H S φ xs vs → RqVs K H S' φ xs vs
  | _, _, .nil => .nil
  | _, _, .cons r t => .cons (rqV_mono r h) (t.mono h)
theorem rds_nil : PA X [] (rdEs p .nil) ∧ PA X [] (rdQs p .nil) :=
  ⟨PAi L2.pa_nil fun σ H Q ⟨env, w, φ, P, R, A⟩ => by
    simp only [evs] at A
    exact A.here R.st _ .nil, PAi L2.pa_nil fun σ H Q ⟨env, w, φ, P, R, A⟩ => by
    simp only [evs] at A
    exact A.here R.st _ .nil⟩
theorem rds_cons {r : Es} {l : List Expr} (hs : noStar pe = true) (h1 : PE X pe (rdE p e)) (h2 : PA X l (rdEs p r)) : PA X (pe :: l) (rdEs p (.cons e r)) := by
  refine PAi (pa_cons' hs h1 h2) fun σ H Q ⟨env, w, φ, P, R, A⟩ => ?_
  simp only [evs] at A
  refine ⟨env, w, φ, P, R, A.bind.imp fun v w1 φ1 P1 H1 E1 W1 A1 x rx => ?_⟩
  have R1 := R.ev E1 W1
  refine ⟨env, w1, φ1, P1, R1, A1.bind.imp fun vs w2 φ2 P2 H2 E2 W2 A2 xs rxs => ?_⟩
  have T := A2.here W2
  refine T _ (.cons ((rx.ev E2 W1 (R1.av_phi _) (Av.nw E2)).mono (Av.sub fun i hi => ?_)) (rxs.mono (Av.sub fun i hi => ?_))) <;> simp [escs, hi]
theorem rqs_cons {r : Es} {l : List Expr} (hs : noStar pe = true) (h1 : PE X pe (rdQ p e)) (h2 : PA X l (rdQs p r)) : PA X (pe :: l) (rdQs p (.cons e r)) := by
  refine PAi (pa_cons' hs h1 h2) fun σ H Q ⟨env, w, φ, P, R, A⟩ => ?_
  simp only [evs] at A
  refine ⟨env, w, φ, P, R, A.bind.imp fun v w1 φ1 P1 H1 E1 W1 A1 x rx => ?_⟩
  have R1 := R.ev E1 W1
  refine ⟨env, w1, φ1, P1, R1, A1.bind.imp fun vs w2 φ2 P2 H2 E2 W2 A2 xs rxs => ?_⟩
  have T := A2.here W2
  refine T _ (.cons (rqV_mono (rx.ev E2 W1 (R1.av_phi _) (Av.nw E2)) (Av.sub fun i hi => ?_)) (rxs.mono (Av.sub fun i hi => ?_))) <;> simp [escW, hi]
def Es.len : Es → Nat
  | .nil => 0
  | .cons _ r => r.len + 1
theorem mEs_len : ∀ {es : Es} {l : List Expr}, mEs c es l = true → l.length = es.len
  | .nil, [], _ => rfl
  | .cons e r, x :: l, h => by
    simp only [mEs, Bool.and_eq_true] at h
    rw [List.length_cons, mEs_len h.2]
    rfl
  | .nil, _ :: _, h => by simp [mEs] at h
  | .cons _ _, [], h => by simp [mEs] at h
theorem evs_len {G : List PyData} {F : Fns} {np : Nat → Nat} {env : En} : ∀ {es : Es} {w w' : Wd} {vs : List Vl}, evs G F np env es w = .ok vs w' → vs.length = es.len
  | .nil, w, w', vs, h => by
    simp only [evs] at h
    cases h
    rfl
  | .cons e r, w, w', vs, h => by
    simp only [evs] at h
    obtain ⟨v, w1, e1, h⟩ := Res.bind_ok h
    obtain ⟨us, w2, e2, h⟩ := Res.bind_ok h
    cases h
    rw [List.length_cons, evs_len e2]
    rfl
theorem RpVs.datas {K : PySem.W.Frag} {H : Hp} {P : AO} {φ : List Addr} : ∀ {xs : List V} {vs : List Vl} {ds : List PyData}, RpVs K H P φ xs vs → R.datas vs = some ds → RpL K H P xs ds
  | _, _, ds, .nil, e => by
    obtain rfl := Option.some.inj (show some [] = some ds from e)
    exact .nil
  | _, _, ds, .cons (v := .d d) h t, e => by
    simp only [R.datas, Option.map_eq_some_iff] at e
    obtain ⟨r, e1, e2⟩ := e
    subst e2
    exact .cons h (t.datas e1)
  | _, _, ds, .cons (v := .loc n) h t, e => by simp [R.datas] at e
theorem RqVs.datas {K : PySem.W.Frag} {H : Hp} {P : AO} {φ : List Addr} : ∀ {xs : List V} {vs : List Vl} {ds : List PyData}, RqVs K H P φ xs vs → R.datas vs = some ds → RqL K H (· ∈ φ) P xs ds
  | _, _, ds, .nil, e => by
    obtain rfl := Option.some.inj (show some [] = some ds from e)
    exact .nil
  | _, _, ds, .cons (v := .d d) h t, e => by
    simp only [R.datas, Option.map_eq_some_iff] at e
    obtain ⟨r, e1, e2⟩ := e
    subst e2
    exact .cons h (t.datas e1)
  | _, _, ds, .cons (v := .loc n) h t, e => by simp [R.datas] at e
theorem RpVs.length {K : PySem.W.Frag} {H : Hp} {P : AO} {φ : List Addr} : ∀ {xs : List V} {vs : List Vl}, RpVs K H P φ xs vs → xs.length = vs.length
  | _, _, .nil => rfl
  | _, _, .cons h t => congrArg (· + 1) t.length
end
end R
end
section
/-! t[::-1] of a tuple. -/
namespace R
open PySem L2
open PySem.Spec PyProof.Rows
section
variable {prog : PySem.Program} {w : World} {A : Around} {E : Value → Shared → Prop} {s : Shared}
theorem adjust_rev (n : Nat) : Builtin.Slice.sliceAdjust none none (-1) (n : Int) = ((n : Int) - 1, -1) := by
  unfold Builtin.Slice.sliceAdjust
  simp
theorem places_rev (n : Nat) : Builtin.Slice.slicePlaces ((n : Int) - 1) (-1) (-1) = n := by
  unfold Builtin.Slice.slicePlaces
  have h1 : ¬ ((-1 : Int) > 0) := by decide
  simp only [h1, if_false]
  have e : (- -1 : Int) = 1 := by decide
  rw [e, Int.ediv_one]
  split <;> omega
theorem applied_rev {sl : Addr} {vs : Value} {n : Nat} {Q : Int × Int × Nat → Shared → Prop} (hs : s.heap.IsSliceOf sl .none .none vs) (ps : IsPart vs (some (-1)))
    (h : Q ((n : Int) - 1, -1, n) s) : wpAny (model prog w) A (Builtin.Slice.sliceApplied (.ref sl) (pure (n : Int))) Q E s := by
  obtain ⟨os, hos, hcs, hds⟩ := id hs
  unfold Builtin.Slice.sliceApplied Builtin.Slice.sliceFields
  refine wpAny_bind (wpAny_bind (wpAny_field hos hds (x := .none) rfl (wpAny_bind (wpAny_field hos hds (x := .none) rfl (wpAny_bind (wpAny_field hos hds (x := vs) rfl (wpAny_pure ?_)))))))
  refine wpAny_bind (HT.slicePart_ ps ?_)
  show wpAny _ _ (if ((-1 : Int) == 0) = true then _ else _) _ _ s
  rw [if_neg (by decide)]
  refine wpAny_bind (HT.slicePart_ .none (wpAny_bind (HT.slicePart_ .none (wpAny_bind (wpAny_pure ?_)))))
  show wpAny _ _ (match Builtin.Slice.sliceAdjust none none (-1) (n : Int) with | (lo, hi) => pure (lo, (-1 : Int), Builtin.Slice.slicePlaces lo hi (-1))) _ _ s
  rw [adjust_rev n]
  show wpAny _ _ (pure ((n : Int) - 1, (-1 : Int), Builtin.Slice.slicePlaces ((n : Int) - 1) (-1) (-1))) _ _ s
  rw [places_rev]
  exact wpAny_pure h
theorem fm_congr {α β : Type} {f g : α → Option β} : ∀ {l : List α}, (∀ x ∈ l, f x = g x) → l.filterMap f = l.filterMap g
  | [], _ => rfl
  | x :: r, h => by
    rw [List.filterMap_cons, List.filterMap_cons, h x (List.mem_cons_self ..), fm_congr fun y hy => h y (List.mem_cons_of_mem _ hy)]
theorem pick_rev (xs : Array Value) : ((List.range xs.size).filterMap fun (m : Nat) => xs[(((xs.size : Int) - 1) + (m : Int) * (-1)).toNat]?).toArray = xs.toList.reverse.toArray := by
  have e : (List.range xs.size).filterMap (fun (m : Nat) => xs[(((xs.size : Int) - 1) + (m : Int) * (-1)).toNat]?) = ((List.range xs.size).map fun k => xs.size - 1 - k).filterMap (xs[·]?) := by
    rw [List.filterMap_map]
    refine fm_congr fun m hm => ?_
    have := List.mem_range.mp hm
    have e2 : (((xs.size : Int) - 1) + (m : Int) * (-1)).toNat = xs.size - 1 - m := by omega
    rw [e2]
    rfl
  rw [e, PySem.W.krv_range, List.filterMap_reverse, PySem.W.krv_all]
theorem getItem_tuple_rev {t sl : Addr} {items : Array Value} {vs : Value} {Q : Value → Shared → Prop} (ht : IsTup s.heap t items) (hs : s.heap.IsSliceOf sl .none .none vs) (ps : IsPart vs (some (-1)))
    (h : Q (.ref s.heap.objs.size) { s with heap := s.heap.push { cls := .type "tuple", data := .seq items.toList.reverse.toArray } })
    (hsz : items.size ≤ sizeLine) : wpAny (model prog w) A (getItem (.ref t) (.ref sl)) Q E s := by
  have htake : sizeOk (.seq items.toList.reverse.toArray) := by
    show items.toList.reverse.toArray.size ≤ sizeLine
    rw [List.size_toArray, List.length_reverse, Array.length_toList]
    omega
  obtain ⟨os, hos, hcs, hds⟩ := id hs
  have hTs : s.TypeIs (.ref sl) "slice" := ⟨os, hos, hcs⟩
  unfold getItem
  try with_reducible refine wpAny_holding ?_
  first | refine wpAny_bind (wpAny_pure ?_) | skip
  refine wpAny_bind (wpAny_sequenceKey ht.typeIs (by decide) ?_)
  refine wpAny_bind (wpAny_callSpecial?_slot (name := Str.ofString "__getitem__") ht.typeIs PyProof.Rows.slot_tuple_getitem
    (wpAny_call_entry PyProof.Rows.slot_tuple_getitem ht.typeIs entry_tuple_getitem ?_ (args_tuple_getitem _ _)))
  show wpAny _ _ (Builtin.Tuple.tupleItemsOf (.ref t) >>= _) _ _ s
  refine wpAny_bind (PyProof.Rows.tupleItemsOf_ ht ?_)
  refine wpAny_bind (wpAny_typeOf hTs ?_)
  rw [if_pos (by decide)]
  refine wpAny_bind (applied_rev hs ps ?_)
  have hno : ¬ ((((items.size : Int) - 1) == 0 && (-1 : Int) == 1 && items.size == items.size) = true) := by
    intro q
    rw [Bool.and_eq_true, Bool.and_eq_true] at q
    exact absurd (eq_of_beq q.1.2) (by decide)
  show wpAny _ _ (if (((items.size : Int) - 1) == 0 && (-1 : Int) == 1 && items.size == items.size) = true then _ else _) _ _ s
  rw [if_neg hno, pick_rev]
  first
    | exact wpAny_bind (m := Builtin.Tuple.tupleExact _) (wpAny_newObj_type (wpAny_pure ⟨_, rfl, wpAny_pure h⟩) htake)
    | exact wpAny_bind (m := Builtin.Tuple.tupleExact _) (wpAny_newObj_type (wpAny_bind (wpAny_pure (wpAny_pure ⟨_, rfl, wpAny_pure h⟩))) htake)
    | exact wpAny_bind (wpAny_bind (m := Builtin.Tuple.tupleExact _) (wpAny_newObj_type (wpAny_pure (wpAny_pure ⟨_, rfl, wpAny_pure h⟩)) htake))
    | exact wpAny_bind (wpAny_bind (m := Builtin.Tuple.tupleExact _) (wpAny_newObj_type (wpAny_pure ⟨_, rfl, wpAny_pure h⟩) htake))
end
def tRevT (K : PySem.W.Frag) (te : TE) : TE := fun σ H Q => te σ H fun x H1 => ∃ a xs, x = .ref a ∧ SqT K H1 a xs ∧ ∀ p, H1 p = none → Q (.ref p) (upd H1 p (.tup xs.reverse))
theorem pe_revT {X : Cx} {e : Expr} {te : TE} {k : Nat} {p1 p2 p3 pos : Pos} (he : PE X e te) : PE X (.Subscript e (.Slice none none (some (.UnaryOp .USub (.Constant (.int 1) k p1) p2)) p3) pos) (tRevT X.K te) := by
  refine ⟨fun pins s σ H Q I h => ?_⟩
  refine Subscript_ (thn (he.run pins s σ H _ I h) fun v s1 ⟨x, H1, I1, r1, q1⟩ => ?_)
  obtain ⟨a, xs, ex, hx, q⟩ := q1
  subst ex
  cases r1
  have hst : PO X (some (.UnaryOp .USub (.Constant (.int 1) k p1) p2)) (tPart (tUn (rU fun i => .int (-i)) (tC (.int 1)))) := po_some (pe_un un_neg pe_int)
  refine wpAny_Slice (thn (po_none.run pins s1 σ H1 (fun o H2 => o = none ∧ H2 = H1) I1 ⟨rfl, rfl⟩) fun vl s2 ⟨l, H2, I2, pl, el, e2⟩ => ?_)
  subst el e2
  refine thn (po_none.run pins s2 σ H2 (fun o H3 => o = none ∧ H3 = H2) I2 ⟨rfl, rfl⟩) fun vu s3 ⟨u, H3, I3, pu, eu, e3⟩ => ?_
  subst eu e3
  refine thn (hst.run pins s3 σ H3 (fun o H4 => o = some (-1) ∧ H4 = H3) I3 ⟨1, rfl, -1, rfl, rfl, rfl⟩) fun vs s4 ⟨o, H4, I4, ps, eo, e4⟩ => ?_
  subst eo e4
  cases pl
  cases pu
  have I5 : Inv X pins σ H4 { s4 with heap := s4.heap.push { cls := .type "slice", data := .fields #[.none, .none, vs] } } := I4.kept (t' := s4.toks) fun b ob q => Heap.get?_push_of_some _ q
  obtain ⟨its, r, ht, hz⟩ := I5.tuple hx
  have hlen := r.length
  show wpAny (model X.prog X.w) X.A (subscriptTail e (.Slice none none (some (.UnaryOp .USub (.Constant (.int 1) k p1) p2)) p3) (.ref a) (.ref s4.heap.objs.size)) (EP X pins σ Q) X.xe { s4 with heap := s4.heap.push { cls := .type "slice", data := .fields #[.none, .none, vs] } }
  refine tail_any (ops := [.ref a, .ref s4.heap.objs.size]) ht.typeIs PyProof.Rows.slot_tuple_getitem.lookup ?_ (by with_unfolding_all rfl)
  refine getItem_tuple_rev ht (Heap.IsSliceOf.new _ .none .none vs) ps ?_ (by rw [List.size_toArray]; omega)
  refine ⟨.ref _, _, I5.laid (t' := s4.toks) (o := .tup xs.reverse) (fun b ob q => Heap.get?_push_of_some _ q) (Nat.le_refl _) ?_, rfl, q _ (I5.hok.fresh (Nat.le_refl _))⟩
  exact ⟨by rw [List.length_reverse]; exact hz, _, r.reverse, IsTup.new _ _⟩
end R
end
section
/-! Compound expressions. -/
namespace R
open PySem L2
open PySem.Spec PyProof.Rows
section
variable {p : Par} {c : Ct} {X : Cx} {pe pe2 pe3 : Expr} {e a b d : E} {es : Es} {l : List Expr} {pos : Pos}
theorem small_le {n : Nat} (h : n ≤ 1000) : n ≤ sizeLine := Nat.le_trans h (by decide)
/-- a new list of own, at a -/
def rdF (p : Par) (e : E) : TE := fun σ H Q => ∃ env w φ P, Rel p env w φ P σ H ∧ Ans p (ev p.G p.F p.np env e w) φ P H fun v _ φ' P' H' => ∀ ds a vs, v = .d (.list ds) → H a = none → P' a → a ∉ φ' → H' a = some (.lst vs) → vs.length ≤ sizeLine →
  RpL p.K H' (Av P' env σ (esc e)) vs ds → Q (.ref a) H'
/-- behind it the address may be left out of what is to be shunned -/
theorem drop_addr {φ φ' : List Addr} {P P' : AO} {w : Wd} {H H' : Hp} {a : Addr} (n : H a = none) (hp : Held H P) (E : Ev φ P H φ' P' H') (W : Wst φ' w P' H') (hn : a ∉ φ') : Ev φ P H φ' (fun z => P' z ∧ z ≠ a) H' ∧ Wst φ' w (fun z => P' z ∧ z ≠ a) H' :=
  ⟨⟨E.pre, E.kp, E.dm, fun z h => ⟨E.up z h, fun q => hp.new n (q ▸ h)⟩, fun z h => E.nw z h.1, E.nf⟩,
   ⟨fun z h => W.held z h.1, ⟨W.wr.len, W.wr.at_, fun z h => ⟨W.wr.av z h, fun q => hn (q ▸ h)⟩, W.wr.nd⟩⟩⟩
theorem rdE_of_rdF (h : PE X pe (rdF p e)) (hl : ∀ env w v w', ev p.G p.F p.np env e w = .ok v w' → ∃ ds, v = .d (.list ds)) : PE X pe (rdE p e) := PEi h fun σ H Q ⟨env, w, φ, P, R, A⟩ => by
  refine ⟨env, w, φ, P, R, ?_⟩
  generalize hg : ev p.G p.F p.np env e w = r at A
  cases r with
  | bad => exact A
  | exc c x w' => exact A
  | ok v w' =>
    intro H' φ' P' E W ds a vs ev0 n hp hn ha hz hd
    subst ev0
    obtain ⟨E2, W2⟩ := drop_addr n R.st.held E W hn
    exact A H' φ' _ E2 W2 _ (.lst (.inl ⟨ha, fun z => z.1.2 rfl⟩) hz (RpL.cr (Cr.weak fun x h => ⟨h.1.1, h.2⟩) _ _ hd))
theorem rd_tup {k : Nat} (ha : PA X l (rdEs p es)) (hm : mEs c es l = true) (hl : l.length ≤ 1000) : PE X (.Tuple l k pos) (rdE p (.tup es)) := by
  refine PEi (pe_tup ha) fun σ H Q ⟨env, w, φ, P, R, A⟩ => ?_
  simp only [ev] at A
  refine ⟨env, w, φ, P, R, A.bind.impE fun vs w1 φ1 P1 H1 he E1 W1 A1 xs rx => ?_⟩
  obtain ⟨v, e1, A1⟩ := A1.opt
  simp only [Option.map_eq_some_iff] at e1
  obtain ⟨ds, e1, rfl⟩ := e1
  have z : xs.length ≤ sizeLine := by
    rw [rx.length, evs_len he, ← mEs_len hm]
    exact small_le hl
  refine ⟨z, fun q nq => ?_⟩
  have k1 : Kp H1 (upd H1 q (.tup xs)) := Kp.upd nq
  exact A1 _ _ _ (Ev.of_kp k1) (W1.kp k1) _ (.tup (.inl (.inl upd_same)) z (RpL.cr (Cr.kp k1 fun _ h => .inl h) _ _ (by simpa [esc] using rx.datas e1)))
/-- a list is made at q -/
theorem ev_new {φ : List Addr} {P : AO} {w : Wd} {H : Hp} {q : Addr} {vs : List V} (n : H q = none) (W : Wst φ w P H) : Ev φ P H φ (fun z => P z ∨ z = q) (upd H q (.lst vs)) ∧ Wst φ w (fun z => P z ∨ z = q) (upd H q (.lst vs)) ∧ q ∉ φ := by
  have k1 : Kp H (upd H q (.lst vs)) := Kp.upd n
  refine ⟨⟨⟨[], by simp⟩, fun a o h _ => k1 a o h, k1.dm, fun _ h => .inl h, fun a (h : P a ∨ a = q) => h.imp id fun e => by rw [e]; exact n, fun _ h => .inl h⟩, ⟨fun a h => ?_, ⟨W.wr.len, ?_, fun a h => .inl (W.wr.av a h), W.wr.nd⟩⟩, fun h => ?_⟩
  · rcases h with h | rfl
    · obtain ⟨us, e⟩ := W.held a h
      exact ⟨us, k1 _ _ e⟩
    · exact ⟨vs, upd_same⟩
  · intro i a ns h1 h2
    obtain ⟨q1, q2⟩ := W.wr.at_ i a ns h1 h2
    exact ⟨k1 _ _ q1, q2⟩
  · obtain ⟨us, e⟩ := W.lists q h
    rw [n] at e
    cases e
theorem rd_lst (ha : PA X l (rdEs p es)) (hm : mEs c es l = true) (hl : l.length ≤ 1000) : PE X (.List l pos) (rdF p (.lst es)) := by
  refine PEi (pe_lst ha) fun σ H Q ⟨env, w, φ, P, R, A⟩ => ?_
  simp only [ev] at A
  refine ⟨env, w, φ, P, R, A.bind.impE fun vs w1 φ1 P1 H1 he E1 W1 A1 xs rx => ?_⟩
  obtain ⟨v, e1, A1⟩ := A1.opt
  simp only [Option.map_eq_some_iff] at e1
  obtain ⟨ds, e1, rfl⟩ := e1
  have z : xs.length ≤ sizeLine := by
    rw [rx.length, evs_len he, ← mEs_len hm]
    exact small_le hl
  refine ⟨z, fun q nq => ?_⟩
  have k1 : Kp H1 (upd H1 q (.lst xs)) := Kp.upd nq
  obtain ⟨E2, W2, nφ⟩ := ev_new (vs := xs) nq W1
  refine A1 _ _ _ E2 W2 ds q xs rfl (E1.dm q nq) (.inr rfl) nφ upd_same z (RpL.cr (Cr.kp k1 fun x h => ?_) _ _ (rx.datas e1))
  rcases h.1 with h1 | h1
  · exact .inl ⟨h1, by simpa [esc] using h.2⟩
  · exact .inr (h1 ▸ nq)
theorem rd_new (ha : PA X l (rdEs p es)) (hm : mEs c es l = true) (hl : l.length ≤ 1000) : PE X (.List l pos) (rdE p (.new es)) := by
  refine PEi (pe_lst ha) fun σ H Q ⟨env, w, φ, P, R, A⟩ => ?_
  simp only [ev] at A
  refine ⟨env, w, φ, P, R, A.bind.impE fun vs w1 φ1 P1 H1 he E1 W1 A1 xs rx => ?_⟩
  have z : xs.length ≤ sizeLine := by
    rw [rx.length, evs_len he, ← mEs_len hm]
    exact small_le hl
  refine ⟨z, fun q nq => ?_⟩
  cases e1 : (datas vs).bind asInts with
  | none =>
    rw [e1] at A1
    exact A1.elim
  | some ns =>
    rw [e1] at A1
    simp only [Option.bind_eq_some_iff] at e1
    obtain ⟨ds, e1, e2⟩ := e1
    obtain rfl := RpL.ints _ _ _ (rx.datas e1) e2
    have k1 : Kp H1 (upd H1 q (.lst (ns.map V.int))) := Kp.upd nq
    obtain ⟨E2, W2, nφ⟩ := ev_new (vs := ns.map V.int) nq W1
    have lw := W1.wr.len
    refine A1 _ (φ1 ++ [q]) (fun z => P1 z ∨ z = q) ⟨⟨[q], rfl⟩, E2.kp, E2.dm, E2.up, E2.nw, fun a h => ?_⟩ ⟨W2.held, ⟨by rw [List.length_append, List.length_append, lw]; rfl, fun i a ms h1 h2 => ?_, fun a h => ?_, ?_⟩⟩ _ ⟨q, ?_, rfl⟩
    · rcases List.mem_append.mp h with h | h
      · exact .inl h
      · obtain rfl := List.mem_singleton.mp h
        exact .inr nq
    · by_cases hi : i < φ1.length
      · rw [List.getElem?_append_left hi] at h1
        rw [List.getElem?_append_left (by omega)] at h2
        exact W2.wr.at_ i a ms h1 h2
      · have hi2 : i = φ1.length := by
          have := (List.getElem?_eq_some_iff.mp h1).1
          rw [List.length_append] at this
          simp at this
          omega
        subst hi2
        rw [List.getElem?_append_right (Nat.le_refl _)] at h1
        rw [lw, List.getElem?_append_right (Nat.le_refl _)] at h2
        simp at h1 h2
        subst h1 h2
        exact ⟨upd_same, by simpa using z⟩
    · rcases List.mem_append.mp h with h | h
      · exact .inl (W1.wr.av a h)
      · exact .inr (List.mem_singleton.mp h)
    · rw [List.nodup_append]
      refine ⟨W1.wr.nd, by simp, fun a h b h' e => ?_⟩
      obtain rfl := List.mem_singleton.mp h'
      exact nφ (e ▸ h)
    · rw [← lw, List.getElem?_append_right (Nat.le_refl _), Nat.sub_self]
      rfl
theorem rd_rep (ha : PA X l (rdEs p es)) (hb : PE X pe (rdE p a)) (hm : mEs c es l = true) (hl : l.length ≤ 1000) {q1 : Pos} : PE X (.BinOp (.List l q1) .Mult pe pos) (rdF p (.rep es a)) := by
  refine PEi (pe_op op_rep (pe_lst ha) hb) fun σ H Q ⟨env, w, φ, P, R, A⟩ => ?_
  simp only [ev] at A
  refine ⟨env, w, φ, P, R, A.bind.impE fun vs w1 φ1 P1 H1 he E1 W1 A1 xs rx => ?_⟩
  have z : xs.length ≤ sizeLine := by
    rw [rx.length, evs_len he, ← mEs_len hm]
    exact small_le hl
  refine ⟨z, fun q nq => ?_⟩
  have k1 : Kp H1 (upd H1 q (.lst xs)) := Kp.upd nq
  obtain ⟨E2, W2, nφ⟩ := ev_new (vs := xs) nq W1
  have R1 := R.ev E1 W1
  have R2 := R1.ev E2 W2
  refine ⟨env, w1, φ1, _, R2, (A1.ev E2).bind.imp fun u w2 φ2 P2 H2 E3 W3 A2 y ry => ?_⟩
  cases e1 : datas vs with
  | none =>
    rw [e1] at A2
    exact A2.elim
  | some ds =>
    rw [e1] at A2
    cases u with
    | loc n => exact A2.elim
    | d dk =>
      cases dk <;> first | exact A2.elim | skip
      rename_i k
      cases ry
      by_cases hc : (decide (-(2 ^ 63) ≤ k) && decide (k < 2 ^ 63) && fits (ds.length * k.toNat)) = true
      · simp only [hc, if_true] at A2
        simp only [Bool.and_eq_true, decide_eq_true_eq] at hc
        have hz : ds.length * k.toNat ≤ sizeLine := of_decide_eq_true hc.2
        have rl : RpL p.K H1 (Av P1 env σ (escs es)) xs ds := rx.datas e1
        have hq2 : H2 q = some (.lst xs) := E3.kp q _ upd_same nφ
        refine ⟨q, k, xs, rfl, rfl, hq2, hc.1.1, hc.1.2, by rw [rl.length]; exact hz, fun q2 nq2 => ?_⟩
        have k3 : Kp H2 (upd H2 q2 (.lst (List.replicate k.toNat xs).flatten)) := Kp.upd nq2
        obtain ⟨E4, W4, nφ2⟩ := ev_new (vs := (List.replicate k.toNat xs).flatten) nq2 W3
        have C : Cr H1 (Av P1 env σ (escs es)) (upd H2 q2 (.lst (List.replicate k.toNat xs).flatten)) (Av (fun z => P2 z ∨ z = q2) env σ (esc (.rep es a))) :=
          ((E2.trans E3).trans E4).cr W1 (R1.av_phi _) fun x h => by
            have h2 : ¬ Ob env σ (escs es) x := by simpa [esc] using h.2
            rcases h.1 with h1 | rfl
            · rcases (E2.trans E3).nw x h1 with h1 | h1
              · exact .inl ⟨h1, h2⟩
              · exact .inr h1
            · exact .inr (E2.dm x (E3.dm x nq2))
        refine A2 _ _ _ E4 W4 _ q2 _ rfl (E1.dm _ (E2.dm _ (E3.dm _ nq2))) (.inr rfl) nφ2 upd_same ?_ ((RpL.cr C _ _ rl).rep _)
        rw [List.length_flatten, List.map_replicate, List.sum_replicate_nat, rl.length, Nat.mul_comm]
        exact hz
      · simp only [hc] at A2
        exact A2.elim
theorem rd_neg (ha : PE X pe (rdE p a)) : PE X (.UnaryOp .USub pe pos) (rdE p (.neg a)) := by
  refine PEi (pe_un un_neg ha) fun σ H Q ⟨env, w, φ, P, R, A⟩ => ?_
  simp only [ev] at A
  refine ⟨env, w, φ, P, R, A.bind.imp fun v w1 φ1 P1 H1 E1 W1 A1 x rx => ?_⟩
  cases v with
  | loc n => exact A1.elim
  | d dv =>
    cases dv <;> first | exact A1.elim | skip
    cases rx
    exact ⟨_, rfl, A1.here W1 _ (.int _)⟩
/-- a truth value -/
theorem bool_of {K : PySem.W.Frag} {H : Hp} {P : AO} {φ : List Addr} {x : V} {b : Bool} (r : RpV K H P φ x (.d (.bool b))) : x = .bl b := by
  cases r
  rfl
theorem rdT_val (h : PE X pe (rdE p e)) (ht : ∀ whole, isTrue pe X.env whole = (do let v ← whole; standAt pe.pos; holding [v] (truthy v))) : PT X pe (rdT p e) := by
  refine PTi (pt_val h ht) fun σ H Q ⟨env, w, φ, P, R, A⟩ => ⟨env, w, φ, P, R, A.bind.imp fun v w1 φ1 P1 H1 E1 W1 A1 x rx => ?_⟩
  obtain ⟨b, rfl, A1⟩ := A1.bool
  exact ⟨b, bool_of rx, A1.here W1⟩
theorem rd_no (ha : PE X pe (rdE p a)) (ht : PT X pe (rdT p a)) : PE X (.UnaryOp .Not pe pos) (rdE p (.no a)) ∧ PT X (.UnaryOp .Not pe pos) (rdT p (.no a)) := by
  constructor
  · refine PEi (pe_not ha) fun σ H Q ⟨env, w, φ, P, R, A⟩ => ?_
    simp only [ev] at A
    refine ⟨env, w, φ, P, R, A.bind.imp fun v w1 φ1 P1 H1 E1 W1 A1 x rx => ?_⟩
    obtain ⟨b, rfl, A2⟩ := A1.bind.bool
    exact ⟨b, bool_of rx, (A2.here W1).here W1 _ (.bl _)⟩
  · refine PTi (pt_not ht) fun σ H Q ⟨env, w, φ, P, R, A⟩ => ?_
    simp only [ev] at A
    refine ⟨env, w, φ, P, R, ?_⟩
    have A1 := A.bind
    generalize hg : ev p.G p.F p.np env a w = r at A A1 ⊢
    cases r with
    | bad => exact A.elim
    | exc c x w' => exact A
    | ok v w' =>
      cases v with
      | loc n => exact A.elim
      | d dv =>
        cases dv <;> first | exact A.elim | skip
        exact A
/-- and, or: the rest of the tests -/
structure Bl (p : Par) (X : Cx) (conj : Bool) (es : Es) (l : List Expr) : Prop where
  e : ∀ pos, PE X (.BoolOp (if conj then .And else .Or) l pos) fun σ H Q => ∃ env w φ P, Rel p env w φ P σ H ∧ Ans p (evB p.G p.F p.np env conj es w) φ P H fun v _ φ' P' H' => ∀ x, RpV p.K H' P' φ' x v → Q x H'
  t : ∀ pos, PW X (.BoolOp (if conj then .And else .Or) l pos) fun σ H Q => ∃ env w φ P, Rel p env w φ P σ H ∧ Ans p ((evB p.G p.F p.np env conj es w).bind boolOf) φ P H fun b _ _ _ H' => Q b H'
theorem bl_one {conj : Bool} (ha : PE X pe (rdE p a)) (ht : PT X pe (rdT p a)) : Bl p X conj (.cons a .nil) [pe] := by
  have same : ∀ env w, (ev p.G p.F p.np env a w).bind (fun v w => (boolOf v w).bind fun b w => if b = conj then evB p.G p.F p.np env conj .nil w else .ok (.d (.bool b)) w) = (ev p.G p.F p.np env a w).bind fun v w => (boolOf v w).bind fun b w => .ok (.d (.bool b)) w := by
    intro env w
    congr
    funext v w
    congr
    funext b w
    by_cases h : b = conj
    · rw [if_pos h, h]
      simp only [evB]
    · rw [if_neg h]
  constructor
  · intro pos
    refine PEi (pe_one ha) fun σ H Q ⟨env, w, φ, P, R, A⟩ => ?_
    simp only [evB.eq_2] at A
    rw [same] at A
    refine ⟨env, w, φ, P, R, A.bind.imp fun v w1 φ1 P1 H1 E1 W1 A1 x rx => ?_⟩
    obtain ⟨b, rfl, A2⟩ := A1.bind.bool
    obtain rfl := bool_of rx
    exact (A2.here W1).here W1 _ (.bl _)
  · intro pos
    have hw : PW X (.BoolOp (if conj = true then .And else .Or) [pe] pos) (rdT p a) := by
      cases conj
      · exact pw_or1 ht
      · exact pw_and1 ht
    refine PWi hw fun σ H Q ⟨env, w, φ, P, R, A⟩ => ⟨env, w, φ, P, R, ?_⟩
    simp only [evB.eq_2] at A
    rw [same] at A
    generalize hg : ev p.G p.F p.np env a w = r at A ⊢
    cases r with
    | bad => exact A.elim
    | exc c x w' => exact A
    | ok v w' =>
      cases v with
      | loc n => exact A.elim
      | d dv =>
        cases dv <;> first | exact A.elim | skip
        exact A
theorem bl_cons {conj : Bool} {l : List Expr} (ha : PE X pe (rdE p a)) (ht : PT X pe (rdT p a)) (r : Bl p X conj es (pe2 :: l)) : Bl p X conj (.cons a es) (pe :: pe2 :: l) := by
  constructor
  · intro pos
    cases conj with
    | true =>
      refine PEi (pe_and ha (r.e pos)) fun σ H Q ⟨env, w, φ, P, R, A⟩ => ?_
      simp only [evB.eq_2] at A
      refine ⟨env, w, φ, P, R, A.bind.imp fun v w1 φ1 P1 H1 E1 W1 A1 x rx => ?_⟩
      obtain ⟨b, rfl, A2⟩ := A1.bind.bool
      obtain rfl := bool_of rx
      have A3 := A2.here W1
      refine ⟨b, rfl, ?_⟩
      cases b with
      | true =>
        simp only [if_true] at A3 ⊢
        exact ⟨env, w1, φ1, P1, R.ev E1 W1, A3⟩
      | false => exact A3.here W1 _ (.bl _)
    | false =>
      refine PEi (pe_or ha (r.e pos)) fun σ H Q ⟨env, w, φ, P, R, A⟩ => ?_
      simp only [evB.eq_2] at A
      refine ⟨env, w, φ, P, R, A.bind.imp fun v w1 φ1 P1 H1 E1 W1 A1 x rx => ?_⟩
      obtain ⟨b, rfl, A2⟩ := A1.bind.bool
      obtain rfl := bool_of rx
      have A3 := A2.here W1
      refine ⟨b, rfl, ?_⟩
      cases b with
      | false =>
        exact ⟨env, w1, φ1, P1, R.ev E1 W1, A3⟩
      | true => exact A3.here W1 _ (.bl _)
  · intro pos
    cases conj with
    | true =>
      refine PWi (pw_and ht (r.t pos)) fun σ H Q ⟨env, w, φ, P, R, A⟩ => ?_
      simp only [evB.eq_2] at A
      refine ⟨env, w, φ, P, R, ?_⟩
      have A1 : Ans p ((ev p.G p.F p.np env a w).bind fun v w => (boolOf v w).bind fun b w => (if b = true then evB p.G p.F p.np env true es w else .ok (.d (.bool b)) w).bind boolOf) φ P H fun b _ _ _ H' => Q b H' := by
        rw [show ((ev p.G p.F p.np env a w).bind fun v w => (boolOf v w).bind fun b w => (if b = true then evB p.G p.F p.np env true es w else .ok (.d (.bool b)) w).bind boolOf) = ((ev p.G p.F p.np env a w).bind fun v w => (boolOf v w).bind fun b w => if b = true then evB p.G p.F p.np env true es w else .ok (.d (.bool b)) w).bind boolOf by
          rw [bind_assoc']
          congr
          funext v w
          rw [bind_assoc']]
        exact A
      rw [← bind_assoc' (r := ev p.G p.F p.np env a w)] at A1
      refine A1.bind.imp fun b w1 φ1 P1 H1 E1 W1 A2 => ?_
      cases b with
      | true => exact ⟨env, w1, φ1, P1, R.ev E1 W1, A2⟩
      | false => exact A2.here W1
    | false =>
      refine PWi (pw_or ht (r.t pos)) fun σ H Q ⟨env, w, φ, P, R, A⟩ => ?_
      simp only [evB.eq_2] at A
      refine ⟨env, w, φ, P, R, ?_⟩
      have A1 : Ans p ((ev p.G p.F p.np env a w).bind fun v w => (boolOf v w).bind fun b w => (if b = false then evB p.G p.F p.np env false es w else .ok (.d (.bool b)) w).bind boolOf) φ P H fun b _ _ _ H' => Q b H' := by
        rw [show ((ev p.G p.F p.np env a w).bind fun v w => (boolOf v w).bind fun b w => (if b = false then evB p.G p.F p.np env false es w else .ok (.d (.bool b)) w).bind boolOf) = ((ev p.G p.F p.np env a w).bind fun v w => (boolOf v w).bind fun b w => if b = false then evB p.G p.F p.np env false es w else .ok (.d (.bool b)) w).bind boolOf by
          rw [bind_assoc']
          congr
          funext v w
          rw [bind_assoc']]
        exact A
      rw [← bind_assoc' (r := ev p.G p.F p.np env a w)] at A1
      refine A1.bind.imp fun b w1 φ1 P1 H1 E1 W1 A2 => ?_
      cases b with
      | false => exact ⟨env, w1, φ1, P1, R.ev E1 W1, A2⟩
      | true => exact A2.here W1
theorem rd_bools {conj : Bool} (r : Bl p X conj es l) : PE X (.BoolOp (if conj then .And else .Or) l pos) (rdE p (.bools conj es)) ∧ PT X (.BoolOp (if conj then .And else .Or) l pos) (rdT p (.bools conj es)) := by
  refine ⟨PEi (r.e pos) fun σ H Q ⟨env, w, φ, P, R, A⟩ => ?_, PTi (r.t pos).pt fun σ H Q ⟨env, w, φ, P, R, A⟩ => ?_⟩
  · simp only [ev] at A
    exact ⟨env, w, φ, P, R, A.imp fun v w1 φ1 P1 H1 E1 W1 T x rx => T x (rx.mono Av.le)⟩
  · simp only [ev] at A
    exact ⟨env, w, φ, P, R, A⟩
theorem rd_bin {o : Op2} {op : Operator} (ho : binOf o = some op) (hK : X.K = p.K) (ha : PE X pe (rdQ p a)) (hb : PE X pe2 (rdQ p b)) : PE X (.BinOp pe op pe2 pos) (rdE p (.op2 o a b)) := by
  refine PEi (pe_op (bin_ok (X := X) ho) ha hb) fun σ H Q ⟨env, w, φ, P, R, A⟩ => ?_
  rw [hK]
  simp only [ev] at A
  refine ⟨env, w, φ, P, R, A.bind.imp fun v w1 φ1 P1 H1 E1 W1 A1 x rx => ?_⟩
  obtain ⟨dx, rfl, A2⟩ := A1.bind.data
  have R1 := R.ev E1 W1
  refine ⟨env, w1, φ1, P1, R1, (A2.here W1).bind.imp fun u w2 φ2 P2 H2 E2 W2 A3 y ry => ?_⟩
  obtain ⟨dy, rfl, A4⟩ := A3.bind.data
  obtain ⟨z, e1, A5⟩ := (A4.here W2).opt
  simp only [Option.map_eq_some_iff] at e1
  obtain ⟨dz, e1, rfl⟩ := e1
  have rx2 := rx.ev E2 W1 (R1.av_phi _) (Av.nw E2)
  refine ⟨(· ∈ φ2), Av P2 env σ (escV a ++ escV b), dx, dy, dz, W2.held.av _, ?_, ?_, e1, fun t H' k r => ?_⟩
  · exact rqV_mono (v := .d dx) rx2 (Av.sub fun i hi => by simp [hi])
  · exact rqV_mono (v := .d dy) ry (Av.sub fun i hi => by simp [hi])
  · exact A5 _ _ _ (Ev.of_kp k) (W2.kp k) _ (by simp only [esc]; exact r)
theorem RpL.rev {K : PySem.W.Frag} {H : Hp} {P : AO} : ∀ {vs : List V} {ds : List PyData} (_ : RpL K H P vs ds), RpL K H P vs.reverse ds.reverse
  | _, _, .nil => .nil
  | _, _, .cons h t => by
    rw [List.reverse_cons, List.reverse_cons]
    exact t.rev.append (.cons h .nil)
theorem rd_rev {k : Nat} {p1 p2 p3 : Pos} (hK : X.K = p.K) (ha : PE X pe (rdQ p a)) : PE X (.Subscript pe (.Slice none none (some (.UnaryOp .USub (.Constant (.int 1) k p1) p2)) p3) pos) (rdE p (.rev a)) := by
  refine PEi (pe_revT ha) fun σ H Q ⟨env, w, φ, P, R, A⟩ => ?_
  rw [hK]
  simp only [ev] at A
  refine ⟨env, w, φ, P, R, A.bind.imp fun v w1 φ1 P1 H1 E1 W1 A1 x rx => ?_⟩
  obtain ⟨dx, rfl, A2⟩ := A1.bind.data
  obtain ⟨z, e1, A3⟩ := (A2.here W1).opt
  simp only [Option.map_eq_some_iff] at e1
  obtain ⟨dz, e1, rfl⟩ := e1
  unfold revV at e1
  split at e1
  · obtain rfl := Option.some.inj e1
    have rx : Rq p.K H1 (· ∈ φ1) (Av P1 env σ (escV a)) x _ := rx
    obtain ⟨b, xs, e, h1, h2, h3⟩ := rx.tuple
    refine ⟨b, xs, e, h1, fun q nq => ?_⟩
    have k1 : Kp H1 (upd H1 q (.tup xs.reverse)) := Kp.upd nq
    exact A3 _ _ _ (Ev.of_kp k1) (W1.kp k1) _ (.tup (.inl (.inl upd_same)) (by rw [List.length_reverse]; exact h2) (RpL.cr (Cr.kp k1 fun _ h => .inl h) _ _ (by simpa [esc] using h3.rev)))
  · cases e1
theorem rd_star {k : Nat} {es : Es} {l : List Expr} {q : Pos} (hK : X.K = p.K) (ha : PE X pe (rdQ p a)) (hr : PA X l (rdEs p es)) (hm : mEs c es l = true) (hl : l.length ≤ 1000) (hs : starEach (.Starred pe q :: l) X.env = (true, eval pe X.env) :: starEach l X.env) : PE X (.Tuple (.Starred pe q :: l) k pos) (rdE p (.star a es)) := by
  refine PEi (pe_tup (StX.pa_star ha hr hs)) fun σ H Q ⟨env, w, φ, P, R, A⟩ => ?_
  rw [hK]
  simp only [ev] at A
  refine ⟨env, w, φ, P, R, A.bind.imp fun v w1 φ1 P1 H1 E1 W1 A1 x rx => ?_⟩
  have R1 := R.ev E1 W1
  obtain ⟨dx, rfl, A2⟩ := A1.bind.data
  obtain ⟨ds, e1, A3⟩ := (A2.here W1).bind.opt
  have A4 := A3.here W1
  have key : ∃ b xs, x = V.ref b ∧ (SqT p.K H1 b xs ∨ SqL p.K H1 b xs) ∧ xs.length ≤ sizeLine ∧ RpL p.K H1 (Av P1 env σ (escV a)) xs ds := by
    have rx : Rq p.K H1 (· ∈ φ1) (Av P1 env σ (escV a)) x dx := rx
    rcases asSeq_some e1 with rfl | rfl
    · obtain ⟨b, xs, e, h1, h2, h3⟩ := rx.list
      exact ⟨b, xs, e, .inr h1.sq, h2, h3⟩
    · obtain ⟨b, xs, e, h1, h2, h3⟩ := rx.tuple
      exact ⟨b, xs, e, .inl h1, h2, h3⟩
  obtain ⟨b, xs, e, h1, h2, h3⟩ := key
  refine ⟨b, xs, e, h1, env, w1, φ1, P1, R1, A4.bind.imp fun vs w2 φ2 P2 H2 E2 W2 A5 ys rys => ?_⟩
  obtain ⟨z, e2, A6⟩ := A5.opt
  simp only [Option.bind_eq_some_iff] at e2
  obtain ⟨ds2, e2, e3⟩ := e2
  obtain ⟨f, rfl⟩ := if_some e3
  have r2 := rys.datas e2
  have zz : (xs ++ ys).length ≤ sizeLine := by
    rw [List.length_append, h3.length, r2.length]
    exact of_decide_eq_true f
  refine ⟨zz, fun q nq => ?_⟩
  have k1 : Kp H2 (upd H2 q (.tup (xs ++ ys))) := Kp.upd nq
  have h4 : RpL p.K H2 (Av P2 env σ (escV a ++ escs es)) xs ds := RpL.cr (Cr.trans (E2.cr W1 (R1.av_phi (escV a)) (Av.nw E2)) (Cr.weak (Av.sub fun i hi => by simp [hi]))) _ _ h3
  have h5 : RpL p.K H2 (Av P2 env σ (escV a ++ escs es)) ys ds2 := RpL.cr (Cr.weak (Av.sub fun i hi => by simp [hi])) _ _ r2
  exact A6 _ _ _ (Ev.of_kp k1) (W2.kp k1) _ (.tup (.inl (.inl upd_same)) zz (RpL.cr (Cr.kp k1 fun _ h => .inl h) _ _ (by simpa [esc] using h4.append h5)))
theorem rd_cmp {o : Op2} {op : CmpOp} (ho : cmpOf o = some op) (hu : X.A.units + 65 < cLine) (hK : X.K = p.K) (ha : PE X pe (rdQ p a)) (hb : PE X pe2 (rdQ p b)) (hm : ∀ op, behindInMarks op pe2 = false) :
    PE X (.Compare pe [op] [pe2] pos) (rdE p (.op2 o a b)) ∧ PT X (.Compare pe [op] [pe2] pos) (rdT p (.op2 o a b)) := by
  have key : ∀ {σ : L2.St} {H : Hp} {Q : VK}, rdE p (.op2 o a b) σ H Q → tOp (rOp X.K o) (rdQ p a) (rdQ p b) σ H Q := by
    intro σ H Q ⟨env, w, φ, P, R, A⟩
    rw [hK]
    simp only [ev] at A
    refine ⟨env, w, φ, P, R, A.bind.imp fun v w1 φ1 P1 H1 E1 W1 A1 x rx => ?_⟩
    obtain ⟨dx, rfl, A2⟩ := A1.bind.data
    have R1 := R.ev E1 W1
    refine ⟨env, w1, φ1, P1, R1, (A2.here W1).bind.imp fun u w2 φ2 P2 H2 E2 W2 A3 y ry => ?_⟩
    obtain ⟨dy, rfl, A4⟩ := A3.bind.data
    obtain ⟨z, e1, A5⟩ := (A4.here W2).opt
    simp only [Option.map_eq_some_iff] at e1
    obtain ⟨dz, e1, rfl⟩ := e1
    have rx2 := rx.ev E2 W1 (R1.av_phi _) (Av.nw E2)
    refine ⟨(· ∈ φ2), Av P2 env σ (escV a ++ escV b), dx, dy, dz, W2.held.av _, ?_, ?_, e1, fun t H' k r => ?_⟩
    · exact rqV_mono (v := .d dx) rx2 (Av.sub fun i hi => by simp [hi])
    · exact rqV_mono (v := .d dy) ry (Av.sub fun i hi => by simp [hi])
    · exact A5 _ _ _ (Ev.of_kp k) (W2.kp k) _ (by simp only [esc]; exact r)
  refine ⟨PEi (pe_cmpR (cmp_ok (X := X) hu ho) ha hb (hm op)) fun σ H Q q => key q, PTi (pt_cmpR (cmp_ok (X := X) hu ho) ha hb (hm op)) fun σ H Q ⟨env, w, φ, P, R, A⟩ => ?_⟩
  refine key ⟨env, w, φ, P, R, A.bind.imp fun v w1 φ1 P1 H1 E1 W1 A1 x rx => ?_⟩
  obtain ⟨k, rfl, A2⟩ := A1.bool
  exact ⟨k, bool_of rx, A2.here W1⟩
theorem rd_chain {o q : Op2} {op op' : CmpOp} (ho : cmpOf o = some op) (hq : cmpOf q = some op') (hu : X.A.units + 65 < cLine) (hK : X.K = p.K) (ha : PE X pe (rdQ p a)) (hb : PE X pe2 (rdQ p b)) (hd : PE X pe3 (rdQ p d)) (hm : ∀ op, behindInMarks op pe3 = false) :
    PE X (.Compare pe [op, op'] [pe2, pe3] pos) (rdE p (.chain o q a b d)) ∧ PT X (.Compare pe [op, op'] [pe2, pe3] pos) (rdT p (.chain o q a b d)) := by
  have key : ∀ {σ : L2.St} {H : Hp} {Q : VK}, rdE p (.chain o q a b d) σ H Q → tChain (rOp X.K o) (rOp X.K q) (rdQ p a) (rdQ p b) (rdQ p d) σ H Q := by
    intro σ H Q ⟨env, w, φ, P, R, A⟩
    rw [hK]
    simp only [ev] at A
    refine ⟨env, w, φ, P, R, A.bind.imp fun v w1 φ1 P1 H1 E1 W1 A1 x rx => ?_⟩
    obtain ⟨dx, rfl, A2⟩ := A1.bind.data
    have R1 := R.ev E1 W1
    refine ⟨env, w1, φ1, P1, R1, (A2.here W1).bind.imp fun u w2 φ2 P2 H2 E2 W2 A3 y ry => ?_⟩
    obtain ⟨dy, rfl, A4⟩ := A3.bind.data
    have R2 := R1.ev E2 W2
    obtain ⟨dt, e1, A5⟩ := (A4.here W2).bind.opt
    have rx2 := rx.ev E2 W1 (R1.av_phi _) (Av.nw E2)
    refine ⟨(· ∈ φ2), Av P2 env σ (escV a ++ escV b), dx, dy, dt, W2.held.av _, rqV_mono (v := .d dx) rx2 (Av.sub fun i hi => by simp [hi]), rqV_mono (v := .d dy) ry (Av.sub fun i hi => by simp [hi]), e1, fun t H' k r => ?_⟩
    have W3 := W2.kp k
    have E3 : Ev φ2 P2 H2 φ2 P2 H' := Ev.of_kp k
    have A6 := A5 _ _ _ E3 W3
    cases dt <;> first | exact A6.elim | skip
    rename_i tb
    cases r
    refine ⟨tb, rfl, ?_⟩
    cases tb with
    | false => exact A6.here W3 _ (.bl _)
    | true =>
      simp only [if_true]
      have R3 := R2.ev E3 W3
      refine ⟨env, w2, φ2, P2, R3, A6.bind.imp fun u w4 φ4 P4 H4 E4 W4 A7 z rz => ?_⟩
      obtain ⟨dz, rfl, A8⟩ := A7.bind.data
      obtain ⟨g, e2, A9⟩ := (A8.here W4).opt
      simp only [Option.map_eq_some_iff] at e2
      obtain ⟨dg, e2, rfl⟩ := e2
      have ry2 := ry.ev (E3.trans E4) W2 (R2.av_phi _) (Av.nw (E3.trans E4))
      refine ⟨(· ∈ φ4), Av P4 env σ (escV b ++ escV d), dy, dz, dg, W4.held.av _, rqV_mono (v := .d dy) ry2 (Av.sub fun i hi => by simp [hi]), rqV_mono (v := .d dz) rz (Av.sub fun i hi => by simp [hi]), e2, fun t H5 k5 r5 => ?_⟩
      exact A9 _ _ _ (Ev.of_kp k5) (W4.kp k5) _ (by simp only [esc]; exact r5)
  have hl : lastMarks [op, op'] [pe2, pe3] = false := hm op'
  refine ⟨PEi (pe_chain (cmp_ok (X := X) hu ho) (cmp_ok (X := X) hu hq) ha hb hd hl) fun σ H Q q => key q, PTi (pt_chain (cmp_ok (X := X) hu ho) (cmp_ok (X := X) hu hq) ha hb hd hl) fun σ H Q ⟨env, w, φ, P, R, A⟩ => ?_⟩
  refine key ⟨env, w, φ, P, R, A.bind.imp fun v w1 φ1 P1 H1 E1 W1 A1 x rx => ?_⟩
  obtain ⟨k, rfl, A2⟩ := A1.bool
  exact ⟨k, bool_of rx, A2.here W1⟩
theorem non_iff {K : PySem.W.Frag} {H : Hp} {P : AO} {x : V} {d : PyData} (r : Rp K H P x d) : decide (x = .non) = (match d with
    | .none => true
    | _ => false) := by
  cases r <;> first | rfl | exact decide_eq_false (fun z => nomatch z)
theorem rd_isN {tr : Bool} {j : Nat} {q : Pos} (ha : PE X pe (rdE p a)) : PE X (.Compare pe [if tr then .Is else .IsNot] [.Constant .none j q] pos) (rdE p (.isN tr a)) ∧ PT X (.Compare pe [if tr then .Is else .IsNot] [.Constant .none j q] pos) (rdT p (.isN tr a)) := by
  have key : ∀ {σ : L2.St} {H : Hp} {Q : VK}, rdE p (.isN tr a) σ H Q → rdE p a σ H fun x H1 => Q (.bl (if tr then decide (x = .non) else !decide (x = .non))) H1 := by
    intro σ H Q ⟨env, w, φ, P, R, A⟩
    simp only [ev] at A
    refine ⟨env, w, φ, P, R, A.bind.imp fun v w1 φ1 P1 H1 E1 W1 A1 x rx => ?_⟩
    obtain ⟨dx, rfl, A2⟩ := A1.bind.data
    have T := (A2.here W1).here W1 _ (.bl _)
    rw [non_iff rx]
    cases tr <;> cases dx <;> exact T
  have tst : ∀ {σ : L2.St} {H : Hp} {Q : Bool → Hp → Prop}, rdT p (.isN tr a) σ H Q → rdE p a σ H fun x H1 => Q (if tr then decide (x = .non) else !decide (x = .non)) H1 := by
    intro σ H Q ⟨env, w, φ, P, R, A⟩
    have q := key (Q := fun x H1 => ∃ k, x = .bl k ∧ Q k H1) ⟨env, w, φ, P, R, A.bind.imp fun v w1 φ1 P1 H1 E1 W1 A1 x rx => by
      obtain ⟨k, rfl, A2⟩ := A1.bool
      exact ⟨k, bool_of rx, A2.here W1⟩⟩
    obtain ⟨env, w, φ, P, R, A⟩ := q
    refine ⟨env, w, φ, P, R, A.imp fun v w1 φ1 P1 H1 E1 W1 A1 x rx => ?_⟩
    obtain ⟨k, e, q⟩ := A1 x rx
    cases e
    exact q
  cases tr with
  | true => exact ⟨PEi (pe_cmp (pc_isN ha)) fun σ H Q q => key q, PTi (pt_cmp (pc_isN ha)) fun σ H Q q => by
      obtain ⟨env, w, φ, P, R, A⟩ := tst q
      exact ⟨env, w, φ, P, R, A.imp fun v w1 φ1 P1 H1 E1 W1 A1 x rx => ⟨_, rfl, A1 x rx⟩⟩⟩
  | false => exact ⟨PEi (pe_cmp (pc_notN ha)) fun σ H Q q => key q, PTi (pt_cmp (pc_notN ha)) fun σ H Q q => by
      obtain ⟨env, w, φ, P, R, A⟩ := tst q
      exact ⟨env, w, φ, P, R, A.imp fun v w1 φ1 P1 H1 E1 W1 A1 x rx => ⟨_, rfl, A1 x rx⟩⟩⟩
theorem rd_ite (hc : PT X pe (rdT p d)) (ha : PE X pe2 (rdE p a)) (hb : PE X pe3 (rdE p b)) : PE X (.IfExp pe pe2 pe3 pos) (rdE p (.ite d a b)) := by
  refine PEi (pe_ifExp hc ha hb) fun σ H Q ⟨env, w, φ, P, R, A⟩ => ?_
  simp only [ev] at A
  rw [← bind_assoc' (r := ev p.G p.F p.np env d w)] at A
  refine ⟨env, w, φ, P, R, A.bind.imp fun t w1 φ1 P1 H1 E1 W1 A1 => ?_⟩
  cases t with
  | true =>
    simp only [if_true] at A1 ⊢
    exact ⟨env, w1, φ1, P1, R.ev E1 W1, A1.imp fun v w2 φ2 P2 H2 E2 W2 T x rx => T x (rx.mono (Av.sub fun i hi => by simp [esc, hi]))⟩
  | false => exact ⟨env, w1, φ1, P1, R.ev E1 W1, A1.imp fun v w2 φ2 P2 H2 E2 W2 T x rx => T x (rx.mono (Av.sub fun i hi => by simp [esc, hi]))⟩
theorem ixV_int {x y z : PyData} (h : ixV x y = some z) : ∃ i, y = .int i := by
  unfold ixV at h
  split at h <;> first | cases h | skip
  · exact ⟨_, rfl⟩
  · exact ⟨_, rfl⟩
theorem Rq.anyInt {K : PySem.W.Frag} {H : Hp} {S P P' : AO} {y : V} {i : Int} (r : Rq K H S P y (.int i)) : Rq K H S P' y (.int i) := by
  obtain rfl := r.int
  exact .of (.int i) fun _ z => nomatch z
theorem rd_ix (hK : X.K = p.K) (ha : PE X pe (rdQ p a)) (hb : PE X pe2 (rdQ p b)) (hp : PlainIx pe2) : PE X (.Subscript pe pe2 pos) (rdE p (.ix a b)) := by
  refine PEi (pe_ix (IxR.or (ix_d (X := X)) (ix_w (X := X))) ha hb hp) fun σ H Q ⟨env, w, φ, P, R, A⟩ => ?_
  rw [hK]
  simp only [ev] at A
  refine ⟨env, w, φ, P, R, A.bind.imp fun v w1 φ1 P1 H1 E1 W1 A1 x rx => ?_⟩
  have R1 := R.ev E1 W1
  refine ⟨env, w1, φ1, P1, R1, A1.bind.imp fun u w2 φ2 P2 H2 E2 W2 A2 y ry => ?_⟩
  have rx2 := rx.ev E2 W1 (R1.av_phi _) (Av.nw E2)
  cases v with
  | d dx =>
    cases u with
    | loc n => exact A2.elim
    | d dy =>
      obtain ⟨z, e1, A3⟩ := Ans.opt A2
      simp only [Option.map_eq_some_iff] at e1
      obtain ⟨dz, e1, rfl⟩ := e1
      obtain ⟨i, rfl⟩ := ixV_int e1
      exact .inl ⟨(· ∈ φ2), Av P2 env σ (escV a), dx, _, dz, rx2, Rq.anyInt ry, e1, fun t H' k r => A3 _ _ _ (Ev.of_kp k) (W2.kp k) _ (by simp only [esc]; exact r)⟩
  | loc n =>
    cases u with
    | loc n => exact A2.elim
    | d dy =>
      cases dy <;> first | exact A2.elim | skip
      obtain ⟨z, e1, A3⟩ := Ans.opt A2
      simp only [Option.map_eq_some_iff, Option.bind_eq_some_iff] at e1
      obtain ⟨k, ⟨ns, e1, e2⟩, rfl⟩ := e1
      split at e2 <;> first | contradiction | skip
      rename_i h0
      obtain ⟨a1, q1, rfl⟩ := rx2
      obtain ⟨q2, _⟩ := W2.wr.at_ n a1 ns q1 e1
      obtain rfl := Rq.int ry
      exact .inr ⟨a1, ns, _, k, rfl, rfl, q2, h0, e2, A3.here W2 _ (.int _)⟩
/-- a slice's bound -/
def rdO (p : Par) (o : Eo) : TO := fun σ H Q => ∃ env w φ P, Rel p env w φ P σ H ∧ Ans p (evO p.G p.F p.np env o w) φ P H fun i _ _ _ H' => Q i H'
theorem rdo_none : PO X none (rdO p .none) := ⟨fun pins s σ H Q I ⟨env, w, φ, P, R, A⟩ => po_none.run pins s σ H Q I (by
  simp only [evO] at A
  exact A.here R.st)⟩
theorem rdo_some (ha : PE X pe (rdE p a)) : PO X (some pe) (rdO p (.some a)) := ⟨fun pins s σ H Q I ⟨env, w, φ, P, R, A⟩ => (po_some ha).run pins s σ H Q I (by
  simp only [evO] at A
  refine ⟨env, w, φ, P, R, A.bind.imp fun v w1 φ1 P1 H1 E1 W1 A1 x rx => ?_⟩
  obtain ⟨dx, rfl, A2⟩ := A1.bind.data
  obtain ⟨i, e1, A3⟩ := (A2.here W1).opt
  cases dx <;> first | cases e1 | skip
  cases rx
  exact ⟨_, rfl, A3.here W1⟩)⟩
theorem rd_sl {lo hi : Eo} {l u : Option Expr} {p2 : Pos} (hK : X.K = p.K) (ha : PE X pe (rdQ p a)) (hl : PO X l (rdO p lo)) (hu : PO X u (rdO p hi)) : PE X (.Subscript pe (.Slice l u none p2) pos) (rdE p (.sl a lo hi)) := by
  refine PEi (pe_slice (sl_d (X := X)) ha hl hu) fun σ H Q ⟨env, w, φ, P, R, A⟩ => ?_
  rw [hK]
  simp only [ev] at A
  refine ⟨env, w, φ, P, R, A.bind.imp fun v w1 φ1 P1 H1 E1 W1 A1 x rx => ?_⟩
  obtain ⟨dx, rfl, A2⟩ := A1.bind.data
  have R1 := R.ev E1 W1
  refine ⟨env, w1, φ1, P1, R1, (A2.here W1).bind.imp fun i w2 φ2 P2 H2 E2 W2 A3 => ?_⟩
  have R2 := R1.ev E2 W2
  refine ⟨env, w2, φ2, P2, R2, A3.bind.imp fun j w3 φ3 P3 H3 E3 W3 A4 => ?_⟩
  obtain ⟨z, e1, A5⟩ := A4.opt
  simp only [Option.map_eq_some_iff] at e1
  obtain ⟨dz, e1, rfl⟩ := e1
  have rx2 := rx.ev (E2.trans E3) W1 (R1.av_phi _) (Av.nw (E2.trans E3))
  exact ⟨(· ∈ φ3), Av P3 env σ (escV a), dx, dz, W3.held.av _, rx2, e1, fun t H' k r => A5 _ _ _ (Ev.of_kp k) (W3.kp k) _ (by simp only [esc]; exact r)⟩
theorem RqVs.length {K : PySem.W.Frag} {H : Hp} {P : AO} {φ : List Addr} : ∀ {xs : List V} {vs : List Vl}, RqVs K H P φ xs vs → xs.length = vs.length
  | _, _, .nil => rfl
  | _, _, .cons h t => congrArg (· + 1) t.length
theorem bi_key {f : Bi} (hK : X.K = p.K) {σ : L2.St} {H : Hp} {Q : VK} (q : rdE p (.bi f es) σ H Q) : tCB (rBi X.K f) (rdQs p es) σ H Q := by
  obtain ⟨env, w, φ, P, R, A⟩ := q
  rw [hK]
  simp only [ev] at A
  refine ⟨env, w, φ, P, R, A.bind.imp fun vs w1 φ1 P1 H1 E1 W1 A1 xs rxs => ?_⟩
  obtain ⟨z, e1, A2⟩ := A1.opt
  simp only [Option.map_eq_some_iff, Option.bind_eq_some_iff] at e1
  obtain ⟨d, ⟨ds, e1, e2⟩, rfl⟩ := e1
  exact ⟨(· ∈ φ1), Av P1 env σ (escW es), ds, d, W1.held.av _, rxs.datas e1, e2, fun t H' k r => A2 _ _ _ (Ev.of_kp k) (W1.kp k) _ (by simp only [esc]; exact r)⟩
theorem biName_ok {f : Bi} {x : Str} (h : biName f = some x) : ∃ v, biOf f = some v ∧ bootBuiltins x = some v ∧ ((∃ id, v = .builtin id) ∨ ∃ T, v = .type T) := by
  cases f <;> first | cases h | skip
  all_goals first
    | exact ⟨_, rfl, by decide +kernel, .inl ⟨_, rfl⟩⟩
    | exact ⟨_, rfl, by decide +kernel, .inr ⟨_, rfl⟩⟩
theorem rd_bi {f : Bi} {x : Str} {q : Pos} (o : XOk p c.t X) (ha : PA X (pe :: l) (rdQs p es)) (hs : (pe :: l).all noStar = true) (gx : Gl X x) (n : OkN x)
    (h : (biName f = some x ∧ X.mg x = none) ∨ ∃ id, biOf f = some (.builtin id) ∧ X.mg x = some (.builtin id)) : PE X (.Call (.Name x q) (pe :: l) [] pos) (rdE p (.bi f es)) := by
  have h' : noStar pe = true ∧ l.all noStar = true := by simpa using hs
  rcases h with ⟨h1, h2⟩ | ⟨id, h1, h2⟩
  · obtain ⟨v, e1, e2, e3⟩ := biName_ok h1
    rcases e3 with ⟨id, rfl⟩ | ⟨T, rfl⟩
    · exact PEi (pe_callB (bi_ok (X := X) o.calm o.gd o.un e1) gx h2 e2 ha n.nm n.d (star_cons h'.1) (star_plain h'.2)) fun σ H Q q => bi_key o.K q
    · exact PEi (pe_callTy (bi_ok (X := X) o.calm o.gd o.un e1) gx h2 e2 ha n.nm n.d (star_cons h'.1) (star_plain h'.2)) fun σ H Q q => bi_key o.K q
  · exact PEi (pe_callBfun (bi_ok (X := X) o.calm o.gd o.un h1) gx h2 ha n.d (star_cons h'.1) (star_plain h'.2)) fun σ H Q q => bi_key o.K q
theorem ty_boot (t : Ty) : bootBuiltins (tyStr t) = some (.type (tyName t)) := by cases t <;> decide +kernel
theorem rd_isi {t : Ty} {q1 q2 : Pos} (o : XOk p c.t X) (ha : PE X pe (rdQ p a)) (hs : noStar pe = true) (g1 : Gl X "isinstance") (m1 : X.mg "isinstance" = none) (g2 : Gl X (tyStr t)) (m2 : X.mg (tyStr t) = none) (n2 : OkN (tyStr t)) :
    PE X (.Call (.Name "isinstance" q1) [pe, .Name (tyStr t) q2] [] pos) (rdE p (.isi t a)) := by
  have b := pe_callB (pos := pos) (p := q1) (call_isi (X := X)) g1 m1 (by decide +kernel) (pa_cons' hs ha (pa_cons' (es := []) rfl (pe_bltn (pos := q2) (v := .ty (tyName t)) g2 m2 (ty_boot t) rfl n2.nm n2.d) L2.pa_nil)) (by decide) (by decide) (star_cons hs) (star_plain (by rfl))
  refine PEi b fun σ H Q ⟨env, w, φ, P, R, A⟩ => ?_
  simp only [ev] at A
  refine ⟨env, w, φ, P, R, A.bind.imp fun v w1 φ1 P1 H1 E1 W1 A1 x rx => ?_⟩
  obtain ⟨dx, rfl, A2⟩ := A1.bind.data
  obtain ⟨T, h1, h2⟩ := Rq.ty rx
  rw [o.K]
  exact ⟨x, .ty (tyName t), .type T, .type (tyName t), isiV t dx, rfl, .ty _, h1, h2 t, (A2.here W1).here W1 _ (.bl _)⟩
theorem RpL.maps {α : Type} {K : PySem.W.Frag} {H : Hp} {P : AO} {f : α → V} {g : α → PyData} (h : ∀ x, Rp K H P (f x) (g x)) : ∀ l : List α, RpL K H P (l.map f) (l.map g)
  | [] => .nil
  | x :: r => .cons (h x) (RpL.maps h r)
theorem rg_rp {K : PySem.W.Frag} {H : Hp} {P : AO} (i : Int) : RpL K H P (rgV 0 i) (rangeL 0 i.toNat 1) := by
  unfold rgV rangeL
  rw [Int.sub_zero]
  refine RpL.maps (fun k => ?_) _
  rw [Int.mul_one]
  exact .int _
theorem rgV_len (i : Int) : (rgV 0 i).length = i.toNat := by rw [rgV_length, Int.sub_zero]
theorem rd_rngT {q1 q2 pos2 : Pos} (o : XOk p c.t X) (ha : PE X pe (rdE p a)) (hs : noStar pe = true) (g1 : Gl X "tuple") (m1 : X.mg "tuple" = none) (g2 : Gl X "range") (m2 : X.mg "range" = none) :
    PE X (.Call (.Name "tuple" q1) [.Call (.Name "range" q2) [pe] [] pos2] [] pos) (rdE p (.rngV true a)) := by
  refine PEi (pe_tupRg o.calm g1 m1 (prg_1 g2 m2 ha (star_cons hs)) (star_cons rfl)) fun σ H Q ⟨env, w, φ, P, R, A⟩ => ?_
  simp only [ev] at A
  refine ⟨env, w, φ, P, R, A.bind.imp fun v w1 φ1 P1 H1 E1 W1 A1 x rx => ?_⟩
  obtain ⟨dx, rfl, A2⟩ := A1.bind.data
  replace A2 := A2.here W1
  cases dx <;> first | exact A2.elim | skip
  rename_i i
  cases rx
  by_cases hc : (decide (0 ≤ i) && decide (i ≤ 1000000)) = true
  · simp only [hc, if_true] at A2
    simp only [Bool.and_eq_true, decide_eq_true_eq] at hc
    refine ⟨i, rfl, ⟨by omega, by omega, by omega, by omega, by omega⟩, fun q nq => ?_⟩
    have k1 : Kp H1 (upd H1 q (.tup (rgV 0 i))) := Kp.upd nq
    exact A2 _ _ _ (Ev.of_kp k1) (W1.kp k1) _ (.tup (.inl (.inl upd_same)) (by rw [rgV_len, sizeLine_eq]; omega) (rg_rp i))
  · simp only [hc] at A2
    exact A2.elim
theorem rd_rngL {q1 q2 pos2 : Pos} (o : XOk p c.t X) (ha : PE X pe (rdE p a)) (hs : noStar pe = true) (g1 : Gl X "list") (m1 : X.mg "list" = none) (g2 : Gl X "range") (m2 : X.mg "range" = none) :
    PE X (.Call (.Name "list" q1) [.Call (.Name "range" q2) [pe] [] pos2] [] pos) (rdF p (.rngV false a)) := by
  refine PEi (pe_listRg o.calm g1 m1 (prg_1 g2 m2 ha (star_cons hs)) (star_cons rfl)) fun σ H Q ⟨env, w, φ, P, R, A⟩ => ?_
  simp only [ev] at A
  refine ⟨env, w, φ, P, R, A.bind.imp fun v w1 φ1 P1 H1 E1 W1 A1 x rx => ?_⟩
  obtain ⟨dx, rfl, A2⟩ := A1.bind.data
  replace A2 := A2.here W1
  cases dx <;> first | exact A2.elim | skip
  rename_i i
  cases rx
  by_cases hc : (decide (0 ≤ i) && decide (i ≤ 1000000)) = true
  · simp only [hc, if_true] at A2
    simp only [Bool.and_eq_true, decide_eq_true_eq] at hc
    refine ⟨i, rfl, ⟨by omega, by omega, by omega, by omega, by omega⟩, fun q nq => ?_⟩
    obtain ⟨E2, W2, nφ⟩ := ev_new (vs := rgV 0 i) nq W1
    exact A2 _ _ _ E2 W2 _ q _ rfl (E1.dm q nq) (.inr rfl) nφ upd_same (by rw [rgV_len, sizeLine_eq]; omega) (rg_rp i)
  · simp only [hc] at A2
    exact A2.elim
theorem rd_biL {q : Pos} (o : XOk p c.t X) (ha : PE X pe (rdQ p a)) (hs : noStar pe = true) (gx : Gl X "list") (h2 : X.mg "list" = none) : PE X (.Call (.Name "list" q) [pe] [] pos) (rdF p (.bi .list (.cons a .nil))) := by
  refine PEi (pe_callTy call_list_of gx h2 (by decide +kernel) (rqs_cons hs ha rds_nil.2) (by decide) (by decide) (star_cons hs) (star_plain rfl)) fun σ H Q ⟨env, w, φ, P, R, A⟩ => ?_
  simp only [ev] at A
  refine ⟨env, w, φ, P, R, A.bind.imp fun vs w1 φ1 P1 H1 E1 W1 A1 xs rxs => ?_⟩
  obtain ⟨z, e1, A2⟩ := A1.opt
  simp only [Option.map_eq_some_iff, Option.bind_eq_some_iff] at e1
  obtain ⟨d, ⟨ds, e1, e2⟩, rfl⟩ := e1
  have rl := rxs.datas e1
  unfold biV at e2
  split at e2 <;> first | contradiction | skip
  simp only [Option.map_eq_some_iff] at e2
  obtain ⟨ys, e2, rfl⟩ := e2
  obtain ⟨y, rfl, hx⟩ := bi1 (f := .list) rl
  obtain ⟨b, zs, rfl, h1, h3, h4⟩ := hx.seq e2
  rw [o.K]
  refine ⟨b, zs, rfl, h1, fun q nq => ?_⟩
  have k1 : Kp H1 (upd H1 q (.lst zs)) := Kp.upd nq
  obtain ⟨E2, W2, nφ⟩ := ev_new (vs := zs) nq W1
  refine A2 _ _ _ E2 W2 _ q _ rfl (E1.dm q nq) (.inr rfl) nφ upd_same h3 (RpL.cr (Cr.kp k1 fun x h => ?_) _ _ h4)
  rcases h.1 with h1 | h1
  · exact .inl ⟨h1, by simpa [esc] using h.2⟩
  · exact .inr (h1 ▸ nq)
/-! ### calls -/
theorem RpVs.put {K : PySem.W.Frag} {H : Hp} {P : AO} {φ : List Addr} {n : Nat} {ks : List Nat} {xs ys : List V} {vs us : List Vl} (r : RpVs K H P φ xs vs) (q : RpVs K H P φ ys us) : RpVs K H P φ (putK n ks xs ys) (putK n ks vs us) := by
  have hl := r.length
  have get : ∀ {xs : List V} {vs : List Vl} {i : Nat} (h : RpVs K H P φ xs vs) (h1 : i < xs.length) (h2 : i < vs.length), RpV K H P φ xs[i] vs[i] := by
    intro xs vs i h
    induction h generalizing i with
    | nil => intro h1; exact absurd h1 (Nat.not_lt_zero _)
    | cons a t ih =>
      intro h1 h2
      cases i with
      | zero => exact a
      | succ i => exact ih (by simpa using h1) (by simpa using h2)
  have look : ∀ {ks : List Nat} {ys : List V} {us : List Vl} (j : Nat), RpVs K H P φ ys us → (∃ y u, (ks.zip ys).lookup j = some y ∧ (ks.zip us).lookup j = some u ∧ RpV K H P φ y u) ∨ ((ks.zip ys).lookup j = none ∧ (ks.zip us).lookup j = none) := by
    intro ks
    induction ks with
    | nil => intro ys us j _; exact .inr ⟨rfl, rfl⟩
    | cons k ks ih =>
      intro ys us j h
      cases h with
      | nil => exact .inr ⟨rfl, rfl⟩
      | cons a t =>
        by_cases e : j = k
        · subst e
          refine .inl ⟨_, _, ?_, ?_, a⟩ <;> simp [List.lookup]
        · have b : (j == k) = false := by simpa using e
          simpa only [List.zip_cons_cons, List.lookup, b] using ih j t
  unfold putK
  induction List.range n with
  | nil => exact .nil
  | cons j l ih =>
    rw [List.filterMap_cons, List.filterMap_cons]
    by_cases c1 : j < xs.length
    · have c2 : j < vs.length := by omega
      rw [if_pos c1, if_pos c2, List.getElem?_eq_getElem c1, List.getElem?_eq_getElem c2]
      exact .cons (get r c1 c2) ih
    · have c2 : ¬ j < vs.length := by omega
      rw [if_neg c1, if_neg c2]
      rcases look (ks := ks) j q with ⟨y, u, h1, h2, h3⟩ | ⟨h1, h2⟩
      · rw [h1, h2]
        exact .cons h3 ih
      · rw [h1, h2]
        exact ih
/-- a def is called at values -/
theorem sp_call {f n : Nat} {env : En} {w : Wd} {φ : List Addr} {P : AO} {σ : L2.St} {H : Hp} {m : List Nat} {vs : List Vl} {xs : List V} {Q : VK} (R : Rel p env w φ P σ H) (hn : xs.length = n) (rx : RpVs p.K H (Av P env σ m) φ xs vs)
    (A : Ans p (p.F f vs w) φ P H fun v _ φ' P' H' => ∀ x, RpV p.K H' (Av P' env σ m) φ' x v → Q x H') : spD p f n xs H Q p.XE := by
  refine ⟨hn, w, φ, Av P env σ m, vs, ⟨R.st.held.av _, ⟨R.st.wr.len, R.st.wr.at_, R.av_phi _, R.st.wr.nd⟩⟩, rx, ?_⟩
  -- what the callee leaves, for the caller
  have back : ∀ {H' : Hp} {φ' : List Addr} {P' : AO} {w' : Wd}, Ev φ (Av P env σ m) H φ' P' H' → Wst φ' w' P' H' → Ev φ P H φ' (fun z => P z ∨ P' z) H' ∧ Wst φ' w' (fun z => P z ∨ P' z) H' := by
    intro H' φ' P' w' E W
    refine ⟨⟨E.pre, E.kp, E.dm, fun z h => .inl h, fun z h => ?_, E.nf⟩, ⟨fun z h => ?_, ⟨W.wr.len, W.wr.at_, fun z h => .inr (W.wr.av z h), W.wr.nd⟩⟩⟩
    · rcases h with h | h
      · exact .inl h
      · exact (E.nw z h).imp (fun q => q.1) id
    · rcases h with h | h
      · obtain ⟨us, e⟩ := R.st.held z h
        by_cases hz : z ∈ φ
        · obtain ⟨ψ, e2⟩ := E.pre
          exact W.lists z (by rw [e2]; exact List.mem_append_left _ hz)
        · exact ⟨us, E.kp z _ e hz⟩
      · exact W.held z h
  generalize hg : p.F f vs w = r at A
  cases r with
  | bad => exact A
  | ok v w' =>
    intro H' φ' P' E W x r
    obtain ⟨E2, W2⟩ := back E W
    refine A H' φ' _ E2 W2 x (r.mono fun z h => ?_)
    rcases h.1 with h1 | h1
    · exact E.up z ⟨h1, h.2⟩
    · exact h1
  | exc cn xv w' =>
    intro H' φ' P' cls d E W ⟨nm, C, at_, dd, v, e1, e2, e3, e4, e5⟩
    obtain ⟨E2, W2⟩ := back E W
    refine A H' φ' _ cls d E2 W2 ⟨nm, C, at_, dd, v, e1, e2, e3, e4, Rp.cr (Cr.weak fun z h => ?_) _ _ e5⟩
    rcases h with h | h
    · exact .inl ⟨R.bP z h, R.b_out h⟩
    · exact .inr h
theorem ar_ok (o : XOk p c.t X) {f : Nat} {vs : List Vl} {w : Wd} {φ : List Addr} {P : AO} {H : Hp} {T : Vl → Wd → List Addr → AO → Hp → Prop} (A : Ans p (p.F f vs w) φ P H T) : vs.length = p.np f := by
  by_cases h : vs.length = p.np f
  · exact h
  · rw [o.ar f vs w h] at A
    exact A.elim
theorem rd_call {f : Nat} {x : Str} {ps : List Str} {q : Pos} (o : XOk p c.t X) (hf : c.t.fn[f]? = some (x, ps)) (gx : Gl X x) (n : OkN x) (ha : PA X (pe :: l) (rdEs p es)) (hs : (pe :: l).all noStar = true) :
    PE X (.Call (.Name x q) (pe :: l) [] pos) (rdE p (.call f es)) := by
  obtain ⟨fa, fd, k, Cf⟩ := o.fn f x ps hf
  refine PEi (pe_cl Cf.ok o.gd Cf.rm o.px gx Cf.mg Cf.kp Cf.bd ha n.d hs) fun σ H Q ⟨env, w, φ, P, R, A⟩ => ?_
  simp only [ev] at A
  refine ⟨env, w, φ, P, R, A.bind.imp fun vs w1 φ1 P1 H1 E1 W1 A1 xs rx => ?_⟩
  exact sp_call (R.ev E1 W1) (by rw [rx.length, ar_ok o A1, Cf.np]) rx (by simpa only [esc] using A1)
theorem rd_call0 {f : Nat} {x : Str} {ps : List Str} {q : Pos} (o : XOk p c.t X) (hf : c.t.fn[f]? = some (x, ps)) (gx : Gl X x) (n : OkN x) : PE X (.Call (.Name x q) [] [] pos) (rdE p (.call f .nil)) := by
  obtain ⟨fa, fd, k, Cf⟩ := o.fn f x ps hf
  refine PEi (pe_cl0 Cf.ok o.gd Cf.rm o.px gx Cf.mg Cf.kp Cf.bd n.d) fun σ H Q ⟨env, w, φ, P, R, A⟩ => ?_
  simp only [ev, evs, bind_ok_eq] at A
  exact sp_call (m := []) R (by rw [← Cf.np, ← ar_ok o A]; rfl) .nil (by simpa only [esc, escs] using A)
/-- values by name -/
def rdKs (p : Par) (es : Es) : TA := rdEs p es
theorem rk_nil : PK X [] (rdEs p .nil) := ⟨fun pos pins s σ H Q I ⟨env, w, φ, P, R, A⟩ => pk_nil.run pos pins s σ H Q I (by
  simp only [evs] at A
  exact A.here R.st _ .nil)⟩
theorem rk_cons {r : Es} {kws : List Keyword} {nm : Option Str} {kp : Pos} (h1 : PE X pe (rdE p e)) (h2 : PK X kws (rdEs p r)) : PK X (⟨nm, pe, kp⟩ :: kws) (rdEs p (.cons e r)) := ⟨fun pos pins s σ H Q I ⟨env, w, φ, P, R, A⟩ => (pk_cons (nm := nm) (kpos := kp) h1 h2).run pos pins s σ H Q I (by
  simp only [evs] at A
  refine ⟨env, w, φ, P, R, A.bind.imp fun v w1 φ1 P1 H1 E1 W1 A1 x rx => ?_⟩
  have R1 := R.ev E1 W1
  refine ⟨env, w1, φ1, P1, R1, A1.bind.imp fun vs w2 φ2 P2 H2 E2 W2 A2 xs rxs => ?_⟩
  have T := A2.here W2
  refine T _ (.cons ((rx.ev E2 W1 (R1.av_phi _) (Av.nw E2)).mono (Av.sub fun i hi => ?_)) (rxs.mono (Av.sub fun i hi => ?_))) <;> simp [escs, hi])⟩
theorem rd_callK {f : Nat} {x : Str} {ps : List Str} {q : Pos} {ks : List Nat} {ws : Es} {kws : List Keyword} {n : Nat} (o : XOk p c.t X) (hf : c.t.fn[f]? = some (x, ps)) (gx : Gl X x) (hn : OkN x) (hk : (f, n, ks) ∈ c.t.kw)
    (ha : PA X l (rdEs p es)) (hs : l.all noStar = true) (hm : mEs c es l = true) (hl : l.length = n) (hw : PK X kws (rdEs p ws)) (hwl : kws.length = ws.len) (hkl : kws.length = ks.length) (hks : kws.filterMap (·.arg) = ks.filterMap fun j => ps[j]?) (hall : (kws.all fun k => k.arg.isSome) = true) :
    PE X (.Call (.Name x q) l kws pos) (rdE p (.callK f es ks ws)) := by
  obtain ⟨fa, fd, k, Cf⟩ := o.fn f x ps hf
  have key : ∀ {σ : L2.St} {H : Hp} {Q : VK}, rdE p (.callK f es ks ws) σ H Q → tClK (spD p f ps.length) n ks ps.length p.XE (rdEs p es) (rdEs p ws) σ H Q := by
    intro σ H Q ⟨env, w, φ, P, R, A⟩
    simp only [ev] at A
    refine ⟨env, w, φ, P, R, A.bind.impE fun vs w1 φ1 P1 H1 he E1 W1 A1 xs rx => ?_⟩
    have R1 := R.ev E1 W1
    refine ⟨env, w1, φ1, P1, R1, A1.bind.impE fun us w2 φ2 P2 H2 he2 E2 W2 A2 ys ry => ?_⟩
    refine ⟨by rw [rx.length, evs_len he, ← mEs_len hm, hl], by rw [ry.length, evs_len he2, ← hwl, hkl], ?_⟩
    have rx2 := (RpVs.ev (env := env) E2 W1 (R1.av_phi _) (Av.nw E2) rx).mono (Av.sub (m := escs es ++ escs ws) fun i hi => by simp [hi])
    have ry2 := ry.mono (Av.sub (m := escs es ++ escs ws) fun i hi => by simp [hi])
    rw [Cf.np] at A2
    have rp := rx2.put (n := ps.length) (ks := ks) ry2
    exact sp_call (R1.ev E2 W2) (by rw [rp.length, ar_ok o A2, Cf.np]) rp (by simpa only [esc] using A2)
  cases l with
  | nil =>
    have hn0 : n = 0 := by rw [← hl]; rfl
    subst hn0
    refine PEi (pe_clK0 Cf.ok o.gd Cf.rm o.px gx Cf.mg Cf.kp (Cf.kw 0 ks hk) hw hn.d hks hall) fun σ H Q q => ?_
    obtain ⟨env, w, φ, P, R, A⟩ := key q
    cases es with
    | cons e r => simp [mEs] at hm
    | nil =>
      simp only [evs] at A
      exact A.here R.st _ .nil
  | cons pe l => exact PEi (pe_clK Cf.ok o.gd Cf.rm o.px gx Cf.mg Cf.kp (Cf.kw n ks hk) ha hw hn.d hs hks hall) fun σ H Q q => key q
end
end R
end
section
/-! What a loop walks: lists and tuples, alone, in pairs, with their places. -/
namespace R
open PySem L2
open PySem.Spec PyProof.Rows
inductive Kd where
  | l | t
def Sq (k : Kd) (K : PySem.W.Frag) (H : Hp) (a : Addr) (xs : List V) : Prop := match k with
  | .l => SqL K H a xs
  | .t => SqT K H a xs
def IsK (k : Kd) (h : Heap) (a : Addr) (its : Array Value) : Prop := match k with
  | .l => h.IsList a its
  | .t => h.IsTuple a its
def IterK (k : Kd) (h : Heap) (it a : Addr) (i : Nat) : Prop := match k with
  | .l => h.IsListIter it a i
  | .t => h.IsTupleIter it a i
def objK (k : Kd) (a : Addr) : Obj := match k with
  | .l => { cls := .type "list_iterator", data := .fields #[.ref a, .int 0 0] }
  | .t => { cls := .type "tuple_iterator", data := .fields #[.ref a, .int 0 0] }
theorem begK (k : Kd) (a : Addr) (its : Array Value) : Begins (.ref a) (objK k a) fun h => IsK k h a its := by
  cases k
  · exact begins_list a its
  · exact begins_tuple a its
theorem objK_iter {k : Kd} {h : Heap} {it a : Addr} (e : h.get? it = some (objK k a)) : IterK k h it a 0 := by
  cases k
  · exact ⟨_, e, rfl, rfl⟩
  · exact ⟨_, e, rfl, rfl⟩
theorem drawK {prog : Program} {w : World} {A : Around} (k : Kd) (hh : A.handled = none) (it a : Addr) (hne : a ≠ it) (its : Array Value) :
    Draws prog w A it [it, a] its.size (fun i v => its[i]? = some v) (fun i h => IterK k h it a i ∧ IsK k h a its) := by
  cases k
  · exact .list hh it a hne its
  · exact .tuple hh it a hne its
theorem IterK.keep {k : Kd} {h h' : Heap} {it a : Addr} {i : Nat} (x : IterK k h it a i) (e : ∀ o, h.get? it = some o → h'.get? it = some o) : IterK k h' it a i := by
  cases k
  · exact Heap.IsListIter.at x e
  · exact Heap.IsTupleIter.at x e
theorem IterK.rec_ {k : Kd} {h : Heap} {it a : Addr} {i : Nat} (x : IterK k h it a i) : ∃ o, h.get? it = some o ∧ ∀ v, o.data ≠ .cell v := by
  cases k
  · obtain ⟨o, e, _, d⟩ := x
    exact ⟨o, e, fun v z => by rw [d] at z; cases z⟩
  · obtain ⟨o, e, _, d⟩ := x
    exact ⟨o, e, fun v z => by rw [d] at z; cases z⟩
section
variable {X : Cx} {pins : List (Addr × Obj)} {σ : L2.St} {H : Hp} {s : Shared} {a : Addr} {xs ys : List V} {k : Kd}
theorem inv_sq (I : Inv X pins σ H s) (h : Sq k X.K H a xs) : ∃ its : List Value, Vals xs its ∧ IsK k s.heap a its.toArray ∧ a < s.heap.objs.size := by
  cases k
  · obtain ⟨its, r, p, _⟩ := I.list h
    exact ⟨its, r, p.isList, p.lt⟩
  · obtain ⟨its, r, p, _⟩ := I.tuple h
    obtain ⟨o, e, _⟩ := id p
    exact ⟨its, r, p, Heap.lt_size e⟩
theorem inv_sq_inj (I : Inv X pins σ H s) (h : Sq k X.K H a xs) (h' : Sq k X.K H a ys) : xs = ys := by
  cases k
  · exact I.list_inj h h'
  · exact I.tuple_inj h h'
end
def ItK (k : Kd) (K : PySem.W.Frag) (a : Addr) : L2.It := match k with
  | .l => Itl K a
  | .t => Itt K a
theorem turnK {P : Program} {w : World} {K : PySem.W.Frag} {tg : Expr} (k : Kd) (a it : Addr) : Turn P w K tg (ItK k K a) [it] it (fun i h => IterK k h it a i) := by
  cases k
  · exact turn_list a it
  · exact turn_tuple a it
/-- pairs of items -/
def ItZ (k1 k2 : Kd) (K : PySem.W.Frag) (a b : Addr) : L2.It :=
  ⟨fun i H => ∃ (xs ys : List V) (x y : V), Sq k1 K H a xs ∧ Sq k2 K H b ys ∧ xs[i]? = some x ∧ ys[i]? = some y,
   fun i H v H2 => ∃ (T : Addr) (x y : V), v = .ref T ∧ H T = none ∧ H2 = upd H T (.tup [x, y]) ∧ (∀ xs, Sq k1 K H a xs → xs[i]? = some x) ∧ ∀ ys, Sq k2 K H b ys → ys[i]? = some y,
   fun i H => ∃ xs ys : List V, Sq k1 K H a xs ∧ Sq k2 K H b ys ∧ i = min xs.length ys.length⟩
/-- items with their places -/
def ItE (k : Kd) (K : PySem.W.Frag) (a : Addr) : L2.It :=
  ⟨fun i H => ∃ (xs : List V) (x : V), Sq k K H a xs ∧ xs[i]? = some x,
   fun i H v H2 => ∃ (T : Addr) (x : V), v = .ref T ∧ H T = none ∧ H2 = upd H T (.tup [.int (i : Nat), x]) ∧ ∀ xs, Sq k K H a xs → xs[i]? = some x,
   fun i H => ∃ xs : List V, Sq k K H a xs ∧ i = xs.length⟩
theorem get_arr {its : List Value} {i : Nat} {u v : Value} (h : its.toArray[i]? = some u) (g : its[i]? = some v) : u = v := by
  rw [List.getElem?_toArray] at h
  rw [h] at g
  exact Option.some.inj g
theorem lt_of_get {α : Type} {l : List α} {i : Nat} {x : α} (h : l[i]? = some x) : i < l.length := (List.getElem?_eq_some_iff.mp h).1
theorem turnZ {P : Program} {w : World} {K : PySem.W.Frag} {els : List Expr} {n : Nat} {tp : Pos} {k1 k2 : Kd} {a b z TI TO i1 i2 : Addr} (D : ZipSep2 z TI TO i1 i2 [i1, a] [i2, b]) (n1 : a ≠ i1) (n2 : b ≠ i2) :
    Turn P w K (.Tuple els n tp) (ItZ k1 k2 K a b) [z, TI, TO, i1, i2] z (fun i h => IsZip h z TI TO .none ∧ IsTupOf2 h TI (.ref i1) (.ref i2) ∧ (∃ x y, IsTupOf2 h TO x y) ∧ IterK k1 h i1 a i ∧ IterK k2 h i2 b i) where
  mem := List.mem_cons_self ..
  obj := fun i h st c hc => by
    obtain ⟨hz, hTI, ⟨x, y, hTO⟩, h1, h2⟩ := st
    simp only [List.mem_cons, List.not_mem_nil, or_false] at hc
    rcases hc with rfl | rfl | rfl | rfl | rfl
    · exact ⟨_, hz, fun v q => nomatch q⟩
    · exact ⟨_, hTI, fun v q => nomatch q⟩
    · exact ⟨_, hTO, fun v q => nomatch q⟩
    · exact h1.rec_
    · exact h2.rec_
  keep := fun i h h' st k => by
    obtain ⟨hz, hTI, ⟨x, y, hTO⟩, h1, h2⟩ := st
    refine ⟨k z (by simp) _ hz, k TI (by simp) _ hTI, ⟨x, y, k TO (by simp) _ hTO⟩, h1.keep (k i1 (by simp)), h2.keep (k i2 (by simp))⟩
  item := by
    intro X hP hw hK hc i pins s σ H E I hf st hg
    subst hP hw hK
    obtain ⟨hz, hTI, hTO, h1, h2⟩ := st
    obtain ⟨xs, ys, x, y, qx, qy, ex, ey⟩ := hg
    obtain ⟨l1, r1, p1, _⟩ := inv_sq I qx
    obtain ⟨l2, r2, p2, _⟩ := inv_sq I qy
    obtain ⟨u1, g1, v1⟩ := r1.get ex
    obtain ⟨u2, g2, v2⟩ := r2.get ey
    have hh : X.A.in1.handled = none := I.ok.hd hc
    have W := GoesN.zip2 (A := X.A) (elts := els) (x1 := n) (pos := tp) D (drawK (prog := X.prog) (w := X.w) k1 hh i1 a n1 l1.toArray) (drawK (prog := X.prog) (w := X.w) k2 hh i2 b n2 l2.toArray)
    have hi : i < min l1.toArray.size l2.toArray.size := by
      rw [List.size_toArray, List.size_toArray]
      exact Nat.lt_min.mpr ⟨lt_of_get g1, lt_of_get g2⟩
    refine W.goes i s _ _ hi ⟨hz, hTI, hTO, ⟨h1, p1⟩, h2, p2⟩ fun v h' tk Y St kk ht => ?_
    obtain ⟨T, c1, c2, rfl, hT, e1, e2, hTup⟩ := Y
    rw [get_arr e1 g1, get_arr e2 g2] at hTup
    have nT := I.hok.fresh hT
    have new : ObjOk X.prog X.w (upd H T (.tup [x, y])) h' T (.tup [x, y]) := ⟨show 2 ≤ sizeLine by decide, [u1, u2], .cons v1 (.cons v2 .nil), hTup⟩
    have I1 := I.turnedNew (t' := tk) (ch := [z, TO, i1, i2]) kk (fun c hcm => hf c (by
      simp only [List.mem_cons, List.not_mem_nil, or_false] at hcm ⊢
      rcases hcm with q | q | q | q <;> simp [q])) hT new
    obtain ⟨sz, sI, sO, s1, s2⟩ := St
    refine ⟨.ref T, _, I1, rfl, ⟨T, x, y, rfl, nT, rfl, fun l hl => by rw [inv_sq_inj I hl qx]; exact ex, fun l hl => by rw [inv_sq_inj I hl qy]; exact ey⟩, ⟨sz, sI, sO, s1.1, s2.1⟩, fun c hcm => ?_⟩
    have hlt : c < s.heap.objs.size := by
      obtain ⟨x0, y0, hTO⟩ := hTO
      obtain ⟨_, q1, _⟩ := h1.rec_
      obtain ⟨_, q2, _⟩ := h2.rec_
      simp only [List.mem_cons, List.not_mem_nil, or_false] at hcm
      rcases hcm with rfl | rfl | rfl | rfl | rfl
      · exact Heap.lt_size hz
      · exact Heap.lt_size hTI
      · exact Heap.lt_size hTO
      · exact Heap.lt_size q1
      · exact Heap.lt_size q2
    rw [upd_ne (Nat.ne_of_lt (Nat.lt_of_lt_of_le hlt hT))]
    exact (hf c hcm).1
  done := by
    intro X hP hw hK hc i pins s σ H E I hf st hg
    subst hP hw hK
    obtain ⟨hz, hTI, hTO, h1, h2⟩ := st
    obtain ⟨xs, ys, qx, qy, hend⟩ := hg
    obtain ⟨l1, r1, p1, _⟩ := inv_sq I qx
    obtain ⟨l2, r2, p2, _⟩ := inv_sq I qy
    have hh : X.A.in1.handled = none := I.ok.hd hc
    have W := GoesN.zip2 (A := X.A) (elts := els) (x1 := n) (pos := tp) D (drawK (prog := X.prog) (w := X.w) k1 hh i1 a n1 l1.toArray) (drawK (prog := X.prog) (w := X.w) k2 hh i2 b n2 l2.toArray)
    have hi : i = min l1.toArray.size l2.toArray.size := by
      rw [List.size_toArray, List.size_toArray, ← r1.length, ← r2.length]
      exact hend
    subst hi
    refine W.stops s _ _ ⟨hz, hTI, hTO, ⟨h1, p1⟩, h2, p2⟩ fun h' tk kk ht => ?_
    exact I.turnedL (t' := tk) (ch := [z, TO, i1, i2]) kk (fun c hcm => hf c (by
      simp only [List.mem_cons, List.not_mem_nil, or_false] at hcm ⊢
      rcases hcm with q | q | q | q <;> simp [q]))
  self := fun A i s Q E st h => wpAny_pyIter_zip st.1 h
theorem turnE {P : Program} {w : World} {K : PySem.W.Frag} {els : List Expr} {n : Nat} {tp : Pos} {k : Kd} {a e it : Addr} (hei : e ≠ it) (hea : e ≠ a) (n1 : a ≠ it) :
    Turn P w K (.Tuple els n tp) (ItE k K a) [e, it] e (fun i h => (∃ old, IsEnum h e it ((0 : Int) + (i : Nat)) old) ∧ IterK k h it a i) where
  mem := List.mem_cons_self ..
  obj := fun i h st c hc => by
    obtain ⟨⟨old, hz⟩, h1⟩ := st
    simp only [List.mem_cons, List.not_mem_nil, or_false] at hc
    rcases hc with rfl | rfl
    · exact ⟨_, hz, fun v q => nomatch q⟩
    · exact h1.rec_
  keep := fun i h h' st k => by
    obtain ⟨⟨old, hz⟩, h1⟩ := st
    exact ⟨⟨old, k e (by simp) _ hz⟩, h1.keep (k it (by simp))⟩
  item := by
    intro X hP hw hK hc i pins s σ H E I hf st hg
    subst hP hw hK
    obtain ⟨hz, h1⟩ := st
    obtain ⟨xs, x, qx, ex⟩ := hg
    obtain ⟨l1, r1, p1, _⟩ := inv_sq I qx
    obtain ⟨u1, g1, v1⟩ := r1.get ex
    have hh : X.A.in1.handled = none := I.ok.hd hc
    have W := GoesN.enumFrom (A := X.A) (elts := els) (x1 := n) (pos := tp) 0 (drawK (prog := X.prog) (w := X.w) k hh it a n1 l1.toArray) e hei (by simp [hei, hea]) (by simp)
    refine W.goes i s _ _ (by rw [List.size_toArray]; exact lt_of_get g1) ⟨hz, h1, p1⟩ fun v h' tk Y St kk ht => ?_
    obtain ⟨T, tt, c1, rfl, hT, e1, hTup⟩ := Y
    rw [get_arr e1 g1] at hTup
    have nT := I.hok.fresh hT
    have new : ObjOk X.prog X.w (upd H T (.tup [.int (i : Nat), x])) h' T (.tup [.int (i : Nat), x]) := ⟨show 2 ≤ sizeLine by decide, [.int (0 + (i : Nat)) tt, u1], .cons ⟨tt, by rw [Int.zero_add]⟩ (.cons v1 .nil), hTup⟩
    have I1 := I.turnedNew (t' := tk) (ch := [e, it]) kk hf hT new
    obtain ⟨sz, s1, _⟩ := St
    refine ⟨.ref T, _, I1, rfl, ⟨T, x, rfl, nT, rfl, fun l hl => by rw [inv_sq_inj I hl qx]; exact ex⟩, ⟨sz, s1⟩, fun c hcm => ?_⟩
    have hlt : c < s.heap.objs.size := by
      obtain ⟨old, hz⟩ := hz
      obtain ⟨_, q1, _⟩ := h1.rec_
      simp only [List.mem_cons, List.not_mem_nil, or_false] at hcm
      rcases hcm with rfl | rfl
      · exact Heap.lt_size hz
      · exact Heap.lt_size q1
    rw [upd_ne (Nat.ne_of_lt (Nat.lt_of_lt_of_le hlt hT))]
    exact (hf c hcm).1
  done := by
    intro X hP hw hK hc i pins s σ H E I hf st hg
    subst hP hw hK
    obtain ⟨hz, h1⟩ := st
    obtain ⟨xs, qx, hend⟩ := hg
    obtain ⟨l1, r1, p1, _⟩ := inv_sq I qx
    have hh : X.A.in1.handled = none := I.ok.hd hc
    have W := GoesN.enumFrom (A := X.A) (elts := els) (x1 := n) (pos := tp) 0 (drawK (prog := X.prog) (w := X.w) k hh it a n1 l1.toArray) e hei (by simp [hei, hea]) (by simp)
    have hi : i = l1.toArray.size := by
      rw [List.size_toArray, ← r1.length]
      exact hend
    subst hi
    exact W.stops s _ _ ⟨hz, h1, p1⟩ fun h' tk kk ht => I.turnedL (t' := tk) (ch := [e, it]) kk hf
  self := fun A i s Q E st h => by
    obtain ⟨⟨old, hz⟩, _⟩ := st
    exact wpAny_pyIter_enum hz h
/-- enumerate of one thing -/
theorem enum_new1 {v : Value} {o : Obj} {J : Heap → Prop} (B : Begins v o J) :
    Meets (Builtin.«enumerate.__new__» ⟨[.type "enumerate", v], []⟩) (fun _ R s => J s.heap ∧
      R (.ok (.ret (.ref (s.heap.push o).objs.size))) { s with heap := (s.heap.push o).push { cls := .type "enumerate", data := .fields #[.none, .bool false, .ref s.heap.objs.size, rawInt 0, .none, .none] } }) :=
  .of_wp fun prog w A R s h => by
    obtain ⟨hp, g, d, tk, os⟩ := s
    obtain ⟨h1, h⟩ := h
    have hsub := sub_enumerate
    have start : ∀ {A1 : Around} {E1 : Value → Shared → Prop} {Q1 : Value → Shared → Prop}, Q1 (.ref hp.objs.size) ⟨hp.push o, g, d, tk, os⟩ → wpAny (model prog w) A1 (pyIter v) Q1 E1 ⟨hp, g, d, tk, os⟩ := fun q => B.iter prog w _ _ ⟨hp, g, d, tk, os⟩ _ h1 q
    wp_walk using start
    refine wpAny_stack_any fun st => wpAny_pure ?_
    split
    · rename_i c _ _ _ _ _
      cases (c == Value.type "enumerate") <;>
      · wp_walk using start
        exact ⟨_, rfl, h⟩
    · wp_walk using start
      exact ⟨_, rfl, h⟩
theorem enum_one {prog : Program} {w : World} {A : Around} {E : Value → Shared → Prop} {s : Shared} {v : Value} {o : Obj} {J : Heap → Prop} {Q : Value → Shared → Prop} (B : Begins v o J) (h1 : J s.heap)
    (h : ∀ h', IsEnum h' (s.heap.objs.size + 1) s.heap.objs.size 0 .none → h'.get? s.heap.objs.size = some o → (∀ b o, s.heap.get? b = some o → h'.get? b = some o) → Q (.ref (s.heap.objs.size + 1)) { s with heap := h' }) :
    wpAny (model prog w) A (call (.type "enumerate") [v]) Q E s := by
  refine callType_new F.called_enumerate (by decide) (F.typeCall_enumerate_1 _) (F.newCall_enumerate_1 _) (fun x => F.args_object_init_2 x _) F.entry_enumerate_new (enum_new1 B) ⟨h1, ?_⟩
  have hz : (s.heap.push o).objs.size = s.heap.objs.size + 1 := Heap.size_push ..
  have he := Heap.get?_push_size (s.heap.push o) (o := { cls := .type "enumerate", data := .fields #[.none, .bool false, .ref s.heap.objs.size, rawInt 0, .none, .none] }) rfl
  rw [hz] at he
  show _ ∧ _
  rw [hz]
  exact ⟨⟨_, he, rfl⟩, h _ he (Heap.get?_push_of_some _ (Heap.get?_push_size _ B.free)) fun b o x => Heap.get?_push_of_some _ (Heap.get?_push_of_some _ x)⟩
theorem zsep (m a b : Nat) (ha : a < m) (hb : b < m) : ZipSep2 (m + 4) (m + 2) (m + 3) m (m + 1) [m, a] [m + 1, b] := by
  constructor <;> simp
  all_goals first
    | exact Nat.ne_of_gt (Nat.lt_of_lt_of_le ha (by first | exact Nat.le_add_right _ _ | exact Nat.le_refl _))
    | exact Nat.ne_of_gt (Nat.lt_of_lt_of_le hb (by first | exact Nat.le_add_right _ _ | exact Nat.le_refl _))
/-! ### where they begin -/
section
variable {X : Cx} {tg e e2 : Expr} {p pos tp : Pos} {els : List Expr} {n : Nat}
def iSeq (K : PySem.W.Frag) (te : TE) : TI := fun σ H R => te σ H fun x H1 => ∃ (k : Kd) (a : Addr) (xs : List V), x = .ref a ∧ Sq k K H1 a xs ∧ R (ItK k K a) H1
theorem pi_seq {te : TE} (he : PE X e te) : PI X tg e (iSeq X.K te) := by
  refine ⟨fun pins s σ H R I h => ?_⟩
  refine thn (he.run pins s σ H _ I h) fun v s1 ⟨x, H1, I1, r1, k, a, xs, ex, hq, q⟩ => ?_
  subst ex
  cases r1
  obtain ⟨its, rv, pl, _⟩ := inv_sq I1 hq
  refine (begK k a its.toArray).iter X.prog X.w X.A X.xe s1 _ pl ?_
  refine ⟨s1.heap.objs.size, [s1.heap.objs.size], _, _, H1, rfl, I1.kept (t' := s1.toks) fun b o e => Heap.get?_push_of_some _ e, turnK k a _, objK_iter (Heap.get?_push_size _ (begK k a its.toArray).free), fun b hb => ?_, q⟩
  obtain rfl := List.mem_singleton.mp hb
  exact I1.fpOk (Nat.le_refl _) (I1.hok.fresh (Nat.le_refl _))
def iPairs (K : PySem.W.Frag) (ta : TA) : TI := fun σ H R => ta σ H fun vs H1 => ∃ (k1 k2 : Kd) (a b : Addr) (xs ys : List V), vs = [.ref a, .ref b] ∧ Sq k1 K H1 a xs ∧ Sq k2 K H1 b ys ∧ R (ItZ k1 k2 K a b) H1
theorem pi_pairs {ta : TA} (hg : Gl X "zip") (hm : X.mg "zip" = none) (ha : PA X [e, e2] ta)
    (hs : starEach [e, e2] X.env = (false, eval e X.env) :: starEach [e2] X.env) (hpl : (backTo pos (starEach [e2] X.env)).any (·.1) = false) :
    PI X (.Tuple els n tp) (.Call (.Name "zip" p) [e, e2] [] pos) (iPairs X.K ta) := by
  refine ⟨fun pins s σ H R I h => ?_⟩
  refine Call_ (ld_blt I hg hm PyProof.Rows.boot_zip (PyProof.Rows.callWith_type1 (thn (ha.run pos pins s σ H _ I h) fun us s1 ⟨vs, H1, I1, r1, q1⟩ => ?_) hs hpl))
  obtain ⟨k1, k2, a, b, xs, ys, ex, hqx, hqy, q⟩ := q1
  subst ex
  cases r1 with
  | cons r rr =>
    cases rr with
    | cons r' rr =>
      cases rr
      cases r
      cases r'
      obtain ⟨l1, v1, p1, ta⟩ := inv_sq I1 hqx
      obtain ⟨l2, v2, p2, tb⟩ := inv_sq I1 hqy
      refine zip_begins2 (begK k1 a l1.toArray) (begK k2 b l2.toArray) p1 p2 fun h' hz hTI hTO h1 h2 hsz hk => wpAny_pyIter_zip hz ?_
      have I2 : Inv X pins σ H1 { s1 with heap := h' } := I1.kept (t' := s1.toks) hk
      refine ⟨s1.heap.objs.size + 4, _, _, _, H1, rfl, I2, turnZ (k1 := k1) (k2 := k2) (a := a) (b := b) (z := s1.heap.objs.size + 4) (TI := s1.heap.objs.size + 2) (TO := s1.heap.objs.size + 3) (i1 := s1.heap.objs.size) (i2 := s1.heap.objs.size + 1) ?_ (Nat.ne_of_lt ta) ?_, ⟨hz, hTI, ⟨_, _, hTO⟩, objK_iter h1, objK_iter h2⟩, fun c hcm => ?_, q⟩
      · exact zsep _ _ _ ta tb
      · exact Nat.ne_of_lt (Nat.lt_succ_of_lt tb)
      · have hle : s1.heap.objs.size ≤ c := by
          simp only [List.mem_cons, List.not_mem_nil, or_false] at hcm
          rcases hcm with z | z | z | z | z <;> rw [z] <;> simp
        exact I1.fpOk hle (I1.hok.fresh hle)
def iPlaces (K : PySem.W.Frag) (ta : TA) : TI := fun σ H R => ta σ H fun vs H1 => ∃ (k : Kd) (a : Addr) (xs : List V), vs = [.ref a] ∧ Sq k K H1 a xs ∧ R (ItE k K a) H1
theorem pi_places {ta : TA} (hg : Gl X "enumerate") (hm : X.mg "enumerate" = none) (ha : PA X [e] ta) (hs : starEach [e] X.env = [(false, eval e X.env)]) :
    PI X (.Tuple els n tp) (.Call (.Name "enumerate" p) [e] [] pos) (iPlaces X.K ta) := by
  refine ⟨fun pins s σ H R I h => ?_⟩
  refine Call_ (ld_blt I hg hm boot_enumerate (PyProof.Rows.callWith_type1 (thn (ha.run pos pins s σ H _ I h) fun us s1 ⟨vs, H1, I1, r1, q1⟩ => ?_) hs rfl))
  obtain ⟨k, a, xs, ex, hq, q⟩ := q1
  subst ex
  cases r1 with
  | cons r rr =>
    cases rr
    cases r
    obtain ⟨its, rv, pl, ta⟩ := inv_sq I1 hq
    refine enum_one (begK k a its.toArray) pl fun h' he ho hk => wpAny_pyIter_enum he ?_
    have I2 : Inv X pins σ H1 { s1 with heap := h' } := I1.kept (t' := s1.toks) hk
    refine ⟨s1.heap.objs.size + 1, _, _, _, H1, rfl, I2, turnE (k := k) (a := a) (e := s1.heap.objs.size + 1) (it := s1.heap.objs.size) (Nat.succ_ne_self _) (fun z => ?_) (Nat.ne_of_lt ta), ⟨⟨.none, he⟩, objK_iter ho⟩, fun c hcm => ?_, q⟩
    · rw [← z] at ta
      exact absurd ta (Nat.not_lt.mpr (Nat.le_succ _))
    · have hle : s1.heap.objs.size ≤ c := by
        simp only [List.mem_cons, List.not_mem_nil, or_false] at hcm
        rcases hcm with z | z <;> rw [z] <;> simp
      exact I1.fpOk hle (I1.hok.fresh hle)
end
end R
end
section
/-! Targets; sources of turns as readings. -/
namespace R
open PySem L2
open PySem.Spec PyProof.Rows
/-! ### frames -/
theorem getElem?_set_eq {α : Type} {l : List α} {i : Nat} {x : α} (h : i < l.length) : (l.set i x)[i]? = some x := by
  rw [List.getElem?_set_self h]
theorem getElem?_set_other {α : Type} {l : List α} {i j : Nat} {x : α} (h : i ≠ j) : (l.set i x)[j]? = l[j]? := List.getElem?_set_ne h
theorem wipeE_length (env : En) : ∀ vs : List Nat, (wipeE env vs).length = env.length
  | [] => rfl
  | v :: vs => by
    unfold wipeE
    rw [List.length_set, wipeE_length env vs]
theorem wipeE_get (env : En) (i : Nat) : ∀ vs : List Nat, (wipeE env vs)[i]? = env[i]? ∧ i ∉ vs ∨ (wipeE env vs)[i]? = some .non ∨ (wipeE env vs)[i]? = none
  | [] => .inl ⟨rfl, by simp⟩
  | v :: vs => by
    unfold wipeE
    by_cases h : v = i
    · subst h
      by_cases l : v < (wipeE env vs).length
      · exact .inr (.inl (getElem?_set_eq l))
      · exact .inr (.inr (by rw [List.getElem?_eq_none]; rw [List.length_set]; omega))
    · rw [getElem?_set_other h]
      rcases wipeE_get env i vs with ⟨q, r⟩ | q
      · exact .inl ⟨q, by simp [r, Ne.symm h]⟩
      · exact .inr q
theorem wipe_get (σ : L2.St) (i : Nat) {vs : List Nat} (h : i ∉ vs) : (wipe σ vs)[i]? = σ[i]? := by
  induction vs with
  | nil => rfl
  | cons v vs ih =>
    unfold wipe
    rw [getElem?_set_other (fun e => h (by simp [e]))]
    exact ih fun z => h (by simp [z])
theorem wipe_in (σ : L2.St) (i : Nat) : ∀ {vs : List Nat}, i ∈ vs → (wipe σ vs)[i]? = some none ∨ (wipe σ vs)[i]? = none
  | v :: vs, h => by
    unfold wipe
    by_cases e : v = i
    · subst e
      by_cases l : v < (wipe σ vs).length
      · exact .inl (getElem?_set_eq l)
      · exact .inr (by rw [List.getElem?_eq_none]; rw [List.length_set]; omega)
    · rw [getElem?_set_other e]
      exact wipe_in σ i ((List.mem_cons.mp h).resolve_left (Ne.symm e))
/-- changed in the slots vs alone -/
def SameO (vs : List Nat) (σ σ' : L2.St) : Prop := σ'.length = σ.length ∧ ∀ j, j ∉ vs → σ'[j]? = σ[j]?
theorem SameO.refl {vs : List Nat} {σ : L2.St} : SameO vs σ σ := ⟨rfl, fun _ _ => rfl⟩
theorem SameO.trans {vs : List Nat} {σ σ' σ2 : L2.St} (a : SameO vs σ σ') (b : SameO vs σ' σ2) : SameO vs σ σ2 := ⟨b.1.trans a.1, fun j h => (b.2 j h).trans (a.2 j h)⟩
theorem SameO.mono {vs us : List Nat} {σ σ' : L2.St} (a : SameO vs σ σ') (h : ∀ i ∈ vs, i ∈ us) : SameO us σ σ' := ⟨a.1, fun j n => a.2 j fun z => n (h j z)⟩
theorem SameO.wipe {vs : List Nat} {σ σ' : L2.St} (a : SameO vs (L2.wipe σ vs) σ') : L2.wipe σ' vs = L2.wipe σ vs := by
  apply List.ext_getElem?
  intro j
  by_cases h : j ∈ vs
  · have hl : (L2.wipe σ' vs).length = (L2.wipe σ vs).length := by
      rw [wipe_length, a.1]
    rcases wipe_in σ' j h with q | q
    · rcases wipe_in σ j h with r | r
      · rw [q, r]
      · have : j < (L2.wipe σ' vs).length := lt_of_get q
        rw [hl] at this
        rw [List.getElem?_eq_getElem this] at r
        cases r
    · rw [q, List.getElem?_eq_none]
      rw [← hl]
      exact List.getElem?_eq_none_iff.mp q
  · rw [wipe_get _ _ h, a.2 j h]
section
variable {p : Par} {env env' : En} {w : Wd} {φ : List Addr} {P : AO} {σ : L2.St} {H : Hp}
theorem Rel.par {E : XK} (R : Rel p env w φ P σ H) : Rel { p with XE := E } env w φ P σ H := ⟨R.st, R.sl, R.un, R.len, R.bP⟩
theorem Rel.unpar {E : XK} (R : Rel { p with XE := E } env w φ P σ H) : Rel p env w φ P σ H := ⟨R.st, R.sl, R.un, R.len, R.bP⟩
/-- own lists are no more than they were -/
def Less (env env' : En) (σ σ' : L2.St) : Prop := ∀ (i : Nat) (xs : List PyData), env'[i]? = some (.own xs) → env[i]? = some (.own xs) ∧ σ'[i]? = σ[i]?
theorem Less.refl : Less env env σ σ := fun _ _ h => ⟨h, rfl⟩
theorem Less.trans {env2 : En} {σ' σ2 : L2.St} (a : Less env env' σ σ') (b : Less env' env2 σ' σ2) : Less env env2 σ σ2 := fun i xs h => by
  obtain ⟨h1, e1⟩ := b i xs h
  obtain ⟨h2, e2⟩ := a i xs h1
  exact ⟨h2, e1.trans e2⟩
theorem Less.ob {σ' : L2.St} (l : Less env env' σ σ') {m : List Nat} {a : Addr} (h : Ob env' σ' m a) : Ob env σ m a := by
  obtain ⟨i, hi, xs, e1, e2⟩ := h
  obtain ⟨h1, h2⟩ := l i xs e1
  exact ⟨i, hi, xs, h1, by rw [← h2]; exact e2⟩
theorem Less.av {σ' : L2.St} (l : Less env env' σ σ') {m : List Nat} : ∀ a, Av P env σ m a → Av P env' σ' m a := fun a ⟨h1, h2⟩ => ⟨h1, fun z => h2 (l.ob z)⟩
theorem Rel.wipe (R : Rel p env w φ P σ H) (vs : List Nat) : Rel p (wipeE env vs) w φ P (L2.wipe σ vs) H ∧ Less env (wipeE env vs) σ (L2.wipe σ vs) := by
  have low : Less env (wipeE env vs) σ (L2.wipe σ vs) := fun i xs h => by
    rcases wipeE_get env i vs with ⟨q, n⟩ | q | q
    · exact ⟨by rw [← q]; exact h, wipe_get _ _ n⟩
    · rw [q] at h; cases h
    · rw [q] at h; cases h
  refine ⟨⟨R.st, fun i s h => ?_, fun i j xs ys a h1 h2 e1 e2 => ?_, by rw [wipeE_length, wipe_length, R.len], R.bP⟩, low⟩
  · rcases wipeE_get env i vs with ⟨q, n⟩ | q | q
    · rw [wipe_get _ _ n]
      exact R.sl i s (by rw [← q]; exact h)
    · rw [q] at h
      cases h
      exact .non _
    · rw [q] at h; cases h
  · obtain ⟨a1, b1⟩ := low i xs h1
    obtain ⟨a2, b2⟩ := low j ys h2
    exact R.un i j xs ys a a1 a2 (b1 ▸ e1) (b2 ▸ e2)
theorem demE_length : ∀ l : List Nat, (demE env l).length = env.length
  | [] => rfl
  | v :: vs => by
    unfold demE
    split
    · rw [List.length_set, demE_length vs]
    · exact demE_length vs
theorem demE_get (i : Nat) : ∀ l : List Nat, (demE env l)[i]? = env[i]? ∧ (i ∉ l ∨ ∀ xs, env[i]? ≠ some (.own xs)) ∨ (∃ xs, i ∈ l ∧ env[i]? = some (.own xs) ∧ (demE env l)[i]? = some (.val (.d (.list xs))))
  | [] => .inl ⟨rfl, .inl (by simp)⟩
  | v :: vs => by
    unfold demE
    have ih := demE_get i vs
    split
    · rename_i xs hx
      by_cases e : v = i
      · subst e
        have hl := lt_of_get hx
        rw [getElem?_set_eq hl]
        rcases ih with ⟨q, _⟩ | ⟨ys, h1, h2, h3⟩
        · rw [q] at hx
          exact .inr ⟨xs, by simp, hx, rfl⟩
        · rw [h3] at hx; cases hx
      · rw [getElem?_set_other e]
        rcases ih with ⟨q, r⟩ | ⟨ys, h1, h2, h3⟩
        · exact .inl ⟨q, r.imp (fun z => by simp [z, Ne.symm e]) id⟩
        · exact .inr ⟨ys, by simp [h1], h2, h3⟩
    · rename_i hx
      by_cases e : v = i
      · subst e
        rcases ih with ⟨q, r⟩ | ⟨ys, h1, h2, h3⟩
        · exact .inl ⟨q, .inr fun xs z => hx xs (by rw [q]; exact z)⟩
        · exact .inr ⟨ys, by simp, h2, h3⟩
      · rcases ih with ⟨q, r⟩ | ⟨ys, h1, h2, h3⟩
        · exact .inl ⟨q, r.imp (fun z => by simp [z, Ne.symm e]) id⟩
        · exact .inr ⟨ys, by simp [h1], h2, h3⟩
theorem dem_less (l : List Nat) : Less env (demE env l) σ σ := fun i xs h => by
  rcases demE_get (env := env) i l with ⟨q, r⟩ | ⟨ys, h1, h2, h3⟩
  · exact ⟨by rw [← q]; exact h, rfl⟩
  · rw [h3] at h; cases h
theorem Rel.dem (R : Rel p env w φ P σ H) (l : List Nat) : Rel p (demE env l) w φ (Av P env σ l) σ H := by
  refine ⟨⟨R.st.held.av l, ⟨R.st.wr.len, R.st.wr.at_, R.av_phi l, R.st.wr.nd⟩⟩, fun i s h => ?_, fun i j xs ys a h1 h2 e1 e2 => ?_, by rw [demE_length, R.len], fun a h => ⟨R.bP a h, R.b_out h⟩⟩
  · rcases demE_get (env := env) i l with ⟨q, r⟩ | ⟨ys, h1, h2, h3⟩
    · rw [q] at h
      have t := R.sl i s h
      generalize hg : σ[i]? = o at t
      cases t with
      | non => exact .non _
      | val v => exact .val (v.weak Av.le)
      | rng hr => exact .rng hr
      | own hp hn hb ho hz hd =>
        refine .own ⟨hp, fun ⟨j, hj, ys, f1, f2⟩ => ?_⟩ hn hb ho hz (RpL.cr (Cr.weak Av.le) _ _ hd)
        obtain rfl := R.un i j _ _ _ h f1 hg f2
        rcases r with r | r
        · exact r hj
        · exact r _ h
    · rw [h3] at h
      cases h
      have t := R.sl i _ h2
      generalize hg : σ[i]? = o at t
      cases t with
      | own hp hn hb ho hz hd => exact .val (.lst (.inl ⟨ho, fun z => z.2 ⟨i, h1, _, h2, hg⟩⟩) hz (RpL.cr (Cr.weak Av.le) _ _ hd))
  · obtain ⟨a1, _⟩ := dem_less (σ := σ) l i xs h1
    obtain ⟨a2, _⟩ := dem_less (σ := σ) l j ys h2
    exact R.un i j xs ys a a1 a2 e1 e2
/-- a value is stored -/
theorem Rel.put (R : Rel p env w φ P σ H) {i : Nat} {x : V} {v : Vl} (r : RpV p.K H P φ x v) : Rel p (env.set i (.val v)) w φ P (σ.set i (some x)) H ∧ Less env (env.set i (.val v)) σ (σ.set i (some x)) := by
  have low : Less env (env.set i (.val v)) σ (σ.set i (some x)) := fun j xs h => by
    by_cases e : i = j
    · subst e
      by_cases l : i < env.length
      · rw [getElem?_set_eq l] at h; cases h
      · rw [List.getElem?_eq_none (by rw [List.length_set]; omega)] at h; cases h
    · rw [getElem?_set_other e] at h ⊢
      exact ⟨h, rfl⟩
  refine ⟨⟨R.st, fun j s h => ?_, fun j k xs ys a h1 h2 e1 e2 => ?_, by rw [List.length_set, List.length_set, R.len], R.bP⟩, low⟩
  · by_cases e : i = j
    · subst e
      have l : i < env.length := by
        have := lt_of_get h
        rwa [List.length_set] at this
      rw [getElem?_set_eq l] at h
      cases h
      rw [getElem?_set_eq (by rw [← R.len]; exact l)]
      exact .val r
    · rw [getElem?_set_other e] at h ⊢
      exact R.sl j s h
  · obtain ⟨a1, b1⟩ := low j xs h1
    obtain ⟨a2, b2⟩ := low k ys h2
    exact R.un j k xs ys a a1 a2 (b1 ▸ e1) (b2 ▸ e2)
/-- a range is stored -/
theorem Rel.putR (R : Rel p env w φ P σ H) {i : Nat} {a : Addr} {n : Int} (r : H a = some (.rng 0 n)) : Rel p (env.set i (.rng n)) w φ P (σ.set i (some (.ref a))) H ∧ Less env (env.set i (.rng n)) σ (σ.set i (some (.ref a))) := by
  have low : Less env (env.set i (.rng n)) σ (σ.set i (some (.ref a))) := fun j xs h => by
    by_cases e : i = j
    · subst e
      by_cases l : i < env.length
      · rw [getElem?_set_eq l] at h; cases h
      · rw [List.getElem?_eq_none (by rw [List.length_set]; omega)] at h; cases h
    · rw [getElem?_set_other e] at h ⊢
      exact ⟨h, rfl⟩
  refine ⟨⟨R.st, fun j s h => ?_, fun j k xs ys a h1 h2 e1 e2 => ?_, by rw [List.length_set, List.length_set, R.len], R.bP⟩, low⟩
  · by_cases e : i = j
    · subst e
      have l : i < env.length := by
        have := lt_of_get h
        rwa [List.length_set] at this
      rw [getElem?_set_eq l] at h
      cases h
      rw [getElem?_set_eq (by rw [← R.len]; exact l)]
      exact .rng r
    · rw [getElem?_set_other e] at h ⊢
      exact R.sl j s h
  · obtain ⟨a1, b1⟩ := low j xs h1
    obtain ⟨a2, b2⟩ := low k ys h2
    exact R.un j k xs ys a a1 a2 (b1 ▸ e1) (b2 ▸ e2)
end
/-! ### targets -/
def gUn (K : PySem.W.Frag) (n : Nat) (t : TGs) : TG := fun v σ H Q => ∃ (k : Kd) (a : Addr) (xs : List V), v = .ref a ∧ Sq k K H a xs ∧ xs.length = n ∧ t xs σ H Q
def Tgs.len : Tgs → Nat
  | .nil => 0
  | .cons _ r => r.len + 1
mutual
def gT (K : PySem.W.Frag) : Tg → TG
  | .nm i => gName i
  | .tup ts => gUn K ts.len (gTs K ts)
def gTs (K : PySem.W.Frag) : Tgs → TGs
  | .nil => gNil
  | .cons t r => gCons (gT K t) (gTs K r)
end
section
variable {p : Par} {c : Ct} {X : Cx}
theorem store_ok' (a : At c X) {x : Str} (h : storeB c x = true) : Loc X.env.scope x ∧ (X.fn x = true ∨ X.env.scope.names.lookup x = some .local) := by
  unfold storeB at h
  rw [← a.sc, ← a.own] at h
  split at h <;> first | cases h | skip
  · rename_i q
    exact ⟨.inl q, .inr q⟩
  · rename_i q
    exact ⟨.inr q, .inl h⟩
theorem mTgs_len : ∀ {ts : Tgs} {l : List Expr}, mTgs c ts l = true → l.length = ts.len
  | .nil, [], _ => rfl
  | .cons t r, x :: l, h => by
    simp only [mTgs, Bool.and_eq_true] at h
    rw [List.length_cons, mTgs_len h.2]
    rfl
  | .nil, _ :: _, h => by simp [mTgs] at h
  | .cons _ _, [], h => by simp [mTgs] at h
theorem mTg_plain {t : Tg} {e : Expr} (h : mTg c t e = true) : (∃ x q, e = .Name x q) ∨ ∃ l k q, e = .Tuple l k q := by
  cases t <;> cases e <;> first | (simp [mTg] at h; done) | skip
  · exact .inl ⟨_, _, rfl⟩
  · exact .inr ⟨_, _, _, rfl⟩
theorem mTgs_all : ∀ {ts : Tgs} {l : List Expr}, mTgs c ts l = true → ∀ e ∈ l, (∃ x q, e = .Name x q) ∨ ∃ l k q, e = .Tuple l k q
  | .nil, [], _, e, he => by cases he
  | .cons t r, x :: l, h, e, he => by
    simp only [mTgs, Bool.and_eq_true] at h
    rcases List.mem_cons.mp he with rfl | he
    · exact mTg_plain h.1
    · exact mTgs_all h.2 e he
  | .nil, _ :: _, h, _, _ => by simp [mTgs] at h
  | .cons _ _, [], h, _, _ => by simp [mTgs] at h
theorem each_map : ∀ {l : List Expr} {env : Env}, (∀ e ∈ l, (∃ x q, e = .Name x q) ∨ ∃ l k q, e = .Tuple l k q) → assignEach l env = l.map fun e => (false, assign e env)
  | [], _, _ => rfl
  | e :: l, env, h => by
    have ih := each_map (l := l) (env := env) fun e he => h e (List.mem_cons_of_mem _ he)
    rcases h e (List.mem_cons_self ..) with ⟨x, q, rfl⟩ | ⟨l', k, q, rfl⟩
    · rw [List.map_cons, ← ih]
      rfl
    · rw [List.map_cons, ← ih]
      rfl
theorem each_snd {l : List Expr} {env : Env} (h : ∀ e ∈ l, (∃ x q, e = .Name x q) ∨ ∃ l k q, e = .Tuple l k q) : (assignEach l env).map (·.2) = l.map fun e => assign e env := by
  rw [each_map h, List.map_map]
  rfl
theorem pg_un {es : List Expr} {k : Nat} {q : Pos} {t : TGs} {n : Nat} (hc : X.calm = true) (h : PGs X es t) (hn : (assignEach es X.env).length = n) (hst : (assignEach es X.env).findIdx? (·.1) = none) : PG X (.Tuple es k q) (gUn X.K n t) := by
  refine ⟨fun pins s σ H v u Q I r hw => ?_⟩
  obtain ⟨kd, a, xs, e1, hq, hl, hw⟩ := hw
  cases kd
  · exact (pg_lst hc h hn hst).run pins s σ H v u Q I r ⟨a, xs, e1, hq, hl, hw⟩
  · exact (pg_tup hc h hn hst).run pins s σ H v u Q I r ⟨a, xs, e1, hq, hl, hw⟩
mutual
theorem pg_of (a : At c X) (hc : X.calm = true) (hN : X.N.Nodup) : ∀ {t : Tg} {e : Expr}, mTg c t e = true → PG X e (gT X.K t)
  | .nm i, e, h => by
    cases e <;> first | (simp [mTg] at h; done) | skip
    simp only [mTg, Bool.and_eq_true] at h
    obtain ⟨l, f⟩ := store_ok' a h.2
    exact pg_name hN (nm_ok a h.1) l f
  | .tup ts, e, h => by
    cases e <;> first | (simp [mTg] at h; done) | skip
    simp only [mTg] at h
    have hall := mTgs_all h
    refine pg_un hc (pgs_of a hc hN h) ?_ ?_
    · rw [each_map hall, List.length_map, mTgs_len h]
    · rw [each_map hall, List.findIdx?_eq_none_iff]
      intro x hx
      obtain ⟨e, _, rfl⟩ := List.mem_map.mp hx
      rfl
theorem pgs_of (a : At c X) (hc : X.calm = true) (hN : X.N.Nodup) : ∀ {ts : Tgs} {l : List Expr}, mTgs c ts l = true → PGs X l (gTs X.K ts)
  | .nil, [], _ => pgs_nil
  | .cons t r, x :: l, h => by
    have hall := mTgs_all h
    simp only [mTgs, Bool.and_eq_true] at h
    refine pgs_cons (pg_of a hc hN h.1) (pgs_of a hc hN h.2) ?_
    rw [each_snd hall, each_snd fun e he => hall e (List.mem_cons_of_mem _ he)]
    rfl
  | .nil, _ :: _, h => by simp [mTgs] at h
  | .cons _ _, [], h => by simp [mTgs] at h
end
mutual
theorem bind_ok : ∀ {t : Tg} {x : V} {d : PyData} {env env' : En} {w : Wd} {φ : List Addr} {P : AO} {σ : L2.St} {H : Hp} {Q : L2.St → Hp → Prop}, Rel p env w φ P σ H → Rp p.K H P x d → bindT t d env = some env' →
    (∀ σ', Rel p env' w φ P σ' H → Less env env' σ σ' → SameO (tgIx t) σ σ' → Q σ' H) → gT p.K t x σ H Q
  | .nm i, x, d, env, env', w, φ, P, σ, H, Q, R, r, e, k => by
    simp only [bindT] at e
    obtain rfl := Option.some.inj e
    obtain ⟨R1, l1⟩ := R.put (i := i) (v := .d d) r
    exact k _ R1 l1 ⟨List.length_set .., fun j h => getElem?_set_other (fun z => h (by simp [tgIx, z]))⟩
  | .tup ts, x, d, env, env', w, φ, P, σ, H, Q, R, r, e, k => by
    simp only [bindT, Option.bind_eq_some_iff] at e
    obtain ⟨ds, e1, e2⟩ := e
    rcases asSeq_some e1 with rfl | rfl
    · cases r with
      | lst h hz hd => exact ⟨.l, _, _, rfl, h.sq, by rw [hd.length]; exact binds_len e2, binds_ok R hd e2 k⟩
    · cases r with
      | tup h hz hd => exact ⟨.t, _, _, rfl, h, by rw [hd.length]; exact binds_len e2, binds_ok R hd e2 k⟩
theorem binds_len : ∀ {ts : Tgs} {ds : List PyData} {env env' : En}, bindTs ts ds env = some env' → ds.length = ts.len
  | .nil, [], _, _, _ => rfl
  | .cons t r, d :: ds, _, _, e => by
    simp only [bindTs, Option.bind_eq_some_iff] at e
    obtain ⟨env1, _, e2⟩ := e
    rw [List.length_cons, binds_len e2]
    rfl
  | .nil, _ :: _, _, _, e => by simp [bindTs] at e
  | .cons _ _, [], _, _, e => by simp [bindTs] at e
theorem binds_ok : ∀ {ts : Tgs} {xs : List V} {ds : List PyData} {env env' : En} {w : Wd} {φ : List Addr} {P : AO} {σ : L2.St} {H : Hp} {Q : L2.St → Hp → Prop}, Rel p env w φ P σ H → RpL p.K H P xs ds → bindTs ts ds env = some env' →
    (∀ σ', Rel p env' w φ P σ' H → Less env env' σ σ' → SameO (tgsIx ts) σ σ' → Q σ' H) → gTs p.K ts xs σ H Q
  | .nil, _, [], env, env', w, φ, P, σ, H, Q, R, .nil, e, k => by
    simp only [bindTs] at e
    obtain rfl := Option.some.inj e
    exact ⟨rfl, k σ R Less.refl SameO.refl⟩
  | .cons t r, _, d :: ds, env, env', w, φ, P, σ, H, Q, R, .cons h rr, e, k => by
    simp only [bindTs, Option.bind_eq_some_iff] at e
    obtain ⟨env1, e1, e2⟩ := e
    refine ⟨_, _, rfl, bind_ok R h e1 fun σ1 R1 l1 s1 => binds_ok R1 rr e2 fun σ2 R2 l2 s2 => k σ2 R2 (l1.trans l2) ?_⟩
    exact (s1.mono (fun i hi => by simp [tgsIx, hi])).trans (s2.mono fun i hi => by simp [tgsIx, hi])
  | .nil, _, _ :: _, _, _, _, _, _, _, _, _, _, _, e, _ => by simp [bindTs] at e
  | .cons _ _, _, [], _, _, _, _, _, _, _, _, _, _, e, _ => by simp [bindTs] at e
end
end
end R
end
section
/-! Sources of turns. -/
namespace R
open PySem L2
open PySem.Spec PyProof.Rows
/-- the source J gives xs, whatever else changes -/
def Src (K : PySem.W.Frag) (J : L2.It) (xs : List PyData) (S A : AO) (H0 : Hp) : Prop :=
  ∀ (H1 : Hp) (S1 A1 : AO), Cr H0 S H1 S1 → Cr H0 A H1 A1 → (∀ (i : Nat) (d : PyData), xs[i]? = some d → J.go i H1 ∧ ∀ (x : V) (H2 : Hp), J.yld i H1 x H2 → Kp H1 H2 ∧ Rp K H2 A1 x d) ∧ J.stop xs.length H1
/-- a sequence that stays -/
inductive SqR (K : PySem.W.Frag) (H : Hp) (S A : AO) : Kd → Addr → List V → List PyData → Prop
  | l {a : Addr} {xs : List V} {ds : List PyData} (h : LsA K H S a xs) (hz : xs.length ≤ sizeLine) (hd : RpL K H A xs ds) : SqR K H S A .l a xs ds
  | t {a : Addr} {xs : List V} {ds : List PyData} (h : SqT K H a xs) (hz : xs.length ≤ sizeLine) (hd : RpL K H A xs ds) : SqR K H S A .t a xs ds
theorem SqR.sq {K : PySem.W.Frag} {H : Hp} {S A : AO} {k : Kd} {a : Addr} {xs : List V} {ds : List PyData} (h : SqR K H S A k a xs ds) : Sq k K H a xs := by
  cases h with
  | l h => exact h.sq
  | t h => exact h
theorem SqR.rp {K : PySem.W.Frag} {H : Hp} {S A : AO} {k : Kd} {a : Addr} {xs : List V} {ds : List PyData} (h : SqR K H S A k a xs ds) : RpL K H A xs ds := by
  cases h with
  | l _ _ h => exact h
  | t _ _ h => exact h
theorem SqR.cr {K : PySem.W.Frag} {H H' : Hp} {S A S' A' : AO} {k : Kd} {a : Addr} {xs : List V} {ds : List PyData} (h : SqR K H S A k a xs ds) (c : Cr H S H' S') (d : Cr H A H' A') : SqR K H' S' A' k a xs ds := by
  cases h with
  | l h hz hd => exact .l (c.lsA h) hz (RpL.cr d _ _ hd)
  | t h hz hd => exact .t (c.sqT h) hz (RpL.cr d _ _ hd)
theorem Rq.sqr {K : PySem.W.Frag} {H : Hp} {S A : AO} {x : V} {d : PyData} {ds : List PyData} (h : Rq K H S A x d) (e : asSeq d = some ds) : ∃ k a xs, x = .ref a ∧ SqR K H S A k a xs ds := by
  rcases asSeq_some e with rfl | rfl
  · obtain ⟨a, xs, h1, h2, h3, h4⟩ := h.list
    exact ⟨.l, a, xs, h1, .l h2 h3 h4⟩
  · obtain ⟨a, xs, h1, h2, h3, h4⟩ := h.tuple
    exact ⟨.t, a, xs, h1, .t h2 h3 h4⟩
theorem sq_same {K : PySem.W.Frag} {H : Hp} {S A : AO} {k : Kd} {a : Addr} {xs : List V} {ds : List PyData} (h : SqR K H S A k a xs ds) {i : Nat} {d : PyData} {x : V} (e : ds[i]? = some d) (q : ∀ ys, Sq k K H a ys → ys[i]? = some x) : Rp K H A x d := by
  obtain ⟨v, h1, h2⟩ := h.rp.get e
  have := q _ h.sq
  rw [h1] at this
  cases this
  exact h2
theorem src_seq {K : PySem.W.Frag} {H : Hp} {S A : AO} {k : Kd} {a : Addr} {xs : List V} {ds : List PyData} (h : SqR K H S A k a xs ds) : Src K (ItK k K a) ds S A H := by
  intro H1 S1 A1 c1 c2
  have h1 := h.cr c1 c2
  refine ⟨fun i d e => ?_, ?_⟩
  · obtain ⟨v, e1, e2⟩ := h1.rp.get e
    cases k
    · exact ⟨⟨xs, v, h1.sq, e1⟩, fun x H2 ⟨hH, q⟩ => by
        subst hH
        exact ⟨Kp.refl, sq_same h1 e q⟩⟩
    · exact ⟨⟨xs, v, h1.sq, e1⟩, fun x H2 ⟨hH, q⟩ => by
        subst hH
        exact ⟨Kp.refl, sq_same h1 e q⟩⟩
  · rw [← h.rp.length]
    cases k
    · exact ⟨xs, h1.sq, Nat.le_refl _⟩
    · exact ⟨xs, h1.sq, Nat.le_refl _⟩
theorem zw_get {xs ys : List PyData} {i : Nat} {d : PyData} (h : (List.zipWith (fun x y => PyData.tuple [x, y]) xs ys)[i]? = some d) : ∃ x y, xs[i]? = some x ∧ ys[i]? = some y ∧ d = .tuple [x, y] := by
  rw [List.getElem?_zipWith] at h
  cases h1 : xs[i]? with
  | none => rw [h1] at h; cases h
  | some x =>
    cases h2 : ys[i]? with
    | none => rw [h1, h2] at h; cases h
    | some y =>
      rw [h1, h2] at h
      exact ⟨x, y, rfl, rfl, (Option.some.inj h).symm⟩
theorem two_fits : 2 ≤ sizeLine := by decide
theorem src_zip {K : PySem.W.Frag} {H : Hp} {S A : AO} {k1 k2 : Kd} {a b : Addr} {xs ys : List V} {ds es : List PyData} (h : SqR K H S A k1 a xs ds) (g : SqR K H S A k2 b ys es) : Src K (ItZ k1 k2 K a b) (List.zipWith (fun x y => .tuple [x, y]) ds es) S A H := by
  intro H1 S1 A1 c1 c2
  have h1 := h.cr c1 c2
  have g1 := g.cr c1 c2
  refine ⟨fun i d e => ?_, ⟨xs, ys, h1.sq, g1.sq, by rw [List.length_zipWith, h.rp.length, g.rp.length]⟩⟩
  obtain ⟨x, y, e1, e2, rfl⟩ := zw_get e
  obtain ⟨v, f1, _⟩ := h1.rp.get e1
  obtain ⟨u, f2, _⟩ := g1.rp.get e2
  refine ⟨⟨xs, ys, v, u, h1.sq, g1.sq, f1, f2⟩, fun z H2 ⟨T, v', u', ez, nT, eH, q1, q2⟩ => ?_⟩
  subst ez eH
  have k1 : Kp H1 (upd H1 T (.tup [v', u'])) := Kp.upd nT
  have cc : Cr H1 A1 (upd H1 T (.tup [v', u'])) A1 := Cr.kp k1 fun _ h => .inl h
  exact ⟨k1, .tup (.of upd_same) two_fits (.cons (Rp.cr cc _ _ (sq_same h1 e1 q1)) (.cons (Rp.cr cc _ _ (sq_same g1 e2 q2)) .nil))⟩
theorem src_enm {K : PySem.W.Frag} {H : Hp} {S A : AO} {k : Kd} {a : Addr} {xs : List V} {ds : List PyData} (h : SqR K H S A k a xs ds) : Src K (ItE k K a) (ds.zipIdx.map fun p => .tuple [.int p.2, p.1]) S A H := by
  intro H1 S1 A1 c1 c2
  have h1 := h.cr c1 c2
  refine ⟨fun i d e => ?_, ⟨xs, h1.sq, by rw [List.length_map, List.length_zipIdx, h.rp.length]⟩⟩
  rw [List.getElem?_map, List.getElem?_zipIdx] at e
  cases e1 : ds[i]? with
  | none => rw [e1] at e; cases e
  | some x =>
    rw [e1] at e
    have e : d = .tuple [.int i, x] := by simpa using e.symm
    subst e
    obtain ⟨v, f1, _⟩ := h1.rp.get e1
    refine ⟨⟨xs, v, h1.sq, f1⟩, fun z H2 ⟨T, v', ez, nT, eH, q1⟩ => ?_⟩
    subst ez eH
    have k1 : Kp H1 (upd H1 T (.tup [.int (i : Nat), v'])) := Kp.upd nT
    have cc : Cr H1 A1 (upd H1 T (.tup [.int (i : Nat), v'])) A1 := Cr.kp k1 fun _ h => .inl h
    exact ⟨k1, .tup (.of upd_same) two_fits (.cons (.int _) (.cons (Rp.cr cc _ _ (sq_same h1 e1 q1)) .nil))⟩
theorem rangeL_get {lo c : Int} {n i : Nat} {d : PyData} (h : (rangeL lo n c)[i]? = some d) : i < n ∧ d = .int (lo + i * c) := by
  unfold rangeL at h
  rw [List.getElem?_map] at h
  by_cases l : i < n
  · rw [List.getElem?_range l] at h
    exact ⟨l, (Option.some.inj h).symm⟩
  · rw [List.getElem?_eq_none (by simpa using l)] at h
    cases h
theorem rangeL_len {lo c : Int} {n : Nat} : (rangeL lo n c).length = n := by simp [rangeL]
theorem src_rng {K : PySem.W.Frag} {H : Hp} {S A : AO} {lo : Int} {n : Nat} : Src K (Itr lo n) (rangeL lo n 1) S A H := by
  intro H1 S1 A1 c1 c2
  refine ⟨fun i d e => ?_, show n ≤ _ by rw [rangeL_len]; exact Nat.le_refl _⟩
  obtain ⟨l, rfl⟩ := rangeL_get e
  refine ⟨l, fun x H2 ⟨e1, e2⟩ => ?_⟩
  subst e1 e2
  rw [Int.mul_one]
  exact ⟨Kp.refl, .int _⟩
theorem src_rngC {K : PySem.W.Frag} {H : Hp} {S A : AO} {lo c : Int} {n : Nat} : Src K (Itc lo c n) (rangeL lo n c) S A H := by
  intro H1 S1 A1 c1 c2
  refine ⟨fun i d e => ?_, show n ≤ _ by rw [rangeL_len]; exact Nat.le_refl _⟩
  obtain ⟨l, rfl⟩ := rangeL_get e
  refine ⟨l, fun x H2 ⟨e1, e2⟩ => ?_⟩
  subst e1 e2
  exact ⟨Kp.refl, .int _⟩
/-! ### readings -/
/-- what may change while the slots M are written -/
def SM (P : AO) (env : En) (σ : L2.St) (M : List Nat) : AO := fun a => P a ∧ ∀ (i : Nat) (xs : List PyData), i ∉ M → env[i]? = some (.own xs) → σ[i]? ≠ some (some (.ref a))
def rdU (p : Par) (M : List Nat) (e : E) : TE := fun σ H Q => ∃ env w φ P, Rel p env w φ P σ H ∧ Ans p ((ev p.G p.F p.np env e w).bind asD) φ P H fun d _ φ' P' H' => ∀ x, Rq p.K H' (SM P' env σ M) (Av P' env σ (escV e)) x d → Q x H'
def rdI (p : Par) (M : List Nat) (it : R.It) : TI := fun σ H R => ∃ env w φ P, Rel p env w φ P σ H ∧ Ans p (evI p.G p.F p.np env it w) φ P H fun xs _ φ' P' H' => ∀ J, Src p.K J xs (SM P' env σ M) (Av P' env σ (escI it)) H' → R J H'
def okU (M : List Nat) (e : E) : Bool := (esc e).all fun i => decide (i ∉ M)
def okI (M : List Nat) : R.It → Bool
  | .seq e => okU M e
  | .zip a b => okU M a && okU M b
  | .enm a => okU M a
  | .comb a _ => okU M a
  | .ezp a b => okU M a && okU M b
  | _ => true
section
variable {p : Par} {c : Ct} {X : Cx} {pe pe2 : Expr} {e a b : E} {pos : Pos} {M : List Nat}
theorem SM.sub {φ : List Addr} {P : AO} {w : Wd} {env : En} {σ : L2.St} {H : Hp} (R : Rel p env w φ P σ H) (ok : okU M e = true) : ∀ z, SM P env σ M z → Av P env σ (esc e) z := by
  intro z h
  refine ⟨h.1, fun ⟨j, hj, ys, f1, f2⟩ => ?_⟩
  have := List.all_eq_true.mp ok j hj
  exact h.2 j ys (of_decide_eq_true this) f1 f2
theorem SM.phi {φ : List Addr} {P : AO} {w : Wd} {env : En} {σ : L2.St} {H : Hp} (R : Rel p env w φ P σ H) : ∀ z ∈ φ, SM P env σ M z := fun z hz => ⟨R.st.wr.av z hz, fun i xs _ e1 e2 => by
  have s := R.sl i _ e1
  rw [e2] at s
  cases s with
  | own hp hn hb h hz' hd => exact hn hz⟩
theorem SM.ob {φ : List Addr} {P : AO} {w : Wd} {env : En} {σ : L2.St} {H : Hp} (R : Rel p env w φ P σ H) : ∀ z, Ob env σ M z → SM P env σ M z := fun z h => ⟨(R.es_out h).2.1, fun i xs n e1 e2 => by
  obtain ⟨j, hj, ys, f1, f2⟩ := h
  obtain rfl := R.un i j _ _ _ e1 f1 e2 f2
  exact n hj⟩
theorem rd_u (h : PE X pe (rdE p e)) (ok : okU M e = true) (hv : ∀ i, e ≠ .var i) : PE X pe (rdU p M e) := PEi h fun σ H Q ⟨env, w, φ, P, R, A⟩ => ⟨env, w, φ, P, R, A.bind.imp fun v w' φ' P' H' hE W A1 x r => by
  obtain ⟨d, rfl, A1⟩ := A1.data
  have T := A1.here W
  refine T x ?_
  rw [escV_ne hv]
  exact Rp.rq (SM.sub (R.ev hE W) ok) r⟩
theorem rd_varU {i : Nat} {x : Str} {q : Pos} (hN : X.N[i]? = some x) (hv : Vis X.env.scope x) (n : OkN x) (ok : okU M (.var i) = true) : PE X (.Name x q) (rdU p M (.var i)) := by
  refine PEi (pe_var (pos := q) hN hv n.d n.cd) fun σ H Q ⟨env, w, φ, P, R, A⟩ => ?_
  obtain ⟨v, e, A⟩ := Ans.opt (o := getV env i) (by simpa only [ev] using A.bind)
  have A := A.here R.st
  obtain ⟨d, rfl, A⟩ := A.data
  have T := A.here R.st
  have ni : i ∉ M := by simpa [okU, esc] using ok
  rcases getV_some e with e1 | ⟨xs, e1, e2⟩
  · have s := R.sl i _ e1
    generalize hg : σ[i]? = o at s
    cases s with
    | val h => exact ⟨_, hg, T _ (Rp.rq (fun z h => av_nil z h.1) (Rp.cr (Cr.weak Av.le) _ _ h))⟩
  · cases e2
    have s := R.sl i _ e1
    generalize hg : σ[i]? = o at s
    cases s with
    | own hp hn hb h hz hd =>
      refine ⟨_, hg, T _ (.lst (.inl ⟨h, fun z => ?_⟩) hz (RpL.cr (Cr.weak Av.le) _ _ hd))⟩
      exact z.2 i _ ni e1 hg
theorem rI_seq (h : PE X pe (rdU p M e)) (hk : X.K = p.K) {tg : Expr} : PI X tg pe (rdI p M (.seq e)) := by
  have b := pi_seq (tg := tg) h
  refine ⟨fun pins s σ H R I ⟨env, w, φ, P, r, A⟩ => b.run pins s σ H R I ?_⟩
  simp only [evI] at A
  rw [← bind_assoc'] at A
  refine ⟨env, w, φ, P, r, A.bind.imp fun d w1 φ1 P1 H1 E1 W1 A1 x rx => ?_⟩
  obtain ⟨xs, e1, A1⟩ := A1.opt
  obtain ⟨k, a, vs, rfl, sq⟩ := rx.sqr e1
  rw [hk]
  exact ⟨k, a, vs, rfl, sq.sq, A1.here W1 _ (src_seq sq)⟩
def rdU1 (p : Par) (M : List Nat) (a : E) : TA := fun σ H Q => rdU p M a σ H fun x H1 => Q [x] H1
def rdU2 (p : Par) (M : List Nat) (a b : E) : TA := fun σ H Q => ∃ env w φ P, Rel p env w φ P σ H ∧ Ans p (((ev p.G p.F p.np env a w).bind asD).bind fun x w => ((ev p.G p.F p.np env b w).bind asD).bind fun y w => .ok (x, y) w) φ P H fun d _ φ' P' H' => ∀ x y, Rq p.K H' (SM P' env σ M) (Av P' env σ (escV a ++ escV b)) x d.1 → Rq p.K H' (SM P' env σ M) (Av P' env σ (escV a ++ escV b)) y d.2 → Q [x, y] H'
theorem SM.ev {env : En} {σ : L2.St} {φ φ' : List Addr} {P P' : AO} {H H' : Hp} (E : Ev φ P H φ' P' H') : ∀ z, SM P' env σ M z → SM P env σ M z ∨ H z = none := fun z h => (E.nw z h.1).imp (fun q => ⟨q, h.2⟩) id
theorem pa_u1 (h : PE X pe (rdU p M a)) (hs : noStar pe = true) : PA X [pe] (rdU1 p M a) := PAi (pa_cons' hs h L2.pa_nil) fun σ H Q ⟨env, w, φ, P, R, A⟩ => ⟨env, w, φ, P, R, A⟩
theorem pa_u2 (h : PE X pe (rdU p M a)) (hs : noStar pe = true) (h2 : PE X pe2 (rdU p M b)) (hs2 : noStar pe2 = true) : PA X [pe, pe2] (rdU2 p M a b) := by
  refine PAi (pa_cons' hs h (pa_u1 h2 hs2)) fun σ H Q ⟨env, w, φ, P, R, A⟩ => ?_
  refine ⟨env, w, φ, P, R, A.bind.imp fun d w1 φ1 P1 H1 E1 W1 A1 x rx => ?_⟩
  have R1 := R.ev E1 W1
  refine ⟨env, w1, φ1, P1, R1, A1.bind.imp fun d2 w2 φ2 P2 H2 E2 W2 A2 y ry => ?_⟩
  have T := A2.here W2
  refine T x y ?_ ?_
  · refine Rq.cr (E2.cr W1 (R1.av_phi _) fun z h => ?_) (E2.cr W1 (SM.phi R1) (SM.ev E2)) rx
    exact Av.nw E2 z (Av.sub (fun i hi => by simp [hi]) z h)
  · exact Rq.cr (Cr.weak (Av.sub fun i hi => by simp [hi])) Cr.refl ry
theorem star1 (h : noStar pe = true) (env : Env) : starEach [pe] env = [(false, eval pe env)] := star_cons h
theorem rI_zip (h : PA X [pe, pe2] (rdU2 p M a b)) (hk : X.K = p.K) (h1 : noStar pe = true) (h2 : noStar pe2 = true) (gx : Gl X "zip") (hm : X.mg "zip" = none) {els : List Expr} {n : Nat} {tp q : Pos} :
    PI X (.Tuple els n tp) (.Call (.Name "zip" q) [pe, pe2] [] pos) (rdI p M (.zip a b)) := by
  have bb := pi_pairs (els := els) (n := n) (tp := tp) (p := q) (pos := pos) gx hm h (star_cons h1) (star_plain (by simp [h2]))
  refine ⟨fun pins s σ H R I ⟨env, w, φ, P, r, A⟩ => bb.run pins s σ H R I ?_⟩
  rw [show evI p.G p.F p.np env (.zip a b) w = (((ev p.G p.F p.np env a w).bind asD).bind fun x w => ((ev p.G p.F p.np env b w).bind asD).bind fun y w => .ok (x, y) w).bind fun d w => (match asSeq d.1, asSeq d.2 with
    | some xs, some ys => .ok (List.zipWith (fun x y => .tuple [x, y]) xs ys) w
    | _, _ => .bad) from by
      simp only [evI, bind_assoc', bind_ok_eq] <;> rfl] at A
  refine ⟨env, w, φ, P, r, A.bind.imp fun d w1 φ1 P1 H1 E1 W1 A1 x y rx ry => ?_⟩
  cases e1 : asSeq d.1 with
  | none =>
    rw [e1] at A1
    exact A1.elim
  | some xs =>
    cases e2 : asSeq d.2 with
    | none =>
      rw [e1, e2] at A1
      exact A1.elim
    | some ys =>
      rw [e1, e2] at A1
      obtain ⟨k1, a1, vs, rfl, sq1⟩ := rx.sqr e1
      obtain ⟨k2, a2, us, rfl, sq2⟩ := ry.sqr e2
      rw [hk]
      exact ⟨k1, k2, a1, a2, vs, us, rfl, sq1.sq, sq2.sq, A1.here W1 _ (src_zip sq1 sq2)⟩
theorem rI_enm (h : PE X pe (rdU p M a)) (hk : X.K = p.K) (h1 : noStar pe = true) (gx : Gl X "enumerate") (hm : X.mg "enumerate" = none) {els : List Expr} {n : Nat} {tp q : Pos} :
    PI X (.Tuple els n tp) (.Call (.Name "enumerate" q) [pe] [] pos) (rdI p M (.enm a)) := by
  have bb := pi_places (els := els) (n := n) (tp := tp) (p := q) (pos := pos) gx hm (pa_u1 h h1) (star1 h1 X.env)
  refine ⟨fun pins s σ H R I ⟨env, w, φ, P, r, A⟩ => bb.run pins s σ H R I ?_⟩
  simp only [evI] at A
  rw [← bind_assoc'] at A
  refine ⟨env, w, φ, P, r, A.bind.imp fun d w1 φ1 P1 H1 E1 W1 A1 x rx => ?_⟩
  cases e1 : asSeq d with
  | none =>
    rw [e1] at A1
    exact A1.elim
  | some xs =>
    rw [e1] at A1
    obtain ⟨k1, a1, vs, rfl, sq1⟩ := rx.sqr e1
    rw [hk]
    exact ⟨k1, a1, vs, rfl, sq1.sq, A1.here W1 _ (src_enm sq1)⟩
theorem small_lo {i : Int} (h : small62 i = true) : -(2 ^ 62) ≤ i ∧ i < 2 ^ 62 := by
  unfold small62 at h
  simp only [Bool.and_eq_true, decide_eq_true_eq] at h
  exact h
theorem rI_rng1 (h : PE X pe (rdE p a)) (h1 : noStar pe = true) (gx : Gl X "range") (hm : X.mg "range" = none) {tg : Expr} {q : Pos} : PI X tg (.Call (.Name "range" q) [pe] [] pos) (rdI p M (.rng1 a)) := by
  have bb := pi_range1 (tg := tg) (p := q) (pos := pos) gx hm (pa_cons' h1 h L2.pa_nil) (star1 h1 X.env)
  refine ⟨fun pins s σ H R I ⟨env, w, φ, P, r, A⟩ => bb.run pins s σ H R I ?_⟩
  simp only [evI] at A
  refine ⟨env, w, φ, P, r, A.bind.imp fun v w1 φ1 P1 H1 E1 W1 A1 x rx => ?_⟩
  obtain ⟨d, rfl, A2⟩ := A1.bind.data
  replace A1 := A2.here W1
  cases d <;> first | exact A1.elim | skip
  rename_i i
  cases rx
  by_cases hs : small62 i = true
  · simp only [hs, if_true] at A1
    have b := small_lo hs
    exact ⟨i, rfl, b.1, b.2, A1.here W1 _ src_rng⟩
  · simp only [hs] at A1
    exact A1.elim
/-- values of several operands, plain data -/
def rdD2 (p : Par) (a b : E) : TA := fun σ H Q => ∃ env w φ P, Rel p env w φ P σ H ∧ Ans p (((ev p.G p.F p.np env a w).bind asD).bind fun x w => ((ev p.G p.F p.np env b w).bind asD).bind fun y w => .ok (x, y) w) φ P H fun d w' φ' P' H' => Wst φ' w' P' H' → ∀ x y, Rp p.K H' (Av P' env σ (esc a ++ esc b)) x d.1 → Rp p.K H' (Av P' env σ (esc a ++ esc b)) y d.2 → Q [x, y] H'
theorem pa_d2 (h : PE X pe (rdE p a)) (hs : noStar pe = true) (h2 : PE X pe2 (rdE p b)) (hs2 : noStar pe2 = true) : PA X [pe, pe2] (rdD2 p a b) := by
  refine PAi (pa_cons' hs h (pa_cons' hs2 h2 L2.pa_nil)) fun σ H Q ⟨env, w, φ, P, R, A⟩ => ?_
  simp only [bind_assoc'] at A
  refine ⟨env, w, φ, P, R, A.bind.imp fun v w1 φ1 P1 H1 E1 W1 A1 x rx => ?_⟩
  have R1 := R.ev E1 W1
  obtain ⟨d, rfl, A2⟩ := A1.bind.data
  replace A1 := A2.here W1
  refine ⟨env, w1, φ1, P1, R1, A1.bind.imp fun v2 w2 φ2 P2 H2 E2 W2 A2 y ry => ?_⟩
  obtain ⟨d2, rfl, A3⟩ := A2.bind.data
  replace A2 := A3.here W2
  refine (A2.here W2) W2 x y ?_ (Rp.cr (Cr.weak (Av.sub fun i hi => by simp [hi])) _ _ ry)
  exact Rp.cr (E2.cr W1 (R1.av_phi _) fun z h => Av.nw E2 z (Av.sub (fun i hi => by simp [hi]) z h)) _ _ rx
theorem rI_rng2 (h : PE X pe (rdE p a)) (h1 : noStar pe = true) (g : PE X pe2 (rdE p b)) (h2 : noStar pe2 = true) (gx : Gl X "range") (hm : X.mg "range" = none) {tg : Expr} {q : Pos} : PI X tg (.Call (.Name "range" q) [pe, pe2] [] pos) (rdI p M (.rng2 a b)) := by
  have bb := pi_range2 (tg := tg) (p := q) (pos := pos) gx hm (pa_d2 h h1 g h2) (by rw [star_cons h1, star_cons h2]; rfl) (star1 h2 X.env)
  refine ⟨fun pins s σ H R I ⟨env, w, φ, P, r, A⟩ => bb.run pins s σ H R I ?_⟩
  rw [show evI p.G p.F p.np env (.rng2 a b) w = (((ev p.G p.F p.np env a w).bind asD).bind fun x w => ((ev p.G p.F p.np env b w).bind asD).bind fun y w => .ok (x, y) w).bind fun d w => (match d.1, d.2 with
    | .int i, .int j => if small62 i && small62 j then .ok (rangeL i (j - i).toNat 1) w else .bad
    | _, _ => .bad) from by
      simp only [evI, bind_assoc', bind_ok_eq] <;> rfl] at A
  refine ⟨env, w, φ, P, r, A.bind.imp fun d w1 φ1 P1 H1 E1 W1 A1 _ x y rx ry => ?_⟩
  obtain ⟨d1, d2⟩ := d
  cases d1 <;> first | exact A1.elim | skip
  cases d2 <;> first | exact A1.elim | skip
  rename_i i j
  cases rx
  cases ry
  by_cases hs : (small62 i && small62 j) = true
  · simp only [hs, if_true] at A1
    rw [Bool.and_eq_true] at hs
    have b1 := small_lo hs.1
    have b2 := small_lo hs.2
    exact ⟨i, j, rfl, ⟨b1.1, b1.2, b2.1, b2.2⟩, A1.here W1 _ src_rng⟩
  · simp only [hs] at A1
    exact A1.elim
theorem rI_rng3 {pe3 : Expr} {d : E} (h : PE X pe (rdE p a)) (h1 : noStar pe = true) (g : PE X pe2 (rdE p b)) (h2 : noStar pe2 = true) (g3 : PE X pe3 (rdE p d)) (h3 : noStar pe3 = true) (gx : Gl X "range") (hm : X.mg "range" = none) {tg : Expr} {q : Pos} : PI X tg (.Call (.Name "range" q) [pe, pe2, pe3] [] pos) (rdI p M (.rng3 a b d)) := by
  have bb := pi_range3 (tg := tg) (p := q) (pos := pos) gx hm (pa_cons' h1 h (pa_cons' h2 g (pa_cons' h3 g3 L2.pa_nil))) (star_cons h1) (star_plain (by simp [h2, h3]))
  refine ⟨fun pins s σ H R I ⟨env, w, φ, P, r, A⟩ => bb.run pins s σ H R I ?_⟩
  simp only [evI] at A
  refine ⟨env, w, φ, P, r, A.bind.imp fun v w1 φ1 P1 H1 E1 W1 A1 x rx => ?_⟩
  have R1 := r.ev E1 W1
  obtain ⟨d1, rfl, B1⟩ := A1.bind.data
  replace A1 := B1.here W1
  clear B1
  refine ⟨env, w1, φ1, P1, R1, A1.bind.imp fun v2 w2 φ2 P2 H2 E2 W2 A2 y ry => ?_⟩
  have R2 := R1.ev E2 W2
  obtain ⟨d2, rfl, B2⟩ := A2.bind.data
  replace A2 := B2.here W2
  clear B2
  refine ⟨env, w2, φ2, P2, R2, A2.bind.imp fun v3 w3 φ3 P3 H3 E3 W3 A3 z rz => ?_⟩
  obtain ⟨d3, rfl, B3⟩ := A3.bind.data
  replace A3 := B3.here W3
  clear B3
  cases d1 <;> first | exact A3.elim | skip
  cases d2 <;> first | exact A3.elim | skip
  cases d3 <;> first | exact A3.elim | skip
  rename_i i j k
  cases rx
  cases ry
  cases rz
  by_cases hs : (small62 i && small62 j && decide (k = -1)) = true
  · simp only [hs, if_true] at A3
    simp only [Bool.and_eq_true, decide_eq_true_eq] at hs
    obtain ⟨⟨s1, s2⟩, rfl⟩ := hs
    have b1 := small_lo s1
    have b2 := small_lo s2
    exact ⟨i, j, -1, _, rfl, RgC.neg b1.1 b1.2 b2.1 b2.2, A3.here W3 _ src_rngC⟩
  · simp only [hs] at A3
    exact A3.elim
end
end R
end
section
/-! A range in a variable, and enumerate(zip(..)), as what a loop walks. -/
namespace R
open PySem L2
open PySem.Spec PyProof.Rows
section
variable {prog : Program} {w : World} {A : Around} {E : Value → Shared → Prop} {s : Shared}
theorem wp_alive {a : Addr} {Q : Option Obj → Shared → Prop} (h : Q (s.heap.get? a) s) : wpAny (model prog w) A (loadIfAlive a) Q E s := fun _ _ _ => h
/-- a zip, whatever it remembers of the pair that it gave last -/
abbrev ZR (h : Heap) (z TI TO : Addr) (x y : Value) : Prop := h.get? z = some { cls := .type "zip", dict := none, data := .fields #[x, y, .bool false, .ref TI, .ref TO], slots := #[] }
def Rem (x : Value) : Prop := x = .none ∨ ∃ T : Addr, x = rawInt T
/-- whether its pair may be used again -/
theorem free_ {z TI TO : Addr} {x y : Value} {Q : Bool → Shared → Prop} (hz : ZR s.heap z TI TO x y) (hx : Rem x)
    (h1 : Q true s) (h2 : ∀ h' y', ZR h' z TI TO x y' → Heap.SameBut z s.heap h' → Q false { s with heap := h' }) : wpAny (model prog w) A (Builtin.SmallTypes.ownedTupleIsFree (.ref z)) Q E s := by
  unfold Builtin.SmallTypes.ownedTupleIsFree
  rcases hx with rfl | ⟨T, rfl⟩
  · exact wpAny_bind (wpAny_field hz rfl (x := Value.none) rfl (wpAny_pure h1))
  · refine wpAny_bind (wpAny_field hz rfl (x := rawInt T) rfl ?_)
    show wpAny _ _ (loadIfAlive ((T : Int).toNat) >>= _) _ _ _
    refine wpAny_bind (wp_alive ?_)
    cases e : s.heap.get? (T : Int).toNat with
    | none =>
      simp only [Option.isNone_none, if_true]
      exact wpAny_pure h1
    | some ob =>
      simp only [Option.isNone_some]
      refine wpAny_bind (wpAny_field hz rfl (x := y) rfl ?_)
      by_cases q : (y != Value.bool true) = true
      · rw [if_pos q]
        refine wpAny_bind (wpAny_setField_rec hz (by simp) fun g0 hz0 hs0 => wpAny_pure ?_)
        exact h2 g0 (.bool true) hz0 hs0
      · rw [if_neg q]
        exact wpAny_pure (h2 s.heap y hz (Heap.SameBut.refl ..))
variable {z TI TO i1 i2 : Addr} {fp1 fp2 : List Addr} {n1 n2 i : Nat} {P1 P2 : Nat → Value → Prop} {St1 St2 : Nat → Heap → Prop}
theorem put2_ {T : Addr} {c1 c2 x : Value} {k : Nat} {R : Unit → Shared → Prop} (t2 : IsTupOf2 s.heap T c1 c2) (go : ∀ m, m.get? T = some { cls := .type "tuple", data := .seq ((#[c1, c2] : Array Value).setIfInBounds k x) } → Heap.SameBut T s.heap m → R () { s with heap := m }) :
    wpAny (model prog w) A (updateSeq T (·.setIfInBounds k x)) R E s := updateSeq_IsTupOf2 t2 go
/-- what a zip gives next, whether or not it makes a new pair -/
theorem zip_step {x y a1 a2 : Value} {Q : Value → Shared → Prop} (S : ZipSep2 z TI TO i1 i2 fp1 fp2) (D1 : Draws prog w A i1 fp1 n1 P1 St1) (D2 : Draws prog w A i2 fp2 n2 P2 St2) (hz : ZR s.heap z TI TO x y) (hx : Rem x)
    (hTI : IsTupOf2 s.heap TI (.ref i1) (.ref i2)) (hTO : IsTupOf2 s.heap TO a1 a2) (s1 : St1 i s.heap) (s2 : St2 i s.heap) (l1 : i < n1) (l2 : i < n2)
    (k : ∀ u1 u2 m tk x' y' b1 b2 T, P1 i u1 → P2 i u2 → ZR m z TI TO x' y' → Rem x' → IsTupOf2 m TO b1 b2 → St1 (i + 1) m → St2 (i + 1) m → s.heap.objs.size ≤ T → IsTupOf2 m T u1 u2 →
      (∀ c o, c ≠ z → c ≠ TO → c ≠ i1 → c ≠ i2 → s.heap.get? c = some o → m.get? c = some o) → s.heap.objs.size ≤ m.objs.size → Q (.ref T) { s with heap := m, toks := tk }) :
    wpAny (model prog w) A (Builtin.«zip.__next__» ⟨[.ref z], []⟩) (fun fin s' => ∃ v, fin = .done (.ret v) ∧ Q v s') E s := by
  obtain ⟨m0, gg, dd, t0, oo⟩ := s
  show wpAny _ _ (field (.ref z) 2 >>= _) _ _ _
  refine wpAny_bind (wpAny_field hz rfl (x := Value.bool false) rfl ?_)
  show wpAny _ _ (field (.ref z) 3 >>= _) _ _ _
  refine wpAny_bind (wpAny_field hz rfl (x := Value.ref TI) rfl ?_)
  refine wpAny_bind (wpAny_seqItems hTI rfl ?_)
  show wpAny _ _ (Builtin.SmallTypes.ownedTupleIsFree (.ref z) >>= _) _ _ _
  have bz : z < m0.objs.size := Heap.lt_size hz
  refine wpAny_bind (free_ hz hx ?_ fun m1 y1 z1 b1 => ?_)
  · -- the pair may be used again
    simp only [if_true]
    refine wpAny_bind (wpAny_rule ?_)
    refine wpAny_bind (wpAny_field hz rfl (x := Value.ref TO) rfl ?_)
    refine wpAny_bind (wpAny_setField_rec hz (by simp) fun m1 z1 b1 => ?_)
    have z1 : ZR m1 z TI TO .ellipsis y := z1
    have b1 : Heap.SameBut z m0 m1 := b1
    refine wpAny_bind ?_
    simp only [List.zipIdx_cons, List.zipIdx_nil, List.forIn_cons, List.forIn_nil]
    refine wpAny_bind (wpAny_bind (wpAny_onRaise ?_))
    show wpAny _ _ (Builtin.SmallTypes.nextOf (.ref i1) >>= _) _ _ ⟨m1, gg, dd, t0, oo⟩
    refine wpAny_bind (D1.item i _ _ _ l1 (D1.over s1 b1 S.zf1) fun u1 m2 t2 p1 r1 b2 => wpAny_pure ?_)
    have b2 : Heap.SameBut i1 m1 m2 := b2
    have o2 : IsTupOf2 m2 TO a1 a2 := b2.extBut _ _ S.Ti1 (b1.extBut _ _ S.TOz hTO)
    refine wpAny_bind (wpAny_seqItems (s := ⟨m2, gg, dd, t2, oo⟩) o2 rfl ?_)
    refine wpAny_bind (put2_ (s := ⟨m2, gg, dd, t2, oo⟩) o2 fun m3 o3 b3 => ?_)
    have o3 : IsTupOf2 m3 TO u1 a2 := o3
    have b3 : Heap.SameBut TO m2 m3 := b3
    refine wpAny_bind (wpAny_letGo (wpAny_pure ?_))
    refine wpAny_bind (wpAny_bind (wpAny_onRaise ?_))
    show wpAny _ _ (Builtin.SmallTypes.nextOf (.ref i2) >>= _) _ _ ⟨m3, gg, dd, t2, oo⟩
    refine wpAny_bind (D2.item i _ _ _ l2 (D2.over (D2.over (D2.over s2 b1 S.zf2) b2 S.sep1_2) b3 S.Tf2) fun u2 m4 t4 p2 r2 b4 => wpAny_pure ?_)
    have b4 : Heap.SameBut i2 m3 m4 := b4
    have o4 : IsTupOf2 m4 TO u1 a2 := b4.extBut _ _ S.Ti2 o3
    refine wpAny_bind (wpAny_seqItems (s := ⟨m4, gg, dd, t4, oo⟩) o4 rfl ?_)
    refine wpAny_bind (put2_ (s := ⟨m4, gg, dd, t4, oo⟩) o4 fun m5 o5 b5 => ?_)
    have o5 : IsTupOf2 m5 TO u1 u2 := o5
    have b5 : Heap.SameBut TO m4 m5 := b5
    refine wpAny_bind (wpAny_letGo (wpAny_pure (wpAny_pure ?_)))
    refine wpAny_bind (wpAny_seqItems (s := ⟨m5, gg, dd, t4, oo⟩) o5 rfl ?_)
    refine wpAny_bind (wpAny_newTuple ?_)
    have ez : m5.objs.size = m0.objs.size := by rw [b5.1, b4.1, b3.1, b2.1, b1.1]
    have z5 : ZR m5 z TI TO .ellipsis y := b5.extBut _ _ S.TOz.symm (b4.extBut _ _ S.zi2 (b3.extBut _ _ S.TOz.symm (b2.extBut _ _ S.zi1 z1)))
    have kept : ∀ c o, c ≠ z → c ≠ TO → c ≠ i1 → c ≠ i2 → m0.get? c = some o → m5.get? c = some o := fun c o e1 e2 e3 e4 q =>
      b5.extBut _ _ e2 (b4.extBut _ _ e4 (b3.extBut _ _ e2 (b2.extBut _ _ e3 (b1.extBut _ _ e1 q))))
    have q1 : St1 (i + 1) m5 := D1.over (D1.over (D1.over r1 b3 S.Tf1) b4 S.sep2_1) b5 S.Tf1
    have q2 : St2 (i + 1) m5 := D2.over r2 b5 S.Tf2
    show wpAny _ _ (Builtin.SmallTypes.ownedTupleHandOut (.ref z) (.ref m5.objs.size) >>= _) _ _ ⟨m5.push { cls := .type "tuple", data := .seq #[u1, u2] }, gg, dd, t4, oo⟩
    refine wpAny_bind ?_
    unfold Builtin.SmallTypes.ownedTupleHandOut
    have z6 : ZR (m5.push { cls := .type "tuple", data := .seq #[u1, u2] }) z TI TO .ellipsis y := Heap.get?_push_of_some _ z5
    refine wpAny_bind (wpAny_setField_rec z6 (by simp) fun m7 z7 b7 => ?_)
    have z7 : ZR m7 z TI TO (rawInt m5.objs.size) y := z7
    refine wpAny_setField_rec z7 (by simp) fun m8 z8 b8 => ?_
    have z8 : ZR m8 z TI TO (rawInt m5.objs.size) (.bool false) := z8
    have b7 : Heap.SameBut z (m5.push { cls := .type "tuple", data := .seq #[u1, u2] }) m7 := b7
    have b8 : Heap.SameBut z m7 m8 := b8
    have up : ∀ c o, c ≠ z → m5.get? c = some o → m8.get? c = some o := fun c o e1 q => b8.extBut _ _ e1 (b7.extBut _ _ e1 (Heap.get?_push_of_some _ q))
    have nz : m5.objs.size ≠ z := by
      rw [ez]
      exact Nat.ne_of_gt bz
    refine wpAny_pure ⟨_, rfl, ?_⟩
    refine k u1 u2 m8 t4 _ _ u1 u2 m5.objs.size p1 p2 z8 (.inr ⟨_, rfl⟩) (up _ _ S.TOz o5) (D1.frame _ _ _ q1 fun b hb o q => up b o (fun e => S.zf1 (e ▸ hb)) q) (D2.frame _ _ _ q2 fun b hb o q => up b o (fun e => S.zf2 (e ▸ hb)) q) (Nat.le_of_eq ez.symm)
      (b8.extBut _ _ nz (b7.extBut _ _ nz (Heap.get?_push_size _ rfl))) (fun c o e1 e2 e3 e4 q => up c o e1 (kept c o e1 e2 e3 e4 q)) ?_
    rw [b8.1, b7.1, Heap.size_push, ez]
    exact Nat.le_succ _
  · -- a new pair
    have b1 : Heap.SameBut z m0 m1 := b1
    simp only [Bool.false_eq_true, if_false]
    refine wpAny_bind ?_
    simp only [List.forIn_toArray, List.forIn_cons, List.forIn_nil]
    refine wpAny_bind (wpAny_bind (wpAny_holding ?_))
    show wpAny _ _ (Builtin.SmallTypes.nextOf (.ref i1) >>= _) _ _ ⟨m1, gg, dd, t0, oo⟩
    refine wpAny_bind (D1.item i _ _ _ l1 (D1.over s1 b1 S.zf1) fun u1 m2 t2 p1 r1 b2 => wpAny_pure ?_)
    have b2 : Heap.SameBut i1 m1 m2 := b2
    refine wpAny_pure ?_
    refine wpAny_bind (wpAny_bind (wpAny_holding ?_))
    show wpAny _ _ (Builtin.SmallTypes.nextOf (.ref i2) >>= _) _ _ ⟨m2, gg, dd, t2, oo⟩
    refine wpAny_bind (D2.item i _ _ _ l2 (D2.over (D2.over s2 b1 S.zf2) b2 S.sep1_2) fun u2 m4 t4 p2 r2 b4 => wpAny_pure ?_)
    have b4 : Heap.SameBut i2 m2 m4 := b4
    refine wpAny_pure (wpAny_pure ?_)
    refine wpAny_bind (wpAny_newTuple (hsz := show 2 ≤ sizeLine by decide) ?_)
    have ez : m4.objs.size = m0.objs.size := by rw [b4.1, b2.1, b1.1]
    have up : ∀ c o, m4.get? c = some o → (m4.push { cls := .type "tuple", data := .seq #[u1, u2] }).get? c = some o := fun c o q => Heap.get?_push_of_some _ q
    refine wpAny_pure ⟨_, rfl, ?_⟩
    refine k u1 u2 _ t4 x y1 a1 a2 m4.objs.size p1 p2 (up _ _ (b4.extBut _ _ S.zi2 (b2.extBut _ _ S.zi1 z1))) hx (up _ _ (b4.extBut _ _ S.Ti2 (b2.extBut _ _ S.Ti1 (b1.extBut _ _ S.TOz hTO)))) (D1.frame _ _ _ (D1.over r1 b4 S.sep2_1) fun b _ o q => up b o q) (D2.frame _ _ _ r2 fun b _ o q => up b o q) (Nat.le_of_eq ez.symm)
      (Heap.get?_push_size _ rfl) (fun c o e1 e2 e3 e4 q => up c o (b4.extBut _ _ e4 (b2.extBut _ _ e3 (b1.extBut _ _ e1 q)))) ?_
    rw [Heap.size_push, ez]
    exact Nat.le_succ _
/-- a zip's end -/
theorem zip_over {x y a1 a2 : Value} {R : Fin → Shared → Prop} (S : ZipSep2 z TI TO i1 i2 fp1 fp2) (D1 : Draws prog w A i1 fp1 n1 P1 St1) (D2 : Draws prog w A i2 fp2 n2 P2 St2) (hz : ZR s.heap z TI TO x y) (hx : Rem x)
    (hTI : IsTupOf2 s.heap TI (.ref i1) (.ref i2)) (hTO : IsTupOf2 s.heap TO a1 a2) (s1 : St1 i s.heap) (s2 : St2 i s.heap) (fin : i = min n1 n2)
    (k : ∀ m tk e, (∀ c o, c ≠ z → c ≠ TO → c ≠ i1 → c ≠ i2 → s.heap.get? c = some o → m.get? c = some o) → (∃ o, m.get? e = some o ∧ o.cls = .type "StopIteration") → E (.ref e) { s with heap := m, toks := tk }) :
    wpAny (model prog w) A (Builtin.«zip.__next__» ⟨[.ref z], []⟩) R E s := by
  obtain ⟨m0, gg, dd, t0, oo⟩ := s
  show wpAny _ _ (field (.ref z) 2 >>= _) _ _ _
  refine wpAny_bind (wpAny_field hz rfl (x := Value.bool false) rfl ?_)
  show wpAny _ _ (field (.ref z) 3 >>= _) _ _ _
  refine wpAny_bind (wpAny_field hz rfl (x := Value.ref TI) rfl ?_)
  refine wpAny_bind (wpAny_seqItems hTI rfl ?_)
  show wpAny _ _ (Builtin.SmallTypes.ownedTupleIsFree (.ref z) >>= _) _ _ _
  refine wpAny_bind (free_ hz hx ?_ fun m1 y1 z1 b1 => ?_)
  · simp only [if_true]
    refine wpAny_bind (wpAny_rule ?_)
    refine wpAny_bind (wpAny_field hz rfl (x := Value.ref TO) rfl ?_)
    refine wpAny_bind (wpAny_setField_rec hz (by simp) fun m1 z1 b1 => ?_)
    have z1 : ZR m1 z TI TO .ellipsis y := z1
    have b1 : Heap.SameBut z m0 m1 := b1
    refine wpAny_bind ?_
    simp only [List.zipIdx_cons, List.zipIdx_nil, List.forIn_cons, List.forIn_nil]
    refine wpAny_bind (wpAny_bind (wpAny_onRaise ?_))
    show wpAny _ _ (Builtin.SmallTypes.nextOf (.ref i1) >>= _) _ _ ⟨m1, gg, dd, t0, oo⟩
    by_cases l1 : i < n1
    · refine wpAny_bind (D1.item i _ _ _ l1 (D1.over s1 b1 S.zf1) fun u1 m2 t2 p1 r1 b2 => wpAny_pure ?_)
      have b2 : Heap.SameBut i1 m1 m2 := b2
      have o2 : IsTupOf2 m2 TO a1 a2 := b2.extBut _ _ S.Ti1 (b1.extBut _ _ S.TOz hTO)
      refine wpAny_bind (wpAny_seqItems (s := ⟨m2, gg, dd, t2, oo⟩) o2 rfl ?_)
      refine wpAny_bind (put2_ (s := ⟨m2, gg, dd, t2, oo⟩) o2 fun m3 o3 b3 => ?_)
      have b3 : Heap.SameBut TO m2 m3 := b3
      refine wpAny_bind (wpAny_letGo (wpAny_pure ?_))
      have e2 : i = n2 := by omega
      refine wpAny_bind (wpAny_bind (wpAny_onRaise ?_))
      show wpAny _ _ (Builtin.SmallTypes.nextOf (.ref i2) >>= _) _ _ ⟨m3, gg, dd, t2, oo⟩
      refine wpAny_bind (D2.done ⟨m3, gg, dd, t2, oo⟩ _ _ (by rw [← e2]; exact D2.over (D2.over (D2.over s2 b1 S.zf2) b2 S.sep1_2) b3 S.Tf2) fun m4 e q4 he => ?_)
      have q4 : Heap.ExtBut i2 m3 m4 := q4
      obtain ⟨oe, g1, g2⟩ := he
      have g1 : m4.get? e = some oe := g1
      have z4 : ZR m4 z TI TO .ellipsis y := q4 _ _ S.zi2 (b3.extBut _ _ S.TOz.symm (b2.extBut _ _ S.zi1 z1))
      have ne : e ≠ z := fun x => by
        subst x
        rw [z4] at g1
        cases g1
        simp at g2
      refine wpAny_setField_rec (s := ⟨m4, gg, dd, t2, oo⟩) z4 (by simp) fun m5 _ b5 => ?_
      have b5 : Heap.SameBut z m4 m5 := b5
      exact k m5 t2 e (fun c o e1 e2 e3 e4 q => b5.extBut _ _ e1 (q4 _ _ e4 (b3.extBut _ _ e2 (b2.extBut _ _ e3 (b1.extBut _ _ e1 q))))) ⟨oe, b5.extBut _ _ ne g1, g2⟩
    · have e1 : i = n1 := by omega
      refine wpAny_bind (D1.done ⟨m1, gg, dd, t0, oo⟩ _ _ (by rw [← e1]; exact D1.over s1 b1 S.zf1) fun m4 e q4 he => ?_)
      have q4 : Heap.ExtBut i1 m1 m4 := q4
      obtain ⟨oe, g1, g2⟩ := he
      have g1 : m4.get? e = some oe := g1
      have z4 : ZR m4 z TI TO .ellipsis y := q4 _ _ S.zi1 z1
      have ne : e ≠ z := fun x => by
        subst x
        rw [z4] at g1
        cases g1
        simp at g2
      refine wpAny_setField_rec (s := ⟨m4, gg, dd, t0, oo⟩) z4 (by simp) fun m5 _ b5 => ?_
      have b5 : Heap.SameBut z m4 m5 := b5
      exact k m5 t0 e (fun c o e1 e2 e3 e4 q => b5.extBut _ _ e1 (q4 _ _ e3 (b1.extBut _ _ e1 q))) ⟨oe, b5.extBut _ _ ne g1, g2⟩
  · have b1 : Heap.SameBut z m0 m1 := b1
    simp only [Bool.false_eq_true, if_false]
    refine wpAny_bind ?_
    simp only [List.forIn_toArray, List.forIn_cons, List.forIn_nil]
    refine wpAny_bind (wpAny_bind (wpAny_holding ?_))
    show wpAny _ _ (Builtin.SmallTypes.nextOf (.ref i1) >>= _) _ _ ⟨m1, gg, dd, t0, oo⟩
    by_cases l1 : i < n1
    · refine wpAny_bind (D1.item i _ _ _ l1 (D1.over s1 b1 S.zf1) fun u1 m2 t2 p1 r1 b2 => wpAny_pure ?_)
      have b2 : Heap.SameBut i1 m1 m2 := b2
      have e2 : i = n2 := by omega
      refine wpAny_pure ?_
      refine wpAny_bind (wpAny_bind (wpAny_holding ?_))
      show wpAny _ _ (Builtin.SmallTypes.nextOf (.ref i2) >>= _) _ _ ⟨m2, gg, dd, t2, oo⟩
      refine wpAny_bind (D2.done ⟨m2, gg, dd, t2, oo⟩ _ _ (by rw [← e2]; exact D2.over (D2.over s2 b1 S.zf2) b2 S.sep1_2) fun m4 e q4 he => ?_)
      have q4 : Heap.ExtBut i2 m2 m4 := q4
      exact k m4 t2 e (fun c o e1 e2 e3 e4 q => q4 _ _ e4 (b2.extBut _ _ e3 (b1.extBut _ _ e1 q))) he
    · have e1 : i = n1 := by omega
      refine wpAny_bind (D1.done ⟨m1, gg, dd, t0, oo⟩ _ _ (by rw [← e1]; exact D1.over s1 b1 S.zf1) fun m4 e q4 he => ?_)
      have q4 : Heap.ExtBut i1 m1 m4 := q4
      exact k m4 t0 e (fun c o e1 e2 e3 e4 q => q4 _ _ e3 (b1.extBut _ _ e1 q)) he
/-- enumerate's next, over whatever gives v -/
theorem enum_step {e z : Addr} {c : Int} {old : Value} {Q : Value → Shared → Prop} {Inner : Value → Heap → Prop} (he : IsEnum s.heap e z c old)
    (inner : ∀ (R : Value → Shared → Prop) (E' : Value → Shared → Prop), (∀ v m tk, Inner v m → R v { s with heap := m, toks := tk }) → wpAny (model prog w) A (Builtin.SmallTypes.nextOf (.ref z)) R E' s) (hi : ∀ v m, Inner v m → IsEnum m e z c old)
    (k : ∀ v m tk m', Inner v m → IsEnumOut m' e z (c + 1) v m.objs.size → m'.get? m.objs.size = some { cls := .type "tuple", data := .seq #[.int c tk, v] } → (∀ b o, b ≠ e → m.get? b = some o → m'.get? b = some o) → Q (.ref m.objs.size) { s with heap := m', toks := tk + 1 }) :
    wpAny (model prog w) A (Builtin.«enumerate.__next__» ⟨[.ref e], []⟩) (fun fin s' => ∃ v, fin = .done (.ret v) ∧ Q v s') E s := by
  obtain ⟨m0, gg, dd, t0, oo⟩ := s
  show wpAny _ _ (field (.ref e) 2 >>= _) _ _ _
  refine wpAny_bind (wpAny_field he rfl (x := Value.ref z) rfl ?_)
  refine wpAny_bind (inner _ _ fun v m tk hin => ?_)
  have e0 := hi v m hin
  show wpAny _ _ (field (.ref e) 3 >>= _) _ _ ⟨m, gg, dd, tk, oo⟩
  refine wpAny_bind (wpAny_field e0 rfl (x := rawInt c) rfl ?_)
  show wpAny _ _ (field (.ref e) 4 >>= _) _ _ ⟨m, gg, dd, tk, oo⟩
  refine wpAny_bind (wpAny_field e0 rfl (x := Value.none) rfl ?_)
  show wpAny _ _ (mkInt c >>= _) _ _ ⟨m, gg, dd, tk, oo⟩
  refine wpAny_bind (wpAny_mkInt ?_)
  show wpAny _ _ (setField (.ref e) 3 (rawInt (c + 1)) >>= _) _ _ ⟨m, gg, dd, tk + 1, oo⟩
  refine wpAny_bind (wpAny_setField_rec e0 (by simp) fun m1 e1 b1 => ?_)
  have b1 : Heap.SameBut e m m1 := b1
  have e1 : IsEnum m1 e z (c + 1) old := e1
  show wpAny _ _ (setField (.ref e) 4 Value.none >>= _) _ _ ⟨m1, gg, dd, tk + 1, oo⟩
  refine wpAny_bind (wpAny_setField_rec e1 (by simp) fun m2 e2 b2 => ?_)
  have b2 : Heap.SameBut e m1 m2 := b2
  have e2 : IsEnum m2 e z (c + 1) old := e2
  show wpAny _ _ (newTuple [.int c tk, v] >>= _) _ _ ⟨m2, gg, dd, tk + 1, oo⟩
  refine wpAny_bind (wpAny_newTuple (hsz := show 2 ≤ sizeLine by decide) ?_)
  have e3 : IsEnum (m2.push { cls := .type "tuple", data := .seq #[.int c tk, v] }) e z (c + 1) old := Heap.get?_push_of_some _ e2
  have ez : m2.objs.size = m.objs.size := by rw [b2.1, b1.1]
  have be : e < m.objs.size := Heap.lt_size e0
  have g3 : (m2.push { cls := .type "tuple", data := .seq #[.int c tk, v] }).get? m.objs.size = some { cls := .type "tuple", data := .seq #[.int c tk, v] } := by
    rw [← ez]
    exact Heap.get?_push_size _ rfl
  have kept : ∀ b o, b ≠ e → m.get? b = some o → (m2.push { cls := .type "tuple", data := .seq #[.int c tk, v] }).get? b = some o := fun b o ne q => Heap.get?_push_of_some _ (b2.extBut b o ne (b1.extBut b o ne q))
  show wpAny _ _ (Builtin.SmallTypes.ownedTupleIsFree (.ref e) >>= _) _ _ ⟨_, gg, dd, tk + 1, oo⟩
  rw [ez]
  generalize m2.push { cls := .type "tuple", data := .seq #[.int c tk, v] } = m3 at e3 g3 kept
  refine wpAny_bind ?_
  unfold Builtin.SmallTypes.ownedTupleIsFree
  refine wpAny_bind (wpAny_field e3 rfl (x := Value.none) rfl (wpAny_pure ?_))
  simp only [if_true]
  refine wpAny_bind (wpAny_rule ?_)
  refine wpAny_bind (wpAny_field e3 rfl (x := old) rfl ?_)
  refine wpAny_bind (wpAny_setField_rec e3 (by simp) fun m5 e5 b5 => ?_)
  have b5 : Heap.SameBut e m3 m5 := b5
  have e5 : IsEnum m5 e z (c + 1) v := e5
  show wpAny _ _ (Builtin.SmallTypes.ownedTupleHandOut (.ref e) (.ref m.objs.size) >>= _) _ _ ⟨m5, gg, dd, tk + 1, oo⟩
  refine wpAny_bind ?_
  unfold Builtin.SmallTypes.ownedTupleHandOut
  refine wpAny_bind (wpAny_setField_rec e5 (by simp) fun m6 e6 b6 => ?_)
  have b6 : Heap.SameBut e m5 m6 := b6
  have e6 : IsEnumOut m6 e z (c + 1) v m.objs.size := e6
  refine wpAny_setField_rec e6 (by simp) fun m7 e7 b7 => ?_
  have b7 : Heap.SameBut e m6 m7 := b7
  have e7 : IsEnumOut m7 e z (c + 1) v m.objs.size := e7
  have up : ∀ b o, b ≠ e → m3.get? b = some o → m7.get? b = some o := fun b o ne q => b7.extBut b o ne (b6.extBut b o ne (b5.extBut b o ne q))
  exact wpAny_bind (wpAny_letGo (wpAny_pure ⟨_, rfl, k v m tk m7 hin e7 (up _ _ (Nat.ne_of_gt be) g3) fun b o ne q => up b o ne (kept b o ne q)⟩))
end
/-- pairs of items with their places -/
def ItEZ (k1 k2 : Kd) (K : PySem.W.Frag) (a b : Addr) : L2.It :=
  ⟨fun i H => ∃ (xs ys : List V) (x y : V), Sq k1 K H a xs ∧ Sq k2 K H b ys ∧ xs[i]? = some x ∧ ys[i]? = some y,
   fun i H v H2 => ∃ (T U : Addr) (x y : V), v = .ref U ∧ H T = none ∧ H U = none ∧ U ≠ T ∧ H2 = upd (upd H T (.tup [x, y])) U (.tup [.int (i : Nat), .ref T]) ∧ (∀ xs, Sq k1 K H a xs → xs[i]? = some x) ∧ ∀ ys, Sq k2 K H b ys → ys[i]? = some y,
   fun i H => ∃ xs ys : List V, Sq k1 K H a xs ∧ Sq k2 K H b ys ∧ i = min xs.length ys.length⟩
/-- where it stands -/
def EzAt (e z TI TO i1 i2 a b : Addr) (k1 k2 : Kd) (i : Nat) (h : Heap) : Prop :=
  (∃ old, IsEnum h e z ((i : Nat) : Int) old) ∧ (∃ x y, ZR h z TI TO x y ∧ Rem x) ∧ IsTupOf2 h TI (.ref i1) (.ref i2) ∧ (∃ x y, IsTupOf2 h TO x y) ∧ IterK k1 h i1 a i ∧ IterK k2 h i2 b i
theorem ez_lt {e z TI TO i1 i2 a b : Addr} {k1 k2 : Kd} {i : Nat} {h : Heap} (st : EzAt e z TI TO i1 i2 a b k1 k2 i h) : ∀ c ∈ [e, z, TI, TO, i1, i2], c < h.objs.size := by
  obtain ⟨⟨old, he⟩, ⟨x, y, hz, _⟩, hTI, ⟨x2, y2, hTO⟩, h1, h2⟩ := st
  obtain ⟨_, q1, _⟩ := h1.rec_
  obtain ⟨_, q2, _⟩ := h2.rec_
  intro c hc
  simp only [List.mem_cons, List.not_mem_nil, or_false] at hc
  rcases hc with rfl | rfl | rfl | rfl | rfl | rfl
  · exact Heap.lt_size he
  · exact Heap.lt_size hz
  · exact Heap.lt_size hTI
  · exact Heap.lt_size hTO
  · exact Heap.lt_size q1
  · exact Heap.lt_size q2
theorem turnEZ {P : Program} {w : World} {K : PySem.W.Frag} {els : List Expr} {n : Nat} {tp : Pos} {k1 k2 : Kd} {a b e z TI TO i1 i2 : Addr} (D : ZipSep2 z TI TO i1 i2 [i1, a] [i2, b]) (n1 : a ≠ i1) (n2 : b ≠ i2) (hne : ∀ c ∈ [z, TI, TO, i1, i2, a, b], c ≠ e) :
    Turn P w K (.Tuple els n tp) (ItEZ k1 k2 K a b) [e, z, TI, TO, i1, i2] e (EzAt e z TI TO i1 i2 a b k1 k2) where
  mem := List.mem_cons_self ..
  obj := fun i h st c hc => by
    obtain ⟨⟨old, he⟩, ⟨x, y, hz, _⟩, hTI, ⟨x2, y2, hTO⟩, h1, h2⟩ := st
    simp only [List.mem_cons, List.not_mem_nil, or_false] at hc
    rcases hc with rfl | rfl | rfl | rfl | rfl | rfl
    · exact ⟨_, he, fun v q => nomatch q⟩
    · exact ⟨_, hz, fun v q => nomatch q⟩
    · exact ⟨_, hTI, fun v q => nomatch q⟩
    · exact ⟨_, hTO, fun v q => nomatch q⟩
    · exact h1.rec_
    · exact h2.rec_
  keep := fun i h h' st k => by
    obtain ⟨⟨old, he⟩, ⟨x, y, hz, hx⟩, hTI, ⟨x2, y2, hTO⟩, h1, h2⟩ := st
    exact ⟨⟨old, k e (by simp) _ he⟩, ⟨x, y, k z (by simp) _ hz, hx⟩, k TI (by simp) _ hTI, ⟨x2, y2, k TO (by simp) _ hTO⟩, h1.keep (k i1 (by simp)), h2.keep (k i2 (by simp))⟩
  item := by
    intro X hP hw hK hc i pins s σ H E I hf st hg
    subst hP hw hK
    have lt := ez_lt st
    obtain ⟨⟨old, he⟩, ⟨fx, fy, hz, hx⟩, hTI, ⟨x2, y2, hTO⟩, h1, h2⟩ := st
    obtain ⟨xs, ys, x, y, qx, qy, ex, ey⟩ := hg
    obtain ⟨l1, r1, p1, _⟩ := inv_sq I qx
    obtain ⟨l2, r2, p2, _⟩ := inv_sq I qy
    obtain ⟨u1, g1, v1⟩ := r1.get ex
    obtain ⟨u2, g2, v2⟩ := r2.get ey
    have hh : X.A.in1.in1.handled = none := I.ok.hd hc
    have hT : s.TypeIs (.ref e) "enumerate" := ⟨_, he, rfl⟩
    have hZ : s.TypeIs (.ref z) "zip" := ⟨_, hz, rfl⟩
    have ne : ∀ c ∈ [z, TI, TO, i1, i2, a, b], c ≠ e := hne
    -- what the zip gives
    let Inner : Value → Heap → Prop := fun v m => ∃ T fx' fy' b1 b2, v = .ref T ∧ ZR m z TI TO fx' fy' ∧ Rem fx' ∧ IsTupOf2 m TO b1 b2 ∧ IterK k1 m i1 a (i + 1) ∧ IterK k2 m i2 b (i + 1) ∧ s.heap.objs.size ≤ T ∧ IsTupOf2 m T u1 u2 ∧
      (∀ c o, c ≠ z → c ≠ TO → c ≠ i1 → c ≠ i2 → s.heap.get? c = some o → m.get? c = some o) ∧ s.heap.objs.size ≤ m.objs.size
    have inner : ∀ (R : Value → Shared → Prop) (E' : Value → Shared → Prop), (∀ v m tk, Inner v m → R v { s with heap := m, toks := tk }) → wpAny (model X.prog X.w) X.A.in1 (Builtin.SmallTypes.nextOf (.ref z)) R E' s := by
      intro R E' hR
      unfold Builtin.SmallTypes.nextOf
      refine wpAny_bind (wpAny_callSpecial?_slot (name := Str.ofString "__next__") hZ F.slot_zip_next (wpAny_call_entry F.slot_zip_next hZ F.entry_zip_next ?_ (F.args_zip_next_1 _)))
      refine zip_step (i := i) D (drawK (prog := X.prog) (w := X.w) k1 hh i1 a n1 l1.toArray) (drawK (prog := X.prog) (w := X.w) k2 hh i2 b n2 l2.toArray) hz hx hTI hTO ⟨h1, p1⟩ ⟨h2, p2⟩ (by rw [List.size_toArray]; exact lt_of_get g1) (by rw [List.size_toArray]; exact lt_of_get g2) fun w1 w2 m tk fx' fy' b1 b2 T c1 c2 c3 c4 c5 c6 c7 c8 c9 c10 c11 => ?_
      rw [get_arr c1 g1, get_arr c2 g2] at c9
      exact wpAny_pure (hR _ _ _ ⟨T, fx', fy', b1, b2, rfl, c3, c4, c5, c6.1, c7.1, c8, c9, c10, c11⟩)
    have ze : ∀ c, c ∈ [z, TI, TO, i1, i2, a, b] → e ≠ c := fun c h q => hne c h q.symm
    unfold pyNext
    refine wpAny_bind (wpAny_attempt (wpAny_callSpecial?_slot (name := Str.ofString "__next__") hT F.slot_enumerate_next (wpAny_call_entry F.slot_enumerate_next hT F.entry_enumerate_next
      (enum_step (Inner := Inner) he inner (fun v m ⟨T, fx', fy', b1, b2, c1, c2, c3, c4, c5, c6, c7, c8, c9, c10⟩ => c9 _ _ (ze _ (by simp)) (ze _ (by simp)) (ze _ (by simp)) (ze _ (by simp)) he) fun v m tk m' hin eo gt kk => ?_) (F.args_enumerate_next_1 _))))
    obtain ⟨T, fx', fy', b1, b2, rfl, c2, c3, c4, c5, c6, c7, c8, c9, c10⟩ := hin
    refine wpAny_pure ⟨_, rfl, ?_⟩
    refine wpAny_letOwnedTupleGo_enum (s := { s with heap := m', toks := tk + 1 }) eo fun m2 e2 b3 => ?_
    have b3 : Heap.SameBut e m' m2 := b3
    -- the pair
    have nT := I.hok.fresh c7
    have newT : ObjOk X.prog X.w (upd H T (.tup [x, y])) m T (.tup [x, y]) := ⟨show 2 ≤ sizeLine by decide, [u1, u2], .cons v1 (.cons v2 .nil), ⟨_, c8, rfl, _, rfl⟩⟩
    have I1 := I.turnedNew (t' := tk) (ch := [z, TO, i1, i2]) (h' := m) (fun b o nb q => c9 b o (fun q => nb (by simp [q])) (fun q => nb (by simp [q])) (fun q => nb (by simp [q])) (fun q => nb (by simp [q])) q) (fun c hcm => hf c (by
      simp only [List.mem_cons, List.not_mem_nil, or_false] at hcm ⊢
      rcases hcm with q | q | q | q <;> simp [q])) c7 newT
    have lT : T < m.objs.size := Heap.lt_size c8
    -- with its place
    have nU := I1.hok.fresh (Nat.le_refl m.objs.size)
    have neU : m.objs.size ≠ T := Nat.ne_of_gt lT
    have be : e < s.heap.objs.size := lt e (by simp)
    have g5 : m2.get? m.objs.size = some { cls := .type "tuple", data := .seq #[.int ((i : Nat) : Int) tk, .ref T] } := b3.extBut _ _ (Nat.ne_of_gt (Nat.lt_of_lt_of_le be c10)) gt
    have up : ∀ c o, c ≠ e → m.get? c = some o → m2.get? c = some o := fun c o q1 q2 => b3.extBut _ _ q1 (kk c o q1 q2)
    have newU : ObjOk X.prog X.w (upd (upd H T (.tup [x, y])) m.objs.size (.tup [.int (i : Nat), .ref T])) m2 m.objs.size (.tup [.int (i : Nat), .ref T]) := ⟨show 2 ≤ sizeLine by decide, [.int ((i : Nat) : Int) tk, .ref T], .cons ⟨tk, rfl⟩ (.cons rfl .nil), ⟨_, g5, rfl, _, rfl⟩⟩
    have I2 := I1.turnedNew (t' := tk + 1) (ch := [e]) (h' := m2) (fun b o nb q => up b o (fun q => nb (by simp [q])) q) (fun c hcm => by
      obtain rfl := List.mem_singleton.mp hcm
      have z0 := hf c (by simp)
      exact ⟨by rw [upd_ne (Nat.ne_of_lt (Nat.lt_of_lt_of_le be c7))]; exact z0.1, z0.2⟩) (Nat.le_refl _) newU
    have nU0 : H m.objs.size = none := by
      rw [upd_ne neU] at nU
      exact nU
    refine ⟨.ref m.objs.size, _, I2, rfl, ⟨T, m.objs.size, x, y, rfl, nT, nU0, neU, rfl, fun l hl => by rw [inv_sq_inj I hl qx]; exact ex, fun l hl => by rw [inv_sq_inj I hl qy]; exact ey⟩, ?_, fun c hcm => ?_⟩
    · have hi : ((i : Nat) : Int) + 1 = ((i + 1 : Nat) : Int) := by omega
      rw [hi] at e2
      have nz := fun c h => hne c h
      refine ⟨⟨_, e2⟩, ⟨fx', fy', up _ _ (hne z (by simp)) c2, c3⟩, up _ _ (hne TI (by simp)) (c9 _ _ D.TIz D.TITO D.TIi1 D.TIi2 hTI), ⟨b1, b2, up _ _ (hne TO (by simp)) c4⟩, c5.keep (fun o q => up _ _ (hne i1 (by simp)) q), c6.keep (fun o q => up _ _ (hne i2 (by simp)) q)⟩
    · have hlt := lt c hcm
      rw [upd_ne (Nat.ne_of_lt (Nat.lt_of_lt_of_le hlt c10)), upd_ne (Nat.ne_of_lt (Nat.lt_of_lt_of_le hlt c7))]
      exact (hf c hcm).1
  done := by
    intro X hP hw hK hc i pins s σ H E I hf st hg
    subst hP hw hK
    obtain ⟨⟨old, he⟩, ⟨fx, fy, hz, hx⟩, hTI, ⟨x2, y2, hTO⟩, h1, h2⟩ := st
    obtain ⟨xs, ys, qx, qy, hend⟩ := hg
    obtain ⟨l1, r1, p1, _⟩ := inv_sq I qx
    obtain ⟨l2, r2, p2, _⟩ := inv_sq I qy
    have hh : X.A.in1.in1.handled = none := I.ok.hd hc
    have hT : s.TypeIs (.ref e) "enumerate" := ⟨_, he, rfl⟩
    have hZ : s.TypeIs (.ref z) "zip" := ⟨_, hz, rfl⟩
    have hi : i = min l1.toArray.size l2.toArray.size := by
      rw [List.size_toArray, List.size_toArray, ← r1.length, ← r2.length]
      exact hend
    unfold pyNext
    refine wpAny_bind (wpAny_attempt (wpAny_callSpecial?_slot (name := Str.ofString "__next__") hT F.slot_enumerate_next (wpAny_call_entry F.slot_enumerate_next hT F.entry_enumerate_next ?_ (F.args_enumerate_next_1 _))))
    show wpAny _ _ (field (.ref e) 2 >>= _) _ _ _
    refine wpAny_bind (wpAny_field he rfl (x := Value.ref z) rfl ?_)
    refine wpAny_bind ?_
    unfold Builtin.SmallTypes.nextOf
    refine wpAny_bind (wpAny_callSpecial?_slot (name := Str.ofString "__next__") hZ F.slot_zip_next (wpAny_call_entry F.slot_zip_next hZ F.entry_zip_next ?_ (F.args_zip_next_1 _)))
    refine zip_over (i := i) D (drawK (prog := X.prog) (w := X.w) k1 hh i1 a n1 l1.toArray) (drawK (prog := X.prog) (w := X.w) k2 hh i2 b n2 l2.toArray) hz hx hTI hTO ⟨h1, p1⟩ ⟨h2, p2⟩ hi fun m tk ex kk ⟨o, g1, g2⟩ => ?_
    refine wpAny_bind (wpAny_isInstance (s := { s with heap := m, toks := tk }) (T := "StopIteration") (b := true) ⟨o, g1, g2⟩ isSubtype_stop ?_)
    exact wpAny_pure ⟨rfl, I.turnedL (t' := tk) (ch := [z, TO, i1, i2]) (fun b o nb q => kk b o (fun q => nb (by simp [q])) (fun q => nb (by simp [q])) (fun q => nb (by simp [q])) (fun q => nb (by simp [q])) q) (fun c hcm => hf c (by
      simp only [List.mem_cons, List.not_mem_nil, or_false] at hcm ⊢
      rcases hcm with q | q | q | q <;> simp [q]))⟩
  self := fun A i s Q E st h => by
    obtain ⟨⟨old, he⟩, _⟩ := st
    exact wpAny_pyIter_enum he h
end R
end
section
/-! A range in a variable, and enumerate(zip(..)): where they begin, and what they give as data. -/
namespace R
open PySem L2
open PySem.Spec PyProof.Rows
theorem enum_newZ (z TI TO : Addr) :
    Meets (Builtin.«enumerate.__new__» ⟨[.type "enumerate", .ref z], []⟩) (fun _ R s => IsZip s.heap z TI TO .none ∧
      R (.ok (.ret (.ref s.heap.objs.size))) { s with heap := s.heap.push { cls := .type "enumerate", data := .fields #[.none, .bool false, .ref z, rawInt 0, .none, .none] } }) :=
  .of_wp fun prog w A R s h => by
    obtain ⟨hp, g, d, tk, os⟩ := s
    obtain ⟨h1, h⟩ := h
    have hsub := sub_enumerate
    have start : ∀ {A1 : Around} {E1 : Value → Shared → Prop} {Q1 : Value → Shared → Prop}, Q1 (.ref z) ⟨hp, g, d, tk, os⟩ → wpAny (model prog w) A1 (pyIter (.ref z)) Q1 E1 ⟨hp, g, d, tk, os⟩ := fun q => wpAny_pyIter_zip h1 q
    wp_walk using start
    refine wpAny_stack_any fun st => wpAny_pure ?_
    split
    · rename_i c _ _ _ _ _
      cases (c == Value.type "enumerate") <;>
      · wp_walk using start
        exact ⟨_, rfl, h⟩
    · wp_walk using start
      exact ⟨_, rfl, h⟩
theorem enum_zip {prog : Program} {w : World} {A : Around} {E : Value → Shared → Prop} {s : Shared} {z TI TO : Addr} {Q : Value → Shared → Prop} (h1 : IsZip s.heap z TI TO .none)
    (h : ∀ h', IsEnum h' s.heap.objs.size z 0 .none → (∀ b o, s.heap.get? b = some o → h'.get? b = some o) → h'.objs.size = s.heap.objs.size + 1 → Q (.ref s.heap.objs.size) { s with heap := h' }) :
    wpAny (model prog w) A (call (.type "enumerate") [.ref z]) Q E s := by
  refine callType_new F.called_enumerate (by decide) (F.typeCall_enumerate_1 _) (F.newCall_enumerate_1 _) (fun x => F.args_object_init_2 x _) F.entry_enumerate_new (enum_newZ z TI TO) ⟨h1, ?_⟩
  have he := Heap.get?_push_size s.heap (o := { cls := .type "enumerate", data := .fields #[.none, .bool false, .ref z, rawInt 0, .none, .none] }) rfl
  show _ ∧ _
  exact ⟨⟨_, he, rfl⟩, h _ he (fun b o x => Heap.get?_push_of_some _ x) (Heap.size_push ..)⟩
section
variable {X : Cx} {e e2 : Expr} {p pos p2 pos2 tp : Pos} {els : List Expr} {n : Nat}
def iEz (K : PySem.W.Frag) (ta : TA) : TI := fun σ H R => ta σ H fun vs H1 => ∃ (k1 k2 : Kd) (a b : Addr) (xs ys : List V), vs = [.ref a, .ref b] ∧ Sq k1 K H1 a xs ∧ Sq k2 K H1 b ys ∧ R (ItEZ k1 k2 K a b) H1
theorem pi_ez {ta : TA} (hg : Gl X "enumerate") (hm : X.mg "enumerate" = none) (hg2 : Gl X "zip") (hm2 : X.mg "zip" = none) (ha : PA X [e, e2] ta)
    (hs : starEach [e, e2] X.env = (false, eval e X.env) :: starEach [e2] X.env) (hpl : (backTo pos2 (starEach [e2] X.env)).any (·.1) = false) :
    PI X (.Tuple els n tp) (.Call (.Name "enumerate" p) [.Call (.Name "zip" p2) [e, e2] [] pos2] [] pos) (iEz X.K ta) := by
  refine ⟨fun pins s σ H R I h => ?_⟩
  refine Call_ (ld_blt I hg hm boot_enumerate (PyProof.Rows.callWith_type1 (args_cons ?_ rfl) rfl))
  refine Call_ (ld_blt I hg2 hm2 PyProof.Rows.boot_zip (PyProof.Rows.callWith_type1 (thn (ha.run pos2 pins s σ H _ I h) fun us s1 ⟨vs, H1, I1, r1, q1⟩ => ?_) hs hpl))
  obtain ⟨k1, k2, a, b, xs, ys, ex, hqx, hqy, q⟩ := q1
  subst ex
  cases r1 with
  | cons r rr =>
    cases rr with
    | cons r' rr =>
      cases rr
      cases r
      cases r'
      obtain ⟨l1, v1, p1, ta⟩ := inv_sq I1 hqx
      obtain ⟨l2, v2, p2, tb⟩ := inv_sq I1 hqy
      refine zip_begins2 (begK k1 a l1.toArray) (begK k2 b l2.toArray) p1 p2 fun h' hz hTI hTO h1 h2 hsz hk => args_nil ?_
      refine enum_zip (s := { s1 with heap := h' }) hz fun m he kk em => wpAny_pyIter_enum he ?_
      have I2 : Inv X pins σ H1 { s1 with heap := h' } := I1.kept (t' := s1.toks) hk
      have I3 : Inv X pins σ H1 { s1 with heap := m } := I2.kept (t' := s1.toks) kk
      refine ⟨h'.objs.size, _, _, _, H1, rfl, I3, turnEZ (k1 := k1) (k2 := k2) (a := a) (b := b) (e := h'.objs.size) (z := s1.heap.objs.size + 4) (TI := s1.heap.objs.size + 2) (TO := s1.heap.objs.size + 3) (i1 := s1.heap.objs.size) (i2 := s1.heap.objs.size + 1) (zsep _ _ _ ta tb) (Nat.ne_of_lt ta) (Nat.ne_of_lt (Nat.lt_succ_of_lt tb)) (fun c hc => ?_), ⟨⟨.none, he⟩, ⟨_, _, kk _ _ hz, .inl rfl⟩, kk _ _ hTI, ⟨_, _, kk _ _ hTO⟩, objK_iter (kk _ _ h1), objK_iter (kk _ _ h2)⟩, fun c hcm => ?_, q⟩
      · have g1 : s1.heap.objs.size < h'.objs.size := Heap.lt_size h1
        have g2 : s1.heap.objs.size + 1 < h'.objs.size := Heap.lt_size h2
        have g3 : s1.heap.objs.size + 2 < h'.objs.size := Heap.lt_size hTI
        have g4 : s1.heap.objs.size + 3 < h'.objs.size := Heap.lt_size hTO
        have g5 : s1.heap.objs.size + 4 < h'.objs.size := Heap.lt_size hz
        simp only [List.mem_cons, List.not_mem_nil, or_false] at hc
        rcases hc with z | z | z | z | z | z | z <;> rw [z]
        · exact Nat.ne_of_lt g5
        · exact Nat.ne_of_lt g3
        · exact Nat.ne_of_lt g4
        · exact Nat.ne_of_lt g1
        · exact Nat.ne_of_lt g2
        · exact Nat.ne_of_lt (Nat.lt_trans ta g1)
        · exact Nat.ne_of_lt (Nat.lt_trans tb g1)
      · have hle : s1.heap.objs.size ≤ c := by
          have g5 : s1.heap.objs.size + 4 < h'.objs.size := Heap.lt_size hz
          simp only [List.mem_cons, List.not_mem_nil, or_false] at hcm
          rcases hcm with z | z | z | z | z | z <;> rw [z]
          · exact Nat.le_of_lt (Nat.lt_of_le_of_lt (Nat.le_add_right _ 4) g5)
          all_goals simp
        exact I1.fpOk hle (I1.hok.fresh hle)
/-- a range in a variable -/
def iRgv (i : Nat) : TI := fun σ H R => ∃ (a : Addr) (j : Int), σ[i]? = some (some (.ref a)) ∧ H a = some (.rng 0 j) ∧ 0 ≤ j ∧ j < 2 ^ 62 ∧ R (Itr 0 j.toNat) H
theorem pi_rgv {i : Nat} {x : Str} {q : Pos} {tg : Expr} (h : PE X (.Name x q) (tVar i)) : PI X tg (.Name x q) (iRgv i) := by
  refine ⟨fun pins s σ H R I ⟨a, j, h1, h2, h3, h4, k⟩ => ?_⟩
  refine thn (h.run pins s σ H (fun v H' => v = .ref a ∧ H' = H) I ⟨_, h1, rfl, rfl⟩) fun v s1 ⟨x, H1, I1, r1, ex, eH⟩ => ?_
  subst ex eH
  obtain rfl : v = Value.ref a := r1
  obtain ⟨t1, t2, t3, ho⟩ := I1.hok a _ h2
  have hr : IsRange s1.heap a 0 j 1 t1 t2 t3 := ho
  refine wpAny_pyIter_range hr (small_one (by omega) (by omega) (by omega) h4) ?_
  refine ⟨s1.heap.objs.size, [s1.heap.objs.size], _, _, H1, rfl, I1.kept (t' := s1.toks) fun b o e => Heap.get?_push_of_some _ e, turn_range _ 0 j.toNat, ?_, fun b hb => ?_, k⟩
  · have e1 : (0 : Int) + ((0 : Nat) : Int) * 1 = 0 := by simp
    have e2 : ((j.toNat : Nat) : Int) - ((0 : Nat) : Int) = Builtin.Range.rangeSize 0 j 1 := by rw [rangeSize_one]; split <;> omega
    show IsRangeIter _ _ ((0 : Int) + ((0 : Nat) : Int) * 1) (((j.toNat : Nat) : Int) - ((0 : Nat) : Int)) 1
    rw [e1, e2]
    exact Heap.get?_push_size _ rfl
  · obtain rfl := List.mem_singleton.mp hb
    exact I1.fpOk (Nat.le_refl _) (I1.hok.fresh (Nat.le_refl _))
end
theorem src_ez {K : PySem.W.Frag} {H : Hp} {S A : AO} {k1 k2 : Kd} {a b : Addr} {xs ys : List V} {ds es : List PyData} (h : SqR K H S A k1 a xs ds) (g : SqR K H S A k2 b ys es) : Src K (ItEZ k1 k2 K a b) ((List.zipWith (fun x y => PyData.tuple [x, y]) ds es).zipIdx.map fun p => .tuple [.int p.2, p.1]) S A H := by
  intro H1 S1 A1 c1 c2
  have h1 := h.cr c1 c2
  have g1 := g.cr c1 c2
  refine ⟨fun i d e => ?_, ⟨xs, ys, h1.sq, g1.sq, by rw [List.length_map, List.length_zipIdx, List.length_zipWith, h.rp.length, g.rp.length]⟩⟩
  rw [List.getElem?_map, List.getElem?_zipIdx] at e
  cases e0 : (List.zipWith (fun x y => PyData.tuple [x, y]) ds es)[i]? with
  | none => rw [e0] at e; cases e
  | some d0 =>
    rw [e0] at e
    have e : d = .tuple [.int i, d0] := by simpa using e.symm
    subst e
    obtain ⟨x, y, e1, e2, rfl⟩ := zw_get e0
    obtain ⟨v, f1, _⟩ := h1.rp.get e1
    obtain ⟨u, f2, _⟩ := g1.rp.get e2
    refine ⟨⟨xs, ys, v, u, h1.sq, g1.sq, f1, f2⟩, fun z H2 ⟨T, U, v', u', ez, nT, nU, ne, eH, q1, q2⟩ => ?_⟩
    subst ez eH
    have kT : Kp H1 (upd H1 T (.tup [v', u'])) := Kp.upd nT
    have kU : Kp (upd H1 T (.tup [v', u'])) (upd (upd H1 T (.tup [v', u'])) U (.tup [.int (i : Nat), .ref T])) := Kp.upd (by rw [upd_ne ne]; exact nU)
    have kk := kT.trans kU
    have cc : Cr H1 A1 (upd (upd H1 T (.tup [v', u'])) U (.tup [.int (i : Nat), .ref T])) A1 := Cr.kp kk fun _ h => .inl h
    refine ⟨kk, .tup (.of upd_same) two_fits (.cons (.int _) (.cons (.tup (.of (kU _ _ upd_same)) two_fits (.cons (Rp.cr cc _ _ (sq_same h1 e1 q1)) (.cons (Rp.cr cc _ _ (sq_same g1 e2 q2)) .nil))) .nil))⟩
section
variable {p : Par} {c : Ct} {X : Cx} {pe pe2 : Expr} {e a b : E} {pos pos2 : Pos} {M : List Nat}
theorem rI_ezp (h : PA X [pe, pe2] (rdU2 p M a b)) (hk : X.K = p.K) (h1 : noStar pe = true) (h2 : noStar pe2 = true) (gx : Gl X "enumerate") (hm : X.mg "enumerate" = none) (gx2 : Gl X "zip") (hm2 : X.mg "zip" = none) {els : List Expr} {n : Nat} {tp q q2 : Pos} :
    PI X (.Tuple els n tp) (.Call (.Name "enumerate" q) [.Call (.Name "zip" q2) [pe, pe2] [] pos2] [] pos) (rdI p M (.ezp a b)) := by
  have bb := pi_ez (els := els) (n := n) (tp := tp) (p := q) (pos := pos) (p2 := q2) (pos2 := pos2) gx hm gx2 hm2 h (star_cons h1) (star_plain (by simp [h2]))
  refine ⟨fun pins s σ H R I ⟨env, w, φ, P, r, A⟩ => bb.run pins s σ H R I ?_⟩
  rw [show evI p.G p.F p.np env (.ezp a b) w = (((ev p.G p.F p.np env a w).bind asD).bind fun x w => ((ev p.G p.F p.np env b w).bind asD).bind fun y w => .ok (x, y) w).bind fun d w => (match asSeq d.1, asSeq d.2 with
    | some xs, some ys => .ok ((List.zipWith (fun x y => PyData.tuple [x, y]) xs ys).zipIdx.map fun p => .tuple [.int p.2, p.1]) w
    | _, _ => .bad) from by
      simp only [evI, bind_assoc', bind_ok_eq] <;> rfl] at A
  refine ⟨env, w, φ, P, r, A.bind.imp fun d w1 φ1 P1 H1 E1 W1 A1 x y rx ry => ?_⟩
  cases e1 : asSeq d.1 with
  | none =>
    rw [e1] at A1
    exact A1.elim
  | some xs =>
    cases e2 : asSeq d.2 with
    | none =>
      rw [e1, e2] at A1
      exact A1.elim
    | some ys =>
      rw [e1, e2] at A1
      obtain ⟨k1, a1, vs, rfl, sq1⟩ := rx.sqr e1
      obtain ⟨k2, a2, us, rfl, sq2⟩ := ry.sqr e2
      rw [hk]
      exact ⟨k1, k2, a1, a2, vs, us, rfl, sq1.sq, sq2.sq, A1.here W1 _ (src_ez sq1 sq2)⟩
theorem rI_rgv {i : Nat} {x : Str} {q : Pos} (h : PE X (.Name x q) (tVar i)) {tg : Expr} : PI X tg (.Name x q) (rdI p M (.rgv i)) := by
  have bb := pi_rgv (tg := tg) h
  refine ⟨fun pins s σ H R I ⟨env, w, φ, P, r, A⟩ => bb.run pins s σ H R I ?_⟩
  simp only [evI] at A
  split at A
  · rename_i n e1
    by_cases hc : (decide (0 ≤ n) && small62 n) = true
    · rw [if_pos hc] at A
      unfold small62 at hc
      simp only [Bool.and_eq_true, decide_eq_true_eq] at hc
      have s1 := r.sl i _ e1
      generalize hg1 : σ[i]? = o1 at s1
      cases s1 with
      | rng hr => exact ⟨_, n, hg1, hr, hc.1, hc.2.2, A.here r.st _ src_rng⟩
    · rw [if_neg hc] at A
      exact A.elim
  · exact A.elim
end
end R
end
section
/-! itertools.combinations as what a loop walks. -/
namespace R
open PySem L2
open PySem.Spec PyProof.Rows
section
variable {prog : Program} {w : World} {A : Around} {E : Value → Shared → Prop} {s : Shared}
theorem next_first {it pool : Addr} {res : Value} {idx : List Nat} {its : Array Value} {Q : Option Value → Shared → Prop} (hit : IsComb s.heap it pool 0 res idx) (hp : IsTup s.heap pool its) (hne : pool ≠ it) (hz : idx.length ≤ 60)
    (hQ : ∀ h' r, s.heap.objs.size ≤ r → IsComb h' it pool 1 (.ref r) idx → IsTup h' r (idx.map fun i => its.getD i .none).toArray → (∀ b o, b ≠ it → s.heap.get? b = some o → h'.get? b = some o) → Q (some (.ref r)) { s with heap := h' }) : wpAny (model prog w) A (pyNext (.ref it)) Q E s := by
  unfold pyNext
  exact wpAny_bind (wpAny_attempt (comb_first hit hp hne hz fun h' r a b c d => wpAny_pure (hQ h' r a b c d)))
theorem next_step {it pool : Addr} {res : Value} {idx idx' : List Nat} {its : Array Value} {Q : Option Value → Shared → Prop} (hit : IsComb s.heap it pool 1 res idx) (hp : IsTup s.heap pool its) (hne : pool ≠ it) (hz : idx'.length ≤ 60) (hn : nextC its.size idx = some idx')
    (hQ : ∀ h' r, s.heap.objs.size ≤ r → IsComb h' it pool 1 (.ref r) idx' → IsTup h' r (idx'.map fun i => its.getD i .none).toArray → (∀ b o, b ≠ it → s.heap.get? b = some o → h'.get? b = some o) → Q (some (.ref r)) { s with heap := h' }) : wpAny (model prog w) A (pyNext (.ref it)) Q E s := by
  unfold pyNext
  exact wpAny_bind (wpAny_attempt (comb_step hit hp hne hz hn fun h' r a b c d => wpAny_pure (hQ h' r a b c d)))
theorem next_end {it pool : Addr} {res : Value} {idx : List Nat} {its : Array Value} {Q : Option Value → Shared → Prop} (hh : A.handled = none) (hit : IsComb s.heap it pool 1 res idx) (hp : IsTup s.heap pool its) (hne : pool ≠ it) (hn : nextC its.size idx = none)
    (hQ : ∀ h', (∀ b o, b ≠ it → s.heap.get? b = some o → h'.get? b = some o) → Q none { s with heap := h' }) : wpAny (model prog w) A (pyNext (.ref it)) Q E s := by
  unfold pyNext
  refine wpAny_bind (wpAny_attempt (comb_end hh hit hp hne hn fun e h' ⟨a, o, vs, ea, g, c, _⟩ k => ?_))
  subst ea
  exact wpAny_bind (wpAny_isInstance (s := { s with heap := h' }) (T := "StopIteration") (b := true) ⟨o, g, c⟩ isSubtype_stop (wpAny_pure (hQ h' k)))
end
/-! ### the places, one after another -/
def combsN : Nat → List Nat → List (List Nat)
  | 0, _ => [[]]
  | _ + 1, [] => []
  | n + 1, x :: r => (combsN n r).map (x :: ·) ++ combsN (n + 1) r
def combI (n k : Nat) : List (List Nat) := combsN k (List.range n)
def chainB (n k : Nat) : Bool := decide ((combI n k)[0]? = some (List.range k)) && ((List.range (combI n k).length).all fun i => match (combI n k)[i]? with
  | some x => decide (nextC n x = (combI n k)[i + 1]?) && decide (x.length = k) && x.all fun j => decide (j < n)
  | none => false)
theorem chain_all : ∀ n < 6, ∀ k < 6, k ≤ n → chainB n k = true := by decide +kernel
structure Chain (n k : Nat) : Prop where
  z : (combI n k)[0]? = some (List.range k)
  s : ∀ i x, (combI n k)[i]? = some x → nextC n x = (combI n k)[i + 1]? ∧ x.length = k ∧ ∀ j ∈ x, j < n
theorem chain_ok {n k : Nat} (hn : n ≤ 5) (hk : k ≤ n) : Chain n k := by
  have h := chain_all n (by omega) k (by omega) hk
  unfold chainB at h
  rw [Bool.and_eq_true, List.all_eq_true] at h
  refine ⟨of_decide_eq_true h.1, fun i x e => ?_⟩
  have q := h.2 i (List.mem_range.mpr (lt_of_get e))
  rw [e] at q
  simp only [Bool.and_eq_true, decide_eq_true_eq, List.all_eq_true] at q
  exact ⟨q.1.1, q.1.2, q.2⟩
theorem combs_map (f : Nat → PyData) : ∀ (k : Nat) (l : List Nat), combs k (l.map f) = (combsN k l).map fun x => x.map f
  | 0, _ => by simp [combs, combsN]
  | _ + 1, [] => by simp [combs, combsN]
  | k + 1, x :: r => by
    simp only [List.map_cons, combs, combsN, List.map_append, List.map_map, combs_map f k r, combs_map f (k + 1) r]
    rfl
theorem combs_eq (k : Nat) (xs : List PyData) : combs k xs = (combI xs.length k).map fun x => x.map fun j => xs.getD j .none := by
  have e : xs = (List.range xs.length).map fun j => xs.getD j .none := by
    apply List.ext_getElem
    · simp
    · intro i h1 h2
      simp [List.getD_eq_getElem?_getD, List.getElem?_eq_getElem h1]
  have q := combs_map (fun j => xs.getD j .none) k (List.range xs.length)
  rw [← e] at q
  exact q
/-! ### its turns -/
/-- tuples of the items of vs at the places L -/
def ItC (vs : List V) (L : List (List Nat)) : L2.It :=
  ⟨fun i _ => i < L.length, fun i H v H2 => ∃ (T : Addr) (x : List Nat), v = .ref T ∧ H T = none ∧ L[i]? = some x ∧ H2 = upd H T (.tup (x.map fun j => vs.getD j .non)), fun i _ => i = L.length⟩
/-- where it stands -/
def CombAt (it pool : Addr) (its : List Value) (k : Nat) : Nat → Heap → Prop := fun i h => IsTup h pool its.toArray ∧ ∃ res, match i with
  | 0 => IsComb h it pool 0 res (List.range k)
  | i + 1 => ∃ x, (combI its.length k)[i]? = some x ∧ IsComb h it pool 1 res x
theorem CombAt.obj {it pool : Addr} {its : List Value} {k i : Nat} {h : Heap} (c : CombAt it pool its k i h) : ∃ o, h.get? it = some o ∧ ∃ fs, o.cls = .type "itertools.combinations" ∧ o.data = .fields fs := by
  obtain ⟨_, res, q⟩ := c
  cases i with
  | zero => exact ⟨_, q, _, rfl, rfl⟩
  | succ i =>
    obtain ⟨x, _, q⟩ := q
    exact ⟨_, q, _, rfl, rfl⟩
theorem vals_pick {vs : List V} {its : List Value} (r : Vals vs its) (x : List Nat) : Vals (x.map fun j => vs.getD j .non) (x.map fun j => its.toArray.getD j .none) := by
  induction x with
  | nil => exact .nil
  | cons j x ih =>
    refine .cons ?_ ih
    show RelV (vs.getD j .non) (its.toArray.getD j .none)
    rw [List.getD_eq_getElem?_getD, Array.getD_eq_getD_getElem?, List.getElem?_toArray]
    cases e : vs[j]? with
    | none =>
      have e2 : its[j]? = none := by
        rw [List.getElem?_eq_none_iff, ← r.length]
        exact List.getElem?_eq_none_iff.mp e
      rw [e2]
      exact show RelV .non .none from rfl
    | some v =>
      obtain ⟨u, hu, ru⟩ := r.get e
      rw [hu]
      exact ru
theorem turnC {P : Program} {w : World} {K : PySem.W.Frag} {tg : Expr} {it pool : Addr} {vs : List V} {its : List Value} {k : Nat} (hne : pool ≠ it) (rv : Vals vs its) (C : Chain its.length k) (hk : k ≤ 5) :
    Turn P w K tg (ItC vs (combI its.length k)) [it, pool] it (CombAt it pool its k) where
  mem := List.mem_cons_self ..
  obj := fun i h st c hc => by
    simp only [List.mem_cons, List.not_mem_nil, or_false] at hc
    rcases hc with rfl | rfl
    · obtain ⟨o, e, fs, _, d⟩ := st.obj
      exact ⟨o, e, fun v z => by
        rw [d] at z
        cases z⟩
    · obtain ⟨⟨o, e, _, n, d⟩, _⟩ := st
      exact ⟨o, e, fun v z => by
        rw [d] at z
        cases z⟩
  keep := fun i h h' st k => by
    obtain ⟨⟨o, e, q⟩, res, st⟩ := st
    refine ⟨⟨o, k pool (by simp) o e, q⟩, res, ?_⟩
    cases i with
    | zero => exact k it (by simp) _ st
    | succ i =>
      obtain ⟨x, h1, h2⟩ := st
      exact ⟨x, h1, k it (by simp) _ h2⟩
  item := by
    intro X e1 e2 e3 hc i pins s σ H E I hf st hg
    subst e1 e2 e3
    have hlt : i < (combI its.length k).length := hg
    have ex := List.getElem?_eq_getElem hlt
    generalize (combI its.length k)[i] = x at ex
    have hx := C.s i x ex
    obtain ⟨hp, res, st⟩ := st
    have fin : ∀ h' r, s.heap.objs.size ≤ r → IsComb h' it pool 1 (.ref r) x → IsTup h' r (x.map fun j => its.toArray.getD j .none).toArray → (∀ b o, b ≠ it → s.heap.get? b = some o → h'.get? b = some o) →
        ∃ u, some (Value.ref r) = some u ∧ wpAny (model X.prog X.w) X.A (letOwnedTupleGo tg (.ref it) u) (fun _ s2 => ∃ x H', Inv X pins σ H' s2 ∧ RelV x u ∧ (ItC vs (combI its.length k)).yld i H x H' ∧ CombAt it pool its k (i + 1) s2.heap ∧ ∀ b ∈ [it, pool], H' b = none) E { s with heap := h' } := by
      intro h' r hr c t kk
      have nT := I.hok.fresh hr
      have hz : (x.map fun j => vs.getD j .non).length ≤ sizeLine := by
        have := sizeLine_eq
        rw [List.length_map]
        omega
      have new : ObjOk X.prog X.w (upd H r (.tup (x.map fun j => vs.getD j .non))) h' r (.tup (x.map fun j => vs.getD j .non)) := ⟨hz, _, vals_pick rv x, t⟩
      have I1 := I.turnedNew (t' := s.toks) (ch := [it]) (fun b o nb e => kk b o (fun z => nb (by simp [z])) e) (fun c hcm => hf c (by
        simp only [List.mem_cons, List.not_mem_nil, or_false] at hcm ⊢
        exact .inl hcm)) hr new
      refine ⟨_, rfl, go_of (s := { s with heap := h' }) c rfl rfl (by decide) ⟨.ref r, _, I1, rfl, ⟨r, x, rfl, nT, ex, rfl⟩, ⟨?_, _, x, ex, c⟩, fun b hb => ?_⟩⟩
      · obtain ⟨o, e, q⟩ := hp
        exact ⟨o, kk pool o hne e, q⟩
      · have hb' : b < s.heap.objs.size := by
          simp only [List.mem_cons, List.not_mem_nil, or_false] at hb
          rcases hb with rfl | rfl
          · cases i with
            | zero => exact Heap.lt_size st
            | succ i =>
              obtain ⟨_, _, q⟩ := st
              exact Heap.lt_size q
          · obtain ⟨o, e, _⟩ := hp
            exact Heap.lt_size e
        rw [upd_ne (Nat.ne_of_lt (Nat.lt_of_lt_of_le hb' hr))]
        exact (hf b hb).1
    cases i with
    | zero =>
      rw [C.z] at ex
      obtain rfl := Option.some.inj ex
      exact next_first st hp hne (by omega) fin
    | succ i =>
      obtain ⟨y, hy, st⟩ := st
      refine next_step st hp hne (by omega) ?_ fin
      rw [List.size_toArray, (C.s i y hy).1]
      exact ex
  done := by
    intro X e1 e2 e3 hc i pins s σ H E I hf st hg
    subst e1 e2 e3
    have hi : i = (combI its.length k).length := hg
    obtain ⟨hp, res, st⟩ := st
    have hh : X.A.in1.handled = none := I.ok.hd hc
    cases i with
    | zero =>
      have := lt_of_get C.z
      omega
    | succ i =>
      obtain ⟨y, hy, st⟩ := st
      refine next_end (I.ok.hd hc) st hp hne ?_ fun h' kk => ⟨rfl, I.turnedL (t' := s.toks) (ch := [it]) (fun b o nb e => kk b o (fun z => nb (by simp [z])) e) fun c hcm => hf c (by
        simp only [List.mem_cons, List.not_mem_nil, or_false] at hcm ⊢
        exact .inl hcm)⟩
      rw [List.size_toArray, (C.s i y hy).1]
      exact List.getElem?_eq_none (by omega)
  self := fun A i s Q E st h => by
    obtain ⟨_, res, st⟩ := st
    cases i with
    | zero => exact iter_comb st h
    | succ i =>
      obtain ⟨_, _, st⟩ := st
      exact iter_comb st h
/-- what is given, as data -/
theorem src_comb {K : PySem.W.Frag} {H : Hp} {S A : AO} {ns : List Int} {k : Nat} (hk : k ≤ 5) (C : Chain ns.length k) : Src K (ItC (ns.map V.int) (combI ns.length k)) ((combs k (ns.map PyData.int)).map .tuple) S A H := by
  intro H1 S1 A1 c1 c2
  have e0 : combs k (ns.map PyData.int) = (combI ns.length k).map fun x => x.map fun j => (ns.map PyData.int).getD j .none := by
    have := combs_eq k (ns.map PyData.int)
    rwa [List.length_map] at this
  rw [e0, List.map_map]
  refine ⟨fun i d e => ?_, show _ = _ by rw [List.length_map]⟩
  rw [List.getElem?_map] at e
  cases ex : (combI ns.length k)[i]? with
  | none =>
    rw [ex] at e
    cases e
  | some x =>
    rw [ex] at e
    obtain rfl := Option.some.inj e
    refine ⟨lt_of_get ex, fun z H2 ⟨T, y, ez, nT, ey, eH⟩ => ?_⟩
    obtain rfl := Option.some.inj (ex.symm.trans ey)
    subst ez eH
    have kk : Kp H1 (upd H1 T (.tup (x.map fun j => (ns.map V.int).getD j .non))) := Kp.upd nT
    refine ⟨kk, .tup (.of upd_same) ?_ ?_⟩
    · have := sizeLine_eq
      rw [List.length_map, (C.s i x ex).2.1]
      omega
    · have rl : ∀ y : List Nat, RpL K (upd H1 T (.tup (x.map fun j => (ns.map V.int).getD j .non))) A1 (y.map fun j => (ns.map V.int).getD j .non) (y.map fun j => (ns.map PyData.int).getD j .none) := by
        intro y
        induction y with
        | nil => exact .nil
        | cons j y ih =>
          refine .cons ?_ ih
          show Rp K _ A1 ((ns.map V.int).getD j .non) ((ns.map PyData.int).getD j .none)
          rw [List.getD_eq_getElem?_getD, List.getD_eq_getElem?_getD, List.getElem?_map, List.getElem?_map]
          cases ns[j]? with
          | none => exact .non
          | some n => exact .int n
      exact rl x
section
variable {p : Par} {c : Ct} {X : Cx} {pe pe2 : Expr} {e a b : E} {pos : Pos} {M : List Nat}
theorem rI_comb {z : Str} (h : PE X pe (rdE p a)) (h1 : noStar pe = true) (g : PE X pe2 (rdE p b)) (h2 : noStar pe2 = true) (hk : X.K = p.K) (gx : Gl X z) (n : OkN z) (hm : X.mg z = some (.type "itertools.combinations")) {tg : Expr} {q : Pos} :
    PI X tg (.Call (.Name z q) [pe, pe2] [] pos) (rdI p M (.comb a b)) := by
  refine ⟨fun pins s σ H R I ⟨env, w, φ, P, r, A⟩ => ?_⟩
  rw [show evI p.G p.F p.np env (.comb a b) w = (((ev p.G p.F p.np env a w).bind asD).bind fun x w => ((ev p.G p.F p.np env b w).bind asD).bind fun y w => .ok (x, y) w).bind fun d w => (match d.1, d.2 with
    | .tuple xs, .int k => if decide (0 ≤ k) && decide (k ≤ xs.length) && decide (xs.length ≤ 5) && (asInts xs).isSome then .ok ((combs k.toNat xs).map .tuple) w else .bad
    | _, _ => .bad) from by
      simp only [evI, bind_assoc', bind_ok_eq] <;> rfl] at A
  refine Call_ (ld_glob I gx hm (PyProof.Rows.callWith_type1 (thn ((pa_d2 h h1 g h2).run pos pins s σ H (fun vs H1 => ∃ (t : Addr) (ns : List Int) (k : Int), vs = [.ref t, .int k] ∧ SqT p.K H1 t (ns.map V.int) ∧ 0 ≤ k ∧ k ≤ ns.length ∧ ns.length ≤ 5 ∧ R (ItC (ns.map V.int) (combI ns.length k.toNat)) H1) I ⟨env, w, φ, P, r, A.bind.imp fun d w1 φ1 P1 H1 E1 W1 A1 _ x y rx ry => ?_⟩) fun us s1 ⟨vs, H1, I1, r1, q1⟩ => ?_) (star_cons h1) (star_plain (by simp [h2]))) n.d)
  · obtain ⟨d1, d2⟩ := d
    cases d1 <;> first | exact A1.elim | skip
    cases d2 <;> first | exact A1.elim | skip
    rename_i xs k
    cases ry
    by_cases hs : (decide (0 ≤ k) && decide (k ≤ xs.length) && decide (xs.length ≤ 5) && (asInts xs).isSome) = true
    · simp only [hs, if_true] at A1
      simp only [Bool.and_eq_true, decide_eq_true_eq, Option.isSome_iff_exists] at hs
      obtain ⟨⟨⟨s1, s2⟩, s3⟩, ns, s4⟩ := hs
      obtain rfl := asInts_some s4
      rw [List.length_map] at s2 s3
      cases rx with
      | tup hq hz hd =>
        obtain rfl := RpL.ints _ _ _ hd s4
        exact ⟨_, ns, k, rfl, hq, s1, s2, s3, A1.here W1 _ (src_comb (by omega) (chain_ok s3 (by omega)))⟩
    · simp only [hs] at A1
      exact A1.elim
  · obtain ⟨t, ns, k, rfl, hq, k0, k1, k2, q⟩ := q1
    cases r1 with
    | cons ra rr =>
      cases rr with
      | cons rb rr =>
        cases rr
        cases ra
        obtain ⟨tk, rfl⟩ := rb
        rw [← hk] at hq
        obtain ⟨its, rv, ht, _⟩ := I1.tuple hq
        have hl : ns.length = its.length := by
          have := rv.length
          rwa [List.length_map] at this
        refine call_comb ht k0 (by omega) (by rw [List.size_toArray]; omega) fun h0 h' kk hc hp k2' => ?_
        have hgt : ¬ (k.toNat > its.toArray.size) := by
          rw [List.size_toArray]
          omega
        rw [if_neg hgt] at hc
        refine iter_comb hc ?_
        have I0 : Inv X pins σ H1 { s1 with heap := h0 } := I1.kept (t' := s1.toks) kk
        have I2 : Inv X pins σ H1 { s1 with heap := h' } := I1.kept (t' := s1.toks) fun b o e => k2' b o (kk b o e)
        rw [hl] at q
        refine ⟨h0.objs.size + 1, [h0.objs.size + 1, h0.objs.size], _, _, H1, rfl, I2, turnC (pool := h0.objs.size) (Nat.ne_of_lt (Nat.lt_succ_self _)) rv (chain_ok (by omega) (by omega)) (by omega), ⟨hp, _, hc⟩, fun b hb => ?_, q⟩
        have hle : h0.objs.size ≤ b := by
          simp only [List.mem_cons, List.not_mem_nil, or_false] at hb
          rcases hb with z | z
          · rw [z]
            exact Nat.le_succ _
          · rw [z]
            exact Nat.le_refl _
        exact I0.fpOk hle (I0.hok.fresh hle)
end
end R
end
section
/-! List comprehensions. -/
namespace R
open PySem L2
open PySem.Spec PyProof.Rows
abbrev Par.p0 (p : Par) : Par := { p with XE := fun _ _ _ => False }
theorem bd_nox {α β : Type} {r : Res α} {f : α → Wd → Res β} : (r.bind f).nox = r.nox.bind fun a w => (f a w).nox := by cases r <;> rfl
theorem Ans.nox {α : Type} {p : Par} {r : Res α} {φ : List Addr} {P : AO} {H : Hp} {T : α → Wd → List Addr → AO → Hp → Prop} (h : Ans p r.nox φ P H T) : Ans p.p0 r φ P H T := by
  cases r with
  | ok v w' => exact h
  | exc c x w' => exact h.elim
  | bad => exact h
theorem Ans.bindB {α β : Type} {p : Par} {r : Res α} {φ : List Addr} {P : AO} {H : Hp} {f : α → Wd → Res β} {T : β → Wd → List Addr → AO → Hp → Prop} (h : Ans p (r.bind f) φ P H T) : Ans p r φ P H (fun v w1 _ _ _ => Ans p (f v w1) φ P H T) := by
  cases r with
  | ok v w' =>
    have h : Ans p (f v w') φ P H T := h
    exact fun _ _ _ _ _ => h
  | exc c x w' => exact h
  | bad => exact h
section
variable {p : Par} {c : Ct} {X : Cx}
theorem xok_blk (o : XOk p c.t X) (s : Shared) (H : Hp) (scope : Scope) (ce : Env) (fp : List Addr) : XOk p.p0 c.t (X.blk s H scope ce fp) where
  K := o.K
  calm := o.calm
  nd := o.nd
  gd := o.gd
  un := o.un
  fr := o.fr
  gl := o.gl
  bf := o.bf
  fn := fun f nm ps h => by
    obtain ⟨fa, fd, k, C⟩ := o.fn f nm ps h
    exact ⟨fa, fd, k, C.mg, C.kp, C.bd, C.ok, C.rm, C.np, C.kw⟩
  px := by
    intro pins σ H s e s' I h
    obtain ⟨_, _, _, _, _, _, _, _, _, _, _, _, h⟩ := h
    exact h.elim
  ar := o.ar
theorem at_blk (a : At c X) (s : Shared) (H : Hp) (scope : Scope) (cl : List (Str × Addr)) (C : Addr) (fp : List Addr) : At (blkCt c scope) (X.blk s H scope (compEnvC scope cl C X.env) fp) := by
  refine ⟨a.N, ?_, rfl⟩
  show relabel scope X.env = relS scope c.sc
  rw [← a.sc]
  rfl
/-! ### tests -/
def rdB (p : Par) (cs : Es) : TT := fun σ H Q => ∃ env w φ P, Rel p env w φ P σ H ∧ Ans p ((evB p.G p.F p.np env true cs w).bind boolOf) φ P H fun b _ _ _ H' => Q b H'
theorem pts_nil' : PTs X [] (rdB p .nil) := ⟨fun pins s σ H Q I ⟨env, w, φ, P, R, A⟩ => pts_nil.run pins s σ H Q I (by
  simp only [evB] at A
  exact (A.bind.here R.st).here R.st)⟩
theorem pts_one' {e : Expr} {a : E} (h : PT X e (rdT p a)) : PTs X [e] (rdB p (.cons a .nil)) := ⟨fun pins s σ H Q I ⟨env, w, φ, P, R, A⟩ => (pts_one h).run pins s σ H Q I ⟨env, w, φ, P, R, by
  simp only [evB.eq_2] at A
  generalize hg : ev p.G p.F p.np env a w = r at A ⊢
  cases r with
  | bad => exact A.elim
  | exc c x w' => exact A
  | ok v w' =>
    cases v with
    | loc n => exact A.elim
    | d dv =>
      cases dv <;> first | exact A.elim | skip
      rename_i b
      cases b with
      | true =>
        simp only [evB] at A
        exact A
      | false => exact A⟩⟩
/-! ### one loop that gathers -/
/-- the heap with the list at D unseen -/
def hideD (H : Hp) (D : Addr) : Hp := fun a => if a = D then none else H a
theorem hide_upd {H : Hp} {D : Addr} {o : HO} (h : H D = some o) : upd (hideD H D) D o = H := by
  funext a
  by_cases e : a = D
  · subst e
    rw [upd_same, h]
  · rw [upd_ne e]
    exact if_neg e
theorem hide_self {H : Hp} {D : Addr} : hideD H D D = none := if_pos rfl
theorem hide_ne {H : Hp} {D a : Addr} (h : a ≠ D) : hideD H D a = H a := if_neg h
theorem cr_hide {H : Hp} {P : AO} {D : Addr} {vs : List V} (hD : H D = some (.lst vs)) (hP : P D) : Cr H P (hideD H D) fun a => P a ∧ a ≠ D :=
  ⟨fun a xs h n => ⟨by rw [hide_ne fun e => n (by rw [e]; exact hP)]; exact h, fun z => n z.1⟩, fun a o h n => by rw [hide_ne fun e => n vs (by rw [e, hD] at h; exact (Option.some.inj h).symm)]; exact h⟩
theorem cr_show {H : Hp} {P : AO} {D : Addr} {vs : List V} (n : H D = none) : Cr H P (upd H D (.lst vs)) fun a => P a ∨ a = D :=
  ⟨fun a xs h np => ⟨by rw [upd_ne (ne_of_none h n)]; exact h, fun z => z.elim np (ne_of_none h n)⟩, fun a o h _ => by rw [upd_ne (ne_of_none h n)]; exact h⟩
theorem cr_write {H : Hp} {P : AO} {D : Addr} {vs us : List V} (hD : H D = some (.lst vs)) (hP : P D) : Cr H P (upd H D (.lst us)) P :=
  ⟨fun a xs h n => ⟨by rw [upd_ne fun e => n (by rw [e]; exact hP)]; exact h, n⟩, fun a o h n => by rw [upd_ne fun e => n vs (by rw [e, hD] at h; exact (Option.some.inj h).symm)]; exact h⟩
/-- what holds of the list being gathered -/
structure Acc (p : Par) (D : Addr) (Z : AO) (φ : List Addr) (P : AO) (H : Hp) (vs : List V) (ds : List PyData) : Prop where
  at_ : H D = some (.lst vs)
  sz : vs.length ≤ sizeLine
  mem : P D
  nf : D ∉ φ
  rp : RpL p.K H (fun z => P z ∧ ¬ Z z) vs ds
variable {env : En} {σ : L2.St}
/-- from a state without D: a loop that gathers into D -/
theorem gath_ok {J : L2.It} {tg : Tg} {cs : Es} {elt : E} {vs : List Nat} {xs : List PyData} {w : Wd} {φ : List Addr} {P : AO} {H : Hp} {D : Addr} {acc : List PyData} {av : List V} {T : List PyData → Wd → List Addr → AO → Hp → Prop} {Qe : Hp → Prop} {Z : AO}
    (R : Rel p env w φ P σ H) (hn : H D = none) (S : Src p.K J xs (· ∈ φ) P H) (hv : ((tgIx tg).all fun i => vs.contains i) = true)
    (hZ : ∀ z, Ob (wipeE env vs) (L2.wipe σ vs) (esc elt) z → Z z) (hZ2 : ∀ z, Z z → z ∉ φ ∧ ∃ o, H z = some o) (st : Acc p D Z φ (fun a => P a ∨ a = D) (upd H D (.lst av)) av acc)
    (A : Ans p (gath (fun x w => match bindT tg x (wipeE env vs) with
      | none => .bad
      | some env1 => (evB p.G p.F p.np env1 true cs w).bind fun t w => (boolOf t w).bind fun b w => if b then (ev p.G p.F p.np env1 elt w).bind fun v w => (asD v w).bind fun y w => .ok (some y) w else .ok none w) xs acc w).nox φ P H T)
    (hend : ∀ acc' av' w' φ' P' H', T acc' w' φ' P' H' → Ev φ P H φ' P' H' → Wst φ' w' P' H' → Acc p D Z φ' P' H' av' acc' → Qe H') :
    ∃ W : Nat → Nat → Hp → Prop, (∃ m, W 0 m (upd H D (.lst av))) ∧ ∀ i m H, W i m H →
      (J.stop i H ∧ Qe H) ∨ (J.go i H ∧ ∃ Nx : Hp → Prop, (∀ H', Nx H' → ∃ m', m' < m ∧ W (i + 1) m' H') ∧ ∀ x H', J.yld i H x H' → gT p.K tg x (L2.wipe σ vs) H' fun σ2 H2 => L2.wipe σ2 vs = L2.wipe σ vs ∧ rdB p.p0 cs σ2 H2 fun b H3 =>
        if b = true then rdE p.p0 elt σ2 H3 fun y H4 => ∃ acc, H4 D = some (.lst acc) ∧ acc.length < sizeLine ∧ Nx (upd H4 D (.lst (acc ++ [y]))) else Nx H3) := by
  obtain ⟨RL, low⟩ := R.wipe vs
  generalize hstep : (fun x w => match bindT tg x (wipeE env vs) with
      | none => Res.bad
      | some env1 => (evB p.G p.F p.np env1 true cs w).bind fun t w => (boolOf t w).bind fun b w => if b then (ev p.G p.F p.np env1 elt w).bind fun v w => (asD v w).bind fun y w => .ok (some y) w else .ok none w) = step at A
  generalize hE : wipeE env vs = eL at *
  generalize hS : L2.wipe σ vs = sL at *
  obtain ⟨E0, W0, _⟩ := ev_new (vs := av) hn R.st
  refine ⟨fun i m H2 => m = xs.length - i ∧ i ≤ xs.length ∧ ∃ φ2 P2 w2 acc2 av2, Ev φ P H φ2 P2 H2 ∧ Wst φ2 w2 P2 H2 ∧ Acc p D Z φ2 P2 H2 av2 acc2 ∧ Ans p (gath step (xs.drop i) acc2 w2).nox φ P H T,
    ⟨_, rfl, Nat.zero_le _, φ, _, w, acc, av, E0, W0, st, A⟩, ?_⟩
  rintro i m H2 ⟨rfl, hi, φ2, P2, w2, acc2, av2, E2, W2, st2, A2⟩
  obtain ⟨src, stop⟩ := S H2 (· ∈ φ2) P2 (E2.cr R.st (fun _ h => h) E2.nf) (E2.cr R.st R.st.wr.av E2.nw)
  by_cases hlt : i < xs.length
  · right
    have hd := List.drop_eq_getElem_cons hlt
    obtain ⟨go, yl⟩ := src i xs[i] (List.getElem?_eq_getElem hlt)
    refine ⟨go, fun H' => i + 1 ≤ xs.length ∧ ∃ φ2 P2 w2 acc2 av2, Ev φ P H φ2 P2 H' ∧ Wst φ2 w2 P2 H' ∧ Acc p D Z φ2 P2 H' av2 acc2 ∧ Ans p (gath step (xs.drop (i + 1)) acc2 w2).nox φ P H T, fun H' h => ⟨xs.length - (i + 1), by omega, rfl, h⟩, fun x H3 hy => ?_⟩
    obtain ⟨k3, rx⟩ := yl x H3 hy
    have E3 : Ev φ2 P2 H2 φ2 P2 H3 := .of_kp k3
    have W3 := W2.kp k3
    have A3 := A2
    rw [hd, gath, bd_nox] at A3
    replace A3 := A3.bindB.nox
    rw [← hstep] at A3
    have R3 := (RL.ev E2 W2).ev E3 W3
    cases hb : bindT tg xs[i] eL with
    | none =>
      simp only [hb] at A3
      exact A3.elim
    | some env1 =>
      simp only [hb] at A3
      refine bind_ok R3 rx hb fun σ1 R1 l1 so => ?_
      refine ⟨?_, ?_⟩
      · rw [← hS]
        rw [← hS] at so
        exact SameO.wipe (so.mono fun j hj => by
          have := List.all_eq_true.mp hv j hj
          simpa using this)
      have st3 : Acc p D Z φ2 P2 H3 av2 acc2 := ⟨k3 _ _ st2.at_, st2.sz, st2.mem, st2.nf, RpL.cr (Cr.kp k3 fun _ h => .inl h) _ _ st2.rp⟩
      rw [← bind_assoc'] at A3
      have EE := E2.trans E3
      refine ⟨env1, w2, φ2, P2, R1.par, (A3.bindB.ev EE).imp fun b w4 φ4 P4 H4 E4 W4 A4 => ?_⟩
      have R4 := R1.ev E4 W4
      have zφ : ∀ a ∈ φ2, ¬ Z a := fun a ha hz => by
        obtain ⟨n, u, e⟩ := hZ2 a hz
        rcases E2.nf a ha with q | q
        · exact n q
        · rw [e] at q
          cases q
      -- the list along an expression
      have along : ∀ {φ5 : List Addr} {P5 : AO} {H5 : Hp} {w5 : Wd}, Ev φ2 P2 H3 φ5 P5 H5 → Wst φ5 w5 P5 H5 → Acc p D Z φ5 P5 H5 av2 acc2 := fun {φ5 P5 H5 w5} E W =>
        ⟨E.kp D _ st3.at_ st3.nf, st3.sz, E.up D st3.mem, fun z => (E.nf D z).elim st3.nf fun q => (by rw [st3.at_] at q; cases q), RpL.cr (E.cr W3 (fun a ha => ⟨R3.st.wr.av a ha, zφ a ha⟩) fun a h => (E.nw a h.1).imp (fun q => ⟨q, h.2⟩) id) _ _ st3.rp⟩
      cases b with
      | false =>
        simp only [Bool.false_eq_true, if_false] at A4
        simp only [Bool.false_eq_true, if_false]
        rw [hstep] at A4
        exact ⟨hlt, φ4, P4, w4, acc2, av2, EE.trans E4, W4, along E4 W4, A4 H4 φ4 P4 (EE.trans E4) W4⟩
      | true =>
        simp only [if_true] at A4
        simp only [if_true]
        refine ⟨env1, w4, φ4, P4, R4.par, (A4.bindB.ev (EE.trans E4)).imp fun v w5 φ5 P5 H5 E5 W5 A5 y ry => ?_⟩
        have E6 := (EE.trans E4).trans E5
        obtain ⟨d, rfl, B5⟩ := (A5.bindB.ev E6).data
        replace A5 := (B5.here W5) H5 φ5 P5 E6 W5
        have st5 := along (E4.trans E5) W5
        by_cases hz : acc2.length < sizeLine
        · simp only [hz, if_true] at A5
          rw [hstep] at A5
          have hl := st5.rp.length
          have nD : ∀ a o, H a = some o → a ≠ D := fun a o e z => by rw [z, hn] at e; cases e
          have S5 : P5 D ∧ ¬ Z D := ⟨st5.mem, fun z => by
            obtain ⟨_, u, e⟩ := hZ2 D z
            rw [hn] at e
            cases e⟩
          have cw := cr_write (P := fun z => P5 z ∧ ¬ Z z) (us := av2 ++ [y]) st5.at_ S5
          have E7 : Ev φ P H φ5 P5 (upd H5 D (.lst (av2 ++ [y]))) := ⟨E6.pre, fun a o e n => by rw [upd_ne (nD a o e)]; exact E6.kp a o e n, fun a h => by
            by_cases e : a = D
            · rw [e]; exact hn
            · rw [upd_ne e] at h
              exact E6.dm a h, E6.up, E6.nw, E6.nf⟩
          have W7 : Wst φ5 w5 P5 (upd H5 D (.lst (av2 ++ [y]))) := ⟨fun a h => by
            by_cases e : a = D
            · rw [e, upd_same]; exact ⟨_, rfl⟩
            · rw [upd_ne e]; exact W5.held a h, W5.wr.len, fun n a ns h1 h2 => by
            obtain ⟨q1, q2⟩ := W5.wr.at_ n a ns h1 h2
            refine ⟨?_, q2⟩
            rw [upd_ne fun z => st5.nf (by rw [← z]; exact List.mem_of_getElem? h1)]
            exact q1, W5.wr.av, W5.wr.nd⟩
          have ry' : Rp p.K H5 (fun z => P5 z ∧ ¬ Z z) y d := Rp.cr (Cr.weak fun z h => ⟨h.1, fun q => h.2 (hZ z (l1.ob q))⟩) _ _ ry
          exact ⟨av2, st5.at_, by omega, hlt, φ5, P5, w5, acc2 ++ [d], av2 ++ [y], E7, W7, ⟨upd_same, by rw [List.length_append]; simp only [List.length_cons, List.length_nil]; omega, st5.mem, st5.nf, RpL.cr cw _ _ (st5.rp.append (.cons ry' .nil))⟩, A5⟩
        · simp only [hz, if_false] at A5
          exact A5.elim
  · left
    have e : i = xs.length := by omega
    subst e
    refine ⟨stop, ?_⟩
    rw [List.drop_length, gath] at A2
    exact hend _ _ _ _ _ _ (A2 H2 φ2 P2 E2 W2) E2 W2 st2
theorem Rel.hid {w : Wd} {φ : List Addr} {P : AO} {H : Hp} {D : Addr} {vs : List V} (R : Rel p env w φ P σ H) (hD : H D = some (.lst vs)) (hP : P D) (hf : D ∉ φ) (hB : ¬ p.B D) (ho : ∀ (i : Nat) (xs : List PyData), env[i]? = some (.own xs) → σ[i]? ≠ some (some (.ref D))) :
    Rel p env w φ (fun a => P a ∧ a ≠ D) σ (hideD H D) := by
  have c := cr_hide hD hP
  have nφ : ∀ a ∈ φ, a ≠ D := fun a h z => hf (z ▸ h)
  refine ⟨⟨fun a h => ?_, ⟨R.st.wr.len, fun n a ns h1 h2 => ?_, fun a h => ⟨R.st.wr.av a h, nφ a h⟩, R.st.wr.nd⟩⟩, fun i s h => ?_, R.un, R.len, fun a h => ⟨R.bP a h, fun z => hB (z ▸ h)⟩⟩
  · rw [hide_ne h.2]
    exact R.st.held a h.1
  · rw [hide_ne (nφ a (List.mem_of_getElem? h1))]
    exact R.st.wr.at_ n a ns h1 h2
  · have t := R.sl i s h
    generalize hg : σ[i]? = o at t
    cases t with
    | non => exact .non _
    | @rng a n hr => exact .rng (by rw [hide_ne (fun z => by rw [z, hD] at hr; cases hr)]; exact hr)
    | @val x v r =>
      refine .val ?_
      cases v with
      | d d => exact Rp.cr c _ _ r
      | loc n => exact r
    | @own a us ds hp hn hb e hz hd =>
      have ne : a ≠ D := fun z => ho i _ h (by rw [hg, z])
      exact .own ⟨hp, ne⟩ hn hb (by rw [hide_ne ne]; exact e) hz (RpL.cr c _ _ hd)
theorem Ev.hid {w : Wd} {φ φ' : List Addr} {P P' : AO} {H H' : Hp} {D : Addr} (W : Wst φ w P H) (hn : H D = none) (E : Ev φ P H φ' P' H') : Ev φ P H φ' (fun a => P' a ∧ a ≠ D) (hideD H' D) := by
  refine ⟨E.pre, fun a o h n => ?_, fun a h => ?_, fun a h => ⟨E.up a h, fun z => ?_⟩, fun a h => E.nw a h.1, E.nf⟩
  · rw [hide_ne (ne_of_none h hn)]
    exact E.kp a o h n
  · by_cases e : a = D
    · rw [e]
      exact hn
    · rw [hide_ne e] at h
      exact E.dm a h
  · obtain ⟨us, e⟩ := W.held a h
    rw [z, hn] at e
    cases e
/-- told with more to be shunned -/
theorem back_ok {PL P P' : AO} {φ φ' : List Addr} {w w' : Wd} {H H' : Hp} (hs : ∀ a, PL a → P a) (W : Wst φ w P H) (E : Ev φ PL H φ' P' H') (W' : Wst φ' w' P' H') : Ev φ P H φ' (fun a => P a ∨ P' a) H' ∧ Wst φ' w' (fun a => P a ∨ P' a) H' := by
  refine ⟨⟨E.pre, E.kp, E.dm, fun z h => .inl h, fun z h => ?_, E.nf⟩, ⟨fun z h => ?_, ⟨W'.wr.len, W'.wr.at_, fun z h => .inr (W'.wr.av z h), W'.wr.nd⟩⟩⟩
  · rcases h with h | h
    · exact .inl h
    · exact (E.nw z h).imp (hs z) id
  · rcases h with h | h
    · obtain ⟨us, e⟩ := W.held z h
      by_cases hz : z ∈ φ
      · obtain ⟨ψ, e2⟩ := E.pre
        exact W'.lists z (by rw [e2]; exact List.mem_append_left _ hz)
      · exact ⟨us, E.kp z _ e hz⟩
    · exact W'.held z h
theorem Ans.narrow {α : Type} {r : Res α} {φ : List Addr} {P PL : AO} {H : Hp} {w : Wd} {T : α → Wd → List Addr → AO → Hp → Prop} (A : Ans p r φ P H T) (hs : ∀ a, PL a → P a) (W : Wst φ w P H) : Ans p r φ PL H fun v w' φ' P' H' => T v w' φ' (fun a => P a ∨ P' a) H' := by
  cases r with
  | bad => exact A
  | ok v w' => exact fun H' φ' P' E W' => A H' φ' _ (back_ok hs W E W').1 (back_ok hs W E W').2
  | exc cn x w' => exact fun H' φ' P' cls d E W' h => A H' φ' _ cls d (back_ok hs W E W').1 (back_ok hs W E W').2 h
/-- from a state without D: two loops that gather into D -/
theorem gath2_ok {J : L2.It} {tg tg1 : Tg} {it1 : R.It} {elt : E} {vs vs1 : List Nat} {xs : List PyData} {w : Wd} {φ : List Addr} {P : AO} {H : Hp} {D : Addr} {T : List PyData → Wd → List Addr → AO → Hp → Prop} {Qe : Hp → Prop} {Z : AO}
    (R : Rel p env w φ P σ H) (hn : H D = none) (S : Src p.K J xs (· ∈ φ) P H) (hv : ((tgIx tg).all fun i => vs.contains i) = true) (hv1 : ((tgIx tg1).all fun i => vs1.contains i) = true)
    (hZ : ∀ z, Ob (wipeE env vs) (L2.wipe σ vs) (escI it1 ++ esc elt) z → Z z) (hZ2 : ∀ z, Z z → z ∉ φ ∧ ∃ o, H z = some o) (hB : ¬ p.B D)
    (A : Ans p (gathM (fun x acc w => match bindT tg x (wipeE env vs) with
      | none => .bad
      | some env1 => (evI p.G p.F p.np env1 it1 w).bind fun xs1 w => gath (fun x1 w => match bindT tg1 x1 (wipeE (demE env1 (escI it1)) vs1) with
        | none => .bad
        | some env2 => (ev p.G p.F p.np env2 elt w).bind fun v w => (asD v w).bind fun y w => .ok (some y) w) xs1 acc w) xs [] w).nox φ P H T)
    (hend : ∀ acc' av' w' φ' P' H', T acc' w' φ' P' H' → Ev φ P H φ' P' H' → Wst φ' w' P' H' → Acc p D Z φ' P' H' av' acc' → Qe H') :
    ∃ W : Nat → Nat → Hp → Prop, (∃ m, W 0 m (upd H D (.lst []))) ∧ ∀ i m H, W i m H →
      (J.stop i H ∧ Qe H) ∨ (J.go i H ∧ ∃ Nx : Hp → Prop, (∀ H', Nx H' → ∃ m', m' < m ∧ W (i + 1) m' H') ∧ ∀ x H', J.yld i H x H' → gT p.K tg x (L2.wipe σ vs) H' fun σ2 H2 => L2.wipe σ2 vs = L2.wipe σ vs ∧ tYes σ2 H2 fun b H3 =>
        if b = true then rdI p.p0 [] it1 σ2 H3 fun J1 H4 => ∃ W1 : Nat → Nat → Hp → Prop, (∃ m, W1 0 m H4) ∧ ∀ j k H, W1 j k H →
          (J1.stop j H ∧ Nx H) ∨ (J1.go j H ∧ ∃ Nx1 : Hp → Prop, (∀ H', Nx1 H' → ∃ k', k' < k ∧ W1 (j + 1) k' H') ∧ ∀ x H', J1.yld j H x H' → gT p.K tg1 x (L2.wipe σ2 vs1) H' fun σ3 H5 => L2.wipe σ3 vs1 = L2.wipe σ2 vs1 ∧ rdB p.p0 .nil σ3 H5 fun b H6 =>
            if b = true then rdE p.p0 elt σ3 H6 fun y H7 => ∃ acc, H7 D = some (.lst acc) ∧ acc.length < sizeLine ∧ Nx1 (upd H7 D (.lst (acc ++ [y]))) else Nx1 H6)
        else Nx H3) := by
  obtain ⟨RL, low⟩ := R.wipe vs
  generalize hstep : (fun x acc w => match bindT tg x (wipeE env vs) with
      | none => Res.bad
      | some env1 => (evI p.G p.F p.np env1 it1 w).bind fun xs1 w => gath (fun x1 w => match bindT tg1 x1 (wipeE (demE env1 (escI it1)) vs1) with
        | none => Res.bad
        | some env2 => (ev p.G p.F p.np env2 elt w).bind fun v w => (asD v w).bind fun y w => .ok (some y) w) xs1 acc w) = step at A
  generalize hE : wipeE env vs = eL at *
  generalize hS : L2.wipe σ vs = sL at *
  obtain ⟨E0, W0, nφ⟩ := ev_new (vs := []) hn R.st
  have zD : ¬ Z D := fun h => by
    obtain ⟨_, u, e⟩ := hZ2 D h
    rw [hn] at e
    cases e
  refine ⟨fun i m H2 => m = xs.length - i ∧ i ≤ xs.length ∧ ∃ φ2 P2 w2 acc2 av2, Ev φ P H φ2 P2 H2 ∧ Wst φ2 w2 P2 H2 ∧ Acc p D Z φ2 P2 H2 av2 acc2 ∧ Ans p (gathM step (xs.drop i) acc2 w2).nox φ P H T,
    ⟨_, rfl, Nat.zero_le _, φ, _, w, [], [], E0, W0, ⟨upd_same, Nat.zero_le _, .inr rfl, nφ, .nil⟩, A⟩, ?_⟩
  rintro i m H2 ⟨rfl, hi, φ2, P2, w2, acc2, av2, E2, W2, st2, A2⟩
  obtain ⟨src, stop⟩ := S H2 (· ∈ φ2) P2 (E2.cr R.st (fun _ h => h) E2.nf) (E2.cr R.st R.st.wr.av E2.nw)
  by_cases hlt : i < xs.length
  · right
    have hd := List.drop_eq_getElem_cons hlt
    obtain ⟨go, yl⟩ := src i xs[i] (List.getElem?_eq_getElem hlt)
    refine ⟨go, fun H' => i + 1 ≤ xs.length ∧ ∃ φ2 P2 w2 acc2 av2, Ev φ P H φ2 P2 H' ∧ Wst φ2 w2 P2 H' ∧ Acc p D Z φ2 P2 H' av2 acc2 ∧ Ans p (gathM step (xs.drop (i + 1)) acc2 w2).nox φ P H T, fun H' h => ⟨xs.length - (i + 1), by omega, rfl, h⟩, fun x H3 hy => ?_⟩
    obtain ⟨k3, rx⟩ := yl x H3 hy
    have E3 : Ev φ2 P2 H2 φ2 P2 H3 := .of_kp k3
    have W3 := W2.kp k3
    have A3 := A2
    rw [hd, gathM, bd_nox] at A3
    replace A3 := A3.bindB
    rw [← hstep] at A3
    have R3 := (RL.ev E2 W2).ev E3 W3
    cases hb : bindT tg xs[i] eL with
    | none =>
      simp only [hb] at A3
      exact A3.elim
    | some env1 =>
      simp only [hb] at A3
      refine bind_ok R3 rx hb fun σ1 R1 l1 so => ?_
      refine ⟨?_, ?_⟩
      · rw [← hS]
        rw [← hS] at so
        exact SameO.wipe (so.mono fun j hj => by
          have := List.all_eq_true.mp hv j hj
          simpa using this)
      simp only [tYes, if_true]
      rw [bd_nox] at A3
      have EE := E2.trans E3
      have st3 : Acc p D Z φ2 P2 H3 av2 acc2 := ⟨k3 _ _ st2.at_, st2.sz, st2.mem, st2.nf, RpL.cr (Cr.kp k3 fun _ h => .inl h) _ _ st2.rp⟩
      refine ⟨env1, w2, φ2, P2, R1.par, (A3.bindB.nox.ev EE).imp fun xs1 w4 φ4 P4 H4 E4 W4 A4 J1 src1 => ?_⟩
      have R4 := R1.ev E4 W4
      have E6 := EE.trans E4
      have zφ : ∀ a ∈ φ2, ¬ Z a := fun a ha hz => by
        obtain ⟨n, u, e⟩ := hZ2 a hz
        rcases E2.nf a ha with q | q
        · exact n q
        · rw [e] at q
          cases q
      have st4 : Acc p D Z φ4 P4 H4 av2 acc2 :=
        ⟨E4.kp D _ st3.at_ st3.nf, st3.sz, E4.up D st3.mem, fun z => (E4.nf D z).elim st3.nf fun q => (by rw [st3.at_] at q; cases q), RpL.cr (E4.cr W3 (fun a ha => ⟨R3.st.wr.av a ha, zφ a ha⟩) fun a h => (E4.nw a h.1).imp (fun q => ⟨q, h.2⟩) id) _ _ st3.rp⟩
      have oD : ∀ (e : En) (s : L2.St), Less eL e sL s → ∀ (i : Nat) (xs : List PyData), e[i]? = some (.own xs) → s[i]? ≠ some (some (.ref D)) := fun e s l i xs h1 h2 => by
        obtain ⟨q1, q2⟩ := l i xs h1
        obtain ⟨_, _, us, q⟩ := RL.es_out (l := [i]) (a := D) ⟨i, by simp, xs, q1, by rw [← q2]; exact h2⟩
        rw [hn] at q
        cases q
      have ll := l1.trans (dem_less (env := env1) (σ := σ1) (escI it1))
      have PD : Av P4 env1 σ1 (escI it1) D := ⟨st4.mem, fun ⟨i, _, xs, h1, h2⟩ => oD env1 σ1 l1 i xs h1 h2⟩
      have R5 := (R4.dem (escI it1)).hid st4.at_ PD st4.nf hB (oD _ _ ll)
      have R6 := R4.hid st4.at_ st4.mem st4.nf hB (oD _ _ l1)
      have same : (fun x1 w => match bindT tg1 x1 (wipeE (demE env1 (escI it1)) vs1) with
        | none => Res.bad
        | some env2 => (ev p.G p.F p.np env2 elt w).bind fun v w => (asD v w).bind fun y w => .ok (some y) w) = (fun x w => match bindT tg1 x (wipeE (demE env1 (escI it1)) vs1) with
        | none => .bad
        | some env1 => (evB p.G p.F p.np env1 true .nil w).bind fun t w => (boolOf t w).bind fun b w => if b then (ev p.G p.F p.np env1 elt w).bind fun v w => (asD v w).bind fun y w => .ok (some y) w else .ok none w) := by
        funext x1 w
        cases bindT tg1 x1 (wipeE (demE env1 (escI it1)) vs1) with
        | none => rfl
        | some env2 =>
          simp only [evB, bind_ok_eq]
          rfl
      rw [same] at A4
      have S4 : Src p.K J1 xs1 (· ∈ φ4) (fun a => Av P4 env1 σ1 (escI it1) a ∧ a ≠ D) (hideD H4 D) := by
        refine fun Ha Sa Aa c1 c2 => src1 Ha Sa Aa (Cr.trans ⟨fun a us h n => ?_, fun a o h n => ?_⟩ c1) ((cr_hide st4.at_ PD).trans c2)
        · have ne : a ≠ D := fun z => n ⟨by rw [z]; exact st4.mem, fun i xs _ h1 h2 => oD env1 σ1 l1 i xs h1 (by rw [h2, z])⟩
          exact ⟨by rw [hide_ne ne]; exact h, fun z => n (SM.phi R4 a z)⟩
        · rw [hide_ne fun z => n av2 (by rw [z, st4.at_] at h; exact (Option.some.inj h).symm)]
          exact h
      have G := gath_ok (cs := .nil) (vs := vs1) (D := D) (acc := acc2) (av := av2) (Z := Z) (Qe := fun H' => i + 1 ≤ xs.length ∧ ∃ φ2 P2 w2 acc2 av2, Ev φ P H φ2 P2 H' ∧ Wst φ2 w2 P2 H' ∧ Acc p D Z φ2 P2 H' av2 acc2 ∧ Ans p (gathM step (xs.drop (i + 1)) acc2 w2).nox φ P H T) R5 hide_self S4 hv1 (fun z h => ?_) (fun z h => ?_) (by
        rw [hide_upd st4.at_]
        refine ⟨st4.at_, st4.sz, .inr rfl, st4.nf, RpL.cr (Cr.weak fun z h => ⟨?_, h.2⟩) _ _ st4.rp⟩
        rcases h.1 with h | h
        · exact h.1.1
        · rw [h]
          exact st4.mem) ((A4.ev (E6.hid R.st hn)).narrow (fun a h => ⟨h.1.1, h.2⟩) R6.st) (fun acc' av' w' φ' P' H' T1 E W st => ?_)
      · rw [hide_upd st4.at_] at G
        exact G
      · have z1 := ((R5.wipe vs1).2).ob h
        exact hZ z (ll.ob (by
          obtain ⟨i, hi, r⟩ := z1
          exact ⟨i, by simp [hi], r⟩))
      · obtain ⟨n, u, e⟩ := hZ2 z h
        have ne : z ≠ D := fun q => zD (q ▸ h)
        exact ⟨fun q => (E6.nf z q).elim n fun q => (by rw [e] at q; cases q), u, by rw [hide_ne ne]; exact E6.kp z u e n⟩
      · have E6h := E6.hid R.st hn
        obtain ⟨E7, W7⟩ := back_ok (fun a h => ⟨h.1.1, h.2⟩) R6.st E W
        rw [hstep] at T1
        refine ⟨hlt, φ', _, w', acc', av', E6h.trans E7, W7, ⟨st.at_, st.sz, .inr st.mem, st.nf, RpL.cr (Cr.weak fun z h => ⟨?_, h.2⟩) _ _ st.rp⟩, T1⟩
        rcases h.1 with h1 | h1
        · exact E.up z ⟨⟨h1.1, fun q => h.2 (hZ z (by
            obtain ⟨i, hi, r⟩ := l1.ob q
            exact ⟨i, by simp [hi], r⟩))⟩, h1.2⟩
        · exact h1
  · left
    have e : i = xs.length := by omega
    subst e
    refine ⟨stop, ?_⟩
    rw [List.drop_length, gathM] at A2
    exact hend _ _ _ _ _ _ (A2 H2 φ2 P2 E2 W2) E2 W2 st2
end
end R
end
section
/-! List comprehensions as readings. -/
namespace R
open PySem L2
open PySem.Spec PyProof.Rows
section
variable {p : Par} {c : Ct} {X : Cx} {env : En} {σ : L2.St}
theorem Src.sub {K : PySem.W.Frag} {J : L2.It} {xs : List PyData} {S S' A A' : AO} {H : Hp} (s : Src K J xs S A H) (h : ∀ a, S' a → S a) (g : ∀ a, A' a → A a) : Src K J xs S' A' H := fun H1 S1 A1 c1 c2 => s H1 S1 A1 ((Cr.weak h).trans c1) ((Cr.weak g).trans c2)
theorem own_map {N : List Str} : ∀ {vs : List Nat} {own : List (Str × Nat)}, ownOf N vs = some own → own.map (·.2) = vs
  | [], own, h => by
    simp only [ownOf] at h
    obtain rfl := Option.some.inj h
    rfl
  | i :: is, own, h => by
    unfold ownOf at h
    split at h
    · rename_i x r hx hr
      obtain rfl := Option.some.inj h
      rw [List.map_cons, own_map hr]
    · cases h
theorem rd_lc {vs : List Nat} {elt : E} {tg : Tg} {it : R.It} {cs : Es} {pelt tg' it' : Expr} {ifs : List Expr} {scope : Scope} {own : List (Str × Nat)} {pos : Pos} (o : XOk p c.t X) (a : At c X) (how : ownOf c.N vs = some own) (hb : blkC c.N c.sc scope own = true)
    (hi : PI X tg' it' (rdI p [] it)) (hx : ((tgIx tg).all fun i => vs.contains i) = true) (hf : ∀ x, foldedSetIterable it' X.env x = pure x)
    (hg : ∀ (s : Shared) (H : Hp) (C : Addr) (cl : List (Str × Addr)) (fp : List Addr), PG (X.blk s H scope (compEnvC scope cl C X.env) fp) tg' (gT p.K tg))
    (ht : ∀ (s : Shared) (H : Hp) (C : Addr) (cl : List (Str × Addr)) (fp : List Addr), PTs (X.blk s H scope (compEnvC scope cl C X.env) fp) ifs (rdB p.p0 cs))
    (he : ∀ (s : Shared) (H : Hp) (C : Addr) (cl : List (Str × Addr)) (fp : List Addr), PE (X.blk s H scope (compEnvC scope cl C X.env) fp) pelt (rdE p.p0 elt)) :
    PE X (.ListComp pelt [⟨tg', it', ifs, 0⟩] scope pos) (rdF p (.lc vs elt tg it cs)) ∧
    ∀ (y : Str) (py spos : Pos) (i : Nat), X.N[i]? = some y → X.env.scope.names.lookup y = some .local → swapsWith (.ListComp pelt [⟨tg', it', ifs, 0⟩] scope pos) (some (.Name y py)) spos.line X.env = pure true →
      PS X (.Assign [.Name y py] (.ListComp pelt [⟨tg', it', ifs, 0⟩] scope pos) spos) (tAsg (rdF p (.lc vs elt tg it cs)) (gName i)) := by
  have key : ∀ {σ : L2.St} {H : Hp} {Q : VK}, rdF p (.lc vs elt tg it cs) σ H Q → tLc (rdI p [] it) (gT p.K tg) (rdB p.p0 cs) (rdE p.p0 elt) (own.map (·.2)) σ H Q := by
    intro σ H Q ⟨env, w, φ, P, R, A⟩
    rw [own_map how]
    simp only [ev] at A
    refine ⟨env, w, φ, P, R, A.bind.imp fun xs w1 φ1 P1 H1 E1 W1 A1 J src D nD => ?_⟩
    have R1 := R.ev E1 W1
    have R2 := R1.dem (escI it)
    have A2 := (A1.narrow (Av.le (σ := σ) (env := env) (l := escI it)) W1).bind
    have low := (dem_less (env := env) (σ := σ) (escI it)).trans ((R2.wipe vs).2)
    obtain ⟨_, _, nφ⟩ := ev_new (vs := []) nD R2.st
    refine gath_ok (Z := Ob env σ (esc (.lc vs elt tg it cs))) (acc := []) (av := []) R2 nD (src.sub (SM.phi R1) fun z h => h) hx (fun z h => ?_) (fun z h => ?_) ⟨upd_same, Nat.zero_le _, .inr rfl, nφ, .nil⟩ A2 ?_
    · obtain ⟨i, hi, r⟩ := low.ob h
      exact ⟨i, by simp [esc, hi], r⟩
    · obtain ⟨h1, _, us, h2⟩ := R1.es_out h
      exact ⟨h1, _, h2⟩
    intro acc' av' w' φ' P' H' T E W st
    refine T.here W _ D av' rfl (E1.dm D nD) (.inr st.mem) st.nf st.at_ st.sz ?_
    refine RpL.cr (Cr.weak fun z h => ?_) _ _ st.rp
    obtain ⟨h1, h2⟩ := h
    refine ⟨?_, h2⟩
    rcases h1 with h1 | h1
    · refine E.up z ⟨h1, fun q => h2 ?_⟩
      obtain ⟨i, hi, r⟩ := q
      exact ⟨i, by simp [esc, hi], r⟩
    · exact h1
  have ok : BlkOk X.N X.env.scope scope own := by
    rw [a.N, a.sc]
    exact blkOk_by hb
  exact ⟨PEi (pe_lc o.calm o.nd hi ok hg ht he hf) fun σ H Q h => key h, fun y py spos i hy hl hsw => ⟨fun pins s σ H D I h => (ps_setLc o.calm o.nd hy hl hsw hi ok hg ht he hf).run pins s σ H D I (key h)⟩⟩
theorem rd_lc2 {vs vs1 : List Nat} {elt : E} {tg tg1 : Tg} {it it1 : R.It} {pelt tg' it' tg1' it1' : Expr} {scope : Scope} {own : List (Str × Nat)} {pos : Pos} (o : XOk p c.t X) (a : At c X) (how : ownOf c.N vs = some own) (hb : blkC c.N c.sc scope own = true) (hvs : (vs1.all fun i => vs.contains i) = true)
    (hi : PI X tg' it' (rdI p [] it)) (hx : ((tgIx tg).all fun i => vs.contains i) = true) (hx1 : ((tgIx tg1).all fun i => vs1.contains i) = true) (hf : ∀ x, foldedSetIterable it' X.env x = pure x) (hf1 : ∀ env x, foldedSetIterable it1' env x = pure x)
    (hg : ∀ (s : Shared) (H : Hp) (C : Addr) (cl : List (Str × Addr)) (fp : List Addr), PG (X.blk s H scope (compEnvC scope cl C X.env) fp) tg' (gT p.K tg))
    (hi1 : ∀ (s : Shared) (H : Hp) (C : Addr) (cl : List (Str × Addr)) (fp : List Addr), PI (X.blk s H scope (compEnvC scope cl C X.env) fp) tg1' it1' (rdI p.p0 [] it1))
    (hg1 : ∀ (s : Shared) (H : Hp) (C : Addr) (cl : List (Str × Addr)) (fp : List Addr), PG (X.blk s H scope (compEnvC scope cl C X.env) fp) tg1' (gT p.K tg1))
    (he : ∀ (s : Shared) (H : Hp) (C : Addr) (cl : List (Str × Addr)) (fp : List Addr), PE (X.blk s H scope (compEnvC scope cl C X.env) fp) pelt (rdE p.p0 elt)) :
    PE X (.ListComp pelt [⟨tg', it', [], 0⟩, ⟨tg1', it1', [], 0⟩] scope pos) (rdF p (.lc2 vs vs1 elt tg it tg1 it1)) ∧
    ∀ (y : Str) (py spos : Pos) (i : Nat), X.N[i]? = some y → X.env.scope.names.lookup y = some .local → swapsWith (.ListComp pelt [⟨tg', it', [], 0⟩, ⟨tg1', it1', [], 0⟩] scope pos) (some (.Name y py)) spos.line X.env = pure true →
      PS X (.Assign [.Name y py] (.ListComp pelt [⟨tg', it', [], 0⟩, ⟨tg1', it1', [], 0⟩] scope pos) spos) (tAsg (rdF p (.lc2 vs vs1 elt tg it tg1 it1)) (gName i)) := by
  have key : ∀ {σ : L2.St} {H : Hp} {Q : VK}, rdF p (.lc2 vs vs1 elt tg it tg1 it1) σ H Q → tLc2 (rdI p [] it) (gT p.K tg) tYes (rdI p.p0 [] it1) (gT p.K tg1) (rdB p.p0 .nil) (rdE p.p0 elt) (own.map (·.2)) vs1 σ H Q := by
    intro σ H Q ⟨env, w, φ, P, R, A⟩
    rw [own_map how]
    simp only [ev] at A
    refine ⟨env, w, φ, P, R, A.bind.imp fun xs w1 φ1 P1 H1 E1 W1 A1 J src D nD => ?_⟩
    have R1 := R.ev E1 W1
    have R2 := R1.dem (escI it)
    have A2 := (A1.narrow (Av.le (σ := σ) (env := env) (l := escI it)) W1).bind
    have low := (dem_less (env := env) (σ := σ) (escI it)).trans ((R2.wipe vs).2)
    have bD : ¬ p.B D := fun h => by
      obtain ⟨us, e⟩ := R1.st.held D (R1.bP D h)
      rw [nD] at e
      cases e
    refine gath2_ok (Z := Ob env σ (esc (.lc2 vs vs1 elt tg it tg1 it1))) R2 nD (src.sub (SM.phi R1) fun z h => h) hx hx1 (fun z h => ?_) (fun z h => ?_) bD A2 ?_
    · obtain ⟨i, hi, r⟩ := low.ob h
      exact ⟨i, by
        simp only [esc, List.mem_append] at hi ⊢
        exact .inr hi, r⟩
    · obtain ⟨h1, _, us, h2⟩ := R1.es_out h
      exact ⟨h1, _, h2⟩
    intro acc' av' w' φ' P' H' T E W st
    refine T.here W _ D av' rfl (E1.dm D nD) (.inr st.mem) st.nf st.at_ st.sz ?_
    refine RpL.cr (Cr.weak fun z h => ?_) _ _ st.rp
    obtain ⟨h1, h2⟩ := h
    refine ⟨?_, h2⟩
    rcases h1 with h1 | h1
    · refine E.up z ⟨h1, fun q => h2 ?_⟩
      obtain ⟨i, hi, r⟩ := q
      exact ⟨i, by
        simp only [esc, List.mem_append]
        exact .inl hi, r⟩
    · exact h1
  have ok : BlkOk X.N X.env.scope scope own := by
    rw [a.N, a.sc]
    exact blkOk_by hb
  have hv : ∀ i ∈ vs1, i ∈ own.map (·.2) := fun i hm => by
    rw [own_map how]
    have := List.all_eq_true.mp hvs i hm
    simpa using this
  exact ⟨PEi (pe_lc2 o.calm o.nd hi ok hv hg (fun _ _ _ _ _ => pts_nil) hi1 hg1 (fun _ _ _ _ _ => pts_nil') he hf hf1) fun σ H Q h => key h, fun y py spos i hy hl hsw => ⟨fun pins s σ H D I h => (ps_setLc2 o.calm o.nd hy hl hsw hi ok hv hg (fun _ _ _ _ _ => pts_nil) hi1 hg1 (fun _ _ _ _ _ => pts_nil') he hf hf1).run pins s σ H D I (key h)⟩⟩
end
end R
end
section
/-! Dicts read and made; the place of an item. -/
namespace R
open PySem L2
open PySem.Spec PyProof.Rows
section
variable {p : Par} {c : Ct} {X : Cx} {pe pe2 : Expr} {e a b : E} {pos : Pos}
theorem dictOf_some {v : Vl} {kvs : List (PyData × PyData)} (h : dictOf v = some kvs) : v = .d (.dict kvs) ∧ intKeys kvs = true := by
  unfold dictOf at h
  split at h
  · split at h
    · rename_i q
      cases h
      exact ⟨rfl, q⟩
    · cases h
  · cases h
theorem listOf_some {v : Vl} {kvs : List PyData} (h : listOf v = some kvs) : v = .d (.list kvs) ∧ SeqAt.shaped (.list kvs) = true := by
  unfold listOf at h
  split at h
  · split at h
    · rename_i q
      cases h
      exact ⟨rfl, q⟩
    · cases h
  · cases h
theorem lookI_ok {K : PySem.W.Frag} {H : Hp} {P : AO} {k : Int} : ∀ {ks : List (Key × V)} {kvs : List (PyData × PyData)}, RpK K H P ks kvs → intKeys kvs = true → Rp K H P ((valV ks (.inl k)).getD .non) (lookI kvs k)
  | _, _, .nil, _ => .non
  | (k1, v) :: ks, (d, e) :: kvs, .cons hk h t, hi => by
    cases d with
    | int j =>
      simp only [intKeys] at hi
      have hk1 : k1 = .inl j := by
        cases k1 with
        | inl i =>
          cases hk
          rfl
        | inr s => cases hk
      subst hk1
      unfold lookI
      by_cases q : j = k
      · subst q
        rw [if_pos rfl, valV_pos rfl]
        exact h
      · rw [if_neg q, valV_neg (fun z => q (Sum.inl.inj z))]
        exact lookI_ok t hi
    | none => simp [intKeys] at hi
    | bool _ => simp [intKeys] at hi
    | str _ => simp [intKeys] at hi
    | list _ => simp [intKeys] at hi
    | tuple _ => simp [intKeys] at hi
    | dict _ => simp [intKeys] at hi
/-- a name's value, as it lies -/
theorem at_var {env : En} {w : Wd} {φ : List Addr} {P : AO} {σ : L2.St} {H : Hp} (R : Rel p env w φ P σ H) {i : Nat} {v : Vl} (h : getV env i = some v) : ∃ x, σ[i]? = some (some x) ∧ RqV p.K H P φ x v := by
  rcases getV_some h with e1 | ⟨xs, e1, rfl⟩
  · have s := R.sl i _ e1
    generalize hg : σ[i]? = o at s
    cases s with
    | val h => exact ⟨_, rfl, RpV.rq R.st.wr.av h⟩
  · have s := R.sl i _ e1
    generalize hg : σ[i]? = o at s
    cases s with
    | own hp hn hb h hz hd => exact ⟨_, rfl, .lst (.inl ⟨h, hn⟩) hz hd⟩
theorem few1 {x : Expr} {q : Pos} (h : noStar x = true) : ((backTo q (starEach [x] X.env)).all (fun x => !x.1) && (backToKw q (keywordEach [] X.env)).all (fun x => x.1.isSome) && decide (([x] : List Expr).length + ([] : List Keyword).length + (if ([] : List Keyword).isEmpty then 0 else 1) < 30)) = true := by
  rw [star_cons h]
  rfl
theorem name_var (a : At c X) {i : Nat} {x : Str} {q : Pos} (h1 : nmOf c i x = true) (h2 : visB c.sc x = true) (h3 : okName x = true) : PE X (.Name x q) (tVar i) := by
  have n := okn h3
  have hv := vis_ok h2
  rw [← a.sc] at hv
  exact pe_var (nm_ok a h1) hv n.d n.cd
theorem rd_get {i : Nat} {x : Str} {q1 q2 q3 : Pos} (o : XOk p c.t X) (at_ : At c X) (h1 : nmOf c i x = true) (h2 : visB c.sc x = true) (h3 : okName x = true) (hb : PE X pe (rdE p b)) (hs : noStar pe = true) (hl : (q2.endLine == q3.line) = true) :
    PE X (.Call (.Attribute (.Name x q1) "get" q2) [pe] [] q3) (rdE p (.get i b)) := by
  have hu := o.un
  refine PEi (pe_dget1 (by omega) (name_var at_ h1 h2 h3) hb ⟨rfl, few1 hs, hl, by rw [star_cons hs]; rfl⟩) fun σ H Q ⟨env, w, φ, P, R, A⟩ => ?_
  simp only [ev] at A
  obtain ⟨v, e1, A1⟩ := A.bind.opt
  obtain ⟨kvs, e2, A2⟩ := (A1.here R.st).bind.opt
  have A3 := A2.here R.st
  obtain ⟨rfl, hi⟩ := dictOf_some e2
  obtain ⟨y, hy, ry⟩ := at_var R e1
  cases ry with
  | of ry =>
    cases ry with
    | @dic a0 ks _ hd hk =>
      refine ⟨_, hy, a0, rfl, .inl ⟨ks, .inl hd⟩, env, w, φ, P, R, A3.bind.imp fun u w1 φ1 P1 H1 E1 W1 A4 z rz => ?_⟩
      obtain ⟨dz, rfl, A5⟩ := A4.bind.data
      obtain ⟨f, e3, A6⟩ := (A5.here W1).opt
      cases dz <;> first | (simp [getDV] at e3; done) | skip
      rename_i k
      simp only [getDV, Option.map_some, Option.some.injEq] at e3
      subst e3
      cases rz
      have hd1 : H1 a0 = some (.dK ks) := E1.kp _ _ hd fun z => by
        obtain ⟨us, q⟩ := R.st.lists _ z
        rw [hd] at q
        cases q
      refine ⟨valV ks (.inl k), DGet.k (k := .inl k) hd1, A6.here W1 _ ?_⟩
      refine lookI_ok (RpK.cr (E1.cr R.st R.st.wr.av fun z h => ?_) _ _ hk) hi
      exact E1.nw z h.1
theorem findIx_some {y : PyData} : ∀ {ds : List PyData} {j : Nat}, findIx y ds = some j → ∃ z, ds[j]? = some z ∧ PyData.eqv z y = true ∧ ∀ (m : Nat) (z' : PyData), m < j → ds[m]? = some z' → PyData.eqv z' y = false
  | [], j, h => by simp [findIx] at h
  | d :: ds, j, h => by
    unfold findIx at h
    split at h
    · rename_i q
      cases h
      exact ⟨d, rfl, q, fun m z' hm _ => absurd hm (Nat.not_lt_zero _)⟩
    · rename_i q
      simp only [Option.map_eq_some_iff] at h
      obtain ⟨k, h1, rfl⟩ := h
      obtain ⟨z, e1, e2, e3⟩ := findIx_some h1
      refine ⟨z, by simpa using e1, e2, fun m z' hm hz => ?_⟩
      cases m with
      | zero =>
        simp only [List.getElem?_cons_zero, Option.some.injEq] at hz
        subst hz
        simpa using q
      | succ m => exact e3 m z' (by omega) (by simpa using hz)
theorem rd_idx {i : Nat} {x : Str} {q1 q2 q3 : Pos} (o : XOk p c.t X) (at_ : At c X) (h1 : nmOf c i x = true) (h2 : visB c.sc x = true) (h3 : okName x = true) (hb : PE X pe (rdE p b)) (hs : noStar pe = true) (hl : (q2.endLine == q3.line) = true) :
    PE X (.Call (.Attribute (.Name x q1) "index" q2) [pe] [] q3) (rdE p (.idx i b)) := by
  have hu := o.un
  refine PEi (pe_bm PySem.F.plainAttrs_list PySem.F.slot_list_index PySem.F.type_list_index (mt_indexD hu) (name_var at_ h1 h2 h3) (pa_cons' hs hb L2.pa_nil) rfl (few1 hs) hl (star_cons hs) rfl) fun σ H Q ⟨env, w, φ, P, R, A⟩ => ?_
  simp only [ev] at A
  obtain ⟨v, e1, A1⟩ := A.bind.opt
  obtain ⟨ds, e2, A2⟩ := (A1.here R.st).bind.opt
  have A3 := A2.here R.st
  obtain ⟨rfl, hi⟩ := listOf_some e2
  obtain ⟨y, hy, ry⟩ := at_var R e1
  have ry : Rq p.K H (· ∈ φ) P y (.list ds) := ry
  obtain ⟨a0, vs, rfl, l1, z1, r1⟩ := ry.list
  rw [o.K]
  refine ⟨_, hy, .inl ⟨rfl, vs, l1.sq⟩, env, w, φ, P, R, A3.bind.imp fun u w1 φ1 P1 H1 E1 W1 A4 z rz => ?_⟩
  obtain ⟨dz, rfl, A5⟩ := A4.bind.data
  obtain ⟨f, e3, A6⟩ := (A5.here W1).opt
  simp only [Option.map_eq_some_iff] at e3
  obtain ⟨dv, e3, rfl⟩ := e3
  unfold idxV at e3
  split at e3
  · rename_i sy
    simp only [Option.map_eq_some_iff] at e3
    obtain ⟨j, e3, rfl⟩ := e3
    obtain ⟨z0, g1, g2, g3⟩ := findIx_some e3
    have cl : LsA p.K H1 (· ∈ φ1) a0 vs := (E1.cr (S := (· ∈ φ)) (S' := (· ∈ φ1)) R.st (fun _ h => h) E1.nf).lsA l1
    have cr : RpL p.K H1 P1 vs ds := RpL.cr (E1.cr R.st R.st.wr.av E1.nw) _ _ r1
    have hc : PyData.canLayAll0 ds = true := by
      have := SeqAt.canLay_of_shaped hi
      simpa [PyData.canLay0] using this
    exact ⟨a0, z, dz, ds, j, z0, rfl, rfl, .lst cl.sq (RpL.dp _ _ cr hc), Rp.dp _ _ rz (SeqAt.canLay_of_shaped sy), hi, sy, g1, g2, g3, A6.here W1 _ (.int _)⟩
  · cases e3
theorem rd_dsp {i j : Nat} {x y : Str} {q1 q2 : Pos} (at_ : At c X) (h1 : nmOf c i x = true) (h2 : visB c.sc x = true) (h3 : okName x = true) (g1 : nmOf c j y = true) (g2 : visB c.sc y = true) (g3 : okName y = true) :
    PE X (.Dict [some (.Name x q1)] [.Name y q2] pos) (rdE p (.dsp i j)) := by
  refine PEi (pe_disp (pps_cons (name_var at_ h1 h2 h3) (name_var at_ g1 g2 g3) pps_nil) rfl rfl (by simp) (by simp)) fun σ H Q ⟨env, w, φ, P, R, A⟩ => ?_
  simp only [ev] at A
  split at A
  · rename_i dx dy e1 e2
    obtain ⟨f, e3, A1⟩ := A.opt
    simp only [Option.map_eq_some_iff] at e3
    obtain ⟨dz, e3, rfl⟩ := e3
    cases dx <;> first | (simp [dspV] at e3; done) | skip
    rename_i k
    simp only [dspV, Option.some.injEq] at e3
    subst e3
    have s1 := R.sl i _ e1
    have s2 := R.sl j _ e2
    generalize hg1 : σ[i]? = o1 at s1
    generalize hg2 : σ[j]? = o2 at s2
    cases s1 with
    | val r1 =>
      cases s2 with
      | @val yv _ r2 =>
        cases r1
        intro d hd
        refine ⟨_, hg1, _, hg2, upd_same, [(.inl k, yv)], rfl, by simp, ?_⟩
        have e4 : mergeK [] [((.inl k : Key), yv)] = [(.inl k, yv)] := by simp [mergeK, L2.putK]
        rw [e4, upd_upd]
        have k1 : Kp H (upd H d (.dK [(.inl k, yv)])) := Kp.upd hd
        exact A1 _ _ _ (Ev.of_kp k1) (R.st.kp k1) _ (.dic upd_same (.cons (.int k) (Rp.cr (Cr.trans (Cr.kp k1 fun _ h => .inl h) (Cr.weak Av.le)) _ _ r2) .nil))
  · exact A.elim
theorem noDup_at : ∀ {ns : List Int}, noDup ns = true → ns.Nodup
  | [], _ => List.nodup_nil
  | x :: r, h => by
    simp only [noDup, Bool.and_eq_true, Bool.not_eq_true', List.contains_eq_mem, decide_eq_false_iff_not] at h
    exact List.nodup_cons.mpr ⟨h.1, noDup_at h.2⟩
theorem putK_new {kvs : List (Key × V)} {k : Key} {v : V} (h : ∀ p ∈ kvs, p.1 ≠ k) : L2.putK kvs k v = kvs ++ [(k, v)] := by
  unfold L2.putK
  rw [if_neg]
  intro q
  obtain ⟨p, hp, e⟩ := List.any_eq_true.mp q
  exact h p hp (of_decide_eq_true e)
theorem own_one {N : List Str} {i : Nat} {own : List (Str × Nat)} (h : ownOf N [i] = some own) : own.map (·.2) = [i] := by
  simp only [ownOf] at h
  cases q : N[i]? with
  | none => rw [q] at h; cases h
  | some x =>
    rw [q] at h
    cases h
    rfl
theorem rd_dcv {i v : Nat} {kx vx : Str} {q1 q2 : Pos} {tg' : Expr} {scope : Scope} {own : List (Str × Nat)} (o : XOk p c.t X) (at_ : At c X) (how : ownOf c.N [i] = some own) (hb : blkC c.N c.sc scope own = true) (hne : i ≠ v) (ha : PE X pe (rdE p a)) (hg : mTg (blkCt c scope) (.nm i) tg' = true)
    (h1 : nmOf c i kx = true) (h2 : visB (blkCt c scope).sc kx = true) (h3 : okName kx = true) (g1 : nmOf c v vx = true) (g2 : visB (blkCt c scope).sc vx = true) (g3 : okName vx = true) (hf : ∀ x, foldedSetIterable pe X.env x = pure x) :
    PE X (.DictComp (.Name kx q1) (.Name vx q2) [⟨tg', pe, [], 0⟩] scope pos) (rdE p (.dcv i a v)) := by
  have ok : BlkOk X.N X.env.scope scope own := by
    rw [at_.N, at_.sc]
    exact blkOk_by hb
  have hv := own_one how
  refine PEi (pe_dc o.calm o.nd (pi_seq (tg := tg') ha) ok (fun s H C cl fp => by
      have r := pg_of (at_blk at_ s H scope cl C fp) o.calm o.nd hg
      exact r) (fun s H C cl fp => pts_nil) (fun s H C cl fp => name_var (at_blk at_ s H scope cl C fp) h1 h2 h3) (fun s H C cl fp => name_var (at_blk at_ s H scope cl C fp) g1 g2 g3) hf) fun σ H Q ⟨env, w, φ, P, R, A⟩ => ?_
  rw [hv]
  simp only [ev] at A
  refine ⟨env, w, φ, P, R, A.bind.imp fun u w1 φ1 P1 H1 E1 W1 A1 z rz => ?_⟩
  obtain ⟨dz, rfl, A2⟩ := A1.bind.data
  have A3 := A2.here W1
  have R1 := R.ev E1 W1
  split at A3
  · rename_i dy e1
    by_cases hcc : (decide (i ≠ v) && decide (i < env.length)) = true
    case neg =>
      rw [if_neg hcc] at A3
      exact A3.elim
    rw [if_pos hcc] at A3
    simp only [Bool.and_eq_true, decide_eq_true_eq] at hcc
    have li : i < σ.length := by
      rw [← R.len]
      exact hcc.2
    obtain ⟨f, e3, A4⟩ := A3.opt
    simp only [Option.map_eq_some_iff] at e3
    obtain ⟨dr, e3, rfl⟩ := e3
    cases dz <;> first | (simp [dcvV] at e3; done) | skip
    rename_i xs
    simp only [dcvV, Option.bind_eq_some_iff] at e3
    obtain ⟨ns, e4, e5⟩ := e3
    obtain ⟨hc, rfl⟩ := if_some e5
    simp only [Bool.and_eq_true, decide_eq_true_eq] at hc
    have nd := noDup_at hc.1
    cases rz with
    | @tup ad vs _ ht hz hd =>
      have hvs := RpL.ints _ _ _ hd e4
      have s1 := R1.sl v _ e1
      generalize hg1 : σ[v]? = o1 at s1
      cases s1 with
      | @val yv _ ry =>
        have lv : v < σ.length := lt_of_get hg1
        rw [← o.K] at ht
        refine ⟨.t, ad, vs, rfl, ht, fun D hD => ?_⟩
        have k1 : ∀ kvs, Kp H1 (upd H1 D (.dK kvs)) := fun kvs => Kp.upd hD
        refine dc_tup (K := X.K) (a := ad) (xs := vs) (g := gName i) (tt := tYes) (tk := tVar i) (tv := tVar v) (vs := [i]) (σ := σ) (Qd := fun H => Q (.ref D) H) (fun j H2 => H2 = upd H1 D (.dK ((ns.take j).map fun n => ((.inl n : Key), yv)))) rfl (fun j H2 _ e => ?_) (fun j x H2 hx e => ?_) (fun H2 e => ?_)
        · subst e
          rcases ht with (ht | ⟨o', ht⟩) | ht
          · exact .inl (.inl (k1 _ _ _ ht))
          · exact .inl (.inr ⟨o', k1 _ _ _ ht⟩)
          · exact .inr ht
        · subst e
          rw [hvs, List.getElem?_map, Option.map_eq_some_iff] at hx
          obtain ⟨n, hn, rfl⟩ := hx
          have hl : (wipe σ [i]).length = σ.length := wipe_length σ [i]
          refine ⟨by simp [wipe, List.set_set], ?_⟩
          simp only [tYes, if_true]
          refine ⟨.int n, getElem?_set_eq (by rw [hl]; exact li), yv, ?_, _, .inl n, rfl, upd_same, ?_, ?_⟩
          · rw [getElem?_set_other hne, wipe_get _ _ (by simpa using Ne.symm hne), hg1]
          · have : ((ns.take j).map fun n => ((.inl n : Key), yv)).length ≤ ns.length := by
              rw [List.length_map, List.length_take]
              omega
            have := sizeLine_eq
            omega
          · rw [upd_upd, putK_new]
            · have e6 : ns.take (j + 1) = ns.take j ++ [n] := by
                rw [List.take_add_one, hn]
                rfl
              rw [e6, List.map_append]
              rfl
            · intro p hp z
              obtain ⟨m, hm, rfl⟩ := List.mem_map.mp hp
              have z : m = n := Sum.inl.inj z
              subst z
              obtain ⟨k, hk, e7⟩ := List.mem_iff_getElem.mp hm
              rw [List.getElem_take] at e7
              obtain ⟨hj, e8⟩ := List.getElem?_eq_some_iff.mp hn
              rw [List.length_take] at hk
              have : k = j := (List.getElem_inj nd).mp (e7.trans e8.symm)
              omega
        · subst e
          have e6 : ns.take vs.length = ns := by rw [hvs, List.length_map, List.take_length]
          rw [e6]
          have kk := k1 (ns.map fun n => ((.inl n : Key), yv))
          refine A4 _ _ _ (Ev.of_kp kk) (W1.kp kk) _ (.dic upd_same ?_)
          have cy : Rp p.K (upd H1 D (.dK (ns.map fun n => ((.inl n : Key), yv)))) (Av P1 env σ (esc (.dcv i a v))) yv dy := Rp.cr (Cr.trans (Cr.kp kk fun _ h => .inl h) (Cr.weak Av.le)) _ _ ry
          have all : ∀ l : List Int, RpK p.K (upd H1 D (.dK (ns.map fun n => ((.inl n : Key), yv)))) (Av P1 env σ (esc (.dcv i a v))) (l.map fun n => ((.inl n : Key), yv)) (l.map fun n => (PyData.int n, dy)) := fun l => by
            induction l with
            | nil => exact .nil
            | cons m r ih => exact .cons (.int m) cy ih
          exact all ns
  · exact A3.elim
end
end R
end
section
/-! All expressions. -/
namespace R
open PySem L2
open PySem.Spec PyProof.Rows
/-- a list of its own, new -/
def fresh : E → Bool
  | .lst _ => true
  | .rep _ _ => true
  | .rngV tup _ => !tup
  | .bi .list (.cons _ .nil) => true
  | .lc .. => true
  | .lc2 .. => true
  | _ => false
def isLc : E → Bool
  | .lc .. => true
  | .lc2 .. => true
  | _ => false
theorem lc_fresh {e : E} (h : isLc e = true) : fresh e = true := by
  cases e <;> first | rfl | cases h
structure SE (p : Par) (X : Cx) (pe : Expr) (e : E) : Prop where
  E : PE X pe (rdE p e)
  Q : PE X pe (rdQ p e)
  T : PT X pe (rdT p e)
  U : ∀ M, okU M e = true → PE X pe (rdU p M e)
  F : fresh e = true → PE X pe (rdF p e)
  L : isLc e = true → ∀ (y : Str) (py spos : Pos) (i : Nat), X.N[i]? = some y → X.env.scope.names.lookup y = some .local → swapsWith pe (some (.Name y py)) spos.line X.env = pure true → PS X (.Assign [.Name y py] pe spos) (tAsg (rdF p e) (gName i))
section
variable {p : Par} {c : Ct} {X : Cx} {pe : Expr} {e : E}
theorem se_val (h : PE X pe (rdE p e)) (ht : ∀ whole, isTrue pe X.env whole = (do let v ← whole; standAt pe.pos; holding [v] (truthy v))) (hv : ∀ i, e ≠ .var i) (hf : fresh e = false) : SE p X pe e :=
  ⟨h, rq_of h hv, rdT_val h ht, fun M ok => rd_u h ok hv, fun q => (by rw [hf] at q; cases q), fun q => (by rw [lc_fresh q] at hf; cases hf)⟩
theorem se_tst (h : PE X pe (rdE p e)) (t : PT X pe (rdT p e)) (hv : ∀ i, e ≠ .var i) (hf : fresh e = false) : SE p X pe e :=
  ⟨h, rq_of h hv, t, fun M ok => rd_u h ok hv, fun q => (by rw [hf] at q; cases q), fun q => (by rw [lc_fresh q] at hf; cases hf)⟩
theorem se_new (h : PE X pe (rdF p e)) (hl : ∀ env w v w', ev p.G p.F p.np env e w = .ok v w' → ∃ ds, v = .d (.list ds)) (ht : ∀ whole, isTrue pe X.env whole = (do let v ← whole; standAt pe.pos; holding [v] (truthy v))) (hv : ∀ i, e ≠ .var i) (hc : isLc e = false) : SE p X pe e :=
  ⟨rdE_of_rdF h hl, rq_of (rdE_of_rdF h hl) hv, rdT_val (rdE_of_rdF h hl) ht, fun M ok => rd_u (rdE_of_rdF h hl) ok hv, fun _ => h, fun q => (by rw [hc] at q; cases q)⟩
theorem se_lc (h : PE X pe (rdF p e)) (hl : ∀ env w v w', ev p.G p.F p.np env e w = .ok v w' → ∃ ds, v = .d (.list ds)) (ht : ∀ whole, isTrue pe X.env whole = (do let v ← whole; standAt pe.pos; holding [v] (truthy v))) (hv : ∀ i, e ≠ .var i)
    (L : ∀ (y : Str) (py spos : Pos) (i : Nat), X.N[i]? = some y → X.env.scope.names.lookup y = some .local → swapsWith pe (some (.Name y py)) spos.line X.env = pure true → PS X (.Assign [.Name y py] pe spos) (tAsg (rdF p e) (gName i))) : SE p X pe e :=
  ⟨rdE_of_rdF h hl, rq_of (rdE_of_rdF h hl) hv, rdT_val (rdE_of_rdF h hl) ht, fun M ok => rd_u (rdE_of_rdF h hl) ok hv, fun _ => h, fun _ => L⟩
theorem fold_of {c : Ct} {it : R.It} {tup : Bool} {x : Expr} (h : mI c it tup x = true) (env : Env) (v : Value) : foldedSetIterable x env v = pure v := by
  by_cases hz : ∃ a b, it = .ezp a b
  · obtain ⟨a, b, rfl⟩ := hz
    simp only [mI] at h
    cases q : ezParts x with
    | none =>
      rw [q] at h
      cases h
    | some r =>
      obtain ⟨p1, p2, p3, p4, rfl⟩ := ezParts_some q
      rfl
  · cases it <;> first
      | (exfalso; exact hz ⟨_, _, rfl⟩)
      | (simp only [mI] at h; exact m_fold h env v)
      | (cases x <;> first | rfl | (simp [mI] at h; done))
theorem tgTup {tg : Tg} {x : Expr} (h : mTg c tg x = true) (ht : isTup tg = true) : ∃ els n q, x = .Tuple els n q := by
  cases tg with
  | nm i => cases ht
  | tup ts =>
    cases x <;> first | (simp [mTg] at h; done) | exact ⟨_, _, _, rfl⟩
theorem okI_nil (it : R.It) : okI [] it = true := by cases it <;> simp [okI, okU]
theorem fr_at (o : XOk p c.t X) (a : At c X) {x : Str} (h : frB c x = true) : Gl X x ∧ X.mg x = none := ⟨(fr_ok o a h).1, (fr_ok o a h).2.1⟩
end
section
variable {p : Par} {X : Cx}
theorem pt_ifE {t x y : Expr} {q : Pos} {d a b : E} (ht : PT X t (rdT p d)) (ha : PT X x (rdT p a)) (hb : PT X y (rdT p b)) : PT X (.IfExp t x y q) (rdT p (.ite d a b)) := by
  refine ⟨fun pins s σ H Q I ⟨env, w, φ, P, R, A⟩ => ?_⟩
  show wpAny _ _ (isTrue t X.env (eval t X.env) >>= fun d => if d = true then isTrue x X.env (eval x X.env) else isTrue y X.env (eval y X.env)) _ _ s
  simp only [ev] at A
  rw [show ((ev p.G p.F p.np env d w).bind fun v w => (boolOf v w).bind fun t w => if t = true then ev p.G p.F p.np env a w else ev p.G p.F p.np env b w).bind boolOf = ((ev p.G p.F p.np env d w).bind boolOf).bind fun t w => (if t = true then ev p.G p.F p.np env a w else ev p.G p.F p.np env b w).bind boolOf by simp only [bind_assoc']] at A
  refine wpAny_bind (thn (ht.run pins s σ H (fun t H1 => ∃ w1 φ1 P1, Rel p env w1 φ1 P1 σ H1 ∧ Ans p ((if t = true then ev p.G p.F p.np env a w1 else ev p.G p.F p.np env b w1).bind boolOf) φ1 P1 H1 fun b _ _ _ H' => Q b H') I ⟨env, w, φ, P, R, A.bind.imp fun t w1 φ1 P1 H1 E1 W1 A1 => ⟨w1, φ1, P1, R.ev E1 W1, A1⟩⟩) fun c s1 ⟨H1, I1, w1, φ1, P1, R1, A1⟩ => ?_)
  cases c with
  | true => exact ha.run pins s1 σ H1 Q I1 ⟨env, w1, φ1, P1, R1, A1⟩
  | false => exact hb.run pins s1 σ H1 Q I1 ⟨env, w1, φ1, P1, R1, A1⟩
end
mutual
theorem sE : ∀ (e : E) {p : Par} {c : Ct} {X : Cx} {pe : Expr}, XOk p c.t X → At c X → mE c e pe = true → SE p X pe e
  | .var i, p, c, X, pe, o, a, h => by
    cases pe <;> first | (simp [mE] at h; done) | skip
    simp only [mE, Bool.and_eq_true] at h
    have n := okn h.2
    have hv := vis_ok h.1.2
    rw [← a.sc] at hv
    obtain ⟨v1, v2⟩ := rd_var (p := p) (nm_ok a h.1.1) hv n
    exact ⟨v1, v2, rdT_val v1 (by intro whole; rfl), fun M ok => rd_varU (nm_ok a h.1.1) hv n ok, fun q => by simp [fresh] at q, fun q => by simp [isLc] at q⟩
  | .cst d, p, c, X, pe, o, a, h => by
    cases pe <;> first | (simp [mE] at h; done) | skip
    simp only [mE] at h
    exact se_val (rd_cst h) (by intro whole; rfl) (by simp) rfl
  | .glob g, p, c, X, pe, o, a, h => by
    cases pe <;> first | (simp [mE] at h; done) | skip
    simp only [mE, Bool.and_eq_true, decide_eq_true_eq] at h
    exact se_val (rd_glob o h.1.1 (gl_ok a h.1.2) (okn h.2)) (by intro whole; rfl) (by simp) rfl
  | .tup es, p, c, X, pe, o, a, h => by
    cases pe <;> first | (simp [mE] at h; done) | skip
    simp only [mE, Bool.and_eq_true, decide_eq_true_eq] at h
    exact se_val (rd_tup (sEs es o a h.1).1 h.1 h.2) (by intro whole; rfl) (by simp) rfl
  | .lst es, p, c, X, pe, o, a, h => by
    cases pe <;> first | (simp [mE] at h; done) | skip
    simp only [mE, Bool.and_eq_true, decide_eq_true_eq] at h
    refine se_new (rd_lst (sEs es o a h.1).1 h.1 h.2) (fun env w v w' q => ?_) (by intro whole; rfl) (by simp) rfl
    simp only [ev] at q
    obtain ⟨us, w1, _, q⟩ := Res.bind_ok q
    cases hd : datas us with
    | none => rw [hd] at q; cases q
    | some ds => rw [hd] at q; cases q; exact ⟨_, rfl⟩
  | .new es, p, c, X, pe, o, a, h => by
    cases pe <;> first | (simp [mE] at h; done) | skip
    simp only [mE, Bool.and_eq_true, decide_eq_true_eq] at h
    exact se_val (rd_new (sEs es o a h.1).1 h.1 h.2) (by intro whole; rfl) (by simp) rfl
  | .rep es k, p, c, X, pe, o, a, h => by
    cases pe <;> first | (simp [mE] at h; done) | skip
    rename_i l op r q
    cases l <;> first | (simp [mE] at h; done) | skip
    cases op <;> first | (simp [mE] at h; done) | skip
    simp only [mE, Bool.and_eq_true, decide_eq_true_eq] at h
    refine se_new (rd_rep (sEs es o a h.1.1).1 (sE k o a h.1.2).E h.1.1 h.2) (fun env w v w' q => ?_) (by intro whole; rfl) (by simp) rfl
    simp only [ev] at q
    obtain ⟨us, w1, _, q⟩ := Res.bind_ok q
    obtain ⟨u, w2, _, q⟩ := Res.bind_ok q
    split at q
    · split at q
      · cases q; exact ⟨_, rfl⟩
      · cases q
    · cases q
  | .neg x, p, c, X, pe, o, a, h => by
    cases pe <;> first | (simp [mE] at h; done) | skip
    rename_i op r q
    cases op <;> first | (simp [mE] at h; done) | skip
    simp only [mE] at h
    exact se_val (rd_neg (sE x o a h).E) (by intro whole; rfl) (by simp) rfl
  | .no x, p, c, X, pe, o, a, h => by
    cases pe <;> first | (simp [mE] at h; done) | skip
    rename_i op r q
    cases op <;> first | (simp [mE] at h; done) | skip
    simp only [mE] at h
    have s := sE x o a h
    obtain ⟨h1, h2⟩ := rd_no (pos := q) s.E s.T
    exact se_tst h1 h2 (by simp) rfl
  | .bools conj es, p, c, X, pe, o, a, h => by
    cases pe <;> first | (simp [mE] at h; done) | skip
    simp only [mE, Bool.and_eq_true, decide_eq_true_eq, Bool.not_eq_true', List.isEmpty_eq_false_iff] at h
    obtain ⟨⟨rfl, h1⟩, h2⟩ := h
    obtain ⟨h3, h4⟩ := rd_bools ((sEs es o a h1).2.2 conj h2)
    exact se_tst h3 h4 (by simp) rfl
  | .op2 op x y, p, c, X, pe, o, a, h => by
    cases pe <;> first | (simp [mE] at h; done) | skip
    · simp only [mE, Bool.and_eq_true, decide_eq_true_eq] at h
      exact se_val (rd_bin h.1.1 o.K (sE x o a h.1.2).Q (sE y o a h.2).Q) (by intro whole; rfl) (by simp) rfl
    · rename_i l ops rs q
      match ops, rs, h with
      | [op'], [r], h =>
        simp only [mE, Bool.and_eq_true, binCmp, decide_eq_true_eq] at h
        obtain ⟨h1, h2⟩ := rd_cmp (pos := q) h.1.1 o.un o.K (sE x o a h.1.2).Q (sE y o a h.2).Q fun op => m_mark h.2
        exact se_tst h1 h2 (by simp) rfl
      | [], _, h => simp [mE] at h
      | [_], [], h => simp [mE] at h
      | [_], _ :: _ :: _, h => simp [mE] at h
      | _ :: _ :: _, _, h => simp [mE] at h
  | .chain o1 o2 x y z, p, c, X, pe, o, a, h => by
    cases pe <;> first | (simp [mE] at h; done) | skip
    rename_i l ops rs q
    match ops, rs, h with
    | [op', op2], [r, r2], h =>
      simp only [mE, Bool.and_eq_true, binCmp, decide_eq_true_eq] at h
      obtain ⟨⟨⟨⟨h1, h2⟩, h3⟩, h4⟩, h5⟩ := h
      obtain ⟨g1, g2⟩ := rd_chain (pos := q) h1 h2 o.un o.K (sE x o a h3).Q (sE y o a h4).Q (sE z o a h5).Q fun op => m_mark h5
      exact se_tst g1 g2 (by simp) rfl
    | [], _, h => simp [mE] at h
    | [_], _, h => simp [mE] at h
    | [_, _], [], h => simp [mE] at h
    | [_, _], [_], h => simp [mE] at h
    | [_, _], _ :: _ :: _ :: _, h => simp [mE] at h
    | _ :: _ :: _ :: _, _, h => simp [mE] at h
  | .isN tr x, p, c, X, pe, o, a, h => by
    cases pe <;> first | (simp [mE] at h; done) | skip
    rename_i l ops rs q
    match ops, rs, h with
    | [op'], [r], h =>
      cases r <;> first | (simp [mE] at h; done) | skip
      rename_i k j q2
      cases k <;> first | (simp [mE] at h; done) | skip
      simp only [mE, Bool.and_eq_true, decide_eq_true_eq] at h
      obtain ⟨rfl, h2⟩ := h
      obtain ⟨g1, g2⟩ := rd_isN (pos := q) (q := q2) (j := j) (tr := tr) (sE x o a h2).E
      exact se_tst g1 g2 (by simp) rfl
    | [], _, h => simp [mE] at h
    | [_], [], h => simp [mE] at h
    | [_], _ :: _ :: _, h => simp [mE] at h
    | _ :: _ :: _, _, h => simp [mE] at h
  | .ite d x y, p, c, X, pe, o, a, h => by
    cases pe <;> first | (simp [mE] at h; done) | skip
    simp only [mE, Bool.and_eq_true] at h
    have s1 := sE d o a h.1.1
    have s2 := sE x o a h.1.2
    have s3 := sE y o a h.2
    exact se_tst (rd_ite s1.T s2.E s3.E) (pt_ifE s1.T s2.T s3.T) (by simp) rfl
  | .ix x y, p, c, X, pe, o, a, h => by
    cases pe <;> first | (simp [mE] at h; done) | skip
    simp only [mE, Bool.and_eq_true] at h
    exact se_val (rd_ix o.K (sE x o a h.1).Q (sE y o a h.2).Q (m_plain h.2)) (by intro whole; rfl) (by simp) rfl
  | .sl x lo hi, p, c, X, pe, o, a, h => by
    cases pe <;> first | (simp [mE] at h; done) | skip
    rename_i l s q
    cases s <;> first | (simp [mE] at h; done) | skip
    rename_i l1 u st q2
    cases st <;> first | (simp [mE] at h; done) | skip
    simp only [mE, Bool.and_eq_true] at h
    exact se_val (rd_sl o.K (sE x o a h.1.1).Q (sEo lo o a h.1.2) (sEo hi o a h.2)) (by intro whole; rfl) (by simp) rfl
  | .bi f es, p, c, X, pe, o, a, h => by
    cases pe <;> first | (simp [mE] at h; done) | skip
    rename_i fn l kws q
    cases fn <;> first | (simp [mE] at h; done) | skip
    cases kws <;> first | (simp [mE] at h; done) | skip
    rename_i x qx
    simp only [mE, Bool.and_eq_true, Bool.or_eq_true, decide_eq_true_eq, Bool.not_eq_true', List.isEmpty_eq_false_iff] at h
    obtain ⟨⟨h1, h2⟩, h3⟩ := h
    have t := sEs es o a h2
    cases l with
    | nil => exact absurd rfl h3
    | cons x1 l =>
      have base : PE X (.Call (.Name x qx) (x1 :: l) [] q) (rdE p (.bi f es)) := by
        rcases h1 with ⟨h1, h4⟩ | ⟨⟨⟨h1, h6⟩, h4⟩, h5⟩
        · obtain ⟨g1, g2, g3⟩ := fr_ok o a h4
          exact rd_bi o t.2.1 (ms_star h2) g1 g3 (.inl ⟨h1, g2⟩)
        · exact rd_bi o t.2.1 (ms_star h2) (gl_ok a h4) (okn h5) (.inr ((o.bf x f h1).resolve_left fun q => h6 q.1))
      refine ⟨base, rq_of base (by simp), rdT_val base (by intro whole; rfl), fun M ok => rd_u base ok (by simp), fun hf => ?_, fun q => by simp [isLc] at q⟩
      cases f <;> first | (simp [fresh] at hf; done) | skip
      match es, l, h2, hf, t with
      | .cons e1 .nil, [], h2, hf, t =>
        simp only [mEs, Bool.and_true] at h2
        rcases h1 with ⟨h1, h4⟩ | ⟨⟨⟨h1, h6⟩, h4⟩, h5⟩
        · obtain ⟨g1, g2, g3⟩ := fr_ok o a h4
          obtain rfl := Option.some.inj h1
          exact rd_biL o (sE e1 o a h2).Q (m_star h2) g1 g2
        · obtain ⟨id, q1, q2⟩ := (o.bf x .list h1).resolve_left fun q => h6 q.1
          simp [biOf] at q1
      | .nil, _, h2, hf, t => simp [fresh] at hf
      | .cons _ (.cons _ _), _, h2, hf, t => simp [fresh] at hf
      | .cons _ .nil, _ :: _, h2, hf, t => simp [mEs] at h2
  | .isi ty x, p, c, X, pe, o, a, h => by
    cases pe <;> first | (simp [mE] at h; done) | skip
    rename_i fn l kws q
    cases fn <;> first | (simp [mE] at h; done) | skip
    rename_i xn qx
    match l, kws, h with
    | [y, z], [], h =>
      cases z <;> first | (simp [mE] at h; done) | skip
      simp only [mE, Bool.and_eq_true, decide_eq_true_eq] at h
      obtain ⟨⟨⟨⟨rfl, h1⟩, rfl⟩, h2⟩, h3⟩ := h
      obtain ⟨g1, m1, _⟩ := fr_ok o a h1
      obtain ⟨g2, m2, n2⟩ := fr_ok o a h2
      exact se_val (rd_isi o (sE x o a h3).Q (m_star h3) g1 m1 g2 m2 n2) (by intro whole; rfl) (by simp) rfl
    | [], _, h => simp [mE] at h
    | [_], _, h => simp [mE] at h
    | [_, z], _ :: _, h => cases z <;> simp [mE] at h
    | _ :: _ :: _ :: _, _, h => simp [mE] at h
  | .rev x, p, c, X, pe, o, a, h => by
    cases pe <;> first | (simp [mE] at h; done) | skip
    unfold mE at h
    split at h <;> first | cases h | skip
    all_goals first | contradiction | skip
    rename_i e1 e2
    cases e1
    cases e2
    exact se_val (rd_rev o.K (sE _ o a h).Q) (by intro whole; rfl) (by simp) rfl
  | .star x es, p, c, X, pe, o, a, h => by
    cases pe <;> first | (simp [mE] at h; done) | skip
    rename_i l k q
    match l, h with
    | [], h => simp [mE] at h
    | y :: l2, h =>
      cases y <;> first | (simp [mE] at h; done) | skip
      simp only [mE, Bool.and_eq_true, decide_eq_true_eq] at h
      exact se_val (rd_star o.K (sE x o a h.1.1).Q (sEs es o a h.1.2).1 h.1.2 h.2 rfl) (by intro whole; rfl) (by simp) rfl
  | .rngV tup x, p, c, X, pe, o, a, h => by
    cases pe <;> first | (simp [mE] at h; done) | skip
    rename_i fn l kws q
    cases fn <;> first | (simp [mE] at h; done) | skip
    rename_i xn qx
    match l, kws, h with
    | [y], [], h =>
      cases y <;> first | (simp [mE] at h; done) | skip
      rename_i f2 l2 k2 q2
      cases f2 <;> first | (simp [mE] at h; done) | skip
      match l2, k2, h with
      | [y], [], h =>
        simp only [mE, Bool.and_eq_true, decide_eq_true_eq] at h
        obtain ⟨⟨⟨⟨rfl, h1⟩, rfl⟩, h2⟩, h3⟩ := h
        obtain ⟨g1, m1, _⟩ := fr_ok o a h1
        obtain ⟨g2, m2, _⟩ := fr_ok o a h2
        cases tup with
        | true => exact se_val (rd_rngT o (sE x o a h3).E (m_star h3) g1 m1 g2 m2) (by intro whole; rfl) (by simp) rfl
        | false =>
          refine se_new (rd_rngL o (sE x o a h3).E (m_star h3) g1 m1 g2 m2) (fun env w v w' q => ?_) (by intro whole; rfl) (by simp) rfl
          simp only [ev] at q
          obtain ⟨u, w1, _, q⟩ := Res.bind_ok q
          obtain ⟨d, w2, _, q⟩ := Res.bind_ok q
          cases d <;> first | (cases q; done) | skip
          simp only at q
          split at q
          · cases q; exact ⟨_, rfl⟩
          · cases q
      | [], _, h => simp [mE] at h
      | [_], _ :: _, h => simp [mE] at h
      | _ :: _ :: _, _, h => simp [mE] at h
    | [], _, h => simp [mE] at h
    | [y], _ :: _, h => simp [mE] at h
    | _ :: _ :: _, _, h => simp [mE] at h
  | .call f es, p, c, X, pe, o, a, h => by
    cases pe <;> first | (simp [mE] at h; done) | skip
    rename_i fn l kws q
    cases fn <;> first | (simp [mE] at h; done) | skip
    cases kws <;> first | (simp [mE] at h; done) | skip
    simp only [mE, Bool.and_eq_true, decide_eq_true_eq, Option.map_eq_some_iff] at h
    obtain ⟨⟨⟨⟨⟨nm, ps⟩, hf, rfl⟩, h1⟩, h2⟩, h3⟩ := h
    have t := sEs es o a h3
    cases l with
    | nil =>
      cases es with
      | nil => exact se_val (rd_call0 o hf (gl_ok a h1) (okn h2)) (by intro whole; rfl) (by simp) rfl
      | cons _ _ => simp [mEs] at h3
    | cons y l => exact se_val (rd_call o hf (gl_ok a h1) (okn h2) t.1 (ms_star h3)) (by intro whole; rfl) (by simp) rfl
  | .callK f es ks ws, p, c, X, pe, o, a, h => by
    cases pe <;> first | (simp [mE] at h; done) | skip
    rename_i fn l kws q
    cases fn <;> first | (simp [mE] at h; done) | skip
    simp only [mE, Bool.and_eq_true, decide_eq_true_eq, Option.map_eq_some_iff] at h
    obtain ⟨⟨⟨⟨⟨⟨⟨⟨⟨⟨nm, ps⟩, hf, rfl⟩, h1⟩, h2⟩, h3⟩, h4⟩, h5⟩, h6⟩, h7⟩, h8⟩ := h
    have t := sEs es o a h3
    have u := sKs ws o a h4
    refine se_val (rd_callK o hf (gl_ok a h1) (okn h2) h5 t.1 (ms_star h3) h3 rfl u.1 u.2 h7 ?_ h8) (by intro whole; rfl) (by simp) rfl
    rw [hf] at h6
    have e : kws.map (·.arg) = ks.map fun k => ps[k]? := by simpa using h6
    have e2 : (kws.map (·.arg)).filterMap id = (ks.map fun k => ps[k]?).filterMap id := by rw [e]
    simpa only [List.filterMap_map, Function.comp_def, id] using e2
  | .lc vs elt tg it cs, p, c, X, pe, o, a, h => by
    cases pe <;> first | (simp [mE] at h; done) | skip
    rename_i el gs scope q
    match gs, h with
    | [⟨tg', it', ifs, aw⟩], h =>
      simp only [mE, Bool.and_eq_true, decide_eq_true_eq] at h
      obtain ⟨⟨⟨⟨⟨⟨⟨hb, rfl⟩, hx⟩, hi⟩, hg⟩, hcs⟩, hl⟩, he⟩ := h
      cases how : ownOf c.N vs with
      | none => rw [how] at hb; cases hb
      | some own =>
        rw [how] at hb
        obtain ⟨F, FL⟩ := (rd_lc (pos := q) (cs := cs) (ifs := ifs) o a how hb (sI it (M := []) o a hi (okI_nil it) fun ht => tgTup hg ht) hx (fun x => fold_of hi _ _) (fun s H C cl fp => by
          have r := pg_of (at_blk a s H scope cl C fp) o.calm o.nd hg
          rw [show (X.blk s H scope (compEnvC scope cl C X.env) fp).K = p.K from o.K] at r
          exact r) (fun s H C cl fp => by
          match cs, ifs, hcs, hl with
          | .nil, [], _, _ => exact pts_nil'
          | .cons e .nil, [x], hcs, _ =>
            simp only [mEs, Bool.and_true] at hcs
            exact pts_one' (sE e (c := blkCt c scope) (xok_blk o s H scope (compEnvC scope cl C X.env) fp) (at_blk a s H scope cl C fp) hcs).T
          | .nil, _ :: _, hcs, _ => simp [mEs] at hcs
          | .cons _ _, [], hcs, _ => simp [mEs] at hcs
          | .cons _ (.cons _ _), [_], hcs, _ => simp [mEs] at hcs
          | _, _ :: _ :: _, _, hl => simp at hl) (fun s H C cl fp => (sE elt (c := blkCt c scope) (xok_blk o s H scope (compEnvC scope cl C X.env) fp) (at_blk a s H scope cl C fp) he).E))
        refine se_lc F (fun env w v w' q => ?_) (by intro whole; rfl) (by simp) FL
        simp only [ev] at q
        obtain ⟨us, w1, _, q⟩ := Res.bind_ok q
        obtain ⟨ys, w2, _, q⟩ := Res.bind_ok q
        cases q
        exact ⟨_, rfl⟩
    | [], h => simp [mE] at h
    | _ :: _ :: _, h => simp [mE] at h
  | .lc2 vs vs1 elt tg it tg1 it1, p, c, X, pe, o, a, h => by
    cases pe <;> first | (simp [mE] at h; done) | skip
    rename_i el gs scope q
    match gs, h with
    | [⟨tg', it', [], aw⟩, ⟨tg1', it1', [], aw1⟩], h =>
      simp only [mE, Bool.and_eq_true, decide_eq_true_eq] at h
      obtain ⟨⟨⟨⟨⟨⟨⟨⟨⟨⟨hb, rfl⟩, rfl⟩, hvs⟩, hx⟩, hx1⟩, hi⟩, hg⟩, hi1⟩, hg1⟩, he⟩ := h
      cases how : ownOf c.N vs with
      | none => rw [how] at hb; cases hb
      | some own =>
        rw [how] at hb
        obtain ⟨F, FL⟩ := (rd_lc2 (pos := q) o a how hb hvs (sI it (M := []) o a hi (okI_nil it) fun ht => tgTup hg ht) hx hx1 (fun x => fold_of hi _ _) (fun env x => fold_of hi1 _ _) (fun s H C cl fp => by
          have r := pg_of (at_blk a s H scope cl C fp) o.calm o.nd hg
          rw [show (X.blk s H scope (compEnvC scope cl C X.env) fp).K = p.K from o.K] at r
          exact r) (fun s H C cl fp => sI it1 (c := blkCt c scope) (M := []) (xok_blk o s H scope (compEnvC scope cl C X.env) fp) (at_blk a s H scope cl C fp) hi1 (okI_nil it1) fun ht => tgTup hg1 ht) (fun s H C cl fp => by
          have r := pg_of (at_blk a s H scope cl C fp) o.calm o.nd hg1
          rw [show (X.blk s H scope (compEnvC scope cl C X.env) fp).K = p.K from o.K] at r
          exact r) (fun s H C cl fp => (sE elt (c := blkCt c scope) (xok_blk o s H scope (compEnvC scope cl C X.env) fp) (at_blk a s H scope cl C fp) he).E))
        refine se_lc F (fun env w v w' q => ?_) (by intro whole; rfl) (by simp) FL
        simp only [ev] at q
        obtain ⟨us, w1, _, q⟩ := Res.bind_ok q
        obtain ⟨ys, w2, _, q⟩ := Res.bind_ok q
        cases q
        exact ⟨_, rfl⟩
    | [], h => simp [mE] at h
    | [_], h => simp [mE] at h
    | [⟨_, _, _ :: _, _⟩, _], h => simp [mE] at h
    | [⟨_, _, [], _⟩, ⟨_, _, _ :: _, _⟩], h => simp [mE] at h
    | _ :: _ :: _ :: _, h => simp [mE] at h
  | .get i b, p, c, X, pe, o, a, h => by
    cases pe <;> first | (simp [mE] at h; done) | skip
    rename_i fn l kws q
    cases fn <;> first | (simp [mE] at h; done) | skip
    rename_i ob m q2
    cases ob <;> first | (simp [mE] at h; done) | skip
    match l, kws, h with
    | [y], [], h =>
      simp only [mE, Bool.and_eq_true, decide_eq_true_eq] at h
      obtain ⟨⟨⟨⟨⟨rfl, h1⟩, h2⟩, h3⟩, h4⟩, h5⟩ := h
      exact se_val (rd_get o a h1 h2 h3 (sE b o a h4).E (m_star h4) h5) (by intro whole; rfl) (by simp) rfl
    | [], _, h => simp [mE] at h
    | [_], _ :: _, h => simp [mE] at h
    | _ :: _ :: _, _, h => simp [mE] at h
  | .idx i b, p, c, X, pe, o, a, h => by
    cases pe <;> first | (simp [mE] at h; done) | skip
    rename_i fn l kws q
    cases fn <;> first | (simp [mE] at h; done) | skip
    rename_i ob m q2
    cases ob <;> first | (simp [mE] at h; done) | skip
    match l, kws, h with
    | [y], [], h =>
      simp only [mE, Bool.and_eq_true, decide_eq_true_eq] at h
      obtain ⟨⟨⟨⟨⟨rfl, h1⟩, h2⟩, h3⟩, h4⟩, h5⟩ := h
      exact se_val (rd_idx o a h1 h2 h3 (sE b o a h4).E (m_star h4) h5) (by intro whole; rfl) (by simp) rfl
    | [], _, h => simp [mE] at h
    | [_], _ :: _, h => simp [mE] at h
    | _ :: _ :: _, _, h => simp [mE] at h
  | .dsp i j, p, c, X, pe, o, a, h => by
    cases pe <;> first | (simp [mE] at h; done) | skip
    rename_i ks vs q
    match ks, vs, h with
    | [], _, h => simp [mE] at h
    | [none], _, h => simp [mE] at h
    | [some k], [], h => cases k <;> simp [mE] at h
    | [some k], _ :: _ :: _, h => cases k <;> simp [mE] at h
    | [some k], [v], h =>
      cases k <;> cases v <;> first | (simp [mE] at h; done) | skip
      simp only [mE, Bool.and_eq_true] at h
      obtain ⟨⟨⟨⟨⟨h1, h2⟩, h3⟩, h4⟩, h5⟩, h6⟩ := h
      exact se_val (rd_dsp a h1 h2 h3 h4 h5 h6) (by intro whole; rfl) (by simp) rfl
    | _ :: _ :: _, _, h => simp [mE] at h
  | .dcv i ea v, p, c, X, pe, o, a, h => by
    cases pe <;> first | (simp [mE] at h; done) | skip
    rename_i kx vx gs scope q
    cases kx <;> first | (simp [mE] at h; done) | skip
    cases vx <;> first | (simp [mE] at h; done) | skip
    match gs, h with
    | [⟨tg', it', [], aw⟩], h =>
      simp only [mE, Bool.and_eq_true, decide_eq_true_eq] at h
      obtain ⟨⟨⟨⟨⟨⟨⟨hb, rfl⟩, hne⟩, hi⟩, hg⟩, ⟨h1, h2⟩, h3⟩, ⟨g1, g2⟩, g3⟩, hn⟩ := h
      cases how : ownOf c.N [i] with
      | none => rw [how] at hb; cases hb
      | some own =>
        rw [how] at hb
        exact se_val (rd_dcv o a how hb hne (sE ea o a hi).E hg h1 h2 h3 g1 g2 g3 (fun x => by
          cases it' <;> first | rfl | (simp [isNm] at hn; done))) (by intro whole; rfl) (by simp) rfl
    | [], h => simp [mE] at h
    | [⟨_, _, _ :: _, _⟩], h => simp [mE] at h
    | _ :: _ :: _, h => simp [mE] at h
theorem sEs : ∀ (es : Es) {p : Par} {c : Ct} {X : Cx} {l : List Expr}, XOk p c.t X → At c X → mEs c es l = true → PA X l (rdEs p es) ∧ PA X l (rdQs p es) ∧ ∀ conj, l ≠ [] → Bl p X conj es l
  | .nil, p, c, X, [], o, a, h => ⟨rds_nil.1, rds_nil.2, fun _ n => absurd rfl n⟩
  | .cons e r, p, c, X, x :: l, o, a, h => by
    simp only [mEs, Bool.and_eq_true] at h
    have s := sE e o a h.1
    have t := sEs r o a h.2
    refine ⟨rds_cons (m_star h.1) s.E t.1, rqs_cons (m_star h.1) s.Q t.2.1, fun conj _ => ?_⟩
    cases l with
    | nil =>
      cases r with
      | nil => exact bl_one s.E s.T
      | cons _ _ => simp [mEs] at h
    | cons y l => exact bl_cons s.E s.T (t.2.2 conj (by simp))
  | .nil, p, c, X, _ :: _, o, a, h => by simp [mEs] at h
  | .cons _ _, p, c, X, [], o, a, h => by simp [mEs] at h
theorem sKs : ∀ (es : Es) {p : Par} {c : Ct} {X : Cx} {l : List Keyword}, XOk p c.t X → At c X → mKs c es l = true → PK X l (rdEs p es) ∧ l.length = es.len
  | .nil, p, c, X, [], o, a, h => ⟨rk_nil, rfl⟩
  | .cons e r, p, c, X, ⟨nm, v, kp⟩ :: l, o, a, h => by
    simp only [mKs, Bool.and_eq_true] at h
    have t := sKs r o a h.2
    exact ⟨rk_cons (sE e o a h.1).E t.1, by rw [List.length_cons, t.2]; rfl⟩
  | .nil, p, c, X, _ :: _, o, a, h => by simp [mKs] at h
  | .cons _ _, p, c, X, [], o, a, h => by simp [mKs] at h
theorem sI : ∀ (it : R.It) {p : Par} {c : Ct} {X : Cx} {tg x : Expr} {tup : Bool} {M : List Nat}, XOk p c.t X → At c X → mI c it tup x = true → okI M it = true → (tup = true → ∃ els n q, tg = .Tuple els n q) → PI X tg x (rdI p M it)
  | .seq e, p, c, X, tg, x, tup, M, o, a, h, ok, ht => by
    simp only [mI] at h
    exact rI_seq ((sE e o a h).U M ok) o.K
  | .rng1 e, p, c, X, tg, x, tup, M, o, a, h, ok, ht => by
    cases x <;> first | (simp [mI] at h; done) | skip
    rename_i fn l kws q
    cases fn <;> first | (simp [mI] at h; done) | skip
    match l, kws, h with
    | [y], [], h =>
      simp only [mI, Bool.and_eq_true, decide_eq_true_eq] at h
      obtain ⟨⟨rfl, h1⟩, h2⟩ := h
      obtain ⟨g, m⟩ := fr_at o a h1
      exact rI_rng1 (sE e o a h2).E (m_star h2) g m
    | [], _, h => simp [mI] at h
    | [_], _ :: _, h => simp [mI] at h
    | _ :: _ :: _, _, h => simp [mI] at h
  | .rng2 e e2, p, c, X, tg, x, tup, M, o, a, h, ok, ht => by
    cases x <;> first | (simp [mI] at h; done) | skip
    rename_i fn l kws q
    cases fn <;> first | (simp [mI] at h; done) | skip
    match l, kws, h with
    | [y, z], [], h =>
      simp only [mI, Bool.and_eq_true, decide_eq_true_eq] at h
      obtain ⟨⟨⟨rfl, h1⟩, h2⟩, h3⟩ := h
      obtain ⟨g, m⟩ := fr_at o a h1
      exact rI_rng2 (sE e o a h2).E (m_star h2) (sE e2 o a h3).E (m_star h3) g m
    | [], _, h => simp [mI] at h
    | [_], _, h => simp [mI] at h
    | [_, _], _ :: _, h => simp [mI] at h
    | _ :: _ :: _ :: _, _, h => simp [mI] at h
  | .rng3 e e2 e3, p, c, X, tg, x, tup, M, o, a, h, ok, ht => by
    cases x <;> first | (simp [mI] at h; done) | skip
    rename_i fn l kws q
    cases fn <;> first | (simp [mI] at h; done) | skip
    match l, kws, h with
    | [y, z, u], [], h =>
      simp only [mI, Bool.and_eq_true, decide_eq_true_eq] at h
      obtain ⟨⟨⟨⟨rfl, h1⟩, h2⟩, h3⟩, h4⟩ := h
      obtain ⟨g, m⟩ := fr_at o a h1
      exact rI_rng3 (sE e o a h2).E (m_star h2) (sE e2 o a h3).E (m_star h3) (sE e3 o a h4).E (m_star h4) g m
    | [], _, h => simp [mI] at h
    | [_], _, h => simp [mI] at h
    | [_, _], _, h => simp [mI] at h
    | [_, _, _], _ :: _, h => simp [mI] at h
    | _ :: _ :: _ :: _ :: _, _, h => simp [mI] at h
  | .zip e e2, p, c, X, tg, x, tup, M, o, a, h, ok, ht => by
    cases x <;> first | (simp [mI] at h; done) | skip
    rename_i fn l kws q
    cases fn <;> first | (simp [mI] at h; done) | skip
    match l, kws, h with
    | [y, z], [], h =>
      simp only [mI, Bool.and_eq_true, decide_eq_true_eq] at h
      obtain ⟨⟨⟨⟨h0, rfl⟩, h1⟩, h2⟩, h3⟩ := h
      obtain ⟨g, m⟩ := fr_at o a h1
      obtain ⟨els, n, q2, rfl⟩ := ht h0
      simp only [okI, Bool.and_eq_true] at ok
      exact rI_zip (pa_u2 ((sE e o a h2).U M ok.1) (m_star h2) ((sE e2 o a h3).U M ok.2) (m_star h3)) o.K (m_star h2) (m_star h3) g m
    | [], _, h => simp [mI] at h
    | [_], _, h => simp [mI] at h
    | [_, _], _ :: _, h => simp [mI] at h
    | _ :: _ :: _ :: _, _, h => simp [mI] at h
  | .enm e, p, c, X, tg, x, tup, M, o, a, h, ok, ht => by
    cases x <;> first | (simp [mI] at h; done) | skip
    rename_i fn l kws q
    cases fn <;> first | (simp [mI] at h; done) | skip
    match l, kws, h with
    | [y], [], h =>
      simp only [mI, Bool.and_eq_true, decide_eq_true_eq] at h
      obtain ⟨⟨⟨h0, rfl⟩, h1⟩, h2⟩ := h
      obtain ⟨g, m⟩ := fr_at o a h1
      obtain ⟨els, n, q2, rfl⟩ := ht h0
      exact rI_enm ((sE e o a h2).U M ok) o.K (m_star h2) g m
    | [], _, h => simp [mI] at h
    | [_], _ :: _, h => simp [mI] at h
    | _ :: _ :: _, _, h => simp [mI] at h
  | .comb e e2, p, c, X, tg, x, tup, M, o, a, h, ok, ht => by
    cases x <;> first | (simp [mI] at h; done) | skip
    rename_i fn l kws q
    cases fn <;> first | (simp [mI] at h; done) | skip
    match l, kws, h with
    | [y, z], [], h =>
      simp only [mI, Bool.and_eq_true, decide_eq_true_eq] at h
      obtain ⟨⟨⟨⟨h0, h1⟩, h4⟩, h2⟩, h3⟩ := h
      have m := ((o.bf _ _ h0).resolve_right fun ⟨id, q, _⟩ => by simp [biOf] at q).2
      exact rI_comb (sE e o a h2).E (m_star h2) (sE e2 o a h3).E (m_star h3) o.K (gl_ok a h1) (okn h4) m
    | [], _, h => simp [mI] at h
    | [_], _, h => simp [mI] at h
    | [_, _], _ :: _, h => simp [mI] at h
    | _ :: _ :: _ :: _, _, h => simp [mI] at h
  | .rgv i, p, c, X, tg, x, tup, M, o, a, h, ok, ht => by
    cases x <;> first | (simp [mI] at h; done) | skip
    simp only [mI, Bool.and_eq_true] at h
    exact rI_rgv (name_var a h.1.1 h.1.2 h.2)
  | .ezp e e2, p, c, X, tg, x, tup, M, o, a, h, ok, ht => by
    simp only [mI] at h
    cases q : ezParts x with
    | none =>
      rw [q] at h
      cases h
    | some r =>
      rw [q] at h
      obtain ⟨p1, p2, p3, p4, rfl⟩ := ezParts_some q
      obtain ⟨z, z2, x1, y1⟩ := r
      simp only [Bool.and_eq_true, decide_eq_true_eq] at h
      obtain ⟨⟨⟨⟨⟨⟨h0, rfl⟩, h1⟩, rfl⟩, h4⟩, h2⟩, h3⟩ := h
      obtain ⟨g, m⟩ := fr_at o a h1
      obtain ⟨g2, m2⟩ := fr_at o a h4
      obtain ⟨els, n, q2, rfl⟩ := ht h0
      simp only [okI, Bool.and_eq_true] at ok
      exact rI_ezp (pa_u2 ((sE e o a h2).U M ok.1) (m_star h2) ((sE e2 o a h3).U M ok.2) (m_star h3)) o.K (m_star h2) (m_star h3) g m g2 m2
theorem sEo : ∀ (e : Eo) {p : Par} {c : Ct} {X : Cx} {l : Option Expr}, XOk p c.t X → At c X → mEo c e l = true → PO X l (rdO p e)
  | .none, p, c, X, none, o, a, h => rdo_none
  | .some e, p, c, X, some x, o, a, h => by
    simp only [mEo] at h
    exact rdo_some (sE e o a h).E
  | .none, p, c, X, some _, o, a, h => by simp [mEo] at h
  | .some _, p, c, X, none, o, a, h => by simp [mEo] at h
end
end R
end
section
/-! Statements and their meaning. -/
namespace R
open PySem L2
inductive Pc where
  | val (e : E)
  | own (e : E)
inductive Mu where
  | app | ext | ins | rem | dpop
  deriving DecidableEq
mutual
inductive S where
  | asg (t : Tg) (e : E)
  | own (i : Nat) (e : E)
  | par (is : List Nat) (ps : List Pc)
  | put (i : Nat) (a e : E)
  | put2 (i : Nat) (a : E) (j : Nat) (e : E)
  | mut (m : Mu) (i : Nat) (es : Es)
  | pop (t : Option Tg) (i : Nat) (es : Es)
  | popApp (j i : Nat) (es : Es)
  | aug (i : Nat) (e : E)
  | iff (c : E) (a b : Ss)
  | for_ (t : Tg) (it : R.It) (b : Ss)
  | whl (c : E) (b : Ss)
  | ret (e : E)
  | retN
  | brk
  | pass
  | rai (c : Nat) (e : E)
  | expr (e : E)
  | nev
  | rngS (i : Nat) (e : E)
inductive Ss where
  | nil
  | cons (s : S) (r : Ss)
end
inductive Fl where
  | nx (env : En)
  | bk (env : En)
  | ct (env : En)
  | rt (v : Vl)
def bindV : Tg → Vl → En → Option En
  | .nm i, v, env => some (env.set i (.val v))
  | t, .d x, env => bindT t x env
  | _, _, _ => none
def mutV : Mu → List PyData → List PyData → Option (List PyData)
  | .app, xs, [y] => if xs.length < sizeLine then some (xs ++ [y]) else none
  | .ins, xs, [.int i, y] => if decide (xs.length < sizeLine) && decide (0 ≤ i) && decide (i < 2 ^ 63) then some (xs.take i.toNat ++ [y] ++ xs.drop i.toNat) else none
  | .ext, xs, [.list ys] => if fits (xs.length + ys.length) then some (xs ++ ys) else none
  | .rem, xs, [.int k] => (asInts xs).bind fun ns => if k ∈ ns then some ((ns.erase k).map .int) else none
  | .dpop, xs, [.int i] => if decide (0 ≤ i) && decide (i < xs.length) && decide (i < 2 ^ 63) then some (xs.eraseIdx i.toNat) else none
  | _, _, _ => none
/-- xs[i] = y -/
def putV (xs : List PyData) : PyData → PyData → Option (List PyData)
  | .int i, y => if 0 ≤ i then (if i < xs.length then some (xs.set i.toNat y) else none) else none
  | _, _ => none
def slotPut (env : En) (w : Wd) (i : Nat) (a y : PyData) : Option (En × Wd) :=
  match env[i]? with
  | some (.own xs) => (putV xs a y).map fun zs => (env.set i (.own zs), w)
  | some (.val (.loc n)) => match w[n]?, a, y with
    | some ns, .int k, .int m => if decide (0 ≤ k) && decide (k < ns.length) then some (env, w.set n (ns.set k.toNat m)) else none
    | _, _, _ => none
  | _ => none
def popV : List PyData → List PyData → Option (PyData × List PyData)
  | xs, [] => xs.getLast?.map fun y => (y, xs.dropLast)
  | xs, [.int i] => if decide (0 ≤ i) && decide (i < xs.length) then xs[i.toNat]?.map fun y => (y, xs.eraseIdx i.toNat) else none
  | _, _ => none
def ownAt (env : En) (i : Nat) : Option (List PyData) := match env[i]? with
  | some (.own xs) => some xs
  | _ => none
def Pc.esc : Pc → List Nat
  | .val e => R.esc e
  | .own e => R.esc e
def escP : List Pc → List Nat
  | [] => []
  | p :: r => p.esc ++ escP r
def setP : List Nat → List Slot → En → Option En
  | [], [], env => some env
  | i :: is, s :: ss, env => setP is ss (env.set i s)
  | _, _, _ => none
section
variable (c : En → Wd → Res Bool) (b : En → Wd → Res Fl)
def whileN : Nat → En → Wd → Res Fl
  | 0, _, _ => .bad
  | n + 1, env, w => (c env w).bind fun t w => if t then (b env w).bind fun f w => match f with
    | .nx env => whileN n env w
    | .ct env => whileN n env w
    | .bk env => .ok (.nx env) w
    | .rt v => .ok (.rt v) w
    else .ok (.nx env) w
open Classical in
noncomputable def whileR (env : En) (w : Wd) : Res Fl := if h : ∃ n, whileN c b n env w ≠ .bad then whileN c b (choose h) env w else .bad
theorem whileN_up : ∀ (n : Nat) (env : En) (w : Wd), whileN c b n env w ≠ .bad → whileN c b (n + 1) env w = whileN c b n env w
  | 0, env, w, h => absurd rfl h
  | n + 1, env, w, h => by
    rw [whileN] at h
    rw [whileN, whileN]
    cases hc : c env w with
    | exc k x w' => rfl
    | bad => rfl
    | ok t w' =>
      rw [hc] at h
      cases t with
      | false => rfl
      | true =>
        simp only [bind_ok_eq, if_true] at h ⊢
        cases hb : b env w' with
        | exc k x w2 => rfl
        | bad => rfl
        | ok f w2 =>
          rw [hb] at h
          cases f with
          | nx e => exact whileN_up n e w2 h
          | ct e => exact whileN_up n e w2 h
          | bk e => rfl
          | rt v => rfl
theorem whileN_le {n m : Nat} (hm : n ≤ m) {env : En} {w : Wd} (h : whileN c b n env w ≠ .bad) : whileN c b m env w = whileN c b n env w := by
  induction hm with
  | refl => rfl
  | step _ ih => rw [whileN_up c b _ _ _ (by rw [ih]; exact h), ih]
theorem whileR_of {n : Nat} {env : En} {w : Wd} {r : Res Fl} (e : whileN c b n env w = r) (h : r ≠ .bad) : whileR c b env w = r := by
  have hx : ∃ n, whileN c b n env w ≠ .bad := ⟨n, by rw [e]; exact h⟩
  unfold whileR
  rw [dif_pos hx]
  have h1 := Classical.choose_spec hx
  rcases Nat.le_total (Classical.choose hx) n with q | q
  · rw [← e, whileN_le c b q h1]
  · rw [whileN_le c b q (by rw [e]; exact h), e]
theorem whileR_ex (env : En) (w : Wd) : ∃ n, whileR c b env w = whileN c b n env w := by
  by_cases hx : ∃ n, whileN c b n env w ≠ .bad
  · exact ⟨Classical.choose hx, by unfold whileR; rw [dif_pos hx]⟩
  · exact ⟨0, by unfold whileR; rw [dif_neg hx]; rfl⟩
/-- one turn seen -/
theorem whileR_eq (env : En) (w : Wd) : whileR c b env w = (c env w).bind fun t w => if t then (b env w).bind fun f w => match f with
    | .nx env => whileR c b env w
    | .ct env => whileR c b env w
    | .bk env => .ok (.nx env) w
    | .rt v => .ok (.rt v) w
    else .ok (.nx env) w := by
  generalize hr : ((c env w).bind fun t w => if t then (b env w).bind fun f w => match f with
    | .nx env => whileR c b env w
    | .ct env => whileR c b env w
    | .bk env => .ok (.nx env) w
    | .rt v => .ok (.rt v) w
    else .ok (.nx env) w) = r
  have key : ∃ n, whileN c b (n + 1) env w = r := by
    subst hr
    cases hc : c env w with
    | exc k x w' => exact ⟨0, by rw [whileN, hc]; rfl⟩
    | bad => exact ⟨0, by rw [whileN, hc]; rfl⟩
    | ok t w' =>
      cases t with
      | false => exact ⟨0, by rw [whileN, hc]; rfl⟩
      | true =>
        cases hb : b env w' with
        | exc k x w2 => exact ⟨0, by rw [whileN, hc]; simp only [bind_ok_eq, if_true, hb]; rfl⟩
        | bad => exact ⟨0, by rw [whileN, hc]; simp only [bind_ok_eq, if_true, hb]; rfl⟩
        | ok f w2 =>
          cases f with
          | nx e =>
            obtain ⟨n, hn⟩ := whileR_ex c b e w2
            exact ⟨n, by rw [whileN, hc]; simp only [bind_ok_eq, if_true, hb, hn]⟩
          | ct e =>
            obtain ⟨n, hn⟩ := whileR_ex c b e w2
            exact ⟨n, by rw [whileN, hc]; simp only [bind_ok_eq, if_true, hb, hn]⟩
          | bk e => exact ⟨0, by rw [whileN, hc]; simp only [bind_ok_eq, if_true, hb]⟩
          | rt v => exact ⟨0, by rw [whileN, hc]; simp only [bind_ok_eq, if_true, hb]⟩
  obtain ⟨n, hn⟩ := key
  by_cases hb : r = .bad
  · subst hb
    obtain ⟨m, hm⟩ := whileR_ex c b env w
    by_cases h2 : whileN c b m env w = .bad
    · rw [hm, h2]
    · exfalso
      apply h2
      rcases Nat.le_total m (n + 1) with q | q
      · rw [← whileN_le c b q h2, hn]
      · -- a turn with more room answers what the turns behind it answer
        have : whileR c b env w ≠ .bad := by rw [hm]; exact h2
        cases m with
        | zero => exact absurd rfl h2
        | succ m =>
          rw [whileN] at h2 ⊢
          revert hr
          cases hc : c env w with
          | exc k x w' => intro hr; exact hr
          | bad => intro hr; exact hr
          | ok t w' =>
            rw [hc] at h2
            cases t with
            | false => intro hr; exact hr
            | true =>
              simp only [bind_ok_eq, if_true] at h2 ⊢
              cases hb2 : b env w' with
              | exc k x w2 => intro hr; exact hr
              | bad => intro hr; exact hr
              | ok f w2 =>
                rw [hb2] at h2
                cases f with
                | nx e => intro hr; simp only [bind_ok_eq] at hr h2 ⊢; rw [whileR_of c b rfl h2] at hr; exact hr
                | ct e => intro hr; simp only [bind_ok_eq] at hr h2 ⊢; rw [whileR_of c b rfl h2] at hr; exact hr
                | bk e => intro hr; exact hr
                | rt v => intro hr; exact hr
  · exact whileR_of c b hn hb
end
/-- the turns of a for loop -/
def forR (step : PyData → En → Wd → Res Fl) : List PyData → En → Wd → Res Fl
  | [], env, w => .ok (.nx env) w
  | x :: r, env, w => (step x env w).bind fun f w => match f with
    | .nx env => forR step r env w
    | .ct env => forR step r env w
    | .bk env => .ok (.nx env) w
    | .rt v => .ok (.rt v) w
variable (G : List PyData) (F : Fns) (np : Nat → Nat)
def evP (env : En) : List Pc → Wd → Res (List Slot)
  | [], w => .ok [] w
  | .val e :: r, w => (ev G F np env e w).bind fun v w => (evP env r w).bind fun ss w => .ok (.val v :: ss) w
  | .own e :: r, w => (ev G F np env e w).bind fun v w => (evP env r w).bind fun ss w => match v with
    | .d (.list xs) => .ok (.own xs :: ss) w
    | _ => .bad
mutual
noncomputable def evS : S → En → Wd → Res Fl
  | .asg t e, env, w => (ev G F np env e w).bind fun v w => ofOpt ((bindV t v (demE env (esc e))).map .nx) w
  | .own i e, env, w => (ev G F np env e w).bind fun v w => match v with
    | .d (.list xs) => .ok (.nx ((demE env (esc e)).set i (.own xs))) w
    | _ => .bad
  | .par is ps, env, w => (evP G F np env ps w).bind fun ss w => ofOpt ((setP is ss (demE env (escP ps))).map .nx) w
  | .put i a e, env, w => (ev G F np env e w).bind fun v w => (asD v w).bind fun y w => (ofOpt (getV env i) w).bind fun _ w => (ev G F np env a w).bind fun u w => (asD u w).bind fun k w =>
      match slotPut (demE env (esc e)) w i k y with
      | some (env, w) => .ok (.nx env) w
      | none => .bad
  | .put2 i a j e, env, w => (ev G F np env e w).bind fun v w => (asD v w).bind fun y w => match y with
    | .tuple [y1, y2] => (ofOpt (getV env i) w).bind fun _ w => (ev G F np env a w).bind fun u w => (asD u w).bind fun k w =>
      match slotPut (demE env (esc e)) w i k y1 with
      | some (env, w) => .ok (.nx (env.set j (.val (.d y2)))) w
      | none => .bad
    | _ => .bad
  | .mut m i es, env, w => (ofOpt (ownAt env i) w).bind fun _ w => (evs G F np env es w).bind fun vs w => match datas vs, (demE env (escs es))[i]? with
    | some ds, some (.own xs) => ofOpt ((mutV m xs ds).map fun zs => .nx ((demE env (escs es)).set i (.own zs))) w
    | _, _ => .bad
  | .pop t i es, env, w => (ofOpt (ownAt env i) w).bind fun _ w => (evs G F np env es w).bind fun vs w => match datas vs, (demE env (escs es))[i]? with
    | some ds, some (.own xs) => match popV xs ds with
      | some (y, zs) => match t with
        | none => .ok (.nx ((demE env (escs es)).set i (.own zs))) w
        | some t => ofOpt ((bindT t y ((demE env (escs es)).set i (.own zs))).map .nx) w
      | none => .bad
    | _, _ => .bad
  | .popApp j i es, env, w => (ofOpt (ownAt env j) w).bind fun _ w => (ofOpt (ownAt env i) w).bind fun _ w => (evs G F np env es w).bind fun vs w => match datas vs, (demE env (escs es))[i]?, (demE env (escs es))[j]? with
    | some ds, some (.own xs), some (.own us) => match popV xs ds with
      | some (y, zs) => if decide (i ≠ j) && decide (us.length < sizeLine) then .ok (.nx (((demE env (escs es)).set i (.own zs)).set j (.own (us ++ [y])))) w else .bad
      | none => .bad
    | _, _, _ => .bad
  | .aug i e, env, w => (ev G F np env e w).bind fun v w => match getV env i, v with
    | some (.d (.int x)), .d (.int y) => .ok (.nx (env.set i (.val (.d (.int (x + y)))))) w
    | _, _ => .bad
  | .iff c a b, env, w => (ev G F np env c w).bind fun v w => (boolOf v w).bind fun t w => if t then evSs a env w else evSs b env w
  | .for_ t it b, env, w => (evI G F np env it w).bind fun xs w => forR (fun x env w => match bindT t x env with
      | some env => evSs b env w
      | none => .bad) xs (demE env (escI it)) w
  | .whl c b, env, w => whileR (fun env w => (ev G F np env c w).bind boolOf) (fun env w => evSs b env w) env w
  | .ret e, env, w => (ev G F np env e w).bind fun v w => .ok (.rt v) w
  | .retN, env, w => .ok (.rt (.d .none)) w
  | .brk, env, w => .ok (.bk env) w
  | .pass, env, w => .ok (.nx env) w
  | .rai c e, env, w => (ev G F np env e w).bind fun v w => (asD v w).bind fun x w => .exc c x w
  | .expr e, env, w => (ev G F np env e w).bind fun _ w => .ok (.nx env) w
  | .nev, _, _ => .bad
  | .rngS i e, env, w => (ev G F np env e w).bind fun v w => match v with
    | .d (.int n) => if decide (0 ≤ n) && small62 n then .ok (.nx ((demE env (esc e)).set i (.rng n))) w else .bad
    | _ => .bad
noncomputable def evSs : Ss → En → Wd → Res Fl
  | .nil, env, w => .ok (.nx env) w
  | .cons s r, env, w => (evS s env w).bind fun f w => match f with
    | .nx env => evSs r env w
    | f => .ok f w
end

mutual
def muts : S → List Nat
  | .put i _ _ => [i]
  | .put2 i _ _ _ => [i]
  | .mut _ i _ => [i]
  | .pop _ i _ => [i]
  | .popApp j i _ => [j, i]
  | .iff _ a b => mutsS a ++ mutsS b
  | .for_ _ _ b => mutsS b
  | .whl _ b => mutsS b
  | _ => []
def mutsS : Ss → List Nat
  | .nil => []
  | .cons s r => muts s ++ mutsS r
end
end R
end
section
/-! What statements ask; frames that change. -/
namespace R
open PySem L2
open PySem.Spec PyProof.Rows
/-- a walk's effect; Z: the lists of own that it may change -/
structure Ev2 (Z : AO) (φ : List Addr) (P : AO) (H : Hp) (φ' : List Addr) (P' : AO) (H' : Hp) : Prop where
  pre : ∃ ψ, φ' = φ ++ ψ
  kp : ∀ a o, H a = some o → a ∉ φ → ¬ Z a → H' a = some o
  dm : ∀ a, H' a = none → H a = none
  nw : ∀ a, P' a → P a ∨ H a = none
  nf : ∀ a ∈ φ', a ∈ φ ∨ H a = none
/-- .. and the frame's own lists are its own or new -/
structure EvS (M : List Nat) (env : En) (σ : L2.St) (φ : List Addr) (P : AO) (H : Hp) (env' : En) (σ' : L2.St) (φ' : List Addr) (P' : AO) (H' : Hp) : Prop where
  e : Ev2 (Ob env σ M) φ P H φ' P' H'
  mb : ∀ (i : Nat) (xs : List PyData) (a : Addr), env'[i]? = some (.own xs) → σ'[i]? = some (some (.ref a)) → (∃ ys, env[i]? = some (.own ys) ∧ σ[i]? = some (some (.ref a))) ∨ H a = none
section
variable {p : Par} {M N : List Nat} {Z Z' : AO} {env env' env2 : En} {w w' : Wd} {φ φ' φ2 : List Addr} {P P' P2 : AO} {σ σ' σ2 : L2.St} {H H' H2 : Hp}
theorem Ev.e2 (E : Ev φ P H φ' P' H') : Ev2 Z φ P H φ' P' H' := ⟨E.pre, fun a o h n _ => E.kp a o h n, E.dm, E.nw, E.nf⟩
theorem Ev2.mono (E : Ev2 Z φ P H φ' P' H') (h : ∀ a, Z a → Z' a) : Ev2 Z' φ P H φ' P' H' := ⟨E.pre, fun a o e n z => E.kp a o e n fun q => z (h a q), E.dm, E.nw, E.nf⟩
theorem Ev2.trans (a : Ev2 Z φ P H φ' P' H') (b : Ev2 Z' φ' P' H' φ2 P2 H2) (hz : ∀ a, Z' a → Z a ∨ H a = none) : Ev2 Z φ P H φ2 P2 H2 := by
  refine ⟨?_, fun x o h n z => b.kp x o (a.kp x o h n z) (fun q => ?_) fun q => ?_, fun x h => a.dm x (b.dm x h), fun x h => ?_, fun x h => ?_⟩
  · obtain ⟨ψ, e⟩ := a.pre
    obtain ⟨ψ', e'⟩ := b.pre
    exact ⟨ψ ++ ψ', by rw [e', e, List.append_assoc]⟩
  · rcases a.nf x q with q | q
    · exact n q
    · rw [h] at q; cases q
  · rcases hz x q with q | q
    · exact z q
    · rw [h] at q; cases q
  · rcases b.nw x h with q | q
    · exact a.nw x q
    · exact .inr (a.dm x q)
  · rcases b.nf x h with q | q
    · exact a.nf x q
    · exact .inr (a.dm x q)
theorem EvS.trans (a : EvS M env σ φ P H env' σ' φ' P' H') (b : EvS M env' σ' φ' P' H' env2 σ2 φ2 P2 H2) : EvS M env σ φ P H env2 σ2 φ2 P2 H2 := by
  refine ⟨a.e.trans b.e fun x h => ?_, fun i xs x h1 h2 => ?_⟩
  · obtain ⟨i, hi, xs, e1, e2⟩ := h
    rcases a.mb i xs x e1 e2 with ⟨ys, f1, f2⟩ | q
    · exact .inl ⟨i, hi, ys, f1, f2⟩
    · exact .inr q
  · rcases b.mb i xs x h1 h2 with ⟨ys, f1, f2⟩ | q
    · exact a.mb i ys x f1 f2
    · exact .inr (a.e.dm x q)
theorem EvS.less (E : Ev2 (Ob env σ M) φ P H φ' P' H') (l : Less env env' σ σ') : EvS M env σ φ P H env' σ' φ' P' H' := ⟨E, fun i xs a h1 h2 => by
  obtain ⟨q1, q2⟩ := l i xs h1
  exact .inl ⟨xs, q1, by rw [← q2]; exact h2⟩⟩
theorem EvS.of (E : Ev φ P H φ' P' H') : EvS M env σ φ P H env σ φ' P' H' := .less E.e2 Less.refl
/-- fewer addresses are shunned -/
theorem Ev2.sub (h : ∀ a, P' a → P a) : Ev2 Z φ P H φ P' H := ⟨⟨[], by simp⟩, fun _ _ e _ _ => e, fun _ h => h, fun a q => .inl (h a q), fun _ h => .inl h⟩
theorem EvS.dem (l : List Nat) : EvS M env σ φ P H (demE env l) σ φ (Av P env σ l) H := .less (.sub Av.le) (dem_less l)
/-! ### answers of statements -/
def AnsS (p : Par) (M : List Nat) (r : Res Fl) (env : En) (σ : L2.St) (φ : List Addr) (P : AO) (H : Hp) (D : Ends) : Prop :=
  match r with
  | .ok (.nx env') w' => ∀ σ' φ' P' H', EvS M env σ φ P H env' σ' φ' P' H' → Rel p env' w' φ' P' σ' H' → D.nx σ' H'
  | .ok (.bk env') w' => ∀ σ' φ' P' H', EvS M env σ φ P H env' σ' φ' P' H' → Rel p env' w' φ' P' σ' H' → D.bk σ' H'
  | .ok (.ct env') w' => ∀ σ' φ' P' H', EvS M env σ φ P H env' σ' φ' P' H' → Rel p env' w' φ' P' σ' H' → D.ct σ' H'
  | .ok (.rt v) w' => ∀ φ' P' H' x, Ev2 (Ob env σ M) φ P H φ' P' H' → Wst φ' w' P' H' → (∀ a, p.B a → P' a) → RpV p.K H' P' φ' x v → D.rt x H'
  | .exc c x w' => ∀ φ' P' H' cls d, Ev2 (Ob env σ M) φ P H φ' P' H' → Wst φ' w' P' H' → (∀ a, p.B a → P' a) → ExR p H' (fun z => p.B z ∨ z ∈ φ') c x cls d → p.XE cls d H'
  | .bad => False
theorem EvS.ob (E : EvS M env σ φ P H env' σ' φ' P' H') : ∀ a, Ob env' σ' M a → Ob env σ M a ∨ H a = none := fun a ⟨i, hi, xs, e1, e2⟩ => (E.mb i xs a e1 e2).imp (fun ⟨ys, f1, f2⟩ => ⟨i, hi, ys, f1, f2⟩) id
theorem AnsS.ev {r : Res Fl} {D : Ends} (A : AnsS p M r env σ φ P H D) (E : EvS M env σ φ P H env' σ' φ' P' H') : AnsS p M r env' σ' φ' P' H' D := by
  cases r with
  | bad => exact A
  | exc c x w' => exact fun φ2 P2 H2 cls d E2 => A φ2 P2 H2 cls d (E.e.trans E2 E.ob)
  | ok f w' =>
    cases f with
    | nx e => exact fun σ2 φ2 P2 H2 E2 => A σ2 φ2 P2 H2 (E.trans E2)
    | bk e => exact fun σ2 φ2 P2 H2 E2 => A σ2 φ2 P2 H2 (E.trans E2)
    | ct e => exact fun σ2 φ2 P2 H2 E2 => A σ2 φ2 P2 H2 (E.trans E2)
    | rt v => exact fun φ2 P2 H2 x E2 => A φ2 P2 H2 x (E.e.trans E2 E.ob)
/-- an expression first -/
theorem AnsS.bind {α : Type} {r : Res α} {f : α → Wd → Res Fl} {D : Ends} (A : AnsS p M (r.bind f) env σ φ P H D) (hb : ∀ a, p.B a → P a) : Ans p r φ P H fun v w1 φ1 P1 H1 => AnsS p M (f v w1) env σ φ1 P1 H1 D := by
  cases r with
  | bad => exact A
  | exc c x w' => exact fun H' φ' P' cls d E W h => A φ' P' H' cls d E.e2 W (fun a q => E.up a (hb a q)) h
  | ok v w' =>
    have A : AnsS p M (f v w') env σ φ P H D := A
    exact fun H' φ' P' E W => A.ev (.of E)
/-- .. told from the start -/
theorem AnsS.bindB {α : Type} {r : Res α} {f : α → Wd → Res Fl} {D : Ends} (A : AnsS p M (r.bind f) env σ φ P H D) (hb : ∀ a, p.B a → P a) : Ans p r φ P H fun v w1 _ _ _ => AnsS p M (f v w1) env σ φ P H D := by
  cases r with
  | bad => exact A
  | exc c x w' => exact fun H' φ' P' cls d E W h => A φ' P' H' cls d E.e2 W (fun a q => E.up a (hb a q)) h
  | ok v w' =>
    have A : AnsS p M (f v w') env σ φ P H D := A
    exact fun _ _ _ _ _ => A
theorem Ev.toS (E : Ev φ P H φ' P' H') (l : List Nat) : EvS M env σ φ P H (demE env l) σ φ' (Av P' env σ l) H' := EvS.trans (.of E) (.dem l)
theorem AnsS.opt {o : Option Fl} {w : Wd} {D : Ends} (A : AnsS p M (ofOpt o w) env σ φ P H D) : ∃ f, o = some f ∧ AnsS p M (.ok f w) env σ φ P H D := by
  cases o with
  | none => exact A.elim
  | some f => exact ⟨f, rfl, A⟩
/-! ### frames that change -/
theorem rel_own (R : Rel p env w φ P σ H) {i : Nat} {a : Addr} {vs : List V} {xs : List PyData} (hp : P a) (hn : a ∉ φ) (hb : ¬ p.B a) (ha : H a = some (.lst vs)) (hz : vs.length ≤ sizeLine) (hd : RpL p.K H P vs xs)
    (ho : ∀ (j : Nat) (ys : List PyData), env[j]? = some (.own ys) → σ[j]? ≠ some (some (.ref a))) : Rel p (env.set i (.own xs)) w φ P (σ.set i (some (.ref a))) H := by
  refine ⟨R.st, fun j s h => ?_, fun j k xs ys b h1 h2 e1 e2 => ?_, by rw [List.length_set, List.length_set, R.len], R.bP⟩
  · by_cases e : i = j
    · subst e
      have l : i < env.length := by
        have := lt_of_get h
        rwa [List.length_set] at this
      rw [getElem?_set_eq l] at h
      cases h
      rw [getElem?_set_eq (by rw [← R.len]; exact l)]
      exact .own hp hn hb ha hz hd
    · rw [getElem?_set_other e] at h ⊢
      exact R.sl j s h
  · by_cases ej : i = j
    · by_cases ek : i = k
      · rw [← ej, ← ek]
      · subst ej
        rw [getElem?_set_other ek] at h2 e2
        have l : i < σ.length := by
          have := lt_of_get e1
          rwa [List.length_set] at this
        rw [getElem?_set_eq l] at e1
        cases e1
        exact absurd e2 (ho k ys h2)
    · rw [getElem?_set_other ej] at h1 e1
      by_cases ek : i = k
      · subst ek
        have l : i < σ.length := by
          have := lt_of_get e2
          rwa [List.length_set] at this
        rw [getElem?_set_eq l] at e2
        cases e2
        exact absurd e1 (ho j xs h1)
      · rw [getElem?_set_other ek] at h2 e2
        exact R.un j k xs ys b h1 h2 e1 e2
/-- the list of the slot i is changed -/
theorem rel_mut (R : Rel p env w φ P σ H) {i : Nat} {a : Addr} {us : List V} {xs ys : List PyData} (hi : env[i]? = some (.own xs)) (hs : σ[i]? = some (some (.ref a))) (hz : us.length ≤ sizeLine) (hd : RpL p.K H P us ys) (hM : i ∈ M) :
    Rel p (env.set i (.own ys)) w φ P σ (upd H a (.lst us)) ∧ EvS M env σ φ P H (env.set i (.own ys)) σ φ P (upd H a (.lst us)) := by
  have s := R.sl i _ hi
  rw [hs] at s
  cases s with
  | @own _ vs _ hp hn hb ha hz0 hd0 =>
    have c : Cr H P (upd H a (.lst us)) P := cr_write ha hp
    have nφ : ∀ b ∈ φ, b ≠ a := fun b h e => hn (e ▸ h)
    have li : i < env.length := lt_of_get hi
    refine ⟨⟨⟨fun b h => ?_, ⟨R.st.wr.len, fun n b ns h1 h2 => ?_, R.st.wr.av, R.st.wr.nd⟩⟩, fun j t h => ?_, fun j k xs' ys' b h1 h2 e1 e2 => ?_, by rw [List.length_set, R.len], R.bP⟩, ⟨⟨⟨[], by simp⟩, fun b o h n z => ?_, fun b h => ?_, fun b h => .inl h, fun b h => .inl h⟩, fun j xs' b h1 h2 => .inl ?_⟩⟩
    · by_cases e : b = a
      · rw [e, upd_same]; exact ⟨_, rfl⟩
      · rw [upd_ne e]; exact R.st.held b h
    · rw [upd_ne (nφ b (List.mem_of_getElem? h1))]
      exact R.st.wr.at_ n b ns h1 h2
    · by_cases e : i = j
      · subst e
        rw [getElem?_set_eq li] at h
        cases h
        rw [hs]
        exact .own hp hn hb upd_same hz (RpL.cr c _ _ hd)
      · rw [getElem?_set_other e] at h
        have t0 := R.sl j _ h
        generalize hg : σ[j]? = o at t0
        cases t0 with
        | non => exact .non _
        | @rng b n hr => exact .rng (by rw [upd_ne (fun z => by rw [z, ha] at hr; cases hr)]; exact hr)
        | @val x v r =>
          refine .val ?_
          cases v with
          | d d => exact Rp.cr c _ _ r
          | loc n => exact r
        | @own b us' ds' bp bn bb bh bz bd =>
          have ne : b ≠ a := fun z => e (R.un i j _ _ a hi h hs (by rw [hg, z]))
          exact .own bp bn bb (by rw [upd_ne ne]; exact bh) bz (RpL.cr c _ _ bd)
    · have g : ∀ {k : Nat} {zs : List PyData}, (env.set i (.own ys))[k]? = some (.own zs) → ∃ zs', env[k]? = some (.own zs') := fun {k zs} h => by
        by_cases e : i = k
        · exact ⟨xs, e ▸ hi⟩
        · rw [getElem?_set_other e] at h
          exact ⟨_, h⟩
      obtain ⟨_, g1⟩ := g h1
      obtain ⟨_, g2⟩ := g h2
      exact R.un j k _ _ b g1 g2 e1 e2
    · rw [upd_ne fun e => z ⟨i, hM, xs, hi, by rw [e]; exact hs⟩]
      exact h
    · by_cases e : b = a
      · rw [e, upd_same] at h; cases h
      · rw [upd_ne e] at h; exact h
    · by_cases e : i = j
      · subst e
        exact ⟨xs, hi, h2⟩
      · rw [getElem?_set_other e] at h1
        exact ⟨_, h1, h2⟩
theorem nodup_ix {l : List Addr} (h : l.Nodup) {i j : Nat} (hi : i < l.length) (hj : j < l.length) (e : l[i] = l[j]) : i = j := by
  rcases Nat.lt_trichotomy i j with q | q | q
  · exact absurd e (List.pairwise_iff_getElem.mp h i j hi hj q)
  · exact q
  · exact absurd e.symm (List.pairwise_iff_getElem.mp h j i hj hi q)
/-- a well is changed -/
theorem rel_well (R : Rel p env w φ P σ H) {n : Nat} {a : Addr} {ns ms : List Int} (ha : φ[n]? = some a) (hw : w[n]? = some ns) (hz : ms.length ≤ sizeLine) :
    Rel p env (w.set n ms) φ P σ (upd H a (.lst (ms.map V.int))) ∧ EvS M env σ φ P H env σ φ P (upd H a (.lst (ms.map V.int))) := by
  obtain ⟨h0, z0⟩ := R.st.wr.at_ n a ns ha hw
  have aφ : a ∈ φ := List.mem_of_getElem? ha
  have c : Cr H P (upd H a (.lst (ms.map V.int))) P := cr_write h0 (R.st.wr.av a aφ)
  refine ⟨⟨⟨fun b h => ?_, ⟨by rw [List.length_set]; exact R.st.wr.len, fun k b ks h1 h2 => ?_, R.st.wr.av, R.st.wr.nd⟩⟩, fun j t h => ?_, R.un, R.len, R.bP⟩, .less ⟨⟨[], by simp⟩, fun b o h nb z => ?_, fun b h => ?_, fun b h => .inl h, fun b h => .inl h⟩ Less.refl⟩
  · by_cases e : b = a
    · rw [e, upd_same]; exact ⟨_, rfl⟩
    · rw [upd_ne e]; exact R.st.held b h
  · by_cases e : n = k
    · subst e
      rw [ha] at h1
      cases h1
      rw [getElem?_set_eq (lt_of_get hw)] at h2
      cases h2
      exact ⟨upd_same, hz⟩
    · rw [getElem?_set_other e] at h2
      have ne : b ≠ a := fun q => e (by
        subst q
        obtain ⟨l1, q1⟩ := List.getElem?_eq_some_iff.mp ha
        obtain ⟨l2, q2⟩ := List.getElem?_eq_some_iff.mp h1
        exact (nodup_ix R.st.wr.nd l1 l2 (q1.trans q2.symm)))
      rw [upd_ne ne]
      exact R.st.wr.at_ k b ks h1 h2
  · have t0 := R.sl j _ h
    generalize hg : σ[j]? = o at t0
    cases t0 with
    | non => exact .non _
    | @rng b n hr => exact .rng (by rw [upd_ne (fun z => by rw [z, h0] at hr; cases hr)]; exact hr)
    | @val x v r =>
      refine .val ?_
      cases v with
      | d d => exact Rp.cr c _ _ r
      | loc n => exact r
    | @own b us' ds' bp bn bb bh bz bd =>
      have ne : b ≠ a := fun z => bn (z ▸ aφ)
      exact .own bp bn bb (by rw [upd_ne ne]; exact bh) bz (RpL.cr c _ _ bd)
  · rw [upd_ne fun e => nb (by rw [e]; exact aφ)]
    exact h
  · by_cases e : b = a
    · rw [e, upd_same] at h; cases h
    · rw [upd_ne e] at h; exact h
theorem Ev2.cr (R : Rel p env w φ P σ H) (E : Ev2 (Ob env σ M) φ P H φ' P' H') : Cr H P H' P' :=
  ⟨fun a vs h n => ⟨E.kp a _ h (fun z => n (R.st.wr.av a z)) (fun z => n (R.es_out z).2.1), fun z => (E.nw a z).elim n (fun q => by rw [h] at q; cases q)⟩,
   fun a o h nl => E.kp a o h (fun z => by
    obtain ⟨us, q⟩ := R.st.lists a z
    rw [h] at q
    exact nl us (Option.some.inj q)) (fun z => by
    obtain ⟨_, _, us, q⟩ := R.es_out z
    rw [h] at q
    exact nl us (Option.some.inj q))⟩
end
end R
end
section
/-! Statements as readings: stores. -/
namespace R
open PySem L2
open PySem.Spec PyProof.Rows
/-- for statements -/
structure XS (X : Cx) : Prop where
  hp : PassesOwn (model X.prog X.w) X.A X.env X.xe
  kind : X.env.scope.kind = .function
def rdS (p : Par) (M : List Nat) (s : S) : TS := fun D σ H => ∃ env w φ P, Rel p env w φ P σ H ∧ AnsS p M (evS p.G p.F p.np s env w) env σ φ P H D
def rdSs (p : Par) (M : List Nat) (s : Ss) : TS := fun D σ H => ∃ env w φ P, Rel p env w φ P σ H ∧ AnsS p M (evSs p.G p.F p.np s env w) env σ φ P H D
theorem PSi {X : Cx} {st : Stmt} {t t' : TS} (h : PS X st t) (i : ∀ D σ H, t' D σ H → t D σ H) : PS X st t' := ⟨fun pins s σ H D I q => h.run pins s σ H D I (i D σ H q)⟩
theorem PSsi {X : Cx} {st : List Stmt} {t t' : TS} (h : PSs X st t) (i : ∀ D σ H, t' D σ H → t D σ H) : PSs X st t' := ⟨fun pins s σ H D I q => h.run pins s σ H D I (i D σ H q)⟩
section
variable {p : Par} {c : Ct} {X : Cx} {M : List Nat} {pe : Expr} {e : E} {pos : Pos}
theorem blk_fn {env : Env} (h : env.scope.kind = .function) : env.blockKind = .function := by
  unfold Env.blockKind
  rw [h]
  rfl
def notDc : Expr → Bool
  | .DictComp .. => false
  | _ => true
/-- the store's order -/
theorem sw_or (hk : X.env.scope.kind = .function) (h : mE c e pe = true) (hdc : notDc pe = true) (y : Str) (py : Pos) (l : Nat) : (swapsWith pe (some (.Name y py)) l X.env = pure false) ∨ (isLc e = true ∧ X.env.scope.names.lookup y = some .local ∧ swapsWith pe (some (.Name y py)) l X.env = pure true) := by
  have hb := blk_fn hk
  cases pe <;> first | exact .inl rfl | (simp [notDc] at hdc; done) | (cases e <;> simp [mE] at h; done) | skip
  rename_i el gs scope q
  have hl : isLc e = true := by cases e <;> first | rfl | (simp [mE] at h; done)
  have key : swapsWith (.ListComp el gs scope q) (some (.Name y py)) l X.env = pure (X.env.blockKind == .function && X.env.kindOf y == some .local && py.line == q.line && !(scope.names.any fun (n, k) => n == y && (k == .local || k == .cell))) := rfl
  rw [key, hb]
  cases hy : X.env.kindOf y with
  | none => exact .inl rfl
  | some k =>
    cases k <;> first | exact .inl rfl | skip
    have hy' : X.env.scope.names.lookup y = some .local := hy
    cases (py.line == q.line) with
    | false => exact .inl rfl
    | true =>
      cases (scope.names.any fun (n, k) => n == y && (k == .local || k == .cell)) with
      | true => exact .inl rfl
      | false => exact .inr ⟨hl, hy', rfl⟩
theorem rdF_of_rdE {σ : L2.St} {H : Hp} {Q : VK} (h : rdE p e σ H Q) : rdF p e σ H Q := by
  obtain ⟨env, w, φ, P, R, A⟩ := h
  refine ⟨env, w, φ, P, R, ?_⟩
  generalize hg : ev p.G p.F p.np env e w = r at A
  cases r with
  | bad => exact A
  | exc c x w' => exact A
  | ok v w' =>
    intro H' φ' P' E W ds a vs ev0 n hp hn ha hz hd
    subst ev0
    obtain ⟨E2, W2⟩ := drop_addr n R.st.held E W hn
    exact A H' φ' _ E2 W2 _ (.lst (.inl ⟨ha, fun z => z.1.2 rfl⟩) hz (RpL.cr (Cr.weak fun x h => ⟨h.1.1, h.2⟩) _ _ hd))
/-- name = value -/
theorem st_name (o : XOk p c.t X) (a : At c X) (xs : XS X) (h : mE c e pe = true) (hdc : notDc pe = true) {i : Nat} {y : Str} {py : Pos} (hi : nmOf c i y = true) (hs : storeB c y = true) : PS X (.Assign [.Name y py] pe pos) (tAsg (rdE p e) (gName i)) ∧ (fresh e = true → PS X (.Assign [.Name y py] pe pos) (tAsg (rdF p e) (gName i))) := by
  have s := sE e o a h
  obtain ⟨l, f⟩ := store_ok' a hs
  rcases sw_or xs.kind h hdc y py pos.line with q | ⟨q1, q2, q3⟩
  · exact ⟨ps_set o.nd (nm_ok a hi) l s.E q f, fun hf => ps_set o.nd (nm_ok a hi) l (s.F hf) q f⟩
  · have L := s.L q1 y py pos i (nm_ok a hi) q2 q3
    exact ⟨PSi L fun D σ H q => rdF_of_rdE q, fun _ => L⟩
theorem rs_asg (o : XOk p c.t X) (a : At c X) (xs : XS X) (h : mE c e pe = true) (hdc : notDc pe = true) {i : Nat} {y : Str} {py : Pos} (hi : nmOf c i y = true) (hs : storeB c y = true) : PS X (.Assign [.Name y py] pe pos) (rdS p M (.asg (.nm i) e)) := by
  refine PSi (st_name o a xs h hdc hi hs).1 fun D σ H ⟨env, w, φ, P, R, A⟩ => ?_
  simp only [evS] at A
  refine ⟨env, w, φ, P, R, (A.bind R.bP).imp fun v w1 φ1 P1 H1 E1 W1 A1 x rx => ?_⟩
  obtain ⟨f, e1, A1⟩ := A1.opt
  simp only [bindV, Option.map_some, Option.some.injEq] at e1
  subst e1
  have R2 := (R.ev E1 W1).dem (esc e)
  obtain ⟨R3, l3⟩ := R2.put (i := i) rx
  exact A1 _ _ _ _ (.less (.sub Av.le) ((dem_less (esc e)).trans l3)) R3
theorem nsw_tup {l : List Expr} {k : Nat} {q : Pos} (n : Nat) : swapsWithSole [.Tuple l k q] pe n X.env = pure false := by
  show swapsWith pe (some (.Tuple l k q)) n X.env = pure false
  cases pe <;> rfl
def notTup : Expr → Bool
  | .Tuple _ _ _ => false
  | _ => true
theorem nss_tup {l : List Expr} {k : Nat} {q : Pos} (h : notTup pe = true) : swappedStores [.Tuple l k q] pe X.env = pure none := by
  cases pe <;> first | rfl | cases h
theorem rs_asgT (o : XOk p c.t X) (a : At c X) (h : mE c e pe = true) {ts : Tgs} {l : List Expr} {k : Nat} {q : Pos} (hg : mTg c (.tup ts) (.Tuple l k q) = true) (hn : notTup pe = true) : PS X (.Assign [.Tuple l k q] pe pos) (rdS p M (.asg (.tup ts) e)) := by
  have g := pg_of a o.calm o.nd hg
  rw [o.K] at g
  refine PSi (ps_asg (sE e o a h).E g (nsw_tup _) (nss_tup hn) rfl) fun D σ H ⟨env, w, φ, P, R, A⟩ => ?_
  simp only [evS] at A
  refine ⟨env, w, φ, P, R, (A.bind R.bP).imp fun v w1 φ1 P1 H1 E1 W1 A1 x rx => ?_⟩
  obtain ⟨f, e1, A1⟩ := A1.opt
  cases v with
  | loc n => simp [bindV] at e1
  | d d =>
    simp only [bindV, Option.map_eq_some_iff] at e1
    obtain ⟨env', e1, rfl⟩ := e1
    have R2 := (R.ev E1 W1).dem (esc e)
    refine bind_ok R2 rx e1 fun σ' R3 l3 so => ?_
    exact A1 _ _ _ _ (.less (.sub Av.le) ((dem_less (esc e)).trans l3)) R3
theorem rs_own (o : XOk p c.t X) (a : At c X) (xs : XS X) (h : mE c e pe = true) (hdc : notDc pe = true) (hf : fresh e = true) {i : Nat} {y : Str} {py : Pos} (hi : nmOf c i y = true) (hs : storeB c y = true) : PS X (.Assign [.Name y py] pe pos) (rdS p M (.own i e)) := by
  refine PSi ((st_name o a xs h hdc hi hs).2 hf) fun D σ H ⟨env, w, φ, P, R, A⟩ => ?_
  simp only [evS] at A
  refine ⟨env, w, φ, P, R, (A.bindB R.bP).imp fun v w1 φ1 P1 H1 E1 W1 A1 ds b vs hv n hp hn ha hz hd => ?_⟩
  subst hv
  have R1 := R.ev E1 W1
  have R2 := R1.dem (esc e)
  have nob : ∀ (j : Nat) (ys : List PyData), env[j]? = some (.own ys) → σ[j]? ≠ some (some (.ref b)) := fun j ys h1 h2 => by
    obtain ⟨_, _, us, q⟩ := R.es_out (l := [j]) (a := b) ⟨j, by simp, ys, h1, h2⟩
    rw [n] at q
    cases q
  have R3 := rel_own (i := i) R2 ⟨hp, fun ⟨j, _, ys, h1, h2⟩ => nob j ys h1 h2⟩ hn (fun q => by
    obtain ⟨us, z⟩ := R.st.held b (R.bP b q)
    rw [n] at z
    cases z) ha hz hd (fun j ys h1 h2 => by
    obtain ⟨q1, _⟩ := dem_less (σ := σ) (esc e) j ys h1
    exact nob j ys q1 h2)
  refine A1 _ _ _ _ ⟨(E1.toS (M := M) (env := env) (σ := σ) (esc e)).e, fun j ys z h1 h2 => ?_⟩ R3
  by_cases q : i = j
  · subst q
    have l : i < σ.length := by
      have := lt_of_get h2
      rwa [List.length_set] at this
    rw [getElem?_set_eq l] at h2
    cases h2
    exact .inr n
  · rw [getElem?_set_other q] at h1 h2
    exact (E1.toS (M := M) (env := env) (σ := σ) (esc e)).mb j ys z h1 h2
/-! ### several at once -/
def notStar : Expr → Bool := noStar
def mPs (c : Ct) : List Pc → List Expr → Bool
  | [], [] => true
  | .val e :: r, x :: l => mE c e x && mPs c r l
  | .own e :: r, x :: l => mE c e x && fresh e && mPs c r l
  | _, _ => false
inductive PcR (K : PySem.W.Frag) (H0 H : Hp) (P Z : AO) (φ : List Addr) : List V → List Slot → List Addr → Prop
  | nil : PcR K H0 H P Z φ [] [] []
  | val {x : V} {xs : List V} {v : Vl} {ss : List Slot} {as : List Addr} (h : RpV K H Z φ x v) (t : PcR K H0 H P Z φ xs ss as) : PcR K H0 H P Z φ (x :: xs) (.val v :: ss) as
  | own {a : Addr} {vs : List V} {ds : List PyData} {xs : List V} {ss : List Slot} {as : List Addr} (n : H0 a = none) (hp : P a) (hn : a ∉ φ) (na : a ∉ as) (h : H a = some (.lst vs)) (hz : vs.length ≤ sizeLine) (hd : RpL K H Z vs ds) (t : PcR K H0 H P Z φ xs ss as) : PcR K H0 H P Z φ (.ref a :: xs) (.own ds :: ss) (a :: as)
def rdP (p : Par) (ps : List Pc) : TA := fun σ H Q => ∃ env w φ P, Rel p env w φ P σ H ∧ Ans p (evP p.G p.F p.np env ps w) φ P H fun ss _ φ' P' H' => ∀ xs as, PcR p.K H H' P' (Av P' env σ (escP ps)) φ' xs ss as → Q xs H'
theorem PcR.fresh {K : PySem.W.Frag} {H0 H : Hp} {P Z : AO} {φ : List Addr} {xs : List V} {ss : List Slot} {as : List Addr} (h : PcR K H0 H P Z φ xs ss as) : ∀ a ∈ as, H0 a = none := by
  induction h with
  | nil => intro a h; cases h
  | val _ _ ih => exact ih
  | own n _ _ _ _ _ _ _ ih =>
    intro b hb
    rcases List.mem_cons.mp hb with rfl | hb
    · exact n
    · exact ih b hb
theorem PcR.mono {K : PySem.W.Frag} {H0 H0' H : Hp} {P Z Z' : AO} {φ : List Addr} {xs : List V} {ss : List Slot} {as : List Addr} (h : PcR K H0 H P Z φ xs ss as) (h0 : ∀ a, H0 a = none → H0' a = none) (hz : ∀ a, Z' a → Z a) : PcR K H0' H P Z' φ xs ss as := by
  induction h with
  | nil => exact .nil
  | val r _ ih => exact .val (r.weak hz) ih
  | own n hp hn na ha hs hd _ ih => exact .own (h0 _ n) hp hn na ha hs (RpL.cr (Cr.weak hz) _ _ hd) ih
theorem rp_nil : PA X [] (rdP p []) := PAi L2.pa_nil fun σ H Q ⟨env, w, φ, P, R, A⟩ => by
  simp only [evP] at A
  exact A.here R.st _ [] .nil
theorem rp_val {x : Expr} {ps : List Pc} {l : List Expr} (hs : noStar x = true) (h1 : PE X x (rdE p e)) (h2 : PA X l (rdP p ps)) : PA X (x :: l) (rdP p (.val e :: ps)) := by
  refine PAi (pa_cons' hs h1 h2) fun σ H Q ⟨env, w, φ, P, R, A⟩ => ?_
  simp only [evP] at A
  refine ⟨env, w, φ, P, R, A.bind.imp fun v w1 φ1 P1 H1 E1 W1 A1 x rx => ?_⟩
  have R1 := R.ev E1 W1
  refine ⟨env, w1, φ1, P1, R1, A1.bind.imp fun ss w2 φ2 P2 H2 E2 W2 A2 xs as rxs => ?_⟩
  refine A2.here W2 _ as (.val ((rx.ev E2 W1 (R1.av_phi _) (Av.nw E2)).mono (Av.sub fun i hi => ?_)) (rxs.mono E1.dm (Av.sub fun i hi => ?_))) <;> simp [escP, Pc.esc, hi]
theorem rp_own {x : Expr} {ps : List Pc} {l : List Expr} (hs : noStar x = true) (h1 : PE X x (rdF p e)) (hl : ∀ env w v w', ev p.G p.F p.np env e w = .ok v w' → ∃ ds, v = .d (.list ds)) (h2 : PA X l (rdP p ps)) : PA X (x :: l) (rdP p (.own e :: ps)) := by
  refine PAi (pa_cons' hs h1 h2) fun σ H Q ⟨env, w, φ, P, R, A⟩ => ?_
  simp only [evP] at A
  refine ⟨env, w, φ, P, R, A.bind.imp fun v w1 φ1 P1 H1 E1 W1 A1 ds b vs hv n hp hn ha hz hd => ?_⟩
  subst hv
  have R1 := R.ev E1 W1
  refine ⟨env, w1, φ1, P1, R1, A1.bind.imp fun ss w2 φ2 P2 H2 E2 W2 A2 xs as rxs => ?_⟩
  have nφ2 : b ∉ φ2 := fun z => (E2.nf b z).elim hn fun q => by rw [ha] at q; cases q
  refine A2.here W2 _ (b :: as) (.own n (E2.up b hp) nφ2 (fun z => ?_) (E2.kp b _ ha hn) hz (RpL.cr (Cr.trans (E2.cr W1 (R1.av_phi (esc e)) (Av.nw E2)) (Cr.weak (Av.sub fun i hi => ?_))) _ _ hd) (rxs.mono E1.dm (Av.sub fun i hi => ?_)))
  · have := rxs.fresh b z
    rw [ha] at this
    cases this
  all_goals simp [escP, Pc.esc, hi]
def setV : List Nat → List V → L2.St → L2.St
  | i :: is, x :: xs, σ => setV is xs (σ.set i (some x))
  | _, _, σ => σ
def tgsOf : List Nat → Tgs
  | [] => .nil
  | i :: is => .cons (.nm i) (tgsOf is)
/-- the slots are set -/
theorem set_ok {ss : List Slot} : ∀ {is : List Nat} {xs : List V} {as : List Addr} {env env' : En} {w : Wd} {φ : List Addr} {P : AO} {σ : L2.St} {H H0 : Hp}, Rel p env w φ P σ H → PcR p.K H0 H P P φ xs ss as → (∀ a ∈ as, ¬ p.B a) → (∀ a ∈ as, ∀ (j : Nat) (ys : List PyData), env[j]? = some (.own ys) → σ[j]? ≠ some (some (.ref a))) → setP is ss env = some env' →
    ∃ σ' : L2.St, σ' = setV is xs σ ∧ is.length = xs.length ∧ Rel p env' w φ P σ' H ∧ (∀ Q : L2.St → Hp → Prop, Q σ' H → gTs p.K (tgsOf is) xs σ H Q) ∧ ∀ (i : Nat) (ys : List PyData) (a : Addr), env'[i]? = some (.own ys) → σ'[i]? = some (some (.ref a)) → (∃ zs, env[i]? = some (.own zs) ∧ σ[i]? = some (some (.ref a))) ∨ a ∈ as := by
  induction ss with
  | nil =>
    intro is xs as env env' w φ P σ H H0 R r hB ho e
    cases is with
    | cons i is => simp [setP] at e
    | nil =>
      simp only [setP, Option.some.injEq] at e
      subst e
      cases r
      exact ⟨σ, rfl, rfl, R, fun Q q => ⟨rfl, q⟩, fun i ys a h1 h2 => .inl ⟨ys, h1, h2⟩⟩
  | cons s ss ih =>
    intro is xs as env env' w φ P σ H H0 R r hB ho e
    cases is with
    | nil => simp [setP] at e
    | cons i is =>
      simp only [setP] at e
      cases r with
      | @val x xs v _ _ h t =>
        obtain ⟨R1, l1⟩ := R.put (i := i) h
        obtain ⟨σ', s2, ln, R2, g, m⟩ := ih R1 t hB (fun a ha j ys h1 h2 => by
          obtain ⟨q1, q2⟩ := l1 j ys h1
          exact ho a ha j ys q1 (by rw [← q2]; exact h2)) e
        refine ⟨σ', s2, by rw [List.length_cons, List.length_cons, ln], R2, fun Q q => ⟨_, _, rfl, g Q q⟩, fun j ys a h1 h2 => ?_⟩
        rcases m j ys a h1 h2 with ⟨zs, q1, q2⟩ | q
        · obtain ⟨u1, u2⟩ := l1 j zs q1
          exact .inl ⟨zs, u1, by rw [← u2]; exact q2⟩
        · exact .inr q
      | @own a vs ds xs _ as n hp hn na ha hz hd t =>
        have R1 := rel_own (i := i) R hp hn (hB a (List.mem_cons_self ..)) ha hz hd (ho a (List.mem_cons_self ..))
        have old : ∀ (j : Nat) (ys : List PyData) (b : Addr), (env.set i (.own ds))[j]? = some (.own ys) → (σ.set i (some (.ref a)))[j]? = some (some (.ref b)) → (env[j]? = some (.own ys) ∧ σ[j]? = some (some (.ref b))) ∨ b = a := fun j ys b h1 h2 => by
          by_cases q : i = j
          · subst q
            have l : i < σ.length := by
              have := lt_of_get h2
              rwa [List.length_set] at this
            rw [getElem?_set_eq l] at h2
            cases h2
            exact .inr rfl
          · rw [getElem?_set_other q] at h1 h2
            exact .inl ⟨h1, h2⟩
        obtain ⟨σ', s2, ln, R2, g, m⟩ := ih R1 t (fun b hb => hB b (List.mem_cons_of_mem _ hb)) (fun b hb j ys h1 h2 => by
          rcases old j ys b h1 h2 with ⟨q1, q2⟩ | q
          · exact ho b (List.mem_cons_of_mem _ hb) j ys q1 q2
          · exact na (q ▸ hb)) e
        refine ⟨σ', s2, by rw [List.length_cons, List.length_cons, ln], R2, fun Q q => ⟨_, _, rfl, g Q q⟩, fun j ys b h1 h2 => ?_⟩
        rcases m j ys b h1 h2 with ⟨zs, q1, q2⟩ | q
        · rcases old j zs b q1 q2 with ⟨u1, u2⟩ | u
          · exact .inl ⟨zs, u1, u2⟩
          · exact .inr (by simp [u])
        · exact .inr (List.mem_cons_of_mem _ q)
end
end R
end
section
/-! Statements as readings: several stores at once; items; flow. -/
namespace R
open PySem L2
open PySem.Spec PyProof.Rows
section
variable {p : Par} {c : Ct} {X : Cx} {M : List Nat} {pe : Expr} {e : E} {pos : Pos}
theorem fresh_list {G : List PyData} {F : Fns} {np : Nat → Nat} (h : fresh e = true) : ∀ env w v w', ev G F np env e w = .ok v w' → ∃ ds, v = .d (.list ds) := by
  intro env w v w' q
  cases e <;> first | (simp [fresh] at h; done) | skip
  · simp only [ev] at q
    obtain ⟨us, w1, _, q⟩ := Res.bind_ok q
    cases hd : datas us with
    | none => rw [hd] at q; cases q
    | some ds => rw [hd] at q; cases q; exact ⟨_, rfl⟩
  · simp only [ev] at q
    obtain ⟨us, w1, _, q⟩ := Res.bind_ok q
    obtain ⟨u, w2, _, q⟩ := Res.bind_ok q
    split at q
    · split at q
      · cases q; exact ⟨_, rfl⟩
      · cases q
    · cases q
  · rename_i f es
    cases f <;> first | (simp [fresh] at h; done) | skip
    simp only [ev] at q
    obtain ⟨us, w1, _, q⟩ := Res.bind_ok q
    cases hd : datas us with
    | none => rw [hd] at q; cases q
    | some ds =>
      rw [hd] at q
      simp only [Option.bind_some] at q
      match ds, q with
      | [d], q =>
        simp only [biV] at q
        cases hs : asSeq d with
        | none => rw [hs] at q; cases q
        | some xs => rw [hs] at q; cases q; exact ⟨_, rfl⟩
      | [], q => simp [biV, ofOpt] at q
      | _ :: _ :: _, q => simp [biV, ofOpt] at q
  · rename_i tup a
    cases tup <;> first | (simp [fresh] at h; done) | skip
    simp only [ev] at q
    obtain ⟨u, w1, _, q⟩ := Res.bind_ok q
    obtain ⟨d, w2, _, q⟩ := Res.bind_ok q
    cases d <;> first | (cases q; done) | skip
    simp only at q
    split at q
    · cases q; exact ⟨_, rfl⟩
    · cases q
  · simp only [ev] at q
    obtain ⟨us, w1, _, q⟩ := Res.bind_ok q
    obtain ⟨ys, w2, _, q⟩ := Res.bind_ok q
    cases q
    exact ⟨_, rfl⟩
  · simp only [ev] at q
    obtain ⟨us, w1, _, q⟩ := Res.bind_ok q
    obtain ⟨ys, w2, _, q⟩ := Res.bind_ok q
    cases q
    exact ⟨_, rfl⟩
theorem ps_of (o : XOk p c.t X) (a : At c X) : ∀ {ps : List Pc} {l : List Expr}, mPs c ps l = true → PA X l (rdP p ps) ∧ l.all noStar = true
  | [], [], _ => ⟨rp_nil, rfl⟩
  | .val e :: r, x :: l, h => by
    simp only [mPs, Bool.and_eq_true] at h
    obtain ⟨t, u⟩ := ps_of o a h.2
    exact ⟨rp_val (m_star h.1) (sE e o a h.1).E t, by simp [m_star h.1, u]⟩
  | .own e :: r, x :: l, h => by
    simp only [mPs, Bool.and_eq_true] at h
    obtain ⟨t, u⟩ := ps_of o a h.2
    exact ⟨rp_own (m_star h.1.1) ((sE e o a h.1.1).F h.1.2) (fresh_list h.1.2) t, by simp [m_star h.1.1, u]⟩
  | [], _ :: _, h => by simp [mPs] at h
  | .val _ :: _, [], h => by simp [mPs] at h
  | .own _ :: _, [], h => by simp [mPs] at h
theorem PcR.cr {K : PySem.W.Frag} {H0 H H' : Hp} {P Z : AO} {φ : List Addr} {xs : List V} {ss : List Slot} {as : List Addr} (h : PcR K H0 H P Z φ xs ss as) (k : Kp H H') : PcR K H0 H' P Z φ xs ss as := by
  have c : Cr H Z H' Z := Cr.kp k fun _ h => .inl h
  induction h with
  | nil => exact .nil
  | @val x xs v ss as r _ ih =>
    refine .val ?_ ih
    cases v with
    | d d => exact Rp.cr c _ _ r
    | loc n => exact r
  | own n hp hn na ha hz hd _ ih => exact .own n hp hn na (k _ _ ha) hz (RpL.cr c _ _ hd) ih
theorem PcR.top {K : PySem.W.Frag} {H0 H : Hp} {P Z Z' : AO} {φ : List Addr} {xs : List V} {ss : List Slot} {as : List Addr} (h : PcR K H0 H P Z φ xs ss as) (g : ∀ a, Z' a → Z a) (hp : ∀ a, P a → H0 a = none → Z' a) : PcR K H0 H Z' Z' φ xs ss as := by
  induction h with
  | nil => exact .nil
  | val r _ ih => exact .val (r.weak g) ih
  | own n h1 hn na ha hz hd _ ih => exact .own n (hp _ h1 n) hn na ha hz (RpL.cr (Cr.weak g) _ _ hd) ih
/-- what is common to both orders of storing -/
theorem par_ok {is : List Nat} {ps : List Pc} {env : En} {w : Wd} {φ : List Addr} {P : AO} {σ : L2.St} {H : Hp} {D : Ends} (R : Rel p env w φ P σ H) (A : AnsS p M (evS p.G p.F p.np (.par is ps) env w) env σ φ P H D) :
    Ans p (evP p.G p.F p.np env ps w) φ P H fun ss _ φ' P' H' => ∀ xs as, PcR p.K H H' P' (Av P' env σ (escP ps)) φ' xs ss as → is.length = xs.length ∧ ∀ H2, Kp H' H2 → D.nx (setV is xs σ) H2 ∧ gTs p.K (tgsOf is) xs σ H2 D.nx := by
  simp only [evS] at A
  refine (A.bindB R.bP).imp fun ss w1 φ1 P1 H1 E1 W1 A1 xs as r => ?_
  obtain ⟨f, e1, A1⟩ := A1.opt
  simp only [Option.map_eq_some_iff] at e1
  obtain ⟨env', e1, rfl⟩ := e1
  have nob : ∀ b, H b = none → ∀ (j : Nat) (ys : List PyData), env[j]? = some (.own ys) → σ[j]? ≠ some (some (.ref b)) := fun b n j ys h1 h2 => by
    obtain ⟨_, _, us, q⟩ := R.es_out (l := [j]) (a := b) ⟨j, by simp, ys, h1, h2⟩
    rw [n] at q
    cases q
  have key : ∀ H2, Kp H1 H2 → is.length = xs.length ∧ D.nx (setV is xs σ) H2 ∧ gTs p.K (tgsOf is) xs σ H2 D.nx := fun H2 k => by
    have E2 : Ev φ1 P1 H1 φ1 P1 H2 := .of_kp k
    have R1 := (R.ev E1 W1).ev E2 (W1.kp k)
    have R2 := R1.dem (escP ps)
    have r2 := (r.cr k).top (Z' := Av P1 env σ (escP ps)) (fun _ h => h) fun a h n => ⟨h, fun ⟨j, _, ys, h1, h2⟩ => nob a n j ys h1 h2⟩
    obtain ⟨σ', s1, ln, R3, g, m⟩ := set_ok R2 r2 (fun b hb q => by
      obtain ⟨us, z⟩ := R.st.held b (R.bP b q)
      rw [r.fresh b hb] at z
      cases z) (fun b hb j ys h1 h2 => by
      obtain ⟨q1, _⟩ := dem_less (σ := σ) (escP ps) j ys h1
      exact nob b (r.fresh b hb) j ys q1 h2) e1
    have T := (E1.trans E2).toS (M := M) (env := env) (σ := σ) (escP ps)
    have fin : D.nx σ' H2 := A1 _ _ _ _ ⟨T.e, fun j ys z h1 h2 => by
      rcases m j ys z h1 h2 with ⟨zs, q1, q2⟩ | q
      · exact T.mb j zs z q1 q2
      · exact .inr (r.fresh z q)⟩ R3
    exact ⟨ln, by rw [← s1]; exact fin, g _ fin⟩
  exact ⟨(key H1 Kp.refl).1, fun H2 k => (key H2 k).2⟩
theorem tgs_len : ∀ is : List Nat, (tgsOf is).len = is.length
  | [] => rfl
  | _ :: r => congrArg (· + 1) (tgs_len r)
/-- stored from the left -/
theorem rs_parL (o : XOk p c.t X) (a : At c X) {is : List Nat} {ps : List Pc} {ts vs : List Expr} {k k2 : Nat} {q q2 : Pos} (hp : mPs c ps vs = true) (hl : ts.length ≤ 1000) (hg : mTg c (.tup (tgsOf is)) (.Tuple ts k q) = true) (hw : swappedStores [.Tuple ts k q] (.Tuple vs k2 q2) X.env = pure none) :
    PS X (.Assign [.Tuple ts k q] (.Tuple vs k2 q2) pos) (rdS p M (.par is ps)) := by
  have g := pg_of a o.calm o.nd hg
  rw [o.K] at g
  obtain ⟨ha, hs⟩ := ps_of o a hp
  refine PSi (ps_asg (pe_tup ha) g (nsw_tup _) hw rfl) fun D σ H ⟨env, w, φ, P, R, A⟩ => ?_
  refine ⟨env, w, φ, P, R, (par_ok R A).imp fun ss w1 φ1 P1 H1 E1 W1 T xs as r => ?_⟩
  obtain ⟨ln, T⟩ := T xs as r
  have hmt := mTgs_len (c := c) (by simpa only [mTg] using hg)
  have z : xs.length ≤ sizeLine := by
    rw [← ln, ← tgs_len, ← hmt]
    exact small_le hl
  refine ⟨z, fun b nb => ?_⟩
  exact ⟨.t, b, xs, rfl, .of upd_same, by rw [tgs_len, ln], (T _ (Kp.upd nb)).2⟩
theorem star_any : ∀ x : Expr, noStar x = true → (match x with
    | .Starred _ _ => true
    | _ => false) = false := by
  intro x h
  cases x <;> first | rfl | cases h
/-- stored from the right -/
def sw2 (sc : Scope) (x y : Str) (px py : Pos) (a b : Expr) : Bool :=
  decide (sc.names.lookup x = some .local) && decide (sc.names.lookup y = some .local) && (py.line == px.line) && !(x == y) && noStar a && noStar b && !(foldedForSure 8 a && foldedForSure 8 b) && !(constantsAlone 8 a && constantsAlone 8 b)
theorem sst2 {env : Env} {x y : Str} {px py pt pt2 : Pos} {a b : Expr} {k k2 : Nat} (hk : env.scope.kind = .function) (h : sw2 env.scope x y px py a b = true) : swappedStores [.Tuple [.Name x px, .Name y py] k pt] (.Tuple [a, b] k2 pt2) env = pure (some [x, y]) := by
  unfold sw2 at h
  simp only [Bool.and_eq_true, decide_eq_true_eq, Bool.not_eq_true'] at h
  obtain ⟨⟨⟨⟨⟨⟨⟨h1, h2⟩, h3⟩, h4⟩, h5⟩, h6⟩, h7⟩, h8⟩ := h
  have k1 : env.kindOf x = some .local := h1
  have k2' : env.kindOf y = some .local := h2
  have kb := blk_fn hk
  have e1 := star_any a h5
  have e2 := star_any b h6
  have h3' : py.line = px.line := by simpa using h3
  have l1 : (px.line == px.line) = true := by simp
  have l2 : ((y == x) = false) := by
    rw [← h4]
    exact Bool.beq_comm ..
  unfold swappedStores
  simp [kb, k1, k2', h3', e1, e2, h7, h8, Expr.pos, List.eraseDups, List.eraseDupsBy, List.eraseDupsBy.loop, l2, h4]
  intro h
  rcases h with h | h
  · exact absurd (e1.symm.trans h) Bool.false_ne_true
  · exact absurd (e2.symm.trans h) Bool.false_ne_true
def sw3 (sc : Scope) (x y z : Str) (px py pz : Pos) (a b d : Expr) : Bool :=
  decide (sc.names.lookup x = some .local) && decide (sc.names.lookup y = some .local) && decide (sc.names.lookup z = some .local) && (py.line == px.line) && (pz.line == px.line) && !(x == y) && !(x == z) && !(y == z) && noStar a && noStar b && noStar d &&
    !(foldedForSure 8 a && (foldedForSure 8 b && foldedForSure 8 d)) && !(constantsAlone 8 a && (constantsAlone 8 b && constantsAlone 8 d))
theorem sst3 {env : Env} {x y z : Str} {px py pz pt pt2 : Pos} {a b d : Expr} {k k2 : Nat} (hk : env.scope.kind = .function) (h : sw3 env.scope x y z px py pz a b d = true) : swappedStores [.Tuple [.Name x px, .Name y py, .Name z pz] k pt] (.Tuple [a, b, d] k2 pt2) env = pure (some [x, y, z]) := by
  unfold sw3 at h
  simp only [Bool.and_eq_true, decide_eq_true_eq, Bool.not_eq_true'] at h
  obtain ⟨⟨⟨⟨⟨⟨⟨⟨⟨⟨⟨⟨h1, h2⟩, h3⟩, h4⟩, h5⟩, h6⟩, h7⟩, h8⟩, h9⟩, h10⟩, h11⟩, h12⟩, h13⟩ := h
  have k1 : env.kindOf x = some .local := h1
  have k2' : env.kindOf y = some .local := h2
  have k3 : env.kindOf z = some .local := h3
  have kb := blk_fn hk
  have e1 := star_any a h9
  have e2 := star_any b h10
  have e3 := star_any d h11
  have h4' : py.line = px.line := by simpa using h4
  have h5' : pz.line = px.line := by simpa using h5
  have l2 : ((y == x) = false) := by
    rw [← h6]
    exact Bool.beq_comm ..
  have l3 : ((z == x) = false) := by
    rw [← h7]
    exact Bool.beq_comm ..
  have l4 : ((z == y) = false) := by
    rw [← h8]
    exact Bool.beq_comm ..
  unfold swappedStores
  simp [kb, k1, k2', k3, h4', h5', e1, e2, e3, h12, h13, Expr.pos, List.eraseDups, List.eraseDupsBy, List.eraseDupsBy.loop, l2, l3, l4, h6, h7, h8]
  intro h
  rcases h with h | h | h
  · exact absurd (e1.symm.trans h) Bool.false_ne_true
  · exact absurd (e2.symm.trans h) Bool.false_ne_true
  · exact absurd (e3.symm.trans h) Bool.false_ne_true
theorem Loc.name {sc : Scope} {x : Str} (h : sc.names.lookup x = some .local) : Loc sc x := .inl h
theorem nsw2 {l : List Expr} {k k2 : Nat} {q q2 : Pos} {vs : List Expr} (n : Nat) : swapsWithSole [.Tuple l k q] (.Tuple vs k2 q2) n X.env = pure false := nsw_tup n
theorem ne_of_beq {x y : Str} (h : (x == y) = false) : x ≠ y := by
  intro e
  subst e
  simp at h
theorem ix_ne {N : List Str} {i j : Nat} {x y : Str} (h1 : N[i]? = some x) (h2 : N[j]? = some y) (h : x ≠ y) : i ≠ j := fun e => by
  subst e
  rw [h1] at h2
  exact h (Option.some.inj h2)
theorem rs_par2 (o : XOk p c.t X) (a : At c X) (xs : XS X) {i j : Nat} {ps : List Pc} {x y : Str} {px py q q2 : Pos} {k k2 : Nat} {b1 b2 : Expr} (hp : mPs c ps [b1, b2] = true) (hi : nmOf c i x = true) (hj : nmOf c j y = true) (h : sw2 c.sc x y px py b1 b2 = true) :
    PS X (.Assign [.Tuple [.Name x px, .Name y py] k q] (.Tuple [b1, b2] k2 q2) pos) (rdS p M (.par [i, j] ps)) := by
  obtain ⟨ha, hs⟩ := ps_of o a hp
  rw [← a.sc] at h
  have hw := sst2 (pt := q) (pt2 := q2) (k := k) (k2 := k2) xs.kind h
  unfold sw2 at h
  simp only [Bool.and_eq_true, decide_eq_true_eq, Bool.not_eq_true'] at h
  obtain ⟨⟨⟨⟨⟨⟨⟨h1, h2⟩, h3⟩, h4⟩, h5⟩, h6⟩, h7⟩, h8⟩ := h
  refine PSi (ps_par o.calm o.nd (nm_ok a hi) (nm_ok a hj) (ix_ne (nm_ok a hi) (nm_ok a hj) (ne_of_beq h4)) h1 h2 ha hw (nsw2 _)) fun D σ H ⟨env, w, φ, P, R, A⟩ => ?_
  refine ⟨env, w, φ, P, R, (par_ok R A).imp fun ss w1 φ1 P1 H1 E1 W1 T xs as r => ?_⟩
  obtain ⟨ln, T⟩ := T xs as r
  match xs, ln with
  | [u, v], _ => exact ⟨u, v, rfl, (T H1 Kp.refl).1⟩
theorem rs_par3 (o : XOk p c.t X) (a : At c X) (xs : XS X) {i j l : Nat} {ps : List Pc} {x y z : Str} {px py pz q q2 : Pos} {k k2 : Nat} {b1 b2 b3 : Expr} (hp : mPs c ps [b1, b2, b3] = true) (hi : nmOf c i x = true) (hj : nmOf c j y = true) (hl : nmOf c l z = true) (h : sw3 c.sc x y z px py pz b1 b2 b3 = true) :
    PS X (.Assign [.Tuple [.Name x px, .Name y py, .Name z pz] k q] (.Tuple [b1, b2, b3] k2 q2) pos) (rdS p M (.par [i, j, l] ps)) := by
  obtain ⟨ha, hs⟩ := ps_of o a hp
  rw [← a.sc] at h
  have hw := sst3 (pt := q) (pt2 := q2) (k := k) (k2 := k2) xs.kind h
  unfold sw3 at h
  simp only [Bool.and_eq_true, decide_eq_true_eq, Bool.not_eq_true'] at h
  obtain ⟨⟨⟨⟨⟨⟨⟨⟨⟨⟨⟨⟨h1, h2⟩, h3⟩, h4⟩, h5⟩, h6⟩, h7⟩, h8⟩, h9⟩, h10⟩, h11⟩, h12⟩, h13⟩ := h
  have n1 := nm_ok a hi
  have n2 := nm_ok a hj
  have n3 := nm_ok a hl
  refine PSi (ps_par3 o.calm o.nd n1 n2 n3 (ix_ne n1 n2 (ne_of_beq h6)) (ix_ne n1 n3 (ne_of_beq h7)) (ix_ne n2 n3 (ne_of_beq h8)) h1 h2 h3 ha hw (nsw2 _)) fun D σ H ⟨env, w, φ, P, R, A⟩ => ?_
  refine ⟨env, w, φ, P, R, (par_ok R A).imp fun ss w1 φ1 P1 H1 E1 W1 T xs as r => ?_⟩
  obtain ⟨ln, T⟩ := T xs as r
  match xs, ln with
  | [u, v, t], _ => exact ⟨u, v, t, rfl, (T H1 Kp.refl).1⟩
/-- not swapped: some name is no local, or more than three -/
def plainP (sc : Scope) (ts vs : List Expr) : Bool := (!(decide (ts.length = 2) || decide (ts.length = 3))) || (vs.length != ts.length) || vs.all (foldedForSure 8) && vs.all noStar || (ts.any fun e => match e with
  | .Name x _ => !decide (sc.names.lookup x = some .local)
  | _ => false) && vs.all noStar
theorem fm_lt {α β : Type} {f : α → Option β} : ∀ {l : List α}, (∃ e ∈ l, f e = none) → (l.filterMap f).length < l.length
  | [], ⟨e, h, _⟩ => by cases h
  | x :: l, ⟨e, h, q⟩ => by
    rcases List.mem_cons.mp h with rfl | h
    · rw [List.filterMap_cons, q]
      exact Nat.lt_succ_of_le (List.length_filterMap_le ..)
    · have ih := fm_lt ⟨e, h, q⟩
      rw [List.filterMap_cons]
      split
      · exact Nat.lt_succ_of_lt ih
      · exact Nat.succ_lt_succ ih
theorem plain_none {env : Env} {ts vs : List Expr} {k k2 : Nat} {q q2 : Pos} (hk : env.scope.kind = .function) (h : plainP env.scope ts vs = true) : swappedStores [.Tuple ts k q] (.Tuple vs k2 q2) env = pure none := by
  have kb := blk_fn hk
  unfold plainP at h
  unfold swappedStores
  simp only [kb]
  split
  · rfl
  · rename_i n1
    split
    · rfl
    · rename_i n2
      split
      · rfl
      · rename_i n3
        split
        · rfl
        · rename_i n4
          exfalso
          have g1 : ts.length = 2 ∨ ts.length = 3 := by
            rcases Nat.decEq ts.length 2 with q | q
            · rcases Nat.decEq ts.length 3 with q' | q'
              · exact absurd (by simp [q, q']) n1
              · exact .inr q'
            · exact .inl q
          have g2 : vs.length = ts.length := by
            rcases Nat.decEq vs.length ts.length with q | q
            · exact absurd (by simp [q]) n1
            · exact q
          simp only [Bool.or_eq_true, Bool.and_eq_true, Bool.not_eq_true', Bool.or_eq_false_iff, decide_eq_false_iff_not, bne_iff_ne, ne_eq] at h
          rcases h with ((h | h) | h) | h
          · rcases g1 with q | q
            · exact h.1 q
            · exact h.2 q
          · exact h g2
          · exact n4 h.1
          · obtain ⟨e, he, hx⟩ := List.any_eq_true.mp h.1
            have lt := fm_lt (f := fun x => match x with
              | .Name id pos => if env.kindOf id == some .local && pos.line == (ts.head?.map (·.pos.line)).getD 0 then some id else none
              | _ => none) ⟨e, he, by
                cases e <;> first | (simp at hx; done) | skip
                rename_i x px
                simp only [Bool.not_eq_true', decide_eq_false_iff_not] at hx
                have : (env.kindOf x == some .local) = false := by
                  cases hk : env.kindOf x with
                  | none => rfl
                  | some k =>
                    cases k <;> first | rfl | (exact absurd hk hx)
                simp [this]⟩
            apply n3
            rw [Bool.or_eq_true]
            left
            rw [bne_iff_ne]
            exact Nat.ne_of_lt lt
end
end R
end
section
/-! Statements as readings: items, methods, flow. -/
namespace R
open PySem L2
open PySem.Spec PyProof.Rows
section
variable {p : Par} {c : Ct} {X : Cx} {M : List Nat} {pe pe2 : Expr} {e a2 : E} {pos : Pos}
theorem AnsS.dat {v : Vl} {w w' : Wd} {f : PyData → Wd → Res Fl} {env : En} {σ : L2.St} {φ φ' : List Addr} {P P' : AO} {H H' : Hp} {D : Ends} (A : AnsS p M ((asD v w).bind f) env σ φ P H D) : ∃ d, v = .d d ∧ AnsS p M (f d w) env σ φ P H D := by
  cases v with
  | d d => exact ⟨d, rfl, A⟩
  | loc n => exact A.elim
theorem AnsS.opt' {α : Type} {o : Option α} {w : Wd} {f : α → Wd → Res Fl} {env : En} {σ : L2.St} {φ : List Addr} {P : AO} {H : Hp} {D : Ends} (A : AnsS p M ((ofOpt o w).bind f) env σ φ P H D) : ∃ d, o = some d ∧ AnsS p M (f d w) env σ φ P H D := by
  cases o with
  | some d => exact ⟨d, rfl, A⟩
  | none => exact A.elim
theorem getV_at {env : En} {w : Wd} {φ : List Addr} {P : AO} {σ : L2.St} {H : Hp} (R : Rel p env w φ P σ H) {i : Nat} {v : Vl} (h : getV env i = some v) : ∃ x, σ[i]? = some (some x) := by
  rcases getV_some h with e1 | ⟨xs, e1, _⟩
  · have s := R.sl i _ e1
    generalize hg : σ[i]? = o at s
    cases s with
    | val _ => exact ⟨_, rfl⟩
  · have s := R.sl i _ e1
    generalize hg : σ[i]? = o at s
    cases s with
    | own => exact ⟨_, rfl⟩
theorem raw_var (a : At c X) {i : Nat} {x : Str} {q : Pos} (h1 : nmOf c i x = true) (h2 : visB c.sc x = true) (h3 : okName x = true) : PE X (.Name x q) (tVar i) := by
  have n := okn h3
  have hv := vis_ok h2
  rw [← a.sc] at hv
  exact pe_var (nm_ok a h1) hv n.d n.cd
theorem ixN_of {n : Nat} {k : Int} (h : 0 ≤ k) (l : k.toNat < n) : ixN n k = some k.toNat := by
  unfold ixN
  rw [if_pos h, if_pos (by omega)]
/-- an item of a list of own, or of a well -/
theorem slot_put {env env' : En} {w w' : Wd} {φ : List Addr} {P : AO} {σ : L2.St} {H : Hp} {i : Nat} {k y : PyData} {x : V} {kx : V} {b : V} {PK : AO} {Q : Hp → Prop} (R : Rel p env w φ P σ H) (hi : i ∈ M) (hs : σ[i]? = some (some b)) (rk : Rp p.K H PK kx k) (ry : Rp p.K H P x y) (h : slotPut env w i k y = some (env', w'))
    (q : ∀ H', Rel p env' w' φ P σ H' → EvS M env σ φ P H env' σ φ P H' → Q H') : rSetL b kx x H Q := by
  unfold slotPut at h
  split at h
  · rename_i xs hx
    simp only [Option.map_eq_some_iff] at h
    obtain ⟨zs, h1, h2⟩ := h
    cases h2
    cases k <;> first | (simp [putV] at h1; done) | skip
    rename_i kk
    cases rk
    have s := R.sl i _ hx
    rw [hs] at s
    simp only [putV] at h1
    by_cases h0 : 0 ≤ kk
    · rw [if_pos h0] at h1
      by_cases hl : kk < xs.length
      · rw [if_pos hl] at h1
        obtain rfl := Option.some.inj h1
        generalize hb : some (some b) = ob at s
        cases s with
        | own hp hn hb2 ha hz hd =>
          cases hb
          have ll := hd.length
          have hz2 := hz
          rw [← List.length_set (i := kk.toNat) (a := x)] at hz2
          obtain ⟨R2, E2⟩ := rel_mut (M := M) R hx hs hz2 (hd.set ry kk.toNat) hi
          exact ⟨_, _, kk, kk.toNat, rfl, rfl, ha, ixN_of h0 (by omega), q _ R2 E2⟩
      · rw [if_neg hl] at h1
        cases h1
    · rw [if_neg h0] at h1
      cases h1
  · rename_i n hx
    have s := R.sl i _ hx
    rw [hs] at s
    split at h
    · rename_i ns kk m hw
      split at h
      · rename_i hc
        simp only [Bool.and_eq_true, decide_eq_true_eq] at hc
        cases h
        cases rk
        cases ry
        generalize hb : some (some b) = ob at s
        cases s with
        | val r =>
          cases hb
          obtain ⟨aa, h1, rfl⟩ := r
          obtain ⟨h2, h3⟩ := R.st.wr.at_ n aa ns h1 hw
          have hz2 := h3
          rw [← List.length_set (i := kk.toNat) (a := m)] at hz2
          obtain ⟨R2, E2⟩ := rel_well (M := M) R h1 hw hz2
          rw [List.map_set] at R2 E2
          exact ⟨aa, _, kk, kk.toNat, rfl, rfl, h2, ixN_of hc.1 (by rw [List.length_map]; omega), q _ R2 E2⟩
      · cases h
    · cases h
  · cases h
theorem nsw_sub {o i : Expr} {q : Pos} (n : Nat) : swapsWithSole [.Subscript o i q] pe n X.env = pure false := by
  show swapsWith pe (some (.Subscript o i q)) n X.env = pure false
  cases pe <;> rfl
theorem nss_sub {o i : Expr} {q : Pos} : swappedStores [.Subscript o i q] pe X.env = pure none := by
  cases pe <;> rfl
theorem asg_sub {o i : Expr} {q : Pos} (h : mE c e i = true) : ∀ v, assign (.Subscript o i q) X.env v = (do
      let ov ← holding [v] (eval o X.env)
      let iv ← holding [v, ov] (eval i X.env)
      standAt q
      holding [v, ov, iv] (setItem ov iv v)
      release [v, ov, iv] []) := by
  intro v
  cases i <;> first | rfl | (rw [mE_slice] at h; cases h)
theorem rs_put (o : XOk p c.t X) (a : At c X) {i : Nat} {x : Str} {q q2 : Pos} (hM : i ∈ M) (h : mE c e pe = true) (h2 : mE c a2 pe2 = true) (h3 : nmOf c i x = true) (h4 : visB c.sc x = true) (h5 : okName x = true) : PS X (.Assign [.Subscript (.Name x q) pe2 q2] pe pos) (rdS p M (.put i a2 e)) := by
  refine PSi (ps_asg (sE e o a h).E (pg_sub (raw_var a h3 h4 h5) (sE a2 o a h2).E set_list (asg_sub h2)) (nsw_sub _) nss_sub rfl) fun D σ H ⟨env, w, φ, P, R, A⟩ => ?_
  simp only [evS] at A
  refine ⟨env, w, φ, P, R, (A.bindB R.bP).imp fun v w1 φ1 P1 H1 E1 W1 A1 x rx => ?_⟩
  obtain ⟨y, rfl, A2⟩ := A1.dat (w' := w1) (φ' := φ1) (P' := P1) (H' := H1)
  obtain ⟨gv, hgv, A3⟩ := A2.opt'
  have R1 := R.ev E1 W1
  obtain ⟨b, hb⟩ := getV_at R1 hgv
  refine ⟨b, hb, env, w1, φ1, P1, R1, ((A3.bindB R.bP).ev E1).imp fun u w2 φ2 P2 H2 E2 W2 A4 kx rk => ?_⟩
  obtain ⟨k, rfl, A5⟩ := A4.dat (w' := w1) (φ' := φ1) (P' := P1) (H' := H1)
  cases hsp : slotPut (demE env (esc e)) w2 i k y with
  | none =>
    rw [hsp] at A5
    exact A5.elim
  | some ew =>
    obtain ⟨env', w'⟩ := ew
    rw [hsp] at A5
    have R2 := (R1.ev E2 W2).dem (esc e)
    have rx2 : Rp p.K H2 (Av P2 env σ (esc e)) x y := RpV.ev (v := .d y) E2 W1 (R1.av_phi _) (Av.nw E2) rx
    exact slot_put R2 hM hb rk rx2 hsp fun H' R3 E3 => A5 _ _ _ _ (((E1.trans E2).toS (esc e)).trans E3) R3
theorem rs_put2 (o : XOk p c.t X) (a : At c X) {i j : Nat} {x y : Str} {q q2 q3 q4 : Pos} {k : Nat} (hM : i ∈ M) (h : mE c e pe = true) (h2 : mE c a2 pe2 = true) (h3 : nmOf c i x = true) (h4 : visB c.sc x = true) (h5 : okName x = true) (h6 : nmOf c j y = true) (h7 : storeB c y = true) (hn : notTup pe = true) :
    PS X (.Assign [.Tuple [.Subscript (.Name x q) pe2 q2, .Name y q3] k q4] pe pos) (rdS p M (.put2 i a2 j e)) := by
  obtain ⟨l, f⟩ := store_ok' a h7
  have g1 := pg_sub (raw_var (q := q) a h3 h4 h5) (sE a2 o a h2).E set_list (asg_sub (o := .Name x q) (q := q2) h2)
  have g2 : PG X (.Name y q3) (gName j) := pg_name o.nd (nm_ok a h6) l f
  have gg := pgs_cons g1 (pgs_cons g2 pgs_nil rfl) rfl
  have G : PG X (.Tuple [.Subscript (.Name x q) pe2 q2, .Name y q3] k q4) _ := pg_tup (n := 2) o.calm gg rfl rfl
  refine PSi (ps_asg (sE e o a h).E G (nsw_tup _) (nss_tup hn) rfl) fun D σ H ⟨env, w, φ, P, R, A⟩ => ?_
  simp only [evS] at A
  refine ⟨env, w, φ, P, R, (A.bindB R.bP).imp fun v w1 φ1 P1 H1 E1 W1 A1 z rz => ?_⟩
  obtain ⟨d, rfl, A2⟩ := A1.dat (w' := w1) (φ' := φ1) (P' := P1) (H' := H1)
  match d, A2, rz with
  | .tuple [y1, y2], A2, rz =>
    obtain ⟨gv, hgv, A3⟩ := A2.opt'
    have R1 := R.ev E1 W1
    obtain ⟨b, hb⟩ := getV_at R1 hgv
    cases rz with
    | tup ht hz hd =>
      cases hd with
      | cons r1 hd =>
        cases hd with
        | cons r2 hd =>
          cases hd
          rename_i ad v1 v2
          refine ⟨ad, [v1, v2], rfl, by rw [o.K]; exact ht, rfl, v1, [v2], rfl, b, hb, env, w1, φ1, P1, R1, ((A3.bindB R.bP).ev E1).imp fun u w2 φ2 P2 H2 E2 W2 A4 kx rk => ?_⟩
          obtain ⟨kk, rfl, A5⟩ := A4.dat (w' := w1) (φ' := φ1) (P' := P1) (H' := H1)
          cases hsp : slotPut (demE env (esc e)) w2 i kk y1 with
          | none =>
            rw [hsp] at A5
            exact A5.elim
          | some ew =>
            obtain ⟨env', w'⟩ := ew
            rw [hsp] at A5
            have R2 := (R1.ev E2 W2).dem (esc e)
            have rx2 : Rp p.K H2 (Av P2 env σ (esc e)) v1 y1 := RpV.ev (v := .d y1) E2 W1 (R1.av_phi _) (Av.nw E2) r1
            have ry2 : Rp p.K H2 (Av P2 env σ (esc e)) v2 y2 := RpV.ev (v := .d y2) E2 W1 (R1.av_phi _) (Av.nw E2) r2
            refine slot_put (PK := Av P2 env σ (esc a2)) R2 hM hb rk rx2 hsp fun H' R3 E3 => ?_
            obtain ⟨R4, l4⟩ := R3.put (i := j) (v := .d y2) (Rp.cr (E3.e.cr R2) _ _ ry2)
            exact ⟨v2, [], rfl, rfl, A5 _ _ _ _ ((((E1.trans E2).toS (esc e)).trans E3).trans (.less Ev.refl.e2 l4)) R4⟩
  | .tuple [], A2, rz => exact A2.elim
  | .tuple [_], A2, rz => exact A2.elim
  | .tuple (_ :: _ :: _ :: _), A2, rz => exact A2.elim
  | .none, A2, rz => exact A2.elim
  | .bool _, A2, rz => exact A2.elim
  | .int _, A2, rz => exact A2.elim
  | .str _, A2, rz => exact A2.elim
  | .list _, A2, rz => exact A2.elim
  | .dict _, A2, rz => exact A2.elim
/-! ### methods -/
theorem own_at {env : En} {i : Nat} {xs : List PyData} (h : ownAt env i = some xs) : env[i]? = some (.own xs) := by
  unfold ownAt at h
  split at h
  · rename_i q
    rw [q, Option.some.inj h]
  · cases h
theorem own_ref {env : En} {w : Wd} {φ : List Addr} {P : AO} {σ : L2.St} {H : Hp} (R : Rel p env w φ P σ H) {i : Nat} {xs : List PyData} (h : env[i]? = some (.own xs)) : ∃ b vs, σ[i]? = some (some (.ref b)) ∧ H b = some (.lst vs) ∧ vs.length ≤ sizeLine ∧ RpL p.K H P vs xs := by
  have s := R.sl i _ h
  generalize hg : σ[i]? = o at s
  cases s with
  | own hp hn hb ha hz hd => exact ⟨_, _, rfl, ha, hz, hd⟩
theorem few_ok {l : List Expr} {q : Pos} (h : l.all noStar = true) (hl : l.length < 20) : ((backTo q (starEach l X.env)).all (fun x => !x.1) && (backToKw q (keywordEach [] X.env)).all (fun x => x.1.isSome) && decide (l.length + ([] : List Keyword).length + (if ([] : List Keyword).isEmpty then 0 else 1) < 30)) = true := by
  have h1 : ∀ {l : List Expr}, l.all noStar = true → (backTo q (starEach l X.env)).all (fun x => !x.1) = true := by
    intro l
    induction l with
    | nil => intro _; rfl
    | cons e r ih =>
      intro h
      have h' : noStar e = true ∧ r.all noStar = true := by simpa using h
      rw [star_cons h'.1]
      show (true && (backTo q (starEach r X.env)).all (fun x => !x.1)) = true
      rw [ih h'.2]
      rfl
  rw [h1 h]
  simp [keywordEach, backToKw]
  omega
/-- a list of own, its method called: what it leaves, by values -/
theorem meth_ok {env : En} {w : Wd} {φ φ1 : List Addr} {P P1 : AO} {σ : L2.St} {H H1 : Hp} {i : Nat} {xs zs : List PyData} {us : List V} {l : List Nat} {b : Addr} (hM : i ∈ M) (R : Rel p env w φ P σ H) (E1 : Ev φ P H φ1 P1 H1) {w1 : Wd} (W1 : Wst φ1 w1 P1 H1) (hb : σ[i]? = some (some (.ref b))) (h : (demE env l)[i]? = some (.own xs)) (hz : us.length ≤ sizeLine) (hd : RpL p.K H1 (Av P1 env σ l) us zs) :
    ∃ P2, Rel p ((demE env l).set i (.own zs)) w1 φ1 P2 σ (upd H1 b (.lst us)) ∧ EvS M env σ φ P H ((demE env l).set i (.own zs)) σ φ1 P2 (upd H1 b (.lst us)) := by
  have R2 := (R.ev E1 W1).dem l
  obtain ⟨R3, E3⟩ := rel_mut (M := M) R2 h hb hz hd hM
  exact ⟨_, R3, (E1.toS l).trans E3⟩
theorem RpL.erase {K : PySem.W.Frag} {H : Hp} {P : AO} : ∀ {vs : List V} {ds : List PyData} (_ : RpL K H P vs ds) (k : Nat), RpL K H P (vs.eraseIdx k) (ds.eraseIdx k)
  | _, _, .nil, k => .nil
  | _, _, .cons h t, 0 => t
  | _, _, .cons h t, k + 1 => .cons h (t.erase k)
theorem RpL.takeN {K : PySem.W.Frag} {H : Hp} {P : AO} : ∀ {vs : List V} {ds : List PyData} (_ : RpL K H P vs ds) (k : Nat), RpL K H P (vs.take k) (ds.take k)
  | _, _, .nil, k => by simpa using RpL.nil
  | _, _, .cons h t, 0 => .nil
  | _, _, .cons h t, k + 1 => .cons h (t.takeN k)
theorem RpL.dropN {K : PySem.W.Frag} {H : Hp} {P : AO} : ∀ {vs : List V} {ds : List PyData} (_ : RpL K H P vs ds) (k : Nat), RpL K H P (vs.drop k) (ds.drop k)
  | _, _, .nil, k => by simpa using RpL.nil
  | _, _, .cons h t, 0 => .cons h t
  | _, _, .cons h t, k + 1 => t.dropN k
theorem rs_ins (o : XOk p c.t X) (a : At c X) {e2 : E} {i : Nat} {x : Str} {q q2 q3 : Pos} (hM : i ∈ M) (h : mE c e pe = true) (h' : mE c e2 pe2 = true) (h3 : nmOf c i x = true) (h4 : visB c.sc x = true) (h5 : okName x = true) (hline : (q2.endLine == q3.line) = true) :
    PS X (.Expr (.Call (.Attribute (.Name x q) "insert" q2) [pe, pe2] [] q3) pos) (rdS p M (.mut .ins i (.cons e (.cons e2 .nil)))) := by
  have hs := m_star h
  have hs2 := m_star h'
  have ha := rds_cons hs (sE e o a h).E (rds_cons hs2 (sE e2 o a h').E rds_nil.1)
  refine PSi (ps_expr (pe_bm PySem.F.plainAttrs_list PySem.F.slot_list_insert PySem.F.type_list_insert mt_insert (raw_var (q := q) a h3 h4 h5) ha rfl (few_ok (by simp [hs, hs2]) (by simp)) hline (star_cons hs) (star_plain (by simp [hs2]))) rfl) fun D σ H ⟨env, w, φ, P, R, A⟩ => ?_
  simp only [evS] at A
  obtain ⟨ys, hys, A1⟩ := A.opt'
  obtain ⟨b, vs0, hb, hv0, _, _⟩ := own_ref R (own_at hys)
  refine ⟨.ref b, hb, .inl ⟨rfl, vs0, .of hv0⟩, env, w, φ, P, R, (A1.bindB R.bP).imp fun us w1 φ1 P1 H1 E1 W1 A2 xs rx => ?_⟩
  cases hd : datas us with
  | none =>
    rw [hd] at A2
    exact A2.elim
  | some ds =>
    cases hx : (demE env (escs (.cons e (.cons e2 .nil))))[i]? with
    | none =>
      rw [hd, hx] at A2
      exact A2.elim
    | some s =>
      cases s with
      | non =>
        rw [hd, hx] at A2
        exact A2.elim
      | val v =>
        rw [hd, hx] at A2
        exact A2.elim
      | rng v =>
        rw [hd, hx] at A2
        exact A2.elim
      | own zs =>
        rw [hd, hx] at A2
        obtain ⟨f, e1, A3⟩ := AnsS.opt A2
        simp only [Option.map_eq_some_iff] at e1
        obtain ⟨zs', e1, rfl⟩ := e1
        match ds, e1, hd with
        | [.int k, dy], e1, hd =>
          simp only [mutV] at e1
          obtain ⟨f, rfl⟩ := if_some e1
          simp only [Bool.and_eq_true, decide_eq_true_eq] at f
          have R2 := (R.ev E1 W1).dem (escs (.cons e (.cons e2 .nil)))
          obtain ⟨b', vs, hb', hv, hz, rv⟩ := own_ref R2 hx
          rw [hb] at hb'
          cases hb'
          have rd := rx.datas hd
          cases rd with
          | cons r1 rd =>
            cases rd with
            | cons r2 rd =>
              cases rd
              cases r1
              have ll := rv.length
              obtain ⟨P2, R3, E3⟩ := meth_ok (us := vs.take k.toNat ++ [_] ++ vs.drop k.toNat) hM R E1 W1 hb hx (by rw [List.length_append, List.length_append, List.length_take, List.length_drop, List.length_singleton]; omega) (((rv.takeN k.toNat).append (.cons r2 .nil)).append (rv.dropN k.toNat))
              exact ⟨b, vs, k, _, rfl, rfl, hv, by omega, f.1.2, f.2, A3 _ _ _ _ E3 R3⟩
        | [], e1, _ => simp [mutV] at e1
        | [_], e1, _ => simp [mutV] at e1
        | .none :: _ :: _, e1, _ => simp [mutV] at e1
        | .bool _ :: _ :: _, e1, _ => simp [mutV] at e1
        | .str _ :: _ :: _, e1, _ => simp [mutV] at e1
        | .list _ :: _ :: _, e1, _ => simp [mutV] at e1
        | .tuple _ :: _ :: _, e1, _ => simp [mutV] at e1
        | .dict _ :: _ :: _, e1, _ => simp [mutV] at e1
        | .int _ :: _ :: _ :: _, e1, _ => simp [mutV] at e1
theorem rs_dpop (o : XOk p c.t X) (a : At c X) {i : Nat} {x : Str} {q q2 q3 : Pos} (hM : i ∈ M) (h : mE c e pe = true) (h3 : nmOf c i x = true) (h4 : visB c.sc x = true) (h5 : okName x = true) (hline : (q2.endLine == q3.line) = true) :
    PS X (.Expr (.Call (.Attribute (.Name x q) "pop" q2) [pe] [] q3) pos) (rdS p M (.mut .dpop i (.cons e .nil))) := by
  have hs := m_star h
  have ha := rds_cons hs (sE e o a h).E rds_nil.1
  refine PSi (ps_expr (pe_bm PySem.F.plainAttrs_list PySem.F.slot_list_pop PySem.F.type_list_pop mt_popAt (raw_var (q := q) a h3 h4 h5) ha rfl (few_ok (by simp [hs]) (by simp)) hline (star_cons hs) (star_plain rfl)) rfl) fun D σ H ⟨env, w, φ, P, R, A⟩ => ?_
  simp only [evS] at A
  obtain ⟨ys, hys, A1⟩ := A.opt'
  obtain ⟨b, vs0, hb, hv0, _, _⟩ := own_ref R (own_at hys)
  refine ⟨.ref b, hb, .inl ⟨rfl, vs0, .of hv0⟩, env, w, φ, P, R, (A1.bindB R.bP).imp fun us w1 φ1 P1 H1 E1 W1 A2 xs rx => ?_⟩
  cases hd : datas us with
  | none =>
    rw [hd] at A2
    exact A2.elim
  | some ds =>
    cases hx : (demE env (escs (.cons e .nil)))[i]? with
    | none =>
      rw [hd, hx] at A2
      exact A2.elim
    | some s =>
      cases s with
      | non =>
        rw [hd, hx] at A2
        exact A2.elim
      | val v =>
        rw [hd, hx] at A2
        exact A2.elim
      | rng v =>
        rw [hd, hx] at A2
        exact A2.elim
      | own zs =>
        rw [hd, hx] at A2
        obtain ⟨f, e1, A3⟩ := AnsS.opt A2
        simp only [Option.map_eq_some_iff] at e1
        obtain ⟨zs', e1, rfl⟩ := e1
        match ds, e1, hd with
        | [.int k], e1, hd =>
          simp only [mutV] at e1
          obtain ⟨f, rfl⟩ := if_some e1
          simp only [Bool.and_eq_true, decide_eq_true_eq] at f
          have R2 := (R.ev E1 W1).dem (escs (.cons e .nil))
          obtain ⟨b', vs, hb', hv, hz, rv⟩ := own_ref R2 hx
          rw [hb] at hb'
          cases hb'
          have rd := rx.datas hd
          cases rd with
          | cons r1 rd =>
            cases rd
            cases r1
            have ll := rv.length
            have hk : k.toNat < vs.length := by omega
            have hi : seqIndex? k vs.length = some k.toNat := by
              unfold seqIndex?
              have n1 : ¬ k < 0 := by omega
              simp only [if_neg n1]
              rw [if_pos (by simp; omega)]
            obtain ⟨P2, R3, E3⟩ := meth_ok (us := vs.eraseIdx k.toNat) hM R E1 W1 hb hx (Nat.le_trans (by rw [List.length_eraseIdx]; split <;> omega) hz) (rv.erase k.toNat)
            exact ⟨b, vs, k, k.toNat, vs[k.toNat], rfl, rfl, hv, by omega, by omega, hi, List.getElem?_eq_getElem hk, A3 _ _ _ _ E3 R3⟩
        | [], e1, _ => simp [mutV] at e1
        | [.none], e1, _ => simp [mutV] at e1
        | [.bool _], e1, _ => simp [mutV] at e1
        | [.str _], e1, _ => simp [mutV] at e1
        | [.list _], e1, _ => simp [mutV] at e1
        | [.tuple _], e1, _ => simp [mutV] at e1
        | [.dict _], e1, _ => simp [mutV] at e1
        | _ :: _ :: _, e1, _ => simp [mutV] at e1
theorem rs_app (o : XOk p c.t X) (a : At c X) {i : Nat} {x : Str} {q q2 q3 : Pos} (hM : i ∈ M) (h : mE c e pe = true) (h3 : nmOf c i x = true) (h4 : visB c.sc x = true) (h5 : okName x = true) (hline : (q2.endLine == q3.line) = true) :
    PS X (.Expr (.Call (.Attribute (.Name x q) "append" q2) [pe] [] q3) pos) (rdS p M (.mut .app i (.cons e .nil))) := by
  have hs := m_star h
  have ha := rds_cons hs (sE e o a h).E rds_nil.1
  refine PSi (ps_expr (pe_bm PySem.F.plainAttrs_list PySem.F.slot_list_append PySem.F.type_list_append mt_append (raw_var (q := q) a h3 h4 h5) ha rfl (few_ok (by simp [hs]) (by simp)) hline (star_cons hs) (star_plain rfl)) rfl) fun D σ H ⟨env, w, φ, P, R, A⟩ => ?_
  simp only [evS] at A
  obtain ⟨ys, hys, A1⟩ := A.opt'
  obtain ⟨b, vs0, hb, hv0, _, _⟩ := own_ref R (own_at hys)
  refine ⟨.ref b, hb, .inl ⟨rfl, vs0, .of hv0⟩, env, w, φ, P, R, (A1.bindB R.bP).imp fun us w1 φ1 P1 H1 E1 W1 A2 xs rx => ?_⟩
  cases hd : datas us with
  | none =>
    rw [hd] at A2
    exact A2.elim
  | some ds =>
    cases hx : (demE env (escs (.cons e .nil)))[i]? with
    | none =>
      rw [hd, hx] at A2
      exact A2.elim
    | some s =>
      cases s with
      | non =>
        rw [hd, hx] at A2
        exact A2.elim
      | val v =>
        rw [hd, hx] at A2
        exact A2.elim
      | rng v =>
        rw [hd, hx] at A2
        exact A2.elim
      | own zs =>
        rw [hd, hx] at A2
        obtain ⟨f, e1, A3⟩ := AnsS.opt A2
        simp only [Option.map_eq_some_iff] at e1
        obtain ⟨zs', e1, rfl⟩ := e1
        match ds, e1, hd with
        | [d], e1, hd =>
          simp only [mutV] at e1
          by_cases hl : zs.length < sizeLine
          · rw [if_pos hl] at e1
            obtain rfl := Option.some.inj e1
            have R2 := (R.ev E1 W1).dem (escs (.cons e .nil))
            obtain ⟨b', vs, hb', hv, hz, rv⟩ := own_ref R2 hx
            rw [hb] at hb'
            cases hb'
            have rd := rx.datas hd
            cases rd with
            | cons r1 rd =>
              cases rd
              have ll := rv.length
              obtain ⟨P2, R3, E3⟩ := meth_ok (us := vs ++ [_]) hM R E1 W1 hb hx (by rw [List.length_append]; simp only [List.length_cons, List.length_nil]; omega) (rv.append (.cons r1 .nil))
              exact ⟨b, vs, _, rfl, rfl, hv, by omega, A3 _ _ _ _ E3 R3⟩
          · rw [if_neg hl] at e1
            cases e1
        | [], e1, _ => simp [mutV] at e1
        | _ :: _ :: _, e1, _ => simp [mutV] at e1
theorem rs_ext (o : XOk p c.t X) (a : At c X) {i : Nat} {x : Str} {q q2 q3 : Pos} (hM : i ∈ M) (h : mE c e pe = true) (hf : fresh e = true) (h3 : nmOf c i x = true) (h4 : visB c.sc x = true) (h5 : okName x = true) (hline : (q2.endLine == q3.line) = true) :
    PS X (.Expr (.Call (.Attribute (.Name x q) "extend" q2) [pe] [] q3) pos) (rdS p M (.mut .ext i (.cons e .nil))) := by
  have hs := m_star h
  have ha := pa_cons' hs ((sE e o a h).F hf) L2.pa_nil
  refine PSi (ps_expr (pe_bm PySem.F.plainAttrs_list PySem.F.slot_list_extend PySem.F.type_list_extend mt_extend (raw_var (q := q) a h3 h4 h5) ha rfl (few_ok (by simp [hs]) (by simp)) hline (star_cons hs) (star_plain rfl)) rfl) fun D σ H ⟨env, w, φ, P, R, A⟩ => ?_
  simp only [evS] at A
  obtain ⟨ys, hys, A1⟩ := A.opt'
  obtain ⟨b, vs0, hb, hv0, _, _⟩ := own_ref R (own_at hys)
  simp only [evs, bind_assoc', bind_ok_eq] at A1
  refine ⟨.ref b, hb, .inl ⟨rfl, vs0, .of hv0⟩, env, w, φ, P, R, (A1.bindB R.bP).imp fun v w1 φ1 P1 H1 E1 W1 A2 ds b2 us hv n hp hn ht hz1 hd1 => ?_⟩
  subst hv
  have el : escs (.cons e .nil) = esc e := by simp [escs]
  have hdt : datas [Vl.d (.list ds)] = some [.list ds] := rfl
  cases hx : (demE env (escs (.cons e .nil)))[i]? with
  | none =>
    rw [hdt, hx] at A2
    exact A2.elim
  | some s =>
    cases s with
    | non =>
      rw [hdt, hx] at A2
      exact A2.elim
    | val v =>
      rw [hdt, hx] at A2
      exact A2.elim
    | rng v =>
      rw [hdt, hx] at A2
      exact A2.elim
    | own zs =>
      rw [hdt, hx] at A2
      obtain ⟨f, e1, A3⟩ := AnsS.opt A2
      simp only [Option.map_eq_some_iff] at e1
      obtain ⟨zs', e1, rfl⟩ := e1
      simp only [mutV, fits, decide_eq_true_eq] at e1
      by_cases hl : zs.length + ds.length ≤ sizeLine
      · rw [if_pos hl] at e1
        obtain rfl := Option.some.inj e1
        have R2 := (R.ev E1 W1).dem (escs (.cons e .nil))
        obtain ⟨b', vs, hb', hv, hz, rv⟩ := own_ref R2 hx
        rw [hb] at hb'
        cases hb'
        have ll := rv.length
        have l2 := hd1.length
        obtain ⟨P2, R3, E3⟩ := meth_ok (us := vs ++ us) hM R E1 W1 hb hx (by rw [List.length_append]; omega) (rv.append (by rw [el]; exact hd1))
        exact ⟨b, b2, vs, us, rfl, rfl, hv, ht, by omega, A3 _ _ _ _ E3 R3⟩
      · rw [if_neg hl] at e1
        cases e1
end
end R
end
section
/-! Statements as readings: flow. -/
namespace R
open PySem L2
open PySem.Spec PyProof.Rows
section
variable {p : Par} {c : Ct} {X : Cx} {M : List Nat} {pe pe2 : Expr} {e : E} {pos : Pos}
theorem rs_ret (h : PE X pe (rdE p e)) : PS X (.Return (some pe) pos) (rdS p M (.ret e)) := by
  refine PSi (ps_ret h) fun D σ H ⟨env, w, φ, P, R, A⟩ => ?_
  simp only [evS] at A
  refine ⟨env, w, φ, P, R, (A.bindB R.bP).imp fun v w1 φ1 P1 H1 E1 W1 A1 x rx => ?_⟩
  have R1 := R.ev E1 W1
  exact A1 φ1 _ H1 x (E1.e2.trans (.sub (Av.le (env := env) (σ := σ) (l := esc e))) fun a h => .inl h) ⟨W1.held.av _, ⟨W1.wr.len, W1.wr.at_, R1.av_phi _, W1.wr.nd⟩⟩ (fun a h => ⟨R1.bP a h, R1.b_out h⟩) rx
theorem rs_retN : PS X (.Return none pos) (rdS p M .retN) := by
  refine PSi ps_retN fun D σ H ⟨env, w, φ, P, R, A⟩ => ?_
  simp only [evS] at A
  exact A φ P H .non Ev.refl.e2 R.st R.bP .non
theorem rs_brk : PS X (.Break pos) (rdS p M .brk) := by
  refine PSi ps_break fun D σ H ⟨env, w, φ, P, R, A⟩ => ?_
  simp only [evS] at A
  exact A σ φ P H (.of Ev.refl) R
theorem rs_pass : PS X (.Pass pos) (rdS p M .pass) := by
  refine PSi ps_pass fun D σ H ⟨env, w, φ, P, R, A⟩ => ?_
  simp only [evS] at A
  exact A σ φ P H (.of Ev.refl) R
theorem rs_expr (h : PE X pe (rdE p e)) (hs : swapsWith pe none pos.line X.env = pure false) : PS X (.Expr pe pos) (rdS p M (.expr e)) := by
  refine PSi (ps_expr h hs) fun D σ H ⟨env, w, φ, P, R, A⟩ => ?_
  simp only [evS] at A
  refine ⟨env, w, φ, P, R, (A.bindB R.bP).imp fun v w1 φ1 P1 H1 E1 W1 A1 x rx => ?_⟩
  exact A1 σ φ1 P1 H1 (.of E1) (R.ev E1 W1)
theorem rs_nev {st : Stmt} : PS X st (rdS p M .nev) := by
  refine PSi ps_never fun D σ H ⟨env, w, φ, P, R, A⟩ => ?_
  simp only [evS] at A
  exact A
theorem rs_iff {t u : List Stmt} {b1 b2 : Ss} (h : PT X pe (rdT p e)) (h1 : PSs X t (rdSs p M b1)) (h2 : PSs X u (rdSs p M b2)) : PS X (.If pe t u pos) (rdS p M (.iff e b1 b2)) := by
  refine PSi (ps_if h h1 h2) fun D σ H ⟨env, w, φ, P, R, A⟩ => ?_
  simp only [evS] at A
  rw [← bind_assoc'] at A
  refine ⟨env, w, φ, P, R, (A.bindB R.bP).imp fun b w1 φ1 P1 H1 E1 W1 A1 => ?_⟩
  have R1 := R.ev E1 W1
  cases b with
  | true => exact ⟨env, w1, φ1, P1, R1, AnsS.ev A1 (.of E1)⟩
  | false => exact ⟨env, w1, φ1, P1, R1, AnsS.ev A1 (.of E1)⟩
theorem rs_nil : PSs X [] (rdSs p M .nil) := by
  refine PSsi pss_nil fun D σ H ⟨env, w, φ, P, R, A⟩ => ?_
  simp only [evSs] at A
  exact A σ φ P H (.of Ev.refl) R
/-- behind a statement -/
theorem AnsS.then {r : Res Fl} {f : En → Wd → Res Fl} {env : En} {σ : L2.St} {φ : List Addr} {P : AO} {H : Hp} {D : Ends} {N : L2.St → Hp → Prop} (A : AnsS p M (r.bind fun g w => match g with
    | .nx env => f env w
    | g => .ok g w) env σ φ P H D) (hn : ∀ env' w' σ' φ' P' H', Rel p env' w' φ' P' σ' H' → AnsS p M (f env' w') env' σ' φ' P' H' D → N σ' H') : AnsS p M r env σ φ P H { D with nx := N } := by
  cases r with
  | bad => exact A
  | exc c x w' => exact A
  | ok g w' =>
    cases g with
    | bk e => exact A
    | ct e => exact A
    | rt v => exact A
    | nx e =>
      have A : AnsS p M (f e w') env σ φ P H D := A
      exact fun σ' φ' P' H' E R => hn e w' σ' φ' P' H' R (A.ev E)
theorem rs_cons {st : Stmt} {l : List Stmt} {s : S} {r : Ss} (h1 : PS X st (rdS p M s)) (h2 : PSs X l (rdSs p M r)) : PSs X (st :: l) (rdSs p M (.cons s r)) := by
  refine PSsi (pss_cons h1 h2) fun D σ H ⟨env, w, φ, P, R, A⟩ => ?_
  simp only [evSs] at A
  exact ⟨env, w, φ, P, R, A.then fun env' w' σ' φ' P' H' R' A' => ⟨env', w', φ', P', R', A'⟩⟩
/-- behind a turn -/
theorem AnsS.turn {r : Res Fl} {f : En → Wd → Res Fl} {env : En} {σ : L2.St} {φ : List Addr} {P : AO} {H : Hp} {D : Ends} {N : L2.St → Hp → Prop} (A : AnsS p M (r.bind fun g w => match g with
    | .nx env => f env w
    | .ct env => f env w
    | .bk env => .ok (.nx env) w
    | .rt v => .ok (.rt v) w) env σ φ P H D) (hn : ∀ env' w' σ' φ' P' H', EvS M env σ φ P H env' σ' φ' P' H' → Rel p env' w' φ' P' σ' H' → AnsS p M (f env' w') env' σ' φ' P' H' D → N σ' H') : AnsS p M r env σ φ P H { D with nx := N, ct := N, bk := D.nx } := by
  cases r with
  | bad => exact A
  | exc c x w' => exact A
  | ok g w' =>
    cases g with
    | bk e => exact A
    | rt v => exact A
    | nx e =>
      have A : AnsS p M (f e w') env σ φ P H D := A
      exact fun σ' φ' P' H' E R => hn e w' σ' φ' P' H' E R (A.ev E)
    | ct e =>
      have A : AnsS p M (f e w') env σ φ P H D := A
      exact fun σ' φ' P' H' E R => hn e w' σ' φ' P' H' E R (A.ev E)
theorem rs_whl {t : List Stmt} {b : Ss} (xs : XS X) (h : PT X pe (rdT p e)) (h1 : PSs X t (rdSs p M b)) : PS X (.While pe t [] pos) (rdS p M (.whl e b)) := by
  refine PSi (ps_while xs.hp h h1) fun D σ H ⟨env, w, φ, P, R, A⟩ => ?_
  simp only [evS] at A
  obtain ⟨n, hn⟩ := whileR_ex (fun env w => (ev p.G p.F p.np env e w).bind boolOf) (fun env w => evSs p.G p.F p.np b env w) env w
  rw [hn] at A
  refine ⟨fun m σ H => ∃ env w φ P, Rel p env w φ P σ H ∧ AnsS p M (whileN (fun env w => (ev p.G p.F p.np env e w).bind boolOf) (fun env w => evSs p.G p.F p.np b env w) m env w) env σ φ P H D, ⟨n, env, w, φ, P, R, A⟩, ?_⟩
  rintro m σ H ⟨env, w, φ, P, R, A⟩
  cases m with
  | zero => exact A.elim
  | succ m =>
    rw [whileN] at A
    refine ⟨env, w, φ, P, R, (A.bindB R.bP).imp fun t w1 φ1 P1 H1 E1 W1 A1 => ?_⟩
    have R1 := R.ev E1 W1
    replace A1 := AnsS.ev A1 (.of E1)
    cases t with
    | false => exact A1 σ φ1 P1 H1 (.of Ev.refl) R1
    | true =>
      refine ⟨fun σ' H' => ∃ env w φ P, Rel p env w φ P σ' H' ∧ AnsS p M (whileN (fun env w => (ev p.G p.F p.np env e w).bind boolOf) (fun env w => evSs p.G p.F p.np b env w) m env w) env σ' φ P H' D, fun σ' H' h => ⟨m, Nat.lt_succ_self _, h⟩, ?_⟩
      exact ⟨env, w1, φ1, P1, R1, AnsS.turn A1 fun env' w' σ' φ' P' H' _ R' A' => ⟨env', w', φ', P', R', A'⟩⟩
theorem rs_for {t : List Stmt} {b : Ss} {tg : Expr} {tt : Tg} {it : R.It} (o : XOk p c.t X) (xs : XS X) (hi : PI X tg pe (rdI p M it)) (hg : PG X tg (gT p.K tt)) (h1 : PSs X t (rdSs p M b)) (hf : ∀ x, foldedSetIterable pe X.env x = pure x) : PS X (.For tg pe t [] pos) (rdS p M (.for_ tt it b)) := by
  refine PSi (ps_for xs.hp o.calm hi hg h1 hf) fun D σ H ⟨env, w, φ, P, R, A⟩ => ?_
  simp only [evS] at A
  refine ⟨env, w, φ, P, R, (A.bindB R.bP).imp fun ds w1 φ1 P1 H1 E1 W1 A1 J src => ?_⟩
  have R1 := R.ev E1 W1
  have R2 := R1.dem (escI it)
  have T0 : EvS M env σ φ P H (demE env (escI it)) σ φ1 (Av P1 env σ (escI it)) H1 := E1.toS (escI it)
  replace A1 := AnsS.ev A1 T0
  generalize hstep : (fun x env w => match bindT tt x env with
      | some env => evSs p.G p.F p.np b env w
      | none => Res.bad) = step at A1
  let e0 := demE env (escI it)
  refine ⟨fun i m σ2 H2 => m = ds.length - i ∧ i ≤ ds.length ∧ ∃ env2 w2 φ2 P2, Rel p env2 w2 φ2 P2 σ2 H2 ∧ EvS M e0 σ φ1 (Av P1 env σ (escI it)) H1 env2 σ2 φ2 P2 H2 ∧ AnsS p M (forR step (ds.drop i) env2 w2) env2 σ2 φ2 P2 H2 D,
    ⟨_, rfl, Nat.zero_le _, e0, w1, φ1, _, R2, .of Ev.refl, A1⟩, ?_⟩
  rintro i m σ2 H2 ⟨rfl, hi2, env2, w2, φ2, P2, R3, E3, A3⟩
  have c2 := E3.e.cr R2
  have c1 : Cr H1 (SM P1 env σ M) H2 (SM P1 env σ M) := by
    refine ⟨fun a vs h n => ⟨E3.e.kp a _ h (fun z => n (SM.phi R1 a z)) fun z => ?_, n⟩, fun a o' h n => E3.e.kp a o' h (fun z => ?_) fun z => ?_⟩
    · exact n (SM.ob R1 a ((dem_less (escI it)).ob z))
    · obtain ⟨us, q⟩ := R2.st.lists a z
      rw [h] at q
      exact n us (Option.some.inj q)
    · obtain ⟨_, _, us, q⟩ := R2.es_out z
      rw [h] at q
      exact n us (Option.some.inj q)
  obtain ⟨srcs, stop⟩ := src H2 _ P2 c1 c2
  by_cases hlt : i < ds.length
  · right
    have hd := List.drop_eq_getElem_cons hlt
    obtain ⟨go, yl⟩ := srcs i ds[i] (List.getElem?_eq_getElem hlt)
    rw [hd, forR] at A3
    refine ⟨go, fun σ' H' => i + 1 ≤ ds.length ∧ ∃ env2 w2 φ2 P2, Rel p env2 w2 φ2 P2 σ' H' ∧ EvS M e0 σ φ1 (Av P1 env σ (escI it)) H1 env2 σ' φ2 P2 H' ∧ AnsS p M (forR step (ds.drop (i + 1)) env2 w2) env2 σ' φ2 P2 H' D, fun σ' H' h => ⟨ds.length - (i + 1), by omega, rfl, h⟩, fun x H4 hy => ?_⟩
    obtain ⟨k4, rx⟩ := yl x H4 hy
    have E4 : Ev φ2 P2 H2 φ2 P2 H4 := .of_kp k4
    have R4 := R3.ev E4 (R3.st.kp k4)
    cases hb : bindT tt ds[i] env2 with
    | none =>
      rw [← hstep] at A3
      simp only [hb] at A3
      exact A3.elim
    | some env3 =>
      refine bind_ok R4 rx hb fun σ3 R5 l5 _ => ?_
      have T5 : EvS M env2 σ2 φ2 P2 H2 env3 σ3 φ2 P2 H4 := EvS.trans (.of E4) (.less Ev.refl.e2 l5)
      have st : step ds[i] env2 w2 = evSs p.G p.F p.np b env3 w2 := by
        rw [← hstep]
        simp only [hb]
      rw [st] at A3
      exact ⟨env3, w2, φ2, P2, R5, AnsS.turn (A3.ev T5) fun env' w' σ' φ' P' H' E' R' A' => ⟨hlt, env', w', φ', P', R', (E3.trans T5).trans E', A'⟩⟩
  · left
    have e : i = ds.length := by omega
    subst e
    refine ⟨stop, ?_⟩
    rw [List.drop_length, forR] at A3
    exact A3 σ2 φ2 P2 H2 (.of Ev.refl) R3
end
end R
end
section
/-! Statements as readings: pop; a range in a variable. -/
namespace R
open PySem L2
open PySem.Spec PyProof.Rows
section
variable {p : Par} {c : Ct} {X : Cx} {M : List Nat} {pe pe2 : Expr} {e a2 : E} {pos : Pos}
/-- what is popped, and what is left -/
theorem popV_at {xs ds zs : List PyData} {y : PyData} (h : popV xs ds = some (y, zs)) : (ds = [] ∧ xs[xs.length - 1]? = some y ∧ zs = xs.dropLast) ∨ ∃ k : Int, ds = [.int k] ∧ 0 ≤ k ∧ k < xs.length ∧ xs[k.toNat]? = some y ∧ zs = xs.eraseIdx k.toNat := by
  unfold popV at h
  split at h
  · simp only [Option.map_eq_some_iff] at h
    obtain ⟨x, h1, h2⟩ := h
    cases h2
    exact .inl ⟨rfl, by rw [← List.getLast?_eq_getElem?]; exact h1, rfl⟩
  · rename_i k
    split at h
    · rename_i q
      simp only [Bool.and_eq_true, decide_eq_true_eq] at q
      simp only [Option.map_eq_some_iff] at h
      obtain ⟨x, h1, h2⟩ := h
      cases h2
      exact .inr ⟨k, rfl, q.1, q.2, h1, rfl⟩
    · cases h
  · cases h
theorem RpL.dropLast {K : PySem.W.Frag} {H : Hp} {P : AO} : ∀ {vs : List V} {ds : List PyData} (_ : RpL K H P vs ds), RpL K H P vs.dropLast ds.dropLast
  | _, _, .nil => .nil
  | _, _, .cons h .nil => .nil
  | _, _, .cons h (.cons h2 t) => .cons h (RpL.dropLast (.cons h2 t))
def mPopL (c : Ct) : Es → List Expr → Bool
  | .nil, [] => true
  | .cons e .nil, [pe] => mE c e pe
  | _, _ => false
/-- the call x.pop(..): its value and what is left, told by values -/
def tPop (p : Par) (M : List Nat) (i : Nat) (es : Es) : TE := fun σ H Q => ∃ env w φ P, Rel p env w φ P σ H ∧ i ∈ M ∧ ∃ ys, env[i]? = some (.own ys) ∧
  Ans p (evs p.G p.F p.np env es w) φ P H fun us w1 φ1 P1 H1 => ∃ ds xs y zs, datas us = some ds ∧ (demE env (escs es))[i]? = some (.own xs) ∧ popV xs ds = some (y, zs) ∧
    ∀ v b vs, σ[i]? = some (some (.ref b)) → H1 b = some (.lst vs) → ∀ us', us'.length ≤ sizeLine → RpL p.K H1 (Av P1 env σ (escs es)) us' zs → Rp p.K H1 (Av P1 env σ (escs es)) v y → Q v (upd H1 b (.lst us'))
theorem pe_pop (o : XOk p c.t X) (a : At c X) {i : Nat} {x : Str} {q q2 q3 : Pos} {es : Es} {l : List Expr} (h : mPopL c es l = true) (h3 : nmOf c i x = true) (h4 : visB c.sc x = true) (h5 : okName x = true) (hline : (q2.endLine == q3.line) = true) :
    PE X (.Call (.Attribute (.Name x q) "pop" q2) l [] q3) (tPop p M i es) := by
  have hv := raw_var (q := q) a h3 h4 h5
  unfold mPopL at h
  split at h
  · refine PEi (pe_bm0 PySem.F.plainAttrs_list PySem.F.slot_list_pop PySem.F.type_list_pop mt_pop hv rfl hline) fun σ H Q ⟨env, w, φ, P, R, hM, ys, hys, A⟩ => ?_
    obtain ⟨b, vs0, hb, hv0, _, _⟩ := own_ref R hys
    simp only [evs] at A
    obtain ⟨ds, xs, y, zs, e1, e2, e3, k⟩ := A.here R.st
    cases e1
    rcases popV_at e3 with ⟨_, h1, rfl⟩ | ⟨k0, h1, _⟩
    · have R2 := R.dem (escs .nil)
      obtain ⟨b', vs, hb', hv, hz, rv⟩ := own_ref R2 e2
      rw [hb] at hb'
      cases hb'
      have ll := rv.length
      obtain ⟨v, h2, h3⟩ := rv.get h1
      refine ⟨.ref b, hb, .inl ⟨rfl, vs0, .of hv0⟩, b, vs, v, rfl, rfl, hv, by rw [ll]; exact h2, k v b vs hb hv _ ?_ rv.dropLast h3⟩
      rw [List.length_dropLast]
      omega
    · cases h1
  · rename_i e pe
    have hs := m_star h
    have ha := rds_cons hs (sE e o a h).E rds_nil.1
    refine PEi (pe_bm PySem.F.plainAttrs_list PySem.F.slot_list_pop PySem.F.type_list_pop mt_popAt hv ha rfl (few_ok (by simp [hs]) (by simp)) hline (star_cons hs) (star_plain rfl)) fun σ H Q ⟨env, w, φ, P, R, hM, ys, hys, A⟩ => ?_
    obtain ⟨b, vs0, hb, hv0, _, _⟩ := own_ref R hys
    refine ⟨.ref b, hb, .inl ⟨rfl, vs0, .of hv0⟩, env, w, φ, P, R, A.impE fun us w1 φ1 P1 H1 he E1 W1 T xs rx => ?_⟩
    obtain ⟨ds, xs', y, zs, e1, e2, e3, k⟩ := T
    rcases popV_at e3 with ⟨rfl, _⟩ | ⟨k0, rfl, h1, h2, h3, rfl⟩
    · have rd := rx.datas e1
      have ln := rx.length
      have l1 := evs_len he
      cases rd
      rw [← ln] at l1
      cases l1
    · have R2 := (R.ev E1 W1).dem (escs (.cons e .nil))
      obtain ⟨b', vs, hb', hv, hz, rv⟩ := own_ref R2 e2
      rw [hb] at hb'
      cases hb'
      have rd := rx.datas e1
      cases rd with
      | cons r1 rd =>
        cases rd
        cases r1
        have ll := rv.length
        obtain ⟨v, g1, g2⟩ := rv.get h3
        have hi : seqIndex? k0 vs.length = some k0.toNat := by
          unfold seqIndex?
          have n1 : ¬ k0 < 0 := by omega
          simp only [if_neg n1]
          rw [if_pos (by simp; omega)]
        have sz := sizeLine_eq
        exact ⟨b, vs, k0, k0.toNat, v, rfl, rfl, hv, by omega, by omega, hi, g1, k v b vs hb hv _ (Nat.le_trans (by rw [List.length_eraseIdx]; split <;> omega) hz) (rv.erase k0.toNat) g2⟩
  · cases h
theorem meth_at {env : En} {w : Wd} {φ φ1 : List Addr} {P P1 : AO} {σ : L2.St} {H H1 : Hp} {i : Nat} {xs zs : List PyData} {us vs : List V} {l : List Nat} {b : Addr} (hM : i ∈ M) (R : Rel p env w φ P σ H) (E1 : Ev φ P H φ1 P1 H1) {w1 : Wd} (W1 : Wst φ1 w1 P1 H1) (hb : σ[i]? = some (some (.ref b))) (h : (demE env l)[i]? = some (.own xs)) (hv : H1 b = some (.lst vs)) (hz : us.length ≤ sizeLine) (hd : RpL p.K H1 (Av P1 env σ l) us zs) :
    Rel p ((demE env l).set i (.own zs)) w1 φ1 (Av P1 env σ l) σ (upd H1 b (.lst us)) ∧ EvS M env σ φ P H ((demE env l).set i (.own zs)) σ φ1 (Av P1 env σ l) (upd H1 b (.lst us)) ∧ Cr H1 (Av P1 env σ l) (upd H1 b (.lst us)) (Av P1 env σ l) := by
  have R2 := (R.ev E1 W1).dem l
  obtain ⟨R3, E3⟩ := rel_mut (M := M) R2 h hb hz hd hM
  refine ⟨R3, (E1.toS l).trans E3, ?_⟩
  have s := R2.sl i _ h
  rw [hb] at s
  cases s with
  | own hp hn hb2 ha hz2 hd2 => exact cr_write ha hp
/-- the shape of x.pop(..) -/
def popParts : Expr → Option (Str × List Expr × Bool)
  | .Call (.Attribute (.Name x _) m q2) l [] q3 => if m = "pop" then some (x, l, q2.endLine == q3.line) else none
  | _ => none
theorem popParts_some {e : Expr} {r : Str × List Expr × Bool} (h : popParts e = some r) : ∃ q q2 q3, e = .Call (.Attribute (.Name r.1 q) "pop" q2) r.2.1 [] q3 ∧ r.2.2 = (q2.endLine == q3.line) := by
  unfold popParts at h
  split at h
  · split at h
    · rename_i q
      cases h
      subst q
      exact ⟨_, _, _, rfl, rfl⟩
    · cases h
  · cases h
def rcvM (c : Ct) (M : List Nat) (i : Nat) (x : Str) : Bool := decide (i ∈ M) && nmOf c i x && visB c.sc x && okName x
def mPopE (c : Ct) (M : List Nat) (i : Nat) (es : Es) (e : Expr) : Bool := match popParts e with
  | some (x, l, b) => rcvM c M i x && mPopL c es l && b
  | none => false
theorem pop_of (o : XOk p c.t X) (a : At c X) {i : Nat} {es : Es} {e : Expr} (h : mPopE c M i es e = true) : PE X e (tPop p M i es) ∧ i ∈ M ∧ ∃ f l k q, e = .Call f l k q := by
  unfold mPopE at h
  cases q : popParts e with
  | none =>
    rw [q] at h
    cases h
  | some r =>
    rw [q] at h
    obtain ⟨q1, q2, q3, rfl, e2⟩ := popParts_some q
    obtain ⟨x, l, b⟩ := r
    simp only [rcvM, Bool.and_eq_true, decide_eq_true_eq] at h
    obtain ⟨⟨⟨⟨⟨h1, h2⟩, h3⟩, h4⟩, h5⟩, h6⟩ := h
    exact ⟨pe_pop o a h5 h2 h3 h4 (by rw [← h6]; exact e2.symm), h1, _, _, _, _, rfl⟩
theorem call_nsw {f : Expr} {l : List Expr} {k : List Keyword} {q : Pos} (t : Option Expr) (n : Nat) : swapsWith (.Call f l k q) t n X.env = pure false := by
  cases t <;> rfl
/-- name, or names, = x.pop(..) -/
theorem rs_pop (o : XOk p c.t X) (a : At c X) {t : Tg} {i : Nat} {es : Es} {tg e : Expr} (h : mPopE c M i es e = true) (hg : mTg c t tg = true) : PS X (.Assign [tg] e pos) (rdS p M (.pop (some t) i es)) := by
  obtain ⟨hp, hM, f, l, k, q, rfl⟩ := pop_of o a h
  have g := pg_of a o.calm o.nd hg
  rw [o.K] at g
  have sw : swapsWithSole [tg] (.Call f l k q) pos.line X.env = pure false := rfl
  have ss : swappedStores [tg] (.Call f l k q) X.env = pure none := by
    cases tg <;> rfl
  have e1 : (assignEach [tg] X.env).map (·.2) = [assign tg X.env] := by
    rcases mTg_plain hg with ⟨x, q, rfl⟩ | ⟨l, k, q, rfl⟩ <;> rfl
  refine PSi (ps_asg hp g sw ss e1) fun D σ H ⟨env, w, φ, P, R, A⟩ => ?_
  simp only [evS] at A
  obtain ⟨ys, hys, A1⟩ := A.opt'
  refine ⟨env, w, φ, P, R, hM, ys, own_at hys, (A1.bindB R.bP).imp fun us w1 φ1 P1 H1 E1 W1 A2 => ?_⟩
  cases hd : datas us with
  | none =>
    rw [hd] at A2
    exact A2.elim
  | some ds =>
    cases hx : (demE env (escs es))[i]? with
    | none =>
      rw [hd, hx] at A2
      exact A2.elim
    | some s =>
      cases s with
      | non =>
        rw [hd, hx] at A2
        exact A2.elim
      | val v =>
        rw [hd, hx] at A2
        exact A2.elim
      | rng v =>
        rw [hd, hx] at A2
        exact A2.elim
      | own zs =>
        rw [hd, hx] at A2
        cases hpv : popV zs ds with
        | none =>
          simp only [hpv] at A2
          exact A2.elim
        | some yz =>
          obtain ⟨y, us2⟩ := yz
          simp only [hpv] at A2
          refine ⟨ds, zs, y, us2, rfl, rfl, hpv, fun v b vs hb hv us' hz' hd' rv' => ?_⟩
          obtain ⟨f, e1, A3⟩ := AnsS.opt A2
          simp only [Option.map_eq_some_iff] at e1
          obtain ⟨env', e1, rfl⟩ := e1
          obtain ⟨R3, E3, c3⟩ := meth_at hM R E1 W1 hb hx hv hz' hd'
          refine bind_ok R3 (Rp.cr c3 _ _ rv') e1 fun σ' R4 l4 _ => A3 _ _ _ _ (E3.trans (.less Ev.refl.e2 l4)) R4
/-- y.append(x.pop(..)) -/
theorem rs_popApp (o : XOk p c.t X) (a : At c X) {i j : Nat} {es : Es} {y : Str} {e : Expr} {q q2 q3 : Pos} (h : mPopE c M i es e = true) (hM2 : j ∈ M) (h3 : nmOf c j y = true) (h4 : visB c.sc y = true) (h5 : okName y = true) (hline : (q2.endLine == q3.line) = true) :
    PS X (.Expr (.Call (.Attribute (.Name y q) "append" q2) [e] [] q3) pos) (rdS p M (.popApp j i es)) := by
  obtain ⟨hp, hM, f, l, k, q0, rfl⟩ := pop_of o a h
  have hs : noStar (.Call f l k q0) = true := rfl
  refine PSi (ps_expr (pe_bm PySem.F.plainAttrs_list PySem.F.slot_list_append PySem.F.type_list_append mt_append (raw_var (q := q) a h3 h4 h5) (pa_cons' hs hp L2.pa_nil) rfl (few_ok (by simp [hs]) (by simp)) hline (star_cons hs) (star_plain rfl)) rfl) fun D σ H ⟨env, w, φ, P, R, A⟩ => ?_
  simp only [evS] at A
  obtain ⟨js, hjs, A0⟩ := A.opt'
  obtain ⟨ys, hys, A1⟩ := A0.opt'
  obtain ⟨bj, vj0, hbj, hvj0, _, _⟩ := own_ref R (own_at hjs)
  refine ⟨.ref bj, hbj, .inl ⟨rfl, vj0, .of hvj0⟩, env, w, φ, P, R, hM, ys, own_at hys, (A1.bindB R.bP).imp fun us w1 φ1 P1 H1 E1 W1 A2 => ?_⟩
  cases hd : datas us with
  | none =>
    rw [hd] at A2
    exact A2.elim
  | some ds =>
    cases hx : (demE env (escs es))[i]? with
    | none =>
      rw [hd, hx] at A2
      exact A2.elim
    | some s =>
      cases s with
      | non =>
        rw [hd, hx] at A2
        exact A2.elim
      | val v =>
        rw [hd, hx] at A2
        exact A2.elim
      | rng v =>
        rw [hd, hx] at A2
        exact A2.elim
      | own zs =>
        cases hxj : (demE env (escs es))[j]? with
        | none =>
          rw [hd, hx, hxj] at A2
          exact A2.elim
        | some sj =>
          cases sj with
          | non =>
            rw [hd, hx, hxj] at A2
            exact A2.elim
          | val v =>
            rw [hd, hx, hxj] at A2
            exact A2.elim
          | rng v =>
            rw [hd, hx, hxj] at A2
            exact A2.elim
          | own zj =>
            rw [hd, hx, hxj] at A2
            cases hpv : popV zs ds with
            | none =>
              simp only [hpv] at A2
              exact A2.elim
            | some yz =>
              obtain ⟨yv, us2⟩ := yz
              simp only [hpv] at A2
              by_cases hc : (decide (i ≠ j) && decide (zj.length < sizeLine)) = true
              · rw [if_pos hc] at A2
                simp only [Bool.and_eq_true, decide_eq_true_eq] at hc
                refine ⟨ds, zs, yv, us2, rfl, rfl, hpv, fun v b vs hb hv us' hz' hd' rv' => ?_⟩
                obtain ⟨R3, E3, c3⟩ := meth_at hM R E1 W1 hb hx hv hz' hd'
                have hxj3 : ((demE env (escs es)).set i (.own us2))[j]? = some (.own zj) := by
                  rw [getElem?_set_other hc.1]
                  exact hxj
                obtain ⟨bj', vj, hbj', hvj, hzj, rvj⟩ := own_ref R3 hxj3
                rw [hbj] at hbj'
                cases hbj'
                have lj := rvj.length
                have z2 : (vj ++ [v]).length ≤ sizeLine := by
                  rw [List.length_append, List.length_singleton]
                  omega
                obtain ⟨R4, E4⟩ := rel_mut (M := M) R3 hxj3 hbj z2 (rvj.append (.cons (Rp.cr c3 _ _ rv') .nil)) hM2
                exact ⟨bj, vj, v, rfl, rfl, hvj, by omega, A2 _ _ _ _ (E3.trans E4) R4⟩
              · rw [if_neg hc] at A2
                exact A2.elim
/-- x = range(..) -/
theorem rs_rngS (o : XOk p c.t X) (a : At c X) (xs : XS X) {i : Nat} {x : Str} {px q1 q : Pos} (h : mE c e pe = true) (hi : nmOf c i x = true) (hst : storeB c x = true) (g1 : Gl X "range") (m1 : X.mg "range" = none) :
    PS X (.Assign [.Name x px] (.Call (.Name "range" q1) [pe] [] q) pos) (rdS p M (.rngS i e)) := by
  obtain ⟨l, f⟩ := store_ok' a hst
  have hs := m_star h
  have cr : CallR X (.type "range") (fun vs H Q => ∃ j, vs = [V.int j] ∧ ∀ p, H p = none → Q (.ref p) (upd H p (.rng 0 j))) := by
    intro pins s σ H vs us Q I r h
    obtain ⟨j, rfl, k⟩ := h
    obtain ⟨u, rfl, ru⟩ := r.one
    obtain ⟨t, rfl⟩ := ru
    refine call_range_1 ⟨.ref s.heap.objs.size, upd H s.heap.objs.size (.rng 0 j), I.laid (t' := _) (fun b o e => Heap.get?_push_of_some _ e) (Nat.le_refl _) ?_, rfl, k _ (I.hok.fresh (Nat.le_refl _))⟩
    exact ⟨_, _, _, Heap.get?_push_size _ rfl⟩
  have he := pe_callTy (pos := q) (p := q1) cr g1 m1 boot_range (pa_cons' hs (sE e o a h).E L2.pa_nil) (by decide) (by decide) (star_cons hs) (star_plain rfl)
  refine PSi (ps_set o.nd (nm_ok a hi) l he rfl f) fun D σ H ⟨env, w, φ, P, R, A⟩ => ?_
  simp only [evS] at A
  refine ⟨env, w, φ, P, R, (A.bindB R.bP).imp fun v w1 φ1 P1 H1 E1 W1 A1 x rx => ?_⟩
  cases v with
  | loc n => exact A1.elim
  | d d =>
    cases d <;> first | exact A1.elim | skip
    rename_i n
    cases rx
    by_cases hc : (decide (0 ≤ n) && small62 n) = true
    · simp only [hc, if_true] at A1
      refine ⟨n, rfl, fun q nq => ?_⟩
      have k1 : Kp H1 (upd H1 q (.rng 0 n)) := Kp.upd nq
      have E2 := E1.trans (Ev.of_kp k1)
      have R2 := (R.ev E2 (W1.kp k1)).dem (esc e)
      obtain ⟨R3, l3⟩ := R2.putR (i := i) (n := n) upd_same
      exact A1 _ _ _ _ (EvS.trans (E2.toS (esc e)) (.less Ev.refl.e2 l3)) R3
    · simp only [hc] at A1
      exact A1.elim
end
end R
end
section
/-! All statements; a def by its body. -/
namespace R
open PySem L2
open PySem.Spec PyProof.Rows
def swP (c : Ct) : List Expr → List Expr → Bool
  | [.Name x px, .Name y py], [a, b] => sw2 c.sc x y px py a b
  | [.Name x px, .Name y py, .Name z pz], [a, b, d] => sw3 c.sc x y z px py pz a b d
  | _, _ => false
def noLc : Expr → Bool
  | .ListComp .. => false
  | .SetComp .. => false
  | .DictComp .. => false
  | _ => true
def rcv (c : Ct) (M : List Nat) (i : Nat) (x : Str) : Bool := decide (i ∈ M) && nmOf c i x && visB c.sc x && okName x
def mAsg (c : Ct) (i : Nat) (e : E) : Stmt → Bool
  | .Assign [.Name x _] pe _ => nmOf c i x && storeB c x && mE c e pe && notDc pe
  | _ => false
def mAsgT (c : Ct) (ts : Tgs) (e : E) : Stmt → Bool
  | .Assign [.Tuple l k q] pe _ => mTg c (.tup ts) (.Tuple l k q) && mE c e pe && notTup pe
  | _ => false
def mOwn (c : Ct) (i : Nat) (e : E) : Stmt → Bool
  | .Assign [.Name x _] pe _ => nmOf c i x && storeB c x && mE c e pe && fresh e && notDc pe
  | _ => false
def mPar (c : Ct) (is : List Nat) (ps : List Pc) : Stmt → Bool
  | .Assign [.Tuple ts k q] (.Tuple vs _ _) _ => mTg c (.tup (tgsOf is)) (.Tuple ts k q) && mPs c ps vs && decide (ts.length ≤ 1000) && (swP c ts vs || plainP c.sc ts vs)
  | _ => false
def mPut (c : Ct) (M : List Nat) (i : Nat) (a e : E) : Stmt → Bool
  | .Assign [.Subscript (.Name x _) pe2 _] pe _ => rcv c M i x && mE c a pe2 && mE c e pe
  | _ => false
def mPut2 (c : Ct) (M : List Nat) (i : Nat) (a : E) (j : Nat) (e : E) : Stmt → Bool
  | .Assign [.Tuple [.Subscript (.Name x _) pe2 _, .Name y _] _ _] pe _ => rcv c M i x && mE c a pe2 && nmOf c j y && storeB c y && mE c e pe && notTup pe
  | _ => false
def mApp (c : Ct) (M : List Nat) (i : Nat) (e : E) : Stmt → Bool
  | .Expr (.Call (.Attribute (.Name x _) m q2) [pe] [] q3) _ => decide (m = "append") && rcv c M i x && mE c e pe && (q2.endLine == q3.line)
  | _ => false
def mExt (c : Ct) (M : List Nat) (i : Nat) (e : E) : Stmt → Bool
  | .Expr (.Call (.Attribute (.Name x _) m q2) [pe] [] q3) _ => decide (m = "extend") && rcv c M i x && mE c e pe && fresh e && (q2.endLine == q3.line)
  | _ => false
def mDpop (c : Ct) (M : List Nat) (i : Nat) (e : E) : Stmt → Bool
  | .Expr (.Call (.Attribute (.Name x _) m q2) [pe] [] q3) _ => decide (m = "pop") && rcv c M i x && mE c e pe && (q2.endLine == q3.line)
  | _ => false
def mIns (c : Ct) (M : List Nat) (i : Nat) (e e2 : E) : Stmt → Bool
  | .Expr (.Call (.Attribute (.Name x _) m q2) [pe, pe2] [] q3) _ => decide (m = "insert") && rcv c M i x && mE c e pe && mE c e2 pe2 && (q2.endLine == q3.line)
  | _ => false
def mMut (c : Ct) (M : List Nat) : Mu → Nat → Es → Stmt → Bool
  | .app, i, .cons e .nil, st => mApp c M i e st
  | .ext, i, .cons e .nil, st => mExt c M i e st
  | .dpop, i, .cons e .nil, st => mDpop c M i e st
  | .ins, i, .cons e (.cons e2 .nil), st => mIns c M i e e2 st
  | _, _, _, _ => false
def mPopS (c : Ct) (M : List Nat) (t : Tg) (i : Nat) (es : Es) : Stmt → Bool
  | .Assign [tg] e _ => mPopE c M i es e && mTg c t tg
  | _ => false
def mPopA (c : Ct) (M : List Nat) (j i : Nat) (es : Es) : Stmt → Bool
  | .Expr (.Call (.Attribute (.Name y _) m q2) [e] [] q3) _ => decide (m = "append") && mPopE c M i es e && rcv c M j y && (q2.endLine == q3.line)
  | _ => false
def mRngS (c : Ct) (i : Nat) (e : E) : Stmt → Bool
  | .Assign [.Name x _] (.Call (.Name z _) [pe] [] _) _ => nmOf c i x && storeB c x && decide (z = "range") && frB c z && mE c e pe
  | _ => false
def mRet (c : Ct) (e : E) : Stmt → Bool
  | .Return (some pe) _ => mE c e pe
  | _ => false
def mRetN : Stmt → Bool
  | .Return none _ => true
  | _ => false
def mBrk : Stmt → Bool
  | .Break _ => true
  | _ => false
def mPass : Stmt → Bool
  | .Pass _ => true
  | _ => false
def mExp (c : Ct) (e : E) : Stmt → Bool
  | .Expr pe _ => mE c e pe && noLc pe
  | _ => false
mutual
def mS (c : Ct) (M : List Nat) : S → Stmt → Bool
  | .asg (.nm i) e, st => mAsg c i e st
  | .asg (.tup ts) e, st => mAsgT c ts e st
  | .own i e, st => mOwn c i e st
  | .par is ps, st => mPar c is ps st
  | .put i a e, st => mPut c M i a e st
  | .put2 i a j e, st => mPut2 c M i a j e st
  | .mut m i es, st => mMut c M m i es st
  | .ret e, st => mRet c e st
  | .retN, st => mRetN st
  | .brk, st => mBrk st
  | .pass, st => mPass st
  | .expr e, st => mExp c e st
  | .nev, _ => true
  | .pop (some t) i es, st => mPopS c M t i es st
  | .popApp j i es, st => mPopA c M j i es st
  | .rngS i e, st => mRngS c i e st
  | .iff e b1 b2, .If pe t u _ => mE c e pe && mSs c M b1 t && mSs c M b2 u
  | .for_ tt it b, .For tg pe t [] _ => mI c it (isTup tt) pe && mTg c tt tg && okI M it && mSs c M b t
  | .whl e b, .While pe t [] _ => mE c e pe && mSs c M b t
  | _, _ => false
def mSs (c : Ct) (M : List Nat) : Ss → List Stmt → Bool
  | .nil, [] => true
  | .cons s r, x :: l => mS c M s x && mSs c M r l
  | _, _ => false
end
section
variable {p : Par} {c : Ct} {X : Cx} {M : List Nat}
theorem rcv_ok {i : Nat} {x : Str} (h : rcv c M i x = true) : i ∈ M ∧ nmOf c i x = true ∧ visB c.sc x = true ∧ okName x = true := by
  unfold rcv at h
  simp only [Bool.and_eq_true, decide_eq_true_eq] at h
  exact ⟨h.1.1.1, h.1.1.2, h.1.2, h.2⟩
theorem nsw_none {pe : Expr} (h : noLc pe = true) (n : Nat) : swapsWith pe none n X.env = pure false := by
  cases pe <;> first | rfl | cases h
theorem names_of {is : List Nat} {l : List Expr} (h : mTgs c (tgsOf is) l = true) : is.length = l.length := by
  rw [mTgs_len h, tgs_len]
theorem s_asg (o : XOk p c.t X) (a : At c X) (xs : XS X) {i : Nat} {e : E} {st : Stmt} (h : mAsg c i e st = true) : PS X st (rdS p M (.asg (.nm i) e)) := by
  unfold mAsg at h
  split at h
  · simp only [Bool.and_eq_true] at h
    exact rs_asg o a xs h.1.2 h.2 h.1.1.1 h.1.1.2
  · cases h
theorem s_asgT (o : XOk p c.t X) (a : At c X) {ts : Tgs} {e : E} {st : Stmt} (h : mAsgT c ts e st = true) : PS X st (rdS p M (.asg (.tup ts) e)) := by
  unfold mAsgT at h
  split at h
  · simp only [Bool.and_eq_true] at h
    exact rs_asgT o a h.1.2 h.1.1 h.2
  · cases h
theorem s_own (o : XOk p c.t X) (a : At c X) (xs : XS X) {i : Nat} {e : E} {st : Stmt} (h : mOwn c i e st = true) : PS X st (rdS p M (.own i e)) := by
  unfold mOwn at h
  split at h
  · simp only [Bool.and_eq_true] at h
    exact rs_own o a xs h.1.1.2 h.2 h.1.2 h.1.1.1.1 h.1.1.1.2
  · cases h
theorem s_par (o : XOk p c.t X) (a : At c X) (xs : XS X) {is : List Nat} {ps : List Pc} {st : Stmt} (h : mPar c is ps st = true) : PS X st (rdS p M (.par is ps)) := by
  unfold mPar at h
  split at h
  · simp only [Bool.and_eq_true, Bool.or_eq_true, decide_eq_true_eq] at h
    obtain ⟨⟨⟨h1, h2⟩, h3⟩, h4⟩ := h
    rcases h4 with h4 | h4
    · have hg := h1
      simp only [mTg] at hg
      have ln := names_of hg
      unfold swP at h4
      split at h4
      · match is, ln, hg with
        | [i, j], _, hg =>
          simp only [tgsOf, mTgs, mTg, Bool.and_eq_true] at hg
          exact rs_par2 o a xs h2 hg.1.1 hg.2.1.1 h4
      · match is, ln, hg with
        | [i, j, k], _, hg =>
          simp only [tgsOf, mTgs, mTg, Bool.and_eq_true] at hg
          exact rs_par3 o a xs h2 hg.1.1 hg.2.1.1 hg.2.2.1.1 h4
      · cases h4
    · rw [← a.sc] at h4
      exact rs_parL o a h2 h3 h1 (plain_none xs.kind h4)
  · cases h
theorem s_put (o : XOk p c.t X) (a : At c X) {i : Nat} {a2 e : E} {st : Stmt} (h : mPut c M i a2 e st = true) : PS X st (rdS p M (.put i a2 e)) := by
  unfold mPut at h
  split at h
  · simp only [Bool.and_eq_true] at h
    obtain ⟨r1, r2, r3, r4⟩ := rcv_ok h.1.1
    exact rs_put o a r1 h.2 h.1.2 r2 r3 r4
  · cases h
theorem s_put2 (o : XOk p c.t X) (a : At c X) {i j : Nat} {a2 e : E} {st : Stmt} (h : mPut2 c M i a2 j e st = true) : PS X st (rdS p M (.put2 i a2 j e)) := by
  unfold mPut2 at h
  split at h
  · simp only [Bool.and_eq_true] at h
    obtain ⟨⟨⟨⟨⟨h1, h2⟩, h3⟩, h4⟩, h5⟩, h6⟩ := h
    obtain ⟨r1, r2, r3, r4⟩ := rcv_ok h1
    exact rs_put2 o a r1 h5 h2 r2 r3 r4 h3 h4 h6
  · cases h
theorem s_mut (o : XOk p c.t X) (a : At c X) {m : Mu} {i : Nat} {es : Es} {st : Stmt} (h : mMut c M m i es st = true) : PS X st (rdS p M (.mut m i es)) := by
  unfold mMut at h
  split at h
  · unfold mApp at h
    split at h
    · simp only [Bool.and_eq_true, decide_eq_true_eq] at h
      obtain ⟨⟨⟨rfl, h1⟩, h2⟩, h3⟩ := h
      obtain ⟨r1, r2, r3, r4⟩ := rcv_ok h1
      exact rs_app o a r1 h2 r2 r3 r4 h3
    · cases h
  · unfold mExt at h
    split at h
    · simp only [Bool.and_eq_true, decide_eq_true_eq] at h
      obtain ⟨⟨⟨⟨rfl, h1⟩, h2⟩, hf⟩, h3⟩ := h
      obtain ⟨r1, r2, r3, r4⟩ := rcv_ok h1
      exact rs_ext o a r1 h2 hf r2 r3 r4 h3
    · cases h
  · unfold mDpop at h
    split at h
    · simp only [Bool.and_eq_true, decide_eq_true_eq] at h
      obtain ⟨⟨⟨rfl, h1⟩, h2⟩, h3⟩ := h
      obtain ⟨r1, r2, r3, r4⟩ := rcv_ok h1
      exact rs_dpop o a r1 h2 r2 r3 r4 h3
    · cases h
  · unfold mIns at h
    split at h
    · simp only [Bool.and_eq_true, decide_eq_true_eq] at h
      obtain ⟨⟨⟨⟨rfl, h1⟩, h2⟩, h2'⟩, h3⟩ := h
      obtain ⟨r1, r2, r3, r4⟩ := rcv_ok h1
      exact rs_ins o a r1 h2 h2' r2 r3 r4 h3
    · cases h
  · cases h
mutual
theorem sS (o : XOk p c.t X) (a : At c X) (xs : XS X) : ∀ (s : S) {st : Stmt}, mS c M s st = true → PS X st (rdS p M s)
  | .asg (.nm i) e, st, h => s_asg o a xs (by rw [mS] at h; exact h)
  | .asg (.tup tt) e, st, h => s_asgT o a (by rw [mS] at h; exact h)
  | .own i e, st, h => s_own o a xs (by rw [mS] at h; exact h)
  | .par is ps, st, h => s_par o a xs (by rw [mS] at h; exact h)
  | .put i a2 e, st, h => s_put o a (by rw [mS] at h; exact h)
  | .put2 i a2 j e, st, h => s_put2 o a (by rw [mS] at h; exact h)
  | .mut m i es, st, h => s_mut o a (by rw [mS] at h; exact h)
  | .pop (some t) i es, st, h => by
    rw [mS] at h
    unfold mPopS at h
    split at h
    · simp only [Bool.and_eq_true] at h
      exact rs_pop o a h.1 h.2
    · cases h
  | .pop none i es, st, h => by cases st <;> simp [mS] at h
  | .popApp j i es, st, h => by
    rw [mS] at h
    unfold mPopA at h
    split at h
    · simp only [Bool.and_eq_true, decide_eq_true_eq] at h
      obtain ⟨⟨⟨rfl, h1⟩, h2⟩, h3⟩ := h
      obtain ⟨r1, r2, r3, r4⟩ := rcv_ok h2
      exact rs_popApp o a h1 r1 r2 r3 r4 h3
    · cases h
  | .rngS i e, st, h => by
    rw [mS] at h
    unfold mRngS at h
    split at h
    · simp only [Bool.and_eq_true, decide_eq_true_eq] at h
      obtain ⟨⟨⟨⟨h1, h2⟩, rfl⟩, h3⟩, h4⟩ := h
      obtain ⟨g, m⟩ := fr_at o a h3
      exact rs_rngS o a xs h4 h1 h2 g m
    · cases h
  | .aug i e, st, h => by cases st <;> simp [mS] at h
  | .rai k e, st, h => by cases st <;> simp [mS] at h
  | .ret e, st, h => by
    rw [mS] at h
    unfold mRet at h
    split at h
    · exact rs_ret (sE e o a h).E
    · cases h
  | .retN, st, h => by
    rw [mS] at h
    unfold mRetN at h
    split at h
    · exact rs_retN
    · cases h
  | .brk, st, h => by
    rw [mS] at h
    unfold mBrk at h
    split at h
    · exact rs_brk
    · cases h
  | .pass, st, h => by
    rw [mS] at h
    unfold mPass at h
    split at h
    · exact rs_pass
    · cases h
  | .expr e, st, h => by
    rw [mS] at h
    unfold mExp at h
    split at h
    · simp only [Bool.and_eq_true] at h
      exact rs_expr (sE e o a h.1).E (nsw_none h.2 _)
    · cases h
  | .nev, st, h => rs_nev
  | .iff e b1 b2, st, h => by
    cases st <;> first | (simp [mS] at h; done) | skip
    simp only [mS, Bool.and_eq_true] at h
    exact rs_iff (sE e o a h.1.1).T (sSs o a xs b1 h.1.2) (sSs o a xs b2 h.2)
  | .for_ tt it b, st, h => by
    cases st <;> first | (simp [mS] at h; done) | skip
    rename_i tg pe t orelse q
    cases orelse <;> first | (simp [mS] at h; done) | skip
    simp only [mS, Bool.and_eq_true] at h
    obtain ⟨⟨⟨h1, h2⟩, h3⟩, h4⟩ := h
    have g := pg_of a o.calm o.nd h2
    rw [o.K] at g
    exact rs_for o xs (sI it o a h1 h3 fun ht => tgTup h2 ht) g (sSs o a xs b h4) fun x => fold_of h1 _ _
  | .whl e b, st, h => by
    cases st <;> first | (simp [mS] at h; done) | skip
    rename_i pe t orelse q
    cases orelse <;> first | (simp [mS] at h; done) | skip
    simp only [mS, Bool.and_eq_true] at h
    exact rs_whl xs (sE e o a h.1).T (sSs o a xs b h.2)
theorem sSs (o : XOk p c.t X) (a : At c X) (xs : XS X) : ∀ (s : Ss) {st : List Stmt}, mSs c M s st = true → PSs X st (rdSs p M s)
  | .nil, [], h => rs_nil
  | .cons s r, x :: l, h => by
    simp only [mSs, Bool.and_eq_true] at h
    exact rs_cons (sS o a xs s h.1) (sSs o a xs r h.2)
  | .nil, _ :: _, h => by simp [mSs] at h
  | .cons _ _, [], h => by simp [mSs] at h
end
end
end R
end
section
/-! Defs, all at once. -/
namespace R
open PySem L2
open PySem.Spec PyProof.Rows
/-- a def -/
structure Fd where
  nm : Str
  ps : List Str
  N : List Str
  body : Ss
noncomputable def runD (G : List PyData) (F : Fns) (np : Nat → Nat) (d : Fd) (vs : List Vl) (w : Wd) : Res Vl :=
  if vs.length = d.ps.length then match evSs G F np d.body (vs.map Slot.val ++ List.replicate (d.N.length - vs.length) .non) w with
    | .ok (.nx _) w => .ok (.d .none) w
    | .ok (.rt v) w => .ok v w
    | .exc c x w => .exc c x w
    | _ => .bad
  else .bad
def npT (T : List Fd) (f : Nat) : Nat := match T[f]? with
  | some d => d.ps.length
  | none => 0
/-- the first n defs -/
noncomputable def FnT (G : List PyData) (T : List Fd) : Nat → Fns
  | 0, _, _, _ => .bad
  | n + 1, f, vs, w => if f = n then (match T[n]? with
    | some d => runD G (FnT G T n) (npT T) d vs w
    | none => .bad) else FnT G T n f vs w
variable {G : List PyData} {T : List Fd}
theorem FnT_lt {f : Nat} : ∀ {n : Nat}, f < n → FnT G T n f = FnT G T (f + 1) f
  | n + 1, h => by
    by_cases e : f = n
    · rw [e]
    · have : FnT G T (n + 1) f = FnT G T n f := by
        funext vs w
        rw [FnT, if_neg e]
      rw [this]
      exact FnT_lt (by omega)
theorem FnT_at {f : Nat} {d : Fd} (h : T[f]? = some d) : FnT G T (f + 1) f = runD G (FnT G T f) (npT T) d := by
  funext vs w
  rw [FnT, if_pos rfl, h]
theorem FnT_ar {f : Nat} {vs : List Vl} {w : Wd} (h : vs.length ≠ npT T f) : ∀ n : Nat, FnT G T n f vs w = .bad
  | 0 => rfl
  | n + 1 => by
    rw [FnT]
    by_cases e : f = n
    · rw [if_pos e]
      subst e
      unfold npT at h
      cases hd : T[f]? with
      | none => rfl
      | some d =>
        rw [hd] at h
        unfold runD
        simp only [if_neg h]
    · rw [if_neg e]
      exact FnT_ar h n
/-- a promise by what is computed -/
def spR (p : Par) (g : List Vl → Wd → Res Vl) (n : Nat) : Sp := fun vs H Q E => vs.length = n ∧ ∃ w φ P ds, Wst φ w P H ∧ RpVs p.K H P φ vs ds ∧ Ans { p with XE := E, B := P } (g ds w) φ P H fun v _ φ' P' H' => ∀ x, RpV p.K H' P' φ' x v → Q x H'
/-- what stands in the module -/
structure Glb (p : Par) (t : Stx) (mg : Str → Option Value) : Prop where
  fr : ∀ x ∈ t.fr, mg x = none
  gl : ∀ (g : Nat) (x : Str), t.gn[g]? = some x → ∃ d u v, p.G[g]? = some d ∧ mg x = some u ∧ RelV v u ∧ ∀ H P, Rp p.K H P v d
  bf : ∀ (x : Str) (f : Bi), (x, f) ∈ t.bf → (f = .combos ∧ mg x = some (.type "itertools.combinations")) ∨ ∃ id, biOf f = some (.builtin id) ∧ mg x = some (.builtin id)
/-- a def keeps its promise -/
structure Pr (p : Par) (t : Stx) (T : List Fd) (P : Program) (w : World) (mg : Str → Option Value) (base : Heap) (g : Nat) (nm : Str) (ps : List Str) : Prop where
  ex : ∃ fa fd, mg nm = some (.ref fa) ∧ PySem.W.keepIn p.K (.ref fa) = true ∧ Binds p.K fd ps [] ∧ FnG P w p.K mg base (g + 1) fa fd ps (spR p (FnT p.G T (g + 1) g) ps.length) ∧ ∀ n ks, (g, n, ks) ∈ t.kw → BindK fd ps n ks (ks.filterMap fun j => ps[j]?)
/-- a def's text -/
structure Txt (p : Par) (t : Stx) (mg : Str → Option Value) (g : Nat) (d : Fd) : Prop where
  ex : ∃ (fa : Addr) (fd : FuncData) (x qual : Str) (params : Arguments) (body : List Stmt) (scope : Scope), FunD p.K x qual params body scope [] [] fa fd ∧ mg d.nm = some (.ref fa) ∧ FnScope d.N d.ps scope ∧ Binds p.K fd d.ps [] ∧
    (∀ n ks, (g, n, ks) ∈ t.kw → BindK fd d.ps n ks (ks.filterMap fun j => d.ps[j]?)) ∧ mSs ⟨{ t with fn := t.fn.take g }, d.N, scope, fun _ => true⟩ (mutsS d.body) d.body body = true
theorem start_get {N : List Str} {vs : List V} {i : Nat} : (L2.start N vs)[i]? = if i < vs.length then (vs[i]?).map some else if i < N.length then some none else none := by
  unfold L2.start
  by_cases h : i < vs.length
  · rw [if_pos h, List.getElem?_append_left (by rw [List.length_map]; exact h), List.getElem?_map]
  · rw [if_neg h, List.getElem?_append_right (by rw [List.length_map]; omega), List.length_map, List.getElem?_replicate]
    by_cases h2 : i < N.length
    · rw [if_pos h2, if_pos (by omega)]
    · rw [if_neg h2, if_neg (by omega)]
theorem RpVs.get {K : PySem.W.Frag} {H : Hp} {P : AO} {φ : List Addr} : ∀ {xs : List V} {vs : List Vl} {i : Nat} {v : Vl}, RpVs K H P φ xs vs → vs[i]? = some v → ∃ x, xs[i]? = some x ∧ RpV K H P φ x v
  | _, _, 0, _, .cons h _, e => by
    cases e
    exact ⟨_, rfl, h⟩
  | _, _, i + 1, _, .cons _ t, e => by
    obtain ⟨x, h1, h2⟩ := RpVs.get (i := i) t (by simpa using e)
    exact ⟨x, by simpa using h1, h2⟩
  | _, _, i, _, .nil, e => by cases e
/-- the frame at a def's entry -/
theorem rel_start {p : Par} {N : List Str} {vs : List V} {ds : List Vl} {w : Wd} {φ : List Addr} {P : AO} {H : Hp} (W : Wst φ w P H) (r : RpVs p.K H P φ vs ds) (hl : vs.length ≤ N.length) (hb : ∀ a, p.B a → P a) :
    Rel p (ds.map Slot.val ++ List.replicate (N.length - ds.length) .non) w φ P (L2.start N vs) H := by
  have ln := r.length
  have get : ∀ {i : Nat} {s : Slot}, (ds.map Slot.val ++ List.replicate (N.length - ds.length) Slot.non)[i]? = some s → (∃ v, ds[i]? = some v ∧ s = .val v) ∨ s = .non := by
    intro i s h
    by_cases hi : i < ds.length
    · rw [List.getElem?_append_left (by rw [List.length_map]; exact hi), List.getElem?_map] at h
      cases hd : ds[i]? with
      | none => rw [hd] at h; cases h
      | some v =>
        rw [hd] at h
        exact .inl ⟨v, rfl, (Option.some.inj h).symm⟩
    · rw [List.getElem?_append_right (by rw [List.length_map]; omega), List.getElem?_replicate] at h
      split at h
      · exact .inr (Option.some.inj h).symm
      · cases h
  refine ⟨W, fun i s h => ?_, fun i j xs ys a h1 _ _ _ => ?_, ?_, hb⟩
  · rcases get h with ⟨v, h1, rfl⟩ | rfl
    · obtain ⟨x, h2, h3⟩ := r.get h1
      rw [start_get, if_pos (lt_of_get h2), h2]
      exact .val h3
    · exact .non _
  · rcases get h1 with ⟨v, _, e⟩ | e <;> cases e
  · unfold L2.start
    simp only [List.length_append, List.length_map, List.length_replicate]
    omega
theorem no_own {ds : List Vl} {n : Nat} {i : Nat} {xs : List PyData} : (ds.map Slot.val ++ List.replicate n Slot.non)[i]? ≠ some (.own xs) := by
  intro h
  by_cases hi : i < ds.length
  · rw [List.getElem?_append_left (by rw [List.length_map]; exact hi), List.getElem?_map] at h
    cases hd : ds[i]? with
    | none => rw [hd] at h; cases h
    | some v => rw [hd] at h; cases h
  · rw [List.getElem?_append_right (by rw [List.length_map]; omega), List.getElem?_replicate] at h
    split at h <;> cases h
theorem fn_txt {T : List Fd} {p : Par} {t : Stx} {P : Program} {w : World} {mg : Str → Option Value} {base : Heap} (gb : Glb p t mg) (hnp : p.np = npT T) (hT : ∀ g : Nat, t.fn[g]? = (T[g]?).map fun d : Fd => (d.nm, d.ps)) {g : Nat} {d : Fd} (hd : T[g]? = some d)
    {fa : Addr} {fd : FuncData} {x qual : Str} {params : Arguments} {body : List Stmt} {scope : Scope} (F : FunD p.K x qual params body scope [] [] fa fd) (S : FnScope d.N d.ps scope) (hs : mSs ⟨{ t with fn := t.fn.take g }, d.N, scope, fun _ => true⟩ (mutsS d.body) d.body body = true)
    (ih : ∀ k < g, ∀ d, T[k]? = some d → Pr p t T P w mg base k d.nm d.ps) : FnG P w p.K mg base (g + 1) fa fd d.ps (spR p (FnT p.G T (g + 1) g) d.ps.length) := by
  have hpl : d.ps.length ≤ d.N.length := by
    have := congrArg List.length S.pre
    rw [List.length_take] at this
    omega
  obtain ⟨oc, od, dV, kV, doc, pm, an, cdv, ct, osl, rfl, lk, hcd, _, _⟩ := F.ex
  refine fn_g lk hcd S (fun vs H Q E h => h.1) fun A outer s H vs Q E hgd hr hsp => ?_
  obtain ⟨hlv, wd, φ, Pv, ds, W, rv, A0⟩ := hsp
  let q : Par := { p with F := FnT p.G T g, XE := E, B := Pv }
  have o : XOk q { t with fn := t.fn.take g } (cxOf (L2.CX P w) P w p.K mg base d.N qual scope fa cdv A outer s H E) := {
    K := rfl
    calm := rfl
    nd := S.nd
    gd := by
      show (A.deeper _).guards = some []
      first | exact hgd | (simp [Around.deeper, hgd])
    un := by
      have := hr.un
      show (A.deeper _).units + 65 < cLine
      omega
    fr := gb.fr
    gl := gb.gl
    bf := gb.bf
    fn := fun k nm ps hk2 => by
      rw [List.getElem?_take] at hk2
      split at hk2
      · rename_i hlt
        rw [hT] at hk2
        simp only [Option.map_eq_some_iff] at hk2
        obtain ⟨d2, h1, h2⟩ := hk2
        cases h2
        obtain ⟨fa2, fd2, m2, kp2, bd2, G2, kw2⟩ := (ih k hlt d2 h1).ex
        refine ⟨fa2, fd2, k + 1, m2, kp2, bd2, ?_, hr.mono hlt, ?_, kw2⟩
        · have : FnT p.G T g k = FnT p.G T (k + 1) k := FnT_lt hlt
          rw [← this] at G2
          exact G2
        · show p.np k = _
          rw [hnp, npT, h1]
      · cases hk2
    px := passes_call (takes_of rfl rfl rfl rfl) fun _ _ _ _ h => h
    ar := fun f vs w h => by
      have h : vs.length ≠ p.np f := h
      rw [hnp] at h
      exact FnT_ar h g }
  have R0 : Rel q (ds.map Slot.val ++ List.replicate (d.N.length - ds.length) .non) wd φ Pv (L2.start d.N vs) H := rel_start W rv (by rw [hlv]; exact hpl) fun a h => h
  have PS := sSs (M := mutsS d.body) o ⟨rfl, rfl, rfl⟩ ⟨passes_of rfl, S.kind⟩ d.body hs
  refine ⟨_, PS, _, wd, φ, Pv, R0, ?_⟩
  have A1 : Ans q (FnT p.G T (g + 1) g ds wd) φ Pv H fun v _ φ' P' H' => ∀ x, RpV p.K H' P' φ' x v → Q x H' := A0
  rw [FnT_at hd] at A1
  unfold runD at A1
  have hl2 : ds.length = d.ps.length := by rw [← rv.length, hlv]
  rw [if_pos hl2] at A1
  have noZ : ∀ a, ¬ Ob (ds.map Slot.val ++ List.replicate (d.N.length - ds.length) Slot.non) (L2.start d.N vs) (mutsS d.body) a := fun a ⟨i, _, xs, h, _⟩ => no_own h
  have toE : ∀ {φ' : List Addr} {P' : AO} {H' : Hp}, Ev2 (Ob (ds.map Slot.val ++ List.replicate (d.N.length - ds.length) Slot.non) (L2.start d.N vs) (mutsS d.body)) φ Pv H φ' P' H' → (∀ a, Pv a → P' a) → Ev φ Pv H φ' P' H' := fun E2 up => ⟨E2.pre, fun a o h n => E2.kp a o h n (noZ a), E2.dm, up, E2.nw, E2.nf⟩
  show AnsS q (mutsS d.body) (evSs p.G (FnT p.G T g) p.np d.body _ wd) _ _ φ Pv H _
  rw [hnp]
  generalize evSs p.G (FnT p.G T g) (npT T) d.body (ds.map Slot.val ++ List.replicate (d.N.length - ds.length) .non) wd = r at A1
  cases r with
  | bad => exact A1
  | exc cn xv w' => exact fun φ' P' H' cls dd E2 W2 hB h => A1 H' φ' P' cls dd (toE E2 hB) W2 h
  | ok f w' =>
    cases f with
    | nx e => exact fun σ' φ' P' H' E2 R2 => A1 H' φ' P' (toE E2.e R2.bP) R2.st _ .non
    | rt v => exact fun φ' P' H' x E2 W2 hB r => A1 H' φ' P' (toE E2 hB) W2 x r
    | bk e => exact A1.elim
    | ct e => exact A1.elim
theorem pr_step {T : List Fd} {p : Par} {t : Stx} {P : Program} {w : World} {mg : Str → Option Value} {base : Heap} (gb : Glb p t mg) (hnp : p.np = npT T) (hT : ∀ g : Nat, t.fn[g]? = (T[g]?).map fun d : Fd => (d.nm, d.ps)) {g : Nat} {d : Fd} (hd : T[g]? = some d) (X : Txt p t mg g d)
    (ih : ∀ k < g, ∀ d, T[k]? = some d → Pr p t T P w mg base k d.nm d.ps) : Pr p t T P w mg base g d.nm d.ps := by
  obtain ⟨fa, fd, x, qual, params, body, scope, F, hm, S, hb, hk, hs⟩ := X.ex
  exact ⟨fa, fd, hm, F.kp, hb, fn_txt gb hnp hT hd F S hs ih, hk⟩
theorem pr_all {T : List Fd} {p : Par} {t : Stx} {P : Program} {w : World} {mg : Str → Option Value} {base : Heap} (gb : Glb p t mg) (hnp : p.np = npT T) (hT : ∀ g : Nat, t.fn[g]? = (T[g]?).map fun d : Fd => (d.nm, d.ps)) (hX : ∀ g d, T[g]? = some d → Txt p t mg g d) :
    ∀ g d, T[g]? = some d → Pr p t T P w mg base g d.nm d.ps := by
  intro g
  induction g using Nat.strongRecOn with
  | ind g ih => exact fun d hd => pr_step gb hnp hT hd (hX g d hd) ih
theorem bindK_of {K : PySem.W.Frag} {x qual : Str} {params : Arguments} {body : List Stmt} {scope : Scope} {f : Addr} {fd : FuncData} {ps nms : List Str} {n : Nat} {ks : List Nat} (F : FunD K x qual params body scope [] [] f fd)
    (h : ∀ (kV doc pm : Value) (an : Option Addr) (cdv ct : Value) (us ws : List Value), us.length = n → ws.length = ks.length → bindArgs (PySem.W.fnOf x qual params body scope .none kV doc pm an cdv ct) ⟨us, nms.zip ws⟩ = pure (ps.zip (putK ps.length ks us ws))) : BindK fd ps n ks nms := by
  obtain ⟨oc, od, dV, kV, doc, pm, an, cdv, ct, osl, rfl, lk, hcd, hD, hK⟩ := F.ex
  rcases hD with ⟨_, rfl⟩ | ⟨e, _⟩
  · exact fun s us ws h1 h2 => .of_eq (h kV doc pm an cdv ct us ws h1 h2)
  · exact absurd rfl e
/-- what a printed def shows -/
structure Chk (t : Stx) (g : Nat) (d : Fd) (st : Stmt) : Prop where
  S : FnScope d.N d.ps (defScope st)
  m : mSs ⟨{ t with fn := t.fn.take g }, d.N, defScope st, fun _ => true⟩ (mutsS d.body) d.body (defBody st) = true
  b : ∀ (K : PySem.W.Frag) (f : Addr) (fd : FuncData), FunD K d.nm d.nm (defArgs st) (defBody st) (defScope st) [] [] f fd → Binds K fd d.ps []
  k : ∀ (K : PySem.W.Frag) (f : Addr) (fd : FuncData), FunD K d.nm d.nm (defArgs st) (defBody st) (defScope st) [] [] f fd → ∀ n ks, (g, n, ks) ∈ t.kw → BindK fd d.ps n ks (ks.filterMap fun j => d.ps[j]?)
end R
end
section
/-! From the promise of the law's def to the law. -/
namespace R
open PySem L2
open PySem.Spec PyProof.Rows
section
variable {P : Program} {w : World} {K : PySem.W.Frag} {mg mb : Str → Option Value} {k : Nat} {fa a : Addr} {fd : FuncData} {x : Str} {sp : Sp} {s : Shared} {us : List Value} {ns : List Int}
abbrev scrO (us : List Value) : Obj := { cls := .type "list", data := .seq us.toArray }
/-- what a run leaves -/
abbrev Left (s : Shared) (r : Result) (z : Shared) : Prop := r = .ok (.ret (.bool true)) ∧ OldK s.heap z.heap ∧ z.os = s.os ∧ AllBare z.gens
theorem call_from {H : Hp} (iK : K.In s.heap) (iM : s.heap.Ns mainGlobals mg) (iB : s.heap.Ns builtinsNs mb) (bb : ∀ x : Str, x ≠ "__name__" → mb x = bootBuiltins x) (nl : s.heap.NoLimit) (ng : s.gens = #[]) (at_ : s.heap.get? a = some (scrO us)) (rm : Room k callerA)
    (F : ∀ base : Heap, K.In base → base.Ns mainGlobals mg → FnG P w K mg base k fa fd [x] sp) (bind : ∀ (s : Shared) (u : Value), BindsTo s fd ⟨[u], []⟩ [(x, u)])
    (one : ∀ b, H b = none ∨ b = a ∧ H b = some (.frz (scrO us) (.lst (ns.map V.int)))) (free : H a ≠ none → K.lookup a = none) (ok : HOk P w H s.heap) (go : sp [.ref a] H (fun v _ => v = .bl true) fun _ _ _ => False) :
    codeAny (model P w) callerA (.call (.ref fa) ⟨[.ref a], []⟩) (Left s) s := by
  have only : ∀ b, H b ≠ none → b = a := fun b h => (one b).elim (fun z => absurd z h) fun z => z.1
  have stay : ∀ {b : Addr} {o : Obj}, s.heap.get? b = some o → H b = none → (hidT s.heap H).get? b = some o := fun e n => hidT_get e n
  have dict : ∀ {b : Addr} {o : Obj} {es : Array DictEntry} {ep : Nat}, s.heap.get? b = some o → o.data = .dict es ep → H b = none := by
    intro b o es ep e q
    rcases one b with z | ⟨rfl, _⟩
    · exact z
    · rw [at_] at e
      obtain rfl := Option.some.inj e
      exact nomatch (show Data.seq us.toArray _ = Data.dict es ep from q)
  have names : ∀ {b : Addr} {m : Str → Option Value}, s.heap.Ns b m → (hidT s.heap H).Ns b m := by
    rintro b m ⟨o, es, ep, e, q, r⟩
    exact ⟨o, es, ep, stay e (dict e q), q, r⟩
  have kin : K.In (hidT s.heap H) := by
    intro b o e
    refine stay (iK b o e) ?_
    rcases one b with z | ⟨rfl, z⟩
    · exact z
    · rw [free (by rw [z]; simp)] at e
      cases e
  obtain ⟨mc, n1, n2⟩ := nl
  have env : Env0 P w K mg (hidT s.heap H) callerA [] s H :=
    ⟨rfl, ⟨kin, names iM, ⟨mb, names iB, bb⟩, ⟨mc, names n1, n2⟩⟩, fun b o e => of_hidT e, Nat.le_of_eq (hidT_size _ _), trivial, fun b hb => (nomatch (show b ∈ ([] : List Addr) from hb)), ok, .of_eq ng⟩
  refine codeAny_mono ((F _ kin (names iM)).run callerA [] s H ⟨[.ref a], []⟩ [.ref a] [.ref a] _ _ rfl rm env (bind s (.ref a)) (.cons rfl .nil) go) ?_
  intro r z h
  cases r with
  | error e =>
    obtain ⟨_, _, _, _, _, _, _, _, _, _, _, _, q⟩ := h
    exact q.elim
  | ok fl =>
    cases fl with
    | ret u =>
      obtain ⟨v, H', os, bare, un, ok', rv, rfl⟩ := h
      obtain rfl : u = Value.bool true := rv
      refine ⟨rfl, OldK.of_keep fun b o e => ?_, os, bare⟩
      rcases one b with q | ⟨rfl, q⟩
      · exact un.keep b o e q (fun z => nomatch (show b ∈ ([] : List Addr) from z)) (by simp)
      · obtain ⟨e1, _⟩ := ok b _ q
        obtain ⟨e2, _⟩ := ok' b _ (un.frzs b _ _ q)
        rw [e] at e1
        cases e1
        exact e2
    | next => exact h.elim
    | brk => exact h.elim
    | cont => exact h.elim
theorem call_top (iK : K.In s.heap) (iM : s.heap.Ns mainGlobals mg) (iB : s.heap.Ns builtinsNs mb) (bb : ∀ x : Str, x ≠ "__name__" → mb x = bootBuiltins x) (nl : s.heap.NoLimit) (ng : s.gens = #[]) (at_ : s.heap.get? a = some (scrO us)) (ia : IntsAre us ns) (small : ns.length ≤ sizeLine) (rm : Room k callerA)
    (F : ∀ base : Heap, K.In base → base.Ns mainGlobals mg → FnG P w K mg base k fa fd [x] sp) (bind : ∀ (s : Shared) (u : Value), BindsTo s fd ⟨[u], []⟩ [(x, u)])
    (go : ∀ H : Hp, LsA K H (fun _ => False) a (ns.map V.int) → sp [.ref a] H (fun v _ => v = .bl true) fun _ _ _ => False) :
    codeAny (model P w) callerA (.call (.ref fa) ⟨[.ref a], []⟩) (Left s) s := by
  have rv := vals_ints ia
  have ln := ia.length
  cases q : K.lookup a with
  | some o =>
    have e := iK a o q
    rw [at_] at e
    obtain rfl := Option.some.inj e
    refine call_from (H := fun _ => none) (ns := ns) iK iM iB bb nl ng at_ rm F bind (fun b => .inl rfl) (fun h => absurd rfl h) (fun b u z => (nomatch (show (none : Option HO) = some u from z))) (go _ (.inr (.inr ⟨_, us.toArray, _, q, rfl, rfl, rfl, ?_, ?_⟩)))
    · rw [List.size_toArray, ln]
      exact small
    · exact rv
  | none =>
    let H : Hp := fun b => if b = a then some (.frz (scrO us) (.lst (ns.map V.int))) else none
    have hA : H a = some (.frz (scrO us) (.lst (ns.map V.int))) := if_pos rfl
    refine call_from (H := H) (ns := ns) iK iM iB bb nl ng at_ rm F bind (fun b => ?_) (fun _ => q) (fun b u z => ?_) (go H (.inr (.inl ⟨_, hA⟩)))
    · by_cases e : b = a
      · exact .inr ⟨e, by rw [e]; exact hA⟩
      · exact .inl (if_neg e)
    · by_cases e : b = a
      · subst e
        rw [hA] at z
        cases z
        exact ⟨at_, by rw [List.length_map]; exact small, us, _, rv, at_⟩
      · exact nomatch (show (none : Option HO) = some u from (if_neg e).symm.trans z)
/-- the goal that the head leaves -/
theorem walk_top {l : PySem.W.OpenLaw} {n k : Nat} {q : Program} {loose : List Str} {XP : (Str → Option Value) → Heap → Prop} {YP : World → Heap → Prop} {d : DefRec} {x : Str} (hn : l.most = some n) (hn2 : n ≤ sizeLine) (hdf : d.params.defaults = []) (rm : Room k callerA)
    (F : ∀ (w : World) (mg : Str → Option Value) (fa : Addr) (h : Heap), YP w h → h.Ns mainGlobals mg → mg d.name = some (.ref fa) →
      ∃ (K : PySem.W.Frag) (fd : FuncData) (sp : Sp), K.In h ∧ (∀ (s : Shared) (u : Value), BindsTo s fd ⟨[u], []⟩ [(x, u)]) ∧
        (∀ (H : Hp) (a : Addr) (ns : List Int), ns.length ≤ n → LsA K H (fun _ => False) a (ns.map V.int) → sp [.ref a] H (fun v _ => v = .bl true) fun _ _ _ => False) ∧
        ∀ base : Heap, K.In base → base.Ns mainGlobals mg → FnG l.prog w K mg base k fa fd [x] sp) :
    PySem.W.WalkO q loose XP YP l.row.toRowW d [] (fun f vs => PySem.call f vs) := by
  refine Att.attach_call hn hdf fun w s0 s mg mb fa o pm cd doc a us ns Gr Y ho hd hcd hm hobj hin len ng => ?_
  obtain ⟨K, fd, sp, iK, bind, go, G⟩ := F w mg fa _ Y Gr.T.g hm
  exact call_top iK Gr.T.g Gr.T.b Gr.T.builtins Gr.T.nolimit ng hobj hin (Nat.le_trans len hn2) rm G bind fun H h => go H a ns len h
end
/-! ### what the module holds, as facts -/
/-- d's value, as it was written -/
def repB (K : PySem.W.Frag) : Nat → PyData → Value → Bool
  | _, .none, v => decide (v = .none)
  | _, .bool b, v => decide (v = .bool b)
  | _, .int i, .int j _ => decide (j = i)
  | _, .str x, .str y _ => decide (y = x)
  | n + 1, .tuple ds, .ref a => (match K.lookup a with
    | some ⟨.type c, _, .seq its _, _⟩ => decide (c = "tuple") && decide (its.size ≤ sizeLine) && decide (its.size = ds.length) && (ds.zip its.toList).all fun p => repB K n p.1 p.2
    | _ => false)
  | n + 1, .list ds, .ref a => (match K.lookup a with
    | some ⟨.type c, none, .seq its _, _⟩ => decide (c = "list") && decide (its.size ≤ sizeLine) && decide (its.size = ds.length) && (ds.zip its.toList).all fun p => repB K n p.1 p.2
    | _ => false)
  | _, _, _ => false
/-- .. and as a value of the layer -/
def toV : Value → V
  | .none => .non
  | .bool b => .bl b
  | .int i _ => .int i
  | .str x _ => .str x
  | .ref a => .ref a
  | _ => .non
theorem all_zip {K : PySem.W.Frag} {H : Hp} {Pz : AO} {n : Nat} (ih : ∀ d v, repB K n d v = true → RelV (toV v) v ∧ Rp K H Pz (toV v) d) : ∀ {ds : List PyData} {its : List Value}, its.length = ds.length → ((ds.zip its).all fun p => repB K n p.1 p.2) = true → Vals (its.map toV) its ∧ RpL K H Pz (its.map toV) ds
  | [], [], _, _ => ⟨.nil, .nil⟩
  | d :: ds, v :: its, hl, h => by
    simp only [List.zip_cons_cons, List.all_cons, Bool.and_eq_true] at h
    obtain ⟨r1, r2⟩ := ih d v h.1
    obtain ⟨q1, q2⟩ := all_zip ih (ds := ds) (its := its) (by simpa using hl) h.2
    exact ⟨.cons r1 q1, .cons r2 q2⟩
  | [], _ :: _, hl, _ => by simp at hl
  | _ :: _, [], hl, _ => by simp at hl
theorem repB_ok {K : PySem.W.Frag} {H : Hp} {Pz : AO} : ∀ (n : Nat) (d : PyData) (v : Value), repB K n d v = true → RelV (toV v) v ∧ Rp K H Pz (toV v) d := by
  intro n
  induction n with
  | zero =>
    intro d v h
    cases d <;> cases v <;> first | (simp [repB] at h; done) | skip
    · exact ⟨rfl, .non⟩
    · simp only [repB, decide_eq_true_eq, Value.bool.injEq] at h
      subst h
      exact ⟨rfl, .bl _⟩
    · simp only [repB, decide_eq_true_eq] at h
      subst h
      exact ⟨⟨_, rfl⟩, .int _⟩
    · simp only [repB, decide_eq_true_eq] at h
      subst h
      exact ⟨⟨_, rfl⟩, .str _⟩
  | succ n ih =>
    intro d v h
    cases d <;> cases v <;> first | (simp [repB] at h; done) | skip
    · exact ⟨rfl, .non⟩
    · simp only [repB, decide_eq_true_eq, Value.bool.injEq] at h
      subst h
      exact ⟨rfl, .bl _⟩
    · simp only [repB, decide_eq_true_eq] at h
      subst h
      exact ⟨⟨_, rfl⟩, .int _⟩
    · simp only [repB, decide_eq_true_eq] at h
      subst h
      exact ⟨⟨_, rfl⟩, .str _⟩
    · rename_i ds a
      simp only [repB] at h
      split at h
      · rename_i c od its m sl q
        simp only [Bool.and_eq_true, decide_eq_true_eq] at h
        obtain ⟨⟨⟨h1, h2⟩, h3⟩, h4⟩ := h
        obtain ⟨r1, r2⟩ := all_zip ih (by simpa using h3) h4
        refine ⟨rfl, .lst (.inr (.inr ⟨_, its, _, q, congrArg Value.type h1, rfl, rfl, h2, r1⟩)) ?_ r2⟩
        rw [List.length_map]
        simpa using h2
      · cases h
    · rename_i ds a
      simp only [repB] at h
      split at h
      · rename_i c od its m sl q
        simp only [Bool.and_eq_true, decide_eq_true_eq] at h
        obtain ⟨⟨⟨h1, h2⟩, h3⟩, h4⟩ := h
        obtain ⟨r1, r2⟩ := all_zip ih (by simpa using h3) h4
        refine ⟨rfl, .tup (.inr ⟨_, its, _, q, congrArg Value.type h1, rfl, h2, r1⟩) ?_ r2⟩
        rw [List.length_map]
        simpa using h2
      · cases h
def nsB (K : PySem.W.Frag) (x : Str) (d : PyData) : Bool := match PySem.W.nsIn K mainGlobals x with
  | some (some v) => repB K 6 d v
  | _ => false
def bltB (K : PySem.W.Frag) (x : Str) (v : Value) : Bool := decide (PySem.W.nsIn K mainGlobals x = some (some v))
def freeB (K : PySem.W.Frag) (x : Str) : Bool := decide (PySem.W.nsIn K mainGlobals x = some none)
def globB (K : PySem.W.Frag) (fr : List Str) (gl : List (Str × PyData)) (bf : List (Str × Bi)) : Bool := (fr.all fun x => freeB K x) && (gl.all fun p => nsB K p.1 p.2) && bf.all fun p => if p.2 = .combos then bltB K p.1 (.type "itertools.combinations") else match biOf p.2 with
  | some (.builtin id) => bltB K p.1 (.builtin id)
  | _ => false
theorem glb_ok {K : PySem.W.Frag} {h : Heap} {mg : Str → Option Value} {p : Par} {t : Stx} {gl : List (Str × PyData)} (iK : K.In h) (iM : h.Ns mainGlobals mg) (hK : p.K = K) (hG : p.G = gl.map (·.2)) (hgn : t.gn = gl.map (·.1)) (hb : globB K t.fr gl t.bf = true) : Glb p t mg := by
  unfold globB at hb
  simp only [Bool.and_eq_true, List.all_eq_true] at hb
  obtain ⟨⟨h1, h2⟩, h3⟩ := hb
  refine ⟨fun x hx => PySem.W.mg_none_of iK iM (of_decide_eq_true (h1 x hx)), fun g x hx => ?_, fun x f hx => ?_⟩
  · rw [hgn, List.getElem?_map] at hx
    cases hg : gl[g]? with
    | none => rw [hg] at hx; cases hx
    | some q =>
      rw [hg] at hx
      obtain rfl := Option.some.inj hx
      have := h2 q (List.mem_of_getElem? hg)
      unfold nsB at this
      split at this
      · rename_i v hv
        refine ⟨q.2, v, toV v, by rw [hG, List.getElem?_map, hg]; rfl, PySem.W.mg_of iK iM hv, ?_, fun H Pz => ?_⟩
        · exact (repB_ok (H := fun _ => none) (Pz := fun _ => False) 6 q.2 v this).1
        · rw [hK]
          exact (repB_ok 6 q.2 v this).2
      · cases this
  · have := h3 (x, f) hx
    simp only at this
    split at this
    · rename_i e
      exact .inl ⟨e, PySem.W.mg_of iK iM (of_decide_eq_true this)⟩
    · split at this
      · rename_i id hid
        exact .inr ⟨id, hid, PySem.W.mg_of iK iM (of_decide_eq_true this)⟩
      · cases this
/-! ### the hook -/
abbrev AlR : Type := Bool × He.AlD
def obsR (ex : PySem.W.Frag → Bool) (fa : List He.Fa) (fn : List He.DefD) (K : PySem.W.Frag) : AlR := (ex K, He.obsD fa fn K)
def obsRG (n : Nat) (ex : PySem.W.Frag → Bool) (fa : List He.Fa) (fn : List He.DefD) (g : Addr → Option Obj) : AlR := obsR ex fa fn (He.frG g (He.asD g n))
def hookR (n : Nat) (ex : PySem.W.Frag → Bool) (fa : List He.Fa) (fn : List He.DefD) : PySem.W.Hook where
  α := AlR
  obs := fun s => obsRG n ex fa fn s.heap.get?
  val := fun _ => (true, He.valD fn)
  says := fun _ h => ∃ K : PySem.W.Frag, K.In h ∧ ex K = true ∧ He.SaysD fa fn K
  of := fun _ _ e => ⟨_, He.frG_in, congrArg Prod.fst e, congrArg Prod.snd e⟩
  keeps := fun _ _ _ ⟨K, hK, c⟩ k => ⟨K, PySem.W.Frag.In.keeps hK k, c⟩
theorem obsRG_eq {n : Nat} {ex : PySem.W.Frag → Bool} {fa : List He.Fa} {fn : List He.DefD} {g : Addr → Option Obj} {s : Shared} (h : ∀ a, g a = s.heap.get? a) : obsRG n ex fa fn g = (hookR n ex fa fn).obs s := by
  have e : g = s.heap.get? := funext h
  rw [e]
  rfl
def defOf (d : Fd) (st : Stmt) : He.DefD := ⟨(d.nm, none), d.nm, d.nm, defArgs st, defBody st, defScope st, [], []⟩
theorem txt_all {K : PySem.W.Frag} {h : Heap} {mg : Str → Option Value} {p : Par} {t : Stx} {T : List Fd} {fa : List He.Fa} {fn : List He.DefD} (iK : K.In h) (iM : h.Ns mainGlobals mg) (hK : p.K = K) (c : He.SaysD fa fn K)
    (tab : ∀ (g : Nat) (d : Fd), T[g]? = some d → ∃ st, Chk t g d st ∧ fa[g]? = some (.glo d.nm) ∧ fn[g]? = some (defOf d st)) : ∀ g d, T[g]? = some d → Txt p t mg g d := by
  subst hK
  intro g d hd
  obtain ⟨st, C, h1, h2⟩ := tab g d hd
  have m := He.glo_ok iK iM (c.fact g h1)
  obtain ⟨fd, F⟩ := c.def_ g h2
  exact ⟨_, fd, _, _, _, _, _, F, m, C.S, C.b _ _ _ F, C.k _ _ _ F, C.m⟩
/-- the law's def, from its promise by what it computes -/
theorem law_top {l : PySem.W.OpenLaw} {n : Nat} {q : Program} {loose : List Str} {XP : (Str → Option Value) → Heap → Prop} {dr : DefRec} {x : Str} {t : Stx} {T : List Fd} {gl : List (Str × PyData)} {fa : List He.Fa} {fn : List He.DefD} {ex : PySem.W.Frag → Bool} {m : Nat}
    (hn : l.most = some n) (hn2 : n ≤ sizeLine) (hdf : dr.params.defaults = []) {g : Nat} {d : Fd} (hd : T[g]? = some d) (hps : d.ps = [x]) (hnm : dr.name = d.nm) (rm : Room (g + 1) callerA) (hex : ∀ K, ex K = globB K t.fr gl t.bf) (hgn : t.gn = gl.map (·.1)) (hT : ∀ g : Nat, t.fn[g]? = (T[g]?).map fun d : Fd => (d.nm, d.ps))
    (tab : ∀ (g : Nat) (d : Fd), T[g]? = some d → ∃ st, Chk t g d st ∧ fa[g]? = some (.glo d.nm) ∧ fn[g]? = some (defOf d st))
    (bd : ∀ (K : PySem.W.Frag) (f : Addr) (fd : FuncData) (st : Stmt), fn[g]? = some (defOf d st) → FunD K d.nm d.nm (defArgs st) (defBody st) (defScope st) [] [] f fd → ∀ (s : Shared) (u : Value), BindsTo s fd ⟨[u], []⟩ [(x, u)])
    (math : ∀ ns : List Int, ns.length ≤ n → ∃ w, FnT (gl.map (·.2)) T (g + 1) g [.d (.list (ns.map .int))] [] = .ok (.d (.bool true)) w) :
    PySem.W.WalkO q loose XP (hookR m ex fa fn).says l.row.toRowW dr [] (fun f vs => PySem.call f vs) := by
  refine walk_top (x := x) hn hn2 hdf rm fun w mg a h Y G hm => ?_
  obtain ⟨K, iK, e, c⟩ := Y
  rw [hex] at e
  let p : Par := ⟨K, [], gl.map (·.2), fun _ _ _ => .bad, npT T, fun _ _ _ => False, fun _ => False⟩
  have gb : Glb p t mg := glb_ok iK G rfl rfl hgn e
  have X := txt_all (p := p) iK G rfl c tab
  obtain ⟨st, C, h1, h2⟩ := tab g d hd
  obtain ⟨fd, F⟩ := c.def_ g h2
  have m1 := He.glo_ok iK G (c.fact g h1)
  rw [hnm, m1] at hm
  cases hm
  refine ⟨K, fd, _, iK, bd K _ fd st h2 F, fun H a ns hl hS => ?_, fun base kb mb => by
    have G1 := fn_txt (P := l.prog) (w := w) (base := base) gb rfl hT hd F C.S C.m fun k _ d hd => pr_all gb rfl hT X k d hd
    rw [hps] at G1
    exact G1⟩
  obtain ⟨w', hw⟩ := math ns hl
  refine ⟨rfl, [], [], fun _ => False, [.d (.list (ns.map .int))], ⟨fun a h => h.elim, ⟨rfl, fun n a ns h => by simp at h, fun a h => by simp at h, List.nodup_nil⟩⟩, .cons ?_ .nil, ?_⟩
  · exact .lst hS (by
      rcases hS with ⟨q, _⟩ | ⟨o, q⟩ | ⟨o, its, k, q1, q2, q3, q4, q5, q6⟩
      · rw [List.length_map]
        omega
      · rw [List.length_map]
        omega
      · rw [List.length_map]
        omega) (RpL.of_ints ns)
  · have hw' : FnT p.G T (g + 1) g [.d (.list (ns.map .int))] [] = .ok (.d (.bool true)) w' := hw
    show Ans _ (FnT p.G T (g + 1) g [.d (.list (ns.map .int))] []) _ _ _ _
    rw [hw']
    intro H' φ' P' E W y ry
    cases ry
    rfl
end R
end
section
/-! To run the meaning by simp: what comes behind stands by a name, so that simp does not go into it before its time. -/
namespace R
open PySem L2
section
variable (G : List PyData) (F : Fns) (np : Nat → Nat) (env : En) (w : Wd)

@[simp] theorem x_var (i : Nat) : ev G F np env (.var i) w = ofOpt (getV env i) w := by simp only [ev]
@[simp] theorem x_cst (c : PyData) : ev G F np env (.cst c) w = .ok (.d c) w := by simp only [ev]
@[simp] theorem x_glob (g : Nat) : ev G F np env (.glob g) w = ofOpt (G[g]?.map .d) w := by simp only [ev]
@[simp] theorem x_bools (c : Bool) (es : Es) : ev G F np env (.bools c es) w = evB G F np env c es w := by simp only [ev]
@[simp] theorem xs_nil : evs G F np env .nil w = .ok [] w := by simp only [evs]
@[simp] theorem xb_nil (c : Bool) : evB G F np env c .nil w = .ok (.d (.bool c)) w := by simp only [evB]
@[simp] theorem xo_none : evO G F np env .none w = .ok none w := by simp only [evO]
@[simp] theorem xss_nil : evSs G F np .nil env w = .ok (.nx env) w := by simp only [evSs]
@[simp] theorem xt_retN : evS G F np .retN env w = .ok (.rt (.d .none)) w := by simp only [evS]
@[simp] theorem xt_nev : evS G F np .nev env w = .bad := by simp only [evS]
@[simp] theorem xt_brk : evS G F np .brk env w = .ok (.bk env) w := by simp only [evS]
@[simp] theorem xt_pass : evS G F np .pass env w = .ok (.nx env) w := by simp only [evS]
@[simp] theorem xp_nil : evP G F np env [] w = .ok [] w := by simp only [evP]
def kTup (G : List PyData) (F : Fns) (np : Nat → Nat) (env : En)  : List Vl → Wd → Res Vl := fun vs w => ofOpt ((datas vs).map fun xs => .d (.tuple xs)) w
@[simp] theorem kTup_0  (vs : List Vl) (w : Wd) : kTup G F np env  vs w = ofOpt ((datas vs).map fun xs => .d (.tuple xs)) w := Eq.trans rfl rfl
@[simp] theorem x_tup (es : Es) : ev G F np env (.tup es) w = (evs G F np env es w).bind (kTup G F np env) := by
  simp only [ev] <;> rfl
def kLst (G : List PyData) (F : Fns) (np : Nat → Nat) (env : En)  : List Vl → Wd → Res Vl := fun vs w => ofOpt ((datas vs).map fun xs => .d (.list xs)) w
@[simp] theorem kLst_0  (vs : List Vl) (w : Wd) : kLst G F np env  vs w = ofOpt ((datas vs).map fun xs => .d (.list xs)) w := Eq.trans rfl rfl
@[simp] theorem x_lst (es : Es) : ev G F np env (.lst es) w = (evs G F np env es w).bind (kLst G F np env) := by
  simp only [ev] <;> rfl
def kNew (G : List PyData) (F : Fns) (np : Nat → Nat) (env : En)  : List Vl → Wd → Res Vl := fun vs w => match (datas vs).bind asInts with
    | some xs => .ok (.loc w.length) (w ++ [xs])
    | none => .bad
@[simp] theorem kNew_0  (vs : List Vl) (w : Wd) : kNew G F np env  vs w = (match (datas vs).bind asInts with
    | some xs => .ok (.loc w.length) (w ++ [xs])
    | none => .bad) := Eq.trans rfl rfl
@[simp] theorem x_new (es : Es) : ev G F np env (.new es) w = (evs G F np env es w).bind (kNew G F np env) := by
  simp only [ev] <;> rfl
def kRep2 (G : List PyData) (F : Fns) (np : Nat → Nat) (env : En) (vs : List Vl) : Vl → Wd → Res Vl := fun u w => match datas vs, u with
    | some xs, .d (.int k) => if decide (-(2 ^ 63) ≤ k) && decide (k < 2 ^ 63) && fits (xs.length * k.toNat) then .ok (.d (.list (List.replicate k.toNat xs).flatten)) w else .bad
    | _, _ => .bad
@[simp] theorem kRep2_0 (vs : List Vl) (u : Vl) (w : Wd) : kRep2 G F np env vs u w = (match datas vs, u with
    | some xs, .d (.int k) => if decide (-(2 ^ 63) ≤ k) && decide (k < 2 ^ 63) && fits (xs.length * k.toNat) then .ok (.d (.list (List.replicate k.toNat xs).flatten)) w else .bad
    | _, _ => .bad) := Eq.trans rfl rfl
def kRep (G : List PyData) (F : Fns) (np : Nat → Nat) (env : En) (a : E) : List Vl → Wd → Res Vl := fun vs w => (ev G F np env a w).bind (kRep2 G F np env vs)
@[simp] theorem kRep_0 (a : E) (vs : List Vl) (w : Wd) : kRep G F np env a vs w = (ev G F np env a w).bind (kRep2 G F np env vs) := Eq.trans rfl rfl
@[simp] theorem x_rep (es : Es) (a : E) : ev G F np env (.rep es a) w = (evs G F np env es w).bind (kRep G F np env a) := by
  simp only [ev] <;> rfl
def kNeg (G : List PyData) (F : Fns) (np : Nat → Nat) (env : En)  : Vl → Wd → Res Vl := fun v w => match v with
    | .d (.int i) => .ok (.d (.int (-i))) w
    | _ => .bad
@[simp] theorem kNeg_0  (i : Int) (w : Wd) : kNeg G F np env  (.d (.int i)) w = .ok (.d (.int (-i))) w := Eq.trans rfl rfl
@[simp] theorem x_neg (a : E) : ev G F np env (.neg a) w = (ev G F np env a w).bind (kNeg G F np env) := by
  simp only [ev] <;> rfl
def kNo (G : List PyData) (F : Fns) (np : Nat → Nat) (env : En)  : Vl → Wd → Res Vl := fun v w => (boolOf v w).bind fun b w => .ok (.d (.bool (!b))) w
@[simp] theorem kNo_0  (b : Bool) (w : Wd) : kNo G F np env  (.d (.bool b)) w = .ok (.d (.bool (!b))) w := Eq.trans rfl rfl
@[simp] theorem x_no (a : E) : ev G F np env (.no a) w = (ev G F np env a w).bind (kNo G F np env) := by
  simp only [ev] <;> rfl
def kOp2 (G : List PyData) (F : Fns) (np : Nat → Nat) (env : En) (o : Op2) (x : PyData) : Vl → Wd → Res Vl := fun u w => (asD u w).bind fun y w => ofOpt ((op2V o x y).map .d) w
@[simp] theorem kOp2_0 (o : Op2) (x : PyData) (y : PyData) (w : Wd) : kOp2 G F np env o x (.d y) w = ofOpt ((op2V o x y).map .d) w := Eq.trans rfl rfl
def kOp (G : List PyData) (F : Fns) (np : Nat → Nat) (env : En) (o : Op2) (b : E) : Vl → Wd → Res Vl := fun v w => (asD v w).bind fun x w => (ev G F np env b w).bind (kOp2 G F np env o x)
@[simp] theorem kOp_0 (o : Op2) (b : E) (x : PyData) (w : Wd) : kOp G F np env o b (.d x) w = (ev G F np env b w).bind (kOp2 G F np env o x) := Eq.trans rfl rfl
@[simp] theorem x_op2 (o : Op2) (a b : E) : ev G F np env (.op2 o a b) w = (ev G F np env a w).bind (kOp G F np env o b) := by
  simp only [ev] <;> rfl
def kCh3 (G : List PyData) (F : Fns) (np : Nat → Nat) (env : En) (p : Op2) (y : PyData) : Vl → Wd → Res Vl := fun u w => (asD u w).bind fun z w => ofOpt ((op2V p y z).map .d) w
@[simp] theorem kCh3_0 (p : Op2) (y : PyData) (z : PyData) (w : Wd) : kCh3 G F np env p y (.d z) w = ofOpt ((op2V p y z).map .d) w := Eq.trans rfl rfl
def kCh2 (G : List PyData) (F : Fns) (np : Nat → Nat) (env : En) (p : Op2) (c : E) (y : PyData) : PyData → Wd → Res Vl := fun t w => match t with
        | .bool true => (ev G F np env c w).bind (kCh3 G F np env p y)
        | .bool false => .ok (.d (.bool false)) w
        | _ => .bad
@[simp] theorem kCh2_0 (p : Op2) (c : E) (y : PyData)  (w : Wd) : kCh2 G F np env p c y (.bool true) w = (ev G F np env c w).bind (kCh3 G F np env p y) := Eq.trans rfl rfl
@[simp] theorem kCh2_1 (p : Op2) (c : E) (y : PyData)  (w : Wd) : kCh2 G F np env p c y (.bool false) w = .ok (.d (.bool false)) w := Eq.trans rfl rfl
def kCh1 (G : List PyData) (F : Fns) (np : Nat → Nat) (env : En) (o p : Op2) (c : E) (x : PyData) : Vl → Wd → Res Vl := fun u w => (asD u w).bind fun y w => (ofOpt (op2V o x y) w).bind (kCh2 G F np env p c y)
@[simp] theorem kCh1_0 (o p : Op2) (c : E) (x : PyData) (y : PyData) (w : Wd) : kCh1 G F np env o p c x (.d y) w = (ofOpt (op2V o x y) w).bind (kCh2 G F np env p c y) := Eq.trans rfl rfl
def kCh (G : List PyData) (F : Fns) (np : Nat → Nat) (env : En) (o p : Op2) (b c : E) : Vl → Wd → Res Vl := fun v w => (asD v w).bind fun x w => (ev G F np env b w).bind (kCh1 G F np env o p c x)
@[simp] theorem kCh_0 (o p : Op2) (b c : E) (x : PyData) (w : Wd) : kCh G F np env o p b c (.d x) w = (ev G F np env b w).bind (kCh1 G F np env o p c x) := Eq.trans rfl rfl
@[simp] theorem x_chain (o p : Op2) (a b c : E) : ev G F np env (.chain o p a b c) w = (ev G F np env a w).bind (kCh G F np env o p b c) := by
  simp only [ev] <;> rfl
def kIsN (G : List PyData) (F : Fns) (np : Nat → Nat) (env : En) (p : Bool) : Vl → Wd → Res Vl := fun v w => (asD v w).bind fun x w => .ok (.d (.bool (match x with
    | .none => p
    | _ => !p))) w
@[simp] theorem kIsN_0 (p : Bool) (x : PyData) (w : Wd) : kIsN G F np env p (.d x) w = .ok (.d (.bool (match x with
    | .none => p
    | _ => !p))) w := Eq.trans rfl rfl
@[simp] theorem x_isN (p : Bool) (a : E) : ev G F np env (.isN p a) w = (ev G F np env a w).bind (kIsN G F np env p) := by
  simp only [ev] <;> rfl
def kIte (G : List PyData) (F : Fns) (np : Nat → Nat) (env : En) (a b : E) : Vl → Wd → Res Vl := fun v w => (boolOf v w).bind fun t w => if t then ev G F np env a w else ev G F np env b w
@[simp] theorem kIte_0 (a b : E)  (w : Wd) : kIte G F np env a b (.d (.bool true)) w = ev G F np env a w := Eq.trans rfl rfl
@[simp] theorem kIte_1 (a b : E)  (w : Wd) : kIte G F np env a b (.d (.bool false)) w = ev G F np env b w := Eq.trans rfl rfl
@[simp] theorem kIte_2 (a b : E) (t : Bool) (w : Wd) : kIte G F np env a b (.d (.bool t)) w = if t then ev G F np env a w else ev G F np env b w := Eq.trans rfl rfl
@[simp] theorem x_ite (c a b : E) : ev G F np env (.ite c a b) w = (ev G F np env c w).bind (kIte G F np env a b) := by
  simp only [ev] <;> rfl
def kIx2 (G : List PyData) (F : Fns) (np : Nat → Nat) (env : En) (v : Vl) : Vl → Wd → Res Vl := fun u w => match v, u with
    | .d x, .d y => ofOpt ((ixV x y).map .d) w
    | .loc n, .d (.int i) => ofOpt ((w[n]?.bind fun xs => if 0 ≤ i then xs[i.toNat]? else none).map fun k => .d (.int k)) w
    | _, _ => .bad
@[simp] theorem kIx2_0 (x y : PyData) (w : Wd) : kIx2 G F np env (.d x) (.d y) w = ofOpt ((ixV x y).map .d) w := Eq.trans rfl rfl
@[simp] theorem kIx2_1 (n : Nat) (i : Int) (w : Wd) : kIx2 G F np env (.loc n) (.d (.int i)) w = ofOpt ((w[n]?.bind fun xs => if 0 ≤ i then xs[i.toNat]? else none).map fun k => .d (.int k)) w := Eq.trans rfl rfl
def kIx (G : List PyData) (F : Fns) (np : Nat → Nat) (env : En) (b : E) : Vl → Wd → Res Vl := fun v w => (ev G F np env b w).bind (kIx2 G F np env v)
@[simp] theorem kIx_0 (b : E) (v : Vl) (w : Wd) : kIx G F np env b v w = (ev G F np env b w).bind (kIx2 G F np env v) := Eq.trans rfl rfl
@[simp] theorem x_ix (a b : E) : ev G F np env (.ix a b) w = (ev G F np env a w).bind (kIx G F np env b) := by
  simp only [ev] <;> rfl
def kSl3 (G : List PyData) (F : Fns) (np : Nat → Nat) (env : En) (x : PyData) (l : Option Int) : Option Int → Wd → Res Vl := fun h w => ofOpt ((slV x l h).map .d) w
@[simp] theorem kSl3_0 (x : PyData) (l : Option Int) (h : Option Int) (w : Wd) : kSl3 G F np env x l h w = ofOpt ((slV x l h).map .d) w := Eq.trans rfl rfl
def kSl2 (G : List PyData) (F : Fns) (np : Nat → Nat) (env : En) (hi : Eo) (x : PyData) : Option Int → Wd → Res Vl := fun l w => (evO G F np env hi w).bind (kSl3 G F np env x l)
@[simp] theorem kSl2_0 (hi : Eo) (x : PyData) (l : Option Int) (w : Wd) : kSl2 G F np env hi x l w = (evO G F np env hi w).bind (kSl3 G F np env x l) := Eq.trans rfl rfl
def kSl (G : List PyData) (F : Fns) (np : Nat → Nat) (env : En) (lo hi : Eo) : Vl → Wd → Res Vl := fun v w => (asD v w).bind fun x w => (evO G F np env lo w).bind (kSl2 G F np env hi x)
@[simp] theorem kSl_0 (lo hi : Eo) (x : PyData) (w : Wd) : kSl G F np env lo hi (.d x) w = (evO G F np env lo w).bind (kSl2 G F np env hi x) := Eq.trans rfl rfl
@[simp] theorem x_sl (a : E) (lo hi : Eo) : ev G F np env (.sl a lo hi) w = (ev G F np env a w).bind (kSl G F np env lo hi) := by
  simp only [ev] <;> rfl
def kBi (G : List PyData) (F : Fns) (np : Nat → Nat) (env : En) (f : Bi) : List Vl → Wd → Res Vl := fun vs w => ofOpt (((datas vs).bind (biV f)).map .d) w
@[simp] theorem kBi_0 (f : Bi) (vs : List Vl) (w : Wd) : kBi G F np env f vs w = ofOpt (((datas vs).bind (biV f)).map .d) w := Eq.trans rfl rfl
@[simp] theorem x_bi (f : Bi) (es : Es) : ev G F np env (.bi f es) w = (evs G F np env es w).bind (kBi G F np env f) := by
  simp only [ev] <;> rfl
def kIsi (G : List PyData) (F : Fns) (np : Nat → Nat) (env : En) (t : Ty) : Vl → Wd → Res Vl := fun v w => (asD v w).bind fun x w => .ok (.d (.bool (isiV t x))) w
@[simp] theorem kIsi_0 (t : Ty) (x : PyData) (w : Wd) : kIsi G F np env t (.d x) w = .ok (.d (.bool (isiV t x))) w := Eq.trans rfl rfl
@[simp] theorem x_isi (t : Ty) (a : E) : ev G F np env (.isi t a) w = (ev G F np env a w).bind (kIsi G F np env t) := by
  simp only [ev] <;> rfl
def kRng (G : List PyData) (F : Fns) (np : Nat → Nat) (env : En) (tup : Bool) : Vl → Wd → Res Vl := fun v w => (asD v w).bind fun x w => match x with
    | .int i => if decide (0 ≤ i) && decide (i ≤ 1000000) then .ok (.d (if tup then .tuple (rangeL 0 i.toNat 1) else .list (rangeL 0 i.toNat 1))) w else .bad
    | _ => .bad
@[simp] theorem kRng_0 (tup : Bool) (i : Int) (w : Wd) : kRng G F np env tup (.d (.int i)) w = if decide (0 ≤ i) && decide (i ≤ 1000000) then .ok (.d (if tup then .tuple (rangeL 0 i.toNat 1) else .list (rangeL 0 i.toNat 1))) w else .bad := Eq.trans rfl rfl
@[simp] theorem x_rng (tup : Bool) (a : E) : ev G F np env (.rngV tup a) w = (ev G F np env a w).bind (kRng G F np env tup) := by
  simp only [ev] <;> rfl
def kRev (G : List PyData) (F : Fns) (np : Nat → Nat) (env : En)  : Vl → Wd → Res Vl := fun v w => (asD v w).bind fun x w => ofOpt ((revV x).map .d) w
@[simp] theorem kRev_0  (x : PyData) (w : Wd) : kRev G F np env  (.d x) w = ofOpt ((revV x).map .d) w := Eq.trans rfl rfl
@[simp] theorem x_rev (a : E) : ev G F np env (.rev a) w = (ev G F np env a w).bind (kRev G F np env) := by
  simp only [ev] <;> rfl
def kStar2 (G : List PyData) (F : Fns) (np : Nat → Nat) (env : En) (xs : List PyData) : List Vl → Wd → Res Vl := fun vs w => ofOpt ((datas vs).bind fun ys => if fits (xs.length + ys.length) then some (.d (.tuple (xs ++ ys))) else none) w
@[simp] theorem kStar2_0 (xs : List PyData) (vs : List Vl) (w : Wd) : kStar2 G F np env xs vs w = ofOpt ((datas vs).bind fun ys => if fits (xs.length + ys.length) then some (.d (.tuple (xs ++ ys))) else none) w := Eq.trans rfl rfl
def kStar1 (G : List PyData) (F : Fns) (np : Nat → Nat) (env : En) (es : Es) : List PyData → Wd → Res Vl := fun xs w => (evs G F np env es w).bind (kStar2 G F np env xs)
@[simp] theorem kStar1_0 (es : Es) (xs : List PyData) (w : Wd) : kStar1 G F np env es xs w = (evs G F np env es w).bind (kStar2 G F np env xs) := Eq.trans rfl rfl
def kStar (G : List PyData) (F : Fns) (np : Nat → Nat) (env : En) (es : Es) : Vl → Wd → Res Vl := fun v w => (asD v w).bind fun x w => (ofOpt (asSeq x) w).bind (kStar1 G F np env es)
@[simp] theorem kStar_0 (es : Es) (x : PyData) (w : Wd) : kStar G F np env es (.d x) w = (ofOpt (asSeq x) w).bind (kStar1 G F np env es) := Eq.trans rfl rfl
@[simp] theorem x_star (a : E) (es : Es) : ev G F np env (.star a es) w = (ev G F np env a w).bind (kStar G F np env es) := by
  simp only [ev] <;> rfl
@[simp] theorem x_call (f : Nat) (es : Es) : ev G F np env (.call f es) w = (evs G F np env es w).bind (F f) := by
  simp only [ev] <;> rfl
def kCk2 (G : List PyData) (F : Fns) (np : Nat → Nat) (env : En) (f : Nat) (ks : List Nat) (vs : List Vl) : List Vl → Wd → Res Vl := fun us w => F f (putK (np f) ks vs us) w
@[simp] theorem kCk2_0 (f : Nat) (ks : List Nat) (vs : List Vl) (us : List Vl) (w : Wd) : kCk2 G F np env f ks vs us w = F f (putK (np f) ks vs us) w := Eq.trans rfl rfl
def kCk (G : List PyData) (F : Fns) (np : Nat → Nat) (env : En) (f : Nat) (ks : List Nat) (ws : Es) : List Vl → Wd → Res Vl := fun vs w => (evs G F np env ws w).bind (kCk2 G F np env f ks vs)
@[simp] theorem kCk_0 (f : Nat) (ks : List Nat) (ws : Es) (vs : List Vl) (w : Wd) : kCk G F np env f ks ws vs w = (evs G F np env ws w).bind (kCk2 G F np env f ks vs) := Eq.trans rfl rfl
@[simp] theorem x_callK (f : Nat) (es : Es) (ks : List Nat) (ws : Es) : ev G F np env (.callK f es ks ws) w = (evs G F np env es w).bind (kCk G F np env f ks ws) := by
  simp only [ev] <;> rfl
def kCs2 (G : List PyData) (F : Fns) (np : Nat → Nat) (env : En) (v : Vl) : List Vl → Wd → Res (List Vl) := fun vs w => .ok (v :: vs) w
@[simp] theorem kCs2_0 (v : Vl) (vs : List Vl) (w : Wd) : kCs2 G F np env v vs w = .ok (v :: vs) w := Eq.trans rfl rfl
def kCs (G : List PyData) (F : Fns) (np : Nat → Nat) (env : En) (r : Es) : Vl → Wd → Res (List Vl) := fun v w => (evs G F np env r w).bind (kCs2 G F np env v)
@[simp] theorem kCs_0 (r : Es) (v : Vl) (w : Wd) : kCs G F np env r v w = (evs G F np env r w).bind (kCs2 G F np env v) := Eq.trans rfl rfl
@[simp] theorem xs_cons (e : E) (r : Es) : evs G F np env (.cons e r) w = (ev G F np env e w).bind (kCs G F np env r) := by
  simp only [evs] <;> rfl
def kB (G : List PyData) (F : Fns) (np : Nat → Nat) (env : En) (c : Bool) (r : Es) : Vl → Wd → Res Vl := fun v w => (boolOf v w).bind fun b w => if b = c then evB G F np env c r w else .ok (.d (.bool b)) w
@[simp] theorem kB_0 (c : Bool) (r : Es) (b : Bool) (w : Wd) : kB G F np env c r (.d (.bool b)) w = if b = c then evB G F np env c r w else .ok (.d (.bool b)) w := Eq.trans rfl rfl
@[simp] theorem xb_cons (c : Bool) (e : E) (r : Es) : evB G F np env c (.cons e r) w = (ev G F np env e w).bind (kB G F np env c r) := by
  simp only [evB] <;> rfl
def kO (G : List PyData) (F : Fns) (np : Nat → Nat) (env : En)  : Vl → Wd → Res (Option Int) := fun v w => (asD v w).bind fun x w => ofOpt (bound? x) w
@[simp] theorem kO_0  (x : PyData) (w : Wd) : kO G F np env  (.d x) w = ofOpt (bound? x) w := Eq.trans rfl rfl
@[simp] theorem xo_some (e : E) : evO G F np env (.some e) w = (ev G F np env e w).bind (kO G F np env) := by
  simp only [evO] <;> rfl
def kSeq (G : List PyData) (F : Fns) (np : Nat → Nat) (env : En)  : Vl → Wd → Res (List PyData) := fun v w => (asD v w).bind fun x w => ofOpt (asSeq x) w
@[simp] theorem kSeq_0  (x : PyData) (w : Wd) : kSeq G F np env  (.d x) w = ofOpt (asSeq x) w := Eq.trans rfl rfl
@[simp] theorem xi_seq (e : E) : evI G F np env (.seq e) w = (ev G F np env e w).bind (kSeq G F np env) := by
  simp only [evI] <;> rfl
def kR1 (G : List PyData) (F : Fns) (np : Nat → Nat) (env : En)  : Vl → Wd → Res (List PyData) := fun v w => (asD v w).bind fun x w => match x with
    | .int i => if small62 i then .ok (rangeL 0 i.toNat 1) w else .bad
    | _ => .bad
@[simp] theorem kR1_0  (i : Int) (w : Wd) : kR1 G F np env  (.d (.int i)) w = if small62 i then .ok (rangeL 0 i.toNat 1) w else .bad := Eq.trans rfl rfl
@[simp] theorem xi_rng1 (a : E) : evI G F np env (.rng1 a) w = (ev G F np env a w).bind (kR1 G F np env) := by
  simp only [evI] <;> rfl
def kR22 (G : List PyData) (F : Fns) (np : Nat → Nat) (env : En) (x : PyData) : Vl → Wd → Res (List PyData) := fun u w => (asD u w).bind fun y w => match x, y with
    | .int i, .int j => if small62 i && small62 j then .ok (rangeL i (j - i).toNat 1) w else .bad
    | _, _ => .bad
@[simp] theorem kR22_0 (i j : Int) (w : Wd) : kR22 G F np env (.int i) (.d (.int j)) w = if small62 i && small62 j then .ok (rangeL i (j - i).toNat 1) w else .bad := Eq.trans rfl rfl
def kR2 (G : List PyData) (F : Fns) (np : Nat → Nat) (env : En) (b : E) : Vl → Wd → Res (List PyData) := fun v w => (asD v w).bind fun x w => (ev G F np env b w).bind (kR22 G F np env x)
@[simp] theorem kR2_0 (b : E) (x : PyData) (w : Wd) : kR2 G F np env b (.d x) w = (ev G F np env b w).bind (kR22 G F np env x) := Eq.trans rfl rfl
@[simp] theorem xi_rng2 (a b : E) : evI G F np env (.rng2 a b) w = (ev G F np env a w).bind (kR2 G F np env b) := by
  simp only [evI] <;> rfl
def kR33 (G : List PyData) (F : Fns) (np : Nat → Nat) (env : En) (x y : PyData) : Vl → Wd → Res (List PyData) := fun t w => (asD t w).bind fun z w => match x, y, z with
    | .int i, .int j, .int k => if small62 i && small62 j && decide (k = -1) then .ok (rangeL i (i - j).toNat (-1)) w else .bad
    | _, _, _ => .bad
@[simp] theorem kR33_0 (i j k : Int) (w : Wd) : kR33 G F np env (.int i) (.int j) (.d (.int k)) w = if small62 i && small62 j && decide (k = -1) then .ok (rangeL i (i - j).toNat (-1)) w else .bad := Eq.trans rfl rfl
def kR32 (G : List PyData) (F : Fns) (np : Nat → Nat) (env : En) (c : E) (x : PyData) : Vl → Wd → Res (List PyData) := fun u w => (asD u w).bind fun y w => (ev G F np env c w).bind (kR33 G F np env x y)
@[simp] theorem kR32_0 (c : E) (x : PyData) (y : PyData) (w : Wd) : kR32 G F np env c x (.d y) w = (ev G F np env c w).bind (kR33 G F np env x y) := Eq.trans rfl rfl
def kR3 (G : List PyData) (F : Fns) (np : Nat → Nat) (env : En) (b c : E) : Vl → Wd → Res (List PyData) := fun v w => (asD v w).bind fun x w => (ev G F np env b w).bind (kR32 G F np env c x)
@[simp] theorem kR3_0 (b c : E) (x : PyData) (w : Wd) : kR3 G F np env b c (.d x) w = (ev G F np env b w).bind (kR32 G F np env c x) := Eq.trans rfl rfl
@[simp] theorem xi_rng3 (a b c : E) : evI G F np env (.rng3 a b c) w = (ev G F np env a w).bind (kR3 G F np env b c) := by
  simp only [evI] <;> rfl
def kZ2 (G : List PyData) (F : Fns) (np : Nat → Nat) (env : En) (x : PyData) : Vl → Wd → Res (List PyData) := fun u w => (asD u w).bind fun y w => match asSeq x, asSeq y with
    | some xs, some ys => .ok (List.zipWith (fun x y => .tuple [x, y]) xs ys) w
    | _, _ => .bad
@[simp] theorem kZ2_0 (x : PyData) (y : PyData) (w : Wd) : kZ2 G F np env x (.d y) w = (match asSeq x, asSeq y with
    | some xs, some ys => .ok (List.zipWith (fun x y => .tuple [x, y]) xs ys) w
    | _, _ => .bad) := Eq.trans rfl rfl
def kZ (G : List PyData) (F : Fns) (np : Nat → Nat) (env : En) (b : E) : Vl → Wd → Res (List PyData) := fun v w => (asD v w).bind fun x w => (ev G F np env b w).bind (kZ2 G F np env x)
@[simp] theorem kZ_0 (b : E) (x : PyData) (w : Wd) : kZ G F np env b (.d x) w = (ev G F np env b w).bind (kZ2 G F np env x) := Eq.trans rfl rfl
@[simp] theorem xi_zip (a b : E) : evI G F np env (.zip a b) w = (ev G F np env a w).bind (kZ G F np env b) := by
  simp only [evI] <;> rfl
def kEn (G : List PyData) (F : Fns) (np : Nat → Nat) (env : En)  : Vl → Wd → Res (List PyData) := fun v w => (asD v w).bind fun x w => match asSeq x with
    | some xs => .ok (xs.zipIdx.map fun p => .tuple [.int p.2, p.1]) w
    | none => .bad
@[simp] theorem kEn_0  (x : PyData) (w : Wd) : kEn G F np env  (.d x) w = (match asSeq x with
    | some xs => .ok (xs.zipIdx.map fun p => .tuple [.int p.2, p.1]) w
    | none => .bad) := Eq.trans rfl rfl
@[simp] theorem xi_enm (a : E) : evI G F np env (.enm a) w = (ev G F np env a w).bind (kEn G F np env) := by
  simp only [evI] <;> rfl
def kCb2 (G : List PyData) (F : Fns) (np : Nat → Nat) (env : En) (x : PyData) : Vl → Wd → Res (List PyData) := fun u w => (asD u w).bind fun y w => match x, y with
    | .tuple xs, .int k => if decide (0 ≤ k) && decide (k ≤ xs.length) && decide (xs.length ≤ 5) && (asInts xs).isSome then .ok ((combs k.toNat xs).map .tuple) w else .bad
    | _, _ => .bad
@[simp] theorem kCb2_0 (xs : List PyData) (k : Int) (w : Wd) : kCb2 G F np env (.tuple xs) (.d (.int k)) w = if decide (0 ≤ k) && decide (k ≤ xs.length) && decide (xs.length ≤ 5) && (asInts xs).isSome then .ok ((combs k.toNat xs).map .tuple) w else .bad := Eq.trans rfl rfl
def kCb (G : List PyData) (F : Fns) (np : Nat → Nat) (env : En) (b : E) : Vl → Wd → Res (List PyData) := fun v w => (asD v w).bind fun x w => (ev G F np env b w).bind (kCb2 G F np env x)
@[simp] theorem kCb_0 (b : E) (x : PyData) (w : Wd) : kCb G F np env b (.d x) w = (ev G F np env b w).bind (kCb2 G F np env x) := Eq.trans rfl rfl
@[simp] theorem xi_comb (a b : E) : evI G F np env (.comb a b) w = (ev G F np env a w).bind (kCb G F np env b) := by
  simp only [evI] <;> rfl
def kGt2 (G : List PyData) (F : Fns) (np : Nat → Nat) (env : En) (kvs : List (PyData × PyData)) : Vl → Wd → Res Vl := fun u w => (asD u w).bind fun y w => ofOpt ((getDV kvs y).map .d) w
@[simp] theorem kGt2_0 (kvs : List (PyData × PyData)) (y : PyData) (w : Wd) : kGt2 G F np env kvs (.d y) w = ofOpt ((getDV kvs y).map .d) w := Eq.trans rfl rfl
def kGt1 (G : List PyData) (F : Fns) (np : Nat → Nat) (env : En) (b : E) : List (PyData × PyData) → Wd → Res Vl := fun kvs w => (ev G F np env b w).bind (kGt2 G F np env kvs)
@[simp] theorem kGt1_0 (b : E) (kvs : List (PyData × PyData)) (w : Wd) : kGt1 G F np env b kvs w = (ev G F np env b w).bind (kGt2 G F np env kvs) := Eq.trans rfl rfl
def kGt (G : List PyData) (F : Fns) (np : Nat → Nat) (env : En) (b : E) : Vl → Wd → Res Vl := fun v w => (ofOpt (dictOf v) w).bind (kGt1 G F np env b)
@[simp] theorem kGt_0 (b : E) (v : Vl) (w : Wd) : kGt G F np env b v w = (ofOpt (dictOf v) w).bind (kGt1 G F np env b) := Eq.trans rfl rfl
@[simp] theorem x_get (i : Nat) (b : E) : ev G F np env (.get i b) w = (ofOpt (getV env i) w).bind (kGt G F np env b) := by
  simp only [ev] <;> rfl
def kId2 (G : List PyData) (F : Fns) (np : Nat → Nat) (env : En) (ds : List PyData) : Vl → Wd → Res Vl := fun u w => (asD u w).bind fun y w => ofOpt ((idxV ds y).map .d) w
@[simp] theorem kId2_0 (ds : List PyData) (y : PyData) (w : Wd) : kId2 G F np env ds (.d y) w = ofOpt ((idxV ds y).map .d) w := Eq.trans rfl rfl
def kId1 (G : List PyData) (F : Fns) (np : Nat → Nat) (env : En) (b : E) : List PyData → Wd → Res Vl := fun ds w => (ev G F np env b w).bind (kId2 G F np env ds)
@[simp] theorem kId1_0 (b : E) (ds : List PyData) (w : Wd) : kId1 G F np env b ds w = (ev G F np env b w).bind (kId2 G F np env ds) := Eq.trans rfl rfl
def kId (G : List PyData) (F : Fns) (np : Nat → Nat) (env : En) (b : E) : Vl → Wd → Res Vl := fun v w => (ofOpt (listOf v) w).bind (kId1 G F np env b)
@[simp] theorem kId_0 (b : E) (v : Vl) (w : Wd) : kId G F np env b v w = (ofOpt (listOf v) w).bind (kId1 G F np env b) := Eq.trans rfl rfl
@[simp] theorem x_idx (i : Nat) (b : E) : ev G F np env (.idx i b) w = (ofOpt (getV env i) w).bind (kId G F np env b) := by
  simp only [ev] <;> rfl
@[simp] theorem x_dsp (i j : Nat) : ev G F np env (.dsp i j) w = (match env[i]?, env[j]? with
    | some (.val (.d x)), some (.val (.d y)) => ofOpt ((dspV x y).map .d) w
    | _, _ => .bad) := by
  simp only [ev] <;> rfl
def kDc (G : List PyData) (F : Fns) (np : Nat → Nat) (env : En) (i v : Nat) : Vl → Wd → Res Vl := fun u w => (asD u w).bind fun x w => match env[v]? with
    | some (.val (.d y)) => if decide (i ≠ v) && decide (i < env.length) then ofOpt ((dcvV x y).map .d) w else .bad
    | _ => .bad
@[simp] theorem kDc_0 (i v : Nat) (x : PyData) (w : Wd) : kDc G F np env i v (.d x) w = (match env[v]? with
    | some (.val (.d y)) => if decide (i ≠ v) && decide (i < env.length) then ofOpt ((dcvV x y).map .d) w else .bad
    | _ => .bad) := Eq.trans rfl rfl
@[simp] theorem x_dcv (i : Nat) (a : E) (v : Nat) : ev G F np env (.dcv i a v) w = (ev G F np env a w).bind (kDc G F np env i v) := by
  simp only [ev] <;> rfl
@[simp] theorem xi_rgv (i : Nat) : evI G F np env (.rgv i) w = (match env[i]? with
    | some (.rng n) => if decide (0 ≤ n) && small62 n then .ok (rangeL 0 n.toNat 1) w else .bad
    | _ => .bad) := by
  simp only [evI] <;> rfl
def kEz2 (G : List PyData) (F : Fns) (np : Nat → Nat) (env : En) (x : PyData) : Vl → Wd → Res (List PyData) := fun u w => (asD u w).bind fun y w => match asSeq x, asSeq y with
    | some xs, some ys => .ok ((List.zipWith (fun x y => PyData.tuple [x, y]) xs ys).zipIdx.map fun p => .tuple [.int p.2, p.1]) w
    | _, _ => .bad
@[simp] theorem kEz2_0 (x : PyData) (y : PyData) (w : Wd) : kEz2 G F np env x (.d y) w = (match asSeq x, asSeq y with
    | some xs, some ys => .ok ((List.zipWith (fun x y => PyData.tuple [x, y]) xs ys).zipIdx.map fun p => .tuple [.int p.2, p.1]) w
    | _, _ => .bad) := Eq.trans rfl rfl
def kEz (G : List PyData) (F : Fns) (np : Nat → Nat) (env : En) (b : E) : Vl → Wd → Res (List PyData) := fun v w => (asD v w).bind fun x w => (ev G F np env b w).bind (kEz2 G F np env x)
@[simp] theorem kEz_0 (b : E) (x : PyData) (w : Wd) : kEz G F np env b (.d x) w = (ev G F np env b w).bind (kEz2 G F np env x) := Eq.trans rfl rfl
@[simp] theorem xi_ezp (a b : E) : evI G F np env (.ezp a b) w = (ev G F np env a w).bind (kEz G F np env b) := by
  simp only [evI] <;> rfl
/-- one turn of a comprehension -/
def kElt (G : List PyData) (F : Fns) (np : Nat → Nat) (env : En) (elt : E) : Bool → Wd → Res (Option PyData) := fun b w => if b then (ev G F np env elt w).bind fun v w => (asD v w).bind fun y w => .ok (some y) w else .ok none w
def lcT (G : List PyData) (F : Fns) (np : Nat → Nat) (env : En) (vs : List Nat) (elt : E) (tg : Tg) (cs : Es) (x : PyData) (w : Wd) : Res (Option PyData) := match bindT tg x (wipeE env vs) with
      | none => .bad
      | some env1 => (evB G F np env1 true cs w).bind fun t w => (boolOf t w).bind fun b w => if b then (ev G F np env1 elt w).bind fun v w => (asD v w).bind fun y w => .ok (some y) w else .ok none w
def kLd (G : List PyData) (F : Fns) (np : Nat → Nat) (env : En) : List PyData → Wd → Res Vl := fun ys w => .ok (.d (.list ys)) w
@[simp] theorem kLd_0 (ys : List PyData) (w : Wd) : kLd G F np env ys w = .ok (.d (.list ys)) w := Eq.trans rfl rfl
def kLc (G : List PyData) (F : Fns) (np : Nat → Nat) (env : En) (vs : List Nat) (elt : E) (tg : Tg) (it : R.It) (cs : Es) : List PyData → Wd → Res Vl := fun xs w => (gath (lcT G F np (demE env (escI it)) vs elt tg cs) xs [] w).nox.bind (kLd G F np env)
@[simp] theorem kLc_0 (vs : List Nat) (elt : E) (tg : Tg) (it : R.It) (cs : Es) (xs : List PyData) (w : Wd) : kLc G F np env vs elt tg it cs xs w = (gath (lcT G F np (demE env (escI it)) vs elt tg cs) xs [] w).nox.bind (kLd G F np env) := Eq.trans rfl rfl
@[simp] theorem x_lc (vs : List Nat) (elt : E) (tg : Tg) (it : R.It) (cs : Es) : ev G F np env (.lc vs elt tg it cs) w = (evI G F np env it w).bind (kLc G F np env vs elt tg it cs) := by
  simp only [ev]
  rfl
noncomputable def kSs (G : List PyData) (F : Fns) (np : Nat → Nat) (env : En) (r : Ss) : Fl → Wd → Res Fl := fun f w => match f with
    | .nx env => evSs G F np r env w
    | f => .ok f w
@[simp] theorem kSs_0 (r : Ss) (e : En) (w : Wd) : kSs G F np env r (.nx e) w = evSs G F np r e w := Eq.trans rfl rfl
@[simp] theorem kSs_1 (r : Ss) (v : Vl) (w : Wd) : kSs G F np env r (.rt v) w = .ok (.rt v) w := Eq.trans rfl rfl
@[simp] theorem kSs_2 (r : Ss) (e : En) (w : Wd) : kSs G F np env r (.bk e) w = .ok (.bk e) w := Eq.trans rfl rfl
@[simp] theorem kSs_3 (r : Ss) (e : En) (w : Wd) : kSs G F np env r (.ct e) w = .ok (.ct e) w := Eq.trans rfl rfl
@[simp] theorem xss_cons (s : S) (r : Ss) : evSs G F np (.cons s r) env w = (evS G F np s env w).bind (kSs G F np [] r) := by
  simp only [evSs]
  rfl
def kRet (G : List PyData) (F : Fns) (np : Nat → Nat) (env : En)  : Vl → Wd → Res Fl := fun v w => .ok (.rt v) w
@[simp] theorem kRet_0  (v : Vl) (w : Wd) : kRet G F np env  v w = .ok (.rt v) w := Eq.trans rfl rfl
@[simp] theorem xt_ret (e : E) : evS G F np (.ret e) env w = (ev G F np env e w).bind (kRet G F np env) := by
  simp only [evS] <;> rfl
noncomputable def kIf (G : List PyData) (F : Fns) (np : Nat → Nat) (env : En) (a b : Ss) : Vl → Wd → Res Fl := fun v w => (boolOf v w).bind fun t w => if t then evSs G F np a env w else evSs G F np b env w
@[simp] theorem kIf_0 (a b : Ss)  (w : Wd) : kIf G F np env a b (.d (.bool true)) w = evSs G F np a env w := Eq.trans rfl rfl
@[simp] theorem kIf_1 (a b : Ss)  (w : Wd) : kIf G F np env a b (.d (.bool false)) w = evSs G F np b env w := Eq.trans rfl rfl
@[simp] theorem kIf_2 (a b : Ss) (t : Bool) (w : Wd) : kIf G F np env a b (.d (.bool t)) w = if t then evSs G F np a env w else evSs G F np b env w := Eq.trans rfl rfl
@[simp] theorem xt_iff (c : E) (a b : Ss) : evS G F np (.iff c a b) env w = (ev G F np env c w).bind (kIf G F np env a b) := by
  simp only [evS] <;> rfl
def kAsg (G : List PyData) (F : Fns) (np : Nat → Nat) (env : En) (t : Tg) (l : List Nat) : Vl → Wd → Res Fl := fun v w => ofOpt ((bindV t v (demE env l)).map .nx) w
@[simp] theorem kAsg_0 (t : Tg) (l : List Nat) (v : Vl) (w : Wd) : kAsg G F np env t l v w = ofOpt ((bindV t v (demE env l)).map .nx) w := Eq.trans rfl rfl
@[simp] theorem xt_asg (t : Tg) (e : E) : evS G F np (.asg t e) env w = (ev G F np env e w).bind (kAsg G F np env t (esc e)) := by
  simp only [evS] <;> rfl
def kOwn (G : List PyData) (F : Fns) (np : Nat → Nat) (env : En) (i : Nat) (l : List Nat) : Vl → Wd → Res Fl := fun v w => match v with
    | .d (.list xs) => .ok (.nx ((demE env l).set i (.own xs))) w
    | _ => .bad
@[simp] theorem kOwn_0 (i : Nat) (l : List Nat) (xs : List PyData) (w : Wd) : kOwn G F np env i l (.d (.list xs)) w = .ok (.nx ((demE env l).set i (.own xs))) w := Eq.trans rfl rfl
@[simp] theorem xt_own (i : Nat) (e : E) : evS G F np (.own i e) env w = (ev G F np env e w).bind (kOwn G F np env i (esc e)) := by
  simp only [evS] <;> rfl
def kPar (G : List PyData) (F : Fns) (np : Nat → Nat) (env : En) (is : List Nat) (l : List Nat) : List Slot → Wd → Res Fl := fun ss w => ofOpt ((setP is ss (demE env l)).map .nx) w
@[simp] theorem kPar_0 (is : List Nat) (l : List Nat) (ss : List Slot) (w : Wd) : kPar G F np env is l ss w = ofOpt ((setP is ss (demE env l)).map .nx) w := Eq.trans rfl rfl
@[simp] theorem xt_par (is : List Nat) (ps : List Pc) : evS G F np (.par is ps) env w = (evP G F np env ps w).bind (kPar G F np env is (escP ps)) := by
  simp only [evS] <;> rfl
def kPv2 (G : List PyData) (F : Fns) (np : Nat → Nat) (env : En) (v : Vl) : List Slot → Wd → Res (List Slot) := fun ss w => .ok (.val v :: ss) w
@[simp] theorem kPv2_0 (v : Vl) (ss : List Slot) (w : Wd) : kPv2 G F np env v ss w = .ok (.val v :: ss) w := Eq.trans rfl rfl
def kPv (G : List PyData) (F : Fns) (np : Nat → Nat) (env : En) (r : List Pc) : Vl → Wd → Res (List Slot) := fun v w => (evP G F np env r w).bind (kPv2 G F np env v)
@[simp] theorem kPv_0 (r : List Pc) (v : Vl) (w : Wd) : kPv G F np env r v w = (evP G F np env r w).bind (kPv2 G F np env v) := Eq.trans rfl rfl
@[simp] theorem xp_val (e : E) (r : List Pc) : evP G F np env (.val e :: r) w = (ev G F np env e w).bind (kPv G F np env r) := by
  simp only [evP] <;> rfl
def kPo2 (G : List PyData) (F : Fns) (np : Nat → Nat) (env : En) (v : Vl) : List Slot → Wd → Res (List Slot) := fun ss w => match v with
    | .d (.list xs) => .ok (.own xs :: ss) w
    | _ => .bad
@[simp] theorem kPo2_0 (xs : List PyData) (ss : List Slot) (w : Wd) : kPo2 G F np env (.d (.list xs)) ss w = .ok (.own xs :: ss) w := Eq.trans rfl rfl
def kPo (G : List PyData) (F : Fns) (np : Nat → Nat) (env : En) (r : List Pc) : Vl → Wd → Res (List Slot) := fun v w => (evP G F np env r w).bind (kPo2 G F np env v)
@[simp] theorem kPo_0 (r : List Pc) (v : Vl) (w : Wd) : kPo G F np env r v w = (evP G F np env r w).bind (kPo2 G F np env v) := Eq.trans rfl rfl
@[simp] theorem xp_own (e : E) (r : List Pc) : evP G F np env (.own e :: r) w = (ev G F np env e w).bind (kPo G F np env r) := by
  simp only [evP] <;> rfl
def kPut3 (G : List PyData) (F : Fns) (np : Nat → Nat) (env : En) (i : Nat) (l : List Nat) (y : PyData) : Vl → Wd → Res Fl := fun u w => (asD u w).bind fun k w => match slotPut (demE env l) w i k y with
      | some (env, w) => .ok (.nx env) w
      | none => .bad
@[simp] theorem kPut3_0 (i : Nat) (l : List Nat) (y : PyData) (k : PyData) (w : Wd) : kPut3 G F np env i l y (.d k) w = (match slotPut (demE env l) w i k y with
      | some (env, w) => .ok (.nx env) w
      | none => .bad) := Eq.trans rfl rfl
def kPut2 (G : List PyData) (F : Fns) (np : Nat → Nat) (env : En) (i : Nat) (a : E) (l : List Nat) (y : PyData) : Vl → Wd → Res Fl := fun _ w => (ev G F np env a w).bind (kPut3 G F np env i l y)
@[simp] theorem kPut2_0 (i : Nat) (a : E) (l : List Nat) (y : PyData) (v : Vl) (w : Wd) : kPut2 G F np env i a l y v w = (ev G F np env a w).bind (kPut3 G F np env i l y) := Eq.trans rfl rfl
def kPut (G : List PyData) (F : Fns) (np : Nat → Nat) (env : En) (i : Nat) (a : E) (l : List Nat) : Vl → Wd → Res Fl := fun v w => (asD v w).bind fun y w => (ofOpt (getV env i) w).bind (kPut2 G F np env i a l y)
@[simp] theorem kPut_0 (i : Nat) (a : E) (l : List Nat) (y : PyData) (w : Wd) : kPut G F np env i a l (.d y) w = (ofOpt (getV env i) w).bind (kPut2 G F np env i a l y) := Eq.trans rfl rfl
@[simp] theorem xt_put (i : Nat) (a e : E) : evS G F np (.put i a e) env w = (ev G F np env e w).bind (kPut G F np env i a (esc e)) := by
  simp only [evS] <;> rfl
def kQut3 (G : List PyData) (F : Fns) (np : Nat → Nat) (env : En) (i j : Nat) (l : List Nat) (y1 y2 : PyData) : Vl → Wd → Res Fl := fun u w => (asD u w).bind fun k w => match slotPut (demE env l) w i k y1 with
      | some (env, w) => .ok (.nx (env.set j (.val (.d y2)))) w
      | none => .bad
@[simp] theorem kQut3_0 (i j : Nat) (l : List Nat) (y1 y2 : PyData) (k : PyData) (w : Wd) : kQut3 G F np env i j l y1 y2 (.d k) w = (match slotPut (demE env l) w i k y1 with
      | some (env, w) => .ok (.nx (env.set j (.val (.d y2)))) w
      | none => .bad) := Eq.trans rfl rfl
def kQut2 (G : List PyData) (F : Fns) (np : Nat → Nat) (env : En) (i j : Nat) (a : E) (l : List Nat) (y1 y2 : PyData) : Vl → Wd → Res Fl := fun _ w => (ev G F np env a w).bind (kQut3 G F np env i j l y1 y2)
@[simp] theorem kQut2_0 (i j : Nat) (a : E) (l : List Nat) (y1 y2 : PyData) (v : Vl) (w : Wd) : kQut2 G F np env i j a l y1 y2 v w = (ev G F np env a w).bind (kQut3 G F np env i j l y1 y2) := Eq.trans rfl rfl
def kQut (G : List PyData) (F : Fns) (np : Nat → Nat) (env : En) (i j : Nat) (a : E) (l : List Nat) : Vl → Wd → Res Fl := fun v w => (asD v w).bind fun y w => match y with
    | .tuple [y1, y2] => (ofOpt (getV env i) w).bind (kQut2 G F np env i j a l y1 y2)
    | _ => .bad
@[simp] theorem kQut_0 (i j : Nat) (a : E) (l : List Nat) (y1 y2 : PyData) (w : Wd) : kQut G F np env i j a l (.d (.tuple [y1, y2])) w = (ofOpt (getV env i) w).bind (kQut2 G F np env i j a l y1 y2) := Eq.trans rfl rfl
@[simp] theorem xt_put2 (i j : Nat) (a e : E) : evS G F np (.put2 i a j e) env w = (ev G F np env e w).bind (kQut G F np env i j a (esc e)) := by
  simp only [evS] <;> rfl
def kMut2 (G : List PyData) (F : Fns) (np : Nat → Nat) (env : En) (m : Mu) (i : Nat) (l : List Nat) : List Vl → Wd → Res Fl := fun vs w => match datas vs, (demE env l)[i]? with
    | some ds, some (.own xs) => ofOpt ((mutV m xs ds).map fun zs => .nx ((demE env l).set i (.own zs))) w
    | _, _ => .bad
@[simp] theorem kMut2_0 (m : Mu) (i : Nat) (l : List Nat) (vs : List Vl) (w : Wd) : kMut2 G F np env m i l vs w = (match datas vs, (demE env l)[i]? with
    | some ds, some (.own xs) => ofOpt ((mutV m xs ds).map fun zs => .nx ((demE env l).set i (.own zs))) w
    | _, _ => .bad) := Eq.trans rfl rfl
def kMut (G : List PyData) (F : Fns) (np : Nat → Nat) (env : En) (m : Mu) (i : Nat) (es : Es) : List PyData → Wd → Res Fl := fun _ w => (evs G F np env es w).bind (kMut2 G F np env m i (escs es))
@[simp] theorem kMut_0 (m : Mu) (i : Nat) (es : Es) (xs : List PyData) (w : Wd) : kMut G F np env m i es xs w = (evs G F np env es w).bind (kMut2 G F np env m i (escs es)) := Eq.trans rfl rfl
@[simp] theorem xt_mut (m : Mu) (i : Nat) (es : Es) : evS G F np (.mut m i es) env w = (ofOpt (ownAt env i) w).bind (kMut G F np env m i es) := by
  simp only [evS] <;> rfl
def kPop2 (G : List PyData) (F : Fns) (np : Nat → Nat) (env : En) (t : Tg) (i : Nat) (l : List Nat) : List Vl → Wd → Res Fl := fun vs w => match datas vs, (demE env l)[i]? with
    | some ds, some (.own xs) => match popV xs ds with
      | some (y, zs) => ofOpt ((bindT t y ((demE env l).set i (.own zs))).map .nx) w
      | none => .bad
    | _, _ => .bad
@[simp] theorem kPop2_0 (t : Tg) (i : Nat) (l : List Nat) (vs : List Vl) (w : Wd) : kPop2 G F np env t i l vs w = (match datas vs, (demE env l)[i]? with
    | some ds, some (.own xs) => match popV xs ds with
      | some (y, zs) => ofOpt ((bindT t y ((demE env l).set i (.own zs))).map .nx) w
      | none => .bad
    | _, _ => .bad) := Eq.trans rfl rfl
def kPop (G : List PyData) (F : Fns) (np : Nat → Nat) (env : En) (t : Tg) (i : Nat) (es : Es) : List PyData → Wd → Res Fl := fun _ w => (evs G F np env es w).bind (kPop2 G F np env t i (escs es))
@[simp] theorem kPop_0 (t : Tg) (i : Nat) (es : Es) (xs : List PyData) (w : Wd) : kPop G F np env t i es xs w = (evs G F np env es w).bind (kPop2 G F np env t i (escs es)) := Eq.trans rfl rfl
@[simp] theorem xt_pop (t : Tg) (i : Nat) (es : Es) : evS G F np (.pop (some t) i es) env w = (ofOpt (ownAt env i) w).bind (kPop G F np env t i es) := by
  simp only [evS] <;> rfl
def kPap3 (G : List PyData) (F : Fns) (np : Nat → Nat) (env : En) (j i : Nat) (l : List Nat) : List Vl → Wd → Res Fl := fun vs w => match datas vs, (demE env l)[i]?, (demE env l)[j]? with
    | some ds, some (.own xs), some (.own us) => match popV xs ds with
      | some (y, zs) => if decide (i ≠ j) && decide (us.length < sizeLine) then .ok (.nx (((demE env l).set i (.own zs)).set j (.own (us ++ [y])))) w else .bad
      | none => .bad
    | _, _, _ => .bad
@[simp] theorem kPap3_0 (j i : Nat) (l : List Nat) (vs : List Vl) (w : Wd) : kPap3 G F np env j i l vs w = (match datas vs, (demE env l)[i]?, (demE env l)[j]? with
    | some ds, some (.own xs), some (.own us) => match popV xs ds with
      | some (y, zs) => if decide (i ≠ j) && decide (us.length < sizeLine) then .ok (.nx (((demE env l).set i (.own zs)).set j (.own (us ++ [y])))) w else .bad
      | none => .bad
    | _, _, _ => .bad) := Eq.trans rfl rfl
def kPap2 (G : List PyData) (F : Fns) (np : Nat → Nat) (env : En) (j i : Nat) (es : Es) : List PyData → Wd → Res Fl := fun _ w => (evs G F np env es w).bind (kPap3 G F np env j i (escs es))
@[simp] theorem kPap2_0 (j i : Nat) (es : Es) (xs : List PyData) (w : Wd) : kPap2 G F np env j i es xs w = (evs G F np env es w).bind (kPap3 G F np env j i (escs es)) := Eq.trans rfl rfl
def kPap1 (G : List PyData) (F : Fns) (np : Nat → Nat) (env : En) (j i : Nat) (es : Es) : List PyData → Wd → Res Fl := fun _ w => (ofOpt (ownAt env i) w).bind (kPap2 G F np env j i es)
@[simp] theorem kPap1_0 (j i : Nat) (es : Es) (xs : List PyData) (w : Wd) : kPap1 G F np env j i es xs w = (ofOpt (ownAt env i) w).bind (kPap2 G F np env j i es) := Eq.trans rfl rfl
@[simp] theorem xt_popApp (j i : Nat) (es : Es) : evS G F np (.popApp j i es) env w = (ofOpt (ownAt env j) w).bind (kPap1 G F np env j i es) := by
  simp only [evS] <;> rfl
def kRgs (G : List PyData) (F : Fns) (np : Nat → Nat) (env : En) (i : Nat) (l : List Nat) : Vl → Wd → Res Fl := fun v w => match v with
    | .d (.int n) => if decide (0 ≤ n) && small62 n then .ok (.nx ((demE env l).set i (.rng n))) w else .bad
    | _ => .bad
@[simp] theorem kRgs_0 (i : Nat) (l : List Nat) (n : Int) (w : Wd) : kRgs G F np env i l (.d (.int n)) w = if decide (0 ≤ n) && small62 n then .ok (.nx ((demE env l).set i (.rng n))) w else .bad := Eq.trans rfl rfl
@[simp] theorem xt_rngS (i : Nat) (e : E) : evS G F np (.rngS i e) env w = (ev G F np env e w).bind (kRgs G F np env i (esc e)) := by
  simp only [evS] <;> rfl
def kExp (G : List PyData) (F : Fns) (np : Nat → Nat) (env : En)  : Vl → Wd → Res Fl := fun _ w => .ok (.nx env) w
@[simp] theorem kExp_0  (v : Vl) (w : Wd) : kExp G F np env  v w = .ok (.nx env) w := Eq.trans rfl rfl
@[simp] theorem xt_expr (e : E) : evS G F np (.expr e) env w = (ev G F np env e w).bind (kExp G F np env) := by
  simp only [evS] <;> rfl
/-- one turn of a for loop -/
noncomputable def forT (G : List PyData) (F : Fns) (np : Nat → Nat) (t : Tg) (b : Ss) (x : PyData) (env : En) (w : Wd) : Res Fl := match bindT t x env with
      | some env => evSs G F np b env w
      | none => .bad
noncomputable def kFor (G : List PyData) (F : Fns) (np : Nat → Nat) (env : En) (t : Tg) (l : List Nat) (b : Ss) : List PyData → Wd → Res Fl := fun xs w => forR (forT G F np t b) xs (demE env l) w
@[simp] theorem kFor_0 (t : Tg) (l : List Nat) (b : Ss) (xs : List PyData) (w : Wd) : kFor G F np env t l b xs w = forR (forT G F np t b) xs (demE env l) w := Eq.trans rfl rfl
@[simp] theorem xt_for (t : Tg) (it : R.It) (b : Ss) : evS G F np (.for_ t it b) env w = (evI G F np env it w).bind (kFor G F np env t (escI it) b) := by
  simp only [evS]
  rfl
noncomputable def whC (G : List PyData) (F : Fns) (np : Nat → Nat) (c : E) (env : En) (w : Wd) : Res Bool := (ev G F np env c w).bind boolOf
noncomputable def whB (G : List PyData) (F : Fns) (np : Nat → Nat) (b : Ss) (env : En) (w : Wd) : Res Fl := evSs G F np b env w
@[simp] theorem xt_whl (c : E) (b : Ss) : evS G F np (.whl c b) env w = whileR (whC G F np c) (whB G F np b) env w := by
  simp only [evS]
  rfl
end
@[simp] theorem opt_some {α : Type} (a : α) (w : Wd) : ofOpt (some a) w = .ok a w := Eq.trans rfl rfl
@[simp] theorem bindV_nm (i : Nat) (v : Vl) (env : En) : bindV (.nm i) v env = some (env.set i (.val v)) := Eq.trans rfl rfl
@[simp] theorem bindT_nm (i : Nat) (x : PyData) (env : En) : bindT (.nm i) x env = some (env.set i (.val (.d x))) := by simp only [bindT]
@[simp] theorem asD_d (x : PyData) (w : Wd) : asD (.d x) w = .ok x w := Eq.trans rfl rfl
@[simp] theorem boolOf_b (b : Bool) (w : Wd) : boolOf (.d (.bool b)) w = .ok b w := Eq.trans rfl rfl
@[simp] theorem datas_nil : datas [] = some [] := Eq.trans rfl rfl
@[simp] theorem datas_cons (x : PyData) (r : List Vl) : datas (.d x :: r) = (datas r).map (x :: ·) := Eq.trans rfl rfl
@[simp high] theorem kB_end (G : List PyData) (F : Fns) (np : Nat → Nat) (env : En) (c b : Bool) (w : Wd) : kB G F np env c .nil (.d (.bool b)) w = .ok (.d (.bool b)) w := by
  simp only [kB_0, xb_nil]
  cases b <;> cases c <;> rfl
def kSm : Vl → Wd → Res (Option PyData) := fun v w => (asD v w).bind fun y w => .ok (some y) w
@[simp] theorem kSm_0 (y : PyData) (w : Wd) : kSm (.d y) w = .ok (some y) w := Eq.trans rfl rfl
def kTs (G : List PyData) (F : Fns) (np : Nat → Nat) (env : En) (elt : E) : Vl → Wd → Res (Option PyData) := fun v w => (boolOf v w).bind fun b w => if b then (ev G F np env elt w).bind kSm else .ok none w
@[simp] theorem kTs_0 (G : List PyData) (F : Fns) (np : Nat → Nat) (env : En) (elt : E) (b : Bool) (w : Wd) : kTs G F np env elt (.d (.bool b)) w = if b then (ev G F np env elt w).bind kSm else .ok none w := Eq.trans rfl rfl
@[simp] theorem lcT_nil (G : List PyData) (F : Fns) (np : Nat → Nat) (env : En) (vs : List Nat) (elt : E) (tg : Tg) (x : PyData) (w : Wd) : lcT G F np env vs elt tg .nil x w = match bindT tg x (wipeE env vs) with
    | none => .bad
    | some env1 => (ev G F np env1 elt w).bind kSm := by
  unfold lcT
  cases bindT tg x (wipeE env vs) with
  | none => rfl
  | some env1 =>
    simp only [xb_nil, bind_ok_eq, boolOf_b, if_true]
    rfl
@[simp] theorem lcT_one (G : List PyData) (F : Fns) (np : Nat → Nat) (env : En) (vs : List Nat) (elt c : E) (tg : Tg) (x : PyData) (w : Wd) : lcT G F np env vs elt tg (.cons c .nil) x w = match bindT tg x (wipeE env vs) with
    | none => .bad
    | some env1 => (ev G F np env1 c w).bind (kTs G F np env1 elt) := by
  unfold lcT
  cases bindT tg x (wipeE env vs) with
  | none => rfl
  | some env1 =>
    simp only [xb_cons, xb_nil]
    cases h : ev G F np env1 c w with
    | bad => rfl
    | exc k y w' => rfl
    | ok v w' =>
      cases v with
      | loc n => rfl
      | d d =>
        cases d <;> first | rfl | skip
        rename_i b
        cases b <;> rfl
/-- a gathering of pure turns -/
theorem gath_pure {step : PyData → Wd → Res (Option PyData)} {w : Wd} (g : PyData → Option PyData) : ∀ (xs acc : List PyData), (∀ x ∈ xs, step x w = .ok (g x) w) → acc.length + xs.length ≤ sizeLine → gath step xs acc w = .ok (acc ++ xs.filterMap g) w
  | [], acc, _, _ => by simp [gath]
  | x :: r, acc, h, hl => by
    rw [gath, h x (List.mem_cons_self ..)]
    have hr : ∀ y ∈ r, step y w = .ok (g y) w := fun y hy => h y (List.mem_cons_of_mem _ hy)
    simp only [List.length_cons] at hl
    cases hg : g x with
    | none =>
      simp only [bind_ok_eq]
      rw [gath_pure g r acc hr (by omega)]
      simp [hg]
    | some y =>
      simp only [bind_ok_eq]
      rw [if_pos (by omega), gath_pure g r (acc ++ [y]) hr (by simp; omega)]
      simp [hg]
theorem run_at {G : List PyData} {T : List Fd} {f : Nat} {d : Fd} (h : T[f]? = some d) (vs : List Vl) (w : Wd) : FnT G T (f + 1) f vs w = runD G (FnT G T f) (npT T) d vs w := by rw [FnT_at h]
end R
end
section
/-! Data without truth values and dicts: their == is equality. -/
namespace R
open PySem
mutual
inductive Pl : Nat → PyData → Prop
  | non {n : Nat} : Pl n .none
  | int {n : Nat} (i : Int) : Pl n (.int i)
  | str {n : Nat} (s : Str) (h : (PyData.str s).canLay0 = true) : Pl n (.str s)
  | lst {n : Nat} {xs : List PyData} (h : PlA n xs) : Pl (n + 1) (.list xs)
  | tup {n : Nat} {xs : List PyData} (h : PlA n xs) : Pl (n + 1) (.tuple xs)
inductive PlA : Nat → List PyData → Prop
  | nil {n : Nat} : PlA n []
  | cons {n : Nat} {x : PyData} {xs : List PyData} (h : Pl n x) (t : PlA n xs) : PlA n (x :: xs)
end
theorem PlA.of {n : Nat} : ∀ {xs : List PyData}, (∀ x ∈ xs, Pl n x) → PlA n xs
  | [], _ => .nil
  | x :: r, h => .cons (h x (List.mem_cons_self ..)) (PlA.of fun y hy => h y (List.mem_cons_of_mem _ hy))
theorem PlA.all {n : Nat} : ∀ {xs : List PyData}, PlA n xs → ∀ x ∈ xs, Pl n x
  | _, .cons h t, x, hx => by
    rcases List.mem_cons.mp hx with rfl | hx
    · exact h
    · exact t.all x hx
mutual
theorem Pl.lay : ∀ (d : PyData) (n : Nat), Pl n d → d.canLay0 = true ∧ d.depth ≤ n + 1
  | .none, _, .non => ⟨rfl, by simp [PyData.depth]⟩
  | .int _, _, .int _ => ⟨rfl, by simp [PyData.depth]⟩
  | .str _, _, .str _ h => ⟨h, by simp [PyData.depth]⟩
  | .list xs, n + 1, .lst h => by
    obtain ⟨h1, h2⟩ := PlA.lay xs n h
    exact ⟨by simpa [PyData.canLay0] using h1, by simp [PyData.depth]; omega⟩
  | .tuple xs, n + 1, .tup h => by
    obtain ⟨h1, h2⟩ := PlA.lay xs n h
    exact ⟨by simpa [PyData.canLay0] using h1, by simp [PyData.depth]; omega⟩
theorem PlA.lay : ∀ (ds : List PyData) (n : Nat), PlA n ds → PyData.canLayAll0 ds = true ∧ PyData.depthAll ds ≤ n + 1
  | [], n, .nil => ⟨rfl, by simp [PyData.depthAll]⟩
  | d :: r, n, .cons h t => by
    obtain ⟨a1, a2⟩ := Pl.lay d n h
    obtain ⟨b1, b2⟩ := PlA.lay r n t
    exact ⟨by simp [PyData.canLayAll0, a1, b1], by simp [PyData.depthAll]; omega⟩
end
theorem Pl.shaped {n : Nat} {d : PyData} (h : Pl n d) (hn : n ≤ 63) : SeqAt.shaped d = true := by
  obtain ⟨h1, h2⟩ := h.lay d n
  unfold SeqAt.shaped
  rw [h1, decide_eq_true (by omega)]
  rfl
mutual
theorem Pl.eqv : ∀ (x y : PyData) (n m : Nat), Pl n x → Pl m y → (PyData.eqv x y = true ↔ x = y)
  | .none, y, _, _, .non, h => by cases h <;> simp [PyData.eqv]
  | .int i, y, _, _, .int _, h => by cases h <;> simp [PyData.eqv]
  | .str i, y, _, _, .str _ _, h => by cases h <;> simp [PyData.eqv]
  | .list xs, y, n + 1, _, .lst g, h => by
    cases h with
    | lst h =>
      have := PlA.eqv xs _ n _ g h
      simp [PyData.eqv, this]
    | _ => simp [PyData.eqv]
  | .tuple xs, y, n + 1, _, .tup g, h => by
    cases h with
    | tup h =>
      have := PlA.eqv xs _ n _ g h
      simp [PyData.eqv, this]
    | _ => simp [PyData.eqv]
theorem PlA.eqv : ∀ (xs ys : List PyData) (n m : Nat), PlA n xs → PlA m ys → (PyData.eqvAll xs ys = true ↔ xs = ys)
  | [], _, _, _, .nil, h => by cases h <;> simp [PyData.eqvAll]
  | x :: r, _, n, m, .cons g t, h => by
    cases h with
    | nil => simp [PyData.eqvAll]
    | cons h u =>
      have a := Pl.eqv x _ n m g h
      have b := PlA.eqv r _ n m t u
      simp [PyData.eqvAll, a, b]
end
open Classical in
theorem eq_pl {n m : Nat} {x y : PyData} (hx : Pl n x) (hy : Pl m y) (hn : n ≤ 63) (hm : m ≤ 63) : eqV x y = some (.bool (decide (x = y))) := by
  unfold eqV
  rw [hx.shaped hn, hy.shaped hm]
  have := Pl.eqv x y n m hx hy
  by_cases e : x = y
  · rw [decide_eq_true e, this.mpr e]
    rfl
  · rw [decide_eq_false e]
    cases q : PyData.eqv x y with
    | true => exact absurd (this.mp q) e
    | false => rfl
open Classical in
theorem ne_pl {n m : Nat} {x y : PyData} (hx : Pl n x) (hy : Pl m y) (hn : n ≤ 63) (hm : m ≤ 63) : neV x y = some (.bool (!decide (x = y))) := by
  have h := eq_pl hx hy hn hm
  unfold eqV at h
  unfold neV
  rw [hx.shaped hn, hy.shaped hm] at h ⊢
  simp only [Bool.and_self, if_true, Option.some.injEq, PyData.bool.injEq] at h ⊢
  rw [h]
open Classical in
theorem any_pl {n m : Nat} {x : PyData} (hx : Pl n x) : ∀ {ds : List PyData}, PlA m ds → (ds.any fun z => PyData.eqv z x) = decide (x ∈ ds)
  | [], _ => by simp
  | d :: r, .cons h t => by
    rw [List.any_cons, any_pl hx t]
    have := Pl.eqv d x m n h hx
    by_cases e : d = x
    · rw [this.mpr e]
      subst e
      simp
    · have f : PyData.eqv d x = false := by
        cases q : PyData.eqv d x with
        | true => exact absurd (this.mp q) e
        | false => rfl
      rw [f]
      simp [Ne.symm e]
open Classical in
theorem in_pl {n m : Nat} {x y : PyData} {ds : List PyData} (hy : asSeq y = some ds) (hx : Pl n x) (hd : PlA m ds) (hn : n ≤ 63) (hm : m ≤ 62) : inV x y = some (.bool (decide (x ∈ ds))) := by
  have sy : Pl (m + 1) y := by
    cases y <;> simp [asSeq] at hy
    · subst hy; exact .lst hd
    · subst hy; exact .tup hd
  unfold inV
  rw [hy]
  simp only [Option.bind_some, hx.shaped hn, sy.shaped (by omega), Bool.and_self, if_true, any_pl hx hd]
open Classical in
theorem nin_pl {n m : Nat} {x y : PyData} {ds : List PyData} (hy : asSeq y = some ds) (hx : Pl n x) (hd : PlA m ds) (hn : n ≤ 63) (hm : m ≤ 62) : ninV x y = some (.bool (!decide (x ∈ ds))) := by
  have sy : Pl (m + 1) y := by
    cases y <;> simp [asSeq] at hy
    · subst hy; exact .lst hd
    · subst hy; exact .tup hd
  unfold ninV
  rw [hy]
  simp only [Option.bind_some, hx.shaped hn, sy.shaped (by omega), Bool.and_self, if_true, any_pl hx hd]
@[simp] theorem eq_int (i j : Int) : eqV (.int i) (.int j) = some (.bool (decide (i = j))) := by
  rw [eq_pl (.int i) (.int j) (Nat.zero_le _) (Nat.zero_le _)]
  simp
@[simp] theorem ne_int (i j : Int) : neV (.int i) (.int j) = some (.bool (!decide (i = j))) := by
  rw [ne_pl (.int i) (.int j) (Nat.zero_le _) (Nat.zero_le _)]
  simp
/-! ### comprehensions of pure turns -/
theorem gath_map {step : PyData → Wd → Res (Option PyData)} {w : Wd} (g : PyData → PyData) {xs : List PyData} (h : ∀ x ∈ xs, step x w = .ok (some (g x)) w) (hl : xs.length ≤ sizeLine) : gath step xs [] w = .ok (xs.map g) w := by
  rw [gath_pure (fun x => some (g x)) xs [] h (by simpa using hl)]
  simp [List.filterMap_eq_map']
theorem gath_filter {step : PyData → Wd → Res (Option PyData)} {w : Wd} (g : PyData → PyData) (c : PyData → Bool) {xs : List PyData} (h : ∀ x ∈ xs, step x w = .ok (if c x then some (g x) else none) w) (hl : xs.length ≤ sizeLine) : gath step xs [] w = .ok ((xs.filter c).map g) w := by
  rw [gath_pure (fun x => if c x then some (g x) else none) xs [] h (by simpa using hl)]
  simp only [List.nil_append]
  congr 1
  induction xs with
  | nil => rfl
  | cons x r ih =>
    simp only [List.length_cons] at hl
    have ih := ih (fun y hy => h y (List.mem_cons_of_mem _ hy)) (by omega)
    by_cases q : c x <;> simp [q, ih]
theorem asBools_map : ∀ bs : List Bool, asBools (bs.map .bool) = some bs
  | [] => rfl
  | b :: r => by simp only [List.map_cons, asBools, asBools_map r, Option.map_some]
@[simp] theorem asBools_fn {α : Type} (f : α → Bool) : ∀ xs : List α, asBools (xs.map fun x => .bool (f x)) = some (xs.map f)
  | [] => rfl
  | b :: r => by simp only [List.map_cons, asBools, asBools_fn f r, Option.map_some]
@[simp] theorem asBools_comp {α : Type} (f : α → Bool) (xs : List α) : asBools (xs.map (PyData.bool ∘ f)) = some (xs.map f) := asBools_fn f xs
theorem li_pl (l : List Int) : PlA 0 (l.map .int) := PlA.of fun x hx => by
  obtain ⟨i, _, rfl⟩ := List.mem_map.mp hx
  exact .int i
theorem gath_mapA {α : Type} {step : PyData → Wd → Res (Option PyData)} {w : Wd} (f g : α → PyData) : ∀ {xs : List α} {acc : List PyData}, (∀ x ∈ xs, step (f x) w = .ok (some (g x)) w) → acc.length + xs.length ≤ sizeLine → gath step (xs.map f) acc w = .ok (acc ++ xs.map g) w
  | [], acc, _, _ => by simp [gath]
  | x :: r, acc, h, hl => by
    simp only [List.length_cons] at hl
    rw [List.map_cons, gath, h x (List.mem_cons_self ..)]
    simp only [bind_ok_eq]
    rw [if_pos (by omega), gath_mapA f g (fun y hy => h y (List.mem_cons_of_mem _ hy)) (by simp; omega)]
    simp
theorem gath_filA {α : Type} {step : PyData → Wd → Res (Option PyData)} {w : Wd} (f g : α → PyData) (c : α → Bool) : ∀ {xs : List α} {acc : List PyData}, (∀ x ∈ xs, step (f x) w = .ok (if c x then some (g x) else none) w) → acc.length + xs.length ≤ sizeLine → gath step (xs.map f) acc w = .ok (acc ++ (xs.filter c).map g) w
  | [], acc, _, _ => by simp [gath]
  | x :: r, acc, h, hl => by
    simp only [List.length_cons] at hl
    rw [List.map_cons, gath, h x (List.mem_cons_self ..)]
    by_cases q : c x = true
    · simp only [q, if_true, bind_ok_eq]
      rw [if_pos (by omega), gath_filA f g c (fun y hy => h y (List.mem_cons_of_mem _ hy)) (by simp; omega)]
      simp [q]
    · simp only [q, bind_ok_eq]
      simp only [Bool.false_eq_true, if_false]
      rw [gath_filA f g c (fun y hy => h y (List.mem_cons_of_mem _ hy)) (by omega)]
      simp [q]
theorem zip_map {α β : Type} (f : α → PyData) (g : β → PyData) : ∀ (a : List α) (b : List β), List.zipWith (fun x y => PyData.tuple [x, y]) (a.map f) (b.map g) = (a.zip b).map fun p => .tuple [f p.1, g p.2]
  | [], _ => rfl
  | _ :: _, [] => rfl
  | x :: a, y :: b => by
    simp only [List.map_cons, List.zipWith_cons_cons, List.zip_cons_cons, zip_map f g a b]
theorem zip_mk {α β : Type} (f : α → PyData) (g : β → PyData) : ∀ (a : List α) (b : List β), List.zipWith (fun x y => PyData.tuple [f x, g y]) a b = (a.zip b).map fun p => .tuple [f p.1, g p.2]
  | [], _ => rfl
  | _ :: _, [] => rfl
  | x :: a, y :: b => by simp only [List.map_cons, List.zipWith_cons_cons, List.zip_cons_cons, zip_mk f g a b]
@[simp] theorem ints_inj {a b : List Int} : a.map PyData.int = b.map PyData.int ↔ a = b := List.map_inj_right fun x y e => by injection e
/-- a for loop whose turns change nothing that is seen, or return -/
theorem forR_find {α : Type} {step : PyData → En → Wd → Res Fl} {w : Wd} {v : Vl} (f : α → PyData) (c : α → Bool) (I : En → Prop) : ∀ (xs : List α) (env : En), I env → (∀ x ∈ xs, ∀ env, I env → ∃ env', I env' ∧ step (f x) env w = .ok (if c x then .rt v else .nx env') w) →
    ∃ env', I env' ∧ forR step (xs.map f) env w = .ok (if xs.any c then .rt v else .nx env') w
  | [], env, h, _ => ⟨env, h, by simp [forR]⟩
  | x :: r, env, h, hs => by
    obtain ⟨e1, i1, h1⟩ := hs x (List.mem_cons_self ..) env h
    rw [List.map_cons, forR, h1]
    by_cases q : c x = true
    · exact ⟨env, h, by simp [q]⟩
    · obtain ⟨e2, i2, h2⟩ := forR_find f c I r e1 i1 fun y hy => hs y (List.mem_cons_of_mem _ hy)
      exact ⟨e2, i2, by simpa [q] using h2⟩
theorem forR_from {α : Type} {step : PyData → En → Wd → Res Fl} {w : Wd} {f : α → PyData} {xs : List α} {env : En} {z : Res Fl} (hz : forR step (xs.map f) env w = z) (v : Vl) (c : α → Bool) (I : En → Prop) (h0 : I env) (hs : ∀ x ∈ xs, ∀ env, I env → ∃ env', I env' ∧ step (f x) env w = .ok (if c x then .rt v else .nx env') w) :
    ∃ env', I env' ∧ z = .ok (if xs.any c then .rt v else .nx env') w := by
  obtain ⟨env', i1, h1⟩ := forR_find f c I xs env h0 hs
  exact ⟨env', i1, hz ▸ h1⟩
end R
end
section
/-! What the laws draw. -/
namespace R
open PySem L2
/-- the n-th list of the store is a well -/
def Wl (n : Nat) (w : Wd) : Prop := ∃ a b c : Int, w[n]? = some [a, b, c] ∧ 0 ≤ a ∧ 0 ≤ b ∧ b < 2147483549 ∧ 0 ≤ c
def bTake (c1 c2 c3 c4 : Int) : Ss := (.cons (.iff (.op2 .gt (.ix (.var 0) (.cst (.int 0))) (.cst (.int 0))) (.cons (.put2 0 (.cst (.int 0)) 3 (.bi .divmod (.cons (.ix (.var 0) (.cst (.int 0))) (.cons (.var 1) .nil)))) (.cons (.ret (.var 3)) .nil)) .nil) (.cons (.put 0 (.cst (.int 2)) (.op2 .add (.ix (.var 0) (.cst (.int 2))) (.cst (.int 1)))) (.cons (.asg (.nm 2) (.op2 .add (.cst (.int c1)) (.op2 .mul (.cst (.int 2)) (.op2 .mod (.bi .int (.cons (.op2 .fdiv (.ix (.var 0) (.cst (.int 1))) (.cst (.int 31))) .nil)) (.cst (.int c2)))))) (.cons (.put 0 (.cst (.int 1)) (.op2 .mod (.bi .int (.cons (.op2 .add (.op2 .add (.op2 .mul (.ix (.var 0) (.cst (.int 1))) (.var 2)) (.op2 .mul (.cst (.int c3)) (.ix (.var 0) (.cst (.int 2))))) (.cst (.int 13))) .nil)) (.cst (.int 2147483549)))) (.cons (.ret (.op2 .mod (.bi .int (.cons (.op2 .fdiv (.ix (.var 0) (.cst (.int 1))) (.cst (.int c4))) .nil)) (.var 1))) .nil)))))
theorem set_same {α : Type} {l : List α} {n : Nat} {x y : α} (h : l[n]? = some x) : (l.set n y)[n]? = some y := by
  rw [List.getElem?_set_self (List.getElem?_eq_some_iff.mp h).1]
theorem mulOk_l {i j : Int} (h : i.natAbs < 18446744073709551616) : mulOk i j = true := by
  unfold mulOk
  have e : (2 : Nat) ^ 64 = 18446744073709551616 := by decide
  rw [e, decide_eq_true h]
  rfl
theorem mul_l {i j : Int} (h : i.natAbs < 18446744073709551616) : mulV (.int i) (.int j) = some (.int (i * j)) := by
  simp only [mulV, mulOk_l h, if_true]
theorem fdiv_p {i j : Int} (h : 0 < j) (h2 : j.natAbs.log2 < 9000) : fdivV (.int i) (.int j) = some (.int (i / j)) := by
  have e : j ≠ 0 := by omega
  simp only [fdivV, decide_eq_true e, decide_eq_true h2, Bool.and_true, if_true]
  rw [Int.fdiv_eq_ediv_of_nonneg _ (by omega)]
theorem fmod_p {i j : Int} (h : 0 < j) : modV (.int i) (.int j) = some (.int (i % j)) := by
  have e : j ≠ 0 := by omega
  simp only [modV, decide_eq_true e, if_true]
  rw [Int.fmod_eq_emod_of_nonneg _ (by omega)]
theorem take_ok {G : List PyData} {F : Fns} {np : Nat → Nat} {nm : Str} {x1 x2 x3 x4 : Str} {n : Nat} {w : Wd} {m : Int} (hw : Wl n w) (h1 : 1 ≤ m) (h2 : m < 1073741824) :
    ∃ (k : Int) (w' : Wd), runD G F np ⟨nm, [x1, x2], [x1, x2, x3, x4], bTake 40609 9001 52361 251⟩ [.loc n, .d (.int m)] w = .ok (.d (.int k)) w' ∧ 0 ≤ k ∧ k < m ∧ Wl n w' ∧ w'.length = w.length := by
  obtain ⟨a, b, c, hn, ha, hb, hb2, hc⟩ := hw
  by_cases h : 0 < a
  · refine ⟨a % m, w.set n [a / m, b, c], ?_, Int.emod_nonneg _ (by omega), Int.emod_lt_of_pos _ (by omega), ⟨a / m, b, c, set_same hn, Int.ediv_nonneg ha (by omega), hb, hb2, hc⟩, by simp⟩
    simp [runD, bTake, getV, hn, op2V, gtV, h, biV, h2, show 0 < m by omega, slotPut, demE, esc, escW, escV]
  · have a0 : a = 0 := by omega
    subst a0
    generalize hf : 40609 + 2 * (b / 31 % 9001) = f
    generalize hb3 : (b * f + 52361 * (c + 1) + 13) % 2147483549 = b2
    have p1 : 0 ≤ b2 := by rw [← hb3]; exact Int.emod_nonneg _ (by decide)
    have p2 : b2 < 2147483549 := by rw [← hb3]; exact Int.emod_lt_of_pos _ (by decide)
    refine ⟨b2 / 251 % m, (w.set n [0, b, c + 1]).set n [0, b2, c + 1], ?_, Int.emod_nonneg _ (by omega), Int.emod_lt_of_pos _ (by omega), ⟨0, b2, c + 1, set_same (set_same hn), Int.le_refl _, p1, p2, by omega⟩, by simp⟩
    have s1 : (w.set n [0, b, c + 1])[n]? = some [0, b, c + 1] := set_same hn
    have s2 : (w.set n [0, b2, c + 1])[n]? = some [0, b2, c + 1] := set_same hn
    have m1 : mulV (.int 2) (.int (b / 31 % 9001)) = some (.int (2 * (b / 31 % 9001))) := mul_l (by decide)
    have m2 : mulV (.int b) (.int f) = some (.int (b * f)) := mul_l (by omega)
    have m3 : mulV (.int 52361) (.int (c + 1)) = some (.int (52361 * (c + 1))) := mul_l (by decide)
    have d1 : fdivV (.int b) (.int 31) = some (.int (b / 31)) := fdiv_p (by decide) (by decide)
    have d2 : fdivV (.int b2) (.int 251) = some (.int (b2 / 251)) := fdiv_p (by decide) (by decide)
    have r1 : modV (.int (b / 31)) (.int 9001) = some (.int (b / 31 % 9001)) := fmod_p (by decide)
    have r2 : modV (.int (b * f + 52361 * (c + 1) + 13)) (.int 2147483549) = some (.int b2) := by rw [fmod_p (by decide), hb3]
    have r3 : modV (.int (b2 / 251)) (.int m) = some (.int (b2 / 251 % m)) := fmod_p (by omega)
    simp [runD, bTake, getV, hn, op2V, gtV, biV, slotPut, demE, esc, escW, escV, addV, d1, r1, m1, s1, s2, hf, m2, m3, r2, d2, r3]
/-- a draw -/
def TakeOk (f : List Vl → Wd → Res Vl) : Prop := ∀ (n : Nat) (w : Wd) (m : Int), Wl n w → 1 ≤ m → m < 1073741824 → ∃ (k : Int) (w' : Wd), f [.loc n, .d (.int m)] w = .ok (.d (.int k)) w' ∧ 0 ≤ k ∧ k < m ∧ Wl n w' ∧ w'.length = w.length
def bOf (t : Nat) : Ss := (.cons (.ret (.ix (.var 1) (.call t (.cons (.var 0) (.cons (.bi .len (.cons (.var 1) .nil)) .nil))))) .nil)
theorem of_ok {G : List PyData} {F : Fns} {np : Nat → Nat} {nm x1 x2 : Str} {t : Nat} (T : TakeOk (F t)) {n : Nat} {w : Wd} {d : PyData} {xs : List PyData} (hd : d = .list xs ∨ d = .tuple xs) (hw : Wl n w) (h1 : xs ≠ []) (h2 : xs.length < 1073741824) :
    ∃ (x : PyData) (w' : Wd), x ∈ xs ∧ runD G F np ⟨nm, [x1, x2], [x1, x2], bOf t⟩ [.loc n, .d d] w = .ok (.d x) w' ∧ Wl n w' ∧ w'.length = w.length := by
  have hl : 0 < xs.length := List.length_pos_iff.mpr h1
  obtain ⟨k, w', e, k0, k1, hw', hlen⟩ := T n w xs.length hw (by omega) (by omega)
  have kl : k.toNat < xs.length := by omega
  have ha : at? xs k = some xs[k.toNat] := by
    unfold at?
    rw [if_pos k0, List.getElem?_eq_getElem kl]
  refine ⟨xs[k.toNat], w', List.getElem_mem kl, ?_, hw', hlen⟩
  rcases hd with rfl | rfl
  · simp [runD, bOf, getV, biV, asSeq, e, ixV, ha]
  · simp [runD, bOf, getV, biV, asSeq, e, ixV, ha]
/-! ### lowest terms -/
def bLow : Ss := (.cons (.par [2, 3] [.val (.bi .abs (.cons (.var 0) .nil)), .val (.var 1)]) (.cons (.whl (.op2 .gt (.var 3) (.cst (.int 0))) (.cons (.par [2, 3] [.val (.var 3), .val (.op2 .mod (.bi .int (.cons (.var 2) .nil)) (.var 3))]) .nil)) (.cons (.ret (.tup (.cons (.op2 .fdiv (.var 0) (.var 2)) (.cons (.op2 .fdiv (.var 1) (.var 2)) .nil)))) .nil)))
theorem low_loop {G : List PyData} {F : Fns} {np : Nat → Nat} {s1 s2 : Slot} {w : Wd} : ∀ (k : Nat) (a b : Int), b.toNat = k → 0 ≤ a → 0 ≤ b →
    whileR (whC G F np (.op2 .gt (.var 3) (.cst (.int 0)))) (whB G F np (.cons (.par [2, 3] [.val (.var 3), .val (.op2 .mod (.bi .int (.cons (.var 2) .nil)) (.var 3))]) .nil)) [s1, s2, .val (.d (.int a)), .val (.d (.int b))] w
      = .ok (.nx [s1, s2, .val (.d (.int (Nat.gcd a.natAbs b.natAbs))), .val (.d (.int 0))]) w := by
  intro k
  induction k using Nat.strongRecOn with
  | ind k ih =>
    intro a b hk ha hb
    rw [whileR_eq]
    by_cases h : 0 < b
    · have r : modV (.int a) (.int b) = some (.int (a % b)) := fmod_p h
      have m0 : 0 ≤ a % b := Int.emod_nonneg _ (by omega)
      have m1 : a % b < b := Int.emod_lt_of_pos _ h
      have st := ih (a % b).toNat (by omega) b (a % b) rfl hb m0
      have g : Nat.gcd b.natAbs (a % b).natAbs = Nat.gcd a.natAbs b.natAbs := by
        rw [Int.natAbs_emod_of_nonneg ha]
        rw [Nat.gcd_comm b.natAbs, ← Nat.gcd_rec, Nat.gcd_comm]
      rw [g] at st
      simp [whC, whB, getV, op2V, gtV, h, biV, r, demE, escP, Pc.esc, esc, escV, escW, setP]
      exact st
    · have b0 : b = 0 := by omega
      subst b0
      have e : ((a.natAbs : Nat) : Int) = a := by omega
      simp [whC, whB, getV, op2V, gtV, e]
theorem low_ok {G : List PyData} {F : Fns} {np : Nat → Nat} {nm x1 x2 x3 x4 : Str} {w : Wd} {n m : Int} (hn : 0 ≤ n) (hm : 0 < m) (hb : m.natAbs < 2 ^ 9000) :
    runD G F np ⟨nm, [x1, x2], [x1, x2, x3, x4], bLow⟩ [.d (.int n), .d (.int m)] w = .ok (.d (.tuple [.int (n / (Nat.gcd n.natAbs m.natAbs)), .int (m / (Nat.gcd n.natAbs m.natAbs))])) w := by
  have L := low_loop (G := G) (F := F) (np := np) (s1 := .val (.d (.int n))) (s2 := .val (.d (.int m))) (w := w) _ n m rfl hn (by omega)
  have gp : 0 < Nat.gcd n.natAbs m.natAbs := Nat.gcd_pos_of_pos_right _ (by omega)
  have gl : Nat.gcd n.natAbs m.natAbs ≤ m.natAbs := Nat.gcd_le_right _ (by omega)
  have ab : (if n < 0 then -n else n) = n := if_neg (by omega)
  have lg : (Nat.gcd n.natAbs m.natAbs).log2 < 9000 := (Nat.log2_lt (by omega)).mpr (Nat.lt_of_le_of_lt gl hb)
  have d1 : fdivV (.int n) (.int (Nat.gcd n.natAbs m.natAbs)) = some (.int (n / (Nat.gcd n.natAbs m.natAbs))) := fdiv_p (by omega) (by simpa using lg)
  have d2 : fdivV (.int m) (.int (Nat.gcd n.natAbs m.natAbs)) = some (.int (m / (Nat.gcd n.natAbs m.natAbs))) := fdiv_p (by omega) (by simpa using lg)
  simp [runD, bLow, getV, biV, ab, escP, Pc.esc, esc, escW, escV, setP, demE, L, op2V, d1, d2]
/-! ### turns with a word that stays -/
theorem forR_inv {step : PyData → En → Wd → Res Fl} (I : En → Wd → Prop) : ∀ (xs : List PyData) (env : En) (w : Wd), I env w → (∀ x ∈ xs, ∀ env w, I env w → ∃ env' w', step x env w = .ok (.nx env') w' ∧ I env' w') → ∃ env' w', forR step xs env w = .ok (.nx env') w' ∧ I env' w'
  | [], env, w, h, _ => ⟨env, w, rfl, h⟩
  | x :: r, env, w, h, hs => by
    obtain ⟨e1, w1, h1, i1⟩ := hs x (List.mem_cons_self ..) env w h
    obtain ⟨e2, w2, h2, i2⟩ := forR_inv I r e1 w1 i1 fun y hy => hs y (List.mem_cons_of_mem _ hy)
    exact ⟨e2, w2, by rw [forR, h1]; exact h2, i2⟩
theorem gath_inv {step : PyData → Wd → Res (Option PyData)} (I : Wd → Prop) (J : PyData → Prop) : ∀ (xs acc : List PyData) (w : Wd), I w → (∀ y ∈ acc, J y) → acc.length + xs.length ≤ sizeLine → (∀ x ∈ xs, ∀ w, I w → ∃ o w', step x w = .ok o w' ∧ I w' ∧ ∀ y, o = some y → J y) →
    ∃ ys w', gath step xs acc w = .ok ys w' ∧ I w' ∧ (∀ y ∈ ys, J y) ∧ ys.length ≤ acc.length + xs.length
  | [], acc, w, h, ha, _, _ => ⟨acc, w, by rw [gath], h, ha, by simp⟩
  | x :: r, acc, w, h, ha, hl, hs => by
    simp only [List.length_cons] at hl ⊢
    obtain ⟨o, w1, h1, i1, j1⟩ := hs x (List.mem_cons_self ..) w h
    cases o with
    | none =>
      obtain ⟨ys, w2, h2, i2, j2, l2⟩ := gath_inv I J r acc w1 i1 ha (by omega) fun y hy => hs y (List.mem_cons_of_mem _ hy)
      exact ⟨ys, w2, by rw [gath, h1]; exact h2, i2, j2, by omega⟩
    | some y =>
      obtain ⟨ys, w2, h2, i2, j2, l2⟩ := gath_inv I J r (acc ++ [y]) w1 i1 (fun z hz => (List.mem_append.mp hz).elim (ha z) fun q => by
        obtain rfl := List.mem_singleton.mp q
        exact j1 _ rfl) (by simp; omega) fun y hy => hs y (List.mem_cons_of_mem _ hy)
      refine ⟨ys, w2, ?_, i2, j2, by simp at l2; omega⟩
      rw [gath, h1]
      simp only [bind_ok_eq]
      rw [if_pos (by omega)]
      exact h2
/-! ### a well -/
def bWell (c1 c2 c3 c4 c5 c6 c7 c8 : Int) : Ss := (.cons (.asg (.nm 2) (.ite (.op2 .lt (.var 1) (.bi .len (.cons (.var 0) .nil))) (.bi .int (.cons (.ix (.var 0) (.var 1)) .nil)) (.op2 .add (.op2 .add (.cst (.int c1)) (.op2 .mul (.cst (.int c2)) (.var 1))) (.op2 .mod (.bi .int (.cons (.bi .sum (.cons (.sl (.var 0) .none (.some (.cst (.int 2)))) .nil)) .nil)) (.cst (.int 1000003)))))) (.cons (.asg (.nm 3) (.op2 .add (.cst (.int c3)) (.op2 .mul (.cst (.int c4)) (.var 1)))) (.cons (.for_ (.nm 4) (.seq (.sl (.var 0) .none (.some (.cst (.int 9))))) (.cons (.asg (.nm 3) (.op2 .mod (.bi .int (.cons (.op2 .add (.op2 .add (.op2 .mul (.var 3) (.cst (.int c5))) (.op2 .mul (.op2 .mod (.bi .int (.cons (.var 4) .nil)) (.cst (.int 2147483549))) (.cst (.int 5)))) (.cst (.int c8))) .nil)) (.cst (.int 2147483549)))) .nil)) (.cons (.asg (.nm 3) (.op2 .mod (.bi .int (.cons (.op2 .add (.op2 .add (.op2 .mul (.var 3) (.cst (.int c7))) (.op2 .mul (.op2 .mod (.bi .int (.cons (.var 2) .nil)) (.cst (.int 2147483549))) (.cst (.int c6)))) (.cst (.int 5))) .nil)) (.cst (.int 2147483549)))) (.cons (.ret (.new (.cons (.ite (.bools false (.cons (.op2 .lt (.var 2) (.cst (.int 0))) (.cons (.op2 .ge (.var 2) (.op2 .pow (.cst (.int 10)) (.cst (.int 18)))) .nil))) (.bi .abs (.cons (.var 2) .nil)) (.cst (.int 0))) (.cons (.var 3) (.cons (.cst (.int 0)) .nil))))) .nil)))))
theorem mul_r {i j : Int} (h : j.natAbs < 18446744073709551616) : mulV (.int i) (.int j) = some (.int (i * j)) := by
  have e : (2 : Nat) ^ 64 = 18446744073709551616 := by decide
  have k : mulOk i j = true := by
    unfold mulOk
    rw [e, decide_eq_true h]
    simp
  simp only [mulV, k, if_true]
theorem cut_map {α β : Type} (f : α → β) (xs : List α) (lo hi : Option Int) : cut (xs.map f) lo hi = (cut xs lo hi).map f := by
  unfold cut
  rw [List.length_map, List.map_take, List.map_drop]
theorem well_core {G : List PyData} {F : Fns} {np : Nat → Nat} {nm x1 x2 x3 x4 x5 : Str} {c3 c4 c5 c6 c7 c8 : Int} {ns : List Int} {t : Int} {w : Wd} {eo : E} {o : Int} (h4 : c4.natAbs < 18446744073709551616) (h5 : c5.natAbs < 18446744073709551616) (h6 : c6.natAbs < 18446744073709551616) (h7 : c7.natAbs < 18446744073709551616)
    (ho : ev G F np [.val (.d (.list (ns.map .int))), .val (.d (.int t)), .non, .non, .non] eo w = .ok (.d (.int o)) w) (he : demE [.val (.d (.list (ns.map .int))), .val (.d (.int t)), .non, .non, .non] (esc eo) = [.val (.d (.list (ns.map .int))), .val (.d (.int t)), .non, .non, .non]) :
    ∃ w', runD G F np ⟨nm, [x1, x2], [x1, x2, x3, x4, x5], (.cons (.asg (.nm 2) eo) (.cons (.asg (.nm 3) (.op2 .add (.cst (.int c3)) (.op2 .mul (.cst (.int c4)) (.var 1)))) (.cons (.for_ (.nm 4) (.seq (.sl (.var 0) .none (.some (.cst (.int 9))))) (.cons (.asg (.nm 3) (.op2 .mod (.bi .int (.cons (.op2 .add (.op2 .add (.op2 .mul (.var 3) (.cst (.int c5))) (.op2 .mul (.op2 .mod (.bi .int (.cons (.var 4) .nil)) (.cst (.int 2147483549))) (.cst (.int 5)))) (.cst (.int c8))) .nil)) (.cst (.int 2147483549)))) .nil)) (.cons (.asg (.nm 3) (.op2 .mod (.bi .int (.cons (.op2 .add (.op2 .add (.op2 .mul (.var 3) (.cst (.int c7))) (.op2 .mul (.op2 .mod (.bi .int (.cons (.var 2) .nil)) (.cst (.int 2147483549))) (.cst (.int c6)))) (.cst (.int 5))) .nil)) (.cst (.int 2147483549)))) (.cons (.ret (.new (.cons (.ite (.bools false (.cons (.op2 .lt (.var 2) (.cst (.int 0))) (.cons (.op2 .ge (.var 2) (.op2 .pow (.cst (.int 10)) (.cst (.int 18)))) .nil))) (.bi .abs (.cons (.var 2) .nil)) (.cst (.int 0))) (.cons (.var 3) (.cons (.cst (.int 0)) .nil))))) .nil)))))⟩ [.d (.list (ns.map .int)), .d (.int t)] w = .ok (.loc w.length) w' ∧ Wl w.length w' ∧ w'.length = w.length + 1 := by
  have L := forR_inv (step := forT G F np (.nm 4) (.cons (.asg (.nm 3) (.op2 .mod (.bi .int (.cons (.op2 .add (.op2 .add (.op2 .mul (.var 3) (.cst (.int c5))) (.op2 .mul (.op2 .mod (.bi .int (.cons (.var 4) .nil)) (.cst (.int 2147483549))) (.cst (.int 5)))) (.cst (.int c8))) .nil)) (.cst (.int 2147483549)))) .nil))
    (fun env w1 => w1 = w ∧ ∃ (s : Int) (sl : Slot), env = [.val (.d (.list (ns.map .int))), .val (.d (.int t)), .val (.d (.int o)), .val (.d (.int s)), sl]) ((cut ns none (some 9)).map .int) [.val (.d (.list (ns.map .int))), .val (.d (.int t)), .val (.d (.int o)), .val (.d (.int (c3 + c4 * t))), .non] w ⟨rfl, _, _, rfl⟩ (by
      intro x hx env w1 ⟨hw, s, sl, he⟩
      subst hw he
      obtain ⟨k, _, rfl⟩ := List.mem_map.mp hx
      have r1 : modV (.int k) (.int 2147483549) = some (.int (k % 2147483549)) := fmod_p (by decide)
      have r2 : modV (.int (s * c5 + k % 2147483549 * 5 + c8)) (.int 2147483549) = some (.int ((s * c5 + k % 2147483549 * 5 + c8) % 2147483549)) := fmod_p (by decide)
      have m1 : mulV (.int (k % 2147483549)) (.int 5) = some (.int (k % 2147483549 * 5)) := mul_r (by decide)
      refine ⟨[.val (.d (.list (ns.map .int))), .val (.d (.int t)), .val (.d (.int o)), .val (.d (.int ((s * c5 + k % 2147483549 * 5 + c8) % 2147483549))), .val (.d (.int k))], w1, ?_, rfl, _, _, rfl⟩
      simp [forT, getV, op2V, mul_r h5, biV, r1, m1, addV, r2, demE, esc, escV, escW])
  obtain ⟨env', w', hf, rfl, s, sl, rfl⟩ := L
  have r1 : modV (.int o) (.int 2147483549) = some (.int (o % 2147483549)) := fmod_p (by decide)
  have r2 : modV (.int (s * c7 + o % 2147483549 * c6 + 5)) (.int 2147483549) = some (.int ((s * c7 + o % 2147483549 * c6 + 5) % 2147483549)) := fmod_p (by decide)
  have p1 : 0 ≤ (s * c7 + o % 2147483549 * c6 + 5) % 2147483549 := Int.emod_nonneg _ (by decide)
  have p2 : (s * c7 + o % 2147483549 * c6 + 5) % 2147483549 < 2147483549 := Int.emod_lt_of_pos _ (by decide)
  generalize hs : (s * c7 + o % 2147483549 * c6 + 5) % 2147483549 = s2 at r2 p1 p2
  refine ⟨w' ++ [[if o < 0 ∨ 1000000000000000000 ≤ o then (if o < 0 then -o else o) else 0, s2, 0]], ?_, ⟨_, _, _, by rw [List.getElem?_append_right (Nat.le_refl _), Nat.sub_self]; rfl, ?_, p1, p2, Int.le_refl _⟩, by simp⟩
  · have m4 : mulV (.int c4) (.int t) = some (.int (c4 * t)) := mul_l h4
    have m7 : mulV (.int s) (.int c7) = some (.int (s * c7)) := mul_r h7
    have m6 : mulV (.int (o % 2147483549)) (.int c6) = some (.int (o % 2147483549 * c6)) := mul_r h6
    have cm : slV (.list (ns.map .int)) none (some 9) = some (.list ((cut ns none (some 9)).map .int)) := by simp only [slV, cut_map]
    have pw : powV (.int 10) (.int 18) = some (.int 1000000000000000000) := by simp [powV]
    have n1 : asInts [.int (if o < 0 ∨ 1000000000000000000 ≤ o then (if o < 0 then -o else o) else 0), .int s2, .int 0] = some [if o < 0 ∨ 1000000000000000000 ≤ o then (if o < 0 then -o else o) else 0, s2, 0] := rfl
    by_cases a1 : o < 0
    · have a2 : ¬ 0 ≤ o := by omega
      simp [runD, ho, he, m4, op2V, addV, bound?, cm, asSeq, demE, esc, escV, escW, escI, hf, getV, biV, r1, m7, m6, r2, ltV, geV, pw, a1, a2, asInts]
    · have a2 : 0 ≤ o := by omega
      by_cases a3 : 1000000000000000000 ≤ o
      · have a4 : ¬ o < 1000000000000000000 := by omega
        simp [runD, ho, he, m4, op2V, addV, bound?, cm, asSeq, demE, esc, escV, escW, escI, hf, getV, biV, r1, m7, m6, r2, ltV, geV, pw, a1, a2, a3, a4, asInts]
      · have a4 : o < 1000000000000000000 := by omega
        simp [runD, ho, he, m4, op2V, addV, bound?, cm, asSeq, demE, esc, escV, escW, escI, hf, getV, biV, r1, m7, m6, r2, ltV, geV, pw, a1, a2, a3, a4, asInts]
  · split
    · split <;> omega
    · exact Int.le_refl _
theorem well_ok {G : List PyData} {F : Fns} {np : Nat → Nat} {nm x1 x2 x3 x4 x5 : Str} {c1 c2 c3 c4 c5 c6 c7 c8 : Int} {ns : List Int} {t : Int} {w : Wd} (h2 : c2.natAbs < 18446744073709551616) (h4 : c4.natAbs < 18446744073709551616) (h5 : c5.natAbs < 18446744073709551616) (h6 : c6.natAbs < 18446744073709551616) (h7 : c7.natAbs < 18446744073709551616) (ht : 0 ≤ t) :
    ∃ w', runD G F np ⟨nm, [x1, x2], [x1, x2, x3, x4, x5], bWell c1 c2 c3 c4 c5 c6 c7 c8⟩ [.d (.list (ns.map .int)), .d (.int t)] w = .ok (.loc w.length) w' ∧ Wl w.length w' ∧ w'.length = w.length + 1 := by
  -- the script's own number
  have own : ∃ o : Int, ev G F np [.val (.d (.list (ns.map .int))), .val (.d (.int t)), .non, .non, .non] (.ite (.op2 .lt (.var 1) (.bi .len (.cons (.var 0) .nil))) (.bi .int (.cons (.ix (.var 0) (.var 1)) .nil)) (.op2 .add (.op2 .add (.cst (.int c1)) (.op2 .mul (.cst (.int c2)) (.var 1))) (.op2 .mod (.bi .int (.cons (.bi .sum (.cons (.sl (.var 0) .none (.some (.cst (.int 2)))) .nil)) .nil)) (.cst (.int 1000003))))) w = .ok (.d (.int o)) w := by
    by_cases hl : t < ns.length
    · have ha : at? (ns.map PyData.int) t = some (.int ns[t.toNat]) := by
        unfold at?
        rw [if_pos ht, List.getElem?_map, List.getElem?_eq_getElem (by omega)]
        rfl
      exact ⟨ns[t.toNat], by simp [getV, biV, asSeq, op2V, ltV, hl, ixV, ha]⟩
    · have r : modV (.int (cut ns none (some 2)).sum) (.int 1000003) = some (.int ((cut ns none (some 2)).sum % 1000003)) := fmod_p (by decide)
      exact ⟨c1 + c2 * t + (cut ns none (some 2)).sum % 1000003, by simp [getV, biV, asSeq, op2V, ltV, hl, mul_l h2, addV, bound?, slV, cut_map, asInts_map, r]⟩
  obtain ⟨o, own⟩ := own
  exact well_core h4 h5 h6 h7 own (by simp [demE, esc, escV, escW])
end R
end
section
/-! What holds behind a run. -/
namespace R
open PySem L2
def wpR {α : Type} (r : Res α) (Q : α → Wd → Prop) : Prop := ∃ a w, r = .ok a w ∧ Q a w
variable {α β : Type}
@[simp] theorem wp_ok {a : α} {w : Wd} {Q : α → Wd → Prop} : wpR (.ok a w) Q ↔ Q a w := by
  constructor
  · rintro ⟨b, v, h, q⟩
    injection h with h1 h2
    subst h1 h2
    exact q
  · exact fun q => ⟨a, w, rfl, q⟩
/-- what comes behind -/
def contK (f : α → Wd → Res β) (Q : β → Wd → Prop) (a : α) (w : Wd) : Prop := wpR (f a w) Q
@[simp] theorem contK_0 {f : α → Wd → Res β} {Q : β → Wd → Prop} {a : α} {w : Wd} : contK f Q a w ↔ wpR (f a w) Q := ⟨fun h => h, fun h => h⟩
@[simp] theorem wp_bind {r : Res α} {f : α → Wd → Res β} {Q : β → Wd → Prop} : wpR (r.bind f) Q ↔ wpR r (contK f Q) := by
  cases r with
  | ok a w => simp
  | exc c x w =>
    constructor
    · rintro ⟨b, v, h, q⟩
      cases h
    · rintro ⟨b, v, h, q⟩
      cases h
  | bad =>
    constructor
    · rintro ⟨b, v, h, q⟩
      cases h
    · rintro ⟨b, v, h, q⟩
      cases h
@[simp] theorem wp_nox {r : Res α} {Q : α → Wd → Prop} : wpR r.nox Q ↔ wpR r Q := by
  cases r with
  | ok a w => simp
  | exc c x w =>
    constructor
    · rintro ⟨b, v, h, q⟩
      cases h
    · rintro ⟨b, v, h, q⟩
      cases h
  | bad => rfl
theorem wp_mono {r : Res α} {P Q : α → Wd → Prop} (h : wpR r P) (k : ∀ a w, P a w → Q a w) : wpR r Q := by
  obtain ⟨a, w, e, p⟩ := h
  exact ⟨a, w, e, k a w p⟩
theorem wp_eq {r : Res α} {a : α} {w : Wd} {Q : α → Wd → Prop} (e : r = .ok a w) (q : Q a w) : wpR r Q := ⟨a, w, e, q⟩
theorem wp_run {r : Res α} {P : α → Wd → Prop} (h : ∀ Q : α → Wd → Prop, (∀ a w, P a w → Q a w) → wpR r Q) : ∃ a w, r = .ok a w ∧ P a w := h P fun _ _ p => p
@[simp] theorem wp_opt {a : Option α} {w : Wd} {Q : α → Wd → Prop} : wpR (ofOpt a w) Q ↔ ∃ b, a = some b ∧ Q b w := by
  cases a with
  | none =>
    constructor
    · rintro ⟨b, v, h, q⟩
      cases h
    · rintro ⟨b, h, q⟩
      cases h
  | some b => simp [ofOpt]
/-- what a def's end hands on -/
def endK (Q : Vl → Wd → Prop) : Fl → Wd → Prop
  | .nx _, w => Q (.d .none) w
  | .rt v, w => Q v w
  | _, _ => False
@[simp] theorem endK_nx {Q : Vl → Wd → Prop} {e : En} {w : Wd} : endK Q (.nx e) w ↔ Q (.d .none) w := ⟨fun h => h, fun h => h⟩
@[simp] theorem endK_rt {Q : Vl → Wd → Prop} {v : Vl} {w : Wd} : endK Q (.rt v) w ↔ Q v w := ⟨fun h => h, fun h => h⟩
theorem wp_at {G : List PyData} {T : List Fd} {f : Nat} {d : Fd} (h : T[f]? = some d) {vs : List Vl} {w : Wd} {Q : Vl → Wd → Prop} (hl : vs.length = d.ps.length) (k : wpR (evSs G (FnT G T f) (npT T) d.body (vs.map Slot.val ++ List.replicate (d.N.length - vs.length) .non) w) (endK Q)) : wpR (FnT G T (f + 1) f vs w) Q := by
  rw [FnT_at h, runD, if_pos hl]
  obtain ⟨fl, w', e, q⟩ := k
  rw [e]
  cases fl with
  | nx env => exact wp_ok.mpr q
  | rt v => exact wp_ok.mpr q
  | bk env => exact False.elim q
  | ct env => exact False.elim q
/-- loops -/
theorem wp_for {step : PyData → En → Wd → Res Fl} (I : En → Wd → Prop) {Q : Fl → Wd → Prop} : ∀ {xs : List PyData} {env : En} {w : Wd}, I env w → (∀ x ∈ xs, ∀ env w, I env w → ∀ Q : Fl → Wd → Prop, (∀ env' w', I env' w' → Q (.nx env') w') → wpR (step x env w) Q) → (∀ env w, I env w → Q (.nx env) w) → wpR (forR step xs env w) Q
  | [], env, w, h0, _, hq => wp_ok.mpr (hq env w h0)
  | x :: r, env, w, h0, hs, hq => by
    rw [forR, wp_bind]
    exact hs x (List.mem_cons_self ..) env w h0 _ fun env' w' h => wp_for I h (fun y hy => hs y (List.mem_cons_of_mem _ hy)) hq
/-- .. with what is done kept in sight -/
theorem wp_forP {γ : Type} {step : PyData → En → Wd → Res Fl} (f : γ → PyData) (I : List γ → En → Wd → Prop) {Q : Fl → Wd → Prop} : ∀ (done : List γ) {xs : List γ} {env : En} {w : Wd}, I done env w → (∀ d x r, done ++ xs = d ++ x :: r → ∀ env w, I d env w → ∀ Q : Fl → Wd → Prop, (∀ env' w', I (d ++ [x]) env' w' → Q (.nx env') w') → wpR (step (f x) env w) Q) → (∀ env w, I (done ++ xs) env w → Q (.nx env) w) → wpR (forR step (xs.map f) env w) Q
  | done, [], env, w, h0, _, hq => wp_ok.mpr (hq env w (by simpa using h0))
  | done, x :: r, env, w, h0, hs, hq => by
    rw [List.map_cons, forR, wp_bind]
    refine hs done x r rfl env w h0 _ fun env' w' h => wp_forP f I (done ++ [x]) h (fun d y t e => hs d y t ?_) ?_
    · rw [← e]
      simp
    · simpa using hq
/-- a loop that returns as soon as c holds -/
theorem wp_forB {γ : Type} {step : PyData → En → Wd → Res Fl} (f : γ → PyData) (c : γ → Bool) (v : Vl) (I : En → Wd → Prop) {Q : Fl → Wd → Prop} : ∀ {xs : List γ} {env : En} {w : Wd}, I env w → (∀ x ∈ xs, ∀ env w, I env w → ∀ Q : Fl → Wd → Prop, (c x = true → Q (.rt v) w) → (c x = false → ∀ env' w', I env' w' → Q (.nx env') w') → wpR (step (f x) env w) Q) → (∀ env w, I env w → xs.any c = true → Q (.rt v) w) → (∀ env w, I env w → xs.any c = false → Q (.nx env) w) → wpR (forR step (xs.map f) env w) Q
  | [], env, w, h0, _, _, hq => wp_ok.mpr (hq env w h0 rfl)
  | x :: r, env, w, h0, hs, hr, hq => by
    rw [List.map_cons, forR, wp_bind]
    refine hs x (List.mem_cons_self ..) env w h0 _ (fun h => ?_) fun h env' w' i => ?_
    · exact wp_ok.mpr (hr env w h0 (by simp [h]))
    · exact wp_forB f c v I i (fun y hy => hs y (List.mem_cons_of_mem _ hy)) (fun env w i h2 => hr env w i (by simp [h, h2])) (fun env w i h2 => hq env w i (by simp [h, h2]))
/-- comprehensions -/
theorem wp_gathS {γ : Type} {step : PyData → Wd → Res (Option PyData)} (f g : γ → PyData) (J : Wd → Prop) {Q : List PyData → Wd → Prop} : ∀ {xs : List γ} {acc : List PyData} {w : Wd}, J w → acc.length + xs.length ≤ sizeLine → (∀ x ∈ xs, ∀ w, J w → ∀ Q : Option PyData → Wd → Prop, (∀ (b : Bool) w', J w' → Q (if b then some (g x) else none) w') → wpR (step (f x) w) Q) → (∀ (ys : List γ) w, ys.Sublist xs → J w → Q (acc ++ ys.map g) w) → wpR (gath step (xs.map f) acc w) Q
  | [], acc, w, h0, _, _, hq => wp_ok.mpr (by simpa using hq [] w (List.Sublist.refl _) h0)
  | x :: r, acc, w, h0, hl, hs, hq => by
    simp only [List.length_cons] at hl
    rw [List.map_cons, gath, wp_bind]
    refine hs x (List.mem_cons_self ..) w h0 _ fun b w' j => ?_
    cases b with
    | false => exact wp_gathS f g J j (by omega) (fun y hy => hs y (List.mem_cons_of_mem _ hy)) fun ys w hy j => hq ys w (hy.cons _) j
    | true =>
      simp only [if_true, contK_0]
      rw [if_pos (by omega)]
      exact wp_gathS f g J j (by simp; omega) (fun y hy => hs y (List.mem_cons_of_mem _ hy)) fun ys w hy j => by simpa using hq (x :: ys) w (hy.cons_cons _) j
theorem wp_gathE {γ δ : Type} {step : PyData → Wd → Res (Option PyData)} (f : γ → PyData) (g : δ → PyData) (P : γ → δ → Prop) (J : Wd → Prop) {Q : List PyData → Wd → Prop} : ∀ {xs : List γ} {acc : List PyData} {w : Wd}, J w → acc.length + xs.length ≤ sizeLine → (∀ x ∈ xs, ∀ w, J w → ∀ Q : Option PyData → Wd → Prop, (∀ y w', P x y → J w' → Q (some (g y)) w') → wpR (step (f x) w) Q) → (∀ (ys : List δ) w, ys.length = xs.length → (∀ p ∈ xs.zip ys, P p.1 p.2) → J w → Q (acc ++ ys.map g) w) → wpR (gath step (xs.map f) acc w) Q
  | [], acc, w, h0, _, _, hq => wp_ok.mpr (by simpa using hq [] w rfl (by simp) h0)
  | x :: r, acc, w, h0, hl, hs, hq => by
    simp only [List.length_cons] at hl
    rw [List.map_cons, gath, wp_bind]
    refine hs x (List.mem_cons_self ..) w h0 _ fun y w' hp j => ?_
    simp only [contK_0]
    rw [if_pos (by omega)]
    refine wp_gathE f g P J j (by simp; omega) (fun y hy => hs y (List.mem_cons_of_mem _ hy)) fun ys w hy hz j => ?_
    have := hq (y :: ys) w (by simp [hy]) (by
      intro p hm
      rw [List.zip_cons_cons] at hm
      rcases List.mem_cons.mp hm with rfl | hm
      · exact hp
      · exact hz p hm) j
    simpa using this
end R
namespace R
open PySem L2
theorem wp_cut {α : Type} {r : Res α} (P : α → Wd → Prop) {Q : α → Wd → Prop} (h : ∀ Q : α → Wd → Prop, (∀ a w, P a w → Q a w) → wpR r Q) (k : ∀ a w, P a w → Q a w) : wpR r Q := h Q k
theorem wp_det {α : Type} {r : Res α} {x : α} {v : Wd} (h : ∀ Q : α → Wd → Prop, Q x v → wpR r Q) : r = .ok x v := by
  obtain ⟨a, w, e, rfl, rfl⟩ := h (fun a w => a = x ∧ w = v) ⟨rfl, rfl⟩
  exact e
theorem wp_gathM {γ : Type} {step : PyData → Wd → Res (Option PyData)} {w : Wd} (f g : γ → PyData) {Q : List PyData → Wd → Prop} {xs : List γ} {acc : List PyData} (h : ∀ x ∈ xs, step (f x) w = .ok (some (g x)) w) (hl : acc.length + xs.length ≤ sizeLine) (k : Q (acc ++ xs.map g) w) : wpR (gath step (xs.map f) acc w) Q := wp_eq (gath_mapA f g h hl) k
theorem wp_gathF {γ : Type} {step : PyData → Wd → Res (Option PyData)} {w : Wd} (f g : γ → PyData) (c : γ → Bool) {Q : List PyData → Wd → Prop} {xs : List γ} {acc : List PyData} (h : ∀ x ∈ xs, step (f x) w = .ok (if c x then some (g x) else none) w) (hl : acc.length + xs.length ≤ sizeLine) (k : Q (acc ++ (xs.filter c).map g) w) : wpR (gath step (xs.map f) acc w) Q := wp_eq (gath_filA f g c h hl) k
@[simp] theorem rangeL_nat (n : Nat) : rangeL 0 n 1 = (List.range n).map fun k => .int k := by
  simp [rangeL]
@[simp] theorem at_nat {α : Type} (xs : List α) (k : Nat) : at? xs (k : Int) = xs[k]? := by
  simp [at?]
theorem small_nat {n : Nat} (h : n ≤ 1000000) : small62 (n : Int) = true := by
  unfold small62
  rw [decide_eq_true (by omega), decide_eq_true (by omega)]
  rfl
theorem range_split {c : Nat} {d : List Nat} {x : Nat} {r : List Nat} (h : List.range c = d ++ x :: r) : x = d.length ∧ d.length < c := by
  have h1 : (List.range c)[d.length]? = some x := by rw [h]; simp
  have h2 : d.length < c := by
    have := congrArg List.length h
    simp at this
    omega
  rw [List.getElem?_range h2] at h1
  exact ⟨(Option.some.inj h1).symm, h2⟩
end R
end
section
/-! Plain data of bounded size is shown in bounds, and a shown text is plain again. -/
namespace R
open PySem
mutual
def nice : PyData → Bool
  | .none => true
  | .bool _ => true
  | .int i => decide (i.natAbs < 2 ^ 200)
  | .str _ => false
  | .list xs => niceAll xs
  | .tuple xs => niceAll xs
  | .dict _ => false
def niceAll : List PyData → Bool
  | [] => true
  | x :: r => nice x && niceAll r
end
theorem niceAll_iff : ∀ {xs : List PyData}, niceAll xs = true ↔ ∀ x ∈ xs, nice x = true
  | [] => by simp [niceAll]
  | x :: r => by simp [niceAll, niceAll_iff (xs := r)]
theorem ok_app (x y : Str) : PyData.strOk (x ++ y) = (PyData.strOk x && PyData.strOk y) := by
  show (x.cps ++ y.cps).all _ = _
  rw [Array.all_append]
  rfl
theorem ok_of (s : String) : PyData.strOk (Str.ofString s) = true := by
  rw [Str.ofString_eq_toList]
  unfold PyData.strOk
  rw [← Array.all_toList]
  simp only [List.all_eq_true, List.mem_map, decide_eq_true_eq]
  rintro c ⟨d, _, rfl⟩
  have := d.valid
  rcases d with ⟨v, hv⟩
  simp only [Char.toNat]
  simp only [UInt32.isValidChar, Nat.isValidChar] at hv
  omega
theorem ok_from : ∀ (ts : List Str) (k : Nat) (acc : Str), PyData.strOk acc = true → (∀ t ∈ ts, PyData.strOk t = true) → PyData.strOk (textFrom k acc ts) = true
  | [], _, _, h, _ => h
  | t :: r, k, acc, h, hs => by
    refine ok_from r (k + 1) _ ?_ fun x hx => hs x (List.mem_cons_of_mem _ hx)
    rw [ok_app, ok_app, h, ok_of, hs t (List.mem_cons_self ..)]
    rfl
theorem ok_join (sep : Str) (hs : PyData.strOk sep = true) : ∀ ts : List Str, (∀ t ∈ ts, PyData.strOk t = true) → PyData.strOk (Str.join sep ts) = true
  | [], _ => ok_of ""
  | [x], h => h x (by simp)
  | x :: y :: r, h => by
    show PyData.strOk (x ++ sep ++ Str.join sep (y :: r)) = true
    rw [ok_app, ok_app, h x (by simp), hs, ok_join sep hs (y :: r) fun t ht => h t (List.mem_cons_of_mem _ ht)]
    rfl
mutual
theorem nice_lay : ∀ d : PyData, nice d = true → d.canLay0 = true ∧ d.showable = true ∧ d.leavesShort 62 = true ∧ PyData.strOk d.shown = true
  | .none, _ => ⟨rfl, rfl, rfl, ok_of _⟩
  | .bool b, _ => ⟨rfl, rfl, rfl, by
    unfold PyData.shown
    split <;> exact ok_of _⟩
  | .int i, h => by
    simp only [nice, decide_eq_true_eq] at h
    have h2 : i.natAbs < 2 ^ 1919 := Nat.lt_of_lt_of_le h (Nat.pow_le_pow_right (by decide) (by decide))
    have h3 : i.natAbs.log2 < 1920 := by
      by_cases h0 : i.natAbs = 0
      · rw [h0]
        decide
      · exact Nat.lt_succ_of_lt ((Nat.log2_lt h0).mpr h2)
    have h4 : i.natAbs < 10 ^ 61 := Nat.lt_of_lt_of_le h (by decide +kernel)
    have h5 : (PyData.int i).shown.length ≤ 62 := by
      show (Str.ofString (toString i)).length ≤ 62
      rw [ofString_length]
      exact int_text_length_le10 (by decide) h4
    refine ⟨rfl, by simp only [PyData.showable, decide_eq_true h3], ?_, ok_of _⟩
    unfold PyData.leavesShort
    exact decide_eq_true h5
  | .str _, h => by simp [nice] at h
  | .dict _, h => by simp [nice] at h
  | .list xs, h => by
    obtain ⟨a, b, c, d⟩ := niceAll_lay xs (by simpa [nice] using h)
    refine ⟨by simpa [PyData.canLay0] using a, by simpa [PyData.showable] using b, by simpa [PyData.leavesShort] using c, ?_⟩
    show PyData.strOk (textFrom 0 "[" _ ++ "]") = true
    rw [ok_app, ok_from _ _ _ (ok_of _) d, ok_of]
    rfl
  | .tuple xs, h => by
    obtain ⟨a, b, c, d⟩ := niceAll_lay xs (by simpa [nice] using h)
    refine ⟨by simpa [PyData.canLay0] using a, by simpa [PyData.showable] using b, by simpa [PyData.leavesShort] using c, ?_⟩
    show PyData.strOk (("(" : Str) ++ Str.join ", " _ ++ _) = true
    rw [ok_app, ok_app, ok_of, ok_join _ (ok_of _) _ d, ok_of]
    rfl
theorem niceAll_lay : ∀ ds : List PyData, niceAll ds = true → PyData.canLayAll0 ds = true ∧ PyData.showableAll ds = true ∧ PyData.leavesShortAll 62 ds = true ∧ ∀ t ∈ PyData.shownAll ds, PyData.strOk t = true
  | [], _ => ⟨rfl, rfl, rfl, by simp [PyData.shownAll]⟩
  | x :: r, h => by
    simp only [niceAll, Bool.and_eq_true] at h
    obtain ⟨a, b, c, d⟩ := nice_lay x h.1
    obtain ⟨a2, b2, c2, d2⟩ := niceAll_lay r h.2
    refine ⟨by simp [PyData.canLayAll0, a, a2], by simp [PyData.showableAll, b, b2], by simp [PyData.leavesShortAll, c, c2], ?_⟩
    intro t ht
    simp only [PyData.shownAll, List.mem_cons] at ht
    rcases ht with rfl | ht
    · exact d
    · exact d2 t ht
end
/-- bounded plain data -/
structure Nc (k p : Nat) (d : PyData) : Prop where
  n : nice d = true
  w : d.weight ≤ k
  d : d.depth ≤ p
theorem Nc.none {k p : Nat} (hp : 1 ≤ p) : Nc k p .none := ⟨rfl, by simp [PyData.weight], by simpa [PyData.depth] using by omega⟩
theorem Nc.bool {k p : Nat} (hp : 1 ≤ p) (b : Bool) : Nc k p (.bool b) := ⟨rfl, by simp [PyData.weight], by simpa [PyData.depth] using by omega⟩
theorem Nc.int {p : Nat} (hp : 1 ≤ p) {i : Int} (h : i.natAbs < 2 ^ 200) : Nc 200 p (.int i) := by
  refine ⟨by simpa [nice] using h, ?_, by simpa [PyData.depth] using by omega⟩
  simp only [PyData.weight]
  split
  · omega
  · rename_i h0
    have : i.natAbs ≠ 0 := by simpa using h0
    have := (Nat.log2_lt this).mpr h
    omega
theorem weight_all {k : Nat} : ∀ {xs : List PyData}, (∀ x ∈ xs, x.weight ≤ k) → PyData.weightAll xs ≤ (k + 1) * xs.length
  | [], _ => by simp [PyData.weightAll]
  | x :: r, h => by
    have h1 := h x (List.mem_cons_self ..)
    have h2 := weight_all (xs := r) fun y hy => h y (List.mem_cons_of_mem _ hy)
    simp only [PyData.weightAll, List.length_cons, Nat.mul_succ]
    omega
theorem depth_all {p : Nat} : ∀ {xs : List PyData}, (∀ x ∈ xs, x.depth ≤ p) → PyData.depthAll xs ≤ p
  | [], _ => by simp [PyData.depthAll]
  | x :: r, h => by
    have h1 := h x (List.mem_cons_self ..)
    have h2 := depth_all (xs := r) fun y hy => h y (List.mem_cons_of_mem _ hy)
    simp only [PyData.depthAll]
    omega
theorem Nc.tup {k p n : Nat} {xs : List PyData} (h : ∀ x ∈ xs, Nc k p x) (hl : xs.length ≤ n) : Nc ((k + 1) * n) (p + 1) (.tuple xs) := by
  refine ⟨by simpa [nice] using niceAll_iff.mpr fun x hx => (h x hx).n, ?_, ?_⟩
  · exact Nat.le_trans (by simpa [PyData.weight] using weight_all fun x hx => (h x hx).w) (Nat.mul_le_mul_left _ hl)
  · have := depth_all fun x hx => (h x hx).d
    simp only [PyData.depth]
    omega
theorem Nc.lst {k p n : Nat} {xs : List PyData} (h : ∀ x ∈ xs, Nc k p x) (hl : xs.length ≤ n) : Nc ((k + 1) * n) (p + 1) (.list xs) := by
  refine ⟨by simpa [nice] using niceAll_iff.mpr fun x hx => (h x hx).n, ?_, ?_⟩
  · exact Nat.le_trans (by simpa [PyData.weight] using weight_all fun x hx => (h x hx).w) (Nat.mul_le_mul_left _ hl)
  · have := depth_all fun x hx => (h x hx).d
    simp only [PyData.depth]
    omega
theorem Nc.le {k p k2 p2 : Nat} {d : PyData} (h : Nc k p d) (h1 : k ≤ k2) (h2 : p ≤ p2) : Nc k2 p2 d := ⟨h.n, Nat.le_trans h.w h1, Nat.le_trans h.d h2⟩
theorem Nc.show {k p : Nat} {d : PyData} (h : Nc k p d) (hk : k ≤ 250000) (hp : p ≤ 60) : biV .repr [d] = some (.str d.shown) ∧ eqV (.str d.shown) (.str d.shown) = some (.bool true) ∧ neV (.str d.shown) (.str d.shown) = some (.bool false) := by
  obtain ⟨a, b, c, e⟩ := nice_lay d h.n
  have f : d.shown.length ≤ sizeLine := by
    have h1 := PyData.shown_le 62 (by decide) d c
    have h2 := h.w
    have h3 : sizeLine = 16777216 := rfl
    omega
  have s : showOk d = true := by
    unfold showOk
    rw [a, b, decide_eq_true (Nat.le_trans h.d hp), fits, decide_eq_true f]
    rfl
  refine ⟨by simp only [biV, s, if_true], ?_, ?_⟩
  · rw [eq_pl (.str _ e) (.str _ e) (by decide : 0 ≤ 63) (by decide : 0 ≤ 63)]
    simp
  · rw [ne_pl (.str _ e) (.str _ e) (by decide : 0 ≤ 63) (by decide : 0 ≤ 63)]
    simp
end R
end
section
/-! More rules for loops. -/
namespace R
open PySem L2
/-- a loop that returns what belongs to the first element found -/
theorem wp_forF {γ : Type} {step : PyData → En → Wd → Res Fl} (f : γ → PyData) (c : γ → Bool) (v : γ → Vl) (I : En → Wd → Prop) {Q : Fl → Wd → Prop} : ∀ {xs : List γ} {env : En} {w : Wd}, I env w → (∀ x ∈ xs, ∀ env w, I env w → ∀ Q : Fl → Wd → Prop, (c x = true → Q (.rt (v x)) w) → (c x = false → ∀ env' w', I env' w' → Q (.nx env') w') → wpR (step (f x) env w) Q) → (∀ x ∈ xs, c x = true → xs.find? c = some x → ∀ env w, I env w → Q (.rt (v x)) w) → (∀ env w, I env w → xs.find? c = none → Q (.nx env) w) → wpR (forR step (xs.map f) env w) Q
  | [], env, w, h0, _, _, hq => wp_ok.mpr (hq env w h0 rfl)
  | x :: r, env, w, h0, hs, hr, hq => by
    rw [List.map_cons, forR, wp_bind]
    refine hs x (List.mem_cons_self ..) env w h0 _ (fun h => ?_) fun h env' w' i => ?_
    · exact wp_ok.mpr (hr x (List.mem_cons_self ..) h (by simp [h]) env w h0)
    · exact wp_forF f c v I i (fun y hy => hs y (List.mem_cons_of_mem _ hy)) (fun y hy h1 h2 env w i => hr y (List.mem_cons_of_mem _ hy) h1 (by simp [h, h2]) env w i) (fun env w i h2 => hq env w i (by simp [h, h2]))
/-- a loop that breaks as soon as c holds -/
theorem wp_forK {γ : Type} {step : PyData → En → Wd → Res Fl} (f : γ → PyData) (c : γ → Bool) (I J : En → Wd → Prop) {Q : Fl → Wd → Prop} : ∀ {xs : List γ} {env : En} {w : Wd}, I env w → (∀ x ∈ xs, ∀ env w, I env w → ∀ Q : Fl → Wd → Prop, (c x = true → ∀ env' w', J env' w' → Q (.bk env') w') → (c x = false → ∀ env' w', I env' w' → Q (.nx env') w') → wpR (step (f x) env w) Q) → (∀ env w, J env w → xs.any c = true → Q (.nx env) w) → (∀ env w, I env w → xs.any c = false → Q (.nx env) w) → wpR (forR step (xs.map f) env w) Q
  | [], env, w, h0, _, _, hq => wp_ok.mpr (hq env w h0 rfl)
  | x :: r, env, w, h0, hs, hr, hq => by
    rw [List.map_cons, forR, wp_bind]
    refine hs x (List.mem_cons_self ..) env w h0 _ (fun h env' w' j => ?_) fun h env' w' i => ?_
    · exact wp_ok.mpr (hr env' w' j (by simp [h]))
    · exact wp_forK f c I J i (fun y hy => hs y (List.mem_cons_of_mem _ hy)) (fun env w i h2 => hr env w i (by simp [h, h2])) (fun env w i h2 => hq env w i (by simp [h, h2]))
/-- comprehensions of two loops -/
theorem gathM_eq {γ : Type} {step : PyData → List PyData → Wd → Res (List PyData)} {w : Wd} (f : γ → PyData) (g : γ → List PyData) : ∀ {xs : List γ} {acc : List PyData}, (∀ x ∈ xs, ∀ acc : List PyData, acc.length + (g x).length ≤ sizeLine → step (f x) acc w = .ok (acc ++ g x) w) → acc.length + (xs.flatMap g).length ≤ sizeLine → gathM step (xs.map f) acc w = .ok (acc ++ xs.flatMap g) w
  | [], acc, _, _ => by simp [gathM]
  | x :: r, acc, h, hl => by
    rw [List.flatMap_cons, List.length_append] at hl
    rw [List.map_cons, gathM, h x (List.mem_cons_self ..) acc (by omega), bind_ok_eq, gathM_eq f g (fun y hy => h y (List.mem_cons_of_mem _ hy)) (by rw [List.length_append]; omega)]
    simp
end R
end
section
/-! Fractions as data: rational numbers. -/
namespace R
open PySem
/-- a fraction in lowest terms -/
abbrev rq (x : Rat) : PyData := .tuple [.int x.num, .int (x.den : Int)]
/-- of bounded size -/
structure Sz (k : Nat) (x : Rat) : Prop where
  n : x.num.natAbs < 2 ^ k
  d : x.den < 2 ^ k
theorem Sz.mono {k l : Nat} {x : Rat} (h : Sz k x) (hl : k ≤ l) : Sz l x := ⟨Nat.lt_of_lt_of_le h.n (Nat.pow_le_pow_right (by decide) hl), Nat.lt_of_lt_of_le h.d (Nat.pow_le_pow_right (by decide) hl)⟩
theorem rq_inj {x y : Rat} (h : rq x = rq y) : x = y := by
  have h1 : x.num = y.num ∧ (x.den : Int) = y.den := by simpa [rq] using h
  exact Rat.ext h1.1 (by omega)
theorem rq_pl (x : Rat) : Pl 1 (rq x) := .tup (.cons (.int _) (.cons (.int _) .nil))
open Classical in
theorem eq_rq (x y : Rat) : eqV (rq x) (rq y) = some (.bool (decide (x = y))) := by
  rw [eq_pl (rq_pl x) (rq_pl y) (by decide) (by decide)]
  by_cases h : x = y
  · subst h
    simp
  · have : rq x ≠ rq y := fun q => h (rq_inj q)
    simp only [h, this, decide_false]
theorem ne_rq (x y : Rat) : neV (rq x) (rq y) = some (.bool (!decide (x = y))) := by
  have h := ne_pl (rq_pl x) (rq_pl y) (by decide) (by decide)
  rw [h]
  by_cases h : x = y
  · subst h
    simp
  · have : rq x ≠ rq y := fun q => h (rq_inj q)
    simp only [h, this, decide_false]
/-- n / m in lowest terms, as both texts reckon it -/
theorem low_num {n m : Int} (hm : m ≠ 0) : n.fdiv (m.sign * (Nat.gcd n.natAbs m.natAbs : Nat)) = (Rat.divInt n m).num ∧ m.fdiv (m.sign * (Nat.gcd n.natAbs m.natAbs : Nat)) = ((Rat.divInt n m).den : Int) := by
  have gp : 0 < Nat.gcd n.natAbs m.natAbs := Nat.gcd_pos_of_pos_right _ (by omega)
  have g1 : m.gcd n = Nat.gcd n.natAbs m.natAbs := by
    show Nat.gcd m.natAbs n.natAbs = _
    exact Nat.gcd_comm ..
  have e1 := Rat.num_divInt n m
  have e2 := Rat.den_divInt n m
  rw [if_neg hm] at e2
  rw [g1] at e1 e2
  obtain ⟨a, ha⟩ : ((Nat.gcd n.natAbs m.natAbs : Nat) : Int) ∣ n := Int.ofNat_dvd_left.mpr (Nat.gcd_dvd_left ..)
  obtain ⟨b, hb⟩ : ((Nat.gcd n.natAbs m.natAbs : Nat) : Int) ∣ m := Int.ofNat_dvd_left.mpr (Nat.gcd_dvd_right ..)
  generalize hg : Nat.gcd n.natAbs m.natAbs = g at *
  have g0 : (g : Int) ≠ 0 := by omega
  rcases Int.lt_or_gt_of_ne hm with h | h
  · have s : m.sign = -1 := Int.sign_eq_neg_one_of_neg h
    rw [e1, s]
    have q1 : n.fdiv (-1 * (g : Int)) = -a := by
      rw [ha, show (g : Int) * a = (-1 * (g : Int)) * (-a) by grind, Int.mul_fdiv_cancel_left _ (by omega)]
    have q2 : m.fdiv (-1 * (g : Int)) = -b := by
      rw [hb, show (g : Int) * b = (-1 * (g : Int)) * (-b) by grind, Int.mul_fdiv_cancel_left _ (by omega)]
    rw [q1, q2]
    refine ⟨?_, ?_⟩
    · rw [ha, show -1 * ((g : Int) * a) = g * (-a) by grind, Int.mul_ediv_cancel_left _ g0]
    · rw [e2]
      have hb0 : b < 0 := by
        have : (g : Int) * b < 0 := by omega
        by_cases q : b < 0
        · exact q
        · have : 0 ≤ (g : Int) * b := Int.mul_nonneg (by omega) (by omega)
          omega
      have e3 : m.natAbs = g * b.natAbs := by
        rw [hb, Int.natAbs_mul]
        simp
      rw [e3, Nat.mul_div_cancel_left _ gp]
      omega
  · have s : m.sign = 1 := Int.sign_eq_one_of_pos h
    rw [e1, s]
    have q1 : n.fdiv (1 * (g : Int)) = a := by
      rw [ha, Int.one_mul, Int.mul_fdiv_cancel_left _ g0]
    have q2 : m.fdiv (1 * (g : Int)) = b := by
      rw [hb, Int.one_mul, Int.mul_fdiv_cancel_left _ g0]
    rw [q1, q2]
    refine ⟨?_, ?_⟩
    · rw [ha, Int.one_mul, Int.mul_ediv_cancel_left _ g0]
    · rw [e2]
      have hb0 : 0 < b := by
        by_cases q : 0 < b
        · exact q
        · have : (g : Int) * b ≤ 0 := Int.mul_nonpos_of_nonneg_of_nonpos (by omega) (by omega)
          omega
      have e3 : m.natAbs = g * b.natAbs := by
        rw [hb, Int.natAbs_mul]
        simp
      rw [e3, Nat.mul_div_cancel_left _ gp]
      omega
theorem Sz.of {k : Nat} {n m : Int} (hn : n.natAbs < 2 ^ k) (hm : m.natAbs < 2 ^ k) (h0 : m ≠ 0) : Sz k (Rat.divInt n m) := by
  have gp : 0 < m.gcd n := Int.gcd_pos_of_ne_zero_left _ h0
  refine ⟨?_, ?_⟩
  · rw [Rat.num_divInt]
    refine Nat.lt_of_le_of_lt ?_ hn
    have d : ((m.gcd n : Nat) : Int) ∣ m.sign * n := Int.dvd_mul_of_dvd_right (Int.gcd_dvd_right ..)
    rw [Int.natAbs_ediv_of_dvd d]
    refine Nat.le_trans (Nat.div_le_self _ _) ?_
    rw [Int.natAbs_mul, Int.natAbs_sign_of_ne_zero h0]
    omega
  · rw [Rat.den_divInt, if_neg h0]
    exact Nat.lt_of_le_of_lt (Nat.div_le_self _ _) hm
theorem mul_in {k l : Nat} {i j : Int} (h : i.natAbs < 2 ^ k) (g : j.natAbs < 2 ^ l) (hk : k + l ≤ 134217728) : mulOk i j = true := by
  have a := PySem.intBits_le_iff.mpr h
  have b := PySem.intBits_le_iff.mpr g
  unfold mulOk
  rw [decide_eq_true (show Builtin.Int.intBits i + Builtin.Int.intBits j ≤ 134217728 by omega)]
  simp
theorem den_abs (x : Rat) : ((x.den : Int)).natAbs = x.den := by omega
theorem den_ne (x : Rat) : (x.den : Int) ≠ 0 := by
  have := x.den_nz
  omega
theorem den_gt (x : Rat) : (0 : Int) < x.den := by
  have := x.den_pos
  omega
theorem frac_add (x y : Rat) : Rat.divInt (x.num * y.den + y.num * x.den) (x.den * y.den) = x + y := by
  have h := Rat.divInt_add_divInt x.num y.num (den_ne x) (den_ne y)
  rw [Rat.num_divInt_den, Rat.num_divInt_den] at h
  exact h.symm
theorem frac_sub (x y : Rat) : Rat.divInt (x.num * y.den - y.num * x.den) (x.den * y.den) = x - y := by
  have h := Rat.divInt_sub_divInt x.num y.num (den_ne x) (den_ne y)
  rw [Rat.num_divInt_den, Rat.num_divInt_den] at h
  exact h.symm
theorem frac_mul (x y : Rat) : Rat.divInt (x.num * y.num) (x.den * y.den) = x * y := by
  have h := Rat.divInt_mul_divInt x.num y.num (d₁ := x.den) (d₂ := y.den)
  rw [Rat.num_divInt_den, Rat.num_divInt_den] at h
  exact h.symm
theorem frac_div (x y : Rat) : Rat.divInt (x.num * y.den) (x.den * y.num) = x / y := by
  have h := Rat.divInt_mul_divInt x.num y.den (d₁ := x.den) (d₂ := y.num)
  rw [Rat.num_divInt_den] at h
  rw [← h, Rat.div_def, Rat.inv_def]
theorem num_ne {x : Rat} (h : x ≠ 0) : x.num ≠ 0 := fun q => h (Rat.num_eq_zero.mp q)
theorem pow_mul_lt {a b k l : Nat} (h : a < 2 ^ k) (g : b < 2 ^ l) : a * b < 2 ^ (k + l) := by
  rw [Nat.pow_add]
  exact Nat.mul_lt_mul'' h g
theorem abs_mul {i j : Int} {k l : Nat} (h : i.natAbs < 2 ^ k) (g : j.natAbs < 2 ^ l) : (i * j).natAbs < 2 ^ (k + l) := by
  rw [Int.natAbs_mul]
  exact pow_mul_lt h g
theorem abs_den {x : Rat} {k : Nat} (h : Sz k x) : ((x.den : Int)).natAbs < 2 ^ k := by
  rw [den_abs]
  exact h.d
theorem Sz.add {k l : Nat} {x y : Rat} (h : Sz k x) (g : Sz l y) : Sz (k + l + 1) (x + y) := by
  rw [← frac_add]
  have a := abs_mul h.n (abs_den g)
  have b := abs_mul g.n (abs_den h)
  have c := abs_mul (abs_den h) (abs_den g)
  have e : l + k = k + l := Nat.add_comm ..
  rw [e] at b
  refine Sz.of ?_ ?_ (Int.mul_ne_zero (den_ne x) (den_ne y))
  · rw [Nat.pow_succ]
    omega
  · rw [Nat.pow_succ]
    omega
theorem Sz.sub {k l : Nat} {x y : Rat} (h : Sz k x) (g : Sz l y) : Sz (k + l + 1) (x - y) := by
  rw [← frac_sub]
  have a := abs_mul h.n (abs_den g)
  have b := abs_mul g.n (abs_den h)
  have c := abs_mul (abs_den h) (abs_den g)
  have e : l + k = k + l := Nat.add_comm ..
  rw [e] at b
  refine Sz.of ?_ ?_ (Int.mul_ne_zero (den_ne x) (den_ne y))
  · rw [Nat.pow_succ]
    omega
  · rw [Nat.pow_succ]
    omega
theorem Sz.mul {k l : Nat} {x y : Rat} (h : Sz k x) (g : Sz l y) : Sz (k + l) (x * y) := by
  rw [← frac_mul]
  exact Sz.of (abs_mul h.n g.n) (abs_mul (abs_den h) (abs_den g)) (Int.mul_ne_zero (den_ne x) (den_ne y))
theorem Sz.div {k l : Nat} {x y : Rat} (h : Sz k x) (g : Sz l y) (h0 : y ≠ 0) : Sz (k + l) (x / y) := by
  rw [← frac_div]
  exact Sz.of (abs_mul h.n (abs_den g)) (abs_mul (abs_den h) g.n) (Int.mul_ne_zero (den_ne x) (num_ne h0))
theorem Sz.int {k : Nat} {i : Int} (h : i.natAbs < 2 ^ k) (hk : 1 ≤ k) : Sz k (i : Rat) := ⟨by simpa using h, by
  rw [Rat.den_intCast]
  exact Nat.lt_of_lt_of_le (by decide : 1 < 2 ^ 1) (Nat.pow_le_pow_right (by decide) hk)⟩
theorem Sz.zero {k : Nat} (hk : 1 ≤ k) : Sz k 0 := by simpa using Sz.int (i := 0) (k := k) (by simpa using Nat.pow_pos (by decide)) hk
theorem Sz.one {k : Nat} (hk : 1 ≤ k) : Sz k 1 := by
  have h : (1 : Int).natAbs < 2 ^ k := Nat.lt_of_lt_of_le (by decide : 1 < 2 ^ 1) (Nat.pow_le_pow_right (by decide) hk)
  simpa using Sz.int (i := 1) h hk
/-- shown in bounds -/
theorem Nc.rq {p : Nat} (hp : 1 ≤ p) {x : Rat} (h : Sz 200 x) : Nc (201 * 2) (p + 1) (rq x) := by
  refine Nc.tup (n := 2) (fun y hy => ?_) (by simp)
  simp only [List.mem_cons, List.not_mem_nil, or_false] at hy
  rcases hy with rfl | rfl
  · exact Nc.int hp h.n
  · exact Nc.int hp (abs_den h)
/-- a pair that is a fraction -/
theorem rq_pair {n m : Int} (hm : 0 < m) (hg : Nat.gcd n.natAbs m.natAbs = 1) : rq (Rat.divInt n m) = .tuple [.int n, .int m] := by
  obtain ⟨e1, e2⟩ := low_num (n := n) (m := m) (by omega)
  rw [hg, Int.sign_eq_one_of_pos hm] at e1 e2
  have q1 : n.fdiv (1 * ((1 : Nat) : Int)) = n := by simp
  have q2 : m.fdiv (1 * ((1 : Nat) : Int)) = m := by simp
  rw [q1] at e1
  rw [q2] at e2
  show PyData.tuple [.int (Rat.divInt n m).num, .int ((Rat.divInt n m).den : Int)] = _
  rw [← e1, ← e2]
theorem rq_int (i : Int) : rq (i : Rat) = .tuple [.int i, .int 1] := rfl
theorem rq_zero : rq 0 = .tuple [.int 0, .int 1] := rfl
theorem rq_one : rq 1 = .tuple [.int 1, .int 1] := rfl
end R
end
section
/-! What the later laws draw, and how they lower fractions. -/
namespace R
open PySem L2
def bWell2 : Ss := (.cons (.asg (.nm 2) (.ite (.op2 .lt (.var 1) (.bi .len (.cons (.var 0) .nil))) (.bi .int (.cons (.ix (.var 0) (.var 1)) .nil)) (.op2 .add (.op2 .add (.op2 .mul (.cst (.int 6007)) (.var 1)) (.cst (.int 233))) (.op2 .mod (.bi .int (.cons (.bi .sum (.cons (.sl (.var 0) .none (.some (.cst (.int 6)))) .nil)) .nil)) (.cst (.int 1000003)))))) (.cons (.asg (.nm 3) (.op2 .add (.cst (.int 40009)) (.op2 .mul (.cst (.int 3251)) (.var 1)))) (.cons (.for_ (.nm 4) (.seq (.op2 .add (.sl (.var 0) .none (.some (.cst (.int 9)))) (.lst (.cons (.var 2) .nil)))) (.cons (.asg (.nm 3) (.op2 .mod (.bi .int (.cons (.op2 .add (.op2 .add (.op2 .mul (.var 3) (.cst (.int 16807))) (.op2 .mod (.bi .int (.cons (.var 4) .nil)) (.cst (.int 2147483549)))) (.cst (.int 41))) .nil)) (.cst (.int 2147483549)))) .nil)) (.cons (.ret (.new (.cons (.ite (.bools false (.cons (.op2 .ge (.var 2) (.op2 .pow (.cst (.int 10)) (.cst (.int 16)))) (.cons (.op2 .le (.var 2) (.op2 .sub (.cst (.int 0)) (.op2 .pow (.cst (.int 10)) (.cst (.int 16))))) .nil))) (.bi .abs (.cons (.var 2) .nil)) (.cst (.int 0))) (.cons (.var 3) (.cons (.cst (.int 0)) .nil))))) .nil))))
def bDraw2 : Ss := (.cons (.iff (.op2 .gt (.ix (.var 0) (.cst (.int 0))) (.cst (.int 0))) (.cons (.put2 0 (.cst (.int 0)) 3 (.bi .divmod (.cons (.ix (.var 0) (.cst (.int 0))) (.cons (.var 1) .nil)))) (.cons (.ret (.var 3)) .nil)) .nil) (.cons (.put 0 (.cst (.int 2)) (.op2 .add (.ix (.var 0) (.cst (.int 2))) (.cst (.int 1)))) (.cons (.asg (.nm 2) (.op2 .mod (.bi .int (.cons (.op2 .add (.op2 .add (.op2 .mul (.ix (.var 0) (.cst (.int 1))) (.cst (.int 39373))) (.op2 .mul (.ix (.var 0) (.cst (.int 2))) (.cst (.int 71993)))) (.cst (.int 11))) .nil)) (.cst (.int 2147483543)))) (.cons (.put 0 (.cst (.int 1)) (.op2 .mod (.bi .int (.cons (.op2 .add (.op2 .mul (.var 2) (.op2 .add (.op2 .mul (.cst (.int 2)) (.op2 .fdiv (.var 2) (.cst (.int 29)))) (.cst (.int 14009)))) (.ix (.var 0) (.cst (.int 2)))) .nil)) (.cst (.int 2147483549)))) (.cons (.ret (.op2 .mod (.bi .int (.cons (.op2 .fdiv (.ix (.var 0) (.cst (.int 1))) (.cst (.int 113))) .nil)) (.var 1))) .nil)))))
def bLow2 : Ss := (.cons (.par [2, 3] [.val (.bi .abs (.cons (.var 0) .nil)), .val (.bi .abs (.cons (.var 1) .nil))]) (.cons (.whl (.op2 .gt (.var 3) (.cst (.int 0))) (.cons (.par [2, 3] [.val (.var 3), .val (.op2 .mod (.bi .int (.cons (.var 2) .nil)) (.var 3))]) .nil)) (.cons (.asg (.nm 2) (.ite (.op2 .gt (.var 1) (.cst (.int 0))) (.var 2) (.op2 .sub (.cst (.int 0)) (.var 2)))) (.cons (.ret (.tup (.cons (.op2 .fdiv (.var 0) (.var 2)) (.cons (.op2 .fdiv (.var 1) (.var 2)) .nil)))) .nil))))
theorem draw2_ok {G : List PyData} {F : Fns} {np : Nat → Nat} {nm : Str} {x1 x2 x3 x4 : Str} {n : Nat} {w : Wd} {m : Int} (hw : Wl n w) (h1 : 1 ≤ m) (h2 : m < 1073741824) :
    ∃ (k : Int) (w' : Wd), runD G F np ⟨nm, [x1, x2], [x1, x2, x3, x4], bDraw2⟩ [.loc n, .d (.int m)] w = .ok (.d (.int k)) w' ∧ 0 ≤ k ∧ k < m ∧ Wl n w' ∧ w'.length = w.length := by
  obtain ⟨a, b, c, hn, ha, hb, hb2, hc⟩ := hw
  by_cases h : 0 < a
  · refine ⟨a % m, w.set n [a / m, b, c], ?_, Int.emod_nonneg _ (by omega), Int.emod_lt_of_pos _ (by omega), ⟨a / m, b, c, set_same hn, Int.ediv_nonneg ha (by omega), hb, hb2, hc⟩, by simp⟩
    simp [runD, bDraw2, getV, hn, op2V, gtV, h, biV, h2, show 0 < m by omega, slotPut, demE, esc, escW, escV]
  · have a0 : a = 0 := by omega
    subst a0
    generalize hf : (b * 39373 + (c + 1) * 71993 + 11) % 2147483543 = f
    generalize hb3 : (f * (2 * (f / 29) + 14009) + (c + 1)) % 2147483549 = b2
    have f1 : 0 ≤ f := by rw [← hf]; exact Int.emod_nonneg _ (by decide)
    have f2 : f < 2147483543 := by rw [← hf]; exact Int.emod_lt_of_pos _ (by decide)
    have p1 : 0 ≤ b2 := by rw [← hb3]; exact Int.emod_nonneg _ (by decide)
    have p2 : b2 < 2147483549 := by rw [← hb3]; exact Int.emod_lt_of_pos _ (by decide)
    refine ⟨b2 / 113 % m, (w.set n [0, b, c + 1]).set n [0, b2, c + 1], ?_, Int.emod_nonneg _ (by omega), Int.emod_lt_of_pos _ (by omega), ⟨0, b2, c + 1, set_same (set_same hn), Int.le_refl _, p1, p2, by omega⟩, by simp⟩
    have s1 : (w.set n [0, b, c + 1])[n]? = some [0, b, c + 1] := set_same hn
    have s2 : (w.set n [0, b2, c + 1])[n]? = some [0, b2, c + 1] := set_same hn
    have m1 : mulV (.int b) (.int 39373) = some (.int (b * 39373)) := mul_r (by decide)
    have m2 : mulV (.int (c + 1)) (.int 71993) = some (.int ((c + 1) * 71993)) := mul_r (by decide)
    have m3 : mulV (.int 2) (.int (f / 29)) = some (.int (2 * (f / 29))) := mul_l (by decide)
    have m4 : mulV (.int f) (.int (2 * (f / 29) + 14009)) = some (.int (f * (2 * (f / 29) + 14009))) := mul_l (by omega)
    have d1 : fdivV (.int f) (.int 29) = some (.int (f / 29)) := fdiv_p (by decide) (by decide)
    have d2 : fdivV (.int b2) (.int 113) = some (.int (b2 / 113)) := fdiv_p (by decide) (by decide)
    have r1 : modV (.int (b * 39373 + (c + 1) * 71993 + 11)) (.int 2147483543) = some (.int f) := by rw [fmod_p (by decide), hf]
    have r2 : modV (.int (f * (2 * (f / 29) + 14009) + (c + 1))) (.int 2147483549) = some (.int b2) := by rw [fmod_p (by decide), hb3]
    have r3 : modV (.int (b2 / 113)) (.int m) = some (.int (b2 / 113 % m)) := fmod_p (by omega)
    simp [runD, bDraw2, getV, hn, op2V, gtV, biV, slotPut, demE, esc, escW, escV, addV, d1, r1, m1, s1, s2, m2, m3, m4, r2, d2, r3]
theorem low2_ok {G : List PyData} {F : Fns} {np : Nat → Nat} {nm x1 x2 x3 x4 : Str} {w : Wd} {n m : Int} (hm : m ≠ 0) (hb : m.natAbs < 2 ^ 9000) :
    runD G F np ⟨nm, [x1, x2], [x1, x2, x3, x4], bLow2⟩ [.d (.int n), .d (.int m)] w = .ok (.d (rq (Rat.divInt n m))) w := by
  have an : (if n < 0 then -n else n) = (n.natAbs : Int) := by split <;> omega
  have am : (if m < 0 then -m else m) = (m.natAbs : Int) := by split <;> omega
  have L := low_loop (G := G) (F := F) (np := np) (s1 := .val (.d (.int n))) (s2 := .val (.d (.int m))) (w := w) _ (n.natAbs : Int) (m.natAbs : Int) rfl (by omega) (by omega)
  have gp : 0 < Nat.gcd n.natAbs m.natAbs := Nat.gcd_pos_of_pos_right _ (by omega)
  have gl : Nat.gcd n.natAbs m.natAbs ≤ m.natAbs := Nat.gcd_le_right _ (by omega)
  have lg : (Nat.gcd n.natAbs m.natAbs).log2 < 9000 := (Nat.log2_lt (by omega)).mpr (Nat.lt_of_le_of_lt gl hb)
  obtain ⟨e1, e2⟩ := low_num (n := n) hm
  simp only [Int.natAbs_natCast] at L
  generalize hg : Nat.gcd n.natAbs m.natAbs = g at *
  by_cases h : 0 < m
  · have s : m.sign = 1 := Int.sign_eq_one_of_pos h
    rw [s, Int.one_mul] at e1 e2
    have d1 : fdivV (.int n) (.int g) = some (.int (Rat.divInt n m).num) := by
      rw [← e1]
      simp [fdivV, lg]
      omega
    have d2 : fdivV (.int m) (.int g) = some (.int (Rat.divInt n m).den) := by
      rw [← e2]
      simp [fdivV, lg]
      omega
    simp [runD, bLow2, getV, biV, an, am, escP, Pc.esc, esc, escW, escV, setP, demE, L, op2V, gtV, h, d1, d2]
  · have s : m.sign = -1 := Int.sign_eq_neg_one_of_neg (by omega)
    rw [s] at e1 e2
    have s0 : (-1 * (g : Int)) = 0 - g := by omega
    rw [s0] at e1 e2
    have d1 : fdivV (.int n) (.int (0 - g)) = some (.int (Rat.divInt n m).num) := by
      rw [← e1]
      have : (0 - (g : Int)).natAbs = g := by omega
      simp only [fdivV, this]
      simp [lg]
      omega
    have d2 : fdivV (.int m) (.int (0 - g)) = some (.int (Rat.divInt n m).den) := by
      rw [← e2]
      have : (0 - (g : Int)).natAbs = g := by omega
      simp only [fdivV, this]
      simp [lg]
      omega
    rw [Int.zero_sub] at d1 d2
    simp [runD, bLow2, getV, biV, an, am, escP, Pc.esc, esc, escW, escV, setP, demE, L, op2V, gtV, subV, h, d1, d2]
def eOwn2 : E := (.ite (.op2 .lt (.var 1) (.bi .len (.cons (.var 0) .nil))) (.bi .int (.cons (.ix (.var 0) (.var 1)) .nil)) (.op2 .add (.op2 .add (.op2 .mul (.cst (.int 6007)) (.var 1)) (.cst (.int 233))) (.op2 .mod (.bi .int (.cons (.bi .sum (.cons (.sl (.var 0) .none (.some (.cst (.int 6)))) .nil)) .nil)) (.cst (.int 1000003)))))
def bLoop2 : Ss := (.cons (.asg (.nm 3) (.op2 .mod (.bi .int (.cons (.op2 .add (.op2 .add (.op2 .mul (.var 3) (.cst (.int 16807))) (.op2 .mod (.bi .int (.cons (.var 4) .nil)) (.cst (.int 2147483549)))) (.cst (.int 41))) .nil)) (.cst (.int 2147483549)))) .nil)
theorem well2_ok {G : List PyData} {F : Fns} {np : Nat → Nat} {nm x1 x2 x3 x4 x5 : Str} {ns : List Int} {t : Int} {w : Wd} (hz : ns.length ≤ 1000) (ht : 0 ≤ t) :
    ∃ w', runD G F np ⟨nm, [x1, x2], [x1, x2, x3, x4, x5], bWell2⟩ [.d (.list (ns.map .int)), .d (.int t)] w = .ok (.loc w.length) w' ∧ Wl w.length w' ∧ w'.length = w.length + 1 := by
  have own : ∃ o : Int, ev G F np [.val (.d (.list (ns.map .int))), .val (.d (.int t)), .non, .non, .non] eOwn2 w = .ok (.d (.int o)) w := by
    by_cases hl : t < ns.length
    · have ha : at? (ns.map PyData.int) t = some (.int ns[t.toNat]) := by
        unfold at?
        rw [if_pos ht, List.getElem?_map, List.getElem?_eq_getElem (by omega)]
        rfl
      exact ⟨ns[t.toNat], by simp [eOwn2, getV, biV, asSeq, op2V, ltV, hl, ixV, ha]⟩
    · have r : modV (.int (cut ns none (some 6)).sum) (.int 1000003) = some (.int ((cut ns none (some 6)).sum % 1000003)) := fmod_p (by decide)
      have m : mulV (.int 6007) (.int t) = some (.int (6007 * t)) := mul_l (by decide)
      exact ⟨6007 * t + 233 + (cut ns none (some 6)).sum % 1000003, by simp [eOwn2, getV, biV, asSeq, op2V, ltV, hl, m, addV, bound?, slV, cut_map, asInts_map, r]⟩
  obtain ⟨o, own⟩ := own
  have he : demE [.val (.d (.list (ns.map .int))), .val (.d (.int t)), .non, .non, .non] (esc eOwn2) = [.val (.d (.list (ns.map .int))), .val (.d (.int t)), .non, .non, .non] := by simp [eOwn2, demE, esc, escV, escW]
  have L : ∃ fl w1, forR (forT G F np (.nm 4) bLoop2) ((cut ns none (some 9) ++ [o]).map .int) [.val (.d (.list (ns.map .int))), .val (.d (.int t)), .val (.d (.int o)), .val (.d (.int (40009 + 3251 * t))), .non] w = .ok fl w1 ∧
      (w1 = w ∧ ∃ (s : Int) (sl : Slot), fl = .nx [.val (.d (.list (ns.map .int))), .val (.d (.int t)), .val (.d (.int o)), .val (.d (.int s)), sl] ∧ 0 ≤ s ∧ s < 2147483549) := by
    refine wp_run fun Q hQ => ?_
    refine wp_forP PyData.int (fun (done : List Int) env w1 => w1 = w ∧ ∃ (s : Int) (sl : Slot), env = [.val (.d (.list (ns.map .int))), .val (.d (.int t)), .val (.d (.int o)), .val (.d (.int s)), sl] ∧ (done ≠ [] → 0 ≤ s ∧ s < 2147483549)) [] ⟨rfl, _, _, rfl, fun h => absurd rfl h⟩ ?_ ?_
    · rintro d k r _ env w1 ⟨rfl, s, sl, rfl, hs⟩ Q hQ
      have r1 : modV (.int k) (.int 2147483549) = some (.int (k % 2147483549)) := fmod_p (by decide)
      have r2 : modV (.int (s * 16807 + k % 2147483549 + 41)) (.int 2147483549) = some (.int ((s * 16807 + k % 2147483549 + 41) % 2147483549)) := fmod_p (by decide)
      have m1 : mulV (.int s) (.int 16807) = some (.int (s * 16807)) := mul_r (by decide)
      have q := hQ [.val (.d (.list (ns.map .int))), .val (.d (.int t)), .val (.d (.int o)), .val (.d (.int ((s * 16807 + k % 2147483549 + 41) % 2147483549))), .val (.d (.int k))] w1 ⟨rfl, _, _, rfl, fun _ => ⟨Int.emod_nonneg _ (by decide), Int.emod_lt_of_pos _ (by decide)⟩⟩
      simpa [forT, bLoop2, getV, op2V, m1, biV, r1, addV, r2, demE, esc, escV, escW] using q
    · rintro env w1 ⟨rfl, s, sl, rfl, hs⟩
      exact hQ _ _ ⟨rfl, s, sl, rfl, hs (by simp)⟩
  obtain ⟨fl, w', hf, rfl, s, sl, rfl, s0, s1⟩ := L
  have m4 : mulV (.int 3251) (.int t) = some (.int (3251 * t)) := mul_l (by decide)
  have cm : slV (.list (ns.map .int)) none (some 9) = some (.list ((cut ns none (some 9)).map .int)) := by simp only [slV, cut_map]
  have pw : powV (.int 10) (.int 16) = some (.int 10000000000000000) := by simp [powV]
  have lc : (cut ns none (some 9)).length ≤ 9 := by
    simp [cut, slIx]
    omega
  have ad : addV (.list ((cut ns none (some 9)).map .int)) (.list [.int o]) = some (.list ((cut ns none (some 9) ++ [o]).map .int)) := by
    have : fits (((cut ns none (some 9)).map PyData.int).length + [PyData.int o].length) = true := by
      simp [fits, sizeLine]
      omega
    simp only [addV, this, if_true, List.map_append, List.map_cons, List.map_nil]
  generalize (cut ns none (some 9) ++ [o]).map PyData.int = lst at hf ad
  have adI : ∀ i j : Int, addV (.int i) (.int j) = some (.int (i + j)) := fun _ _ => rfl
  have e1 : bWell2 = (.cons (.asg (.nm 2) eOwn2) (.cons (.asg (.nm 3) (.op2 .add (.cst (.int 40009)) (.op2 .mul (.cst (.int 3251)) (.var 1)))) (.cons (.for_ (.nm 4) (.seq (.op2 .add (.sl (.var 0) .none (.some (.cst (.int 9)))) (.lst (.cons (.var 2) .nil)))) bLoop2) (.cons (.ret (.new (.cons (.ite (.bools false (.cons (.op2 .ge (.var 2) (.op2 .pow (.cst (.int 10)) (.cst (.int 16)))) (.cons (.op2 .le (.var 2) (.op2 .sub (.cst (.int 0)) (.op2 .pow (.cst (.int 10)) (.cst (.int 16))))) .nil))) (.bi .abs (.cons (.var 2) .nil)) (.cst (.int 0))) (.cons (.var 3) (.cons (.cst (.int 0)) .nil))))) .nil)))) := rfl
  refine ⟨w' ++ [[if 10000000000000000 ≤ o ∨ o ≤ -10000000000000000 then (if o < 0 then -o else o) else 0, s, 0]], ?_, ⟨_, _, _, by rw [List.getElem?_append_right (Nat.le_refl _), Nat.sub_self]; rfl, ?_, s0, s1, Int.le_refl _⟩, by simp⟩
  · rw [e1]
    by_cases a1 : 10000000000000000 ≤ o
    · simp [runD, own, he, m4, op2V, adI, bound?, cm, ad, asSeq, demE, esc, escs, escV, escW, escI, hf, getV, biV, geV, leV, subV, pw, a1, asInts]
    · by_cases a2 : o ≤ -10000000000000000
      · simp [runD, own, he, m4, op2V, adI, bound?, cm, ad, asSeq, demE, esc, escs, escV, escW, escI, hf, getV, biV, geV, leV, subV, pw, a1, a2, asInts]
      · simp [runD, own, he, m4, op2V, adI, bound?, cm, ad, asSeq, demE, esc, escs, escV, escW, escI, hf, getV, biV, geV, leV, subV, pw, a1, a2, asInts]
  · split
    · split <;> omega
    · exact Int.le_refl _
end R
end
section
namespace Lk41
open PySem L2 R
abbrev row : PySem.W.OpenLaw := PySem.Challenge.rw_surefinds_k41_whole_shares_and_worths
abbrev prog : PySem.Program := (PySem.W.OpenLaw.row row).prog
def top (i : Nat) : Stmt := prog.main.body.getD i (.Pass ⟨0, 0, 0, 0⟩)

def b_0 : Ss := (.cons (.ret (.bools true (.cons (.isi .int (.var 0)) (.cons (.no (.isi .bool (.var 0))) .nil)))) .nil)
def b_1 : Ss := (.cons (.ret (.bools true (.cons (.isi .tuple (.var 0)) (.cons (.op2 .eq (.bi .len (.cons (.var 0) .nil)) (.var 1)) (.cons (.bi .all (.cons (.lc [2] (.call 0 (.cons (.var 2) .nil)) (.nm 2) (.seq (.var 0)) .nil) .nil)) .nil))))) .nil)
def b_2 : Ss := (.cons (.ret (.bools true (.cons (.call 0 (.cons (.var 0) .nil)) (.cons (.chain .le .le (.var 1) (.var 0) (.var 2)) .nil)))) .nil)
def b_3 : Ss := (.cons (.ret (.bools true (.cons (.call 1 (.cons (.var 0) (.cons (.cst (.int 2)) .nil))) (.cons (.op2 .gt (.ix (.var 0) (.cst (.int 1))) (.cst (.int 0))) (.cons (.op2 .eq (.bi .gcd (.cons (.ix (.var 0) (.cst (.int 0))) (.cons (.ix (.var 0) (.cst (.int 1))) .nil))) (.cst (.int 1))) .nil))))) .nil)
def b_4 : Ss := (.cons (.ret (.bools true (.cons (.call 3 (.cons (.var 0) .nil)) (.cons (.chain .le .le (.cst (.int 0)) (.ix (.var 0) (.cst (.int 0))) (.ix (.var 0) (.cst (.int 1)))) .nil)))) .nil)
def b_5 : Ss := (.cons (.asg (.nm 2) (.ite (.op2 .gt (.var 1) (.cst (.int 0))) (.bi .gcd (.cons (.var 0) (.cons (.var 1) .nil))) (.neg (.bi .gcd (.cons (.var 0) (.cons (.var 1) .nil)))))) (.cons (.ret (.tup (.cons (.op2 .fdiv (.var 0) (.var 2)) (.cons (.op2 .fdiv (.var 1) (.var 2)) .nil)))) .nil))
def b_6 : Ss := (.cons (.ret (.op2 .lt (.op2 .mul (.ix (.var 0) (.cst (.int 0))) (.ix (.var 1) (.cst (.int 1)))) (.op2 .mul (.ix (.var 1) (.cst (.int 0))) (.ix (.var 0) (.cst (.int 1)))))) .nil)
def b_7 : Ss := (.cons (.iff (.bools false (.cons (.no (.isi .tuple (.var 1))) (.cons (.op2 .ne (.bi .len (.cons (.var 1) .nil)) (.var 0)) .nil))) (.cons .nev .nil) .nil) (.cons (.for_ (.tup (.cons (.nm 2) (.cons (.nm 3) .nil))) (.enm (.var 1)) (.cons (.iff (.no (.call 4 (.cons (.var 3) .nil))) (.cons .nev .nil) .nil) .nil)) .nil))
def b_8 : Ss := (.cons (.iff (.bools false (.cons (.no (.isi .tuple (.var 1))) (.cons (.no (.chain .le .le (.cst (.int 1)) (.bi .len (.cons (.var 1) .nil)) (.glob 2))) (.cons (.op2 .nin (.var 0) (.tup (.cons (.cst .none) (.cons (.bi .len (.cons (.var 1) .nil)) .nil)))) .nil)))) (.cons .nev .nil) .nil) (.cons (.for_ (.tup (.cons (.nm 2) (.cons (.nm 3) .nil))) (.enm (.var 1)) (.cons (.iff (.bools false (.cons (.no (.call 4 (.cons (.var 3) .nil))) (.cons (.op2 .eq (.var 3) (.glob 1)) (.cons (.bools true (.cons (.op2 .gt (.var 2) (.cst (.int 0))) (.cons (.call 6 (.cons (.var 3) (.cons (.ix (.var 1) (.op2 .sub (.var 2) (.cst (.int 1)))) .nil))) .nil))) .nil)))) (.cons .nev .nil) .nil) .nil)) .nil))
def b_9 : Ss := (.cons (.iff (.bools false (.cons (.no (.isi .tuple (.var 1))) (.cons (.op2 .eq (.var 1) (.tup .nil)) (.cons (.no (.bi .all (.cons (.lc [4] (.call 2 (.cons (.var 4) (.cons (.cst (.int 0)) (.cons (.op2 .sub (.var 0) (.cst (.int 1))) .nil)))) (.nm 4) (.seq (.var 1)) .nil) .nil))) .nil)))) (.cons (.ret (.cst (.bool false))) .nil) .nil) (.cons (.ret (.bi .all (.cons (.lc [2, 3] (.op2 .lt (.var 2) (.var 3)) (.tup (.cons (.nm 2) (.cons (.nm 3) .nil))) (.zip (.var 1) (.sl (.var 1) (.some (.cst (.int 1))) .none)) .nil) .nil))) .nil))
def b_10 : Ss := (.cons (.iff (.no (.call 9 (.cons (.var 0) (.cons (.var 1) .nil)))) (.cons .nev .nil) .nil) .nil)
def b_11 : Ss := (.cons (.ret (.bi .sorted (.cons (.lc2 [1, 2] [2] (.var 2) (.nm 1) (.rng2 (.cst (.int 1)) (.op2 .add (.bi .len (.cons (.var 0) .nil)) (.cst (.int 1)))) (.nm 2) (.comb (.var 0) (.var 1))) .nil))) .nil)
def b_12 : Ss := (.cons (.ret (.bi .tuple (.cons (.lc [2] (.get 1 (.var 2)) (.nm 2) (.rng1 (.var 0)) .nil) .nil))) .nil)
def b_13 : Ss := (.cons (.own 1 (.lst .nil)) (.cons (.for_ (.nm 2) (.seq (.var 0)) (.cons (.mut .ins 1 (.cons (.bi .len (.cons (.lc [3] (.var 3) (.nm 3) (.seq (.var 1)) (.cons (.no (.call 6 (.cons (.var 2) (.cons (.var 3) .nil)))) .nil)) .nil)) (.cons (.var 2) .nil))) .nil)) (.cons (.ret (.var 1)) .nil)))
def b_14 : Ss := (.cons (.iff (.op2 .eq (.var 1) (.cst (.int 0))) (.cons (.ret (.tup .nil)) .nil) .nil) (.cons (.asg (.nm 2) (.ix (.call 13 (.cons (.var 0) .nil)) (.op2 .sub (.var 1) (.cst (.int 1))))) (.cons (.ret (.bi .tuple (.cons (.lc [3, 4] (.var 3) (.tup (.cons (.nm 3) (.cons (.nm 4) .nil))) (.enm (.var 0)) (.cons (.no (.call 6 (.cons (.var 2) (.cons (.var 4) .nil)))) .nil)) .nil))) .nil)))
def b_15 : Ss := (.cons (.asg (.nm 2) (.lc [3, 4, 5] (.op2 .add (.var 3) (.cst (.int 1))) (.tup (.cons (.nm 3) (.cons (.tup (.cons (.nm 4) (.cons (.nm 5) .nil))) .nil))) (.ezp (.call 13 (.cons (.var 0) .nil)) (.var 1)) (.cons (.no (.call 6 (.cons (.var 5) (.cons (.var 4) .nil)))) .nil))) (.cons (.ret (.ite (.op2 .ne (.var 2) (.lst .nil)) (.ix (.var 2) (.neg (.cst (.int 1)))) (.cst (.int 0)))) .nil))
def b_16 : Ss := (.cons (.asg (.nm 3) (.call 14 (.cons (.var 0) (.cons (.call 15 (.cons (.var 0) (.cons (.var 1) .nil))) .nil)))) (.cons (.ret (.ite (.op2 .ne (.var 3) (.tup .nil)) (.call 5 (.cons (.bi .len (.cons (.lc [4] (.var 4) (.nm 4) (.seq (.var 3)) (.cons (.op2 .inn (.var 4) (.var 2)) .nil)) .nil)) (.cons (.bi .len (.cons (.var 3) .nil)) .nil))) (.glob 0))) .nil))
def b_17 : Ss := (.cons (.par [3, 4] [.val (.bi .len (.cons (.var 0) .nil)), .own (.lst .nil)]) (.cons (.for_ (.nm 2) (.rng1 (.op2 .add (.op2 .sub (.var 3) (.bi .len (.cons (.var 1) .nil))) (.cst (.int 1)))) (.cons (.for_ (.nm 5) (.seq (.call 11 (.cons (.var 1) .nil))) (.cons (.asg (.nm 6) (.ix (.var 0) (.op2 .sub (.op2 .add (.bi .len (.cons (.var 5) .nil)) (.var 2)) (.cst (.int 1))))) (.cons (.asg (.nm 7) (.call 5 (.cons (.bi .len (.cons (.var 5) .nil)) (.cons (.op2 .add (.bi .len (.cons (.var 5) .nil)) (.var 2)) .nil)))) (.cons (.mut .app 4 (.cons (.tup (.cons (.call 12 (.cons (.var 3) (.cons (.dcv 8 (.var 5) 6) .nil))) (.cons (.var 7) .nil))) .nil)) .nil)))) .nil)) (.cons (.ret (.bi .tuple (.cons (.var 4) .nil))) .nil)))
def b_18 : Ss := (.cons (.iff (.bools false (.cons (.no (.isi .tuple (.var 0))) (.cons (.no (.chain .le .le (.cst (.int 1)) (.bi .len (.cons (.var 0) .nil)) (.glob 2))) .nil))) (.cons .nev .nil) .nil) (.cons (.expr (.call 7 (.cons (.bi .len (.cons (.var 0) .nil)) (.cons (.var 0) .nil)))) .nil))
def b_19 : Ss := (.cons (.expr (.call 18 (.cons (.var 0) .nil))) (.cons (.expr (.call 8 (.cons (.bi .len (.cons (.var 0) .nil)) (.cons (.var 1) .nil)))) (.cons (.expr (.call 10 (.cons (.bi .len (.cons (.var 0) .nil)) (.cons (.var 2) .nil)))) (.cons (.ret (.call 16 (.cons (.var 0) (.cons (.var 1) (.cons (.var 2) .nil))))) .nil))))
def b_20 : Ss := (.cons (.expr (.call 8 (.cons (.cst .none) (.cons (.var 0) .nil)))) (.cons (.expr (.call 10 (.cons (.bi .len (.cons (.var 0) .nil)) (.cons (.var 1) .nil)))) (.cons (.ret (.call 17 (.cons (.var 0) (.cons (.var 1) .nil)))) .nil)))
def b_21 : Ss := (.cons (.asg (.nm 2) (.ite (.op2 .lt (.var 1) (.bi .len (.cons (.var 0) .nil))) (.bi .int (.cons (.ix (.var 0) (.var 1)) .nil)) (.op2 .add (.op2 .add (.op2 .mul (.cst (.int 6007)) (.var 1)) (.cst (.int 233))) (.op2 .mod (.bi .int (.cons (.bi .sum (.cons (.sl (.var 0) .none (.some (.cst (.int 6)))) .nil)) .nil)) (.cst (.int 1000003)))))) (.cons (.asg (.nm 3) (.op2 .add (.cst (.int 40009)) (.op2 .mul (.cst (.int 3251)) (.var 1)))) (.cons (.for_ (.nm 4) (.seq (.op2 .add (.sl (.var 0) .none (.some (.cst (.int 9)))) (.lst (.cons (.var 2) .nil)))) (.cons (.asg (.nm 3) (.op2 .mod (.bi .int (.cons (.op2 .add (.op2 .add (.op2 .mul (.var 3) (.cst (.int 16807))) (.op2 .mod (.bi .int (.cons (.var 4) .nil)) (.cst (.int 2147483549)))) (.cst (.int 41))) .nil)) (.cst (.int 2147483549)))) .nil)) (.cons (.ret (.new (.cons (.ite (.bools false (.cons (.op2 .ge (.var 2) (.op2 .pow (.cst (.int 10)) (.cst (.int 16)))) (.cons (.op2 .le (.var 2) (.op2 .sub (.cst (.int 0)) (.op2 .pow (.cst (.int 10)) (.cst (.int 16))))) .nil))) (.bi .abs (.cons (.var 2) .nil)) (.cst (.int 0))) (.cons (.var 3) (.cons (.cst (.int 0)) .nil))))) .nil))))
def b_22 : Ss := (.cons (.iff (.op2 .gt (.ix (.var 0) (.cst (.int 0))) (.cst (.int 0))) (.cons (.put2 0 (.cst (.int 0)) 3 (.bi .divmod (.cons (.ix (.var 0) (.cst (.int 0))) (.cons (.var 1) .nil)))) (.cons (.ret (.var 3)) .nil)) .nil) (.cons (.put 0 (.cst (.int 2)) (.op2 .add (.ix (.var 0) (.cst (.int 2))) (.cst (.int 1)))) (.cons (.asg (.nm 2) (.op2 .mod (.bi .int (.cons (.op2 .add (.op2 .add (.op2 .mul (.ix (.var 0) (.cst (.int 1))) (.cst (.int 39373))) (.op2 .mul (.ix (.var 0) (.cst (.int 2))) (.cst (.int 71993)))) (.cst (.int 11))) .nil)) (.cst (.int 2147483543)))) (.cons (.put 0 (.cst (.int 1)) (.op2 .mod (.bi .int (.cons (.op2 .add (.op2 .mul (.var 2) (.op2 .add (.op2 .mul (.cst (.int 2)) (.op2 .fdiv (.var 2) (.cst (.int 29)))) (.cst (.int 14009)))) (.ix (.var 0) (.cst (.int 2)))) .nil)) (.cst (.int 2147483549)))) (.cons (.ret (.op2 .mod (.bi .int (.cons (.op2 .fdiv (.ix (.var 0) (.cst (.int 1))) (.cst (.int 113))) .nil)) (.var 1))) .nil)))))
def b_23 : Ss := (.cons (.ret (.ix (.var 1) (.call 22 (.cons (.var 0) (.cons (.bi .len (.cons (.var 1) .nil)) .nil))))) .nil)
def b_24 : Ss := (.cons (.par [2, 3] [.val (.bi .abs (.cons (.var 0) .nil)), .val (.bi .abs (.cons (.var 1) .nil))]) (.cons (.whl (.op2 .gt (.var 3) (.cst (.int 0))) (.cons (.par [2, 3] [.val (.var 3), .val (.op2 .mod (.bi .int (.cons (.var 2) .nil)) (.var 3))]) .nil)) (.cons (.asg (.nm 2) (.ite (.op2 .gt (.var 1) (.cst (.int 0))) (.var 2) (.op2 .sub (.cst (.int 0)) (.var 2)))) (.cons (.ret (.tup (.cons (.op2 .fdiv (.var 0) (.var 2)) (.cons (.op2 .fdiv (.var 1) (.var 2)) .nil)))) .nil))))
def b_25 : Ss := (.cons (.ret (.call 24 (.cons (.op2 .add (.op2 .mul (.ix (.var 0) (.cst (.int 0))) (.ix (.var 1) (.cst (.int 1)))) (.op2 .mul (.ix (.var 1) (.cst (.int 0))) (.ix (.var 0) (.cst (.int 1))))) (.cons (.op2 .mul (.ix (.var 0) (.cst (.int 1))) (.ix (.var 1) (.cst (.int 1)))) .nil)))) .nil)
def b_26 : Ss := (.cons (.ret (.call 24 (.cons (.op2 .sub (.op2 .mul (.ix (.var 0) (.cst (.int 0))) (.ix (.var 1) (.cst (.int 1)))) (.op2 .mul (.ix (.var 1) (.cst (.int 0))) (.ix (.var 0) (.cst (.int 1))))) (.cons (.op2 .mul (.ix (.var 0) (.cst (.int 1))) (.ix (.var 1) (.cst (.int 1)))) .nil)))) .nil)
def b_27 : Ss := (.cons (.ret (.call 24 (.cons (.op2 .mul (.ix (.var 0) (.cst (.int 0))) (.ix (.var 1) (.cst (.int 0)))) (.cons (.op2 .mul (.ix (.var 0) (.cst (.int 1))) (.ix (.var 1) (.cst (.int 1)))) .nil)))) .nil)
def b_28 : Ss := (.cons (.ret (.op2 .lt (.op2 .mul (.ix (.var 0) (.cst (.int 0))) (.ix (.var 1) (.cst (.int 1)))) (.op2 .mul (.ix (.var 1) (.cst (.int 0))) (.ix (.var 0) (.cst (.int 1)))))) .nil)
def b_29 : Ss := (.cons (.ret (.ite (.call 28 (.cons (.var 0) (.cons (.var 1) .nil))) (.var 1) (.var 0))) .nil)
def b_30 : Ss := (.cons (.asg (.nm 1) (.lst (.cons (.tup .nil) .nil))) (.cons (.for_ (.nm 2) (.seq (.var 0)) (.cons (.asg (.nm 1) (.op2 .add (.var 1) (.lc [3] (.op2 .add (.var 3) (.tup (.cons (.var 2) .nil))) (.nm 3) (.seq (.var 1)) .nil))) .nil)) (.cons (.ret (.sl (.bi .sorted (.cons (.var 1) .nil)) (.some (.cst (.int 1))) .none)) .nil)))
def b_31 : Ss := (.cons (.ret (.call 30 (.cons (.rngV false (.var 0)) .nil))) .nil)
def b_32 : Ss := (.cons (.asg (.nm 1) (.call 23 (.cons (.var 0) (.cons (.tup (.cons (.cst (.int 2)) (.cons (.cst (.int 3)) (.cons (.cst (.int 4)) (.cons (.cst (.int 10)) (.cons (.cst (.int 20)) (.cons (.cst (.int 60)) (.cons (.cst (.int 7)) (.cons (.cst (.int 1)) (.cons (.cst (.int 997)) (.cons (.op2 .pow (.cst (.int 10)) (.cst (.int 9))) .nil))))))))))) .nil)))) (.cons (.ret (.call 24 (.cons (.call 22 (.cons (.var 0) (.cons (.op2 .add (.var 1) (.cst (.int 1))) .nil))) (.cons (.var 1) .nil)))) .nil))
def b_33 : Ss := (.cons (.asg (.nm 2) (.call 22 (.cons (.var 0) (.cons (.cst (.int 9)) .nil)))) (.cons (.iff (.bools false (.cons (.op2 .lt (.var 2) (.cst (.int 2))) (.cons (.op2 .eq (.var 1) (.lst .nil)) .nil))) (.cons (.ret (.call 32 (.cons (.var 0) .nil))) .nil) .nil) (.cons (.asg (.nm 3) (.call 23 (.cons (.var 0) (.cons (.var 1) .nil)))) (.cons (.iff (.op2 .lt (.var 2) (.cst (.int 6))) (.cons (.ret (.var 3)) .nil) .nil) (.cons (.asg (.nm 4) (.call 23 (.cons (.var 0) (.cons (.tup (.cons (.tup (.cons (.cst (.int 1)) (.cons (.cst (.int 60)) .nil))) (.cons (.tup (.cons (.cst (.int 1)) (.cons (.op2 .pow (.cst (.int 10)) (.cst (.int 4))) .nil))) (.cons (.tup (.cons (.cst (.int 1)) (.cons (.op2 .pow (.cst (.int 10)) (.cst (.int 12))) .nil))) .nil)))) .nil)))) (.cons (.asg (.nm 5) (.ite (.op2 .eq (.var 2) (.cst (.int 6))) (.call 26 (.cons (.var 3) (.cons (.var 4) .nil))) (.call 25 (.cons (.var 3) (.cons (.var 4) .nil))))) (.cons (.ret (.ite (.chain .le .le (.cst (.int 0)) (.ix (.var 5) (.cst (.int 0))) (.ix (.var 5) (.cst (.int 1)))) (.var 5) (.var 3))) .nil)))))))
def b_34 : Ss := (.cons (.own 3 (.lst .nil)) (.cons (.for_ (.nm 4) (.rng1 (.var 1)) (.cons (.asg (.nm 5) (.call 33 (.cons (.var 0) (.cons (.var 2) .nil)))) (.cons (.mut .app 3 (.cons (.ite (.bools true (.cons (.op2 .gt (.var 4) (.cst (.int 0))) (.cons (.op2 .eq (.call 22 (.cons (.var 0) (.cons (.cst (.int 6)) .nil))) (.cst (.int 0))) .nil))) (.ix (.var 3) (.cst (.int 0))) (.var 5)) .nil)) .nil))) (.cons (.ret (.bi .tuple (.cons (.var 3) .nil))) .nil)))
def b_35 : Ss := (.cons (.asg (.nm 1) (.call 22 (.cons (.var 0) (.cons (.cst (.int 4)) .nil)))) (.cons (.iff (.op2 .lt (.var 1) (.cst (.int 2))) (.cons (.ret (.call 23 (.cons (.var 0) (.cons (.tup (.cons (.tup (.cons (.cst (.int 1)) (.cons (.cst (.int 20)) .nil))) (.cons (.tup (.cons (.cst (.int 1)) (.cons (.cst (.int 10)) .nil))) (.cons (.tup (.cons (.cst (.int 1)) (.cons (.cst (.int 2)) .nil))) (.cons (.tup (.cons (.cst (.int 1)) (.cons (.cst (.int 1)) .nil))) (.cons (.tup (.cons (.cst (.int 1)) (.cons (.cst (.int 3)) .nil))) (.cons (.tup (.cons (.cst (.int 1)) (.cons (.cst (.int 4)) .nil))) (.cons (.tup (.cons (.cst (.int 2)) (.cons (.cst (.int 3)) .nil))) .nil)))))))) .nil)))) .nil) .nil) (.cons (.asg (.nm 2) (.call 23 (.cons (.var 0) (.cons (.tup (.cons (.cst (.int 5)) (.cons (.cst (.int 12)) (.cons (.cst (.int 60)) (.cons (.cst (.int 997)) (.cons (.op2 .pow (.cst (.int 10)) (.cst (.int 6))) .nil)))))) .nil)))) (.cons (.ret (.call 24 (.cons (.op2 .add (.cst (.int 1)) (.call 22 (.cons (.var 0) (.cons (.var 2) .nil)))) (.cons (.var 2) .nil)))) .nil))))
def b_36 : Ss := (.cons (.asg (.nm 1) (.call 35 (.cons (.var 0) .nil))) (.cons (.ret (.ite (.op2 .ne (.var 1) (.tup (.cons (.cst (.int 1)) (.cons (.cst (.int 1)) .nil)))) (.var 1) (.tup (.cons (.cst (.int 9)) (.cons (.cst (.int 10)) .nil))))) .nil))
def b_37 : Ss := (.cons (.ret (.bi .tuple (.cons (.lc [3] (.ite (.op2 .inn (.var 3) (.var 1)) (.var 2) (.cst .none)) (.nm 3) (.rng1 (.var 0)) .nil) .nil))) .nil)
def b_38 : Ss := (.cons (.for_ (.tup (.cons (.nm 2) (.cons (.nm 3) .nil))) (.zip (.var 0) (.var 1)) (.cons (.iff (.bools true (.cons (.isN false (.var 3)) (.cons (.call 28 (.cons (.var 3) (.cons (.var 2) .nil))) .nil))) (.cons (.ret (.cst (.bool false))) .nil) .nil) .nil)) (.cons (.ret (.cst (.bool true))) .nil))
def b_39 : Ss := (.cons (.par [4, 5] [.val (.call 22 (.cons (.var 0) (.cons (.cst (.int 5)) .nil))), .val (.call 23 (.cons (.var 0) (.cons (.tup (.cons (.cst (.int 20)) (.cons (.cst (.int 10)) (.cons (.cst (.int 6)) (.cons (.cst (.int 60)) (.cons (.cst (.int 1000)) .nil)))))) .nil)))]) (.cons (.iff (.op2 .eq (.var 4) (.cst (.int 0))) (.cons (.asg (.nm 6) (.call 36 (.cons (.var 0) .nil))) (.cons (.ret (.bi .tuple (.cons (.lc [7] (.call 27 (.cons (.var 6) (.cons (.call 24 (.cons (.op2 .add (.var 7) (.cst (.int 1))) (.cons (.var 1) .nil))) .nil))) (.nm 7) (.rng1 (.var 1)) .nil) .nil))) .nil)) .nil) (.cons (.iff (.op2 .eq (.var 4) (.cst (.int 1))) (.cons (.asg (.nm 6) (.call 36 (.cons (.var 0) .nil))) (.cons (.ret (.bi .tuple (.cons (.lc [7] (.call 27 (.cons (.var 6) (.cons (.call 24 (.cons (.cst (.int 1)) (.cons (.op2 .sub (.var 1) (.var 7)) .nil))) .nil))) (.nm 7) (.rng1 (.var 1)) .nil) .nil))) .nil)) .nil) (.cons (.asg (.nm 2) (.call 23 (.cons (.var 0) (.cons (.tup (.cons (.var 5) (.cons (.var 5) (.cons (.op2 .add (.cst (.int 1)) (.op2 .fdiv (.var 5) (.cst (.int 3)))) (.cons (.op2 .add (.cst (.int 1)) (.op2 .fdiv (.var 5) (.cst (.int 3)))) (.cons (.cst (.int 2)) .nil)))))) .nil)))) (.cons (.asg (.nm 3) (.bi .sorted (.cons (.lc [7] (.call 22 (.cons (.var 0) (.cons (.var 2) .nil))) (.nm 7) (.rng1 (.var 1)) .nil) .nil))) (.cons (.ret (.bi .tuple (.cons (.lc [8] (.call 24 (.cons (.var 8) (.cons (.var 5) .nil))) (.nm 8) (.seq (.var 3)) .nil) .nil))) .nil))))))
def b_40 : Ss := (.cons (.asg (.nm 1) (.lst .nil)) (.cons (.for_ (.nm 2) (.rng1 (.bi .len (.cons (.var 0) .nil))) (.cons (.asg (.nm 3) (.bi .len (.cons (.lc [4] (.var 4) (.nm 4) (.seq (.var 1)) (.cons (.no (.call 28 (.cons (.ix (.var 0) (.var 2)) (.cons (.ix (.var 0) (.var 4)) .nil)))) .nil)) .nil))) (.cons (.asg (.nm 1) (.op2 .add (.op2 .add (.sl (.var 1) .none (.some (.var 3))) (.lst (.cons (.var 2) .nil))) (.sl (.var 1) (.some (.var 3)) .none))) .nil))) (.cons (.ret (.var 1)) .nil)))
def b_41 : Ss := (.cons (.par [4, 5] [.val (.call 40 (.cons (.var 0) .nil)), .val (.cst (.int 0))]) (.cons (.for_ (.nm 3) (.rng1 (.bi .len (.cons (.var 0) .nil))) (.cons (.iff (.bools true (.cons (.no (.call 28 (.cons (.ix (.var 1) (.var 3)) (.cons (.ix (.var 0) (.ix (.var 4) (.var 3))) .nil)))) (.cons (.bools false (.cons (.var 2) (.cons (.op2 .eq (.var 5) (.var 3)) .nil))) .nil))) (.cons (.asg (.nm 5) (.op2 .add (.var 3) (.cst (.int 1)))) .nil) .nil) .nil)) (.cons (.ret (.bi .tuple (.cons (.bi .sorted (.cons (.sl (.var 4) .none (.some (.var 5))) .nil)) .nil))) .nil)))
def b_42 : Ss := (.cons (.asg (.nm 3) (.call 41 (.cons (.var 0) (.cons (.var 1) (.cons (.cst (.bool true)) .nil))))) (.cons (.ret (.ite (.op2 .ne (.var 3) (.tup .nil)) (.call 24 (.cons (.bi .len (.cons (.lc [4] (.var 4) (.nm 4) (.seq (.var 3)) (.cons (.op2 .inn (.var 4) (.var 2)) .nil)) .nil)) (.cons (.bi .len (.cons (.var 3) .nil)) .nil))) (.tup (.cons (.cst (.int 0)) (.cons (.cst (.int 1)) .nil))))) .nil))
def b_43 : Ss := (.cons (.par [3, 4] [.val (.bi .len (.cons (.var 0) .nil)), .own (.lst .nil)]) (.cons (.for_ (.nm 2) (.rng1 (.op2 .add (.op2 .sub (.var 3) (.bi .len (.cons (.var 1) .nil))) (.cst (.int 1)))) (.cons (.for_ (.nm 5) (.seq (.call 30 (.cons (.var 1) .nil))) (.cons (.asg (.nm 6) (.bi .len (.cons (.var 5) .nil))) (.cons (.mut .app 4 (.cons (.tup (.cons (.call 37 (.cons (.var 3) (.cons (.var 5) (.cons (.ix (.var 0) (.op2 .sub (.op2 .add (.var 6) (.var 2)) (.cst (.int 1)))) .nil)))) (.cons (.call 24 (.cons (.var 6) (.cons (.op2 .add (.var 6) (.var 2)) .nil))) .nil))) .nil)) .nil))) .nil)) (.cons (.ret (.bi .tuple (.cons (.var 4) .nil))) .nil)))
def b_44 : Ss := (.cons (.asg (.nm 2) (.tup (.cons (.cst (.int 0)) (.cons (.cst (.int 1)) .nil)))) (.cons (.for_ (.tup (.cons (.nm 3) (.cons (.nm 4) .nil))) (.seq (.var 0)) (.cons (.asg (.nm 2) (.ite (.call 38 (.cons (.var 1) (.cons (.var 3) .nil))) (.call 29 (.cons (.var 2) (.cons (.var 4) .nil))) (.var 2))) .nil)) (.cons (.ret (.var 2)) .nil)))
def b_45 : Ss := (.cons (.par [5, 6] [.val (.lst (.cons (.var 0) .nil)), .val (.tup (.cons (.cst (.int 0)) (.cons (.cst (.int 1)) .nil)))]) (.cons (.for_ (.nm 3) (.seq (.lc [8] (.var 8) (.nm 8) (.rng1 (.bi .len (.cons (.var 0) .nil))) (.cons (.op2 .nin (.var 8) (.var 2)) .nil))) (.cons (.asg (.nm 7) (.lc [4] (.op2 .add (.op2 .add (.sl (.var 4) .none (.some (.var 3))) (.tup (.cons (.tup (.cons (.cst (.int 1)) (.cons (.cst (.int 1)) .nil))) .nil))) (.sl (.var 4) (.some (.op2 .add (.var 3) (.cst (.int 1)))) .none)) (.nm 4) (.seq (.var 5)) .nil)) (.cons (.asg (.nm 5) (.op2 .add (.var 7) (.lc [4] (.op2 .add (.op2 .add (.sl (.var 4) .none (.some (.var 3))) (.tup (.cons (.tup (.cons (.cst (.int 0)) (.cons (.cst (.int 1)) .nil))) .nil))) (.sl (.var 4) (.some (.op2 .add (.var 3) (.cst (.int 1)))) .none)) (.nm 4) (.seq (.var 5)) .nil))) .nil))) (.cons (.for_ (.nm 4) (.seq (.var 5)) (.cons (.asg (.nm 6) (.call 29 (.cons (.var 6) (.cons (.call 19 (.cons (.var 4) (.cons (.var 1) (.cons (.var 2) .nil)))) .nil)))) .nil)) (.cons (.ret (.var 6)) .nil))))
def b_46 : Ss := (.cons (.asg (.nm 1) (.call 23 (.cons (.var 0) (.cons (.tup (.cons (.cst (.int 3)) (.cons (.cst (.int 2)) (.cons (.cst (.int 4)) (.cons (.cst (.int 3)) (.cons (.cst (.int 5)) (.cons (.cst (.int 1)) .nil))))))) .nil)))) (.cons (.par [5, 6] [.val (.call 39 (.cons (.var 0) (.cons (.var 1) .nil))), .val (.call 23 (.cons (.var 0) (.cons (.call 31 (.cons (.var 1) .nil)) .nil)))]) (.cons (.asg (.nm 2) (.call 34 (.cons (.var 0) (.cons (.var 1) (.cons (.bi .list (.cons (.var 5) .nil)) .nil))))) (.cons (.par [7, 8] [.val (.call 42 (.cons (.var 2) (.cons (.var 5) (.cons (.var 6) .nil)))), .val (.call 20 (.cons (.var 5) (.cons (.var 6) .nil)))]) (.cons (.iff (.op2 .ne (.bi .repr (.cons (.lst (.cons (.call 19 (.cons (.var 2) (.cons (.var 5) (.cons (.var 6) .nil)))) (.cons (.callK 19 .nil [2, 1, 0] (.cons (.var 6) (.cons (.var 5) (.cons (.var 2) .nil)))) .nil))) .nil)) (.bi .repr (.cons (.lst (.cons (.var 7) (.cons (.var 7) .nil))) .nil))) (.cons (.ret (.cst (.bool false))) .nil) .nil) (.cons (.iff (.op2 .ne (.bi .repr (.cons (.lst (.cons (.var 8) (.cons (.callK 20 .nil [1, 0] (.cons (.var 6) (.cons (.var 5) .nil))) .nil))) .nil)) (.bi .repr (.cons (.rep (.cons (.call 43 (.cons (.var 5) (.cons (.var 6) .nil))) .nil) (.cst (.int 2))) .nil))) (.cons (.ret (.cst (.bool false))) .nil) .nil) (.cons (.asg (.nm 3) (.call 44 (.cons (.call 43 (.cons (.var 5) (.cons (.var 6) .nil))) (.cons (.var 2) .nil)))) (.cons (.iff (.bools false (.cons (.call 28 (.cons (.var 3) (.cons (.var 7) .nil))) (.cons (.op2 .ne (.bi .repr (.cons (.call 45 (.cons (.var 2) (.cons (.var 5) (.cons (.var 6) .nil)))) .nil)) (.bi .repr (.cons (.var 3) .nil))) .nil))) (.cons (.ret (.cst (.bool false))) .nil) .nil) (.cons (.asg (.nm 4) (.bi .tuple (.cons (.lc [9] (.call 27 (.cons (.var 9) (.cons (.call 23 (.cons (.var 0) (.cons (.tup (.cons (.tup (.cons (.cst (.int 1)) (.cons (.cst (.int 1)) .nil))) (.cons (.tup (.cons (.cst (.int 1)) (.cons (.cst (.int 2)) .nil))) (.cons (.tup (.cons (.cst (.int 0)) (.cons (.cst (.int 1)) .nil))) (.cons (.tup (.cons (.cst (.int 9)) (.cons (.cst (.int 10)) .nil))) .nil))))) .nil))) .nil))) (.nm 9) (.seq (.var 2)) .nil) .nil))) (.cons (.ret (.no (.call 28 (.cons (.call 44 (.cons (.var 8) (.cons (.var 4) .nil))) (.cons (.var 3) .nil))))) .nil))))))))))
def b_47 : Ss := (.cons (.ret (.bi .all (.cons (.lc [1] (.call 46 (.cons (.call 21 (.cons (.var 0) (.cons (.var 1) .nil))) .nil)) (.nm 1) (.rng1 (.cst (.int 2))) .nil) .nil))) .nil)
def d_0 : Fd := ⟨"is_whole", ["value"], ["value"], b_0⟩
def d_1 : Fd := ⟨"are_wholes", ["value", "many"], ["value", "many", "each"], b_1⟩
def d_2 : Fd := ⟨"is_between", ["value", "low", "high"], ["value", "low", "high"], b_2⟩
def d_3 : Fd := ⟨"is_ratio", ["value"], ["value"], b_3⟩
def d_4 : Fd := ⟨"is_number", ["value"], ["value"], b_4⟩
def d_5 : Fd := ⟨"ratio", ["top", "under"], ["top", "under", "part"], b_5⟩
def d_6 : Fd := ⟨"is_below", ["one", "two"], ["one", "two"], b_6⟩
def d_7 : Fd := ⟨"check_numbers", ["count", "value"], ["count", "value", "index", "number"], b_7⟩
def d_8 : Fd := ⟨"check_limits", ["count", "value"], ["count", "value", "index", "limit"], b_8⟩
def d_9 : Fd := ⟨"is_group", ["count", "value"], ["count", "value", "one", "two", "index"], b_9⟩
def d_10 : Fd := ⟨"check_group", ["count", "value"], ["count", "value"], b_10⟩
def d_11 : Fd := ⟨"sets_within", ["group"], ["group", "many", "each"], b_11⟩
def d_12 : Fd := ⟨"corner_with", ["count", "limits"], ["count", "limits", "index"], b_12⟩
def d_13 : Fd := ⟨"rising", ["numbers"], ["numbers", "found", "number", "each"], b_13⟩
def d_14 : Fd := ⟨"called_by", ["numbers", "many"], ["numbers", "many", "last", "index", "number"], b_14⟩
def d_15 : Fd := ⟨"many_up", ["numbers", "limits"], ["numbers", "limits", "held", "at", "number", "limit"], b_15⟩
def d_16 : Fd := ⟨"share_at", ["numbers", "limits", "lot"], ["numbers", "limits", "lot", "found", "index"], b_16⟩
def d_17 : Fd := ⟨"worths_for", ["limits", "lot"], ["limits", "lot", "others", "count", "found", "group", "limit", "worth", "index"], b_17⟩
def d_18 : Fd := ⟨"check_some_numbers", ["value"], ["value"], b_18⟩
def d_19 : Fd := ⟨"share", ["numbers", "limits", "lot"], ["numbers", "limits", "lot"], b_19⟩
def d_20 : Fd := ⟨"share_worths", ["limits", "lot"], ["limits", "lot"], b_20⟩
def d_21 : Fd := ⟨"_law_well", ["script", "lap"], ["script", "lap", "own", "stir", "each"], b_21⟩
def d_22 : Fd := ⟨"_law_draw", ["well", "size"], ["well", "size", "mixed", "digit"], b_22⟩
def d_23 : Fd := ⟨"_law_pick", ["well", "some"], ["well", "some"], b_23⟩
def d_24 : Fd := ⟨"_law_low", ["top", "under"], ["top", "under", "one", "two"], b_24⟩
def d_25 : Fd := ⟨"_law_add", ["one", "two"], ["one", "two"], b_25⟩
def d_26 : Fd := ⟨"_law_sub", ["one", "two"], ["one", "two"], b_26⟩
def d_27 : Fd := ⟨"_law_mul", ["one", "two"], ["one", "two"], b_27⟩
def d_28 : Fd := ⟨"_law_below", ["one", "two"], ["one", "two"], b_28⟩
def d_29 : Fd := ⟨"_law_greater", ["one", "two"], ["one", "two"], b_29⟩
def d_30 : Fd := ⟨"_law_sets_of", ["some"], ["some", "found", "each", "row"], b_30⟩
def d_31 : Fd := ⟨"_law_all_sets", ["many"], ["many"], b_31⟩
def d_32 : Fd := ⟨"_law_any_part", ["well"], ["well", "under"], b_32⟩
def d_33 : Fd := ⟨"_law_mark", ["well", "near"], ["well", "near", "way", "cut", "by", "found"], b_33⟩
def d_34 : Fd := ⟨"_law_marks", ["well", "many", "near"], ["well", "many", "near", "found", "k", "one"], b_34⟩
def d_35 : Fd := ⟨"_law_level", ["well"], ["well", "way", "under"], b_35⟩
def d_36 : Fd := ⟨"_law_low_level", ["well"], ["well", "found"], b_36⟩
def d_37 : Fd := ⟨"_law_edge", ["many", "some", "cut"], ["many", "some", "cut", "k"], b_37⟩
def d_38 : Fd := ⟨"_law_is_in", ["seen", "edge"], ["seen", "edge", "mark", "cut"], b_38⟩
def d_39 : Fd := ⟨"_law_steps", ["well", "many"], ["well", "many", "wide", "tops", "way", "under", "level", "k", "top"], b_39⟩
def d_40 : Fd := ⟨"_law_order", ["seen"], ["seen", "found", "k", "at", "each"], b_40⟩
def d_41 : Fd := ⟨"_law_stepped", ["seen", "steps", "is_up"], ["seen", "steps", "is_up", "k", "order", "most"], b_41⟩
def d_42 : Fd := ⟨"_law_share", ["seen", "steps", "part"], ["seen", "steps", "part", "got", "k"], b_42⟩
def d_43 : Fd := ⟨"_law_worths", ["steps", "part"], ["steps", "part", "b", "many", "found", "some", "a"], b_43⟩
def d_44 : Fd := ⟨"_law_worth_at", ["worths", "seen"], ["worths", "seen", "found", "edge", "cut"], b_44⟩
def d_45 : Fd := ⟨"_law_greatest", ["seen", "steps", "part"], ["seen", "steps", "part", "k", "row", "rows", "found", "ends", "at"], b_45⟩
def d_46 : Fd := ⟨"_law_right", ["well"], ["well", "many", "seen", "most", "less", "steps", "part", "due", "told", "mark"], b_46⟩
def d_47 : Fd := ⟨"law", ["script"], ["script", "lap"], b_47⟩
def T : List Fd := [d_0, d_1, d_2, d_3, d_4, d_5, d_6, d_7, d_8, d_9, d_10, d_11, d_12, d_13, d_14, d_15, d_16, d_17, d_18, d_19, d_20, d_21, d_22, d_23, d_24, d_25, d_26, d_27, d_28, d_29, d_30, d_31, d_32, d_33, d_34, d_35, d_36, d_37, d_38, d_39, d_40, d_41, d_42, d_43, d_44, d_45, d_46, d_47]
def gl : List (Str × PyData) := [("ZERO", (.tuple [(.int 0), (.int 1)])), ("ONE", (.tuple [(.int 1), (.int 1)])), ("MOST_COUNT", (.int 5))]
def t : Stx := ⟨["abs", "all", "bool", "divmod", "enumerate", "int", "isinstance", "len", "list", "range", "repr", "sorted", "sum", "tuple", "zip"], gl.map (·.1), [("combinations", .combos), ("gcd", .gcd)], T.map fun d => (d.nm, d.ps), [(19, 0, [2, 1, 0]), (20, 0, [1, 0])], []⟩
theorem m_0 : mSs ⟨{ t with fn := t.fn.take 0 }, d_0.N, defScope (top 3), fun _ => true⟩ (mutsS b_0) b_0 (defBody (top 3)) = true := by decide +kernel
theorem s_0 : FnScope d_0.N d_0.ps (defScope (top 3)) := ⟨by rfl, by rfl, by rfl, by decide +kernel, by rfl, by decide +kernel, by decide +kernel⟩
theorem c_0 : Chk t 0 d_0 (top 3) := ⟨s_0, m_0, fun K f fd F => FunD.bindsN F fun _ _ _ _ _ _ us hl => match us, hl with
  | [_], _ => rfl, fun K f fd F n ks h => by
  exact absurd h (by simp [t])⟩
theorem m_1 : mSs ⟨{ t with fn := t.fn.take 1 }, d_1.N, defScope (top 4), fun _ => true⟩ (mutsS b_1) b_1 (defBody (top 4)) = true := by decide +kernel
theorem s_1 : FnScope d_1.N d_1.ps (defScope (top 4)) := ⟨by rfl, by rfl, by rfl, by decide +kernel, by rfl, by decide +kernel, by decide +kernel⟩
theorem c_1 : Chk t 1 d_1 (top 4) := ⟨s_1, m_1, fun K f fd F => FunD.bindsN F fun _ _ _ _ _ _ us hl => match us, hl with
  | [_, _], _ => rfl, fun K f fd F n ks h => by
  exact absurd h (by simp [t])⟩
theorem m_2 : mSs ⟨{ t with fn := t.fn.take 2 }, d_2.N, defScope (top 5), fun _ => true⟩ (mutsS b_2) b_2 (defBody (top 5)) = true := by decide +kernel
theorem s_2 : FnScope d_2.N d_2.ps (defScope (top 5)) := ⟨by rfl, by rfl, by rfl, by decide +kernel, by rfl, by decide +kernel, by decide +kernel⟩
theorem c_2 : Chk t 2 d_2 (top 5) := ⟨s_2, m_2, fun K f fd F => FunD.bindsN F fun _ _ _ _ _ _ us hl => match us, hl with
  | [_, _, _], _ => rfl, fun K f fd F n ks h => by
  exact absurd h (by simp [t])⟩
theorem m_3 : mSs ⟨{ t with fn := t.fn.take 3 }, d_3.N, defScope (top 9), fun _ => true⟩ (mutsS b_3) b_3 (defBody (top 9)) = true := by decide +kernel
theorem s_3 : FnScope d_3.N d_3.ps (defScope (top 9)) := ⟨by rfl, by rfl, by rfl, by decide +kernel, by rfl, by decide +kernel, by decide +kernel⟩
theorem c_3 : Chk t 3 d_3 (top 9) := ⟨s_3, m_3, fun K f fd F => FunD.bindsN F fun _ _ _ _ _ _ us hl => match us, hl with
  | [_], _ => rfl, fun K f fd F n ks h => by
  exact absurd h (by simp [t])⟩
theorem m_4 : mSs ⟨{ t with fn := t.fn.take 4 }, d_4.N, defScope (top 10), fun _ => true⟩ (mutsS b_4) b_4 (defBody (top 10)) = true := by decide +kernel
theorem s_4 : FnScope d_4.N d_4.ps (defScope (top 10)) := ⟨by rfl, by rfl, by rfl, by decide +kernel, by rfl, by decide +kernel, by decide +kernel⟩
theorem c_4 : Chk t 4 d_4 (top 10) := ⟨s_4, m_4, fun K f fd F => FunD.bindsN F fun _ _ _ _ _ _ us hl => match us, hl with
  | [_], _ => rfl, fun K f fd F n ks h => by
  exact absurd h (by simp [t])⟩
theorem m_5 : mSs ⟨{ t with fn := t.fn.take 5 }, d_5.N, defScope (top 11), fun _ => true⟩ (mutsS b_5) b_5 (defBody (top 11)) = true := by decide +kernel
theorem s_5 : FnScope d_5.N d_5.ps (defScope (top 11)) := ⟨by rfl, by rfl, by rfl, by decide +kernel, by rfl, by decide +kernel, by decide +kernel⟩
theorem c_5 : Chk t 5 d_5 (top 11) := ⟨s_5, m_5, fun K f fd F => FunD.bindsN F fun _ _ _ _ _ _ us hl => match us, hl with
  | [_, _], _ => rfl, fun K f fd F n ks h => by
  exact absurd h (by simp [t])⟩
theorem m_6 : mSs ⟨{ t with fn := t.fn.take 6 }, d_6.N, defScope (top 12), fun _ => true⟩ (mutsS b_6) b_6 (defBody (top 12)) = true := by decide +kernel
theorem s_6 : FnScope d_6.N d_6.ps (defScope (top 12)) := ⟨by rfl, by rfl, by rfl, by decide +kernel, by rfl, by decide +kernel, by decide +kernel⟩
theorem c_6 : Chk t 6 d_6 (top 12) := ⟨s_6, m_6, fun K f fd F => FunD.bindsN F fun _ _ _ _ _ _ us hl => match us, hl with
  | [_, _], _ => rfl, fun K f fd F n ks h => by
  exact absurd h (by simp [t])⟩
theorem m_7 : mSs ⟨{ t with fn := t.fn.take 7 }, d_7.N, defScope (top 20), fun _ => true⟩ (mutsS b_7) b_7 (defBody (top 20)) = true := by decide +kernel
theorem s_7 : FnScope d_7.N d_7.ps (defScope (top 20)) := ⟨by rfl, by rfl, by rfl, by decide +kernel, by rfl, by decide +kernel, by decide +kernel⟩
theorem c_7 : Chk t 7 d_7 (top 20) := ⟨s_7, m_7, fun K f fd F => FunD.bindsN F fun _ _ _ _ _ _ us hl => match us, hl with
  | [_, _], _ => rfl, fun K f fd F n ks h => by
  exact absurd h (by simp [t])⟩
theorem m_8 : mSs ⟨{ t with fn := t.fn.take 8 }, d_8.N, defScope (top 22), fun _ => true⟩ (mutsS b_8) b_8 (defBody (top 22)) = true := by decide +kernel
theorem s_8 : FnScope d_8.N d_8.ps (defScope (top 22)) := ⟨by rfl, by rfl, by rfl, by decide +kernel, by rfl, by decide +kernel, by decide +kernel⟩
theorem c_8 : Chk t 8 d_8 (top 22) := ⟨s_8, m_8, fun K f fd F => FunD.bindsN F fun _ _ _ _ _ _ us hl => match us, hl with
  | [_, _], _ => rfl, fun K f fd F n ks h => by
  exact absurd h (by simp [t])⟩
theorem m_9 : mSs ⟨{ t with fn := t.fn.take 9 }, d_9.N, defScope (top 24), fun _ => true⟩ (mutsS b_9) b_9 (defBody (top 24)) = true := by decide +kernel
theorem s_9 : FnScope d_9.N d_9.ps (defScope (top 24)) := ⟨by rfl, by rfl, by rfl, by decide +kernel, by rfl, by decide +kernel, by decide +kernel⟩
theorem c_9 : Chk t 9 d_9 (top 24) := ⟨s_9, m_9, fun K f fd F => FunD.bindsN F fun _ _ _ _ _ _ us hl => match us, hl with
  | [_, _], _ => rfl, fun K f fd F n ks h => by
  exact absurd h (by simp [t])⟩
theorem m_10 : mSs ⟨{ t with fn := t.fn.take 10 }, d_10.N, defScope (top 25), fun _ => true⟩ (mutsS b_10) b_10 (defBody (top 25)) = true := by decide +kernel
theorem s_10 : FnScope d_10.N d_10.ps (defScope (top 25)) := ⟨by rfl, by rfl, by rfl, by decide +kernel, by rfl, by decide +kernel, by decide +kernel⟩
theorem c_10 : Chk t 10 d_10 (top 25) := ⟨s_10, m_10, fun K f fd F => FunD.bindsN F fun _ _ _ _ _ _ us hl => match us, hl with
  | [_, _], _ => rfl, fun K f fd F n ks h => by
  exact absurd h (by simp [t])⟩
theorem m_11 : mSs ⟨{ t with fn := t.fn.take 11 }, d_11.N, defScope (top 26), fun _ => true⟩ (mutsS b_11) b_11 (defBody (top 26)) = true := by decide +kernel
theorem s_11 : FnScope d_11.N d_11.ps (defScope (top 26)) := ⟨by rfl, by rfl, by rfl, by decide +kernel, by rfl, by decide +kernel, by decide +kernel⟩
theorem c_11 : Chk t 11 d_11 (top 26) := ⟨s_11, m_11, fun K f fd F => FunD.bindsN F fun _ _ _ _ _ _ us hl => match us, hl with
  | [_], _ => rfl, fun K f fd F n ks h => by
  exact absurd h (by simp [t])⟩
theorem m_12 : mSs ⟨{ t with fn := t.fn.take 12 }, d_12.N, defScope (top 27), fun _ => true⟩ (mutsS b_12) b_12 (defBody (top 27)) = true := by decide +kernel
theorem s_12 : FnScope d_12.N d_12.ps (defScope (top 27)) := ⟨by rfl, by rfl, by rfl, by decide +kernel, by rfl, by decide +kernel, by decide +kernel⟩
theorem c_12 : Chk t 12 d_12 (top 27) := ⟨s_12, m_12, fun K f fd F => FunD.bindsN F fun _ _ _ _ _ _ us hl => match us, hl with
  | [_, _], _ => rfl, fun K f fd F n ks h => by
  exact absurd h (by simp [t])⟩
theorem m_13 : mSs ⟨{ t with fn := t.fn.take 13 }, d_13.N, defScope (top 29), fun _ => true⟩ (mutsS b_13) b_13 (defBody (top 29)) = true := by decide +kernel
theorem s_13 : FnScope d_13.N d_13.ps (defScope (top 29)) := ⟨by rfl, by rfl, by rfl, by decide +kernel, by rfl, by decide +kernel, by decide +kernel⟩
theorem c_13 : Chk t 13 d_13 (top 29) := ⟨s_13, m_13, fun K f fd F => FunD.bindsN F fun _ _ _ _ _ _ us hl => match us, hl with
  | [_], _ => rfl, fun K f fd F n ks h => by
  exact absurd h (by simp [t])⟩
theorem m_14 : mSs ⟨{ t with fn := t.fn.take 14 }, d_14.N, defScope (top 30), fun _ => true⟩ (mutsS b_14) b_14 (defBody (top 30)) = true := by decide +kernel
theorem s_14 : FnScope d_14.N d_14.ps (defScope (top 30)) := ⟨by rfl, by rfl, by rfl, by decide +kernel, by rfl, by decide +kernel, by decide +kernel⟩
theorem c_14 : Chk t 14 d_14 (top 30) := ⟨s_14, m_14, fun K f fd F => FunD.bindsN F fun _ _ _ _ _ _ us hl => match us, hl with
  | [_, _], _ => rfl, fun K f fd F n ks h => by
  exact absurd h (by simp [t])⟩
theorem m_15 : mSs ⟨{ t with fn := t.fn.take 15 }, d_15.N, defScope (top 31), fun _ => true⟩ (mutsS b_15) b_15 (defBody (top 31)) = true := by decide +kernel
theorem s_15 : FnScope d_15.N d_15.ps (defScope (top 31)) := ⟨by rfl, by rfl, by rfl, by decide +kernel, by rfl, by decide +kernel, by decide +kernel⟩
theorem c_15 : Chk t 15 d_15 (top 31) := ⟨s_15, m_15, fun K f fd F => FunD.bindsN F fun _ _ _ _ _ _ us hl => match us, hl with
  | [_, _], _ => rfl, fun K f fd F n ks h => by
  exact absurd h (by simp [t])⟩
theorem m_16 : mSs ⟨{ t with fn := t.fn.take 16 }, d_16.N, defScope (top 33), fun _ => true⟩ (mutsS b_16) b_16 (defBody (top 33)) = true := by decide +kernel
theorem s_16 : FnScope d_16.N d_16.ps (defScope (top 33)) := ⟨by rfl, by rfl, by rfl, by decide +kernel, by rfl, by decide +kernel, by decide +kernel⟩
theorem c_16 : Chk t 16 d_16 (top 33) := ⟨s_16, m_16, fun K f fd F => FunD.bindsN F fun _ _ _ _ _ _ us hl => match us, hl with
  | [_, _, _], _ => rfl, fun K f fd F n ks h => by
  exact absurd h (by simp [t])⟩
theorem m_17 : mSs ⟨{ t with fn := t.fn.take 17 }, d_17.N, defScope (top 34), fun _ => true⟩ (mutsS b_17) b_17 (defBody (top 34)) = true := by decide +kernel
theorem s_17 : FnScope d_17.N d_17.ps (defScope (top 34)) := ⟨by rfl, by rfl, by rfl, by decide +kernel, by rfl, by decide +kernel, by decide +kernel⟩
theorem c_17 : Chk t 17 d_17 (top 34) := ⟨s_17, m_17, fun K f fd F => FunD.bindsN F fun _ _ _ _ _ _ us hl => match us, hl with
  | [_, _], _ => rfl, fun K f fd F n ks h => by
  exact absurd h (by simp [t])⟩
theorem m_18 : mSs ⟨{ t with fn := t.fn.take 18 }, d_18.N, defScope (top 36), fun _ => true⟩ (mutsS b_18) b_18 (defBody (top 36)) = true := by decide +kernel
theorem s_18 : FnScope d_18.N d_18.ps (defScope (top 36)) := ⟨by rfl, by rfl, by rfl, by decide +kernel, by rfl, by decide +kernel, by decide +kernel⟩
theorem c_18 : Chk t 18 d_18 (top 36) := ⟨s_18, m_18, fun K f fd F => FunD.bindsN F fun _ _ _ _ _ _ us hl => match us, hl with
  | [_], _ => rfl, fun K f fd F n ks h => by
  exact absurd h (by simp [t])⟩
theorem m_19 : mSs ⟨{ t with fn := t.fn.take 19 }, d_19.N, defScope (top 38), fun _ => true⟩ (mutsS b_19) b_19 (defBody (top 38)) = true := by decide +kernel
theorem s_19 : FnScope d_19.N d_19.ps (defScope (top 38)) := ⟨by rfl, by rfl, by rfl, by decide +kernel, by rfl, by decide +kernel, by decide +kernel⟩
theorem c_19 : Chk t 19 d_19 (top 38) := ⟨s_19, m_19, fun K f fd F => FunD.bindsN F fun _ _ _ _ _ _ us hl => match us, hl with
  | [_, _, _], _ => rfl, fun K f fd F n ks h => by
  simp [t] at h
  obtain ⟨rfl, rfl⟩ := h
  · exact bindK_of F fun _ _ _ _ _ _ us ws h1 h2 => match us, h1, ws, h2 with
    | [], _, [_, _, _], _ => rfl⟩
theorem m_20 : mSs ⟨{ t with fn := t.fn.take 20 }, d_20.N, defScope (top 39), fun _ => true⟩ (mutsS b_20) b_20 (defBody (top 39)) = true := by decide +kernel
theorem s_20 : FnScope d_20.N d_20.ps (defScope (top 39)) := ⟨by rfl, by rfl, by rfl, by decide +kernel, by rfl, by decide +kernel, by decide +kernel⟩
theorem c_20 : Chk t 20 d_20 (top 39) := ⟨s_20, m_20, fun K f fd F => FunD.bindsN F fun _ _ _ _ _ _ us hl => match us, hl with
  | [_, _], _ => rfl, fun K f fd F n ks h => by
  simp [t] at h
  obtain ⟨rfl, rfl⟩ := h
  · exact bindK_of F fun _ _ _ _ _ _ us ws h1 h2 => match us, h1, ws, h2 with
    | [], _, [_, _], _ => rfl⟩
theorem m_21 : mSs ⟨{ t with fn := t.fn.take 21 }, d_21.N, defScope (top 41), fun _ => true⟩ (mutsS b_21) b_21 (defBody (top 41)) = true := by decide +kernel
theorem s_21 : FnScope d_21.N d_21.ps (defScope (top 41)) := ⟨by rfl, by rfl, by rfl, by decide +kernel, by rfl, by decide +kernel, by decide +kernel⟩
theorem c_21 : Chk t 21 d_21 (top 41) := ⟨s_21, m_21, fun K f fd F => FunD.bindsN F fun _ _ _ _ _ _ us hl => match us, hl with
  | [_, _], _ => rfl, fun K f fd F n ks h => by
  exact absurd h (by simp [t])⟩
theorem m_22 : mSs ⟨{ t with fn := t.fn.take 22 }, d_22.N, defScope (top 42), fun _ => true⟩ (mutsS b_22) b_22 (defBody (top 42)) = true := by decide +kernel
theorem s_22 : FnScope d_22.N d_22.ps (defScope (top 42)) := ⟨by rfl, by rfl, by rfl, by decide +kernel, by rfl, by decide +kernel, by decide +kernel⟩
theorem c_22 : Chk t 22 d_22 (top 42) := ⟨s_22, m_22, fun K f fd F => FunD.bindsN F fun _ _ _ _ _ _ us hl => match us, hl with
  | [_, _], _ => rfl, fun K f fd F n ks h => by
  exact absurd h (by simp [t])⟩
theorem m_23 : mSs ⟨{ t with fn := t.fn.take 23 }, d_23.N, defScope (top 43), fun _ => true⟩ (mutsS b_23) b_23 (defBody (top 43)) = true := by decide +kernel
theorem s_23 : FnScope d_23.N d_23.ps (defScope (top 43)) := ⟨by rfl, by rfl, by rfl, by decide +kernel, by rfl, by decide +kernel, by decide +kernel⟩
theorem c_23 : Chk t 23 d_23 (top 43) := ⟨s_23, m_23, fun K f fd F => FunD.bindsN F fun _ _ _ _ _ _ us hl => match us, hl with
  | [_, _], _ => rfl, fun K f fd F n ks h => by
  exact absurd h (by simp [t])⟩
theorem m_24 : mSs ⟨{ t with fn := t.fn.take 24 }, d_24.N, defScope (top 44), fun _ => true⟩ (mutsS b_24) b_24 (defBody (top 44)) = true := by decide +kernel
theorem s_24 : FnScope d_24.N d_24.ps (defScope (top 44)) := ⟨by rfl, by rfl, by rfl, by decide +kernel, by rfl, by decide +kernel, by decide +kernel⟩
theorem c_24 : Chk t 24 d_24 (top 44) := ⟨s_24, m_24, fun K f fd F => FunD.bindsN F fun _ _ _ _ _ _ us hl => match us, hl with
  | [_, _], _ => rfl, fun K f fd F n ks h => by
  exact absurd h (by simp [t])⟩
theorem m_25 : mSs ⟨{ t with fn := t.fn.take 25 }, d_25.N, defScope (top 45), fun _ => true⟩ (mutsS b_25) b_25 (defBody (top 45)) = true := by decide +kernel
theorem s_25 : FnScope d_25.N d_25.ps (defScope (top 45)) := ⟨by rfl, by rfl, by rfl, by decide +kernel, by rfl, by decide +kernel, by decide +kernel⟩
theorem c_25 : Chk t 25 d_25 (top 45) := ⟨s_25, m_25, fun K f fd F => FunD.bindsN F fun _ _ _ _ _ _ us hl => match us, hl with
  | [_, _], _ => rfl, fun K f fd F n ks h => by
  exact absurd h (by simp [t])⟩
theorem m_26 : mSs ⟨{ t with fn := t.fn.take 26 }, d_26.N, defScope (top 46), fun _ => true⟩ (mutsS b_26) b_26 (defBody (top 46)) = true := by decide +kernel
theorem s_26 : FnScope d_26.N d_26.ps (defScope (top 46)) := ⟨by rfl, by rfl, by rfl, by decide +kernel, by rfl, by decide +kernel, by decide +kernel⟩
theorem c_26 : Chk t 26 d_26 (top 46) := ⟨s_26, m_26, fun K f fd F => FunD.bindsN F fun _ _ _ _ _ _ us hl => match us, hl with
  | [_, _], _ => rfl, fun K f fd F n ks h => by
  exact absurd h (by simp [t])⟩
theorem m_27 : mSs ⟨{ t with fn := t.fn.take 27 }, d_27.N, defScope (top 47), fun _ => true⟩ (mutsS b_27) b_27 (defBody (top 47)) = true := by decide +kernel
theorem s_27 : FnScope d_27.N d_27.ps (defScope (top 47)) := ⟨by rfl, by rfl, by rfl, by decide +kernel, by rfl, by decide +kernel, by decide +kernel⟩
theorem c_27 : Chk t 27 d_27 (top 47) := ⟨s_27, m_27, fun K f fd F => FunD.bindsN F fun _ _ _ _ _ _ us hl => match us, hl with
  | [_, _], _ => rfl, fun K f fd F n ks h => by
  exact absurd h (by simp [t])⟩
theorem m_28 : mSs ⟨{ t with fn := t.fn.take 28 }, d_28.N, defScope (top 48), fun _ => true⟩ (mutsS b_28) b_28 (defBody (top 48)) = true := by decide +kernel
theorem s_28 : FnScope d_28.N d_28.ps (defScope (top 48)) := ⟨by rfl, by rfl, by rfl, by decide +kernel, by rfl, by decide +kernel, by decide +kernel⟩
theorem c_28 : Chk t 28 d_28 (top 48) := ⟨s_28, m_28, fun K f fd F => FunD.bindsN F fun _ _ _ _ _ _ us hl => match us, hl with
  | [_, _], _ => rfl, fun K f fd F n ks h => by
  exact absurd h (by simp [t])⟩
theorem m_29 : mSs ⟨{ t with fn := t.fn.take 29 }, d_29.N, defScope (top 49), fun _ => true⟩ (mutsS b_29) b_29 (defBody (top 49)) = true := by decide +kernel
theorem s_29 : FnScope d_29.N d_29.ps (defScope (top 49)) := ⟨by rfl, by rfl, by rfl, by decide +kernel, by rfl, by decide +kernel, by decide +kernel⟩
theorem c_29 : Chk t 29 d_29 (top 49) := ⟨s_29, m_29, fun K f fd F => FunD.bindsN F fun _ _ _ _ _ _ us hl => match us, hl with
  | [_, _], _ => rfl, fun K f fd F n ks h => by
  exact absurd h (by simp [t])⟩
theorem m_30 : mSs ⟨{ t with fn := t.fn.take 30 }, d_30.N, defScope (top 50), fun _ => true⟩ (mutsS b_30) b_30 (defBody (top 50)) = true := by decide +kernel
theorem s_30 : FnScope d_30.N d_30.ps (defScope (top 50)) := ⟨by rfl, by rfl, by rfl, by decide +kernel, by rfl, by decide +kernel, by decide +kernel⟩
theorem c_30 : Chk t 30 d_30 (top 50) := ⟨s_30, m_30, fun K f fd F => FunD.bindsN F fun _ _ _ _ _ _ us hl => match us, hl with
  | [_], _ => rfl, fun K f fd F n ks h => by
  exact absurd h (by simp [t])⟩
theorem m_31 : mSs ⟨{ t with fn := t.fn.take 31 }, d_31.N, defScope (top 51), fun _ => true⟩ (mutsS b_31) b_31 (defBody (top 51)) = true := by decide +kernel
theorem s_31 : FnScope d_31.N d_31.ps (defScope (top 51)) := ⟨by rfl, by rfl, by rfl, by decide +kernel, by rfl, by decide +kernel, by decide +kernel⟩
theorem c_31 : Chk t 31 d_31 (top 51) := ⟨s_31, m_31, fun K f fd F => FunD.bindsN F fun _ _ _ _ _ _ us hl => match us, hl with
  | [_], _ => rfl, fun K f fd F n ks h => by
  exact absurd h (by simp [t])⟩
theorem m_32 : mSs ⟨{ t with fn := t.fn.take 32 }, d_32.N, defScope (top 52), fun _ => true⟩ (mutsS b_32) b_32 (defBody (top 52)) = true := by decide +kernel
theorem s_32 : FnScope d_32.N d_32.ps (defScope (top 52)) := ⟨by rfl, by rfl, by rfl, by decide +kernel, by rfl, by decide +kernel, by decide +kernel⟩
theorem c_32 : Chk t 32 d_32 (top 52) := ⟨s_32, m_32, fun K f fd F => FunD.bindsN F fun _ _ _ _ _ _ us hl => match us, hl with
  | [_], _ => rfl, fun K f fd F n ks h => by
  exact absurd h (by simp [t])⟩
theorem m_33 : mSs ⟨{ t with fn := t.fn.take 33 }, d_33.N, defScope (top 53), fun _ => true⟩ (mutsS b_33) b_33 (defBody (top 53)) = true := by decide +kernel
theorem s_33 : FnScope d_33.N d_33.ps (defScope (top 53)) := ⟨by rfl, by rfl, by rfl, by decide +kernel, by rfl, by decide +kernel, by decide +kernel⟩
theorem c_33 : Chk t 33 d_33 (top 53) := ⟨s_33, m_33, fun K f fd F => FunD.bindsN F fun _ _ _ _ _ _ us hl => match us, hl with
  | [_, _], _ => rfl, fun K f fd F n ks h => by
  exact absurd h (by simp [t])⟩
theorem m_34 : mSs ⟨{ t with fn := t.fn.take 34 }, d_34.N, defScope (top 54), fun _ => true⟩ (mutsS b_34) b_34 (defBody (top 54)) = true := by decide +kernel
theorem s_34 : FnScope d_34.N d_34.ps (defScope (top 54)) := ⟨by rfl, by rfl, by rfl, by decide +kernel, by rfl, by decide +kernel, by decide +kernel⟩
theorem c_34 : Chk t 34 d_34 (top 54) := ⟨s_34, m_34, fun K f fd F => FunD.bindsN F fun _ _ _ _ _ _ us hl => match us, hl with
  | [_, _, _], _ => rfl, fun K f fd F n ks h => by
  exact absurd h (by simp [t])⟩
theorem m_35 : mSs ⟨{ t with fn := t.fn.take 35 }, d_35.N, defScope (top 55), fun _ => true⟩ (mutsS b_35) b_35 (defBody (top 55)) = true := by decide +kernel
theorem s_35 : FnScope d_35.N d_35.ps (defScope (top 55)) := ⟨by rfl, by rfl, by rfl, by decide +kernel, by rfl, by decide +kernel, by decide +kernel⟩
theorem c_35 : Chk t 35 d_35 (top 55) := ⟨s_35, m_35, fun K f fd F => FunD.bindsN F fun _ _ _ _ _ _ us hl => match us, hl with
  | [_], _ => rfl, fun K f fd F n ks h => by
  exact absurd h (by simp [t])⟩
theorem m_36 : mSs ⟨{ t with fn := t.fn.take 36 }, d_36.N, defScope (top 56), fun _ => true⟩ (mutsS b_36) b_36 (defBody (top 56)) = true := by decide +kernel
theorem s_36 : FnScope d_36.N d_36.ps (defScope (top 56)) := ⟨by rfl, by rfl, by rfl, by decide +kernel, by rfl, by decide +kernel, by decide +kernel⟩
theorem c_36 : Chk t 36 d_36 (top 56) := ⟨s_36, m_36, fun K f fd F => FunD.bindsN F fun _ _ _ _ _ _ us hl => match us, hl with
  | [_], _ => rfl, fun K f fd F n ks h => by
  exact absurd h (by simp [t])⟩
theorem m_37 : mSs ⟨{ t with fn := t.fn.take 37 }, d_37.N, defScope (top 57), fun _ => true⟩ (mutsS b_37) b_37 (defBody (top 57)) = true := by decide +kernel
theorem s_37 : FnScope d_37.N d_37.ps (defScope (top 57)) := ⟨by rfl, by rfl, by rfl, by decide +kernel, by rfl, by decide +kernel, by decide +kernel⟩
theorem c_37 : Chk t 37 d_37 (top 57) := ⟨s_37, m_37, fun K f fd F => FunD.bindsN F fun _ _ _ _ _ _ us hl => match us, hl with
  | [_, _, _], _ => rfl, fun K f fd F n ks h => by
  exact absurd h (by simp [t])⟩
theorem m_38 : mSs ⟨{ t with fn := t.fn.take 38 }, d_38.N, defScope (top 58), fun _ => true⟩ (mutsS b_38) b_38 (defBody (top 58)) = true := by decide +kernel
theorem s_38 : FnScope d_38.N d_38.ps (defScope (top 58)) := ⟨by rfl, by rfl, by rfl, by decide +kernel, by rfl, by decide +kernel, by decide +kernel⟩
theorem c_38 : Chk t 38 d_38 (top 58) := ⟨s_38, m_38, fun K f fd F => FunD.bindsN F fun _ _ _ _ _ _ us hl => match us, hl with
  | [_, _], _ => rfl, fun K f fd F n ks h => by
  exact absurd h (by simp [t])⟩
theorem m_39 : mSs ⟨{ t with fn := t.fn.take 39 }, d_39.N, defScope (top 59), fun _ => true⟩ (mutsS b_39) b_39 (defBody (top 59)) = true := by decide +kernel
theorem s_39 : FnScope d_39.N d_39.ps (defScope (top 59)) := ⟨by rfl, by rfl, by rfl, by decide +kernel, by rfl, by decide +kernel, by decide +kernel⟩
theorem c_39 : Chk t 39 d_39 (top 59) := ⟨s_39, m_39, fun K f fd F => FunD.bindsN F fun _ _ _ _ _ _ us hl => match us, hl with
  | [_, _], _ => rfl, fun K f fd F n ks h => by
  exact absurd h (by simp [t])⟩
theorem m_40 : mSs ⟨{ t with fn := t.fn.take 40 }, d_40.N, defScope (top 60), fun _ => true⟩ (mutsS b_40) b_40 (defBody (top 60)) = true := by decide +kernel
theorem s_40 : FnScope d_40.N d_40.ps (defScope (top 60)) := ⟨by rfl, by rfl, by rfl, by decide +kernel, by rfl, by decide +kernel, by decide +kernel⟩
theorem c_40 : Chk t 40 d_40 (top 60) := ⟨s_40, m_40, fun K f fd F => FunD.bindsN F fun _ _ _ _ _ _ us hl => match us, hl with
  | [_], _ => rfl, fun K f fd F n ks h => by
  exact absurd h (by simp [t])⟩
theorem m_41 : mSs ⟨{ t with fn := t.fn.take 41 }, d_41.N, defScope (top 61), fun _ => true⟩ (mutsS b_41) b_41 (defBody (top 61)) = true := by decide +kernel
theorem s_41 : FnScope d_41.N d_41.ps (defScope (top 61)) := ⟨by rfl, by rfl, by rfl, by decide +kernel, by rfl, by decide +kernel, by decide +kernel⟩
theorem c_41 : Chk t 41 d_41 (top 61) := ⟨s_41, m_41, fun K f fd F => FunD.bindsN F fun _ _ _ _ _ _ us hl => match us, hl with
  | [_, _, _], _ => rfl, fun K f fd F n ks h => by
  exact absurd h (by simp [t])⟩
theorem m_42 : mSs ⟨{ t with fn := t.fn.take 42 }, d_42.N, defScope (top 62), fun _ => true⟩ (mutsS b_42) b_42 (defBody (top 62)) = true := by decide +kernel
theorem s_42 : FnScope d_42.N d_42.ps (defScope (top 62)) := ⟨by rfl, by rfl, by rfl, by decide +kernel, by rfl, by decide +kernel, by decide +kernel⟩
theorem c_42 : Chk t 42 d_42 (top 62) := ⟨s_42, m_42, fun K f fd F => FunD.bindsN F fun _ _ _ _ _ _ us hl => match us, hl with
  | [_, _, _], _ => rfl, fun K f fd F n ks h => by
  exact absurd h (by simp [t])⟩
theorem m_43 : mSs ⟨{ t with fn := t.fn.take 43 }, d_43.N, defScope (top 63), fun _ => true⟩ (mutsS b_43) b_43 (defBody (top 63)) = true := by decide +kernel
theorem s_43 : FnScope d_43.N d_43.ps (defScope (top 63)) := ⟨by rfl, by rfl, by rfl, by decide +kernel, by rfl, by decide +kernel, by decide +kernel⟩
theorem c_43 : Chk t 43 d_43 (top 63) := ⟨s_43, m_43, fun K f fd F => FunD.bindsN F fun _ _ _ _ _ _ us hl => match us, hl with
  | [_, _], _ => rfl, fun K f fd F n ks h => by
  exact absurd h (by simp [t])⟩
theorem m_44 : mSs ⟨{ t with fn := t.fn.take 44 }, d_44.N, defScope (top 64), fun _ => true⟩ (mutsS b_44) b_44 (defBody (top 64)) = true := by decide +kernel
theorem s_44 : FnScope d_44.N d_44.ps (defScope (top 64)) := ⟨by rfl, by rfl, by rfl, by decide +kernel, by rfl, by decide +kernel, by decide +kernel⟩
theorem c_44 : Chk t 44 d_44 (top 64) := ⟨s_44, m_44, fun K f fd F => FunD.bindsN F fun _ _ _ _ _ _ us hl => match us, hl with
  | [_, _], _ => rfl, fun K f fd F n ks h => by
  exact absurd h (by simp [t])⟩
theorem m_45 : mSs ⟨{ t with fn := t.fn.take 45 }, d_45.N, defScope (top 65), fun _ => true⟩ (mutsS b_45) b_45 (defBody (top 65)) = true := by decide +kernel
theorem s_45 : FnScope d_45.N d_45.ps (defScope (top 65)) := ⟨by rfl, by rfl, by rfl, by decide +kernel, by rfl, by decide +kernel, by decide +kernel⟩
theorem c_45 : Chk t 45 d_45 (top 65) := ⟨s_45, m_45, fun K f fd F => FunD.bindsN F fun _ _ _ _ _ _ us hl => match us, hl with
  | [_, _, _], _ => rfl, fun K f fd F n ks h => by
  exact absurd h (by simp [t])⟩
theorem m_46 : mSs ⟨{ t with fn := t.fn.take 46 }, d_46.N, defScope (top 66), fun _ => true⟩ (mutsS b_46) b_46 (defBody (top 66)) = true := by decide +kernel
theorem s_46 : FnScope d_46.N d_46.ps (defScope (top 66)) := ⟨by rfl, by rfl, by rfl, by decide +kernel, by rfl, by decide +kernel, by decide +kernel⟩
theorem c_46 : Chk t 46 d_46 (top 66) := ⟨s_46, m_46, fun K f fd F => FunD.bindsN F fun _ _ _ _ _ _ us hl => match us, hl with
  | [_], _ => rfl, fun K f fd F n ks h => by
  exact absurd h (by simp [t])⟩
theorem m_47 : mSs ⟨{ t with fn := t.fn.take 47 }, d_47.N, defScope (top 67), fun _ => true⟩ (mutsS b_47) b_47 (defBody (top 67)) = true := by decide +kernel
theorem s_47 : FnScope d_47.N d_47.ps (defScope (top 67)) := ⟨by rfl, by rfl, by rfl, by decide +kernel, by rfl, by decide +kernel, by decide +kernel⟩
theorem c_47 : Chk t 47 d_47 (top 67) := ⟨s_47, m_47, fun K f fd F => FunD.bindsN F fun _ _ _ _ _ _ us hl => match us, hl with
  | [_], _ => rfl, fun K f fd F n ks h => by
  exact absurd h (by simp [t])⟩
def fn : List He.DefD := [defOf d_0 (top 3), defOf d_1 (top 4), defOf d_2 (top 5), defOf d_3 (top 9), defOf d_4 (top 10), defOf d_5 (top 11), defOf d_6 (top 12), defOf d_7 (top 20), defOf d_8 (top 22), defOf d_9 (top 24), defOf d_10 (top 25), defOf d_11 (top 26), defOf d_12 (top 27), defOf d_13 (top 29), defOf d_14 (top 30), defOf d_15 (top 31), defOf d_16 (top 33), defOf d_17 (top 34), defOf d_18 (top 36), defOf d_19 (top 38), defOf d_20 (top 39), defOf d_21 (top 41), defOf d_22 (top 42), defOf d_23 (top 43), defOf d_24 (top 44), defOf d_25 (top 45), defOf d_26 (top 46), defOf d_27 (top 47), defOf d_28 (top 48), defOf d_29 (top 49), defOf d_30 (top 50), defOf d_31 (top 51), defOf d_32 (top 52), defOf d_33 (top 53), defOf d_34 (top 54), defOf d_35 (top 55), defOf d_36 (top 56), defOf d_37 (top 57), defOf d_38 (top 58), defOf d_39 (top 59), defOf d_40 (top 60), defOf d_41 (top 61), defOf d_42 (top 62), defOf d_43 (top 63), defOf d_44 (top 64), defOf d_45 (top 65), defOf d_46 (top 66), defOf d_47 (top 67)]
def fa : List He.Fa := T.map fun d => .glo d.nm
theorem tab : ∀ (g : Nat) (d : Fd), T[g]? = some d → ∃ st, Chk t g d st ∧ fa[g]? = some (.glo d.nm) ∧ fn[g]? = some (defOf d st) := by
  intro g d h
  match g, h with
  | 0, h => cases h; exact ⟨_, c_0, rfl, rfl⟩
  | 1, h => cases h; exact ⟨_, c_1, rfl, rfl⟩
  | 2, h => cases h; exact ⟨_, c_2, rfl, rfl⟩
  | 3, h => cases h; exact ⟨_, c_3, rfl, rfl⟩
  | 4, h => cases h; exact ⟨_, c_4, rfl, rfl⟩
  | 5, h => cases h; exact ⟨_, c_5, rfl, rfl⟩
  | 6, h => cases h; exact ⟨_, c_6, rfl, rfl⟩
  | 7, h => cases h; exact ⟨_, c_7, rfl, rfl⟩
  | 8, h => cases h; exact ⟨_, c_8, rfl, rfl⟩
  | 9, h => cases h; exact ⟨_, c_9, rfl, rfl⟩
  | 10, h => cases h; exact ⟨_, c_10, rfl, rfl⟩
  | 11, h => cases h; exact ⟨_, c_11, rfl, rfl⟩
  | 12, h => cases h; exact ⟨_, c_12, rfl, rfl⟩
  | 13, h => cases h; exact ⟨_, c_13, rfl, rfl⟩
  | 14, h => cases h; exact ⟨_, c_14, rfl, rfl⟩
  | 15, h => cases h; exact ⟨_, c_15, rfl, rfl⟩
  | 16, h => cases h; exact ⟨_, c_16, rfl, rfl⟩
  | 17, h => cases h; exact ⟨_, c_17, rfl, rfl⟩
  | 18, h => cases h; exact ⟨_, c_18, rfl, rfl⟩
  | 19, h => cases h; exact ⟨_, c_19, rfl, rfl⟩
  | 20, h => cases h; exact ⟨_, c_20, rfl, rfl⟩
  | 21, h => cases h; exact ⟨_, c_21, rfl, rfl⟩
  | 22, h => cases h; exact ⟨_, c_22, rfl, rfl⟩
  | 23, h => cases h; exact ⟨_, c_23, rfl, rfl⟩
  | 24, h => cases h; exact ⟨_, c_24, rfl, rfl⟩
  | 25, h => cases h; exact ⟨_, c_25, rfl, rfl⟩
  | 26, h => cases h; exact ⟨_, c_26, rfl, rfl⟩
  | 27, h => cases h; exact ⟨_, c_27, rfl, rfl⟩
  | 28, h => cases h; exact ⟨_, c_28, rfl, rfl⟩
  | 29, h => cases h; exact ⟨_, c_29, rfl, rfl⟩
  | 30, h => cases h; exact ⟨_, c_30, rfl, rfl⟩
  | 31, h => cases h; exact ⟨_, c_31, rfl, rfl⟩
  | 32, h => cases h; exact ⟨_, c_32, rfl, rfl⟩
  | 33, h => cases h; exact ⟨_, c_33, rfl, rfl⟩
  | 34, h => cases h; exact ⟨_, c_34, rfl, rfl⟩
  | 35, h => cases h; exact ⟨_, c_35, rfl, rfl⟩
  | 36, h => cases h; exact ⟨_, c_36, rfl, rfl⟩
  | 37, h => cases h; exact ⟨_, c_37, rfl, rfl⟩
  | 38, h => cases h; exact ⟨_, c_38, rfl, rfl⟩
  | 39, h => cases h; exact ⟨_, c_39, rfl, rfl⟩
  | 40, h => cases h; exact ⟨_, c_40, rfl, rfl⟩
  | 41, h => cases h; exact ⟨_, c_41, rfl, rfl⟩
  | 42, h => cases h; exact ⟨_, c_42, rfl, rfl⟩
  | 43, h => cases h; exact ⟨_, c_43, rfl, rfl⟩
  | 44, h => cases h; exact ⟨_, c_44, rfl, rfl⟩
  | 45, h => cases h; exact ⟨_, c_45, rfl, rfl⟩
  | 46, h => cases h; exact ⟨_, c_46, rfl, rfl⟩
  | 47, h => cases h; exact ⟨_, c_47, rfl, rfl⟩
  | g + 48, h => cases h
end Lk41
end
section
namespace Lk41
open PySem PySem.Spec PyProof.Rows L2
abbrev Ro : PySem.W.OpenRow := PySem.W.OpenLaw.row row
def ex (K : PySem.W.Frag) : Bool := R.globB K t.fr gl t.bf
abbrev hk : PySem.W.Hook := R.hookR 4 ex fa fn
def ob (s : PySem.W.SharedT) : R.AlR := R.obsRG 4 ex fa fn (HandSHeadRun.getT s)
theorem ob_eq (s : PySem.W.SharedT) : ob s = hk.obs s.abs := R.obsRG_eq (HandSHeadRun.getT_eq s)
def loose0 : List Str := ["is_whole", "are_wholes", "is_between", "ZERO", "ONE", "is_ratio", "is_number", "ratio", "is_below", "FindError", "InvalidSet", "InvalidNumbers", "InvalidLimits", "MOST_COUNT", "check_numbers", "check_limits", "is_group", "check_group", "sets_within", "corner_with", "rising", "called_by", "many_up", "share_at"]
def loose1 : List Str := ["worths_for", "check_some_numbers", "share", "share_worths", "_law_well", "_law_draw", "_law_pick", "_law_low", "_law_add", "_law_sub", "_law_mul", "_law_below", "_law_greater", "_law_sets_of", "_law_all_sets", "_law_any_part", "_law_mark", "_law_marks", "_law_level", "_law_low_level", "_law_edge", "_law_is_in", "_law_steps", "_law_order"]
def loose2 : List Str := ["_law_stepped", "_law_share", "_law_worths", "_law_worth_at", "_law_greatest", "_law_right"]
def loose : List Str := loose0 ++ (loose1 ++ (loose2))
theorem headRun (w : World) : HandSHeadRun.RunEqI Ro (PySem.W.view Ro.prog [0, 1, 67]) hk ob 20000 loose w := by
  unfold HandSHeadRun.RunEqI
  kernel_rfl
end Lk41
end
section
open PySem PySem.W PySem.Calls PyProof.Rows
theorem Lk41.bd (K : PySem.W.Frag) (f : Addr) (fd : FuncData) (st : Stmt) (h : Lk41.fn[47]? = some (R.defOf Lk41.d_47 st)) (F : L2.FunD K Lk41.d_47.nm Lk41.d_47.nm (L2.defArgs st) (L2.defBody st) (L2.defScope st) [] [] f fd) : ∀ (s : Shared) (u : Value), BindsTo s fd ⟨[u], []⟩ [("script", u)] := by
  have e : R.defOf Lk41.d_47 (Lk41.top 67) = R.defOf Lk41.d_47 st := Option.some.inj h
  have e1 : L2.defArgs (Lk41.top 67) = L2.defArgs st := congrArg He.DefD.params e
  rw [← e1] at F
  have b := L2.FunD.bindsA (ps := ["script"]) F fun _ _ _ _ _ _ us hl => match us, hl with | [_], _ => rfl
  exact fun s u => b s [u] rfl
theorem Lk41.fin (math : ∀ ns : List Int, ns.length ≤ 63 → ∃ w, R.FnT (Lk41.gl.map (·.2)) Lk41.T 48 47 [.d (.list (ns.map .int))] [] = .ok (.d (.bool true)) w) : PySem.Challenge.rw_surefinds_k41_whole_shares_and_worths.Holds := by
  w_on; o_law
  refine HandSHeadRun.head_imp (r := OpenLaw.row PySem.Challenge.rw_surefinds_k41_whole_shares_and_worths) (q := view (OpenLaw.row PySem.Challenge.rw_surefinds_k41_whole_shares_and_worths).prog [0, 1, 67]) (H := Lk41.hk) (ob := Lk41.ob) (M := 20000) (loose := Lk41.loose) (d := HandSHeadRun.topDef (OpenLaw.row PySem.Challenge.rw_surefinds_k41_whole_shares_and_worths).prog 67) (kwd := []) Lk41.ob_eq
    Lk41.headRun (by kernel_rfl) (by kernel_rfl) (by kernel_rfl) (by rfl) (by first | assumption | decide +kernel) (by decide +kernel) ⟨rfl, rfl, rfl, rfl, rfl, by decide +kernel⟩ ?hw ?hc
  case hw => w_witness2
  case hc =>
    exact R.law_top (l := PySem.Challenge.rw_surefinds_k41_whole_shares_and_worths) (n := 63) (g := 47) (d := Lk41.d_47) (x := "script") (t := Lk41.t) (T := Lk41.T) (gl := Lk41.gl) rfl (by decide) (by kernel_rfl) rfl rfl (by kernel_rfl) ⟨rfl, by decide, by decide⟩ (fun _ => rfl) rfl
      (fun g => by
        show (Lk41.T.map fun d => (d.nm, d.ps))[g]? = _
        rw [List.getElem?_map]) Lk41.tab Lk41.bd math
end
section
namespace Lk41
open PySem R
abbrev gv : List PyData := gl.map (·.2)
/-- the def f at work -/
noncomputable abbrev run (f : Nat) : List Vl → Wd → Res Vl := FnT gv T (f + 1) f
theorem to {n f : Nat} (h : f < n) : FnT gv T n f = run f := FnT_lt h
abbrev rt (r : Int × Int) : PyData := .tuple [.int r.1, .int r.2]
def lm : Option (Int × Int) → PyData
  | none => .none
  | some r => rt r
abbrev cr (c : List (Option (Int × Int))) : PyData := .tuple (c.map lm)
abbrev li (l : List Int) : PyData := .tuple (l.map .int)
abbrev br (b : List Int × List (Option (Int × Int))) : PyData := .tuple [li b.1, cr b.2]
theorem f_0 (x : PyData) (w : Wd) : run 0 [.d x] w = .ok (.d (.bool (isiV .int x && !isiV .bool x))) w := by
  rw [run, run_at (d := d_0) rfl]
  simp [runD, d_0, b_0, getV]
  cases x <;> simp [isiV]
theorem f_1 (r : Int × Int) (w : Wd) : run 1 [.d (rt r), .d (.int 2)] w = .ok (.d (.bool true)) w := by
  rw [run, run_at (d := d_1) rfl]
  simp [runD, d_1, b_1, getV, isiV, op2V, biV, asSeq, demE, escI, escV, wipeE, gath, to, f_0, sizeLine, asBools]
theorem f_2 (v a b : Int) (w : Wd) : run 2 [.d (.int v), .d (.int a), .d (.int b)] w = .ok (.d (.bool (decide (a ≤ v) && decide (v ≤ b)))) w := by
  rw [run, run_at (d := d_2) rfl]
  by_cases h : a ≤ v <;> simp [runD, d_2, b_2, getV, to, f_0, isiV, op2V, leV, h]
theorem f_3 (r : Int × Int) (w : Wd) : run 3 [.d (rt r)] w = .ok (.d (.bool (decide (0 < r.2) && decide (Nat.gcd r.1.natAbs r.2.natAbs = 1)))) w := by
  rw [run, run_at (d := d_3) rfl]
  by_cases h : 0 < r.2 <;> simp [runD, d_3, b_3, getV, to, f_1, op2V, gtV, h, ixV, at?, biV]
  omega
theorem f_4 (r : Int × Int) (w : Wd) : run 4 [.d (rt r)] w = .ok (.d (.bool (decide (0 < r.2) && (decide (Nat.gcd r.1.natAbs r.2.natAbs = 1) && (decide (0 ≤ r.1) && decide (r.1 ≤ r.2)))))) w := by
  rw [run, run_at (d := d_4) rfl]
  by_cases h : 0 < r.2 ∧ Nat.gcd r.1.natAbs r.2.natAbs = 1
  · by_cases h2 : 0 ≤ r.1 <;> simp [runD, d_4, b_4, getV, to, f_3, op2V, leV, h, ixV, at?, h2]
  · have q : (decide (0 < r.2) && decide (Nat.gcd r.1.natAbs r.2.natAbs = 1)) = false := by
      simp only [Bool.and_eq_false_iff, decide_eq_false_iff_not]
      by_cases a : 0 < r.2
      · exact .inr fun b => h ⟨a, b⟩
      · exact .inl a
    simp only [Bool.and_eq_false_iff, decide_eq_false_iff_not] at q
    rcases q with q | q <;> simp [runD, d_4, b_4, getV, to, f_3, op2V, leV, ixV, at?, q]
theorem f_6 (a b : Int × Int) (h1 : mulOk a.1 b.2 = true) (h2 : mulOk b.1 a.2 = true) (w : Wd) : run 6 [.d (rt a), .d (rt b)] w = .ok (.d (.bool (decide (a.1 * b.2 < b.1 * a.2)))) w := by
  rw [run, run_at (d := d_6) rfl]
  simp [runD, d_6, b_6, getV, op2V, ixV, at?, mulV, h1, h2, ltV]
/-- numbers that multiply in line -/
def Sm (l : Option (Int × Int)) : Prop := ∀ r, l = some r → r.1.natAbs < 2 ^ 200 ∧ r.2.natAbs < 2 ^ 200
theorem mul_sm {i j : Int} (h : i.natAbs < 2 ^ 200) (g : j.natAbs < 2 ^ 200) : mulOk i j = true := by
  have a := PySem.intBits_le_iff.mpr h
  have b := PySem.intBits_le_iff.mpr g
  unfold mulOk
  rw [decide_eq_true (show Builtin.Int.intBits i + Builtin.Int.intBits j ≤ 134217728 by omega)]
  simp
theorem one_sm : ((1 : Int), (1 : Int)).1.natAbs < 2 ^ 200 ∧ ((1 : Int), (1 : Int)).2.natAbs < 2 ^ 200 := ⟨Nat.one_lt_two_pow (by decide), Nat.one_lt_two_pow (by decide)⟩
theorem Sm.get {l : Option (Int × Int)} (h : Sm l) : (l.getD (1, 1)).1.natAbs < 2 ^ 200 ∧ (l.getD (1, 1)).2.natAbs < 2 ^ 200 := by
  cases l with
  | none => exact one_sm
  | some r => exact h r rfl
def below (a b : Int × Int) : Bool := decide (a.1 * b.2 < b.1 * a.2)
def lies (a b : List (Option (Int × Int))) : Bool := !((a.zip b).any fun p => below (p.2.getD (1, 1)) (p.1.getD (1, 1)))
def corners (bs : List (List Int × List (Option (Int × Int)))) (l : List Int) : List (List (Option (Int × Int))) := (bs.filter fun b => decide (b.1 = l)).map (·.2)
/-- the frame's data -/
abbrev fr (c : Int) (ls : List (List Int)) : PyData := .tuple [.int c, .tuple (ls.map li)]
abbrev Bar := List Int × List (Option (Int × Int))
def above (ls : List (List Int)) (l : List Int) : List (List Int) := ls.filter fun x => decide (x ≠ l) && decide ((l.filter fun i => decide (i ∉ x)).length = 0)
def upBad (bs : List Bar) (l o : List Int) : Bool := !((corners bs l).all fun c => (corners bs o).any fun d => lies c d)
def goUp (ls : List (List Int)) (bs : List Bar) : Bool := !(ls.any fun l => (above ls l).any fun o => upBad bs l o)
structure Ok (ls : List (List Int)) (bs : List Bar) : Prop where
  l : ls.length ≤ sizeLine
  b : bs.length ≤ sizeLine
  li : ∀ l ∈ ls, l.length ≤ sizeLine
  c : ∀ b ∈ bs, (∀ x ∈ b.2, Sm x) ∧ b.2.length ≤ sizeLine
theorem corners_mem {bs : List Bar} {l : List Int} {c : List (Option (Int × Int))} (h : c ∈ corners bs l) : ∃ b ∈ bs, b.2 = c := by
  obtain ⟨b, hb, rfl⟩ := List.mem_map.mp h
  exact ⟨b, (List.mem_filter.mp hb).1, rfl⟩
theorem corners_len (bs : List Bar) (l : List Int) : (corners bs l).length ≤ bs.length := by
  unfold corners
  rw [List.length_map]
  exact List.length_filter_le ..
theorem cut_tail {α : Type} (xs : List α) : cut xs (some 1) none = xs.tail := by
  cases xs with
  | nil => rfl
  | cons x r => simp [cut, slIx]
theorem asInts_int : ∀ a : List Int, asInts (a.map .int) = some a
  | [] => rfl
  | x :: r => by simp [asInts, asInts_int r]
structure Lot (n : Nat) (l : List Int) : Prop where
  ne : l ≠ []
  b : ∀ i ∈ l, 0 ≤ i ∧ i ≤ (n : Int) - 1
  up : ∀ p ∈ l.zip l.tail, p.1 < p.2
  len : l.length ≤ sizeLine
theorem f_9 (n : Nat) (l : List Int) (h : Lot n l) (w : Wd) : run 9 [.d (.int n), .d (li l)] w = .ok (.d (.bool true)) w := by
  rw [run, run_at (d := d_9) rfl]
  have e := eq_pl (x := li l) (y := .tuple []) (Pl.tup (li_pl _)) (Pl.tup (n := 0) .nil) (by decide) (by decide)
  simp [h.ne] at e
  simp [runD, d_9, b_9, getV, isiV, op2V, e, asSeq, demE, escI, escV, subV]
  rw [gath_mapA .int (fun _ => .bool true)]
  · simp [biV, demE, escI, escV, getV, slV, cut_tail, bound?, asSeq]
    rw [← List.map_tail, zip_map, gath_mapA _ (fun _ => .bool true)]
    · simp [biV]
    · intro p hp
      simp [bindT, bindTs, asSeq, wipeE, getV, ltV, op2V, h.up p hp]
    · have := h.len
      simp
      omega
  · intro i hi
    simp [wipeE, getV, to, f_2, op2V, subV]
    simpa using h.b i hi
  · simpa using h.len
/-- a number between 0 and 1 in lowest terms -/
structure Num (r : Int × Int) : Prop where
  b : 0 < r.2
  g : Nat.gcd r.1.natAbs r.2.natAbs = 1
  z : 0 ≤ r.1
  o : r.1 ≤ r.2
structure Fr (n : Nat) (ls : List (List Int)) : Prop where
  k : 1 ≤ n ∧ n ≤ 5
  ne : ls ≠ []
  l : ∀ l ∈ ls, Lot n l
  up : ∀ p ∈ ls.zip ls.tail, lexLt p.1 p.2 = true
  len : ls.length ≤ sizeLine
theorem lots_pl (ls : List (List Int)) : PlA 1 (ls.map li) := PlA.of fun x hx => by
  obtain ⟨l, _, rfl⟩ := List.mem_map.mp hx
  exact .tup (li_pl l)
structure GB (n : Nat) (b : Bar) : Prop where
  l : Lot n b.1
  c : b.2.length = n
  m : ∀ x ∈ b.2, ∀ r, x = some r → Num r
  i : ∀ p ∈ b.2.zipIdx, p.1 = none ∨ (p.2 : Int) ∈ b.1
theorem zipIdx_take {α : Type} (xs : List α) : ∀ p ∈ xs.zipIdx, p.2 < xs.length := by
  rintro ⟨x, i⟩ hp
  have := List.mem_zipIdx_iff_getElem?.mp hp
  exact (List.getElem?_eq_some_iff.mp this).1
/-- bars that pass the check -/
structure GBs (n : Nat) (ls : List (List Int)) (bs : List Bar) : Prop where
  b : ∀ b ∈ bs, GB n b
  len : bs.length ≤ 240
  per : ∀ l, (corners bs l).length < 60
theorem cut_take {α : Type} (xs : List α) (i : Nat) (h : i ≤ xs.length) : cut xs none (some (i : Int)) = xs.take i := by
  have e : ¬ ((i : Int) < 0) := by omega
  simp only [cut, slIx, if_neg e, Int.toNat_natCast, List.drop_zero, Nat.sub_zero]
  rw [Nat.min_eq_left h]
def leR (a b : Int × Int) : Bool := decide (a.1 * b.2 ≤ b.1 * a.2)
structure Gr (b t : Int) : Prop where
  t1 : 1 ≤ t
  t2 : t ≤ b
  bb : b < 10 ^ 30
  big : 10 ^ 6 ≤ t → t / 10 ^ 6 * 999999 + 999 ≤ b
structure NumS (r : Int × Int) : Prop extends Num r where
  s : r.2.natAbs < 2 ^ 200
theorem num_low {n m : Int} (h0 : 0 ≤ n) (h1 : n ≤ m) (hm : 0 < m) (hs : m.natAbs < 2 ^ 200) : NumS (n / (Nat.gcd n.natAbs m.natAbs), m / (Nat.gcd n.natAbs m.natAbs)) := by
  obtain ⟨a, rfl⟩ := Int.eq_ofNat_of_zero_le h0
  obtain ⟨b, rfl⟩ := Int.eq_ofNat_of_zero_le (Int.le_of_lt hm)
  simp only [Int.natAbs_natCast] at hs ⊢
  have hb : 0 < b := by omega
  have hab : a ≤ b := by omega
  have gp : 0 < Nat.gcd a b := Nat.gcd_pos_of_pos_right _ hb
  have gb : Nat.gcd a b ≤ b := Nat.gcd_le_right _ hb
  refine ⟨⟨?_, ?_, ?_, ?_⟩, ?_⟩ <;> simp only [← Int.natCast_ediv, Int.natAbs_natCast]
  · exact Int.natCast_pos.mpr (Nat.div_pos gb gp)
  · exact Nat.gcd_div_gcd_div_gcd_of_pos_right hb
  · exact Int.natCast_nonneg _
  · exact Int.ofNat_le.mpr (Nat.div_le_div_right hab)
  · exact Nat.lt_of_le_of_lt (Nat.div_le_self ..) hs
abbrev Co := List (Option (Int × Int))
def gt (c : Co) (i : Nat) : Int × Int := (c[i]?.getD none).getD (1, 1)
def ins (a b : Co) : Bool := (List.range a.length).all fun i => leR (gt a i) (gt b i)
def wiA (x : Int × Int) : Option (Int × Int) → Bool
  | none => true
  | some r => leR x r
def wi (x : List (Int × Int)) (c : Co) : Bool := (List.range c.length).all fun i => wiA (x[i]?.getD (1, 1)) (c[i]?.getD none)
def barred (bs : List Bar) (x : List (Int × Int)) (l : List Int) : Bool := bs.any fun b => decide (b.1 = l) && wi x b.2
def free (ls : List (List Int)) (bs : List Bar) (x : List (Int × Int)) : List (List Int) := [] :: ls.filter fun l => !barred bs x l
def byCells (ls : List (List Int)) (bs : List Bar) (cells : List (List (Int × Int))) : Bool := !cells.any fun x => ls.any fun l => decide (l ∉ free ls bs x) && (above ls l).any fun o => decide (o ∈ free ls bs x)
def byCorners (ls : List (List Int)) (bs : List Bar) : Bool := !bs.any fun b => decide (b.1 ∈ ls) && (above ls b.1).any fun o => !(bs.filter fun p => decide (p.1 = o)).any fun p => ins b.2 p.2
theorem leR_trans {a b c : Int × Int} (ha : 0 < a.2) (hb : 0 < b.2) (hc : 0 < c.2) (h1 : leR a b = true) (h2 : leR b c = true) : leR a c = true := by
  simp only [leR, decide_eq_true_eq] at *
  have e1 := Int.mul_le_mul_of_nonneg_right h1 (Int.le_of_lt hc)
  have e2 := Int.mul_le_mul_of_nonneg_right h2 (Int.le_of_lt ha)
  refine Int.le_of_mul_le_mul_right (a := b.2) ?_ hb
  calc a.1 * c.2 * b.2 = a.1 * b.2 * c.2 := by rw [Int.mul_right_comm]
    _ ≤ b.1 * a.2 * c.2 := e1
    _ = b.1 * c.2 * a.2 := by rw [Int.mul_right_comm]
    _ ≤ c.1 * b.2 * a.2 := e2
    _ = c.1 * a.2 * b.2 := by rw [Int.mul_right_comm]
theorem leR_one {a : Int × Int} (h : Num a) : leR a (1, 1) = true := by
  have := h.o
  simpa [leR] using this
theorem leR_refl (a : Int × Int) : leR a a = true := by simp [leR]
theorem one_num : NumS (1, 1) := ⟨⟨by decide, by decide, by decide, by decide⟩, Nat.one_lt_two_pow (by decide)⟩
theorem mem_corners {bs : List Bar} {l : List Int} {c : Co} : c ∈ corners bs l ↔ (l, c) ∈ bs := by
  unfold corners
  simp only [List.mem_map, List.mem_filter, decide_eq_true_eq]
  constructor
  · rintro ⟨⟨a, b⟩, ⟨h, rfl⟩, rfl⟩
    exact h
  · exact fun h => ⟨(l, c), ⟨h, rfl⟩, rfl⟩
theorem above_mem {ls : List (List Int)} {l o : List Int} : o ∈ above ls l ↔ o ∈ ls ∧ o ≠ l ∧ ∀ i ∈ l, i ∈ o := by
  simp [above]
theorem ins_iff {a b : Co} : ins a b = true ↔ ∀ i < a.length, leR (gt a i) (gt b i) = true := by
  simp [ins]
theorem lies_ins {a b : Co} (h : a.length = b.length) : lies a b = ins a b := by
  rw [Bool.eq_iff_iff, ins_iff]
  unfold lies
  rw [Bool.not_eq_true', List.any_eq_false]
  constructor
  · intro H i hi
    have hz : i < (a.zip b).length := by rw [List.length_zip]; omega
    have := H _ (List.getElem_mem hz)
    rw [List.getElem_zip] at this
    simp only [below, decide_eq_true_eq] at this
    simp only [gt, leR, List.getElem?_eq_getElem hi, List.getElem?_eq_getElem (show i < b.length by omega), Option.getD_some, decide_eq_true_eq]
    omega
  · intro H p hp
    obtain ⟨i, hi, rfl⟩ := List.mem_iff_getElem.mp hp
    rw [List.length_zip] at hi
    have := H i (by omega)
    rw [List.getElem_zip]
    simp only [below, decide_eq_true_eq]
    simp only [gt, leR, List.getElem?_eq_getElem (show i < a.length by omega), List.getElem?_eq_getElem (show i < b.length by omega), Option.getD_some, decide_eq_true_eq] at this
    omega
theorem goUp_iff {ls : List (List Int)} {bs : List Bar} : goUp ls bs = true ↔ ∀ l ∈ ls, ∀ o ∈ above ls l, ∀ c, (l, c) ∈ bs → ∃ d, (o, d) ∈ bs ∧ lies c d = true := by
  unfold goUp upBad
  rw [Bool.not_eq_true', List.any_eq_false]
  constructor
  · intro H l hl o ho c hc
    have h1 := H l hl
    rw [Bool.not_eq_true, List.any_eq_false] at h1
    have h2 := h1 o ho
    rw [Bool.not_eq_true, Bool.not_eq_false', List.all_eq_true] at h2
    have h3 := h2 c (mem_corners.mpr hc)
    rw [List.any_eq_true] at h3
    obtain ⟨d, hd, e⟩ := h3
    exact ⟨d, mem_corners.mp hd, e⟩
  · intro H l hl
    rw [Bool.not_eq_true, List.any_eq_false]
    intro o ho
    rw [Bool.not_eq_true, Bool.not_eq_false', List.all_eq_true]
    intro c hc
    obtain ⟨d, hd, e⟩ := H l hl o ho c (mem_corners.mp hc)
    exact List.any_eq_true.mpr ⟨d, mem_corners.mpr hd, e⟩
theorem byCorners_iff {ls : List (List Int)} {bs : List Bar} : byCorners ls bs = true ↔ ∀ l ∈ ls, ∀ o ∈ above ls l, ∀ c, (l, c) ∈ bs → ∃ d, (o, d) ∈ bs ∧ ins c d = true := by
  unfold byCorners
  rw [Bool.not_eq_true', List.any_eq_false]
  constructor
  · intro H l hl o ho c hc
    have h1 := H _ hc
    rw [Bool.not_eq_true, Bool.and_eq_false_iff] at h1
    rcases h1 with h1 | h1
    · simp [hl] at h1
    · rw [List.any_eq_false] at h1
      have h2 := h1 o ho
      rw [Bool.not_eq_true, Bool.not_eq_false', List.any_eq_true] at h2
      obtain ⟨⟨l2, d⟩, h3, h4⟩ := h2
      obtain ⟨h5, h6⟩ := List.mem_filter.mp h3
      simp only [decide_eq_true_eq] at h6
      subst h6
      exact ⟨d, h5, h4⟩
  · rintro H ⟨l, c⟩ hc
    rw [Bool.not_eq_true, Bool.and_eq_false_iff]
    by_cases hl : l ∈ ls
    · refine .inr ?_
      rw [List.any_eq_false]
      intro o ho
      rw [Bool.not_eq_true, Bool.not_eq_false', List.any_eq_true]
      obtain ⟨d, h1, h2⟩ := H l hl o ho c hc
      exact ⟨(o, d), List.mem_filter.mpr ⟨h1, by simp⟩, h2⟩
    · exact .inl (by simp [hl])
theorem up_corners {c : Nat} {ls : List (List Int)} {bs : List Bar} (h : ∀ b ∈ bs, b.2.length = c) : byCorners ls bs = goUp ls bs := by
  rw [Bool.eq_iff_iff, goUp_iff, byCorners_iff]
  constructor
  · intro H l hl o ho c hc
    obtain ⟨d, h1, h2⟩ := H l hl o ho c hc
    exact ⟨d, h1, by rw [lies_ins (by rw [h _ hc, h _ h1])]; exact h2⟩
  · intro H l hl o ho c hc
    obtain ⟨d, h1, h2⟩ := H l hl o ho c hc
    exact ⟨d, h1, by rw [← lies_ins (by rw [h _ hc, h _ h1])]; exact h2⟩
structure CellsOk (c : Nat) (bs : List Bar) (cells : List (List (Int × Int))) : Prop where
  len : ∀ x ∈ cells, x.length = c
  g : ∀ x ∈ cells, ∀ r ∈ x, NumS r
  f : ∀ b ∈ bs, b.2.map (·.getD (1, 1)) ∈ cells
theorem barred_iff {bs : List Bar} {x : List (Int × Int)} {l : List Int} : barred bs x l = true ↔ ∃ c, (l, c) ∈ bs ∧ wi x c = true := by
  simp only [barred, List.any_eq_true, Bool.and_eq_true, decide_eq_true_eq, Prod.exists]
  constructor
  · rintro ⟨l2, c, h, rfl, h2⟩
    exact ⟨c, h, h2⟩
  · rintro ⟨c, h, h2⟩
    exact ⟨l, c, h, rfl, h2⟩
theorem not_free {ls : List (List Int)} {bs : List Bar} {x : List (Int × Int)} {l : List Int} (hl : l ∈ ls) (hn : l ≠ []) : l ∉ free ls bs x ↔ barred bs x l = true := by
  simp only [free, List.mem_cons, hn, false_or, List.mem_filter, hl, true_and, Bool.not_eq_true', Bool.not_eq_false]
theorem byCells_iff {ls : List (List Int)} {bs : List Bar} {cells : List (List (Int × Int))} (hn : ∀ l ∈ ls, l ≠ []) : byCells ls bs cells = true ↔ ∀ x ∈ cells, ∀ l ∈ ls, barred bs x l = true → ∀ o ∈ above ls l, barred bs x o = true := by
  simp only [byCells, Bool.not_eq_true', List.any_eq_false, List.any_eq_true, Bool.and_eq_true, decide_eq_true_eq, not_exists, not_and]
  constructor
  · intro H x hx l hl hb o ho
    have := H x hx l hl ((not_free hl (hn l hl)).mpr hb) o ho
    exact (not_free (above_mem.mp ho).1 (hn o (above_mem.mp ho).1)).mp this
  · intro H x hx l hl hb o ho
    exact (not_free (above_mem.mp ho).1 (hn o (above_mem.mp ho).1)).mpr (H x hx l hl ((not_free hl (hn l hl)).mp hb) o ho)
theorem wi_iff {x : List (Int × Int)} {c : Co} : wi x c = true ↔ ∀ i < c.length, ∀ r, c[i]?.getD none = some r → leR (x[i]?.getD (1, 1)) r = true := by
  simp only [wi, List.all_eq_true, List.mem_range]
  constructor
  · intro H i hi r hr
    have := H i hi
    rw [hr] at this
    exact this
  · intro H i hi
    cases hr : c[i]?.getD none with
    | none => rfl
    | some r => exact H i hi r hr
theorem gt_num {c : Co} (h : ∀ x ∈ c, ∀ r, x = some r → NumS r) (i : Nat) : NumS (gt c i) := by
  unfold gt
  cases hc : c[i]? with
  | none => exact one_num
  | some x =>
    cases x with
    | none => exact one_num
    | some r => exact h _ (List.mem_of_getElem? hc) r rfl
theorem up_cells {c : Nat} {ls : List (List Int)} {bs : List Bar} {cells : List (List (Int × Int))} (hn : ∀ l ∈ ls, l ≠ []) (h : ∀ b ∈ bs, b.2.length = c) (hm : ∀ b ∈ bs, ∀ x ∈ b.2, ∀ r, x = some r → NumS r) (hc : CellsOk c bs cells) : byCells ls bs cells = goUp ls bs := by
  rw [Bool.eq_iff_iff, goUp_iff, byCells_iff hn]
  constructor
  · intro H l hl o ho k hk
    have hx := hc.f _ hk
    have hb : barred bs (k.map (·.getD (1, 1))) l = true := barred_iff.mpr ⟨k, hk, wi_iff.mpr fun i hi r hr => by
      rw [List.getElem?_map, List.getElem?_eq_getElem hi]
      rw [List.getElem?_eq_getElem hi] at hr
      simp only [Option.getD_some] at hr
      simp [hr, leR_refl]⟩
    obtain ⟨d, hd, hw⟩ := barred_iff.mp (H _ hx l hl hb o ho)
    refine ⟨d, hd, ?_⟩
    have hl1 := h _ hk
    have hl2 := h _ hd
    simp only at hl1 hl2
    rw [lies_ins (by omega), ins_iff]
    intro i hi
    have e : (k.map (·.getD (1, 1)))[i]?.getD (1, 1) = gt k i := by
      rw [List.getElem?_map, List.getElem?_eq_getElem hi, gt, List.getElem?_eq_getElem hi]
      rfl
    cases hr : d[i]?.getD none with
    | none =>
      have : gt d i = (1, 1) := by rw [gt, hr]; rfl
      rw [this]
      exact leR_one (gt_num (hm _ hk) i).toNum
    | some r =>
      have := wi_iff.mp hw i (by omega) r hr
      rw [e] at this
      rw [show gt d i = r by rw [gt, hr]; rfl]
      exact this
  · intro H x hx l hl hb o ho
    obtain ⟨k, hk, hw⟩ := barred_iff.mp hb
    obtain ⟨d, hd, hi⟩ := H l hl o ho k hk
    have hl1 := h _ hk
    have hl2 := h _ hd
    simp only at hl1 hl2
    rw [lies_ins (by omega), ins_iff] at hi
    refine barred_iff.mpr ⟨d, hd, wi_iff.mpr fun i hi2 r hr => ?_⟩
    have a1 := hi i (by omega)
    rw [show gt d i = r by rw [gt, hr]; rfl] at a1
    have xl := hc.len x hx
    have xe : x[i]?.getD (1, 1) = x[i]'(by omega) := by rw [List.getElem?_eq_getElem (by omega)]; rfl
    have xn : NumS (x[i]?.getD (1, 1)) := by
      rw [xe]
      exact hc.g x hx _ (List.getElem_mem _)
    have rn : NumS r := by
      have := gt_num (hm _ hd) i
      rwa [show gt d i = r by rw [gt, hr]; rfl] at this
    have kn := gt_num (hm _ hk) i
    refine leR_trans xn.b kn.b rn.b ?_ a1
    cases hq : k[i]?.getD none with
    | none =>
      rw [show gt k i = (1, 1) by rw [gt, hq]; rfl]
      exact leR_one xn.toNum
    | some q =>
      rw [show gt k i = q by rw [gt, hq]; rfl]
      exact wi_iff.mp hw i (by omega) q hq
/-- strictly ascending lists with the same elements -/
theorem asc_eq : ∀ {a b : List Int}, a.Pairwise (· < ·) → b.Pairwise (· < ·) → (∀ i, i ∈ a ↔ i ∈ b) → a = b
  | [], [], _, _, _ => rfl
  | [], y :: b, _, _, h => by simpa using (h y).mpr (List.mem_cons_self ..)
  | x :: a, [], _, _, h => by simpa using (h x).mp (List.mem_cons_self ..)
  | x :: a, y :: b, ha, hb, h => by
    rw [List.pairwise_cons] at ha hb
    have e : x = y := by
      rcases List.mem_cons.mp ((h x).mp (List.mem_cons_self ..)) with q | q
      · exact q
      · rcases List.mem_cons.mp ((h y).mpr (List.mem_cons_self ..)) with p | p
        · exact p.symm
        · have := hb.1 x q
          have := ha.1 y p
          omega
    subst e
    rw [asc_eq ha.2 hb.2 fun i => ?_]
    have hi := h i
    simp only [List.mem_cons] at hi
    constructor
    · intro q
      rcases hi.mp (.inr q) with p | p
      · have := ha.1 i q
        omega
      · exact p
    · intro q
      rcases hi.mpr (.inr q) with p | p
      · have := hb.1 i q
        omega
      · exact p
theorem lot_asc : ∀ {l : List Int}, (∀ p ∈ l.zip l.tail, p.1 < p.2) → l.Pairwise (· < ·)
  | [], _ => .nil
  | [x], _ => by simp
  | x :: y :: r, h => by
    have hr := lot_asc (l := y :: r) fun p hp => h p (by simpa using .inr hp)
    have hxy : x < y := h (x, y) (by simp)
    refine List.pairwise_cons.mpr ⟨fun z hz => ?_, hr⟩
    rcases List.mem_cons.mp hz with rfl | hz
    · exact hxy
    · have := (List.pairwise_cons.mp hr).1 z hz
      omega
/-- corners told above, too -/
def told (ls : List (List Int)) (bs : List Bar) : List Bar := bs ++ bs.flatMap fun b => (above ls b.1).map fun o => (o, b.2)
theorem told_up {n : Nat} {ls : List (List Int)} {bs : List Bar} (hl : ∀ l ∈ ls, Lot n l) (hb : ∀ b ∈ bs, Lot n b.1) : goUp ls (told ls bs) = true := by
  rw [goUp_iff]
  intro l hl1 o ho k hk
  have hz : lies k k = true := by rw [lies_ins rfl, ins_iff]; exact fun i _ => leR_refl _
  refine ⟨k, ?_, hz⟩
  unfold told at hk ⊢
  rcases List.mem_append.mp hk with hk | hk
  · exact List.mem_append.mpr (.inr (List.mem_flatMap.mpr ⟨(l, k), hk, List.mem_map.mpr ⟨o, ho, rfl⟩⟩))
  · obtain ⟨⟨l0, k0⟩, h0, h1⟩ := List.mem_flatMap.mp hk
    obtain ⟨o1, h2, h3⟩ := List.mem_map.mp h1
    injection h3 with h3 h4
    subst h3
    simp only at h4
    subst h4
    refine List.mem_append.mpr (.inr (List.mem_flatMap.mpr ⟨(l0, k0), h0, List.mem_map.mpr ⟨o, ?_, rfl⟩⟩))
    obtain ⟨a1, a2, a3⟩ := above_mem.mp h2
    obtain ⟨b1, b2, b3⟩ := above_mem.mp ho
    refine above_mem.mpr ⟨b1, ?_, fun i hi => b3 i (a3 i hi)⟩
    rintro rfl
    exact a2 (asc_eq (lot_asc (hl _ a1).up) (lot_asc (hb _ h0).up) fun i => ⟨b3 i, a3 i⟩)
/-- a corner of a lot -/
structure Cn (c : Nat) (l : List Int) (cs : List (Option (Int × Int))) : Prop where
  len : cs.length = c
  m : ∀ x ∈ cs, ∀ r, x = some r → NumS r
  i : ∀ p ∈ cs.zipIdx, p.1 = none ∨ (p.2 : Int) ∈ l
theorem Cn.set {c : Nat} {l : List Int} {cs : List (Option (Int × Int))} (h : Cn c l cs) {i : Nat} (hi : (i : Int) ∈ l) {r : Int × Int} (hr : NumS r) : Cn c l (cs.set i (some r)) := by
  refine ⟨by rw [List.length_set]; exact h.len, ?_, ?_⟩
  · intro x hx s hs
    rcases List.mem_or_eq_of_mem_set hx with hx | rfl
    · exact h.m x hx s hs
    · injection hs with hs
      exact hs ▸ hr
  · rintro ⟨x, j⟩ hp
    have hg := List.mem_zipIdx_iff_getElem?.mp hp
    simp only [List.getElem?_set] at hg
    by_cases q : i = j
    · subst q
      exact .inr hi
    · rw [if_neg q] at hg
      exact h.i (x, j) (List.mem_zipIdx_iff_getElem?.mpr hg)
theorem Cn.zero (c : Nat) (l : List Int) : Cn c l (List.replicate c none) := by
  refine ⟨List.length_replicate, ?_, ?_⟩
  · intro x hx r hr
    rw [List.eq_of_mem_replicate hx] at hr
    cases hr
  · rintro ⟨x, j⟩ hp
    have hg := List.mem_zipIdx_iff_getElem?.mp hp
    exact .inl (List.eq_of_mem_replicate (List.mem_of_getElem? hg))
theorem rep_none {f : Nat} (c : Nat) (hc : c ≤ 5) (env : En) (w : Wd) : kRep2 gv (FnT gv T f) (npT T) env [.d .none] (.d (.int c)) w = .ok (.d (.list ((List.replicate c none).map lm))) w := by
  have fc : fits c = true := decide_eq_true (Nat.le_trans hc (show 5 ≤ sizeLine by decide))
  have a1 : decide (-(2 ^ 63) ≤ (c : Int)) = true := decide_eq_true (by omega)
  have a2 : decide ((c : Int) < 2 ^ 63) = true := decide_eq_true (by omega)
  unfold kRep2
  have d1 : datas [Vl.d .none] = some [.none] := rfl
  simp only [d1, a1, a2, Int.toNat_natCast, List.length_cons, List.length_nil, Nat.zero_add, Nat.one_mul, fc, Bool.and_self, if_true]
  have d2 : (List.replicate c [PyData.none]).flatten = (List.replicate c none).map lm := by
    simp [lm]
  rw [d2]
theorem Lot.small {c : Nat} {l : List Int} (h : Lot c l) : l.length < 1073741824 := Nat.lt_of_le_of_lt h.len (by decide)
def sets : List Int → List (List Int)
  | [] => []
  | i :: r => [i] :: (sets r).map (i :: ·) ++ sets r
def setsN (c : Nat) : List (List Int) := sets ((List.range c).map fun (k : Nat) => (k : Int))
theorem sets_len : ∀ l : List Int, (sets l).length + 1 = 2 ^ l.length
  | [] => rfl
  | i :: r => by
    have := sets_len r
    simp [sets, Nat.pow_succ]
    omega
theorem sets_in : ∀ {l a : List Int}, a ∈ sets l → a.length ≤ l.length
  | [], _, h => by simp [sets] at h
  | i :: r, a, h => by
    simp only [sets, List.cons_append, List.mem_cons, List.mem_append, List.mem_map] at h
    rcases h with rfl | ⟨b, h, rfl⟩ | h
    · simp
    · simpa using sets_in h
    · exact Nat.le_succ_of_le (sets_in h)
/-- the last m of c -/
def tl (c m : Nat) : List Int := (List.range m).map fun (k : Nat) => (c : Int) - m + k
theorem tl_succ (c m : Nat) : tl c (m + 1) = ((c : Int) - 1 - m) :: tl c m := by
  unfold tl
  rw [List.range_succ_eq_map, List.map_cons, List.map_map]
  congr 1
  · omega
  · refine List.map_congr_left fun k _ => ?_
    simp
    omega
theorem tl_all (c : Nat) : tl c c = (List.range c).map fun (k : Nat) => (k : Int) := by
  unfold tl
  refine List.map_congr_left fun k _ => ?_
  omega
theorem sets_small {l : List Int} (h : l.length ≤ 5) : (sets l).length ≤ 31 := by
  have := sets_len l
  have := Nat.pow_le_pow_right (show 0 < 2 by decide) h
  omega
theorem sets_ok : ∀ c ∈ [1, 2, 3, 4, 5], setsN c ≠ [] ∧ (∀ l ∈ setsN c, l ≠ [] ∧ (∀ i ∈ l, 0 ≤ i ∧ i ≤ (c : Int) - 1) ∧ (∀ p ∈ l.zip l.tail, p.1 < p.2) ∧ l.length ≤ 5) ∧ (setsN c).Pairwise (fun a b => R.lexLt a b = true) := by decide +kernel
theorem pw_zip {α : Type} {R : α → α → Prop} : ∀ {xs : List α}, xs.Pairwise R → ∀ p ∈ xs.zip xs.tail, R p.1 p.2
  | [], _ => by simp
  | [x], _ => by simp
  | x :: y :: r, h => by
    intro p hp
    rw [List.tail_cons, List.zip_cons_cons] at hp
    rw [List.pairwise_cons] at h
    rcases List.mem_cons.mp hp with rfl | hp
    · exact h.1 y (List.mem_cons_self ..)
    · exact pw_zip h.2 p hp
theorem sets_at {c : Nat} (h : 1 ≤ c ∧ c ≤ 5) : c ∈ [1, 2, 3, 4, 5] := by
  simp
  omega
theorem sets_lot {c : Nat} (h : 1 ≤ c ∧ c ≤ 5) {l : List Int} (hl : l ∈ setsN c) : Lot c l := by
  obtain ⟨_, h1, _⟩ := sets_ok c (sets_at h)
  obtain ⟨a, b, d, e⟩ := h1 l hl
  exact ⟨a, b, d, Nat.le_trans e (by decide)⟩
theorem setsN_len {c : Nat} (h : c ≤ 5) : (setsN c).length ≤ 31 := sets_small (by simpa using h)
theorem sub_frame {c : Nat} (h : 1 ≤ c ∧ c ≤ 5) {ls : List (List Int)} (hs : ls.Sublist (setsN c)) (hn : ls ≠ []) : Fr c ls := by
  obtain ⟨_, _, h2⟩ := sets_ok c (sets_at h)
  have hl := setsN_len h.2
  have hl2 := hs.length_le
  exact ⟨h, hn, fun l hl => sets_lot h (hs.subset hl), pw_zip (h2.sublist hs), Nat.le_trans hl2 (Nat.le_trans hl (by decide))⟩
/-- a drawn bar -/
structure BarOk (c : Nat) (b : Bar) : Prop where
  l : b.1 ∈ setsN c
  c : Cn c b.1 b.2
/-- among strictly ascending lists the ones within are sublists -/
theorem asc_sub : ∀ {a b : List Int}, a.Pairwise (· < ·) → b.Pairwise (· < ·) → (∀ i ∈ a, i ∈ b) → a.Sublist b
  | [], b, _, _, _ => List.nil_sublist b
  | x :: a, [], _, _, h => by simpa using h x (List.mem_cons_self ..)
  | x :: a, y :: b, ha, hb, h => by
    rw [List.pairwise_cons] at ha hb
    by_cases e : x = y
    · subst e
      refine List.Sublist.cons_cons x (asc_sub ha.2 hb.2 fun i hi => ?_)
      rcases List.mem_cons.mp (h i (List.mem_cons_of_mem _ hi)) with rfl | q
      · have := ha.1 i hi
        omega
      · exact q
    · refine List.Sublist.cons y (asc_sub (List.pairwise_cons.mpr ha) hb.2 fun i hi => ?_)
      rcases List.mem_cons.mp (h i hi) with rfl | q
      · rcases List.mem_cons.mp hi with rfl | q
        · exact absurd rfl e
        · rcases List.mem_cons.mp (h x (List.mem_cons_self ..)) with p | p
          · exact absurd p e
          · have := hb.1 x p
            have := ha.1 i q
            omega
      · exact q
/-- some lot has none above -/
theorem has_top {n : Nat} {ls : List (List Int)} (hl : ∀ l ∈ ls, Lot n l) (hn : ls ≠ []) : ∃ l ∈ ls, above ls l = [] := by
  have : ∃ l ∈ ls, ∀ o ∈ ls, o.length ≤ l.length := by
    clear hl
    induction ls with
    | nil => exact absurd rfl hn
    | cons x r ih =>
      by_cases hr : r = []
      · subst hr
        exact ⟨x, by simp, by simp⟩
      · obtain ⟨l, h1, h2⟩ := ih hr
        by_cases q : l.length ≤ x.length
        · refine ⟨x, by simp, fun o ho => ?_⟩
          rcases List.mem_cons.mp ho with rfl | ho
          · exact Nat.le_refl _
          · exact Nat.le_trans (h2 o ho) q
        · refine ⟨l, List.mem_cons_of_mem _ h1, fun o ho => ?_⟩
          rcases List.mem_cons.mp ho with rfl | ho
          · omega
          · exact h2 o ho
  obtain ⟨l, h1, h2⟩ := this
  refine ⟨l, h1, List.eq_nil_iff_forall_not_mem.mpr fun o ho => ?_⟩
  obtain ⟨a1, a2, a3⟩ := above_mem.mp ho
  exact a2 ((asc_sub (lot_asc (hl l h1).up) (lot_asc (hl o a1).up) a3).eq_of_length_le (h2 o a1)).symm
abbrev ct (x : List (Int × Int)) : PyData := .tuple (x.map rt)
theorem le_ok {a b : Int × Int} (ha : NumS a) (hb : NumS b) : mulOk a.1 b.2 = true ∧ mulOk b.1 a.2 = true := by
  have n1 : a.1.natAbs < 2 ^ 200 := Nat.lt_of_le_of_lt (by have := ha.z; have := ha.o; omega) ha.s
  have n2 : b.1.natAbs < 2 ^ 200 := Nat.lt_of_le_of_lt (by have := hb.z; have := hb.o; omega) hb.s
  exact ⟨mul_sm n1 hb.s, mul_sm n2 ha.s⟩
/-- the cells behind i turns -/
structure CI (bs : List Bar) (i : Nat) (cs : List (List (Int × Int))) : Prop where
  len : ∀ x ∈ cs, x.length = i
  g : ∀ x ∈ cs, ∀ r ∈ x, NumS r
  f : ∀ b ∈ bs, (b.2.take i).map (·.getD (1, 1)) ∈ cs
  z : cs.length ≤ (bs.length + 1) ^ i
abbrev wide (es : List (Int × Int)) (cs : List (List (Int × Int))) : List (List (Int × Int)) := cs.flatMap fun x => es.map fun e => x ++ [e]
theorem wide_len (es : List (Int × Int)) (cs : List (List (Int × Int))) : (wide es cs).length = cs.length * es.length := by
  induction cs with
  | nil => simp
  | cons x r ih =>
    simp only [wide, List.flatMap_cons, List.length_append, List.length_map, List.length_cons] at ih ⊢
    rw [ih, Nat.succ_mul]
    omega
theorem CI.next {bs : List Bar} {c i : Nat} {cs : List (List (Int × Int))} {es : List (Int × Int)} (h : CI bs i cs) (hi : i < c) (hb : ∀ b ∈ bs, b.2.length = c) (h1 : ∀ r ∈ es, NumS r) (h2 : (1, 1) ∈ es) (h3 : ∀ b ∈ bs, ∀ r, b.2[i]? = some (some r) → r ∈ es) (h4 : es.length ≤ bs.length + 1) : CI bs (i + 1) (wide es cs) := by
  refine ⟨?_, ?_, ?_, ?_⟩
  · intro x hx
    obtain ⟨y, hy, hx⟩ := List.mem_flatMap.mp hx
    obtain ⟨e, he, rfl⟩ := List.mem_map.mp hx
    simp [h.len y hy]
  · intro x hx r hr
    obtain ⟨y, hy, hx⟩ := List.mem_flatMap.mp hx
    obtain ⟨e, he, rfl⟩ := List.mem_map.mp hx
    rcases List.mem_append.mp hr with hr | hr
    · exact h.g y hy r hr
    · rw [List.mem_singleton.mp hr]
      exact h1 e he
  · intro b hm
    have hl : i < b.2.length := by rw [hb b hm]; exact hi
    refine List.mem_flatMap.mpr ⟨_, h.f b hm, List.mem_map.mpr ⟨b.2[i].getD (1, 1), ?_, ?_⟩⟩
    · cases ho : b.2[i] with
      | none => exact h2
      | some r => exact h3 b hm r (by rw [List.getElem?_eq_getElem hl, ho])
    · rw [List.take_succ_eq_append_getElem hl, List.map_append]
      rfl
  · rw [wide_len, Nat.pow_succ]
    exact Nat.mul_le_mul h.z h4
theorem rt_mem {r : Int × Int} {es : List (Int × Int)} : rt r ∈ es.map rt ↔ r ∈ es := by
  constructor
  · intro h
    obtain ⟨s, hs, e⟩ := List.mem_map.mp h
    obtain ⟨s1, s2⟩ := s
    obtain ⟨r1, r2⟩ := r
    simp at e
    rw [← e.1, ← e.2]
    exact hs
  · exact fun h => List.mem_map.mpr ⟨r, h, rfl⟩
theorem rts_pl (es : List (Int × Int)) : PlA 1 (es.map rt) := PlA.of fun x hx => by
  obtain ⟨r, _, rfl⟩ := List.mem_map.mp hx
  exact .tup (.cons (.int _) (.cons (.int _) .nil))
theorem nin_rt (q : Int × Int) (es : List (Int × Int)) : ninV (rt q) (.list (es.map rt)) = some (.bool (!decide (q ∈ es))) := by
  rw [nin_pl (x := rt q) (y := .list (es.map rt)) rfl (.tup (.cons (.int _) (.cons (.int _) .nil))) (rts_pl es) (by decide : 1 ≤ 63) (by decide)]
  by_cases h : q ∈ es
  · simp only [rt_mem.mpr h, h, decide_true]
  · have h2 : rt q ∉ es.map rt := fun g => h (rt_mem.mp g)
    simp only [h2, h, decide_false]
theorem lots_in (l : List Int) (ls : List (List Int)) : inV (li l) (.list (ls.map li)) = some (.bool (decide (l ∈ ls))) ∧ ninV (li l) (.list (ls.map li)) = some (.bool (!decide (l ∈ ls))) ∧ inV (li l) (.tuple (ls.map li)) = some (.bool (decide (l ∈ ls))) := by
  have hm : li l ∈ ls.map li ↔ l ∈ ls := by
    constructor
    · intro h
      obtain ⟨s, hs, e⟩ := List.mem_map.mp h
      simp at e
      exact e ▸ hs
    · exact fun h => List.mem_map.mpr ⟨l, h, rfl⟩
  rw [in_pl (x := li l) (y := .list (ls.map li)) rfl (.tup (li_pl _)) (lots_pl ls) (by decide) (by decide), nin_pl (x := li l) (y := .list (ls.map li)) rfl (.tup (li_pl _)) (lots_pl ls) (by decide) (by decide), in_pl (x := li l) (y := .tuple (ls.map li)) rfl (.tup (li_pl _)) (lots_pl ls) (by decide) (by decide)]
  by_cases h : l ∈ ls
  · have h2 := hm.mpr h
    simp only [h, h2, decide_true, and_self]
  · have h2 : li l ∉ ls.map li := fun g => h (hm.mp g)
    simp only [h, h2, decide_false, and_self]
/-- what the laws's bars are -/
structure Bs (c : Nat) (ls : List (List Int)) (bs : List Bar) : Prop where
  k : 1 ≤ c ∧ c ≤ 3
  s : ls.Sublist (setsN c)
  n : ls ≠ []
  b : ∀ b ∈ bs, BarOk c b
  len : bs.length ≤ 32
theorem Bs.fr {c : Nat} {ls : List (List Int)} {bs : List Bar} (h : Bs c ls bs) : Fr c ls := sub_frame ⟨h.k.1, Nat.le_trans h.k.2 (by decide)⟩ h.s h.n
theorem Bs.z {c : Nat} {ls : List (List Int)} {bs : List Bar} (h : Bs c ls bs) : (bs.length + 1) ^ c ≤ sizeLine := by
  have h1 := h.len
  have h2 := h.k.2
  refine Nat.le_trans (Nat.pow_le_pow_left (show bs.length + 1 ≤ 33 by omega) c) (Nat.le_trans (Nat.pow_le_pow_right (by decide) h2) (by decide))
theorem Bs.l7 {c : Nat} {ls : List (List Int)} {bs : List Bar} (h : Bs c ls bs) : ls.length ≤ 7 := by
  have h1 := h.s.length_le
  have h2 := sets_len ((List.range c).map fun (k : Nat) => (k : Int))
  have h3 : (setsN c).length + 1 = 2 ^ c := by
    unfold setsN
    simpa using h2
  have h4 := Nat.pow_le_pow_right (show 0 < 2 by decide) h.k.2
  omega
theorem Bs.c {c : Nat} {ls : List (List Int)} {bs : List Bar} (h : Bs c ls bs) : ∀ b ∈ bs, b.2.length = c := fun b hb => (h.b b hb).c.len
theorem Bs.m {c : Nat} {ls : List (List Int)} {bs : List Bar} (h : Bs c ls bs) : ∀ b ∈ bs, ∀ o ∈ b.2, ∀ r, o = some r → NumS r := fun b hb => (h.b b hb).c.m
theorem wi_zip {x : List (Int × Int)} {co : Co} (h : x.length = co.length) : wi x co = !(x.zip co).any fun p => !wiA p.1 p.2 := by
  rw [Bool.eq_iff_iff, Bool.not_eq_true', List.any_eq_false]
  unfold wi
  rw [List.all_eq_true]
  constructor
  · intro H p hp
    obtain ⟨i, hi, rfl⟩ := List.mem_iff_getElem.mp hp
    rw [List.length_zip] at hi
    have := H i (List.mem_range.mpr (by omega))
    rw [List.getElem?_eq_getElem (show i < x.length by omega), List.getElem?_eq_getElem (show i < co.length by omega)] at this
    rw [List.getElem_zip]
    simpa using this
  · intro H i hi
    have hi := List.mem_range.mp hi
    have hz : i < (x.zip co).length := by rw [List.length_zip]; omega
    have := H _ (List.getElem_mem hz)
    rw [List.getElem_zip] at this
    rw [List.getElem?_eq_getElem (show i < x.length by omega), List.getElem?_eq_getElem hi]
    simpa using this
/-- a saying -/
abbrev Say := List Int × Int × Co
abbrev sy (s : Say) : PyData := .tuple [li s.1, .int s.2.1, cr s.2.2]
def cutc (co : Co) (l : List Int) : Co := co.zipIdx.map fun p => if (p.2 : Int) ∈ l then p.1 else none
theorem in_int (i : Int) (l : List Int) : inV (.int i) (li l) = some (.bool (decide (i ∈ l))) ∧ ninV (.int i) (li l) = some (.bool (!decide (i ∈ l))) := by
  have hm : PyData.int i ∈ l.map .int ↔ i ∈ l := by simp
  rw [in_pl (x := .int i) (y := li l) rfl (.int i) (li_pl l) (Nat.zero_le _) (Nat.zero_le _), nin_pl (x := .int i) (y := li l) rfl (.int i) (li_pl l) (Nat.zero_le _) (Nat.zero_le _)]
  by_cases h : i ∈ l
  · have h2 := hm.mpr h
    simp only [h, h2, decide_true, and_self]
  · have h2 : PyData.int i ∉ l.map .int := fun g => h (hm.mp g)
    simp only [h, h2, decide_false, and_self]
def wrongs (bk : List Say) (l : List Int) : List Co := (bk.filter fun s => decide (s.2.1 > ((s.1.filter fun i => decide (i ∉ l)).length : Int))).map fun s => cutc s.2.2 l
structure SayOk (c : Nat) (s : Say) : Prop where
  g : s.1 ∈ setsN c
  n : 1 ≤ s.2.1 ∧ s.2.1 ≤ s.1.length
  len : s.2.2.length = c
  m : ∀ x ∈ s.2.2, ∀ r, x = some r → NumS r
structure Bk (c : Nat) (bk : List Say) : Prop where
  k : 1 ≤ c ∧ c ≤ 5
  s : ∀ s ∈ bk, SayOk c s
  len : bk.length < 60
theorem f_7 {c : Nat} {x : List (Int × Int)} (hx : x.length = c) (hc : c ≤ 5) (nx : ∀ r ∈ x, NumS r) (w : Wd) : run 7 [.d (.int c), .d (ct x)] w = .ok (.d .none) w := by
  refine wp_det fun Q hQ => ?_
  refine wp_at (d := d_7) rfl rfl ?_
  simp [d_7, b_7, hx, isiV, getV, to, op2V, ltV, leV, gtV, geV, subV, esc, escs, escV, escI, escW, escP, Pc.esc, demE, wipeE, ixV, asSeq, bindV, bindT, bindTs, biV, setP, ownAt]
  rw [List.zipIdx_map, List.map_map]
  refine wp_forP _ (fun done env v => ∃ s2 s3, env = [.val (.d (.int c)), .val (.d (ct x)), s2, s3] ∧ v = w) [] ⟨.non, .non, rfl, rfl⟩ ?_ ?_
  · rintro d ⟨r, i⟩ rs hd env v ⟨s2, s3, rfl, rfl⟩ Q hQ
    have hm : r ∈ x := by
      have : (r, i) ∈ d ++ (r, i) :: rs := by simp
      rw [← hd] at this
      exact (List.mem_zipIdx_iff_getElem?.mp (by simpa using this) |> List.mem_of_getElem?)
    have q := nx r hm
    have e4 := f_4 r v
    simp only [q.b, q.g, q.z, q.o, decide_true, Bool.and_self] at e4
    simp [forT, e4, getV, to, op2V, ltV, leV, gtV, geV, subV, esc, escs, escV, escI, escW, escP, Pc.esc, demE, wipeE, ixV, asSeq, bindV, bindT, bindTs, biV, setP, ownAt]
    exact hQ _ _ ⟨_, _, rfl, rfl⟩
  · rintro env v ⟨s2, s3, rfl, rfl⟩
    simp
    exact hQ
/-- the sayings within whose corner x is -/
def saysN (bk : List Say) (x : List (Int × Int)) : List Nat := (List.range bk.length).filter fun k => wi x ((bk[k]?.map (·.2.2)).getD [])
theorem zip_range {α : Type} (xs : List α) (P : α → Bool) (d : Nat → Bool) (h : ∀ k (hk : k < xs.length), d k = P xs[k]) : (xs.zipIdx.filter fun p => P p.1).map (·.2) = (List.range xs.length).filter d := by
  have e : List.range xs.length = xs.zipIdx.map (·.2) := by
    rw [List.zipIdx_map_snd, List.range_eq_range']
  rw [e, List.filter_map]
  congr 1
  refine List.filter_congr ?_
  rintro ⟨x, i⟩ hp
  have hg := List.mem_zipIdx_iff_getElem?.mp hp
  obtain ⟨hi, hg⟩ := List.getElem?_eq_some_iff.mp hg
  simp only [Function.comp]
  rw [h i hi]
  simp only at hg
  rw [hg]
theorem says_zip (bk : List Say) (x : List (Int × Int)) : (bk.zipIdx.filter fun p => wi x p.1.2.2).map (fun p => PyData.int (p.2 : Int)) = (saysN bk x).map fun (k : Nat) => PyData.int k := by
  have := zip_range bk (fun s => wi x s.2.2) (fun k => wi x ((bk[k]?.map (·.2.2)).getD [])) (fun k hk => by simp [List.getElem?_eq_getElem hk])
  unfold saysN
  rw [← this, List.map_map]
  rfl
theorem cutc_range {co : Co} {c : Nat} (h : co.length = c) (l : List Int) : cutc co l = (List.range c).map fun (k : Nat) => if (k : Int) ∈ l then co[k]?.getD none else none := by
  subst h
  refine List.ext_getElem (by simp [cutc]) fun i h1 h2 => ?_
  have hi : i < co.length := by simpa [cutc] using h1
  simp [cutc, List.getElem?_eq_getElem hi]
def evL (c : Nat) : List Int := (List.range c).map fun (k : Nat) => (k : Int)
theorem ev_sets : ∀ c ∈ [1, 2, 3, 4, 5], evL c ∈ setsN c := by decide +kernel
theorem Bk.add {c : Nat} {a b : List Say} (ha : Bk c a) (hb : Bk c b) (hl : a.length + b.length < 60) : Bk c (a ++ b) := by
  refine ⟨ha.k, fun s hs => ?_, by simpa using hl⟩
  rcases List.mem_append.mp hs with hs | hs
  · exact ha.s s hs
  · exact hb.s s hs
/-- a saying's limit of the first one of its group -/
def firstL (s : Say) : Option (Int × Int) := (s.2.2[(s.1.headD 0).toNat]?).getD none
theorem some_rt (os : List (Option (Int × Int))) : (os.filter Option.isSome).map lm = (os.filterMap id).map rt := by
  induction os with
  | nil => rfl
  | cons o r ih => cases o <;> simp [ih, lm]
theorem nc_lm {o : Option (Int × Int)} (h : ∀ r, o = some r → NumS r) : Nc 402 2 (lm o) := by
  cases o with
  | none => exact (Nc.none (k := 402) (p := 2) (by decide))
  | some r =>
    have hr := h r rfl
    have h1 : r.1.natAbs < 2 ^ 200 := Nat.lt_of_le_of_lt (by have := hr.z; have := hr.o; omega) hr.s
    refine Nc.tup (k := 200) (p := 1) (n := 2) (fun x hx => ?_) (by simp)
    simp only [List.mem_cons, List.not_mem_nil, or_false] at hx
    rcases hx with rfl | rfl
    · exact Nc.int (by decide) h1
    · exact Nc.int (by decide) hr.s
theorem nc_cr {co : Co} (hl : co.length ≤ 5) (h : ∀ o ∈ co, ∀ r, o = some r → NumS r) : Nc 2015 3 (cr co) := by
  refine Nc.tup (k := 402) (p := 2) (n := 5) (fun x hx => ?_) (by simpa using hl)
  obtain ⟨o, ho, rfl⟩ := List.mem_map.mp hx
  exact nc_lm (h o ho)
theorem nc_wrongs {c : Nat} {bk : List Say} (h : Bk c bk) (l : List Int) : Nc 120960 4 (.tuple ((wrongs bk l).map cr)) := by
  refine Nc.tup (k := 2015) (p := 3) (n := 60) (fun x hx => ?_) ?_
  · obtain ⟨co, hco, rfl⟩ := List.mem_map.mp hx
    obtain ⟨s, hs, rfl⟩ := List.mem_map.mp hco
    have h1 := h.s s (List.mem_filter.mp hs).1
    have h2 := h.k.2
    refine nc_cr (by simp [cutc, h1.len]; omega) ?_
    intro o ho r hr
    obtain ⟨p, hp, rfl⟩ := List.mem_map.mp ho
    by_cases q : (p.2 : Int) ∈ l
    · rw [if_pos q] at hr
      exact h1.m p.1 (List.mem_of_getElem? (List.mem_zipIdx_iff_getElem?.mp hp)) r hr
    · rw [if_neg q] at hr
      cases hr
  · have := h.len
    have h3 := List.length_filter_le (fun s : Say => decide (s.2.1 > ((s.1.filter fun i => decide (i ∉ l)).length : Int))) bk
    simp only [wrongs, List.length_map]
    omega
theorem cut_takeA {α : Type} (xs : List α) (m : Nat) : cut xs none (some (m : Int)) = xs.take m := by
  have e : ¬ ((m : Int) < 0) := by omega
  simp only [cut, slIx, if_neg e, Int.toNat_natCast, List.drop_zero, Nat.sub_zero]
  rw [← List.take_eq_take_min]
theorem minL_iff : ∀ {xs : List Int} {m k : Int}, k ≤ minL m xs ↔ k ≤ m ∧ ∀ x ∈ xs, k ≤ x
  | [], m, k => by simp [minL]
  | y :: r, m, k => by
    rw [minL, minL_iff]
    by_cases q : y < m
    · rw [if_pos q]
      constructor
      · rintro ⟨h1, h2⟩
        refine ⟨by omega, fun x hx => ?_⟩
        rcases List.mem_cons.mp hx with rfl | hx
        · exact h1
        · exact h2 x hx
      · rintro ⟨h1, h2⟩
        exact ⟨h2 y (List.mem_cons_self ..), fun x hx => h2 x (List.mem_cons_of_mem _ hx)⟩
    · rw [if_neg q]
      constructor
      · rintro ⟨h1, h2⟩
        refine ⟨h1, fun x hx => ?_⟩
        rcases List.mem_cons.mp hx with rfl | hx
        · omega
        · exact h2 x hx
      · rintro ⟨h1, h2⟩
        exact ⟨h1, fun x hx => h2 x (List.mem_cons_of_mem _ hx)⟩
theorem minL_snoc : ∀ (xs : List Int) (m x : Int), minL m (xs ++ [x]) = if x < minL m xs then x else minL m xs
  | [], m, x => rfl
  | y :: r, m, x => by
    rw [List.cons_append, minL, minL_snoc r]
    rfl
def lsO (g l : List Int) : Int := ((g.filter fun i => decide (i ∉ l)).length : Int)
def sureC (ls : List (List Int)) (bs : List Bar) (x : List (Int × Int)) (g : List Int) : Int := minL (g.length : Int) ((ls.filter fun l => !barred bs x l).map (lsO g))
def dueC (ls : List (List Int)) (bk : List Say) (x : List (Int × Int)) (g : List Int) : Int := minL (g.length : Int) ((ls.filter fun l => !(wrongs bk l).any (wi x)).map (lsO g))
def staysC (cs : List Co) (k : Nat) : Bool := !(cs.zipIdx.any fun q => decide (q.2 ≠ k) && (lies (cs[k]?.getD []) q.1 && (decide (q.2 < k) || !lies q.1 (cs[k]?.getD []))))
def noLess (cs : List Co) : List Co := (cs.zipIdx.filter fun p => staysC cs p.2).map (·.1)
def barsOf (ls : List (List Int)) (bk : List Say) : List Bar := ls.flatMap fun l => (noLess (wrongs bk l)).map fun c => (l, c)
theorem noLess_sub {cs : List Co} {c : Co} (h : c ∈ noLess cs) : c ∈ cs := by
  obtain ⟨p, hp, rfl⟩ := List.mem_map.mp h
  exact List.mem_of_getElem? (List.mem_zipIdx_iff_getElem?.mp (List.mem_filter.mp hp).1)
theorem noLess_len (cs : List Co) : (noLess cs).length ≤ cs.length := by
  unfold noLess
  rw [List.length_map]
  exact Nat.le_trans (List.length_filter_le ..) (by simp)
/-- corners of one length with numbers in them -/
structure Cs (c : Nat) (cs : List Co) : Prop where
  len : ∀ k ∈ cs, k.length = c
  m : ∀ k ∈ cs, ∀ o ∈ k, ∀ r, o = some r → NumS r
theorem lies_trans {c : Nat} {a b d : Co} (ha : a.length = c) (hb : b.length = c) (hd : d.length = c) (na : ∀ o ∈ a, ∀ r, o = some r → NumS r) (nb : ∀ o ∈ b, ∀ r, o = some r → NumS r) (nd : ∀ o ∈ d, ∀ r, o = some r → NumS r) (h1 : lies a b = true) (h2 : lies b d = true) : lies a d = true := by
  rw [lies_ins (by omega), ins_iff] at h1 h2 ⊢
  intro i hi
  exact leR_trans (gt_num na i).b (gt_num nb i).b (gt_num nd i).b (h1 i hi) (h2 i (by omega))
theorem lies_refl (a : Co) : lies a a = true := by
  rw [lies_ins rfl, ins_iff]
  exact fun i _ => leR_refl _
theorem wi_lies {c : Nat} {x : List (Int × Int)} {a b : Co} (hx : x.length = c) (ha : a.length = c) (hb : b.length = c) (nx : ∀ r ∈ x, NumS r) (na : ∀ o ∈ a, ∀ r, o = some r → NumS r) (nb : ∀ o ∈ b, ∀ r, o = some r → NumS r) (h1 : wi x a = true) (h2 : lies a b = true) : wi x b = true := by
  rw [lies_ins (by omega), ins_iff] at h2
  refine wi_iff.mpr fun i hi r hr => ?_
  have a1 := h2 i (by omega)
  rw [show gt b i = r by rw [gt, hr]; rfl] at a1
  have xe : x[i]?.getD (1, 1) = x[i]'(by omega) := by rw [List.getElem?_eq_getElem (by omega)]; rfl
  have xn : NumS (x[i]?.getD (1, 1)) := by
    rw [xe]
    exact nx _ (List.getElem_mem _)
  have rn : NumS r := by
    have := gt_num nb i
    rwa [show gt b i = r by rw [gt, hr]; rfl] at this
  refine leR_trans xn.b (gt_num na i).b rn.b ?_ a1
  cases hq : a[i]?.getD none with
  | none =>
    rw [show gt a i = (1, 1) by rw [gt, hq]; rfl]
    exact leR_one xn.toNum
  | some q =>
    rw [show gt a i = q by rw [gt, hq]; rfl]
    exact wi_iff.mp h1 i (by omega) q hq
theorem filt_le {α : Type} (p q : α → Bool) : ∀ (l : List α), (∀ x ∈ l, p x = true → q x = true) → (l.filter p).length ≤ (l.filter q).length
  | [], _ => Nat.le_refl _
  | x :: r, h => by
    have ih := filt_le p q r fun y hy => h y (List.mem_cons_of_mem _ hy)
    have hx := h x (List.mem_cons_self ..)
    cases hp : p x with
    | false =>
      rw [List.filter_cons_of_neg (by simp [hp])]
      exact Nat.le_trans ih (by rw [List.filter_cons]; split <;> simp)
    | true =>
      rw [List.filter_cons_of_pos hp, List.filter_cons_of_pos (hx hp)]
      simpa using ih
theorem filt_lt {α : Type} (p q : α → Bool) : ∀ (l : List α), (∀ x ∈ l, p x = true → q x = true) → (∃ x ∈ l, q x = true ∧ p x = false) → (l.filter p).length < (l.filter q).length
  | [], _, ⟨_, h, _⟩ => by cases h
  | x :: r, h, ⟨y, hy, h1, h2⟩ => by
    have hr := fun z hz => h z (List.mem_cons_of_mem x hz)
    rcases List.mem_cons.mp hy with rfl | hy
    · rw [List.filter_cons_of_neg (by simp [h2]), List.filter_cons_of_pos h1]
      have := filt_le p q r hr
      simpa using Nat.lt_succ_of_le this
    · have ih := filt_lt p q r hr ⟨y, hy, h1, h2⟩
      have hx := h x (List.mem_cons_self ..)
      cases hp : p x with
      | false =>
        rw [List.filter_cons_of_neg (by simp [hp])]
        exact Nat.lt_of_lt_of_le ih (by rw [List.filter_cons]; split <;> simp)
      | true =>
        rw [List.filter_cons_of_pos hp, List.filter_cons_of_pos (hx hp)]
        simpa using ih
/-- within some corner, so within one that stays -/
theorem noLess_wi {c : Nat} {cs : List Co} {x : List (Int × Int)} (h : Cs c cs) (hx : x.length = c) (nx : ∀ r ∈ x, NumS r) : (noLess cs).any (wi x) = cs.any (wi x) := by
  rw [Bool.eq_iff_iff, List.any_eq_true, List.any_eq_true]
  constructor
  · rintro ⟨k, hk, h1⟩
    exact ⟨k, noLess_sub hk, h1⟩
  · rintro ⟨k0, hk0, h0⟩
    obtain ⟨i0, hi0, rfl⟩ := List.mem_iff_getElem.mp hk0
    have key : ∀ (n k : Nat) (hk : k < cs.length), (cs.filter fun d => lies cs[k] d).length * (cs.length + 1) + k = n → wi x cs[k] = true → ∃ k ∈ noLess cs, wi x k = true := by
      intro n
      induction n using Nat.strongRecOn with
      | _ n ih =>
        intro k hk hn hw
        by_cases hs : staysC cs k = true
        · refine ⟨cs[k], List.mem_map.mpr ⟨(cs[k], k), List.mem_filter.mpr ⟨List.mem_zipIdx_iff_getElem?.mpr (List.getElem?_eq_getElem hk), hs⟩, rfl⟩, hw⟩
        · simp only [staysC, Bool.not_eq_true', Bool.not_eq_false] at hs
          simp only [List.getElem?_eq_getElem hk, Option.getD_some] at hs
          obtain ⟨⟨d, q⟩, hq, hs⟩ := List.any_eq_true.mp hs
          have hg := List.mem_zipIdx_iff_getElem?.mp hq
          obtain ⟨hql, hg⟩ := List.getElem?_eq_some_iff.mp hg
          simp only at hql hg
          subst hg
          simp only [Bool.and_eq_true, decide_eq_true_eq, Bool.or_eq_true, Bool.not_eq_true'] at hs
          obtain ⟨hs1, hs2, hs3⟩ := hs
          have mk : cs[k] ∈ cs := List.getElem_mem hk
          have mq : cs[q] ∈ cs := List.getElem_mem hql
          have hw2 := wi_lies hx (h.len _ mk) (h.len _ mq) nx (h.m _ mk) (h.m _ mq) hw hs2
          have sub : ∀ d ∈ cs, lies cs[q] d = true → lies cs[k] d = true := fun d hd hl => lies_trans (h.len _ mk) (h.len _ mq) (h.len _ hd) (h.m _ mk) (h.m _ mq) (h.m _ hd) hs2 hl
          have le := filt_le (fun d => lies cs[q] d) (fun d => lies cs[k] d) cs sub
          refine ih _ ?_ q hql rfl hw2
          rw [← hn]
          by_cases hb : lies cs[q] cs[k] = true
          · have hlt : q < k := by
              rcases hs3 with hs3 | hs3
              · exact hs3
              · rw [hb] at hs3
                cases hs3
            have := Nat.mul_le_mul_right (cs.length + 1) le
            omega
          · have lt := filt_lt (fun d => lies cs[q] d) (fun d => lies cs[k] d) cs sub ⟨cs[k], mk, lies_refl _, by simpa using hb⟩
            have := Nat.mul_le_mul_right (cs.length + 1) (Nat.succ_le_of_lt lt)
            rw [Nat.succ_mul] at this
            omega
    exact key _ i0 hi0 rfl h0
theorem wrongs_cs {c : Nat} {bk : List Say} (h : Bk c bk) (l : List Int) : Cs c (wrongs bk l) := by
  refine ⟨fun k hk => ?_, fun k hk o ho r hr => ?_⟩
  · obtain ⟨s, hs, rfl⟩ := List.mem_map.mp hk
    have := (h.s s (List.mem_filter.mp hs).1).len
    simpa [cutc] using this
  · obtain ⟨s, hs, rfl⟩ := List.mem_map.mp hk
    have h1 := h.s s (List.mem_filter.mp hs).1
    obtain ⟨p, hp, rfl⟩ := List.mem_map.mp ho
    by_cases q : (p.2 : Int) ∈ l
    · rw [if_pos q] at hr
      exact h1.m p.1 (List.mem_of_getElem? (List.mem_zipIdx_iff_getElem?.mp hp)) r hr
    · rw [if_neg q] at hr
      cases hr
theorem barsOf_mem {ls : List (List Int)} {bk : List Say} {l : List Int} {k : Co} : (l, k) ∈ barsOf ls bk ↔ l ∈ ls ∧ k ∈ noLess (wrongs bk l) := by
  unfold barsOf
  rw [List.mem_flatMap]
  constructor
  · rintro ⟨l2, h1, h2⟩
    obtain ⟨k2, h3, e⟩ := List.mem_map.mp h2
    injection e with e1 e2
    subst e1 e2
    exact ⟨h1, h3⟩
  · rintro ⟨h1, h2⟩
    exact ⟨l, h1, List.mem_map.mpr ⟨k, h2, rfl⟩⟩
theorem barsOf_barred {c : Nat} {ls : List (List Int)} {bk : List Say} {x : List (Int × Int)} {l : List Int} (h : Bk c bk) (hl : l ∈ ls) (hx : x.length = c) (nx : ∀ r ∈ x, NumS r) : barred (barsOf ls bk) x l = (wrongs bk l).any (wi x) := by
  rw [← noLess_wi (wrongs_cs h l) hx nx, Bool.eq_iff_iff, barred_iff, List.any_eq_true]
  constructor
  · rintro ⟨k, h1, h2⟩
    exact ⟨k, (barsOf_mem.mp h1).2, h2⟩
  · rintro ⟨k, h1, h2⟩
    exact ⟨k, barsOf_mem.mpr ⟨hl, h1⟩, h2⟩
theorem sure_due {c : Nat} {ls : List (List Int)} {bk : List Say} {x : List (Int × Int)} {g : List Int} (h : Bk c bk) (hx : x.length = c) (nx : ∀ r ∈ x, NumS r) : sureC ls (barsOf ls bk) x g = dueC ls bk x g := by
  unfold sureC dueC
  congr 2
  exact List.filter_congr fun l hl => by rw [barsOf_barred h hl hx nx]
theorem sure_le (ls : List (List Int)) (bs : List Bar) (x : List (Int × Int)) (g : List Int) : sureC ls bs x g ≤ g.length := (minL_iff.mp (Int.le_refl (sureC ls bs x g))).1
/-- fewer possible lots never make the count less -/
theorem sure_mono {ls ls2 : List (List Int)} {bs bs2 : List Bar} {x x2 : List (Int × Int)} {g : List Int} (h : ∀ l ∈ ls2, barred bs2 x2 l = false → l ∈ ls ∧ barred bs x l = false) : sureC ls bs x g ≤ sureC ls2 bs2 x2 g := by
  refine minL_iff.mpr ⟨sure_le .., fun y hy => ?_⟩
  obtain ⟨l, hl, rfl⟩ := List.mem_map.mp hy
  obtain ⟨h1, h2⟩ := List.mem_filter.mp hl
  obtain ⟨h3, h4⟩ := h l h1 (by simpa using h2)
  exact (minL_iff.mp (Int.le_refl (sureC ls bs x g))).2 _ (List.mem_map.mpr ⟨l, List.mem_filter.mpr ⟨h3, by simp [h4]⟩, rfl⟩)
theorem barred_more {bs more : List Bar} {x : List (Int × Int)} {l : List Int} (h : barred (bs ++ more) x l = false) : barred bs x l = false := by
  unfold barred at h ⊢
  rw [List.any_append, Bool.or_eq_false_iff] at h
  exact h.1
/-- lesser numbers -/
structure Less (x y : List (Int × Int)) : Prop where
  len : x.length = y.length
  le : ∀ i (h : i < x.length) (h2 : i < y.length), leR x[i] y[i] = true
theorem wi_less {x y : List (Int × Int)} {k : Co} (h : Less x y) (nx : ∀ r ∈ x, NumS r) (ny : ∀ r ∈ y, NumS r) (hk : k.length = y.length) (nk : ∀ o ∈ k, ∀ r, o = some r → NumS r) (hw : wi y k = true) : wi x k = true := by
  refine wi_iff.mpr fun i hi r hr => ?_
  have h1 := wi_iff.mp hw i hi r hr
  have hl := h.len
  have l1 : i < x.length := by omega
  have l2 : i < y.length := by omega
  have h2 := h.le i l1 l2
  rw [List.getElem?_eq_getElem l2] at h1
  rw [List.getElem?_eq_getElem l1]
  have hr2 : some r ∈ k := by
    rw [List.getElem?_eq_getElem hi] at hr
    simp only [Option.getD_some] at hr
    rw [← hr]
    exact List.getElem_mem hi
  exact leR_trans (nx _ (List.getElem_mem l1)).b (ny _ (List.getElem_mem l2)).b (nk _ hr2 r rfl).b h2 h1
/-- what a saying says at numbers within its corner -/
theorem says_sure {c : Nat} {ls : List (List Int)} {bk : List Say} {x : List (Int × Int)} {s : Say} (h : Bk c bk) (hs : s ∈ bk) (hx : x.length = c) (nx : ∀ r ∈ x, NumS r) (hw : wi x s.2.2 = true) : s.2.1 ≤ sureC ls (barsOf ls bk) x s.1 := by
  rw [sure_due h hx nx]
  have h1 := h.s s hs
  refine minL_iff.mpr ⟨h1.n.2, fun y hy => ?_⟩
  obtain ⟨l, hl, rfl⟩ := List.mem_map.mp hy
  obtain ⟨_, h2⟩ := List.mem_filter.mp hl
  rw [Bool.not_eq_true', List.any_eq_false] at h2
  apply Int.not_lt.mp
  intro hlt
  refine h2 (cutc s.2.2 l) (List.mem_map.mpr ⟨s, List.mem_filter.mpr ⟨hs, decide_eq_true hlt⟩, rfl⟩) ?_
  refine wi_iff.mpr fun i hi r hr => ?_
  have hi2 : i < s.2.2.length := by simpa [cutc] using hi
  rw [List.getElem?_eq_getElem hi] at hr
  simp only [Option.getD_some, cutc, List.getElem_map, List.getElem_zipIdx, Nat.zero_add] at hr
  by_cases q : (i : Int) ∈ l
  · rw [if_pos q] at hr
    exact wi_iff.mp hw i hi2 r (by rw [List.getElem?_eq_getElem hi2]; exact hr)
  · rw [if_neg q] at hr
    cases hr
theorem sm_of {o : Option (Int × Int)} (h : ∀ r, o = some r → NumS r) : Sm o := fun r hr => by
  have a := h r hr
  exact ⟨Nat.lt_of_le_of_lt (by have := a.z; have := a.o; omega) a.s, a.s⟩
theorem f_10 {c : Nat} {g : List Int} (h : Lot c g) (w : Wd) : run 10 [.d (.int c), .d (li g)] w = .ok (.d .none) w := by
  refine wp_det fun Q hQ => ?_
  refine wp_at (d := d_10) rfl rfl ?_
  simp [d_10, b_10, f_9 c g h w, getV, to, op2V, ltV, leV, gtV, geV, subV, esc, escs, escV, escI, escW, escP, Pc.esc, demE, wipeE, ixV, asSeq, bindV, bindT, bindTs, biV, setP, ownAt]
  exact hQ
/-- bars that sure_count takes -/
structure SB (c : Nat) (bs : List Bar) : Prop where
  b : ∀ b ∈ bs, BarOk c b
  len : bs.length ≤ 240
  per : ∀ l, (corners bs l).length < 60
theorem SB.gbs {c : Nat} {ls : List (List Int)} {bs : List Bar} (hc : 1 ≤ c ∧ c ≤ 5) (h : SB c bs) : GBs c ls bs := by
  refine ⟨fun b hb => ?_, h.len, h.per⟩
  have hk := h.b b hb
  exact ⟨sets_lot hc hk.l, hk.c.len, fun x hx r hr => (hk.c.m x hx r hr).toNum, hk.c.i⟩
theorem cutc_cn {c : Nat} {s : Say} (h : SayOk c s) (l : List Int) : Cn c l (cutc s.2.2 l) := by
  refine ⟨by simp [cutc, h.len], ?_, ?_⟩
  · intro o ho r hr
    obtain ⟨p, hp, rfl⟩ := List.mem_map.mp ho
    by_cases q : (p.2 : Int) ∈ l
    · rw [if_pos q] at hr
      exact h.m p.1 (List.mem_of_getElem? (List.mem_zipIdx_iff_getElem?.mp hp)) r hr
    · rw [if_neg q] at hr
      cases hr
  · rintro ⟨o, i⟩ hp
    have hg := List.mem_zipIdx_iff_getElem?.mp hp
    simp only [cutc, List.getElem?_map, Option.map_eq_some_iff] at hg
    obtain ⟨⟨a, j⟩, h1, h2⟩ := hg
    have hz := List.getElem?_eq_some_iff.mp h1
    obtain ⟨hz1, hz2⟩ := hz
    simp only [List.getElem_zipIdx, Nat.zero_add, Prod.mk.injEq] at hz2
    obtain ⟨_, rfl⟩ := hz2
    simp only at h2 ⊢
    by_cases q : (i : Int) ∈ l
    · exact .inr q
    · rw [if_neg q] at h2
      exact .inl h2.symm
theorem wrongs_len (bk : List Say) (l : List Int) : (wrongs bk l).length ≤ bk.length := by
  unfold wrongs
  rw [List.length_map]
  exact List.length_filter_le ..
theorem barsOf_cons (l : List Int) (ls : List (List Int)) (bk : List Say) : barsOf (l :: ls) bk = (noLess (wrongs bk l)).map (fun c => (l, c)) ++ barsOf ls bk := rfl
theorem barsOf_len (ls : List (List Int)) (bk : List Say) : (barsOf ls bk).length ≤ ls.length * bk.length := by
  induction ls with
  | nil => simp [barsOf]
  | cons l r ih =>
    rw [barsOf_cons, List.length_append, List.length_map, List.length_cons, Nat.succ_mul]
    have := Nat.le_trans (noLess_len (wrongs bk l)) (wrongs_len bk l)
    omega
theorem barsOf_per {ls : List (List Int)} (hn : ls.Nodup) (bk : List Say) (l : List Int) : (corners (barsOf ls bk) l).length ≤ bk.length ∧ (l ∉ ls → corners (barsOf ls bk) l = []) := by
  induction ls with
  | nil => simp [barsOf, corners]
  | cons a r ih =>
    rw [List.nodup_cons] at hn
    have ih := ih hn.2
    have e : corners (barsOf (a :: r) bk) l = corners ((noLess (wrongs bk a)).map fun c => (a, c)) l ++ corners (barsOf r bk) l := by
      rw [barsOf_cons]
      simp [corners]
    have e0 : a ≠ l → corners ((noLess (wrongs bk a)).map fun c => (a, c)) l = [] := by
      intro q
      refine List.eq_nil_iff_forall_not_mem.mpr fun k hk => ?_
      obtain ⟨k2, _, e2⟩ := List.mem_map.mp (mem_corners.mp hk)
      injection e2 with e2 _
      exact q e2
    rw [e]
    refine ⟨?_, fun h => ?_⟩
    · by_cases q : a = l
      · subst q
        rw [ih.2 hn.1, List.append_nil]
        refine Nat.le_trans (corners_len _ _) ?_
        rw [List.length_map]
        exact Nat.le_trans (noLess_len _) (wrongs_len bk a)
      · rw [e0 q, List.nil_append]
        exact ih.1
    · have h1 : a ≠ l := fun q => h (by simp [q])
      rw [e0 h1, List.nil_append]
      exact ih.2 fun q => h (List.mem_cons_of_mem _ q)
theorem sets_nodup : ∀ c ∈ [1, 2, 3, 4, 5], (setsN c).Nodup := by decide +kernel
theorem barsOf_sb {c : Nat} {ls : List (List Int)} {bk : List Say} (hs : ls.Sublist (setsN c)) (h : Bk c bk) (hl : ls.length * bk.length ≤ 230) : SB c (barsOf ls bk) := by
  have hn : ls.Nodup := hs.nodup (sets_nodup c (sets_at h.k))
  refine ⟨?_, Nat.le_trans (barsOf_len ls bk) (by omega), fun l => Nat.lt_of_le_of_lt (barsOf_per hn bk l).1 h.len⟩
  rintro ⟨l, k⟩ hb
  obtain ⟨h1, h2⟩ := barsOf_mem.mp hb
  obtain ⟨s, hs2, rfl⟩ := List.mem_map.mp (noLess_sub h2)
  exact ⟨hs.subset h1, cutc_cn (h.s s (List.mem_filter.mp hs2).1) l⟩
theorem SB.add {c : Nat} {a b : List Bar} (ha : SB c a) (hb : ∀ b' ∈ b, BarOk c b') (hl : a.length + b.length ≤ 240) (hp : ∀ l, (corners a l).length + b.length < 60) : SB c (a ++ b) := by
  refine ⟨fun x hx => ?_, by simpa using hl, fun l => ?_⟩
  · rcases List.mem_append.mp hx with hx | hx
    · exact ha.b x hx
    · exact hb x hx
  · have e : corners (a ++ b) l = corners a l ++ corners b l := by simp [corners]
    rw [e, List.length_append]
    have := hp l
    have := corners_len b l
    omega
theorem nat_small {i : Int} (h0 : 0 ≤ i) (h : i ≤ 100) : i.natAbs < 2 ^ 200 := Nat.lt_trans (show i.natAbs < 2 ^ 7 by omega) (Nat.pow_lt_pow_right (by decide) (by decide))
theorem sure_nn (ls : List (List Int)) (bs : List Bar) (x : List (Int × Int)) (g : List Int) : 0 ≤ sureC ls bs x g := minL_iff.mpr ⟨by omega, fun y hy => by
  obtain ⟨l, _, rfl⟩ := List.mem_map.mp hy
  unfold lsO
  omega⟩
/-- all cells of these edges -/
def gridF : List (List (Int × Int)) → List (List (Int × Int)) → List (List (Int × Int))
  | [], found => found
  | s :: r, found => gridF r (wide s found)
theorem rev_ind {α : Type} {P : List α → Prop} (h0 : P []) (h1 : ∀ r s, P r → P (r ++ [s])) (l : List α) : P l := by
  have : ∀ l : List α, P l.reverse := by
    intro l
    induction l with
    | nil => exact h0
    | cons x r ih =>
      rw [List.reverse_cons]
      exact h1 _ _ ih
  have := this l.reverse
  rwa [List.reverse_reverse] at this
theorem gridF_snoc : ∀ (a : List (List (Int × Int))) (s : List (Int × Int)) (f : List (List (Int × Int))), gridF (a ++ [s]) f = wide s (gridF a f)
  | [], _, _ => rfl
  | b :: r, s, f => by
    show gridF (r ++ [s]) (wide b f) = wide s (gridF r (wide b f))
    rw [gridF_snoc r]
theorem mem_wide {s : List (Int × Int)} {f : List (List (Int × Int))} {x : List (Int × Int)} : x ∈ wide s f ↔ ∃ y ∈ f, ∃ e ∈ s, x = y ++ [e] := by
  simp only [wide, List.mem_flatMap, List.mem_map]
  constructor
  · rintro ⟨y, hy, e, he, rfl⟩
    exact ⟨y, hy, e, he, rfl⟩
  · rintro ⟨y, hy, e, he, rfl⟩
    exact ⟨y, hy, e, he, rfl⟩
theorem grid_len : ∀ (a : List (List (Int × Int))) (B : Nat), (∀ s ∈ a, s.length ≤ B) → (gridF a [[]]).length ≤ B ^ a.length := by
  intro a B
  refine rev_ind (P := fun a => (∀ s ∈ a, s.length ≤ B) → (gridF a [[]]).length ≤ B ^ a.length) ?_ ?_ a
  · intro _
    simp [gridF]
  · intro r s ih h
    rw [gridF_snoc, wide_len, List.length_append, List.length_singleton, Nat.pow_succ]
    exact Nat.mul_le_mul (ih fun t ht => h t (by simp [ht])) (h s (by simp))
theorem grid_mem : ∀ (a : List (List (Int × Int))) (x : List (Int × Int)), x ∈ gridF a [[]] ↔ x.length = a.length ∧ ∀ i (h : i < x.length) (h2 : i < a.length), x[i] ∈ a[i] := by
  intro a
  refine rev_ind (P := fun a => ∀ x : List (Int × Int), x ∈ gridF a [[]] ↔ x.length = a.length ∧ ∀ i (h : i < x.length) (h2 : i < a.length), x[i] ∈ a[i]) ?_ ?_ a
  · intro x
    simp only [gridF, List.mem_singleton, List.length_nil]
    constructor
    · rintro rfl
      exact ⟨rfl, fun i h => absurd h (Nat.not_lt_zero i)⟩
    · rintro ⟨h, _⟩
      exact List.length_eq_zero_iff.mp h
  · intro r s ih x
    rw [gridF_snoc, mem_wide]
    constructor
    · rintro ⟨y, hy, e, he, rfl⟩
      obtain ⟨h1, h2⟩ := (ih y).mp hy
      refine ⟨by simp [h1], fun i hi hi2 => ?_⟩
      by_cases q : i < y.length
      · rw [List.getElem_append_left q, List.getElem_append_left (by omega)]
        exact h2 i q (by omega)
      · simp at hi
        have e1 : i = y.length := by omega
        subst e1
        simp [h1, he]
    · rintro ⟨h1, h2⟩
      simp at h1
      have hne : x ≠ [] := by
        intro e
        simp [e] at h1
      refine ⟨x.dropLast, (ih _).mpr ⟨by simp [h1], fun i hi hi2 => ?_⟩, x.getLast hne, ?_, (List.dropLast_concat_getLast hne).symm⟩
      · simp at hi
        have := h2 i (by omega) (by simp; omega)
        rw [List.getElem_append_left hi2] at this
        rw [List.getElem_dropLast]
        exact this
      · have := h2 r.length (by omega) (by simp)
        rw [List.getLast_eq_getElem]
        simp [h1]
        simpa using this
/-- the edges of bars -/
structure Edges (c : Nat) (bs : List Bar) (es : List (List (Int × Int))) : Prop where
  len : es.length = c
  m : ∀ i (h : i < es.length) (r : Int × Int), r ∈ es[i] ↔ r = (1, 1) ∨ ∃ b ∈ bs, b.2[i]? = some (some r)
  z : ∀ s ∈ es, s.length ≤ bs.length + 1
theorem Edges.num {c : Nat} {bs : List Bar} {es : List (List (Int × Int))} (h : Edges c bs es) (hm : ∀ b ∈ bs, ∀ o ∈ b.2, ∀ r, o = some r → NumS r) {x : List (Int × Int)} (hx : x ∈ gridF es [[]]) : x.length = c ∧ ∀ r ∈ x, NumS r := by
  obtain ⟨h1, h2⟩ := (grid_mem _ _).mp hx
  refine ⟨by rw [h1, h.len], fun r hr => ?_⟩
  obtain ⟨i, hi, rfl⟩ := List.mem_iff_getElem.mp hr
  rcases (h.m i (by omega) _).mp (h2 i hi (by omega)) with e | ⟨b, hb, e⟩
  · rw [e]
    exact one_num
  · exact hm b hb _ (List.mem_of_getElem? e) _ rfl
theorem Edges.same {c : Nat} {bs : List Bar} {es ds : List (List (Int × Int))} (h : Edges c bs es) (g : Edges c bs ds) (x : List (Int × Int)) : x ∈ gridF es [[]] ↔ x ∈ gridF ds [[]] := by
  rw [grid_mem, grid_mem]
  have l1 := h.len
  have l2 := g.len
  constructor
  · rintro ⟨h1, h2⟩
    exact ⟨by omega, fun i hi hi2 => (g.m i hi2 _).mpr ((h.m i (by omega) _).mp (h2 i hi (by omega)))⟩
  · rintro ⟨h1, h2⟩
    exact ⟨by omega, fun i hi hi2 => (h.m i hi2 _).mpr ((g.m i (by omega) _).mp (h2 i hi (by omega)))⟩
theorem rts_ne (x y : List (Int × Int)) : neV (.list (x.map rt)) (.list (y.map rt)) = some (.bool (!decide (x = y))) := by
  rw [ne_pl (.lst (rts_pl x)) (.lst (rts_pl y)) (by decide) (by decide)]
  have inj : (PyData.list (x.map rt) = PyData.list (y.map rt)) ↔ x = y := by
    constructor
    · intro h
      injection h with h
      refine (List.map_inj_right fun a b e => ?_).mp h
      obtain ⟨a1, a2⟩ := a
      obtain ⟨b1, b2⟩ := b
      simp at e
      simp [e]
    · rintro rfl
      rfl
  by_cases q : x = y
  · simp only [q, decide_true]
  · have : ¬ (PyData.list (x.map rt) = PyData.list (y.map rt)) := fun h => q (inj.mp h)
    simp only [q, this, decide_false]
/-- bars as the law draws them -/
structure DB (c : Nat) (bs : List Bar) : Prop where
  k : 1 ≤ c ∧ c ≤ 3
  b : ∀ b ∈ bs, BarOk c b
  len : bs.length ≤ 12
theorem DB.c {c : Nat} {bs : List Bar} (h : DB c bs) : ∀ b ∈ bs, b.2.length = c := fun b hb => (h.b b hb).c.len
theorem DB.m {c : Nat} {bs : List Bar} (h : DB c bs) : ∀ b ∈ bs, ∀ o ∈ b.2, ∀ r, o = some r → NumS r := fun b hb => (h.b b hb).c.m
theorem DB.sb {c : Nat} {bs : List Bar} (h : DB c bs) : SB c bs := ⟨h.b, Nat.le_trans h.len (by decide), fun l => Nat.lt_of_le_of_lt (Nat.le_trans (corners_len bs l) h.len) (by decide)⟩
theorem DB.z {c : Nat} {bs : List Bar} (h : DB c bs) {i : Nat} (hi : i ≤ c) : (bs.length + 1) ^ i ≤ 2197 := by
  have h1 := h.len
  have h2 := h.k.2
  exact Nat.le_trans (Nat.pow_le_pow_left (show bs.length + 1 ≤ 13 by omega) i) (Nat.le_trans (Nat.pow_le_pow_right (by decide) (Nat.le_trans hi h2)) (by decide))
abbrev st (s : List (Int × Int)) : PyData := .list (s.map rt)
def quietP (c : Nat) (os : List (List Int)) : Bool := decide (evL c ∉ os) && (List.range c).all fun (i : Nat) => os.any fun o => decide (lsO [(i : Int)] o = 0)
def opt : Option (List (Int × Int)) → PyData
  | none => .none
  | some x => ct x
theorem free_len (ls : List (List Int)) (bs : List Bar) (x : List (Int × Int)) : (free ls bs x).length ≤ ls.length + 1 := by
  have := List.length_filter_le (fun l => !barred bs x l) ls
  simp [free]
  exact this
theorem num_low2 {n m : Int} (h0 : 0 ≤ n) (h1 : n ≤ m) (hm : 0 < m) (hs : m.natAbs < 2 ^ 150) : NumS (n / (Nat.gcd n.natAbs m.natAbs), m / (Nat.gcd n.natAbs m.natAbs)) ∧ (n / (Nat.gcd n.natAbs m.natAbs), m / (Nat.gcd n.natAbs m.natAbs)).2.natAbs < 2 ^ 150 := by
  refine ⟨num_low h0 h1 hm (Nat.lt_trans hs (Nat.pow_lt_pow_right (by decide) (by decide))), ?_⟩
  obtain ⟨b, rfl⟩ := Int.eq_ofNat_of_zero_le (Int.le_of_lt hm)
  simp only [Int.natAbs_natCast] at hs ⊢
  rw [← Int.natCast_ediv, Int.natAbs_natCast]
  exact Nat.lt_of_le_of_lt (Nat.div_le_self ..) hs
def quietL (c : Nat) (ls : List (List Int)) (bs : List Bar) (x : List (Int × Int)) : Bool := !((List.range c).any fun (i : Nat) => decide (0 < sureC ls bs x [(i : Int)])) && (setsN c).any fun g => decide (0 < sureC ls bs x g)
theorem ls0 {g l : List Int} : lsO g l = 0 ↔ ∀ i ∈ g, i ∈ l := by
  unfold lsO
  constructor
  · intro h i hi
    have h0 : (g.filter fun i => decide (i ∉ l)).length = 0 := by omega
    rw [List.length_eq_zero_iff, List.filter_eq_nil_iff] at h0
    have := h0 i hi
    simpa using this
  · intro h
    have : (g.filter fun i => decide (i ∉ l)) = [] := List.filter_eq_nil_iff.mpr fun i hi => by simpa using h i hi
    rw [this]
    rfl
theorem sure_pos {ls : List (List Int)} {bs : List Bar} {x : List (Int × Int)} {g : List Int} (hg : g ≠ []) : 0 < sureC ls bs x g ↔ ∀ o ∈ free ls bs x, lsO g o ≠ 0 := by
  have key : (1 : Int) ≤ sureC ls bs x g ↔ ∀ o ∈ free ls bs x, lsO g o ≠ 0 := by
    unfold sureC
    rw [minL_iff]
    have nn : ∀ o, 0 ≤ lsO g o := fun o => by unfold lsO; omega
    constructor
    · rintro ⟨_, h2⟩ o ho
      rcases List.mem_cons.mp ho with rfl | ho
      · intro h
        obtain ⟨i, hi⟩ := List.exists_mem_of_ne_nil g hg
        simpa using ls0.mp h i hi
      · have := h2 _ (List.mem_map.mpr ⟨o, ho, rfl⟩)
        omega
    · intro h
      refine ⟨by have := List.length_pos_iff.mpr hg; omega, fun y hy => ?_⟩
      obtain ⟨o, ho, rfl⟩ := List.mem_map.mp hy
      have := h o (List.mem_cons_of_mem _ ho)
      have := nn o
      omega
  rw [← key]
  omega
theorem ev_mem {c : Nat} {i : Int} : i ∈ evL c ↔ 0 ≤ i ∧ i < c := by
  unfold evL
  rw [List.mem_map]
  constructor
  · rintro ⟨k, hk, rfl⟩
    have := List.mem_range.mp hk
    omega
  · rintro ⟨h0, h1⟩
    exact ⟨i.toNat, List.mem_range.mpr (by omega), by omega⟩
theorem quiet_eq {c : Nat} {ls : List (List Int)} {bs : List Bar} {x : List (Int × Int)} (hc : 1 ≤ c ∧ c ≤ 5) (hl : ∀ l ∈ ls, l ∈ setsN c) : quietL c ls bs x = quietP c (free ls bs x) := by
  have he : evL c ∈ setsN c := ev_sets c (sets_at hc)
  have hE := sets_lot hc he
  have a1 : (!((List.range c).any fun (i : Nat) => decide (0 < sureC ls bs x [(i : Int)]))) = ((List.range c).all fun (i : Nat) => (free ls bs x).any fun o => decide (lsO [(i : Int)] o = 0)) := by
    rw [Bool.eq_iff_iff, Bool.not_eq_true', List.any_eq_false, List.all_eq_true]
    constructor
    · intro H i hi
      have := H i hi
      rw [decide_eq_true_eq, sure_pos (by simp)] at this
      rw [List.any_eq_true]
      apply Classical.byContradiction
      intro hn
      exact this fun o ho h0 => hn ⟨o, ho, by simpa using h0⟩
    · intro H i hi
      have := H i hi
      rw [List.any_eq_true] at this
      obtain ⟨o, ho, h0⟩ := this
      rw [decide_eq_true_eq, sure_pos (by simp)]
      intro h
      exact h o ho (by simpa using h0)
  have a2 : ((setsN c).any fun g => decide (0 < sureC ls bs x g)) = decide (evL c ∉ free ls bs x) := by
    rw [Bool.eq_iff_iff, List.any_eq_true, decide_eq_true_eq]
    constructor
    · rintro ⟨g, hg, h⟩ hm
      rw [decide_eq_true_eq, sure_pos (sets_lot hc hg).ne] at h
      refine h _ hm (ls0.mpr fun i hi => ?_)
      have := (sets_lot hc hg).b i hi
      exact ev_mem.mpr (by omega)
    · intro h
      refine ⟨evL c, he, ?_⟩
      rw [decide_eq_true_eq, sure_pos hE.ne]
      intro o ho h0
      rcases List.mem_cons.mp ho with rfl | ho2
      · obtain ⟨i, hi⟩ := List.exists_mem_of_ne_nil _ hE.ne
        simpa using ls0.mp h0 i hi
      · have hL := sets_lot hc (hl o (List.mem_filter.mp ho2).1)
        have : o = evL c := asc_eq (lot_asc hL.up) (lot_asc hE.up) fun i => ⟨fun hi => by
          have := hL.b i hi
          exact ev_mem.mpr (by omega), fun hi => ls0.mp h0 i hi⟩
        exact h (this ▸ ho)
  unfold quietL quietP
  rw [a1, a2, Bool.and_comm]
theorem sub_sum {α : Type} (f : α → Nat) {a b : List α} (h : a.Sublist b) : (a.map f).sum ≤ (b.map f).sum := by
  induction h with
  | slnil => exact Nat.le_refl _
  | cons x _ ih => simp only [List.map_cons, List.sum_cons]; omega
  | cons_cons x _ ih => simp only [List.map_cons, List.sum_cons]; omega
theorem sets_sum : ∀ c ∈ [1, 2, 3], ((setsN c).map List.length).sum ≤ 12 := by decide +kernel
def oneC (c : Nat) (i : Int) (q : Int × Int) : Co := (List.range c).map fun (k : Nat) => if (k : Int) = i then some q else none
theorem oneC_cn {c : Nat} {l : List Int} {i : Int} {q : Int × Int} (hi : i ∈ l) (hq : NumS q) : Cn c l (oneC c i q) := by
  refine ⟨by simp [oneC], ?_, ?_⟩
  · intro o ho r hr
    obtain ⟨k, hk, rfl⟩ := List.mem_map.mp ho
    by_cases e : (k : Int) = i
    · rw [if_pos e] at hr
      injection hr with hr
      exact hr ▸ hq
    · rw [if_neg e] at hr
      cases hr
  · rintro ⟨o, j⟩ hp
    have hg := List.mem_zipIdx_iff_getElem?.mp hp
    simp only [oneC, List.getElem?_map, Option.map_eq_some_iff] at hg
    obtain ⟨k, h1, h2⟩ := hg
    have h3 := List.getElem?_eq_some_iff.mp h1
    obtain ⟨h3, h4⟩ := h3
    simp at h4
    subst h4
    by_cases e : (j : Int) = i
    · exact .inr (e ▸ hi)
    · rw [if_neg e] at h2
      exact .inl h2.symm
theorem erase_map {α β : Type} (f : α → β) : ∀ (l : List α) (k : Nat), (l.map f).eraseIdx k = (l.eraseIdx k).map f
  | [], _ => rfl
  | _ :: _, 0 => rfl
  | x :: r, k + 1 => by
    show f x :: (r.map f).eraseIdx k = f x :: (r.eraseIdx k).map f
    rw [erase_map f r k]
theorem any_same {es ds : List (List (Int × Int))} {p : List (Int × Int) → Bool} (h : ∀ x, x ∈ gridF es [[]] ↔ x ∈ gridF ds [[]]) : (gridF es [[]]).any p = (gridF ds [[]]).any p := by
  rw [Bool.eq_iff_iff, List.any_eq_true, List.any_eq_true]
  constructor
  · rintro ⟨x, hx, q⟩
    exact ⟨x, (h x).mp hx, q⟩
  · rintro ⟨x, hx, q⟩
    exact ⟨x, (h x).mpr hx, q⟩
theorem bools2_show (a : Bool) : biV .repr [.list [.bool a, .bool a]] = some (.str (PyData.list [.bool a, .bool a]).shown) ∧ neV (.str (PyData.list [.bool a, .bool a]).shown) (.str (PyData.list [.bool a, .bool a]).shown) = some (.bool false) := by
  have nc : Nc 2 2 (.list [.bool a, .bool a]) := Nc.lst (k := 0) (p := 1) (n := 2) (fun y hy => by
    simp only [List.mem_cons, List.not_mem_nil, or_false, or_self] at hy
    exact hy ▸ Nc.bool (by decide) a) (by simp)
  obtain ⟨sh1, sh2, sh3⟩ := nc.show (by decide) (by decide)
  exact ⟨sh1, sh3⟩
abbrev cq (l : List Rat) : PyData := .tuple (l.map rq)
abbrev fq (x : Rat) : Int × Int := (x.num, (x.den : Int))
theorem fq_rt (x : Rat) : rt (fq x) = rq x := rfl
/-- a number: a fraction from 0 to 1 of bounded size -/
structure Nm (x : Rat) : Prop where
  z : 0 ≤ x
  o : x ≤ 1
  s : Sz 150 x
theorem Nm.num {x : Rat} (h : Nm x) : NumS (fq x) := by
  have h1 : 0 ≤ x.num := Rat.num_nonneg.mpr h.z
  have h2 : x.num ≤ (x.den : Int) := by
    have := (Rat.le_iff x 1).mp h.o
    simpa using this
  exact ⟨⟨den_gt x, by simpa using x.reduced, h1, h2⟩, Nat.lt_of_lt_of_le (abs_den h.s) (Nat.pow_le_pow_right (by decide) (by decide))⟩
theorem f_24 {n m : Int} (hm : m ≠ 0) (hb : m.natAbs < 2 ^ 9000) (w : Wd) : run 24 [.d (.int n), .d (.int m)] w = .ok (.d (rq (Rat.divInt n m))) w := by
  rw [run, run_at (d := d_24) rfl]
  exact low2_ok hm hb
theorem big {k l : Nat} {i : Int} (h : i.natAbs < 2 ^ k) (hk : k ≤ 9000) : i.natAbs < 2 ^ 9000 := Nat.lt_of_lt_of_le h (Nat.pow_le_pow_right (by decide) hk)
theorem f_25 {x y : Rat} {k l : Nat} (hx : Sz k x) (hy : Sz l y) (h : k + l ≤ 9000) (w : Wd) : run 25 [.d (rq x), .d (rq y)] w = .ok (.d (rq (x + y))) w := by
  refine wp_det fun Q hQ => ?_
  refine wp_at (d := d_25) rfl rfl ?_
  have e := f_24 (n := x.num * y.den + y.num * x.den) (m := x.den * y.den) (Int.mul_ne_zero (den_ne x) (den_ne y)) (big (k := k + l) (l := 0) (abs_mul (abs_den hx) (abs_den hy)) h) w
  rw [frac_add] at e
  simp [d_25, b_25, at?, addV, mulV, mul_in hx.n (abs_den hy) (by omega), mul_in hy.n (abs_den hx) (by omega), mul_in (abs_den hx) (abs_den hy) (by omega), e, getV, to, op2V, ltV, leV, gtV, geV, subV, esc, escs, escV, escI, escW, escP, Pc.esc, demE, wipeE, ixV, asSeq, bindV, bindT, bindTs, biV, setP, ownAt]
  exact hQ
theorem f_26 {x y : Rat} {k l : Nat} (hx : Sz k x) (hy : Sz l y) (h : k + l ≤ 9000) (w : Wd) : run 26 [.d (rq x), .d (rq y)] w = .ok (.d (rq (x - y))) w := by
  refine wp_det fun Q hQ => ?_
  refine wp_at (d := d_26) rfl rfl ?_
  have e := f_24 (n := x.num * y.den - y.num * x.den) (m := x.den * y.den) (Int.mul_ne_zero (den_ne x) (den_ne y)) (big (k := k + l) (l := 0) (abs_mul (abs_den hx) (abs_den hy)) h) w
  rw [frac_sub] at e
  simp [d_26, b_26, at?, mulV, mul_in hx.n (abs_den hy) (by omega), mul_in hy.n (abs_den hx) (by omega), mul_in (abs_den hx) (abs_den hy) (by omega), e, getV, to, op2V, ltV, leV, gtV, geV, subV, esc, escs, escV, escI, escW, escP, Pc.esc, demE, wipeE, ixV, asSeq, bindV, bindT, bindTs, biV, setP, ownAt]
  exact hQ
theorem f_27 {x y : Rat} {k l : Nat} (hx : Sz k x) (hy : Sz l y) (h : k + l ≤ 9000) (w : Wd) : run 27 [.d (rq x), .d (rq y)] w = .ok (.d (rq (x * y))) w := by
  refine wp_det fun Q hQ => ?_
  refine wp_at (d := d_27) rfl rfl ?_
  have e := f_24 (n := x.num * y.num) (m := x.den * y.den) (Int.mul_ne_zero (den_ne x) (den_ne y)) (big (k := k + l) (l := 0) (abs_mul (abs_den hx) (abs_den hy)) h) w
  rw [frac_mul] at e
  simp [d_27, b_27, at?, mulV, mul_in hx.n hy.n (by omega), mul_in (abs_den hx) (abs_den hy) (by omega), e, getV, to, op2V, ltV, leV, gtV, geV, subV, esc, escs, escV, escI, escW, escP, Pc.esc, demE, wipeE, ixV, asSeq, bindV, bindT, bindTs, biV, setP, ownAt]
  exact hQ
theorem lt_frac (x y : Rat) : decide (x.num * (y.den : Int) < y.num * (x.den : Int)) = decide (x < y) := by
  have := Rat.lt_iff x y
  by_cases h : x < y
  · rw [decide_eq_true h, decide_eq_true (this.mp h)]
  · rw [decide_eq_false h, decide_eq_false (fun q => h (this.mpr q))]
theorem f_28 {x y : Rat} {k l : Nat} (hx : Sz k x) (hy : Sz l y) (h : k + l ≤ 9000) (w : Wd) : run 28 [.d (rq x), .d (rq y)] w = .ok (.d (.bool (decide (x < y)))) w := by
  refine wp_det fun Q hQ => ?_
  refine wp_at (d := d_28) rfl rfl ?_
  simp [d_28, b_28, at?, mulV, mul_in hx.n (abs_den hy) (by omega), mul_in hy.n (abs_den hx) (by omega), lt_frac, getV, to, op2V, ltV, leV, gtV, geV, subV, esc, escs, escV, escI, escW, escP, Pc.esc, demE, wipeE, ixV, asSeq, bindV, bindT, bindTs, biV, setP, ownAt]
  exact hQ
theorem g_6 {x y : Rat} {k l : Nat} (hx : Sz k x) (hy : Sz l y) (h : k + l ≤ 9000) (w : Wd) : run 6 [.d (rq x), .d (rq y)] w = .ok (.d (.bool (decide (x < y)))) w := by
  have e := f_6 (fq x) (fq y) (mul_in hx.n (abs_den hy) (by omega)) (mul_in hy.n (abs_den hx) (by omega)) w
  rw [lt_frac] at e
  exact e
/-! ### draws -/
theorem q_22 {n : Nat} {w : Wd} {m : Int} (hw : Wl n w) (h1 : 1 ≤ m) (h2 : m < 1073741824) {Q : Vl → Wd → Prop} (k : ∀ i w', 0 ≤ i → i < m → Wl n w' → Q (.d (.int i)) w') : wpR (run 22 [.loc n, .d (.int m)] w) Q := by
  obtain ⟨i, w', e, i0, i1, hw', _⟩ := draw2_ok (G := gv) (F := FnT gv T 22) (np := npT T) (nm := "_law_draw") (x1 := "well") (x2 := "size") (x3 := "mixed") (x4 := "digit") hw h1 h2
  rw [run, run_at (d := d_22) rfl]
  exact wp_eq e (k i w' i0 i1 hw')
theorem q_23 {γ : Type} (f : γ → PyData) {n : Nat} {w : Wd} {xs : List γ} (d : PyData) (hd : d = .tuple (xs.map f) ∨ d = .list (xs.map f)) (hw : Wl n w) (h1 : xs ≠ []) (h2 : xs.length < 1073741824) {Q : Vl → Wd → Prop} (k : ∀ x ∈ xs, ∀ w', Wl n w' → Q (.d (f x)) w') : wpR (run 23 [.loc n, .d d] w) Q := by
  refine wp_at (d := d_23) rfl rfl ?_
  have hl : 0 < xs.length := List.length_pos_iff.mpr h1
  have key : ∀ i : Int, 0 ≤ i → i < xs.length → ∃ x ∈ xs, at? (xs.map f) i = some (f x) := fun i i0 i1 => by
    refine ⟨xs[i.toNat]'(by omega), List.getElem_mem _, ?_⟩
    unfold at?
    rw [if_pos i0, List.getElem?_map, List.getElem?_eq_getElem (by omega)]
    rfl
  rcases hd with rfl | rfl
  · simp [d_23, b_23, getV, to, op2V, ltV, leV, gtV, geV, subV, esc, escs, escV, escI, escW, escP, Pc.esc, demE, wipeE, ixV, asSeq, bindV, bindT, bindTs, biV, setP, ownAt]
    refine q_22 hw (by omega) (by omega) fun i w' i0 i1 hw' => ?_
    obtain ⟨x, hx, e⟩ := key i i0 i1
    simp [e, getV, to, op2V, ltV, leV, gtV, geV, subV, esc, escs, escV, escI, escW, escP, Pc.esc, demE, wipeE, ixV, asSeq, bindV, bindT, bindTs, biV, setP, ownAt]
    exact k x hx w' hw'
  · simp [d_23, b_23, getV, to, op2V, ltV, leV, gtV, geV, subV, esc, escs, escV, escI, escW, escP, Pc.esc, demE, wipeE, ixV, asSeq, bindV, bindT, bindTs, biV, setP, ownAt]
    refine q_22 hw (by omega) (by omega) fun i w' i0 i1 hw' => ?_
    obtain ⟨x, hx, e⟩ := key i i0 i1
    simp [e, getV, to, op2V, ltV, leV, gtV, geV, subV, esc, escs, escV, escI, escW, escP, Pc.esc, demE, wipeE, ixV, asSeq, bindV, bindT, bindTs, biV, setP, ownAt]
    exact k x hx w' hw'
theorem f_21 {ns : List Int} {t : Int} {w : Wd} (hz : ns.length ≤ 1000) (ht : 0 ≤ t) {Q : Vl → Wd → Prop} (k : ∀ n w', Wl n w' → Q (.loc n) w') : wpR (run 21 [.d (.list (ns.map .int)), .d (.int t)] w) Q := by
  obtain ⟨w', e, hw, _⟩ := well2_ok (G := gv) (F := FnT gv T 21) (np := npT T) (nm := "_law_well") (x1 := "script") (x2 := "lap") (x3 := "own") (x4 := "stir") (x5 := "each") (w := w) hz ht
  rw [run, run_at (d := d_21) rfl]
  exact wp_eq e (k _ w' hw)
def insR (x : Rat) (l : List Rat) : List Rat := l.take (l.filter fun e => !decide (x < e)).length ++ [x] ++ l.drop (l.filter fun e => !decide (x < e)).length
def rise (l : List Rat) : List Rat := l.foldl (fun a x => insR x a) []
theorem rise_app (l : List Rat) (x : Rat) : rise (l ++ [x]) = insR x (rise l) := by simp [rise, List.foldl_append]
theorem insR_perm (x : Rat) (l : List Rat) : List.Perm (insR x l) (l ++ [x]) := by
  unfold insR
  generalize (l.filter fun e => !decide (x < e)).length = k
  have h : List.Perm (l.take k ++ ([x] ++ l.drop k)) (l.take k ++ (l.drop k ++ [x])) := List.Perm.append_left _ List.perm_append_comm
  rw [← List.append_assoc, ← List.append_assoc, List.take_append_drop] at h
  exact h
theorem rise_fold : ∀ (l acc : List Rat), List.Perm (l.foldl (fun a x => insR x a) acc) (acc ++ l)
  | [], acc => by simp
  | x :: r, acc => by
    rw [List.foldl_cons]
    refine (rise_fold r _).trans ?_
    have := (insR_perm x acc).append_right r
    simpa using this
theorem rise_perm (l : List Rat) : List.Perm (rise l) l := by simpa [rise] using rise_fold l []
theorem rise_len (l : List Rat) : (rise l).length = l.length := (rise_perm l).length_eq
theorem rise_mem {l : List Rat} {x : Rat} : x ∈ rise l ↔ x ∈ l := (rise_perm l).mem_iff
structure Nms (p : List Rat) : Prop where
  n : ∀ x ∈ p, Nm x
  l : 1 ≤ p.length ∧ p.length ≤ 5
structure Lims (c : List Rat) : Prop extends Nms c where
  b : ∀ x ∈ c, x < 1
  up : c.Pairwise (· ≤ ·)
theorem f_13 {p : List Rat} (h : ∀ x ∈ p, Nm x) (hl : p.length ≤ 1000) (w : Wd) : run 13 [.d (cq p)] w = .ok (.d (.list ((rise p).map rq))) w := by
  refine wp_det fun Q hQ => ?_
  refine wp_at (d := d_13) rfl rfl ?_
  simp [d_13, b_13, getV, to, op2V, ltV, leV, gtV, geV, subV, esc, escs, escV, escI, escW, escP, Pc.esc, demE, wipeE, ixV, asSeq, bindV, bindT, bindTs, biV, setP, ownAt]
  refine wp_forP rq (fun done env v => ∃ s2, env = [.val (.d (cq p)), .own ((rise done).map rq), s2, .non] ∧ v = w) [] ⟨.non, by simp [rise], rfl⟩ ?_ ?_
  · rintro d x r hd env v ⟨s2, rfl, rfl⟩ Q hQ
    have hx : x ∈ p := by
      have e : p = d ++ x :: r := by simpa using hd
      rw [e]
      simp
    have hdp : ∀ y ∈ rise d, y ∈ p := fun y hy => by
      have e : p = d ++ x :: r := by simpa using hd
      rw [e]
      simp [rise_mem.mp hy]
    have hdl : (rise d).length < p.length := by
      have e : p = d ++ x :: r := by simpa using hd
      rw [rise_len, e, List.length_append, List.length_cons]
      omega
    simp [forT, getV, to, op2V, ltV, leV, gtV, geV, subV, esc, escs, escV, escI, escW, escP, Pc.esc, demE, wipeE, ixV, asSeq, bindV, bindT, bindTs, biV, setP, ownAt]
    refine wp_gathF rq rq (fun e => !decide (x < e)) (fun y hy => ?_) (by simp [sizeLine]; omega) ?_
    · have e := g_6 (h x hx).s (h y (hdp y hy)).s (by decide) v
      by_cases q : x < y
      · simp only [q, decide_true] at e
        simp [e, q, getV, to, op2V, ltV, leV, gtV, geV, subV, esc, escs, escV, escI, escW, escP, Pc.esc, demE, wipeE, ixV, asSeq, bindV, bindT, bindTs, biV, setP, ownAt]
      · simp only [q, decide_false] at e
        simp [e, q, getV, to, op2V, ltV, leV, gtV, geV, subV, esc, escs, escV, escI, escW, escP, Pc.esc, demE, wipeE, ixV, asSeq, bindV, bindT, bindTs, biV, setP, ownAt]
    · rw [List.nil_append]
      have hk : ((rise d).filter fun e => !decide (x < e)).length ≤ (rise d).length := List.length_filter_le ..
      have q := hQ [.val (.d (cq p)), .own ((rise (d ++ [x])).map rq), .val (.d (rq x)), .non] v ⟨_, rfl, rfl⟩
      rw [rise_app, insR] at q
      simp [getV, to, op2V, ltV, leV, gtV, geV, subV, esc, escs, escV, escI, escW, escP, Pc.esc, demE, wipeE, ixV, asSeq, bindV, bindT, bindTs, biV, setP, ownAt]
      generalize ((rise d).filter fun e => !decide (x < e)).length = k at hk q ⊢
      have e1 : mutV .ins ((rise d).map rq) [.int (k : Nat), rq x] = some (((rise d).take k ++ [x] ++ (rise d).drop k).map rq) := by
        have c1 : (decide (((rise d).map rq).length < sizeLine) && decide ((0 : Int) ≤ (k : Nat)) && decide (((k : Nat) : Int) < 2 ^ 63)) = true := by
          simp [sizeLine]
          omega
        simp only [mutV, c1, if_true]
        simp [List.map_take, List.map_drop]
      refine ⟨_, ⟨_, e1, rfl⟩, ?_⟩
      simp [getV, to, op2V, ltV, leV, gtV, geV, subV, esc, escs, escV, escI, escW, escP, Pc.esc, demE, wipeE, ixV, asSeq, bindV, bindT, bindTs, biV, setP, ownAt]
      simpa using q
  · rintro env v ⟨s2, rfl, rfl⟩
    simp [getV, to, op2V, ltV, leV, gtV, geV, subV, esc, escs, escV, escI, escW, escP, Pc.esc, demE, wipeE, ixV, asSeq, bindV, bindT, bindTs, biV, setP, ownAt]
    exact hQ
/-- the indexes of the numbers up to the m-th least one -/
def callBy (p : List Rat) (m : Nat) : List Nat := if m = 0 then [] else (p.zipIdx.filter fun q => !decide ((rise p).getD (m - 1) 0 < q.1)).map (·.2)
def cntD : List (Rat × Rat) → Nat
  | [] => 0
  | (x, c) :: r => if c < x then 0 else 1 + cntD r
def manyD (p c : List Rat) : Nat := cntD ((rise p).zip c)
def upH (p c : List Rat) : List Nat := ((((rise p).zip c).zipIdx).filter fun q => !decide (q.1.2 < q.1.1)).map fun q => q.2 + 1
def manyU (p c : List Rat) : Nat := (upH p c).getLast?.getD 0
abbrev lin (l : List Nat) : PyData := .tuple (l.map fun (k : Nat) => PyData.int k)
theorem f_14 {p : List Rat} {m : Nat} (h : ∀ x ∈ p, Nm x) (hl : p.length ≤ 1000) (hm : m ≤ p.length) (w : Wd) : run 14 [.d (cq p), .d (.int m)] w = .ok (.d (lin (callBy p m))) w := by
  refine wp_det fun Q hQ => ?_
  refine wp_at (d := d_14) rfl rfl ?_
  have e0 := eq_pl (x := .int m) (y := .int 0) (.int _) (.int _) (by decide : 0 ≤ 63) (by decide : 0 ≤ 63)
  by_cases h0 : m = 0
  · subst h0
    have hQ : Q (.d (.tuple [])) w := by simpa [callBy, lin] using hQ
    simp [d_14, b_14, e0, getV, to, op2V, ltV, leV, gtV, geV, subV, esc, escs, escV, escI, escW, escP, Pc.esc, demE, wipeE, ixV, asSeq, bindV, bindT, bindTs, biV, setP, ownAt]
    exact hQ
  · have e1 : (PyData.int (m : Int)) ≠ .int 0 := by
      intro q
      injection q with q
      omega
    simp only [e1, decide_false] at e0
    have lt : m - 1 < (rise p).length := by
      rw [rise_len]
      omega
    have ha : at? ((rise p).map rq) ((m : Int) - 1) = some (rq ((rise p).getD (m - 1) 0)) := by
      have e : (m : Int) - 1 = ((m - 1 : Nat) : Int) := by omega
      rw [e, at_nat, List.getElem?_map, List.getElem?_eq_getElem lt, List.getD_eq_getElem?_getD, List.getElem?_eq_getElem lt]
      rfl
    have hlast : (rise p).getD (m - 1) 0 ∈ p := by
      rw [List.getD_eq_getElem?_getD, List.getElem?_eq_getElem lt]
      exact rise_mem.mp (List.getElem_mem lt)
    simp only [callBy, if_neg h0] at hQ
    generalize (rise p).getD (m - 1) 0 = t at ha hlast hQ
    simp [d_14, b_14, e0, f_13 h hl, ha, getV, to, op2V, ltV, leV, gtV, geV, subV, esc, escs, escV, escI, escW, escP, Pc.esc, demE, wipeE, ixV, asSeq, bindV, bindT, bindTs, biV, setP, ownAt]
    rw [List.zipIdx_map, List.map_map]
    refine wp_gathF _ (fun q : Rat × Nat => PyData.int q.2) (fun q => !decide (t < q.1)) ?_ (by simp [sizeLine]; omega) ?_
    · rintro ⟨x, i⟩ hx
      have hx : x ∈ p := by
        have := List.mem_zipIdx_iff_getElem?.mp hx
        exact List.mem_of_getElem? this
      have e := g_6 (h t hlast).s (h x hx).s (by decide) w
      by_cases q : t < x
      · simp only [q, decide_true] at e
        simp [e, q, getV, to, op2V, ltV, leV, gtV, geV, subV, esc, escs, escV, escI, escW, escP, Pc.esc, demE, wipeE, ixV, asSeq, bindV, bindT, bindTs, biV, setP, ownAt]
      · simp only [q, decide_false] at e
        simp [e, q, getV, to, op2V, ltV, leV, gtV, geV, subV, esc, escs, escV, escI, escW, escP, Pc.esc, demE, wipeE, ixV, asSeq, bindV, bindT, bindTs, biV, setP, ownAt]
    · simp [getV, to, op2V, ltV, leV, gtV, geV, subV, esc, escs, escV, escI, escW, escP, Pc.esc, demE, wipeE, ixV, asSeq, bindV, bindT, bindTs, biV, setP, ownAt]
      simpa [Function.comp_def, lin] using hQ
theorem zip_rq (a b : List Rat) : List.zipWith (fun x y => PyData.tuple [rq x, rq y]) a b = (a.zip b).map fun q => PyData.tuple [rq q.1, rq q.2] := by
  rw [List.zip_eq_zipWith, List.map_zipWith]
theorem zl_sz {p c : List Rat} (h : ∀ x ∈ p, Nm x) (hc : ∀ x ∈ c, Nm x) : ∀ q ∈ (rise p).zip c, Sz 150 q.1 ∧ Sz 150 q.2 := fun q hq => ⟨(h _ (rise_mem.mp (List.of_mem_zip hq).1)).s, (hc _ (List.of_mem_zip hq).2).s⟩
theorem f_15 {p c : List Rat} (h : ∀ x ∈ p, Nm x) (hc : ∀ x ∈ c, Nm x) (hl : p.length ≤ 1000) (w : Wd) : run 15 [.d (cq p), .d (cq c)] w = .ok (.d (.int (manyU p c : Nat))) w := by
  refine wp_det fun Q hQ => ?_
  refine wp_at (d := d_15) rfl rfl ?_
  simp [d_15, b_15, f_13 h hl, getV, to, op2V, ltV, leV, gtV, geV, subV, esc, escs, escV, escI, escW, escP, Pc.esc, demE, wipeE, ixV, asSeq, bindV, bindT, bindTs, biV, setP, ownAt]
  rw [zip_rq, List.zipIdx_map, List.map_map]
  refine wp_gathF _ (fun q : (Rat × Rat) × Nat => PyData.int ((q.2 + 1 : Nat) : Int)) (fun q => !decide (q.1.2 < q.1.1)) ?_ (by
    simp [sizeLine, rise_len]
    omega) ?_
  · rintro ⟨⟨x, y⟩, i⟩ hx
    have hx : (x, y) ∈ (rise p).zip c := by
      have := List.mem_zipIdx_iff_getElem?.mp hx
      exact List.mem_of_getElem? this
    have s := zl_sz h hc _ hx
    have e := g_6 s.2 s.1 (by decide) w
    by_cases q : y < x
    · simp only [q, decide_true] at e
      simp [e, q, getV, to, op2V, ltV, leV, gtV, geV, subV, esc, escs, escV, escI, escW, escP, Pc.esc, demE, wipeE, ixV, asSeq, bindV, bindT, bindTs, biV, setP, ownAt]
    · simp only [q, decide_false] at e
      simp [e, q, addV, getV, to, op2V, ltV, leV, gtV, geV, subV, esc, escs, escV, escI, escW, escP, Pc.esc, demE, wipeE, ixV, asSeq, bindV, bindT, bindTs, biV, setP, ownAt]
  · rw [List.nil_append]
    have e : ((((rise p).zip c).zipIdx.filter fun q => !decide (q.1.2 < q.1.1)).map fun q => PyData.int ((q.2 + 1 : Nat) : Int)) = (upH p c).map fun (k : Nat) => PyData.int k := by simp [upH, Function.comp_def]
    rw [e]
    have hne := ne_pl (x := .list ((upH p c).map fun (k : Nat) => PyData.int k)) (y := .list []) (n := 1) (m := 1) (.lst (PlA.of fun y hy => by
      obtain ⟨k, _, rfl⟩ := List.mem_map.mp hy
      exact .int _)) (.lst .nil) (by decide) (by decide)
    unfold manyU at hQ
    cases hu : upH p c with
    | nil =>
      rw [hu] at hne hQ
      simp at hne
      simp [hne, getV, to, op2V, ltV, leV, gtV, geV, subV, esc, escs, escV, escI, escW, escP, Pc.esc, demE, wipeE, ixV, asSeq, bindV, bindT, bindTs, biV, setP, ownAt]
      simpa using hQ
    | cons a r =>
      rw [hu] at hne hQ
      have nn : (PyData.list ((a :: r).map fun (k : Nat) => PyData.int k)) ≠ .list [] := by simp
      simp only [nn, decide_false] at hne
      have ha : at? ((a :: r).map fun (k : Nat) => PyData.int k) (-1) = some (.int (((a :: r).getLast?.getD 0 : Nat) : Int)) := by
        unfold at?
        rw [if_neg (by decide), if_pos (by simp; omega)]
        have e1 : (-1 + (((a :: r).map fun (k : Nat) => PyData.int k).length : Int)).toNat = (a :: r).length - 1 := by simp; omega
        rw [e1, List.getElem?_map, List.getLast?_eq_getElem?]
        simp <;> done
      simp only [List.map_cons] at hne ha
      simp [hne, ha, getV, to, op2V, ltV, leV, gtV, geV, subV, esc, escs, escV, escI, escW, escP, Pc.esc, demE, wipeE, ixV, asSeq, bindV, bindT, bindTs, biV, setP, ownAt]
      simpa using hQ
theorem cq_ct (p : List Rat) : cq p = ct (p.map fq) := by
  simp [cq, ct, List.map_map, Function.comp_def]
theorem f_18 {p : List Rat} (h : Nms p) (w : Wd) : run 18 [.d (cq p)] w = .ok (.d .none) w := by
  refine wp_det fun Q hQ => ?_
  refine wp_at (d := d_18) rfl rfl ?_
  have e := f_7 (c := p.length) (x := p.map fq) (by simp) h.l.2 (fun r hr => by
    obtain ⟨x, hx, rfl⟩ := List.mem_map.mp hr
    exact (h.n x hx).num) w
  rw [← cq_ct] at e
  have h1 : (1 : Int) ≤ p.length := by have := h.l; omega
  have h2 : (p.length : Int) ≤ 5 := by have := h.l; omega
  simp [d_18, b_18, isiV, h1, h2, gl, getV, to, op2V, ltV, leV, gtV, geV, subV, esc, escs, escV, escI, escW, escP, Pc.esc, demE, wipeE, ixV, asSeq, bindV, bindT, bindTs, biV, setP, ownAt]
  have e' : run 7 [.d (.int (p.length : Int)), .d (.tuple (p.map rq))] w = .ok (.d .none) w := e
  rw [e']
  simp
  exact hQ
theorem f_8 {c : List Rat} (h : Lims c) (w : Wd) : run 8 [.d (.int c.length), .d (cq c)] w = .ok (.d .none) w := by
  refine wp_det fun Q hQ => ?_
  refine wp_at (d := d_8) rfl rfl ?_
  have h1 : (1 : Int) ≤ c.length := by have := h.l; omega
  have h2 : (c.length : Int) ≤ 5 := by have := h.l; omega
  have hn := nin_pl (x := .int c.length) (y := .tuple [.none, .int c.length]) rfl (.int _) (.cons .non (.cons (.int _) .nil)) (by decide : 0 ≤ 63) (by decide : 0 ≤ 62)
  have hm : PyData.int c.length ∈ [PyData.none, .int c.length] := by simp
  simp only [hm, decide_true, Bool.not_true] at hn
  simp [d_8, b_8, isiV, h1, h2, hn, gl, getV, to, op2V, ltV, leV, gtV, geV, subV, esc, escs, escV, escI, escW, escP, Pc.esc, demE, wipeE, ixV, asSeq, bindV, bindT, bindTs, biV, setP, ownAt]
  rw [List.zipIdx_map, List.map_map]
  refine wp_forP _ (fun done env v => ∃ s2 s3, env = [.val (.d (.int c.length)), .val (.d (cq c)), s2, s3] ∧ v = w) [] ⟨.non, .non, rfl, rfl⟩ ?_ ?_
  · rintro d ⟨x, i⟩ r hd env v ⟨s2, s3, rfl, rfl⟩ Q hQ
    have hmem : (x, i) ∈ c.zipIdx := by
      have e : c.zipIdx = d ++ (x, i) :: r := by simpa using hd
      rw [e]
      simp
    have hg : c[i]? = some x := List.mem_zipIdx_iff_getElem?.mp hmem
    have hx : x ∈ c := List.mem_of_getElem? hg
    have q := (h.n x hx).num
    have e4 := f_4 (fq x) v
    simp only [q.b, q.g, q.z, q.o, decide_true, Bool.and_self] at e4
    have e5 := eq_rq x 1
    have n1 : x ≠ 1 := fun e => by
      have := h.b x hx
      rw [e] at this
      exact absurd this (by decide)
    simp only [n1, decide_false] at e5
    have e5 : eqV (rq x) (.tuple [.int 1, .int 1]) = some (.bool false) := e5
    by_cases h0 : i = 0
    · subst h0
      simp [forT, e4, gl, getV, to, op2V, ltV, leV, gtV, geV, subV, esc, escs, escV, escI, escW, escP, Pc.esc, demE, wipeE, ixV, asSeq, bindV, bindT, bindTs, biV, setP, ownAt]
      simp [e5, getV, to, op2V, ltV, leV, gtV, geV, subV, esc, escs, escV, escI, escW, escP, Pc.esc, demE, wipeE, ixV, asSeq, bindV, bindT, bindTs, biV, setP, ownAt]
      exact hQ _ _ ⟨_, _, rfl, rfl⟩
    · have hi : i - 1 < c.length := by
        have := (List.getElem?_eq_some_iff.mp hg).1
        omega
      have hgt : (0 : Int) < (i : Nat) := by omega
      have ha : at? (c.map rq) ((i : Int) - 1) = some (rq c[i - 1]) := by
        have e : (i : Int) - 1 = ((i - 1 : Nat) : Int) := by omega
        rw [e, at_nat, List.getElem?_map, List.getElem?_eq_getElem hi]
        rfl
      have hle : c[i - 1] ≤ x := by
        obtain ⟨hl, e⟩ := List.getElem?_eq_some_iff.mp hg
        rw [← e]
        exact (List.pairwise_iff_getElem.mp h.up) (i - 1) i hi hl (by omega)
      have e6 := g_6 (x := x) (y := c[i - 1]) (h.n x hx).s (h.n _ (List.getElem_mem hi)).s (by decide) v
      have nl : ¬ x < c[i - 1] := Rat.not_lt.mpr hle
      simp only [nl, decide_false] at e6
      simp [forT, e4, gl, getV, to, op2V, ltV, leV, gtV, geV, subV, esc, escs, escV, escI, escW, escP, Pc.esc, demE, wipeE, ixV, asSeq, bindV, bindT, bindTs, biV, setP, ownAt]
      have hgt' : 0 < i := by omega
      simp [e5, hgt', ha, e6, getV, to, op2V, ltV, leV, gtV, geV, subV, esc, escs, escV, escI, escW, escP, Pc.esc, demE, wipeE, ixV, asSeq, bindV, bindT, bindTs, biV, setP, ownAt]
      exact hQ _ _ ⟨_, _, rfl, rfl⟩
  · rintro env v ⟨s2, s3, rfl, rfl⟩
    simp
    exact hQ
theorem cntD_le : ∀ l : List (Rat × Rat), cntD l ≤ l.length
  | [] => Nat.le_refl _
  | (x, y) :: r => by
    have := cntD_le r
    simp only [cntD, List.length_cons]
    split <;> omega
theorem manyD_le (p c : List Rat) : manyD p c ≤ p.length := by
  have := cntD_le ((rise p).zip c)
  rw [List.length_zip, rise_len] at this
  unfold manyD
  omega
theorem upH_le {p c : List Rat} {k : Nat} (h : k ∈ upH p c) : 1 ≤ k ∧ k ≤ p.length := by
  obtain ⟨⟨⟨x, y⟩, i⟩, hq, rfl⟩ := List.mem_map.mp h
  have := List.mem_zipIdx_iff_getElem?.mp (List.mem_filter.mp hq).1
  have := (List.getElem?_eq_some_iff.mp this).1
  rw [List.length_zip, rise_len] at this
  simp
  omega
theorem manyU_le (p c : List Rat) : manyU p c ≤ p.length := by
  unfold manyU
  cases h : (upH p c).getLast? with
  | none => simp
  | some k => exact (upH_le (List.mem_of_getLast? h)).2
def tldB (p c : List Rat) (up : Bool) : List Nat := callBy p (if up then manyU p c else manyD p c)
def nth (p : List Rat) (k : Nat) : Rat := p[k]?.getD 0
def insO (p : List Rat) (k : Nat) (f : List Nat) : List Nat := f.take (f.filter fun e => !decide (nth p k < nth p e)).length ++ [k] ++ f.drop (f.filter fun e => !decide (nth p k < nth p e)).length
def ordL (p : List Rat) (n : Nat) : List Nat := (List.range n).foldl (fun f k => insO p k f) []
theorem ordL_succ (p : List Rat) (n : Nat) : ordL p (n + 1) = insO p n (ordL p n) := by simp [ordL, List.range_succ, List.foldl_append]
theorem insO_perm (p : List Rat) (k : Nat) (f : List Nat) : List.Perm (insO p k f) (f ++ [k]) := by
  unfold insO
  generalize (f.filter fun e => !decide (nth p k < nth p e)).length = n
  have h : List.Perm (f.take n ++ ([k] ++ f.drop n)) (f.take n ++ (f.drop n ++ [k])) := List.Perm.append_left _ List.perm_append_comm
  rw [← List.append_assoc, ← List.append_assoc, List.take_append_drop] at h
  exact h
theorem ordL_perm (p : List Rat) : ∀ n, List.Perm (ordL p n) (List.range n)
  | 0 => by simp [ordL]
  | n + 1 => by
    rw [ordL_succ, List.range_succ]
    exact (insO_perm p n _).trans ((ordL_perm p n).append_right [n])
theorem ordL_len (p : List Rat) (n : Nat) : (ordL p n).length = n := by simpa using (ordL_perm p n).length_eq
theorem ordL_lt {p : List Rat} {n i : Nat} (h : i ∈ ordL p n) : i < n := List.mem_range.mp ((ordL_perm p n).mem_iff.mp h)
theorem cut_drop {α : Type} (xs : List α) (i : Nat) (h : i ≤ xs.length) : cut xs (some (i : Int)) none = xs.drop i := by
  have e : slIx xs.length 0 (some (i : Int)) = i := by
    have n0 : ¬ ((i : Int) < 0) := by omega
    simp only [slIx, n0, if_false]
    omega
  have e2 : slIx xs.length xs.length none = xs.length := rfl
  unfold cut
  rw [e, e2, List.take_of_length_le (by simp)]
theorem at_rq {p : List Rat} {k : Nat} (h : k < p.length) : at? (p.map rq) (k : Int) = some (rq (nth p k)) := by
  rw [at_nat, List.getElem?_map, nth, List.getElem?_eq_getElem h]
  rfl
theorem getD_mem {p : List Rat} {k : Nat} (h : k < p.length) : nth p k ∈ p := by
  rw [nth, List.getElem?_eq_getElem h]
  exact List.getElem_mem h
abbrev ni (l : List Nat) : List PyData := l.map fun (k : Nat) => PyData.int k
theorem sl_lo (l : List Nat) (n : Nat) (h : n ≤ l.length) : slV (.list (ni l)) none (some (n : Int)) = some (.list (ni (l.take n))) := by
  show some (PyData.list (cut (ni l) none (some (n : Int)))) = _
  rw [cut_take _ _ (by simpa using h)]
  simp [ni, List.map_take]
theorem sl_hi (l : List Nat) (n : Nat) (h : n ≤ l.length) : slV (.list (ni l)) (some (n : Int)) none = some (.list (ni (l.drop n))) := by
  show some (PyData.list (cut (ni l) (some (n : Int)) none)) = _
  rw [cut_drop _ _ (by simpa using h)]
  simp [ni, List.map_drop]
theorem add_l {a b : List Nat} (h : a.length + b.length ≤ 10000) : addV (.list (ni a)) (.list (ni b)) = some (.list (ni (a ++ b))) := by
  have f : fits ((ni a).length + (ni b).length) = true := by
    simp [fits, sizeLine]
    omega
  simp only [addV, f, if_true, ni, List.map_append]
theorem f_40 {p : List Rat} (h : ∀ x ∈ p, Nm x) (hl : p.length ≤ 1000) (w : Wd) : run 40 [.d (cq p)] w = .ok (.d (.list (ni (ordL p p.length)))) w := by
  refine wp_det fun Q hQ => ?_
  refine wp_at (d := d_40) rfl rfl ?_
  simp [d_40, b_40, small_nat (show p.length ≤ 1000000 by omega), getV, to, op2V, ltV, leV, gtV, geV, subV, esc, escs, escV, escI, escW, escP, Pc.esc, demE, wipeE, ixV, asSeq, bindV, bindT, bindTs, biV, setP, ownAt]
  refine wp_forP (fun k : Nat => PyData.int k) (fun done env v => ∃ s2 s3, env = [.val (.d (cq p)), .val (.d (.list (ni (ordL p done.length)))), s2, s3, .non] ∧ v = w) [] ⟨.non, .non, by simp [ordL], rfl⟩ ?_ ?_
  · rintro d x r hd env v ⟨s2, s3, rfl, rfl⟩ Q hQ
    obtain ⟨rfl, hx⟩ := range_split (by simpa using hd)
    generalize hk : d.length = k at *
    have ha := at_rq hx
    simp [forT, getV, to, op2V, ltV, leV, gtV, geV, subV, esc, escs, escV, escI, escW, escP, Pc.esc, demE, wipeE, ixV, asSeq, bindV, bindT, bindTs, biV, setP, ownAt]
    refine wp_gathF (fun k : Nat => PyData.int k) (fun k : Nat => PyData.int k) (fun e => !decide (nth p k < nth p e)) (fun e he => ?_) (by simp [sizeLine, ordL_len]; omega) ?_
    · have he := ordL_lt he
      obtain ⟨a, ha⟩ : ∃ a, p[k]? = some a := ⟨_, List.getElem?_eq_getElem hx⟩
      obtain ⟨b, hb⟩ : ∃ b, p[e]? = some b := ⟨_, List.getElem?_eq_getElem (show e < p.length by omega)⟩
      have ga : nth p k = a := by simp [nth, ha]
      have gb : nth p e = b := by simp [nth, hb]
      have e4 := f_28 (h a (List.mem_of_getElem? ha)).s (h b (List.mem_of_getElem? hb)).s (by decide) v
      rw [ga, gb]
      by_cases q : a < b
      · simp only [q, decide_true] at e4
        simp [ha, hb, e4, q, getV, to, op2V, ltV, leV, gtV, geV, subV, esc, escs, escV, escI, escW, escP, Pc.esc, demE, wipeE, ixV, asSeq, bindV, bindT, bindTs, biV, setP, ownAt]
      · simp only [q, decide_false] at e4
        simp [ha, hb, e4, q, getV, to, op2V, ltV, leV, gtV, geV, subV, esc, escs, escV, escI, escW, escP, Pc.esc, demE, wipeE, ixV, asSeq, bindV, bindT, bindTs, biV, setP, ownAt]
    · rw [List.nil_append]
      have hk2 : ((ordL p k).filter fun e => !decide (nth p k < nth p e)).length ≤ (ordL p k).length := List.length_filter_le ..
      have q := hQ [.val (.d (cq p)), .val (.d (.list (ni (ordL p (k + 1))))), .val (.d (.int k)), .val (.d (.int (((ordL p k).filter fun e => !decide (nth p k < nth p e)).length : Nat))), .non] v ⟨.val (.d (.int k)), .val (.d (.int (((ordL p k).filter fun e => !decide (nth p k < nth p e)).length : Nat))), by simp [hk], rfl⟩
      rw [ordL_succ, insO] at q
      simp [getV, to, op2V, ltV, leV, gtV, geV, subV, esc, escs, escV, escI, escW, escP, Pc.esc, demE, wipeE, ixV, asSeq, bindV, bindT, bindTs, biV, setP, ownAt]
      generalize ((ordL p k).filter fun e => !decide (nth p k < nth p e)).length = n at hk2 q ⊢
      have hol := ordL_len p k
      have s1 := sl_lo (ordL p k) n hk2
      have s2 := sl_hi (ordL p k) n hk2
      have a1 := add_l (a := (ordL p k).take n) (b := [k]) (by simp; omega)
      have a2 := add_l (a := (ordL p k).take n ++ [k]) (b := (ordL p k).drop n) (by simp; omega)
      have a1 : addV (.list (ni ((ordL p k).take n))) (.list [.int (k : Nat)]) = some (.list (ni ((ordL p k).take n ++ [k]))) := a1
      simp only [ni, List.map_take, List.map_drop, List.map_append, List.map_cons, List.map_nil] at s1 s2 a1 a2 q
      simp [bound?, s1, a1, getV, to, op2V, ltV, leV, gtV, geV, subV, esc, escs, escV, escI, escW, escP, Pc.esc, demE, wipeE, ixV, asSeq, bindV, bindT, bindTs, biV, setP, ownAt]
      simp [bound?, s2, a2, getV, to, op2V, ltV, leV, gtV, geV, subV, esc, escs, escV, escI, escW, escP, Pc.esc, demE, wipeE, ixV, asSeq, bindV, bindT, bindTs, biV, setP, ownAt]
      simpa using q
  · rintro env v ⟨s2, s3, rfl, rfl⟩
    simp [getV, to, op2V, ltV, leV, gtV, geV, subV, esc, escs, escV, escI, escW, escP, Pc.esc, demE, wipeE, ixV, asSeq, bindV, bindT, bindTs, biV, setP, ownAt]
    simpa using hQ
theorem filt_map (p : List Rat) (x : Rat) (f : List Nat) : (f.filter fun e => !decide (x < nth p e)).length = ((f.map (nth p)).filter fun e => !decide (x < e)).length := by
  rw [List.filter_map, List.length_map]
  rfl
theorem insO_map (p : List Rat) (k : Nat) (f : List Nat) : (insO p k f).map (nth p) = insR (nth p k) (f.map (nth p)) := by
  unfold insO insR
  rw [filt_map]
  simp [List.map_take, List.map_drop]
theorem take_succ' (p : List Rat) (n : Nat) (h : n < p.length) : p.take (n + 1) = p.take n ++ [nth p n] := by
  rw [List.take_add_one, List.getElem?_eq_getElem h]
  simp [nth, h]
theorem ord_rise (p : List Rat) : ∀ n, n ≤ p.length → (ordL p n).map (nth p) = rise (p.take n)
  | 0, _ => by simp [ordL, rise]
  | n + 1, h => by
    rw [ordL_succ, insO_map, ord_rise p n (by omega), take_succ' p n (by omega), rise_app]
theorem ord_rise_all (p : List Rat) : (ordL p p.length).map (nth p) = rise p := by
  rw [ord_rise p p.length (Nat.le_refl _), List.take_length]
/-! ### the steps of the law -/
def turnM (p c : List Rat) (up : Bool) (m k : Nat) : Nat := if !decide (nth c k < nth (rise p) k) && (up || decide (m = k)) then k + 1 else m
def stepM (p c : List Rat) (up : Bool) (n : Nat) : Nat := (List.range n).foldl (turnM p c up) 0
theorem stepM_succ (p c : List Rat) (up : Bool) (n : Nat) : stepM p c up (n + 1) = turnM p c up (stepM p c up n) n := by simp [stepM, List.range_succ, List.foldl_append]
theorem stepM_le (p c : List Rat) (up : Bool) : ∀ n, stepM p c up n ≤ n
  | 0 => by simp [stepM]
  | n + 1 => by
    have := stepM_le p c up n
    rw [stepM_succ, turnM]
    split <;> omega
def toI (l : List Nat) : List Int := l.map fun (k : Nat) => (k : Int)
theorem ni_toI (l : List Nat) : ni l = (toI l).map .int := by simp [toI]
def stp (p c : List Rat) (up : Bool) : List Int := sortI (toI ((ordL p p.length).take (stepM p c up p.length)))
theorem f_41 {p c : List Rat} {up : Bool} (h : ∀ x ∈ p, Nm x) (hc : ∀ x ∈ c, Nm x) (hl : p.length ≤ 1000) (he : c.length = p.length) (w : Wd) : run 41 [.d (cq p), .d (cq c), .d (.bool up)] w = .ok (.d (li (stp p c up))) w := by
  refine wp_det fun Q hQ => ?_
  refine wp_at (d := d_41) rfl rfl ?_
  simp [d_41, b_41, f_40 h hl, small_nat (show p.length ≤ 1000000 by omega), getV, to, op2V, ltV, leV, gtV, geV, subV, esc, escs, escV, escI, escW, escP, Pc.esc, demE, wipeE, ixV, asSeq, bindV, bindT, bindTs, biV, setP, ownAt]
  refine wp_forP (fun k : Nat => PyData.int k) (fun done env v => ∃ s3, env = [.val (.d (cq p)), .val (.d (cq c)), .val (.d (.bool up)), s3, .val (.d (.list (ni (ordL p p.length)))), .val (.d (.int (stepM p c up done.length : Nat)))] ∧ v = w) [] ⟨.non, by simp [stepM], rfl⟩ ?_ ?_
  · rintro d x r hd env v ⟨s3, rfl, rfl⟩ Q hQ
    obtain ⟨rfl, hx⟩ := range_split (by simpa using hd)
    generalize hk : d.length = k at *
    obtain ⟨cv, hcv⟩ : ∃ a, c[k]? = some a := ⟨_, List.getElem?_eq_getElem (show k < c.length by omega)⟩
    obtain ⟨j, hj⟩ : ∃ a, (ordL p p.length)[k]? = some a := ⟨_, List.getElem?_eq_getElem (show k < (ordL p p.length).length by rw [ordL_len]; omega)⟩
    have jl := ordL_lt (List.mem_of_getElem? hj)
    obtain ⟨pv, hpv⟩ : ∃ a, p[j]? = some a := ⟨_, List.getElem?_eq_getElem jl⟩
    have gc : nth c k = cv := by simp [nth, hcv]
    have gp : nth (rise p) k = pv := by
      rw [← ord_rise_all]
      simp [nth, hj, hpv]
    have e := f_28 (hc cv (List.mem_of_getElem? hcv)).s (h pv (List.mem_of_getElem? hpv)).s (by decide) v
    have q : Q (.nx [.val (.d (cq p)), .val (.d (cq c)), .val (.d (.bool up)), .val (.d (.int k)), .val (.d (.list (ni (ordL p p.length)))), .val (.d (.int (stepM p c up (k + 1) : Nat)))]) v := hQ _ _ ⟨.val (.d (.int k)), by simp [hk], rfl⟩
    rw [stepM_succ, turnM, gc, gp] at q
    generalize stepM p c up k = m at q ⊢
    have em := eq_pl (x := .int m) (y := .int k) (.int _) (.int _) (by decide : 0 ≤ 63) (by decide : 0 ≤ 63)
    by_cases q1 : cv < pv
    · simp only [q1, decide_true] at e
      simp only [q1, decide_true, Bool.not_true, Bool.false_and, Bool.false_eq_true, if_false] at q
      simp [forT, hcv, hj, hpv, e, getV, to, op2V, ltV, leV, gtV, geV, subV, esc, escs, escV, escI, escW, escP, Pc.esc, demE, wipeE, ixV, asSeq, bindV, bindT, bindTs, biV, setP, ownAt]
      exact q
    · simp only [q1, decide_false] at e
      cases up with
      | true =>
        simp [q1] at q
        simp [forT, hcv, hj, hpv, e, addV, getV, to, op2V, ltV, leV, gtV, geV, subV, esc, escs, escV, escI, escW, escP, Pc.esc, demE, wipeE, ixV, asSeq, bindV, bindT, bindTs, biV, setP, ownAt]
        exact q
      | false =>
        by_cases q2 : m = k
        · subst q2
          simp [q1] at q
          simp at em
          simp [forT, hcv, hj, hpv, e, em, addV, getV, to, op2V, ltV, leV, gtV, geV, subV, esc, escs, escV, escI, escW, escP, Pc.esc, demE, wipeE, ixV, asSeq, bindV, bindT, bindTs, biV, setP, ownAt]
          exact q
        · have n2 : (PyData.int (m : Int)) ≠ .int k := by
            intro z
            injection z with z
            omega
          simp only [n2, decide_false] at em
          simp [q1, q2] at q
          simp [forT, hcv, hj, hpv, e, em, addV, getV, to, op2V, ltV, leV, gtV, geV, subV, esc, escs, escV, escI, escW, escP, Pc.esc, demE, wipeE, ixV, asSeq, bindV, bindT, bindTs, biV, setP, ownAt]
          exact q
  · rintro env v ⟨s3, rfl, rfl⟩
    have hm := stepM_le p c up p.length
    have s1 := sl_lo (ordL p p.length) (stepM p c up p.length) (by rw [ordL_len]; exact hm)
    have ai : asInts (ni ((ordL p p.length).take (stepM p c up p.length))) = some (toI ((ordL p p.length).take (stepM p c up p.length))) := by
      rw [ni_toI]
      exact asInts_int _
    have e0 : bound? (.int (stepM p c up p.length : Nat)) = some (some ((stepM p c up p.length : Nat) : Int)) := rfl
    simp only [ni, List.map_take] at s1 ai
    simp [s1, ai, e0, getV, to, op2V, ltV, leV, gtV, geV, subV, esc, escs, escV, escI, escW, escP, Pc.esc, demE, wipeE, ixV, asSeq, bindV, bindT, bindTs, biV, setP, ownAt]
    exact hQ
theorem insR_cons {x y : Rat} {r : List Rat} (h : ¬ x < y) : insR x (y :: r) = y :: insR x r := by
  simp [insR, h]
theorem insR_lt {x : Rat} {l : List Rat} (h : ∀ e ∈ l, x < e) : insR x l = x :: l := by
  have : l.filter (fun e => !decide (x < e)) = [] := List.filter_eq_nil_iff.mpr fun e he => by simp [h e he]
  simp [insR, this]
theorem insR_srt (x : Rat) : ∀ {l : List Rat}, l.Pairwise (· ≤ ·) → (insR x l).Pairwise (· ≤ ·)
  | [], _ => by simp [insR]
  | y :: r, h => by
    obtain ⟨h1, h2⟩ := List.pairwise_cons.mp h
    by_cases q : x < y
    · rw [insR_lt fun e he => ?_]
      · refine List.pairwise_cons.mpr ⟨fun e he => ?_, h⟩
        rcases List.mem_cons.mp he with rfl | he
        · exact Rat.le_of_lt q
        · exact Rat.le_trans (Rat.le_of_lt q) (h1 e he)
      · rcases List.mem_cons.mp he with rfl | he
        · exact q
        · have := h1 e he
          grind
    · rw [insR_cons q]
      refine List.pairwise_cons.mpr ⟨fun e he => ?_, insR_srt x h2⟩
      have := (insR_perm x r).mem_iff.mp he
      rcases List.mem_append.mp this with m | m
      · exact h1 e m
      · rw [List.mem_singleton.mp m]
        exact Rat.not_lt.mp q
theorem rise_srt (p : List Rat) : (rise p).Pairwise (· ≤ ·) := by
  have key : ∀ (l acc : List Rat), acc.Pairwise (· ≤ ·) → (l.foldl (fun a x => insR x a) acc).Pairwise (· ≤ ·) := by
    intro l
    induction l with
    | nil => intro acc h; exact h
    | cons x r ih => intro acc h; exact ih _ (insR_srt x h)
  exact key p [] List.Pairwise.nil
theorem nth_eq {p : List Rat} {k : Nat} (h : k < p.length) : nth p k = p[k] := by simp [nth, h]
theorem nth_mono {v : List Rat} (h : v.Pairwise (· ≤ ·)) {i j : Nat} (hij : i ≤ j) (hj : j < v.length) : nth v i ≤ nth v j := by
  rw [nth_eq hj, nth_eq (by omega)]
  rcases Nat.eq_or_lt_of_le hij with q | q
  · subst q
    exact Rat.le_refl
  · exact List.pairwise_iff_getElem.mp h i j (by omega) hj q
def cnt (p : List Rat) (t : Rat) : Nat := p.countP fun x => decide (x ≤ t)
theorem cnt_perm {p q : List Rat} (h : List.Perm p q) (t : Rat) : cnt p t = cnt q t := h.countP_eq _
theorem cnt_key : ∀ {v : List Rat} {k : Nat} {t : Rat}, v.Pairwise (· ≤ ·) → k < v.length → (nth v k ≤ t ↔ k + 1 ≤ cnt v t)
  | [], k, t, _, h => by simp at h
  | y :: r, k, t, hs, h => by
    obtain ⟨h1, h2⟩ := List.pairwise_cons.mp hs
    by_cases q : y ≤ t
    · have e : cnt (y :: r) t = cnt r t + 1 := by simp [cnt, q]
      rw [e]
      cases k with
      | zero => simp [nth, q]
      | succ k =>
        have := cnt_key (t := t) h2 (show k < r.length by simpa using h)
        have e2 : nth (y :: r) (k + 1) = nth r k := by simp [nth]
        rw [e2, this]
        omega
    · have e : cnt (y :: r) t = 0 := by
        unfold cnt
        rw [List.countP_eq_zero]
        intro x hx
        rcases List.mem_cons.mp hx with rfl | hx
        · simpa using q
        · have := h1 x hx
          simp only [decide_eq_true_eq]
          intro z
          exact q (Rat.le_trans this z)
      rw [e]
      constructor
      · intro z
        have := nth_mono hs (Nat.zero_le k) h
        have e2 : nth (y :: r) 0 = y := by simp [nth]
        rw [e2] at this
        exact absurd (Rat.le_trans this z) q
      · omega
/-- the k-th least number is up to its limit -/
def Pk (p c : List Rat) (k : Nat) : Prop := nth (rise p) k ≤ nth c k
instance (p c : List Rat) (k : Nat) : Decidable (Pk p c k) := by
  unfold Pk
  infer_instance
theorem Pk_cnt {p c : List Rat} {k : Nat} (h : k < p.length) : Pk p c k ↔ k + 1 ≤ cnt p (nth c k) := by
  unfold Pk
  rw [cnt_key (rise_srt p) (by rwa [rise_len]), cnt_perm (rise_perm p)]
/-- how many steps up or down call -/
structure Most (p c : List Rat) (up : Bool) (n m : Nat) : Prop where
  le : m ≤ n
  a : 1 ≤ m → Pk p c (m - 1)
  u : up = true → ∀ j, m ≤ j → j < n → ¬ Pk p c j
  d : up = false → (∀ j, j < m → Pk p c j) ∧ (m < n → ¬ Pk p c m)
theorem Most.no {p c : List Rat} {up : Bool} {n m : Nat} (h : Most p c up n m) (hm : m < n) : ¬ Pk p c m := by
  cases up with
  | true => exact h.u rfl m (Nat.le_refl _) hm
  | false => exact (h.d rfl).2 hm
theorem stepM_most (p c : List Rat) (up : Bool) : ∀ n, Most p c up n (stepM p c up n)
  | 0 => ⟨by simp [stepM], fun h => by simp [stepM] at h, fun _ j h1 h2 => by omega, fun _ => ⟨fun j h => by simp [stepM] at h, fun h => by omega⟩⟩
  | n + 1 => by
    have ih := stepM_most p c up n
    rw [stepM_succ]
    generalize stepM p c up n = m at ih
    unfold turnM
    have ep : (!decide (nth c n < nth (rise p) n)) = decide (Pk p c n) := by
      unfold Pk
      by_cases q : nth c n < nth (rise p) n
      · have : ¬ nth (rise p) n ≤ nth c n := Rat.not_le.mpr q
        simp [q, this]
      · have : nth (rise p) n ≤ nth c n := Rat.not_lt.mp q
        simp [q, this]
    rw [ep]
    by_cases q : Pk p c n
    · cases up with
      | true =>
        simp only [q, decide_true, Bool.true_or, Bool.and_self, if_true]
        exact ⟨Nat.le_refl _, fun _ => q, fun _ j h1 h2 => by omega, fun z => by cases z⟩
      | false =>
        by_cases e : m = n
        · subst e
          simp only [q, decide_true, Bool.or_true, Bool.and_self, if_true]
          refine ⟨Nat.le_refl _, fun _ => q, fun z => (by cases z), fun _ => ⟨fun j hj => ?_, fun h => by omega⟩⟩
          rcases Nat.lt_succ_iff_lt_or_eq.mp hj with h | h
          · exact (ih.d rfl).1 j h
          · rw [h]
            exact q
        · simp only [q, e, decide_true, decide_false, Bool.or_self, Bool.and_false, Bool.false_eq_true, if_false]
          have := ih.le
          exact ⟨by omega, ih.a, fun z => (by cases z), fun _ => ⟨(ih.d rfl).1, fun _ => (ih.d rfl).2 (by omega)⟩⟩
    · simp only [q, decide_false, Bool.false_and, Bool.false_eq_true, if_false]
      refine ⟨by have := ih.le; omega, ih.a, fun hu j h1 h2 => ?_, fun hd => ⟨(ih.d hd).1, fun h => ?_⟩⟩
      · rcases Nat.lt_succ_iff_lt_or_eq.mp h2 with h | h
        · exact ih.u hu j h1 h
        · rw [h]
          exact q
      · have := ih.le
        rcases Nat.eq_or_lt_of_le this with h | h
        · rw [h]
          exact q
        · exact (ih.d hd).2 h
theorem Most.uniq {p c : List Rat} {up : Bool} {n m k : Nat} (h : Most p c up n m) (g : Most p c up n k) : m = k := by
  rcases Nat.lt_trichotomy m k with q | q | q
  · exfalso
    have a := g.a (by omega)
    have l := g.le
    cases up with
    | true => exact h.u rfl (k - 1) (by omega) (by omega) a
    | false => exact (h.d rfl).2 (by omega) ((g.d rfl).1 m q)
  · exact q
  · exfalso
    have a := h.a (by omega)
    have l := h.le
    cases up with
    | true => exact g.u rfl (m - 1) (by omega) (by omega) a
    | false => exact (g.d rfl).2 (by omega) ((h.d rfl).1 k q)
theorem cntD_spec : ∀ (l : List (Rat × Rat)), (∀ j, (h : j < cntD l) → (hj : j < l.length) → ¬ (l[j]).2 < (l[j]).1) ∧ (∀ hj : cntD l < l.length, (l[cntD l]).2 < (l[cntD l]).1)
  | [] => ⟨fun j h => by simp [cntD] at h, fun h => by simp at h⟩
  | (x, y) :: r => by
    obtain ⟨i1, i2⟩ := cntD_spec r
    by_cases q : y < x
    · have e : cntD ((x, y) :: r) = 0 := by simp [cntD, q]
      refine ⟨fun j h => by omega, fun h => ?_⟩
      simp only [e, List.getElem_cons_zero]
      exact q
    · have e : cntD ((x, y) :: r) = cntD r + 1 := by simp [cntD, q]; omega
      refine ⟨fun j h hj => ?_, fun h => ?_⟩
      · cases j with
        | zero => simpa using q
        | succ j => simpa using i1 j (by omega) (by simpa using hj)
      · simp only [e, List.getElem_cons_succ]
        exact i2 (by rw [e] at h; simpa using h)
theorem zip_len {p c : List Rat} (hl : c.length = p.length) : ((rise p).zip c).length = p.length := by
  rw [List.length_zip, rise_len, hl, Nat.min_self]
theorem zip_get {p c : List Rat} (hl : c.length = p.length) {j : Nat} (h : j < ((rise p).zip c).length) : ((rise p).zip c)[j] = (nth (rise p) j, nth c j) := by
  have hj : j < p.length := by rwa [zip_len hl] at h
  rw [List.getElem_zip, nth_eq (by rwa [rise_len]), nth_eq (by rwa [hl])]
theorem manyD_most {p c : List Rat} (hl : c.length = p.length) : Most p c false p.length (manyD p c) := by
  obtain ⟨h1, h2⟩ := cntD_spec ((rise p).zip c)
  have hle := manyD_le p c
  have all : ∀ j, j < manyD p c → Pk p c j := fun j hj => by
    have hz : j < ((rise p).zip c).length := by rw [zip_len hl]; omega
    have := h1 j hj hz
    rw [zip_get hl hz] at this
    exact Rat.not_lt.mp this
  refine ⟨hle, fun h => all _ (by omega), fun z => (by cases z), fun _ => ⟨all, fun h => ?_⟩⟩
  have hz : manyD p c < ((rise p).zip c).length := by rw [zip_len hl]; omega
  have q := h2 hz
  have q : ((rise p).zip c)[manyD p c].2 < ((rise p).zip c)[manyD p c].1 := q
  rw [zip_get hl hz] at q
  exact Rat.not_le.mpr q
theorem upH_eq {p c : List Rat} (hl : c.length = p.length) : upH p c = ((List.range p.length).filter fun k => decide (Pk p c k)).map (· + 1) := by
  have e := zip_range ((rise p).zip c) (fun q => !decide (q.2 < q.1)) (fun k => decide (Pk p c k)) (fun k hk => by
    rw [zip_get hl hk]
    unfold Pk
    by_cases q : nth c k < nth (rise p) k
    · have : ¬ nth (rise p) k ≤ nth c k := Rat.not_le.mpr q
      simp [q, this]
    · have : nth (rise p) k ≤ nth c k := Rat.not_lt.mp q
      simp [q, this])
  rw [zip_len hl] at e
  rw [← e, upH, List.map_map]
  rfl
theorem manyU_most {p c : List Rat} (hl : c.length = p.length) : Most p c true p.length (manyU p c) := by
  have key : ∀ n, Most p c true n ((((List.range n).filter fun k => decide (Pk p c k)).map (· + 1)).getLast?.getD 0) := by
    intro n
    induction n with
    | zero => exact ⟨by simp, fun h => by simp at h, fun _ j h1 h2 => by omega, fun z => (by cases z)⟩
    | succ n ih =>
      rw [List.range_succ, List.filter_append, List.map_append]
      by_cases q : Pk p c n
      · have e : ([n].filter fun k => decide (Pk p c k)) = [n] := by simp [q]
        rw [e]
        simp only [List.map_cons, List.map_nil, List.getLast?_append, List.getLast?_singleton, Option.some_or, Option.getD_some]
        exact ⟨Nat.le_refl _, fun _ => q, fun _ j h1 h2 => by omega, fun z => (by cases z)⟩
      · have e : ([n].filter fun k => decide (Pk p c k)) = [] := by simp [q]
        rw [e]
        simp only [List.map_nil, List.append_nil]
        refine ⟨by have := ih.le; omega, ih.a, fun _ j h1 h2 => ?_, fun z => (by cases z)⟩
        rcases Nat.lt_succ_iff_lt_or_eq.mp h2 with h | h
        · exact ih.u rfl j h1 h
        · rw [h]
          exact q
  unfold manyU
  rw [upH_eq hl]
  exact key p.length
def many (p c : List Rat) (up : Bool) : Nat := if up then manyU p c else manyD p c
theorem many_most {p c : List Rat} (up : Bool) (hl : c.length = p.length) : Most p c up p.length (many p c up) := by
  cases up with
  | true => exact manyU_most hl
  | false => exact manyD_most hl
theorem many_step {p c : List Rat} (up : Bool) (hl : c.length = p.length) : many p c up = stepM p c up p.length := (many_most up hl).uniq (stepM_most p c up p.length)
theorem mem_callBy {p : List Rat} {m i : Nat} : i ∈ callBy p m ↔ i < p.length ∧ 1 ≤ m ∧ nth p i ≤ (rise p).getD (m - 1) 0 := by
  unfold callBy
  by_cases h : m = 0
  · simp [h]
  · rw [if_neg h]
    constructor
    · intro hi
      obtain ⟨⟨x, j⟩, hq, rfl⟩ := List.mem_map.mp hi
      obtain ⟨h1, h2⟩ := List.mem_filter.mp hq
      have hg : p[j]? = some x := List.mem_zipIdx_iff_getElem?.mp h1
      have hj := (List.getElem?_eq_some_iff.mp hg).1
      have e : nth p j = x := by simp [nth, hg]
      simp only [Bool.not_eq_true', decide_eq_false_iff_not] at h2
      exact ⟨hj, by omega, by rw [e]; exact Rat.not_lt.mp h2⟩
    · intro ⟨h1, _, h3⟩
      refine List.mem_map.mpr ⟨(nth p i, i), List.mem_filter.mpr ⟨List.mem_zipIdx_iff_getElem?.mpr ?_, ?_⟩, rfl⟩
      · simp [nth, h1]
      · simp only [Bool.not_eq_true', decide_eq_false_iff_not]
        exact Rat.not_lt.mpr h3
theorem callBy_asc (p : List Rat) (m : Nat) : (callBy p m).Pairwise (· < ·) := by
  unfold callBy
  split
  · exact List.Pairwise.nil
  · have h : (p.zipIdx.map (·.2)).Pairwise (· < ·) := by
      rw [List.zipIdx_map_snd, ← List.range_eq_range']
      exact List.pairwise_lt_range
    exact List.Pairwise.sublist (List.filter_sublist.map _) h
/-- what makes k a witness -/
def Wk (p c : List Rat) (up : Bool) (k : Nat) : Prop := if up then Pk p c k else ∀ j, j ≤ k → Pk p c j
theorem Wk.pk {p c : List Rat} {up : Bool} {k : Nat} (h : Wk p c up k) : Pk p c k := by
  cases up with
  | true => exact h
  | false => exact h k (Nat.le_refl _)
theorem up_mono {c : List Rat} (hc : c.Pairwise (· ≤ ·)) {i j : Nat} (h : i ≤ j) (hj : j < c.length) : nth c i ≤ nth c j := nth_mono hc h hj
theorem Most.w {p c : List Rat} {up : Bool} {n m : Nat} (h : Most p c up n m) (h1 : 1 ≤ m) : Wk p c up (m - 1) := by
  cases up with
  | true => exact h.a h1
  | false => exact fun j hj => (h.d rfl).1 j (by omega)
theorem Most.lt {p c : List Rat} {up : Bool} {n m k : Nat} (h : Most p c up n m) (hk : k < n) (w : Wk p c up k) : k < m := by
  rcases Nat.lt_or_ge k m with q | q
  · exact q
  · exfalso
    cases up with
    | true => exact h.u rfl k q hk w
    | false => exact (h.d rfl).2 (by omega) (w m q)
/-- the m-th least number is below the next one -/
theorem Most.sep {p c : List Rat} {up : Bool} {m : Nat} (h : Most p c up p.length m) (hl : c.length = p.length) (hc : c.Pairwise (· ≤ ·)) (h1 : 1 ≤ m) {j : Nat} (hm : m ≤ j) (hj : j < p.length) : nth (rise p) (m - 1) < nth (rise p) j ∧ nth c m < nth (rise p) j := by
  have a : nth (rise p) (m - 1) ≤ nth c (m - 1) := h.a h1
  have b : ¬ nth (rise p) m ≤ nth c m := h.no (by omega)
  have d := up_mono hc (show m - 1 ≤ m by omega) (by omega)
  have e := nth_mono (rise_srt p) hm (by rw [rise_len]; exact hj)
  grind
theorem rise_at {p : List Rat} {i : Nat} (h : i < p.length) : ∃ j, j < p.length ∧ nth (rise p) j = nth p i := by
  have hm : nth p i ∈ rise p := rise_mem.mpr (getD_mem h)
  obtain ⟨j, hj, e⟩ := List.mem_iff_getElem.mp hm
  rw [rise_len] at hj
  exact ⟨j, hj, by rw [nth_eq (by rwa [rise_len])]; exact e⟩
theorem called_iff {p c : List Rat} {up : Bool} (hl : c.length = p.length) (hc : c.Pairwise (· ≤ ·)) {i : Nat} : i ∈ tldB p c up ↔ i < p.length ∧ ∃ k, k < p.length ∧ Wk p c up k ∧ nth p i ≤ nth c k := by
  have hM := many_most up hl
  have e0 : tldB p c up = callBy p (many p c up) := rfl
  rw [e0, mem_callBy]
  generalize many p c up = m at hM
  have hle := hM.le
  constructor
  · intro ⟨h1, h2, h3⟩
    refine ⟨h1, m - 1, by omega, hM.w h2, ?_⟩
    have e : (rise p).getD (m - 1) 0 = nth (rise p) (m - 1) := by simp [nth]
    rw [e] at h3
    exact Rat.le_trans h3 (hM.a h2)
  · intro ⟨h1, k, h2, h3, h4⟩
    have hk := hM.lt h2 h3
    refine ⟨h1, by omega, ?_⟩
    have e : (rise p).getD (m - 1) 0 = nth (rise p) (m - 1) := by simp [nth]
    rw [e]
    obtain ⟨j, hj, ej⟩ := rise_at h1
    rcases Nat.lt_or_ge j m with q | q
    · rw [← ej]
      exact nth_mono (rise_srt p) (by omega) (by rw [rise_len]; omega)
    · exfalso
      have s := (hM.sep hl hc (by omega) q hj).2
      rw [ej] at s
      have := up_mono hc (show k ≤ m by omega) (by omega)
      grind
theorem mem_toI {l : List Nat} {i : Int} : i ∈ toI l ↔ ∃ k ∈ l, (k : Int) = i := List.mem_map
theorem stp_mem {p c : List Rat} {up : Bool} (hl : c.length = p.length) (hc : c.Pairwise (· ≤ ·)) {i : Nat} : i ∈ (ordL p p.length).take (stepM p c up p.length) ↔ i ∈ tldB p c up := by
  have hM := many_most up hl
  have e0 : tldB p c up = callBy p (many p c up) := rfl
  rw [← many_step up hl, e0, mem_callBy]
  generalize many p c up = m at hM
  have hle := hM.le
  have ho := ordL_len p p.length
  have e : (rise p).getD (m - 1) 0 = nth (rise p) (m - 1) := by simp [nth]
  rw [e]
  have val : ∀ j, (h : j < (ordL p p.length).length) → nth p (ordL p p.length)[j] = nth (rise p) j := fun j h => by
    rw [← ord_rise_all]
    simp [nth, h]
  constructor
  · intro hi
    obtain ⟨j, hj, ej⟩ := List.mem_iff_getElem.mp hi
    rw [List.getElem_take] at ej
    rw [List.length_take] at hj
    have hv := val j (by omega)
    rw [ej] at hv
    refine ⟨ordL_lt (by rw [← ej]; exact List.getElem_mem _), by omega, ?_⟩
    rw [hv]
    exact nth_mono (rise_srt p) (by omega) (by rw [rise_len]; omega)
  · intro ⟨h1, h2, h3⟩
    have hi : i ∈ ordL p p.length := (ordL_perm p p.length).mem_iff.mpr (List.mem_range.mpr h1)
    obtain ⟨j, hj, ej⟩ := List.mem_iff_getElem.mp hi
    have hv := val j hj
    rw [ej] at hv
    rw [ho] at hj
    rcases Nat.lt_or_ge j m with q | q
    · refine List.mem_iff_getElem.mpr ⟨j, by rw [List.length_take]; omega, ?_⟩
      rw [List.getElem_take]
      exact ej
    · exfalso
      have s := (hM.sep hl hc h2 q hj).1
      rw [hv] at h3
      grind
theorem sort_asc {l : List Int} (h : l.Nodup) : (sortI l).Pairwise (· < ·) := by
  have s := sortI_srt l
  have n : (sortI l).Nodup := (sortI_perm l).nodup_iff.mpr h
  rw [List.Nodup] at n
  have := List.Pairwise.and s n
  exact this.imp fun ⟨a, b⟩ => by omega
theorem toI_asc {l : List Nat} (h : l.Pairwise (· < ·)) : (toI l).Pairwise (· < ·) := by
  unfold toI
  rw [List.pairwise_map]
  exact h.imp fun h => by omega
theorem toI_nodup {l : List Nat} (h : l.Nodup) : (toI l).Nodup := by
  unfold toI
  rw [List.Nodup, List.pairwise_map]
  exact h.imp fun h => by omega
theorem ordL_nodup (p : List Rat) (n : Nat) : (ordL p n).Nodup := (ordL_perm p n).nodup_iff.mpr List.nodup_range
theorem stp_eq {p c : List Rat} {up : Bool} (hl : c.length = p.length) (hc : c.Pairwise (· ≤ ·)) : stp p c up = toI (tldB p c up) := by
  refine asc_eq (sort_asc (toI_nodup ((ordL_nodup p _).sublist (List.take_sublist ..)))) (toI_asc (callBy_asc ..)) fun i => ?_
  unfold stp
  rw [(sortI_perm _).mem_iff, mem_toI, mem_toI]
  constructor
  · rintro ⟨k, hk, rfl⟩
    exact ⟨k, (stp_mem hl hc).mp hk, rfl⟩
  · rintro ⟨k, hk, rfl⟩
    exact ⟨k, (stp_mem hl hc).mpr hk, rfl⟩
theorem Wk_cnt {p c : List Rat} {up : Bool} {k : Nat} (h : k < p.length) : Wk p c up k ↔ if up then k + 1 ≤ cnt p (nth c k) else ∀ j, j ≤ k → j + 1 ≤ cnt p (nth c j) := by
  cases up with
  | true => exact Pk_cnt h
  | false =>
    constructor
    · exact fun w j hj => (Pk_cnt (by omega)).mp (w j hj)
    · exact fun w j hj => (Pk_cnt (by omega)).mpr (w j hj)
theorem cnt_le_of : ∀ {p q : List Rat} {s t : Rat}, q.length = p.length → (∀ i, i < p.length → nth p i ≤ s → nth q i ≤ t) → cnt p s ≤ cnt q t
  | [], [], _, _, _, _ => Nat.le_refl _
  | x :: p, y :: q, s, t, hl, h => by
    have ih := cnt_le_of (p := p) (q := q) (s := s) (t := t) (by simpa using hl) (fun i hi => by
      have := h (i + 1) (by simpa using hi)
      simpa [nth] using this)
    have h0 := h 0 (by simp)
    simp only [nth, List.getElem?_cons_zero, Option.getD_some] at h0
    unfold cnt at ih ⊢
    rw [List.countP_cons, List.countP_cons]
    by_cases a : x ≤ s
    · simp only [a, h0 a, decide_true, if_true]
      omega
    · simp only [a, decide_false, Bool.false_eq_true, if_false]
      omega
  | [], _ :: _, _, _, hl, _ => by simp at hl
  | _ :: _, [], _, _, hl, _ => by simp at hl
/-- lesser numbers, greater limits -/
theorem called_mono {p q c d : List Rat} {up : Bool} (hl : c.length = p.length) (hq : q.length = p.length) (hd : d.length = p.length) (hc : c.Pairwise (· ≤ ·)) (hd2 : d.Pairwise (· ≤ ·)) (h1 : ∀ i, i < p.length → nth q i ≤ nth p i) (h2 : ∀ i, i < p.length → nth c i ≤ nth d i) {i : Nat} (hi : i ∈ tldB p c up) : i ∈ tldB q d up := by
  obtain ⟨h3, k, h4, h5, h6⟩ := (called_iff hl hc).mp hi
  refine (called_iff (by omega) hd2).mpr ⟨by omega, k, by omega, (Wk_cnt (by omega)).mpr ?_, ?_⟩
  · have w := (Wk_cnt h4).mp h5
    have step : ∀ j, j ≤ k → j + 1 ≤ cnt p (nth c j) → j + 1 ≤ cnt q (nth d j) := fun j hj hw => Nat.le_trans hw (cnt_le_of hq fun e he a => by
      have := h1 e he
      have := h2 j (by omega)
      grind)
    cases up with
    | true => exact step k (Nat.le_refl _) w
    | false => exact fun j hj => step j hj (w j hj)
  · have := h1 i h3
    have := h2 k h4
    grind
theorem down_up {p c : List Rat} (hl : c.length = p.length) (hc : c.Pairwise (· ≤ ·)) {i : Nat} (hi : i ∈ tldB p c false) : i ∈ tldB p c true := by
  obtain ⟨h3, k, h4, h5, h6⟩ := (called_iff hl hc).mp hi
  exact (called_iff hl hc).mpr ⟨h3, k, h4, h5.pk, h6⟩
/-- the called numbers fall to 0 -/
theorem called_gone {p q c : List Rat} {up : Bool} (hl : c.length = p.length) (hq : q.length = p.length) (hc : c.Pairwise (· ≤ ·)) (h0 : ∀ i, i < p.length → 0 ≤ nth p i) (hc0 : ∀ i, i < p.length → 0 ≤ nth c i)
    (h1 : ∀ i, i < p.length → nth q i = if i ∈ tldB p c up then 0 else nth p i) {i : Nat} : i ∈ tldB q c up ↔ i ∈ tldB p c up := by
  constructor
  · intro hi
    obtain ⟨h3, k, h4, h5, h6⟩ := (called_iff (by omega) hc).mp hi
    rw [hq] at h3 h4
    by_cases hin : i ∈ tldB p c up
    · exact hin
    exfalso
    apply hin
    rw [h1 i h3, if_neg hin] at h6
    -- a called one above c_j tells more
    have key : ∀ j, j ≤ k → j + 1 ≤ cnt q (nth c j) → j + 1 ≤ cnt p (nth c j) ∨ ∃ e, e ∈ tldB p c up ∧ nth c j < nth p e := fun j hj hw => by
      by_cases all : ∀ e, e ∈ tldB p c up → nth p e ≤ nth c j
      · refine .inl (Nat.le_trans hw (cnt_le_of (by omega) fun e he a => ?_))
        rw [h1 e (by omega)] at a
        by_cases z : e ∈ tldB p c up
        · exact all e z
        · rwa [if_neg z] at a
      · simp only [Classical.not_forall] at all
        obtain ⟨e, he, hn⟩ := all
        exact .inr ⟨e, he, Rat.not_le.mp hn⟩
    have w := (Wk_cnt (by omega)).mp h5
    by_cases found : ∃ e, e ∈ tldB p c up ∧ nth p i ≤ nth p e
    · obtain ⟨e, he, hle⟩ := found
      obtain ⟨g1, k0, g2, g3, g4⟩ := (called_iff hl hc).mp he
      exact (called_iff hl hc).mpr ⟨h3, k0, g2, g3, Rat.le_trans hle g4⟩
    refine (called_iff hl hc).mpr ⟨h3, k, h4, (Wk_cnt h4).mpr ?_, h6⟩
    cases up with
    | true =>
      rcases key k (Nat.le_refl _) w with h | ⟨e, he, hlt⟩
      · exact h
      · exact absurd ⟨e, he, by grind⟩ found
    | false =>
      intro j hj
      rcases key j hj (w j hj) with h | ⟨e, he, hlt⟩
      · exact h
      · obtain ⟨g1, k0, g2, g3, g4⟩ := (called_iff hl hc).mp he
        have hk0 : j ≤ k0 := by
          rcases Nat.lt_or_ge k0 j with z | z
          · have := up_mono hc (show k0 ≤ j by omega) (by omega)
            grind
          · exact z
        exact ((Wk_cnt g2).mp g3) j hk0
  · intro hi
    refine called_mono hl hq hl hc hc (fun e he => ?_) (fun e he => Rat.le_refl) hi
    rw [h1 e he]
    split
    · exact h0 e he
    · exact Rat.le_refl
/-- in another order -/
theorem called_led {p q c : List Rat} {o : List Nat} {up : Bool} (hl : c.length = p.length) (hq : q.length = p.length) (hc : c.Pairwise (· ≤ ·)) (ho : List.Perm o (List.range p.length)) (hv : ∀ (i : Nat) (h : i < o.length), nth q o[i] = nth p i) {j : Nat} : j ∈ tldB q c up ↔ ∃ i, i ∈ tldB p c up ∧ ∃ h : i < o.length, o[i] = j := by
  have hol : o.length = p.length := by simpa using ho.length_eq
  have pr : ∀ t, cnt q t = cnt p t := fun t => by
    have e1 : p = o.map (nth q) := by
      apply List.ext_getElem
      · simp [hol]
      · intro i h1 h2
        rw [List.getElem_map, hv i (by omega), nth_eq h1]
    have e2 : q = (List.range q.length).map (nth q) := by
      apply List.ext_getElem
      · simp
      · intro i h1 h2
        rw [List.getElem_map, List.getElem_range, nth_eq h1]
    have : List.Perm p q := by
      rw [e1]
      have := ho.map (nth q)
      rw [← hq, ← e2] at this
      exact this
    exact (cnt_perm this t).symm
  have wk : ∀ k, k < p.length → (Wk q c up k ↔ Wk p c up k) := fun k hk => by
    rw [Wk_cnt hk, Wk_cnt (by omega)]
    simp only [pr]
  rw [called_iff (by omega) hc]
  constructor
  · intro ⟨h1, k, h2, h3, h4⟩
    have hj : j ∈ o := ho.mem_iff.mpr (List.mem_range.mpr (by omega))
    obtain ⟨i, hi, e⟩ := List.mem_iff_getElem.mp hj
    refine ⟨i, (called_iff hl hc).mpr ⟨by omega, k, by omega, (wk k (by omega)).mp h3, ?_⟩, hi, e⟩
    rw [← hv i hi, e]
    exact h4
  · rintro ⟨i, hi, h, rfl⟩
    obtain ⟨h1, k, h2, h3, h4⟩ := (called_iff hl hc).mp hi
    refine ⟨?_, k, by omega, (wk k h2).mpr h3, by rw [hv i h]; exact h4⟩
    have : o[i] ∈ List.range p.length := ho.mem_iff.mp (List.getElem_mem h)
    rw [hq]
    exact List.mem_range.mp this
theorem li_eq (a b : List Int) : eqV (li a) (li b) = some (.bool (decide (a = b))) ∧ neV (li a) (li b) = some (.bool (!decide (a = b))) := by
  have inj : li a = li b ↔ a = b := by
    constructor
    · intro h
      injection h with h
      exact ints_inj.mp h
    · rintro rfl
      rfl
  rw [eq_pl (.tup (li_pl a)) (.tup (li_pl b)) (by decide) (by decide), ne_pl (.tup (li_pl a)) (.tup (li_pl b)) (by decide) (by decide)]
  by_cases q : a = b
  · have := inj.mpr q
    simp only [q, this, decide_true, and_self]
  · have : ¬ li a = li b := fun z => q (inj.mp z)
    simp only [q, this, decide_false, and_self]
theorem findIx_nat {k j : Nat} {l : List Nat} (hn : l.Nodup) (hj : l[j]? = some k) : findIx (.int (k : Int)) (ni l) = some j := by
  induction l generalizing j with
  | nil => simp at hj
  | cons x r ih =>
    have hx := (Pl.eqv (.int (x : Int)) (.int (k : Int)) 0 0 (.int _) (.int _))
    rw [List.nodup_cons] at hn
    cases j with
    | zero =>
      simp at hj
      subst hj
      show (if PyData.eqv (.int (x : Int)) (.int (x : Int)) then some 0 else _) = _
      rw [if_pos (hx.mpr rfl)]
    | succ j =>
      simp at hj
      have hk : k ∈ r := List.mem_of_getElem? hj
      have ne : ¬ PyData.eqv (.int (x : Int)) (.int (k : Int)) = true := fun z => by
        have := hx.mp z
        injection this with this
        have : x = k := by omega
        subst this
        exact hn.1 hk
      show (if PyData.eqv (.int (x : Int)) (.int (k : Int)) then some 0 else (findIx (.int (k : Int)) (ni r)).map (· + 1)) = _
      rw [if_neg ne, ih hn.2 hj]
      rfl
theorem idx_nat {k j : Nat} {l : List Nat} (hn : l.Nodup) (hj : l[j]? = some k) : idxV (ni l) (.int (k : Int)) = some (.int (j : Nat)) := by
  unfold idxV
  rw [if_pos (Pl.shaped (.int _ : Pl 0 (.int (k : Int))) (by decide)), findIx_nat hn hj]
  rfl
/-- the line led by an order -/
def led (p : List Rat) (o : List Nat) : List Rat := (List.range o.length).map fun k => nth p (o.findIdx fun x => x == k)
theorem led_len (p : List Rat) (o : List Nat) : (led p o).length = o.length := by simp [led]
theorem findIdx_nodup {k j : Nat} {l : List Nat} (hn : l.Nodup) (hj : l[j]? = some k) : (l.findIdx fun x => x == k) = j := by
  induction l generalizing j with
  | nil => simp at hj
  | cons x r ih =>
    rw [List.nodup_cons] at hn
    cases j with
    | zero =>
      simp at hj
      simp [List.findIdx_cons, hj]
    | succ j =>
      simp at hj
      have hk : k ∈ r := List.mem_of_getElem? hj
      have ne : (x == k) = false := by
        simp
        rintro rfl
        exact hn.1 hk
      rw [List.findIdx_cons, ne, ih hn.2 hj]
      rfl
theorem led_nth {p : List Rat} {o : List Nat} (ho : List.Perm o (List.range o.length)) (i : Nat) (h : i < o.length) : nth (led p o) o[i] = nth p i := by
  have hm : o[i] < o.length := List.mem_range.mp (ho.mem_iff.mp (List.getElem_mem h))
  have e := findIdx_nodup (j := i) (ho.nodup_iff.mpr List.nodup_range) (List.getElem?_eq_getElem h)
  rw [nth_eq (by rwa [led_len])]
  simp [led, e]
/-- a number from 0 to 1 with less than k bits -/
structure Nb (k : Nat) (x : Rat) : Prop where
  z : 0 ≤ x
  o : x ≤ 1
  s : Sz k x
theorem Nb.nm {k : Nat} {x : Rat} (h : Nb k x) (hk : k ≤ 150) : Nm x := ⟨h.z, h.o, h.s.mono hk⟩
theorem Nb.mono {k l : Nat} {x : Rat} (h : Nb k x) (hk : k ≤ l) : Nb l x := ⟨h.z, h.o, h.s.mono hk⟩
theorem nb_of {k : Nat} {x : Rat} (h0 : 0 ≤ x.num) (h1 : x.num ≤ (x.den : Int)) (hs : Sz k x) : Nb k x := by
  refine ⟨Rat.num_nonneg.mp h0, (Rat.le_iff x 1).mpr (by simpa using h1), hs⟩
theorem low_nb {k : Nat} {n m : Int} (h0 : 0 ≤ n) (h1 : n ≤ m) (hm : 0 < m) (hb : m.natAbs < 2 ^ k) : Nb k (Rat.divInt n m) := by
  have hs : Sz k (Rat.divInt n m) := Sz.of (by omega) hb (by omega)
  have e := frac_div (n : Rat) (m : Rat)
  simp at e
  rw [e] at hs ⊢
  have hm2 : (0 : Rat) < (m : Rat) := Rat.intCast_lt_intCast.mpr hm
  have hc : (n : Rat) / m * m = n := Rat.div_mul_cancel (by grind)
  have h02 : (0 : Rat) ≤ (n : Rat) := Rat.intCast_nonneg.mpr h0
  have h12 : (n : Rat) ≤ (m : Rat) := Rat.intCast_le_intCast.mpr h1
  refine ⟨Rat.le_of_mul_le_mul_right (c := (m : Rat)) ?_ hm2, Rat.le_of_mul_le_mul_right (c := (m : Rat)) ?_ hm2, hs⟩ <;> rw [hc] <;> grind
theorem pw (j : Nat) (h : j ≤ 1000) : powV (.int 10) (.int (j : Nat)) = some (.int (10 ^ j)) := by
  have : ((j : Int) ≤ 1000000) := by omega
  simp [powV, this]
theorem q_24 {n m : Int} {k : Nat} (h0 : 0 ≤ n) (h1 : n ≤ m) (hm : 0 < m) (hb : m.natAbs < 2 ^ k) (hk : k ≤ 9000) (w : Wd) : ∃ x, Nb k x ∧ x = Rat.divInt n m ∧ run 24 [.d (.int n), .d (.int m)] w = .ok (.d (rq x)) w := ⟨_, low_nb h0 h1 hm hb, rfl, f_24 (by omega) (big (l := 0) hb hk) w⟩
theorem q_32 {n : Nat} {w : Wd} (hw : Wl n w) {Q : Vl → Wd → Prop} (k : ∀ x w', Nb 30 x → Wl n w' → Q (.d (rq x)) w') : wpR (run 32 [.loc n] w) Q := by
  refine wp_at (d := d_32) rfl rfl ?_
  have p9 : powV (.int 10) (.int 9) = some (.int (10 ^ 9)) := pw 9 (by decide)
  simp [d_32, b_32, p9, datas, getV, to, op2V, ltV, leV, gtV, geV, subV, esc, escs, escV, escI, escW, escP, Pc.esc, demE, wipeE, ixV, asSeq, bindV, bindT, bindTs, biV, setP, ownAt]
  refine q_23 PyData.int (xs := [2, 3, 4, 10, 20, 60, 7, 1, 997, 1000000000]) _ (.inl rfl) hw (by simp) (by simp) fun u hu w' hw' => ?_
  have hu2 : 1 ≤ u ∧ u ≤ 10 ^ 9 := by
    simp at hu
    omega
  simp [addV, getV, to, op2V, ltV, leV, gtV, geV, subV, esc, escs, escV, escI, escW, escP, Pc.esc, demE, wipeE, ixV, asSeq, bindV, bindT, bindTs, biV, setP, ownAt]
  refine q_22 hw' (by omega) (by omega) fun i w2 i0 i1 hw2 => ?_
  obtain ⟨x, hx, _, e⟩ := q_24 (n := i) (m := u) (k := 30) i0 (by omega) (by omega) (by omega) (by decide) w2
  simp [e, getV, to, op2V, ltV, leV, gtV, geV, subV, esc, escs, escV, escI, escW, escP, Pc.esc, demE, wipeE, ixV, asSeq, bindV, bindT, bindTs, biV, setP, ownAt]
  exact k x w2 hx hw2
theorem near_eq {c : List Rat} (h : c ≠ []) : eqV (.list (c.map rq)) (.list []) = some (.bool false) := by
  have h1 : Pl 2 (.list (c.map rq)) := .lst (PlA.of fun x hx => by
    obtain ⟨y, _, rfl⟩ := List.mem_map.mp hx
    exact rq_pl y)
  rw [eq_pl h1 (.lst .nil : Pl 1 (.list [])) (by decide) (by decide)]
  have : ¬ PyData.list (c.map rq) = PyData.list [] := fun z => by
    injection z with z
    exact h (List.map_eq_nil_iff.mp z)
  simp only [this, decide_false]
theorem q_33 {n : Nat} {w : Wd} {c : List Rat} (hw : Wl n w) (hc : ∀ x ∈ c, Nb 40 x) (hn : c ≠ []) (hl : c.length ≤ 1000) {Q : Vl → Wd → Prop} (k : ∀ x w', Nb 100 x → Wl n w' → Q (.d (rq x)) w') : wpR (run 33 [.loc n, .d (.list (c.map rq))] w) Q := by
  refine wp_at (d := d_33) rfl rfl ?_
  have p4 : powV (.int 10) (.int 4) = some (.int (10 ^ 4)) := pw 4 (by decide)
  have p12 : powV (.int 10) (.int 12) = some (.int (10 ^ 12)) := pw 12 (by decide)
  simp [d_33, b_33, p4, p12, datas, getV, to, op2V, ltV, leV, gtV, geV, subV, esc, escs, escV, escI, escW, escP, Pc.esc, demE, wipeE, ixV, asSeq, bindV, bindT, bindTs, biV, setP, ownAt]
  refine q_22 hw (by decide) (by decide) fun i w1 i0 i1 hw1 => ?_
  have hne := near_eq hn
  by_cases q1 : i < 2
  · simp [q1, getV, to, op2V, ltV, leV, gtV, geV, subV, esc, escs, escV, escI, escW, escP, Pc.esc, demE, wipeE, ixV, asSeq, bindV, bindT, bindTs, biV, setP, ownAt]
    refine q_32 hw1 fun x w2 hx hw2 => ?_
    simp [getV, to, op2V, ltV, leV, gtV, geV, subV, esc, escs, escV, escI, escW, escP, Pc.esc, demE, wipeE, ixV, asSeq, bindV, bindT, bindTs, biV, setP, ownAt]
    exact k x w2 (hx.mono (by decide)) hw2
  · simp [q1, hne, getV, to, op2V, ltV, leV, gtV, geV, subV, esc, escs, escV, escI, escW, escP, Pc.esc, demE, wipeE, ixV, asSeq, bindV, bindT, bindTs, biV, setP, ownAt]
    refine q_23 rq (xs := c) _ (.inr rfl) hw1 hn (by omega) fun x hx w2 hw2 => ?_
    by_cases q2 : i < 6
    · simp [q2, getV, to, op2V, ltV, leV, gtV, geV, subV, esc, escs, escV, escI, escW, escP, Pc.esc, demE, wipeE, ixV, asSeq, bindV, bindT, bindTs, biV, setP, ownAt]
      exact k x w2 ((hc x hx).mono (by decide)) hw2
    · simp [q2, p4, p12, datas, getV, to, op2V, ltV, leV, gtV, geV, subV, esc, escs, escV, escI, escW, escP, Pc.esc, demE, wipeE, ixV, asSeq, bindV, bindT, bindTs, biV, setP, ownAt]
      have nb := hc x hx
      refine q_23 rq (xs := [Rat.divInt 1 60, Rat.divInt 1 (10 ^ 4), Rat.divInt 1 (10 ^ 12)]) _ (.inl ?_) hw2 (by simp) (by simp) fun y hy w3 hw3 => ?_
      · rw [List.map_cons, List.map_cons, List.map_cons, List.map_nil, rq_pair (by decide) (by decide), rq_pair (by decide) (by decide), rq_pair (by decide) (by decide)]
        simp
      · have ys : Sz 40 y := by
          simp only [List.mem_cons, List.not_mem_nil, or_false] at hy
          rcases hy with rfl | rfl | rfl <;> exact Sz.of (by decide) (by decide) (by decide)
        have e1 := f_26 nb.s ys (by decide) w3
        have e2 := f_25 nb.s ys (by decide) w3
        have fin : ∀ z : Rat, Sz 100 z → (0 ≤ z.num ∧ z.num ≤ (z.den : Int) → Q (.d (rq z)) w3) := fun z hz h => k z w3 (nb_of h.1 h.2 hz) hw3
        have fin2 : Q (.d (rq x)) w3 := k x w3 (nb.mono (by decide)) hw3
        by_cases q3 : i = 6
        · simp [-Rat.num_nonneg, q3, e1, at?, getV, to, op2V, ltV, leV, gtV, geV, subV, esc, escs, escV, escI, escW, escP, Pc.esc, demE, wipeE, ixV, asSeq, bindV, bindT, bindTs, biV, setP, ownAt]
          have fz := fin (x - y) ((nb.s.sub ys).mono (by decide))
          by_cases h1 : 0 ≤ (x - y).num <;> by_cases h2 : (x - y).num ≤ ((x - y).den : Int) <;> simp [-Rat.num_nonneg, h1, h2, at?, getV, to, op2V, ltV, leV, gtV, geV, subV, esc, escs, escV, escI, escW, escP, Pc.esc, demE, wipeE, ixV, asSeq, bindV, bindT, bindTs, biV, setP, ownAt]
          · exact fz ⟨h1, h2⟩
          all_goals exact fin2
        · simp [-Rat.num_nonneg, q3, e2, at?, getV, to, op2V, ltV, leV, gtV, geV, subV, esc, escs, escV, escI, escW, escP, Pc.esc, demE, wipeE, ixV, asSeq, bindV, bindT, bindTs, biV, setP, ownAt]
          have fz := fin (x + y) ((nb.s.add ys).mono (by decide))
          by_cases h1 : 0 ≤ (x + y).num <;> by_cases h2 : (x + y).num ≤ ((x + y).den : Int) <;> simp [-Rat.num_nonneg, h1, h2, at?, getV, to, op2V, ltV, leV, gtV, geV, subV, esc, escs, escV, escI, escW, escP, Pc.esc, demE, wipeE, ixV, asSeq, bindV, bindT, bindTs, biV, setP, ownAt]
          · exact fz ⟨h1, h2⟩
          all_goals exact fin2
theorem q_34 {n m : Nat} {w : Wd} {c : List Rat} (hw : Wl n w) (hc : ∀ x ∈ c, Nb 40 x) (hn : c ≠ []) (hl : c.length ≤ 1000) (hm : m ≤ 1000) {Q : Vl → Wd → Prop} (k : ∀ p w', p.length = m → (∀ x ∈ p, Nb 100 x) → Wl n w' → Q (.d (cq p)) w') : wpR (run 34 [.loc n, .d (.int m), .d (.list (c.map rq))] w) Q := by
  refine wp_at (d := d_34) rfl rfl ?_
  simp [d_34, b_34, small_nat (show m ≤ 1000000 by omega), getV, to, op2V, ltV, leV, gtV, geV, subV, esc, escs, escV, escI, escW, escP, Pc.esc, demE, wipeE, ixV, asSeq, bindV, bindT, bindTs, biV, setP, ownAt]
  refine wp_forP (fun k : Nat => PyData.int k) (fun done env v => ∃ (s4 s5 : Slot) (p : List Rat), env = [.val (.loc n), .val (.d (.int m)), .val (.d (.list (c.map rq))), .own (p.map rq), s4, s5] ∧ p.length = done.length ∧ (∀ x ∈ p, Nb 100 x) ∧ Wl n v) [] ⟨.non, .non, [], by simp, rfl, by simp, hw⟩ ?_ ?_
  · rintro d x r hd env v ⟨s4, s5, p, rfl, hp, hb, hv⟩ Q hQ
    obtain ⟨rfl, hx⟩ := range_split (by simpa using hd)
    simp [forT, getV, to, op2V, ltV, leV, gtV, geV, subV, esc, escs, escV, escI, escW, escP, Pc.esc, demE, wipeE, ixV, asSeq, bindV, bindT, bindTs, biV, setP, ownAt]
    refine q_33 hv hc hn hl fun x v1 hx1 hv1 => ?_
    have add : ∀ y v2, Nb 100 y → Wl n v2 → Q (.nx [.val (.loc n), .val (.d (.int m)), .val (.d (.list (c.map rq))), .own (p.map rq ++ [rq y]), .val (.d (.int d.length)), .val (.d (rq x))]) v2 := fun y v2 hy hv2 => hQ _ _ ⟨.val (.d (.int d.length)), .val (.d (rq x)), p ++ [y], by simp, by simp [hp], fun z hz => by
      rcases List.mem_append.mp hz with h | h
      · exact hb z h
      · rw [List.mem_singleton.mp h]
        exact hy, hv2⟩
    have hz : p.length < sizeLine := by simp [sizeLine]; omega
    by_cases q0 : 0 < d.length
    · simp [q0, getV, to, op2V, ltV, leV, gtV, geV, subV, esc, escs, escV, escI, escW, escP, Pc.esc, demE, wipeE, ixV, asSeq, bindV, bindT, bindTs, biV, setP, ownAt]
      refine q_22 hv1 (by decide) (by decide) fun i v2 i0 i1 hv2 => ?_
      by_cases q1 : i = 0
      · obtain ⟨y, t, rfl⟩ := List.exists_cons_of_length_pos (show 0 < p.length by omega)
        simp at hz
        simp [q1, at?, hz, mutV, getV, to, op2V, ltV, leV, gtV, geV, subV, esc, escs, escV, escI, escW, escP, Pc.esc, demE, wipeE, ixV, asSeq, bindV, bindT, bindTs, biV, setP, ownAt]
        have := add y v2 (hb y (by simp)) hv2
        simpa using this
      · simp [q1, hz, mutV, getV, to, op2V, ltV, leV, gtV, geV, subV, esc, escs, escV, escI, escW, escP, Pc.esc, demE, wipeE, ixV, asSeq, bindV, bindT, bindTs, biV, setP, ownAt]
        exact add x v2 hx1 hv2
    · simp [q0, hz, mutV, getV, to, op2V, ltV, leV, gtV, geV, subV, esc, escs, escV, escI, escW, escP, Pc.esc, demE, wipeE, ixV, asSeq, bindV, bindT, bindTs, biV, setP, ownAt]
      exact add x v1 hx1 hv1
  · rintro env v ⟨s4, s5, p, rfl, hp, hb, hv⟩
    simp at hp
    simp [getV, to, op2V, ltV, leV, gtV, geV, subV, esc, escs, escV, escI, escW, escP, Pc.esc, demE, wipeE, ixV, asSeq, bindV, bindT, bindTs, biV, setP, ownAt]
    exact k p v hp hb hv
theorem q_35 {n : Nat} {w : Wd} (hw : Wl n w) {Q : Vl → Wd → Prop} (k : ∀ x w', Nb 20 x → Wl n w' → Q (.d (rq x)) w') : wpR (run 35 [.loc n] w) Q := by
  refine wp_at (d := d_35) rfl rfl ?_
  have p6 : powV (.int 10) (.int 6) = some (.int (10 ^ 6)) := pw 6 (by decide)
  simp [d_35, b_35, getV, to, op2V, ltV, leV, gtV, geV, subV, esc, escs, escV, escI, escW, escP, Pc.esc, demE, wipeE, ixV, asSeq, bindV, bindT, bindTs, biV, setP, ownAt]
  refine q_22 hw (by decide) (by decide) fun i w1 i0 i1 hw1 => ?_
  by_cases q1 : i < 2
  · simp [q1, getV, to, op2V, ltV, leV, gtV, geV, subV, esc, escs, escV, escI, escW, escP, Pc.esc, demE, wipeE, ixV, asSeq, bindV, bindT, bindTs, biV, setP, ownAt]
    refine q_23 rq (xs := [Rat.divInt 1 20, Rat.divInt 1 10, Rat.divInt 1 2, 1, Rat.divInt 1 3, Rat.divInt 1 4, Rat.divInt 2 3]) _ (.inl ?_) hw1 (by simp) (by simp) fun x hx w2 hw2 => ?_
    · simp only [List.map_cons, List.map_nil]
      rw [rq_pair (n := 1) (m := 20) (by decide) (by decide), rq_pair (n := 1) (m := 10) (by decide) (by decide), rq_pair (n := 1) (m := 2) (by decide) (by decide), rq_pair (n := 1) (m := 3) (by decide) (by decide), rq_pair (n := 1) (m := 4) (by decide) (by decide), rq_pair (n := 2) (m := 3) (by decide) (by decide), rq_one]
    · simp [getV, to, op2V, ltV, leV, gtV, geV, subV, esc, escs, escV, escI, escW, escP, Pc.esc, demE, wipeE, ixV, asSeq, bindV, bindT, bindTs, biV, setP, ownAt]
      refine k x w2 ?_ hw2
      have one : Nb 20 1 := ⟨by decide, by decide, Sz.one (by decide)⟩
      simp only [List.mem_cons, List.not_mem_nil, or_false] at hx
      rcases hx with rfl | rfl | rfl | rfl | rfl | rfl | rfl
      · exact low_nb (by decide) (by decide) (by decide) (by decide)
      · exact low_nb (by decide) (by decide) (by decide) (by decide)
      · exact low_nb (by decide) (by decide) (by decide) (by decide)
      · exact one
      · exact low_nb (by decide) (by decide) (by decide) (by decide)
      · exact low_nb (by decide) (by decide) (by decide) (by decide)
      · exact low_nb (by decide) (by decide) (by decide) (by decide)
  · simp [q1, p6, datas, getV, to, op2V, ltV, leV, gtV, geV, subV, esc, escs, escV, escI, escW, escP, Pc.esc, demE, wipeE, ixV, asSeq, bindV, bindT, bindTs, biV, setP, ownAt]
    refine q_23 PyData.int (xs := [5, 12, 60, 997, 1000000]) _ (.inl rfl) hw1 (by simp) (by simp) fun u hu w2 hw2 => ?_
    have hu2 : 1 ≤ u ∧ u ≤ 1000000 := by
      simp at hu
      omega
    simp [getV, to, op2V, ltV, leV, gtV, geV, subV, esc, escs, escV, escI, escW, escP, Pc.esc, demE, wipeE, ixV, asSeq, bindV, bindT, bindTs, biV, setP, ownAt]
    refine q_22 hw2 (by omega) (by omega) fun i w3 i0 i1 hw3 => ?_
    obtain ⟨x, hx, _, e⟩ := q_24 (n := 1 + i) (m := u) (k := 20) (by omega) (by omega) (by omega) (by omega) (by decide) w3
    simp [e, addV, getV, to, op2V, ltV, leV, gtV, geV, subV, esc, escs, escV, escI, escW, escP, Pc.esc, demE, wipeE, ixV, asSeq, bindV, bindT, bindTs, biV, setP, ownAt]
    exact k x w3 hx hw3
theorem q_36 {n : Nat} {w : Wd} (hw : Wl n w) {Q : Vl → Wd → Prop} (k : ∀ x w', Nb 20 x → x < 1 → Wl n w' → Q (.d (rq x)) w') : wpR (run 36 [.loc n] w) Q := by
  refine wp_at (d := d_36) rfl rfl ?_
  simp [d_36, b_36, getV, to, op2V, ltV, leV, gtV, geV, subV, esc, escs, escV, escI, escW, escP, Pc.esc, demE, wipeE, ixV, asSeq, bindV, bindT, bindTs, biV, setP, ownAt]
  refine q_35 hw fun x w1 hx hw1 => ?_
  have e : neV (rq x) (.tuple [.int 1, .int 1]) = some (.bool (!decide (x = 1))) := ne_rq x 1
  have e9 : PyData.tuple [.int 9, .int 10] = rq (Rat.divInt 9 10) := (rq_pair (by decide) (by decide)).symm
  by_cases q : x = 1
  · simp only [q, decide_true] at e
    subst q
    simp [e, e9, getV, to, op2V, ltV, leV, gtV, geV, subV, esc, escs, escV, escI, escW, escP, Pc.esc, demE, wipeE, ixV, asSeq, bindV, bindT, bindTs, biV, setP, ownAt]
    exact k (Rat.divInt 9 10) w1 (low_nb (by decide) (by decide) (by decide) (by decide)) (by decide +kernel) hw1
  · simp only [q, decide_false] at e
    simp [e, getV, to, op2V, ltV, leV, gtV, geV, subV, esc, escs, escV, escI, escW, escP, Pc.esc, demE, wipeE, ixV, asSeq, bindV, bindT, bindTs, biV, setP, ownAt]
    exact k x w1 hx (by have := hx.o; grind) hw1
/-- a fraction -/
def dv (a b : Int) : Rat := Rat.divInt a b
theorem dv_mul {a b : Int} (hb : 0 < b) : dv a b * (b : Rat) = (a : Rat) := by
  have e := frac_div (a : Rat) (b : Rat)
  simp at e
  have : (0 : Rat) < (b : Rat) := Rat.intCast_lt_intCast.mpr hb
  rw [dv, e]
  exact Rat.div_mul_cancel (by grind)
theorem low_le {a b c d : Int} (hb : 0 < b) (hd : 0 < d) (h : a * d ≤ c * b) : dv a b ≤ dv c d := by
  have h1 := dv_mul (a := a) hb
  have h2 := dv_mul (a := c) hd
  have h3 : ((a * d : Int) : Rat) ≤ ((c * b : Int) : Rat) := Rat.intCast_le_intCast.mpr h
  have hb2 : (0 : Rat) < (b : Rat) := Rat.intCast_lt_intCast.mpr hb
  have hd2 : (0 : Rat) < (d : Rat) := Rat.intCast_lt_intCast.mpr hd
  rw [Rat.intCast_mul, Rat.intCast_mul, ← h1, ← h2] at h3
  refine Rat.le_of_mul_le_mul_right (c := (b : Rat) * (d : Rat)) ?_ (Rat.mul_pos hb2 hd2)
  generalize dv a b = x at *
  generalize dv c d = y at *
  grind
theorem low_lt {a b : Int} (hb : 0 < b) (h : a < b) : dv a b < 1 := by
  have h1 := dv_mul (a := a) hb
  have hb2 : (0 : Rat) < (b : Rat) := Rat.intCast_lt_intCast.mpr hb
  have h2 : (a : Rat) < (b : Rat) := Rat.intCast_lt_intCast.mpr h
  rw [← Rat.not_le]
  intro q
  have := Rat.mul_le_mul_of_nonneg_right q (Rat.le_of_lt hb2)
  grind
theorem dv_17 {n m : Int} {k : Nat} (h0 : 0 ≤ n) (h1 : n ≤ m) (hm : 0 < m) (hb : m.natAbs < 2 ^ k) (hk : k ≤ 9000) (w : Wd) : Nb k (dv n m) ∧ run 24 [.d (.int n), .d (.int m)] w = .ok (.d (rq (dv n m))) w := ⟨low_nb h0 h1 hm hb, f_24 (by omega) (big (l := 0) hb hk) w⟩
theorem dv_nb {k : Nat} {n m : Int} (h0 : 0 ≤ n) (h1 : n ≤ m) (hm : 0 < m) (hb : m.natAbs < 2 ^ k) : Nb k (dv n m) := low_nb h0 h1 hm hb
theorem mul_nb {k l : Nat} {x y : Rat} (hx : Nb k x) (hy : Nb l y) : Nb (k + l) (x * y) := by
  refine ⟨Rat.mul_nonneg hx.z hy.z, ?_, hx.s.mul hy.s⟩
  have h1 := Rat.mul_le_mul_of_nonneg_right hx.o hy.z
  have := hy.o
  grind
theorem mul_lt1 {k l : Nat} {x y : Rat} (hx : Nb k x) (hy : Nb l y) (h : x < 1) : x * y < 1 := by
  have h1 := Rat.mul_le_mul_of_nonneg_left hy.o hx.z
  grind
theorem ladder_lims {l : Rat} (hl : Nb 20 l) (h1 : l < 1) {m : Nat} (hm : 1 ≤ m ∧ m ≤ 5) (g : Nat → Rat) (hg : ∀ k, k < m → Nb 3 (g k)) (hup : ∀ i j, i < j → j < m → g i ≤ g j) : Lims ((List.range m).map fun k => l * g k) ∧ ∀ x ∈ (List.range m).map fun k => l * g k, Nb 40 x := by
  have nb : ∀ x ∈ (List.range m).map fun k => l * g k, Nb 23 x ∧ x < 1 := fun x hx => by
    obtain ⟨k, hk, rfl⟩ := List.mem_map.mp hx
    have hk := hg k (List.mem_range.mp hk)
    exact ⟨mul_nb hl hk, mul_lt1 hl hk h1⟩
  refine ⟨⟨⟨fun x hx => (nb x hx).1.nm (by decide), by simpa using hm⟩, fun x hx => (nb x hx).2, ?_⟩, fun x hx => (nb x hx).1.mono (by decide)⟩
  rw [List.pairwise_map]
  refine List.Pairwise.imp_of_mem ?_ List.pairwise_lt_range
  intro i j hi hj hij
  exact Rat.mul_le_mul_of_nonneg_left (hup i j hij (List.mem_range.mp hj)) hl.z
theorem q_39 {n m : Nat} {w : Wd} (hw : Wl n w) (hm : 1 ≤ m ∧ m ≤ 5) {Q : Vl → Wd → Prop} (k : ∀ c w', c.length = m → Lims c → (∀ x ∈ c, Nb 40 x) → Wl n w' → Q (.d (cq c)) w') : wpR (run 39 [.loc n, .d (.int m)] w) Q := by
  refine wp_at (d := d_39) rfl rfl ?_
  simp [d_39, b_39, getV, to, op2V, ltV, leV, gtV, geV, subV, esc, escs, escV, escI, escW, escP, Pc.esc, demE, wipeE, ixV, asSeq, bindV, bindT, bindTs, biV, setP, ownAt]
  refine q_22 hw (by decide) (by decide) fun way w1 i0 i1 hw1 => ?_
  simp [getV, to, op2V, ltV, leV, gtV, geV, subV, esc, escs, escV, escI, escW, escP, Pc.esc, demE, wipeE, ixV, asSeq, bindV, bindT, bindTs, biV, setP, ownAt]
  refine q_23 PyData.int (xs := [20, 10, 6, 60, 1000]) _ (.inl rfl) hw1 (by simp) (by simp) fun u hu w2 hw2 => ?_
  have hu2 : 6 ≤ u ∧ u ≤ 1000 := by
    simp at hu
    omega
  have hm5 : m ≤ 1000000 := by omega
  by_cases q0 : way = 0
  · simp [q0, getV, to, op2V, ltV, leV, gtV, geV, subV, esc, escs, escV, escI, escW, escP, Pc.esc, demE, wipeE, ixV, asSeq, bindV, bindT, bindTs, biV, setP, ownAt]
    refine q_36 hw2 fun x w3 hx hx1 hw3 => ?_
    simp [small_nat hm5, getV, to, op2V, ltV, leV, gtV, geV, subV, esc, escs, escV, escI, escW, escP, Pc.esc, demE, wipeE, ixV, asSeq, bindV, bindT, bindTs, biV, setP, ownAt]
    refine wp_gathM (fun k : Nat => PyData.int k) (fun k : Nat => rq (x * dv (k + 1) m)) ?_ (by simp [sizeLine]; omega) ?_
    · intro j hj
      have hj := List.mem_range.mp hj
      obtain ⟨hy, e⟩ := dv_17 (n := (j : Int) + 1) (m := (m : Int)) (k := 3) (by omega) (by omega) (by omega) (by omega) (by decide) w3
      have e2 := f_27 hx.s hy.s (by decide) w3
      simp [addV, e, e2, getV, to, op2V, ltV, leV, gtV, geV, subV, esc, escs, escV, escI, escW, escP, Pc.esc, demE, wipeE, ixV, asSeq, bindV, bindT, bindTs, biV, setP, ownAt]
    · have h := ladder_lims hx hx1 hm (fun k => dv (k + 1) m) (fun k hk => dv_nb (by omega) (by omega) (by omega) (by omega)) (fun i j hij hj => low_le (by omega) (by omega) (Int.mul_le_mul_of_nonneg_right (by omega) (by omega)))
      rw [List.nil_append]
      simp [getV, to, op2V, ltV, leV, gtV, geV, subV, esc, escs, escV, escI, escW, escP, Pc.esc, demE, wipeE, ixV, asSeq, bindV, bindT, bindTs, biV, setP, ownAt]
      have := k _ w3 (by simp) h.1 h.2 hw3
      simp only [cq, List.map_map, Function.comp_def] at this
      exact this
  · by_cases q1 : way = 1
    · simp [q0, q1, getV, to, op2V, ltV, leV, gtV, geV, subV, esc, escs, escV, escI, escW, escP, Pc.esc, demE, wipeE, ixV, asSeq, bindV, bindT, bindTs, biV, setP, ownAt]
      refine q_36 hw2 fun x w3 hx hx1 hw3 => ?_
      simp [small_nat hm5, getV, to, op2V, ltV, leV, gtV, geV, subV, esc, escs, escV, escI, escW, escP, Pc.esc, demE, wipeE, ixV, asSeq, bindV, bindT, bindTs, biV, setP, ownAt]
      refine wp_gathM (fun k : Nat => PyData.int k) (fun k : Nat => rq (x * dv 1 ((m : Int) - k))) ?_ (by simp [sizeLine]; omega) ?_
      · intro j hj
        have hj := List.mem_range.mp hj
        obtain ⟨hy, e⟩ := dv_17 (n := 1) (m := (m : Int) - j) (k := 3) (by omega) (by omega) (by omega) (by omega) (by decide) w3
        have e2 := f_27 hx.s hy.s (by decide) w3
        simp [addV, e, e2, getV, to, op2V, ltV, leV, gtV, geV, subV, esc, escs, escV, escI, escW, escP, Pc.esc, demE, wipeE, ixV, asSeq, bindV, bindT, bindTs, biV, setP, ownAt]
      · have h := ladder_lims hx hx1 hm (fun k => dv 1 ((m : Int) - k)) (fun k hk => dv_nb (by omega) (by omega) (by omega) (by omega)) (fun i j hij hj => low_le (by omega) (by omega) (by omega))
        rw [List.nil_append]
        simp [getV, to, op2V, ltV, leV, gtV, geV, subV, esc, escs, escV, escI, escW, escP, Pc.esc, demE, wipeE, ixV, asSeq, bindV, bindT, bindTs, biV, setP, ownAt]
        have := k _ w3 (by simp) h.1 h.2 hw3
        simp only [cq, List.map_map, Function.comp_def] at this
        exact this
    · have hdv : fdivV (.int u) (.int 3) = some (.int (u / 3)) := fdiv_p (by decide) (by decide)
      simp [q0, q1, hdv, addV, getV, to, op2V, ltV, leV, gtV, geV, subV, esc, escs, escV, escI, escW, escP, Pc.esc, demE, wipeE, ixV, asSeq, bindV, bindT, bindTs, biV, setP, ownAt]
      refine q_23 PyData.int (xs := [u, u, 1 + u / 3, 1 + u / 3, 2]) _ (.inl rfl) hw2 (by simp) (by simp) fun wide hwd w3 hw3 => ?_
      have hwd2 : 1 ≤ wide ∧ wide ≤ u := by
        simp at hwd
        omega
      simp [small_nat hm5, getV, to, op2V, ltV, leV, gtV, geV, subV, esc, escs, escV, escI, escW, escP, Pc.esc, demE, wipeE, ixV, asSeq, bindV, bindT, bindTs, biV, setP, ownAt]
      refine wp_gathE (fun k : Nat => PyData.int k) PyData.int (fun _ t => 0 ≤ t ∧ t < wide) (Wl n) hw3 (by simp [sizeLine]; omega) (fun j hj w4 hw4 Q hQ => ?_) ?_
      · simp [getV, to, op2V, ltV, leV, gtV, geV, subV, esc, escs, escV, escI, escW, escP, Pc.esc, demE, wipeE, ixV, asSeq, bindV, bindT, bindTs, biV, setP, ownAt]
        refine q_22 hw4 (by omega) (by omega) fun i w5 i0 i1 hw5 => ?_
        simp
        exact hQ i w5 ⟨i0, i1⟩ hw5
      · intro ys w4 hy hz hw4
        have hb : ∀ t ∈ sortI ys, 0 ≤ t ∧ t < wide := fun t ht => by
          have ht := (sortI_perm ys).mem_iff.mp ht
          obtain ⟨i, hi, rfl⟩ := List.mem_iff_getElem.mp ht
          have hz2 : i < ((List.range m).zip ys).length := by rw [List.length_zip]; omega
          have := hz _ (List.getElem_mem hz2)
          rwa [List.getElem_zip] at this
        have hsl : (sortI ys).length = m := by
          rw [(sortI_perm ys).length_eq, hy, List.length_range]
        rw [List.nil_append]
        simp [asInts_int, getV, to, op2V, ltV, leV, gtV, geV, subV, esc, escs, escV, escI, escW, escP, Pc.esc, demE, wipeE, ixV, asSeq, bindV, bindT, bindTs, biV, setP, ownAt]
        refine wp_gathM PyData.int (fun t => rq (dv t u)) ?_ (by simp [sizeLine]; omega) ?_
        · intro t ht
          have := hb t ht
          obtain ⟨hy, e⟩ := dv_17 (n := t) (m := u) (k := 10) (by omega) (by omega) (by omega) (by omega) (by decide) w4
          simp [e, getV, to, op2V, ltV, leV, gtV, geV, subV, esc, escs, escV, escI, escW, escP, Pc.esc, demE, wipeE, ixV, asSeq, bindV, bindT, bindTs, biV, setP, ownAt]
        · rw [List.nil_append]
          simp [getV, to, op2V, ltV, leV, gtV, geV, subV, esc, escs, escV, escI, escW, escP, Pc.esc, demE, wipeE, ixV, asSeq, bindV, bindT, bindTs, biV, setP, ownAt]
          have nb : ∀ x ∈ (sortI ys).map fun t => dv t u, Nb 10 x ∧ x < 1 := fun x hx => by
            obtain ⟨t, ht, rfl⟩ := List.mem_map.mp hx
            have := hb t ht
            exact ⟨dv_nb (by omega) (by omega) (by omega) (by omega), low_lt (by omega) (by omega)⟩
          have := k ((sortI ys).map fun t => dv t u) w4 (by simpa using hsl) ⟨⟨fun x hx => (nb x hx).1.nm (by decide), by simpa [hsl] using hm⟩, fun x hx => (nb x hx).2, by
            rw [List.pairwise_map]
            exact (sortI_srt ys).imp fun {a b} h => low_le (by omega) (by omega) (Int.mul_le_mul_of_nonneg_right h (by omega))⟩ (fun x hx => (nb x hx).1.mono (by decide)) hw4
          simp only [cq, List.map_map, Function.comp_def] at this
          exact this
theorem lin_li (l : List Nat) : lin l = li (toI l) := by simp [toI]
theorem tld_in {p c : List Rat} {up : Bool} {i : Nat} (h : i ∈ tldB p c up) : i < p.length := (mem_callBy.mp h).1
theorem tld_len (p c : List Rat) (up : Bool) : (toI (tldB p c up)).length ≤ p.length := by
  have h := callBy_asc p (if up then manyU p c else manyD p c)
  have n : (tldB p c up).Nodup := h.imp fun h => by omega
  have := List.Nodup.length_le_of_subset n (l₂ := List.range p.length) fun i hi => List.mem_range.mpr (tld_in hi)
  simpa [toI] using this
theorem li_nc {T : List Int} (h : ∀ i ∈ T, 0 ≤ i ∧ i < 1000) (hl : T.length ≤ 5) : Nc (201 * 5) 2 (li T) := by
  refine Nc.tup (k := 200) (p := 1) (n := 5) (fun x hx => ?_) (by simpa using hl)
  obtain ⟨i, hi, rfl⟩ := List.mem_map.mp hx
  have := h i hi
  exact Nc.int (by decide) (Nat.lt_of_lt_of_le (show i.natAbs < 2 ^ 10 by omega) (Nat.pow_le_pow_right (by decide) (by decide)))
theorem two_show {A B : List Int} (ha : ∀ i ∈ A, 0 ≤ i ∧ i < 1000) (hla : A.length ≤ 5) (hb : ∀ i ∈ B, 0 ≤ i ∧ i < 1000) (hlb : B.length ≤ 5) : showOk (.list [li A, li B]) = true ∧ eqV (.str (PyData.list [li A, li B]).shown) (.str (PyData.list [li A, li B]).shown) = some (.bool true) ∧ neV (.str (PyData.list [li A, li B]).shown) (.str (PyData.list [li A, li B]).shown) = some (.bool false) := by
  obtain ⟨h1, h2, h3⟩ := Nc.show (Nc.lst (k := 201 * 5) (p := 2) (n := 2) (xs := [li A, li B]) (fun x hx => by
    simp only [List.mem_cons, List.not_mem_nil, or_false] at hx
    rcases hx with rfl | rfl
    · exact li_nc ha hla
    · exact li_nc hb hlb) (by simp)) (by decide) (by decide)
  exact ⟨by simpa only [biV, Option.ite_none_right_eq_some, and_true] using h1, h2, h3⟩
def moreF (x : Rat) : Rat := (x + dv 1 40) / dv 41 40
theorem more_le {x y : Rat} (h : x ≤ y) : moreF x ≤ moreF y := by
  have e : ∀ z : Rat, moreF z * dv 41 40 = z + dv 1 40 := fun z => Rat.div_mul_cancel (by decide +kernel)
  have h2 : (0 : Rat) < dv 41 40 := by decide +kernel
  refine Rat.le_of_mul_le_mul_right (c := dv 41 40) ?_ h2
  rw [e, e]
  grind
theorem more_ge {x : Rat} (h0 : 0 ≤ x) (h : x < 1) : x ≤ moreF x ∧ moreF x < 1 := by
  have e : moreF x * dv 41 40 = x + dv 1 40 := Rat.div_mul_cancel (by decide +kernel)
  have h2 : (0 : Rat) < dv 41 40 := by decide +kernel
  have e1 : dv 41 40 = 1 + dv 1 40 := by decide +kernel
  have h3 : (0 : Rat) < dv 1 40 := by decide +kernel
  have h4 : x * dv 1 40 ≤ 1 * dv 1 40 := Rat.mul_le_mul_of_nonneg_right (by grind) (by grind)
  refine ⟨?_, ?_⟩
  · refine Rat.le_of_mul_le_mul_right (c := dv 41 40) ?_ h2
    rw [e, e1]
    grind
  · rw [← Rat.not_le]
    intro q
    have := Rat.mul_le_mul_of_nonneg_right q (Rat.le_of_lt h2)
    rw [e, e1] at this
    grind
theorem more_sz {k : Nat} {x : Rat} (h : Sz k x) : Sz (k + 6 + 1 + 6) (moreF x) := Sz.div (Sz.add h (Sz.of (by decide) (by decide) (by decide))) (Sz.of (by decide) (by decide) (by decide)) (by decide +kernel)
theorem nth_map {l : List Rat} (f : Rat → Rat) {i : Nat} (h : i < l.length) : nth (l.map f) i = f (nth l i) := by simp [nth, h]
end Lk41
end
section
namespace Lk41
open PySem R
/-! ### mathematics of the share -/
theorem mem_sets : ∀ {l a : List Int}, a ∈ sets l ↔ a ≠ [] ∧ a.Sublist l
  | [], a => by
    constructor
    · intro h
      simp [sets] at h
    · rintro ⟨h1, h2⟩
      exact absurd (List.sublist_nil.mp h2) h1
  | i :: r, a => by
    have ih := fun a => @mem_sets r a
    simp only [sets, List.mem_cons, List.mem_append, List.mem_map, ih]
    constructor
    · rintro ((rfl | ⟨b, ⟨hb, hs⟩, rfl⟩) | ⟨h1, h2⟩)
      · exact ⟨by simp, List.Sublist.cons_cons _ (List.nil_sublist _)⟩
      · exact ⟨by simp, List.Sublist.cons_cons _ hs⟩
      · exact ⟨h1, List.Sublist.cons _ h2⟩
    · rintro ⟨h1, h2⟩
      cases h2 with
      | cons _ h => exact .inr ⟨h1, h⟩
      | cons_cons _ h =>
        rename_i b
        by_cases q : b = []
        · exact .inl (.inl (by rw [q]))
        · exact .inl (.inr ⟨b, ⟨q, h⟩, rfl⟩)
theorem cnt_range (p : List Rat) (t : Rat) : cnt p t = ((List.range p.length).filter fun i => decide (nth p i ≤ t)).length := by
  have e : p = (List.range p.length).map (nth p) := by
    apply List.ext_getElem
    · simp
    · intro i h1 h2
      rw [List.getElem_map, List.getElem_range, nth_eq h1]
  have e2 : cnt p t = cnt ((List.range p.length).map (nth p)) t := by rw [← e]
  rw [e2, cnt, List.countP_map, List.countP_eq_length_filter]
  rfl
theorem cnt_ge {p : List Rat} {t : Rat} {L : List Nat} (hn : L.Nodup) (h : ∀ i ∈ L, i < p.length ∧ nth p i ≤ t) : L.length ≤ cnt p t := by
  rw [cnt_range]
  refine List.Nodup.length_le_of_subset hn fun i hi => ?_
  obtain ⟨h1, h2⟩ := h i hi
  exact List.mem_filter.mpr ⟨List.mem_range.mpr h1, by simpa using h2⟩
theorem called_len {p c : List Rat} (hl : c.length = p.length) (hc : c.Pairwise (· ≤ ·)) : (tldB p c true).length = manyU p c := by
  have hM : Most p c true p.length (manyU p c) := many_most true hl
  have e0 : tldB p c true = callBy p (manyU p c) := rfl
  rw [e0]
  have hle := hM.le
  by_cases h0 : manyU p c = 0
  · simp [callBy, h0]
  · have h1 : 1 ≤ manyU p c := by omega
    have e : (callBy p (manyU p c)).length = cnt p (nth (rise p) (manyU p c - 1)) := by
      have eg : (rise p).getD (manyU p c - 1) 0 = nth (rise p) (manyU p c - 1) := by simp [nth]
      rw [cnt_range]
      refine List.Perm.length_eq ((List.perm_ext_iff_of_nodup ?_ ?_).mpr fun i => ?_)
      · exact (callBy_asc p _).imp fun h => by omega
      · exact List.Nodup.sublist List.filter_sublist List.nodup_range
      · rw [mem_callBy, List.mem_filter, List.mem_range, eg]
        simp [h1]
    rw [e]
    generalize manyU p c = M at hM hle h1
    have key := fun k (hk : k < (rise p).length) => cnt_key (t := nth (rise p) (M - 1)) (rise_srt p) hk
    have pe : cnt (rise p) (nth (rise p) (M - 1)) = cnt p (nth (rise p) (M - 1)) := cnt_perm (rise_perm p) _
    rw [pe] at key
    have k1 := (key (M - 1) (by rw [rise_len]; omega)).mp Rat.le_refl
    have hcl : cnt p (nth (rise p) (M - 1)) ≤ p.length := List.countP_le_length
    rcases Nat.lt_or_ge M (cnt p (nth (rise p) (M - 1))) with q | q
    · exfalso
      have := (key M (by rw [rise_len]; omega)).mpr (by omega)
      have s := (hM.sep hl hc h1 (Nat.le_refl M) (by omega)).1
      grind
    · omega
/-- the called ones of a lot -/
def hit (part : List Int) (U : List Nat) : List Nat := U.filter fun i => decide ((i : Int) ∈ part)
def mis (part : List Int) (U : List Nat) : List Nat := U.filter fun i => !decide ((i : Int) ∈ part)
theorem hit_mis (part : List Int) : ∀ U : List Nat, (hit part U).length + (mis part U).length = U.length
  | [] => rfl
  | x :: r => by
    have := hit_mis part r
    unfold hit mis at *
    by_cases q : (x : Int) ∈ part <;> simp [q] <;> omega
def shr (p c : List Rat) (part : List Int) : Rat := if tldB p c true = [] then 0 else dv (hit part (tldB p c true)).length (tldB p c true).length
def isIn (p : List Rat) (S : List Int) (x : Rat) : Bool := (List.range p.length).all fun k => !decide ((k : Int) ∈ S) || !decide (x < nth p k)
theorem isIn_iff {p : List Rat} {S : List Int} {x : Rat} : isIn p S x = true ↔ ∀ k, k < p.length → (k : Int) ∈ S → nth p k ≤ x := by
  simp only [isIn, List.all_eq_true, List.mem_range, Bool.or_eq_true, Bool.not_eq_true', decide_eq_false_iff_not]
  constructor
  · intro h k hk hs
    rcases h k hk with q | q
    · exact absurd hs q
    · exact Rat.not_lt.mp q
  · intro h k hk
    by_cases q : (k : Int) ∈ S
    · exact .inr (Rat.not_lt.mpr (h k hk q))
    · exact .inl q
def gr (x y : Rat) : Rat := if x < y then y else x
theorem gr_le {x y b : Rat} (hx : x ≤ b) (hy : y ≤ b) : gr x y ≤ b := by
  unfold gr
  split
  · exact hy
  · exact hx
theorem le_gr (x y : Rat) : x ≤ gr x y ∧ y ≤ gr x y := by
  unfold gr
  split <;> constructor <;> grind
abbrev Wo := List Int × Rat × Rat
def worL (c : List Rat) (part : List Int) : List Wo := (List.range (c.length - part.length + 1)).flatMap fun b => (sets part).map fun S => (S, nth c (S.length + b - 1), dv S.length (S.length + b : Nat))
def worStep (p : List Rat) (m : Rat) (e : Wo) : Rat := if isIn p e.1 e.2.1 then gr m e.2.2 else m
def worAt (p : List Rat) (l : List Wo) (m : Rat) : Rat := l.foldl (worStep p) m
theorem worAt_ge (p : List Rat) : ∀ (l : List Wo) (m : Rat), m ≤ worAt p l m ∧ ∀ e ∈ l, isIn p e.1 e.2.1 = true → e.2.2 ≤ worAt p l m
  | [], m => ⟨Rat.le_refl, by simp⟩
  | e :: r, m => by
    obtain ⟨h1, h2⟩ := worAt_ge p r (worStep p m e)
    have hs : m ≤ worStep p m e ∧ (isIn p e.1 e.2.1 = true → e.2.2 ≤ worStep p m e) := by
      unfold worStep
      have := le_gr m e.2.2
      split
      · exact ⟨this.1, fun _ => this.2⟩
      · next q => exact ⟨Rat.le_refl, fun z => absurd z q⟩
    refine ⟨Rat.le_trans hs.1 h1, fun d hd hi => ?_⟩
    rcases List.mem_cons.mp hd with rfl | hd
    · exact Rat.le_trans (hs.2 hi) h1
    · exact h2 d hd hi
theorem worAt_le (p : List Rat) {b : Rat} : ∀ (l : List Wo) (m : Rat), m ≤ b → (∀ e ∈ l, isIn p e.1 e.2.1 = true → e.2.2 ≤ b) → worAt p l m ≤ b
  | [], m, h, _ => h
  | e :: r, m, h, hs => by
    refine worAt_le p r (worStep p m e) ?_ fun d hd hi => hs d (List.mem_cons_of_mem _ hd) hi
    unfold worStep
    split
    · next q => exact gr_le h (hs e (List.mem_cons_self ..) q)
    · exact h
theorem worAt_mono {p q : List Rat} {l : List Wo} {m : Rat} (hl : q.length = p.length) (h : ∀ i, i < p.length → nth q i ≤ nth p i) : worAt p l m ≤ worAt q l m := by
  refine worAt_le p l m (worAt_ge q l m).1 fun e he hi => (worAt_ge q l m).2 e he (isIn_iff.mpr fun k hk hs => ?_)
  have := isIn_iff.mp hi k (by omega) hs
  have := h k (by omega)
  grind
def shrAt (rows : List (List Rat)) (c : List Rat) (part : List Int) (m : Rat) : Rat := rows.foldl (fun m r => gr m (shr r c part)) m
theorem shrAt_ge (c : List Rat) (part : List Int) : ∀ (l : List (List Rat)) (m : Rat), m ≤ shrAt l c part m ∧ ∀ e ∈ l, shr e c part ≤ shrAt l c part m
  | [], m => ⟨Rat.le_refl, by simp⟩
  | e :: r, m => by
    obtain ⟨h1, h2⟩ := shrAt_ge c part r (gr m (shr e c part))
    have := le_gr m (shr e c part)
    refine ⟨Rat.le_trans this.1 h1, fun d hd => ?_⟩
    rcases List.mem_cons.mp hd with rfl | hd
    · exact Rat.le_trans this.2 h1
    · exact h2 d hd
theorem shrAt_le (c : List Rat) (part : List Int) {b : Rat} : ∀ (l : List (List Rat)) (m : Rat), m ≤ b → (∀ e ∈ l, shr e c part ≤ b) → shrAt l c part m ≤ b
  | [], m, h, _ => h
  | e :: r, m, h, hs => shrAt_le c part r _ (gr_le h (hs e (List.mem_cons_self ..))) fun d hd => hs d (List.mem_cons_of_mem _ hd)
theorem dv_zero {m : Int} : dv 0 m = 0 := by simp [dv]
/-- a lot of the frame -/
structure Pt (n : Nat) (part : List Int) : Prop where
  asc : part.Pairwise (· < ·)
  b : ∀ i ∈ part, 0 ≤ i ∧ i < n
theorem nat_part {n : Nat} {part : List Int} (h : Pt n part) : ∃ P : List Nat, part = toI P ∧ P.Pairwise (· < ·) ∧ ∀ i ∈ P, i < n := by
  refine ⟨part.map Int.toNat, ?_, ?_, ?_⟩
  · unfold toI
    rw [List.map_map]
    have : ∀ i ∈ part, ((fun (k : Nat) => (k : Int)) ∘ Int.toNat) i = i := fun i hi => by
      have := (h.b i hi).1
      simp
      omega
    rw [List.map_congr_left this, List.map_id']
  · rw [List.pairwise_map]
    refine h.asc.imp_of_mem fun {a b} ha hb hlt => ?_
    have := h.b a ha
    have := h.b b hb
    omega
  · intro i hi
    obtain ⟨j, hj, rfl⟩ := List.mem_map.mp hi
    have := h.b j hj
    omega
def oth (n : Nat) (part : List Int) : List Nat := (List.range n).filter fun k => !decide ((k : Int) ∈ part)
theorem oth_len {n : Nat} {part : List Int} (h : Pt n part) : (oth n part).length + part.length = n := by
  obtain ⟨P, rfl, hP, hb⟩ := nat_part h
  have e := hit_mis (toI P) (List.range n)
  have : (hit (toI P) (List.range n)).length = P.length := by
    refine List.Perm.length_eq ((List.perm_ext_iff_of_nodup ?_ ?_).mpr fun i => ?_)
    · exact List.Nodup.sublist List.filter_sublist List.nodup_range
    · exact hP.imp fun h => by omega
    · unfold hit
      rw [List.mem_filter, List.mem_range, decide_eq_true_eq, mem_toI]
      constructor
      · rintro ⟨_, k, hk, e⟩
        have : k = i := by omega
        exact this ▸ hk
      · intro hi
        exact ⟨hb i hi, i, hi, rfl⟩
  unfold oth
  unfold mis at e
  simp [toI] at e this ⊢
  omega
/-- a share is at most what its lot is worth -/
theorem shr_le {p q c : List Rat} {part : List Int} (hl : c.length = p.length) (hq : q.length = p.length) (hc : c.Pairwise (· ≤ ·)) (hp : Pt p.length part) (same : ∀ i, i < p.length → (i : Int) ∈ part → nth q i = nth p i) : shr q c part ≤ worAt p (worL c part) 0 := by
  have g0 := (worAt_ge p (worL c part) 0).1
  unfold shr
  split
  · exact g0
  next hne =>
  have hM : Most q c true q.length (manyU q c) := many_most true (by omega)
  have hUl := called_len (p := q) (by omega) hc
  have hmem := fun i => mem_callBy (p := q) (m := manyU q c) (i := i)
  have e0 : tldB q c true = callBy q (manyU q c) := rfl
  have hasc : (tldB q c true).Pairwise (· < ·) := callBy_asc ..
  rw [← e0] at hmem
  generalize tldB q c true = U at *
  have h1 : 1 ≤ manyU q c := by
    have := List.length_pos_iff.mpr hne
    omega
  have hle := hM.le
  have hm := hit_mis part U
  by_cases z : hit part U = []
  · rw [z]
    show dv 0 _ ≤ _
    rw [dv_zero]
    exact g0
  · have hS : toI (hit part U) ∈ sets part := mem_sets.mpr ⟨by simpa [toI] using z, asc_sub (toI_asc (List.Pairwise.sublist List.filter_sublist hasc)) hp.asc fun i hi => by
      obtain ⟨k, hk, rfl⟩ := mem_toI.mp hi
      simpa using (List.mem_filter.mp hk).2⟩
    have hoth := oth_len hp
    have hml : (mis part U).length ≤ (oth p.length part).length := by
      refine List.Nodup.length_le_of_subset ((List.Pairwise.sublist List.filter_sublist hasc).imp fun h => by omega) fun i hi => ?_
      obtain ⟨h2, h3⟩ := List.mem_filter.mp hi
      have := ((hmem i).mp h2).1
      exact List.mem_filter.mpr ⟨List.mem_range.mpr (by omega), h3⟩
    have hin : (toI (hit part U), nth c ((toI (hit part U)).length + (mis part U).length - 1), dv ((toI (hit part U)).length : Nat) (((toI (hit part U)).length + (mis part U).length : Nat) : Int)) ∈ worL c part := by
      refine List.mem_flatMap.mpr ⟨(mis part U).length, List.mem_range.mpr (by omega), List.mem_map.mpr ⟨_, hS, rfl⟩⟩
    have tl : (toI (hit part U)).length = (hit part U).length := by simp [toI]
    rw [tl, hm] at hin
    refine (worAt_ge p (worL c part) 0).2 _ hin (isIn_iff.mpr fun k hk hs => ?_)
    obtain ⟨k2, hk2, e⟩ := mem_toI.mp hs
    have e : k2 = k := by omega
    subst e
    obtain ⟨h2, h3⟩ := List.mem_filter.mp hk2
    have h3 : (k2 : Int) ∈ part := by simpa using h3
    obtain ⟨_, _, h4⟩ := (hmem k2).mp h2
    have eg : (rise q).getD (manyU q c - 1) 0 = nth (rise q) (manyU q c - 1) := by simp [nth]
    rw [eg, same k2 hk h3] at h4
    have h5 : nth (rise q) (manyU q c - 1) ≤ nth c (manyU q c - 1) := hM.a h1
    show nth p k2 ≤ nth c (U.length - 1)
    rw [hUl]
    exact Rat.le_trans h4 h5
end Lk41
end
section
namespace Lk41
open PySem R
def rowStep (rows : List (List Rat)) (k : Nat) : List (List Rat) := rows.map (fun r => r.set k 1) ++ rows.map (fun r => r.set k 0)
def rowsOf (p : List Rat) (part : List Int) : List (List Rat) := (oth p.length part).foldl rowStep [p]
def rowG (g : Nat → Bool) (L : List Nat) (p : List Rat) : List Rat := L.foldl (fun r k => r.set k (if g k then 0 else 1)) p
theorem rowG_mem (g : Nat → Bool) : ∀ (L : List Nat) (rows : List (List Rat)) (r : List Rat), r ∈ rows → rowG g L r ∈ L.foldl rowStep rows
  | [], rows, r, h => h
  | k :: L, rows, r, h => by
    refine rowG_mem g L (rowStep rows k) (r.set k (if g k then 0 else 1)) ?_
    unfold rowStep
    rw [List.mem_append]
    cases g k with
    | true => exact .inr (List.mem_map.mpr ⟨r, h, rfl⟩)
    | false => exact .inl (List.mem_map.mpr ⟨r, h, rfl⟩)
theorem nth_set {p : List Rat} {k i : Nat} {v : Rat} (h : i < p.length) : nth (p.set k v) i = if i = k then v else nth p i := by
  unfold nth
  rw [List.getElem?_set]
  by_cases q : k = i
  · subst q
    simp [h]
  · have : ¬ i = k := fun z => q z.symm
    simp [q, this]
theorem rowG_len (g : Nat → Bool) : ∀ (L : List Nat) (p : List Rat), (rowG g L p).length = p.length
  | [], _ => rfl
  | k :: L, p => by
    have := rowG_len g L (p.set k (if g k then 0 else 1))
    simpa [rowG] using this
theorem rowG_nth (g : Nat → Bool) : ∀ (L : List Nat) (p : List Rat) (i : Nat), i < p.length → nth (rowG g L p) i = if i ∈ L then (if g i then 0 else 1) else nth p i
  | [], p, i, h => by simp [rowG]
  | k :: L, p, i, h => by
    have := rowG_nth g L (p.set k (if g k then 0 else 1)) i (by simpa using h)
    rw [nth_set h] at this
    have e : rowG g (k :: L) p = rowG g L (p.set k (if g k then 0 else 1)) := rfl
    rw [e, this]
    by_cases q : i ∈ L
    · simp [q]
    · by_cases z : i = k
      · subst z
        simp [q]
      · simp [q, z]
structure RowOk (p : List Rat) (part : List Int) (r : List Rat) : Prop where
  l : r.length = p.length
  s : ∀ i, i < p.length → (i : Int) ∈ part → nth r i = nth p i
  n : ∀ x ∈ r, Nm x
theorem rows_ok {p : List Rat} {part : List Int} : ∀ (L : List Nat) (rows : List (List Rat)), (∀ k ∈ L, ¬ (k : Int) ∈ part) → (∀ r ∈ rows, RowOk p part r) → ∀ r ∈ L.foldl rowStep rows, RowOk p part r
  | [], rows, _, h => h
  | k :: L, rows, hk, h => by
    refine rows_ok L (rowStep rows k) (fun j hj => hk j (List.mem_cons_of_mem _ hj)) fun r hr => ?_
    have key : ∀ v, Nm v → ∀ q ∈ rows, RowOk p part (q.set k v) := fun v hv q hq => by
      have o := h q hq
      refine ⟨by simpa using o.l, fun i hi hs => ?_, fun x hx => ?_⟩
      · rw [nth_set (by rw [o.l]; exact hi), if_neg]
        · exact o.s i hi hs
        · rintro rfl
          exact hk i (List.mem_cons_self ..) hs
      · rcases List.mem_or_eq_of_mem_set hx with z | z
        · exact o.n x z
        · exact z ▸ hv
    unfold rowStep at hr
    rcases List.mem_append.mp hr with z | z
    · obtain ⟨q, hq, rfl⟩ := List.mem_map.mp z
      exact key 1 ⟨by decide, by decide, Sz.one (by decide)⟩ q hq
    · obtain ⟨q, hq, rfl⟩ := List.mem_map.mp z
      exact key 0 ⟨by decide, by decide, Sz.zero (by decide)⟩ q hq
theorem rowsOf_ok {p : List Rat} {part : List Int} (h : ∀ x ∈ p, Nm x) : ∀ r ∈ rowsOf p part, RowOk p part r := by
  refine rows_ok _ _ (fun k hk => ?_) fun r hr => ?_
  · have := (List.mem_filter.mp hk).2
    simpa using this
  · rw [List.mem_singleton.mp hr]
    exact ⟨rfl, fun _ _ _ => rfl, h⟩
theorem shr_ge {p c : List Rat} {part : List Int} (hl : c.length = p.length) (hc : c.Pairwise (· ≤ ·)) (hc0 : ∀ x ∈ c, 0 ≤ x ∧ x < 1) (hp : Pt p.length part) {e : Wo} (he : e ∈ worL c part) (hi : isIn p e.1 e.2.1 = true) : ∃ r ∈ rowsOf p part, e.2.2 ≤ shr r c part := by
  obtain ⟨b, hb, h2⟩ := List.mem_flatMap.mp he
  obtain ⟨S, hS, rfl⟩ := List.mem_map.mp h2
  have hb := List.mem_range.mp hb
  obtain ⟨hS0, hSs⟩ := mem_sets.mp hS
  have hoth := oth_len hp
  have hSl : S.length ≤ part.length := hSs.length_le
  have hS1 : 1 ≤ S.length := List.length_pos_iff.mpr hS0
  have hP : Pt p.length S := ⟨hp.asc.sublist hSs, fun i hi => hp.b i (hSs.subset hi)⟩
  obtain ⟨P, eP, hPa, hPb⟩ := nat_part hP
  have ePl : S.length = P.length := by rw [eP]; simp [toI]
  obtain ⟨O, hO⟩ : ∃ O, O = oth p.length part := ⟨_, rfl⟩
  have hOn : O.Nodup := hO ▸ List.Nodup.sublist List.filter_sublist List.nodup_range
  have hOm : ∀ i, i ∈ O ↔ i < p.length ∧ ¬ (i : Int) ∈ part := fun i => by
    rw [hO]
    simp [oth]
  rw [← hO] at hoth
  obtain ⟨g, hg⟩ : ∃ g : Nat → Bool, g = fun k => decide (k ∈ O.take b) := ⟨_, rfl⟩
  refine ⟨rowG g O p, hO ▸ rowG_mem g O [p] p (by simp), ?_⟩
  have rl : (rowG g O p).length = p.length := rowG_len g O p
  have rn := fun i hi => rowG_nth g O p i hi
  generalize rowG g O p = r at rl rn
  obtain ⟨k, hk⟩ : ∃ k, k = S.length + b - 1 := ⟨_, rfl⟩
  have hkn : k < p.length := by omega
  have hck : nth c k ∈ c := getD_mem (by omega)
  have PS : ∀ i ∈ P, (i : Int) ∈ S := fun i hi => by
    rw [eP]
    exact mem_toI.mpr ⟨i, hi, rfl⟩
  -- so many numbers are at most the limit
  have hcnt : k + 1 ≤ cnt r (nth c k) := by
    have := cnt_ge (p := r) (t := nth c k) (L := P ++ O.take b) (by
      rw [List.nodup_append]
      refine ⟨hPa.imp fun h => by omega, hOn.sublist (List.take_sublist ..), fun a ha b' hb' z => ?_⟩
      have h1 := hSs.subset (PS a ha)
      have h2 := ((hOm b').mp (List.mem_of_mem_take hb')).2
      exact h2 (z ▸ h1)) (fun i hi => by
      rcases List.mem_append.mp hi with z | z
      · have h1 := hPb i z
        have h2 := hSs.subset (PS i z)
        refine ⟨by omega, ?_⟩
        rw [rn i h1, if_neg (fun q => ((hOm i).mp q).2 h2), hk]
        exact isIn_iff.mp ‹_› i h1 (PS i z)
      · have h1 := (hOm i).mp (List.mem_of_mem_take z)
        refine ⟨by omega, ?_⟩
        rw [rn i h1.1, if_pos ((hOm i).mpr h1), hg]
        simp only [z, decide_true, if_true]
        exact (hc0 _ hck).1)
    rw [List.length_append, List.length_take] at this
    omega
  have hM : Most r c true r.length (manyU r c) := many_most true (by omega)
  have hUl := called_len (p := r) (by omega) hc
  have hlt : k < manyU r c := hM.lt (by omega) (show Wk r c true k from (Pk_cnt (by omega)).mpr hcnt)
  have hmem := fun i => mem_callBy (p := r) (m := manyU r c) (i := i)
  have e0 : tldB r c true = callBy r (manyU r c) := rfl
  have hasc : (tldB r c true).Pairwise (· < ·) := callBy_asc ..
  rw [← e0] at hmem
  unfold shr
  generalize tldB r c true = U at *
  have hne : U ≠ [] := fun z => by rw [z] at hUl; simp at hUl; omega
  rw [if_neg hne]
  have hm := hit_mis part U
  have hle := hM.le
  have hz : (mis part U).length ≤ b := by
    have : (mis part U).length ≤ (O.take b).length := by
      refine List.Nodup.length_le_of_subset ((List.Pairwise.sublist List.filter_sublist hasc).imp fun h => by omega) fun i hi => ?_
      obtain ⟨h2, h3⟩ := List.mem_filter.mp hi
      obtain ⟨h4, _, h5⟩ := (hmem i).mp h2
      have hiO : i ∈ O := (hOm i).mpr ⟨by omega, by simpa using h3⟩
      have eg : (rise r).getD (manyU r c - 1) 0 = nth (rise r) (manyU r c - 1) := by simp [nth]
      have h6 : nth (rise r) (manyU r c - 1) ≤ nth c (manyU r c - 1) := hM.a (by omega)
      have h7 : nth c (manyU r c - 1) < 1 := (hc0 _ (getD_mem (by omega))).2
      rw [eg, rn i (by omega), if_pos hiO, hg] at h5
      by_cases q : i ∈ O.take b
      · exact q
      · simp only [q, decide_false, Bool.false_eq_true, if_false] at h5
        exfalso
        grind
    rw [List.length_take] at this
    omega
  show dv (S.length : Nat) ((S.length + b : Nat) : Int) ≤ dv _ _
  refine low_le (by omega) (by omega) ?_
  have ha : S.length ≤ (hit part U).length := by omega
  have h1 := Nat.mul_le_mul ha hz
  have h2 : S.length * U.length ≤ (hit part U).length * (S.length + b) := by
    rw [← hm, Nat.mul_add, Nat.mul_add]
    have := Nat.mul_comm S.length (hit part U).length
    omega
  exact_mod_cast h2
/-- the greatest share is the greatest fraction -/
theorem greatest_eq {p c : List Rat} {part : List Int} (hl : c.length = p.length) (hc : Lims c) (hp : Pt p.length part) (hn : ∀ x ∈ p, Nm x) : shrAt (rowsOf p part) c part 0 = worAt p (worL c part) 0 := by
  have up := hc.up
  have h01 : ∀ x ∈ c, 0 ≤ x ∧ x < 1 := fun x hx => ⟨(hc.n x hx).z, hc.b x hx⟩
  have h1 : shrAt (rowsOf p part) c part 0 ≤ worAt p (worL c part) 0 := shrAt_le c part _ 0 (worAt_ge p _ 0).1 fun r hr => by
    have o := rowsOf_ok hn r hr
    exact shr_le hl o.l up hp o.s
  have h2 : worAt p (worL c part) 0 ≤ shrAt (rowsOf p part) c part 0 := worAt_le p _ 0 (shrAt_ge c part _ 0).1 fun e he hi => by
    obtain ⟨r, hr, hle⟩ := shr_ge hl up h01 hp he hi
    exact Rat.le_trans hle ((shrAt_ge c part _ 0).2 r hr)
  exact Rat.le_antisymm h1 h2
end Lk41
end
section
namespace Lk41
open PySem R
theorem f_8n {c : List Rat} (h : Lims c) (w : Wd) : run 8 [.d .none, .d (cq c)] w = .ok (.d .none) w := by
  refine wp_det fun Q hQ => ?_
  refine wp_at (d := d_8) rfl rfl ?_
  have h1 : (1 : Int) ≤ c.length := by have := h.l; omega
  have h2 : (c.length : Int) ≤ 5 := by have := h.l; omega
  have hn := nin_pl (x := .none) (y := .tuple [.none, .int c.length]) rfl .non (.cons .non (.cons (.int _) .nil)) (by decide : 0 ≤ 63) (by decide : 0 ≤ 62)
  have hm : PyData.none ∈ [PyData.none, .int c.length] := by simp
  simp only [hm, decide_true, Bool.not_true] at hn
  simp [d_8, b_8, isiV, h1, h2, hn, gl, getV, to, op2V, ltV, leV, gtV, geV, subV, esc, escs, escV, escI, escW, escP, Pc.esc, demE, wipeE, ixV, asSeq, bindV, bindT, bindTs, biV, setP, ownAt]
  rw [List.zipIdx_map, List.map_map]
  refine wp_forP _ (fun done env v => ∃ s2 s3, env = [.val (.d .none), .val (.d (cq c)), s2, s3] ∧ v = w) [] ⟨.non, .non, rfl, rfl⟩ ?_ ?_
  · rintro d ⟨x, i⟩ r hd env v ⟨s2, s3, rfl, rfl⟩ Q hQ
    have hmem : (x, i) ∈ c.zipIdx := by
      have e : c.zipIdx = d ++ (x, i) :: r := by simpa using hd
      rw [e]
      simp
    have hg : c[i]? = some x := List.mem_zipIdx_iff_getElem?.mp hmem
    have hx : x ∈ c := List.mem_of_getElem? hg
    have q := (h.n x hx).num
    have e4 := f_4 (fq x) v
    simp only [q.b, q.g, q.z, q.o, decide_true, Bool.and_self] at e4
    have e5 := eq_rq x 1
    have n1 : x ≠ 1 := fun e => by
      have := h.b x hx
      rw [e] at this
      exact absurd this (by decide)
    simp only [n1, decide_false] at e5
    have e5 : eqV (rq x) (.tuple [.int 1, .int 1]) = some (.bool false) := e5
    by_cases h0 : i = 0
    · subst h0
      simp [forT, e4, gl, getV, to, op2V, ltV, leV, gtV, geV, subV, esc, escs, escV, escI, escW, escP, Pc.esc, demE, wipeE, ixV, asSeq, bindV, bindT, bindTs, biV, setP, ownAt]
      simp [e5, getV, to, op2V, ltV, leV, gtV, geV, subV, esc, escs, escV, escI, escW, escP, Pc.esc, demE, wipeE, ixV, asSeq, bindV, bindT, bindTs, biV, setP, ownAt]
      exact hQ _ _ ⟨_, _, rfl, rfl⟩
    · have hi : i - 1 < c.length := by
        have := (List.getElem?_eq_some_iff.mp hg).1
        omega
      have hgt : (0 : Int) < (i : Nat) := by omega
      have ha : at? (c.map rq) ((i : Int) - 1) = some (rq c[i - 1]) := by
        have e : (i : Int) - 1 = ((i - 1 : Nat) : Int) := by omega
        rw [e, at_nat, List.getElem?_map, List.getElem?_eq_getElem hi]
        rfl
      have hle : c[i - 1] ≤ x := by
        obtain ⟨hl, e⟩ := List.getElem?_eq_some_iff.mp hg
        rw [← e]
        exact (List.pairwise_iff_getElem.mp h.up) (i - 1) i hi hl (by omega)
      have e6 := g_6 (x := x) (y := c[i - 1]) (h.n x hx).s (h.n _ (List.getElem_mem hi)).s (by decide) v
      have nl : ¬ x < c[i - 1] := Rat.not_lt.mpr hle
      simp only [nl, decide_false] at e6
      simp [forT, e4, gl, getV, to, op2V, ltV, leV, gtV, geV, subV, esc, escs, escV, escI, escW, escP, Pc.esc, demE, wipeE, ixV, asSeq, bindV, bindT, bindTs, biV, setP, ownAt]
      have hgt' : 0 < i := by omega
      simp [e5, hgt', ha, e6, getV, to, op2V, ltV, leV, gtV, geV, subV, esc, escs, escV, escI, escW, escP, Pc.esc, demE, wipeE, ixV, asSeq, bindV, bindT, bindTs, biV, setP, ownAt]
      exact hQ _ _ ⟨_, _, rfl, rfl⟩
  · rintro env v ⟨s2, s3, rfl, rfl⟩
    simp
    exact hQ
theorem f_5 {n m : Int} (hm : 0 < m) (hb : m.natAbs < 2 ^ 8000) (w : Wd) : run 5 [.d (.int n), .d (.int m)] w = .ok (.d (rq (dv n m))) w := by
  refine wp_det fun Q hQ => ?_
  refine wp_at (d := d_5) rfl rfl ?_
  obtain ⟨h1, h2⟩ := low_num (n := n) (m := m) (by omega)
  have hs : m.sign = 1 := Int.sign_eq_one_of_pos hm
  rw [hs, Int.one_mul] at h1 h2
  have hg : 0 < Nat.gcd n.natAbs m.natAbs := Nat.gcd_pos_of_pos_right _ (by omega)
  have gl' : Nat.gcd n.natAbs m.natAbs ≤ m.natAbs := Nat.gcd_le_right _ (by omega)
  have hg2 : (((Nat.gcd n.natAbs m.natAbs : Nat) : Int)).natAbs.log2 < 9000 := by
    rw [Int.natAbs_natCast]
    have : Nat.gcd n.natAbs m.natAbs < 2 ^ 8000 := Nat.lt_of_le_of_lt gl' hb
    have := (Nat.log2_lt (by omega)).mpr this
    omega
  generalize hgd : Nat.gcd n.natAbs m.natAbs = g at *
  have e1 : fdivV (.int n) (.int (g : Nat)) = some (.int (dv n m).num) := by
    show (if (decide ((g : Int) ≠ 0) && decide (((g : Int)).natAbs.log2 < 9000)) = true then some (PyData.int (n.fdiv g)) else none) = _
    rw [h1, if_pos (by rw [decide_eq_true hg2, decide_eq_true (show (g : Int) ≠ 0 by omega)]; rfl)]
    rfl
  have e2 : fdivV (.int m) (.int (g : Nat)) = some (.int ((dv n m).den : Int)) := by
    show (if (decide ((g : Int) ≠ 0) && decide (((g : Int)).natAbs.log2 < 9000)) = true then some (PyData.int (m.fdiv g)) else none) = _
    rw [h2, if_pos (by rw [decide_eq_true hg2, decide_eq_true (show (g : Int) ≠ 0 by omega)]; rfl)]
    rfl
  simp [d_5, b_5, hm, hgd, e1, e2, getV, to, op2V, ltV, leV, gtV, geV, subV, esc, escs, escV, escI, escW, escP, Pc.esc, demE, wipeE, ixV, asSeq, bindV, bindT, bindTs, biV, setP, ownAt]
  exact hQ
theorem f_11 : ∀ part ∈ setsN 5, ∀ w, run 11 [.d (li part)] w = .ok (.d (.list ((sets part).map li))) w := by
  intro part h w
  have e : setsN 5 = [[0], [0, 1], [0, 1, 2], [0, 1, 2, 3], [0, 1, 2, 3, 4], [0, 1, 2, 4], [0, 1, 3], [0, 1, 3, 4], [0, 1, 4], [0, 2], [0, 2, 3], [0, 2, 3, 4], [0, 2, 4], [0, 3], [0, 3, 4], [0, 4], [1], [1, 2], [1, 2, 3], [1, 2, 3, 4], [1, 2, 4], [1, 3], [1, 3, 4], [1, 4], [2], [2, 3], [2, 3, 4], [2, 4], [3], [3, 4], [4]] := by decide +kernel
  rw [e] at h
  repeat
    rcases List.mem_cons.mp h with rfl | h
    · kernel_rfl
  simp at h
theorem f_30 : ∀ part ∈ setsN 5, ∀ w, run 30 [.d (li part)] w = .ok (.d (.list ((sets part).map li))) w := by
  intro part h w
  have e : setsN 5 = [[0], [0, 1], [0, 1, 2], [0, 1, 2, 3], [0, 1, 2, 3, 4], [0, 1, 2, 4], [0, 1, 3], [0, 1, 3, 4], [0, 1, 4], [0, 2], [0, 2, 3], [0, 2, 3, 4], [0, 2, 4], [0, 3], [0, 3, 4], [0, 4], [1], [1, 2], [1, 2, 3], [1, 2, 3, 4], [1, 2, 4], [1, 3], [1, 3, 4], [1, 4], [2], [2, 3], [2, 3, 4], [2, 4], [3], [3, 4], [4]] := by decide +kernel
  rw [e] at h
  repeat
    rcases List.mem_cons.mp h with rfl | h
    · kernel_rfl
  simp at h
theorem f_31 {c : Nat} (h : 1 ≤ c ∧ c ≤ 5) (w : Wd) : run 31 [.d (.int c)] w = .ok (.d (.list ((setsN c).map li))) w := by
  have e : c = 1 ∨ c = 2 ∨ c = 3 ∨ c = 4 ∨ c = 5 := by omega
  rcases e with rfl | rfl | rfl | rfl | rfl <;> kernel_rfl
theorem setsN_5 : ∀ c ∈ [1, 2, 3, 4, 5], ∀ l ∈ setsN c, l ∈ setsN 5 := by decide +kernel
theorem intKeys_map (d : PyData) : ∀ S : List Int, intKeys (S.map fun n => (.int n, d)) = true
  | [] => rfl
  | _ :: r => intKeys_map d r
theorem lookI_map (d : PyData) (k : Int) : ∀ S : List Int, lookI (S.map fun n => (.int n, d)) k = if k ∈ S then d else .none
  | [] => by simp [lookI]
  | x :: r => by
    have ih := lookI_map d k r
    rw [List.map_cons, lookI, ih]
    by_cases q : x = k
    · simp [q]
    · have : ¬ k = x := fun z => q z.symm
      simp [q, this]
abbrev edg (m : Nat) (S : List Int) (x : Rat) : PyData := .tuple ((List.range m).map fun (k : Nat) => if (k : Int) ∈ S then rq x else .none)
theorem f_12 {m : Nat} {S : List Int} {x : Rat} (hm : m ≤ 1000) (w : Wd) : run 12 [.d (.int m), .d (.dict (S.map fun n => (.int n, rq x)))] w = .ok (.d (edg m S x)) w := by
  refine wp_det fun Q hQ => ?_
  refine wp_at (d := d_12) rfl rfl ?_
  have hd : dictOf (.d (.dict (S.map fun n => (.int n, rq x)))) = some (S.map fun n => (.int n, rq x)) := by
    simp [dictOf, intKeys_map]
  simp [d_12, b_12, small_nat (show m ≤ 1000000 by omega), getV, to, op2V, ltV, leV, gtV, geV, subV, esc, escs, escV, escI, escW, escP, Pc.esc, demE, wipeE, ixV, asSeq, bindV, bindT, bindTs, biV, setP, ownAt]
  refine wp_gathM (fun k : Nat => PyData.int k) (fun k : Nat => if (k : Int) ∈ S then rq x else .none) ?_ (by simp [sizeLine]; omega) ?_
  · intro k hk
    simp [hd, getDV, lookI_map, getV, to, op2V, ltV, leV, gtV, geV, subV, esc, escs, escV, escI, escW, escP, Pc.esc, demE, wipeE, ixV, asSeq, bindV, bindT, bindTs, biV, setP, ownAt]
  · rw [List.nil_append]
    simp [getV, to, op2V, ltV, leV, gtV, geV, subV, esc, escs, escV, escI, escW, escP, Pc.esc, demE, wipeE, ixV, asSeq, bindV, bindT, bindTs, biV, setP, ownAt]
    exact hQ
theorem f_37 {m : Nat} {S : List Int} {x : Rat} (hm : m ≤ 1000) (w : Wd) : run 37 [.d (.int m), .d (li S), .d (rq x)] w = .ok (.d (edg m S x)) w := by
  refine wp_det fun Q hQ => ?_
  refine wp_at (d := d_37) rfl rfl ?_
  simp [d_37, b_37, small_nat (show m ≤ 1000000 by omega), getV, to, op2V, ltV, leV, gtV, geV, subV, esc, escs, escV, escI, escW, escP, Pc.esc, demE, wipeE, ixV, asSeq, bindV, bindT, bindTs, biV, setP, ownAt]
  refine wp_gathM (fun k : Nat => PyData.int k) (fun k : Nat => if (k : Int) ∈ S then rq x else .none) ?_ (by simp [sizeLine]; omega) ?_
  · intro k hk
    have e := (in_int k S).1
    by_cases q : (k : Int) ∈ S
    · simp only [q, decide_true] at e
      simp [e, q, getV, to, op2V, ltV, leV, gtV, geV, subV, esc, escs, escV, escI, escW, escP, Pc.esc, demE, wipeE, ixV, asSeq, bindV, bindT, bindTs, biV, setP, ownAt]
    · simp only [q, decide_false] at e
      simp [e, q, getV, to, op2V, ltV, leV, gtV, geV, subV, esc, escs, escV, escI, escW, escP, Pc.esc, demE, wipeE, ixV, asSeq, bindV, bindT, bindTs, biV, setP, ownAt]
  · rw [List.nil_append]
    simp [getV, to, op2V, ltV, leV, gtV, geV, subV, esc, escs, escV, escI, escW, escP, Pc.esc, demE, wipeE, ixV, asSeq, bindV, bindT, bindTs, biV, setP, ownAt]
    exact hQ
theorem f_29 {x y : Rat} {k l : Nat} (hx : Sz k x) (hy : Sz l y) (h : k + l ≤ 9000) (w : Wd) : run 29 [.d (rq x), .d (rq y)] w = .ok (.d (rq (gr x y))) w := by
  refine wp_det fun Q hQ => ?_
  refine wp_at (d := d_29) rfl rfl ?_
  have e := f_28 hx hy h w
  unfold gr at hQ
  by_cases q : x < y
  · simp only [q, decide_true] at e
    rw [if_pos q] at hQ
    simp [d_29, b_29, e, getV, to, op2V, ltV, leV, gtV, geV, subV, esc, escs, escV, escI, escW, escP, Pc.esc, demE, wipeE, ixV, asSeq, bindV, bindT, bindTs, biV, setP, ownAt]
    exact hQ
  · simp only [q, decide_false] at e
    rw [if_neg q] at hQ
    simp [d_29, b_29, e, getV, to, op2V, ltV, leV, gtV, geV, subV, esc, escs, escV, escI, escW, escP, Pc.esc, demE, wipeE, ixV, asSeq, bindV, bindT, bindTs, biV, setP, ownAt]
    exact hQ
theorem filter_hit (part : List Int) (U : List Nat) : ((toI U).filter fun i => decide (i ∈ part)).length = (hit part U).length := by
  unfold toI hit
  rw [List.filter_map, List.length_map]
  rfl
theorem shr_nb {p c : List Rat} {part : List Int} (hl : p.length ≤ 5) : Nb 3 (shr p c part) := by
  unfold shr
  split
  · exact ⟨by decide, by decide, Sz.zero (by decide)⟩
  next h =>
    have h1 := hit_mis part (tldB p c true)
    have h2 : (tldB p c true).length ≤ 5 := by
      have := tld_len p c true
      simp [toI] at this
      omega
    have h3 := List.length_pos_iff.mpr h
    exact dv_nb (by omega) (by omega) (by omega) (by omega)
theorem f_16 {p c : List Rat} {part : List Int} (h : ∀ x ∈ p, Nm x) (hc : ∀ x ∈ c, Nm x) (hl : p.length ≤ 5) (w : Wd) : run 16 [.d (cq p), .d (cq c), .d (li part)] w = .ok (.d (rq (shr p c part))) w := by
  refine wp_det fun Q hQ => ?_
  refine wp_at (d := d_16) rfl rfl ?_
  have e15 := f_15 h hc (by omega) w
  have e14 : run 14 [.d (cq p), .d (.int (manyU p c : Nat))] w = .ok (.d (li (toI (tldB p c true)))) w := by
    rw [f_14 h (by omega) (manyU_le p c), lin_li]
    rfl
  have hs : Sz 1 (0 : Rat) := Sz.zero (by decide)
  have hUl : (tldB p c true).length ≤ 5 := by
    have := tld_len p c true
    simp [toI] at this
    omega
  have fh := filter_hit part (tldB p c true)
  unfold shr at hQ
  generalize tldB p c true = U at *
  have hne : neV (li (toI U)) (.tuple []) = some (.bool (!decide (toI U = []))) := (li_eq (toI U) []).2
  have hte : toI U = [] ↔ U = [] := by simp [toI]
  simp [d_16, b_16, getV, to, op2V, ltV, leV, gtV, geV, subV, esc, escs, escV, escI, escW, escP, Pc.esc, demE, wipeE, ixV, asSeq, bindV, bindT, bindTs, biV, setP, ownAt]
  rw [e15]
  simp [getV, to, op2V, ltV, leV, gtV, geV, subV, esc, escs, escV, escI, escW, escP, Pc.esc, demE, wipeE, ixV, asSeq, bindV, bindT, bindTs, biV, setP, ownAt]
  rw [e14]
  by_cases q : U = []
  · rw [if_pos q] at hQ
    have q2 := hte.mpr q
    simp only [q2, decide_true] at hne ⊢
    simp [hne, gl, getV, to, op2V, ltV, leV, gtV, geV, subV, esc, escs, escV, escI, escW, escP, Pc.esc, demE, wipeE, ixV, asSeq, bindV, bindT, bindTs, biV, setP, ownAt]
    exact hQ
  · rw [if_neg q] at hQ
    have q2 : ¬ toI U = [] := fun z => q (hte.mp z)
    simp only [q2, decide_false] at hne
    have e5 := f_5 (n := (hit part U).length) (m := U.length) (by have := List.length_pos_iff.mpr q; omega) (Nat.lt_of_lt_of_le (show (U.length : Int).natAbs < 2 ^ 5 by omega) (Nat.pow_le_pow_right (by decide) (by decide))) w
    have tl : (toI U).length = U.length := by simp [toI]
    generalize toI U = V at *
    simp [hne, getV, to, op2V, ltV, leV, gtV, geV, subV, esc, escs, escV, escI, escW, escP, Pc.esc, demE, wipeE, ixV, asSeq, bindV, bindT, bindTs, biV, setP, ownAt]
    refine wp_gathF .int .int (fun i => decide (i ∈ part)) ?_ (by simp [sizeLine]; omega) ?_
    · intro i _
      have := (in_int i part).1
      by_cases z : i ∈ part
      · simp only [z, decide_true] at this
        simp [this, z, getV, to, op2V, ltV, leV, gtV, geV, subV, esc, escs, escV, escI, escW, escP, Pc.esc, demE, wipeE, ixV, asSeq, bindV, bindT, bindTs, biV, setP, ownAt]
      · simp only [z, decide_false] at this
        simp [this, z, getV, to, op2V, ltV, leV, gtV, geV, subV, esc, escs, escV, escI, escW, escP, Pc.esc, demE, wipeE, ixV, asSeq, bindV, bindT, bindTs, biV, setP, ownAt]
    · rw [List.nil_append]
      simp [fh, tl, getV, to, op2V, ltV, leV, gtV, geV, subV, esc, escs, escV, escI, escW, escP, Pc.esc, demE, wipeE, ixV, asSeq, bindV, bindT, bindTs, biV, setP, ownAt]
      rw [e5]
      simp
      exact hQ
theorem f_42 {p c : List Rat} {part : List Int} (h : ∀ x ∈ p, Nm x) (hc : ∀ x ∈ c, Nm x) (hcl : c.length = p.length) (hup : c.Pairwise (· ≤ ·)) (hl : p.length ≤ 5) (w : Wd) : run 42 [.d (cq p), .d (cq c), .d (li part)] w = .ok (.d (rq (shr p c part))) w := by
  refine wp_det fun Q hQ => ?_
  refine wp_at (d := d_42) rfl rfl ?_
  have e41 : run 41 [.d (cq p), .d (cq c), .d (.bool true)] w = .ok (.d (li (toI (tldB p c true)))) w := by
    rw [f_41 h hc (by omega) hcl, stp_eq hcl hup]
  have hs : Sz 1 (0 : Rat) := Sz.zero (by decide)
  have hUl : (tldB p c true).length ≤ 5 := by
    have := tld_len p c true
    simp [toI] at this
    omega
  have fh := filter_hit part (tldB p c true)
  unfold shr at hQ
  generalize tldB p c true = U at *
  have hne : neV (li (toI U)) (.tuple []) = some (.bool (!decide (toI U = []))) := (li_eq (toI U) []).2
  have hte : toI U = [] ↔ U = [] := by simp [toI]
  simp [d_42, b_42, getV, to, op2V, ltV, leV, gtV, geV, subV, esc, escs, escV, escI, escW, escP, Pc.esc, demE, wipeE, ixV, asSeq, bindV, bindT, bindTs, biV, setP, ownAt]
  rw [e41]
  by_cases q : U = []
  · rw [if_pos q] at hQ
    have q2 := hte.mpr q
    simp only [q2, decide_true] at hne ⊢
    simp [hne, getV, to, op2V, ltV, leV, gtV, geV, subV, esc, escs, escV, escI, escW, escP, Pc.esc, demE, wipeE, ixV, asSeq, bindV, bindT, bindTs, biV, setP, ownAt]
    exact hQ
  · rw [if_neg q] at hQ
    have q2 : ¬ toI U = [] := fun z => q (hte.mp z)
    simp only [q2, decide_false] at hne
    have e5 : run 24 [.d (.int (hit part U).length), .d (.int U.length)] w = .ok (.d (rq (dv (hit part U).length U.length))) w := f_24 (n := (hit part U).length) (m := U.length) (by have := List.length_pos_iff.mpr q; omega) (Nat.lt_of_lt_of_le (show (U.length : Int).natAbs < 2 ^ 5 by omega) (Nat.pow_le_pow_right (by decide) (by decide))) w
    have tl : (toI U).length = U.length := by simp [toI]
    generalize toI U = V at *
    simp [hne, getV, to, op2V, ltV, leV, gtV, geV, subV, esc, escs, escV, escI, escW, escP, Pc.esc, demE, wipeE, ixV, asSeq, bindV, bindT, bindTs, biV, setP, ownAt]
    refine wp_gathF .int .int (fun i => decide (i ∈ part)) ?_ (by simp [sizeLine]; omega) ?_
    · intro i _
      have := (in_int i part).1
      by_cases z : i ∈ part
      · simp only [z, decide_true] at this
        simp [this, z, getV, to, op2V, ltV, leV, gtV, geV, subV, esc, escs, escV, escI, escW, escP, Pc.esc, demE, wipeE, ixV, asSeq, bindV, bindT, bindTs, biV, setP, ownAt]
      · simp only [z, decide_false] at this
        simp [this, z, getV, to, op2V, ltV, leV, gtV, geV, subV, esc, escs, escV, escI, escW, escP, Pc.esc, demE, wipeE, ixV, asSeq, bindV, bindT, bindTs, biV, setP, ownAt]
    · rw [List.nil_append]
      simp [fh, tl, getV, to, op2V, ltV, leV, gtV, geV, subV, esc, escs, escV, escI, escW, escP, Pc.esc, demE, wipeE, ixV, asSeq, bindV, bindT, bindTs, biV, setP, ownAt]
      rw [e5]
      simp
      exact hQ
theorem f_19 {p c : List Rat} {part : List Int} (h : Nms p) (hc : Lims c) (hl : c.length = p.length) (hp : Lot p.length part) (w : Wd) : run 19 [.d (cq p), .d (cq c), .d (li part)] w = .ok (.d (rq (shr p c part))) w := by
  refine wp_det fun Q hQ => ?_
  refine wp_at (d := d_19) rfl rfl ?_
  have e1 := f_18 h w
  have e2 := f_8 hc w
  rw [hl] at e2
  have e3 := f_10 hp w
  have e4 := f_16 (part := part) h.n hc.n h.l.2 w
  simp [d_19, b_19, getV, to, op2V, ltV, leV, gtV, geV, subV, esc, escs, escV, escI, escW, escP, Pc.esc, demE, wipeE, ixV, asSeq, bindV, bindT, bindTs, biV, setP, ownAt]
  rw [e1]
  simp [getV, to, op2V, ltV, leV, gtV, geV, subV, esc, escs, escV, escI, escW, escP, Pc.esc, demE, wipeE, ixV, asSeq, bindV, bindT, bindTs, biV, setP, ownAt]
  rw [e2]
  simp [e3, getV, to, op2V, ltV, leV, gtV, geV, subV, esc, escs, escV, escI, escW, escP, Pc.esc, demE, wipeE, ixV, asSeq, bindV, bindT, bindTs, biV, setP, ownAt]
  rw [e4]
  simp
  exact hQ
end Lk41
end
section
namespace Lk41
open PySem R
abbrev en (n : Nat) (e : Wo) : PyData := .tuple [edg n e.1 e.2.1, rq e.2.2]
def entS (c : List Rat) (b : Nat) (S : List Int) : Wo := (S, nth c (S.length + b - 1), dv S.length (S.length + b : Nat))
def preW (c : List Rat) (part : List Int) (d : List Nat) : List Wo := d.flatMap fun b => (sets part).map (entS c b)
theorem worL_pre (c : List Rat) (part : List Int) : worL c part = preW c part (List.range (c.length - part.length + 1)) := rfl
theorem preW_snoc (c : List Rat) (part : List Int) (d : List Nat) (b : Nat) : preW c part (d ++ [b]) = preW c part d ++ (sets part).map (entS c b) := by simp [preW, List.flatMap_append]
theorem noDup_of : ∀ {S : List Int}, S.Pairwise (· < ·) → noDup S = true
  | [], _ => rfl
  | x :: r, h => by
    obtain ⟨h1, h2⟩ := List.pairwise_cons.mp h
    have : x ∉ r := fun z => by have := h1 x z; omega
    simp [noDup, noDup_of h2, this]
/-- lots of the law -/
structure PtL (n : Nat) (part : List Int) : Prop where
  k : 1 ≤ n ∧ n ≤ 5
  m : part ∈ setsN n
theorem PtL.five {n : Nat} {part : List Int} (h : PtL n part) : part ∈ setsN 5 := setsN_5 n (sets_at h.k) part h.m
theorem PtL.lot {n : Nat} {part : List Int} (h : PtL n part) : Lot n part := sets_lot h.k h.m
theorem PtL.pt {n : Nat} {part : List Int} (h : PtL n part) : Pt n part := ⟨lot_asc h.lot.up, fun i hi => by have := h.lot.b i hi; omega⟩
theorem PtL.len {n : Nat} {part : List Int} (h : PtL n part) : 1 ≤ part.length ∧ part.length ≤ n := by
  have h1 := oth_len h.pt
  exact ⟨List.length_pos_iff.mpr h.lot.ne, by omega⟩
theorem wor_len : ∀ n ∈ [1, 2, 3, 4, 5], ∀ part ∈ setsN n, (n - part.length + 1) * (sets part).length ≤ 31 := by decide +kernel
theorem sum_const {α : Type} (k : Nat) : ∀ l : List α, (l.map fun _ => k).sum = l.length * k
  | [] => by simp
  | x :: r => by
    rw [List.map_cons, List.sum_cons, sum_const k r, List.length_cons, Nat.add_mul]
    omega
theorem preW_len (c : List Rat) (part : List Int) (d : List Nat) : (preW c part d).length = d.length * (sets part).length := by
  unfold preW
  rw [List.length_flatMap]
  simp only [List.length_map]
  exact sum_const _ d
theorem worL_len {c : List Rat} {part : List Int} (h : PtL c.length part) : (worL c part).length ≤ 31 := by
  rw [worL_pre, preW_len, List.length_range]
  exact wor_len _ (sets_at h.k) part h.m
theorem at_lim {c : List Rat} {S : List Int} {b : Nat} (h1 : 1 ≤ S.length) (h2 : S.length + b ≤ c.length) : at? (c.map rq) ((S.length : Int) + (b : Int) - 1) = some (rq (nth c (S.length + b - 1))) := by
  have e : (S.length : Int) + (b : Int) - 1 = ((S.length + b - 1 : Nat) : Int) := by omega
  rw [e]
  exact at_rq (by omega)
theorem f_17 {c : List Rat} {part : List Int} (h : PtL c.length part) (hc : ∀ x ∈ c, Nm x) (w : Wd) : run 17 [.d (cq c), .d (li part)] w = .ok (.d (.tuple ((worL c part).map (en c.length)))) w := by
  refine wp_det fun Q hQ => ?_
  refine wp_at (d := d_17) rfl rfl ?_
  obtain ⟨hp1, hp2⟩ := h.len
  have h5 := h.k.2
  have hw := worL_len h
  obtain ⟨M, hM⟩ : ∃ M, M = c.length - part.length + 1 := ⟨_, rfl⟩
  have ha0 : addV (.int ((c.length : Int) - (part.length : Int))) (.int 1) = some (.int (M : Int)) := by
    have : (c.length : Int) - (part.length : Int) + 1 = (M : Int) := by omega
    simp [addV, this]
  rw [worL_pre, ← hM] at hQ hw
  simp [d_17, b_17, ha0, small_nat (show M ≤ 1000000 by omega), getV, to, op2V, ltV, leV, gtV, geV, subV, esc, escs, escV, escI, escW, escP, Pc.esc, demE, wipeE, ixV, asSeq, bindV, bindT, bindTs, biV, setP, ownAt]
  refine wp_forP (fun k : Nat => PyData.int k) (fun done env v => ∃ (s2 s5 s6 s7 : Slot), env = [.val (.d (cq c)), .val (.d (li part)), s2, .val (.d (.int c.length)), .own ((preW c part done).map (en c.length)), s5, s6, s7, .non] ∧ v = w) [] ⟨.non, .non, .non, .non, by simp [preW], rfl⟩ ?_ ?_
  · rintro d x r hd env v ⟨s2, s5, s6, s7, rfl, rfl⟩ Q hQ
    obtain ⟨rfl, hx⟩ := range_split (by simpa using hd)
    generalize hb : d.length = b at *
    simp [forT, f_11 part h.five, getV, to, op2V, ltV, leV, gtV, geV, subV, esc, escs, escV, escI, escW, escP, Pc.esc, demE, wipeE, ixV, asSeq, bindV, bindT, bindTs, biV, setP, ownAt]
    refine wp_forP li (fun done' env v' => ∃ (s5 s6 s7 : Slot), env = [.val (.d (cq c)), .val (.d (li part)), .val (.d (.int b)), .val (.d (.int c.length)), .own ((preW c part d ++ done'.map (entS c b)).map (en c.length)), s5, s6, s7, .non] ∧ v' = v) [] ⟨s5, s6, s7, by simp, rfl⟩ ?_ ?_
    · rintro d' S r' hd' env v' ⟨s5, s6, s7, rfl, rfl⟩ Q hQ
      have hSm : S ∈ sets part := by
        have e : sets part = d' ++ S :: r' := by simpa using hd'
        rw [e]
        simp
      obtain ⟨hS0, hSs⟩ := mem_sets.mp hSm
      have hS1 := List.length_pos_iff.mpr hS0
      have hS2 := hSs.length_le
      have ha := at_lim (c := c) (S := S) (b := b) hS1 (by omega)
      have e5 := f_5 (n := S.length) (m := (S.length : Int) + (b : Int)) (by omega) (Nat.lt_of_lt_of_le (show ((S.length : Int) + (b : Int)).natAbs < 2 ^ 5 by omega) (Nat.pow_le_pow_right (by decide) (by decide))) v'
      have nd := noDup_of (h.pt.asc.sublist hSs)
      have hdc : dcvV (li S) (rq (nth c (S.length + b - 1))) = some (.dict (S.map fun n => (.int n, rq (nth c (S.length + b - 1))))) := by
        have hl : S.length ≤ 1000 := by omega
        simp [dcvV, asInts_int, nd, hl]
      have e12 := f_12 (m := c.length) (S := S) (x := nth c (S.length + b - 1)) (by omega) v'
      have hlen : (preW c part d ++ d'.map (entS c b)).length < sizeLine := by
        have l1 := preW_len c part d
        have l2 : d'.length ≤ (sets part).length := by
          have e : sets part = d' ++ S :: r' := by simpa using hd'
          rw [e]
          simp
        have l3 : d.length * (sets part).length ≤ (c.length - part.length + 1) * (sets part).length := Nat.mul_le_mul_right _ (by omega)
        have l4 := wor_len _ (sets_at h.k) part h.m
        have l5 := sets_small (l := part) (by omega)
        rw [List.length_append, List.length_map, l1]
        simp [sizeLine]
        omega
      have hx7 : entS c b S = (S, nth c (S.length + b - 1), dv S.length ((S.length : Int) + (b : Int))) := by
        simp [entS]
      have fin := hQ [.val (.d (cq c)), .val (.d (li part)), .val (.d (.int b)), .val (.d (.int c.length)), .own ((preW c part d ++ (d' ++ [S]).map (entS c b)).map (en c.length)), .val (.d (li S)), .val (.d (rq (nth c (S.length + b - 1)))), .val (.d (rq (dv S.length ((S.length : Int) + (b : Int))))), .non] v' ⟨_, _, _, rfl, rfl⟩
      rw [List.map_append (f := entS c b), List.map_cons, List.map_nil, ← List.append_assoc, List.map_append (f := en c.length), List.map_cons, List.map_nil, hx7] at fin
      generalize (preW c part d ++ d'.map (entS c b)) = L at hlen fin
      generalize nth c (S.length + b - 1) = lim at ha hdc e12 fin
      simp [forT, addV, ha, getV, to, op2V, ltV, leV, gtV, geV, subV, esc, escs, escV, escI, escW, escP, Pc.esc, demE, wipeE, ixV, asSeq, bindV, bindT, bindTs, biV, setP, ownAt]
      rw [e5]
      generalize dv (S.length : Int) ((S.length : Int) + (b : Int)) = wo at fin
      simp [hdc, e12, hlen, mutV, getV, to, op2V, ltV, leV, gtV, geV, subV, esc, escs, escV, escI, escW, escP, Pc.esc, demE, wipeE, ixV, asSeq, bindV, bindT, bindTs, biV, setP, ownAt]
      exact fin
    · rintro env v' ⟨s5, s6, s7, rfl, rfl⟩
      rw [List.nil_append]
      have fin := hQ _ _ ⟨.val (.d (.int b)), s5, s6, s7, by rw [preW_snoc], rfl⟩
      simpa using fin
  · rintro env v ⟨s2, s5, s6, s7, rfl, rfl⟩
    simp [getV, to, op2V, ltV, leV, gtV, geV, subV, esc, escs, escV, escI, escW, escP, Pc.esc, demE, wipeE, ixV, asSeq, bindV, bindT, bindTs, biV, setP, ownAt]
    simpa using hQ
theorem f_43 {c : List Rat} {part : List Int} (h : PtL c.length part) (hc : ∀ x ∈ c, Nm x) (w : Wd) : run 43 [.d (cq c), .d (li part)] w = .ok (.d (.tuple ((worL c part).map (en c.length)))) w := by
  refine wp_det fun Q hQ => ?_
  refine wp_at (d := d_43) rfl rfl ?_
  obtain ⟨hp1, hp2⟩ := h.len
  have h5 := h.k.2
  have hw := worL_len h
  obtain ⟨M, hM⟩ : ∃ M, M = c.length - part.length + 1 := ⟨_, rfl⟩
  have ha0 : addV (.int ((c.length : Int) - (part.length : Int))) (.int 1) = some (.int (M : Int)) := by
    have : (c.length : Int) - (part.length : Int) + 1 = (M : Int) := by omega
    simp [addV, this]
  rw [worL_pre, ← hM] at hQ hw
  simp [d_43, b_43, ha0, small_nat (show M ≤ 1000000 by omega), getV, to, op2V, ltV, leV, gtV, geV, subV, esc, escs, escV, escI, escW, escP, Pc.esc, demE, wipeE, ixV, asSeq, bindV, bindT, bindTs, biV, setP, ownAt]
  refine wp_forP (fun k : Nat => PyData.int k) (fun done env v => ∃ (s2 s5 s6 : Slot), env = [.val (.d (cq c)), .val (.d (li part)), s2, .val (.d (.int c.length)), .own ((preW c part done).map (en c.length)), s5, s6] ∧ v = w) [] ⟨.non, .non, .non, by simp [preW], rfl⟩ ?_ ?_
  · rintro d x r hd env v ⟨s2, s5, s6, rfl, rfl⟩ Q hQ
    obtain ⟨rfl, hx⟩ := range_split (by simpa using hd)
    generalize hb : d.length = b at *
    simp [forT, f_30 part h.five, getV, to, op2V, ltV, leV, gtV, geV, subV, esc, escs, escV, escI, escW, escP, Pc.esc, demE, wipeE, ixV, asSeq, bindV, bindT, bindTs, biV, setP, ownAt]
    refine wp_forP li (fun done' env v' => ∃ (s5 s6 : Slot), env = [.val (.d (cq c)), .val (.d (li part)), .val (.d (.int b)), .val (.d (.int c.length)), .own ((preW c part d ++ done'.map (entS c b)).map (en c.length)), s5, s6] ∧ v' = v) [] ⟨s5, s6, by simp, rfl⟩ ?_ ?_
    · rintro d' S r' hd' env v' ⟨s5, s6, rfl, rfl⟩ Q hQ
      have hSm : S ∈ sets part := by
        have e : sets part = d' ++ S :: r' := by simpa using hd'
        rw [e]
        simp
      obtain ⟨hS0, hSs⟩ := mem_sets.mp hSm
      have hS1 := List.length_pos_iff.mpr hS0
      have hS2 := hSs.length_le
      have ha := at_lim (c := c) (S := S) (b := b) hS1 (by omega)
      have e5 : run 24 [.d (.int S.length), .d (.int ((S.length : Int) + (b : Int)))] v' = .ok (.d (rq (dv S.length ((S.length : Int) + (b : Int))))) v' := f_24 (n := S.length) (m := (S.length : Int) + (b : Int)) (by omega) (Nat.lt_of_lt_of_le (show ((S.length : Int) + (b : Int)).natAbs < 2 ^ 5 by omega) (Nat.pow_le_pow_right (by decide) (by decide))) v'
      have e12 := f_37 (m := c.length) (S := S) (x := nth c (S.length + b - 1)) (by omega) v'
      have hlen : (preW c part d ++ d'.map (entS c b)).length < sizeLine := by
        have l1 := preW_len c part d
        have l2 : d'.length ≤ (sets part).length := by
          have e : sets part = d' ++ S :: r' := by simpa using hd'
          rw [e]
          simp
        have l3 : d.length * (sets part).length ≤ (c.length - part.length + 1) * (sets part).length := Nat.mul_le_mul_right _ (by omega)
        have l4 := wor_len _ (sets_at h.k) part h.m
        have l5 := sets_small (l := part) (by omega)
        rw [List.length_append, List.length_map, l1]
        simp [sizeLine]
        omega
      have hx7 : entS c b S = (S, nth c (S.length + b - 1), dv S.length ((S.length : Int) + (b : Int))) := by
        simp [entS]
      have fin := hQ [.val (.d (cq c)), .val (.d (li part)), .val (.d (.int b)), .val (.d (.int c.length)), .own ((preW c part d ++ (d' ++ [S]).map (entS c b)).map (en c.length)), .val (.d (li S)), .val (.d (.int S.length))] v' ⟨_, _, rfl, rfl⟩
      rw [List.map_append (f := entS c b), List.map_cons, List.map_nil, ← List.append_assoc, List.map_append (f := en c.length), List.map_cons, List.map_nil, hx7] at fin
      generalize (preW c part d ++ d'.map (entS c b)) = L at hlen fin
      generalize nth c (S.length + b - 1) = lim at ha e12 fin
      simp [forT, addV, ha, e12, getV, to, op2V, ltV, leV, gtV, geV, subV, esc, escs, escV, escI, escW, escP, Pc.esc, demE, wipeE, ixV, asSeq, bindV, bindT, bindTs, biV, setP, ownAt]
      rw [e5]
      generalize dv (S.length : Int) ((S.length : Int) + (b : Int)) = wo at fin
      simp [hlen, mutV, getV, to, op2V, ltV, leV, gtV, geV, subV, esc, escs, escV, escI, escW, escP, Pc.esc, demE, wipeE, ixV, asSeq, bindV, bindT, bindTs, biV, setP, ownAt]
      exact fin
    · rintro env v' ⟨s5, s6, rfl, rfl⟩
      rw [List.nil_append]
      have fin := hQ _ _ ⟨.val (.d (.int b)), s5, s6, by rw [preW_snoc], rfl⟩
      simpa using fin
  · rintro env v ⟨s2, s5, s6, rfl, rfl⟩
    simp [getV, to, op2V, ltV, leV, gtV, geV, subV, esc, escs, escV, escI, escW, escP, Pc.esc, demE, wipeE, ixV, asSeq, bindV, bindT, bindTs, biV, setP, ownAt]
    simpa using hQ
theorem f_20 {c : List Rat} {part : List Int} (h : PtL c.length part) (hc : Lims c) (w : Wd) : run 20 [.d (cq c), .d (li part)] w = .ok (.d (.tuple ((worL c part).map (en c.length)))) w := by
  refine wp_det fun Q hQ => ?_
  refine wp_at (d := d_20) rfl rfl ?_
  have e1 := f_8n hc w
  have e2 := f_10 h.lot w
  have e3 := f_17 h hc.n w
  simp [d_20, b_20, getV, to, op2V, ltV, leV, gtV, geV, subV, esc, escs, escV, escI, escW, escP, Pc.esc, demE, wipeE, ixV, asSeq, bindV, bindT, bindTs, biV, setP, ownAt]
  rw [e1]
  simp [e2, getV, to, op2V, ltV, leV, gtV, geV, subV, esc, escs, escV, escI, escW, escP, Pc.esc, demE, wipeE, ixV, asSeq, bindV, bindT, bindTs, biV, setP, ownAt]
  rw [e3]
  simp
  exact hQ
theorem f_38 {p : List Rat} {S : List Int} {x : Rat} (h : ∀ y ∈ p, Nm y) (hl : p.length ≤ 1000) (hx : Sz 150 x) (w : Wd) : run 38 [.d (cq p), .d (edg p.length S x)] w = .ok (.d (.bool (isIn p S x))) w := by
  refine wp_det fun Q hQ => ?_
  refine wp_at (d := d_38) rfl rfl ?_
  have ez : List.zipWith (fun x y => PyData.tuple [x, y]) (p.map rq) ((List.range p.length).map fun (k : Nat) => if (k : Int) ∈ S then rq x else .none) = (List.range p.length).map fun k => .tuple [rq (nth p k), if (k : Int) ∈ S then rq x else .none] := by
    apply List.ext_getElem
    · simp
    · intro i h1 h2
      simp at h2
      simp [nth, h2]
  simp [d_38, b_38, getV, to, op2V, ltV, leV, gtV, geV, subV, esc, escs, escV, escI, escW, escP, Pc.esc, demE, wipeE, ixV, asSeq, bindV, bindT, bindTs, biV, setP, ownAt]
  simp at ez
  rw [ez]
  refine wp_forB (fun k : Nat => PyData.tuple [rq (nth p k), if (k : Int) ∈ S then rq x else .none]) (fun k => decide ((k : Int) ∈ S) && decide (x < nth p k)) (.d (.bool false)) (fun env v => ∃ s2 s3 : Slot, env = [.val (.d (cq p)), .val (.d (edg p.length S x)), s2, s3] ∧ v = w) ⟨.non, .non, rfl, rfl⟩ ?_ ?_ ?_
  · rintro k hk env v ⟨s2, s3, rfl, rfl⟩ Q h1 h2
    have hk := List.mem_range.mp hk
    have e := f_28 hx (h _ (getD_mem hk)).s (by decide) v
    by_cases q : (k : Int) ∈ S
    · by_cases z : x < nth p k
      · simp only [z, decide_true] at e
        simp [q, z] at h1
        simp [forT, q, e, getV, to, op2V, ltV, leV, gtV, geV, subV, esc, escs, escV, escI, escW, escP, Pc.esc, demE, wipeE, ixV, asSeq, bindV, bindT, bindTs, biV, setP, ownAt]
        exact h1
      · simp only [z, decide_false] at e
        simp [q, z] at h2
        simp [forT, q, e, getV, to, op2V, ltV, leV, gtV, geV, subV, esc, escs, escV, escI, escW, escP, Pc.esc, demE, wipeE, ixV, asSeq, bindV, bindT, bindTs, biV, setP, ownAt]
        exact h2 _ _ _ _ rfl rfl
    · simp [q] at h2
      simp [forT, q, getV, to, op2V, ltV, leV, gtV, geV, subV, esc, escs, escV, escI, escW, escP, Pc.esc, demE, wipeE, ixV, asSeq, bindV, bindT, bindTs, biV, setP, ownAt]
      exact h2 _ _ _ _ rfl rfl
  · rintro env v ⟨s2, s3, rfl, rfl⟩ ha
    have : isIn p S x = false := by
      rw [Bool.eq_false_iff]
      intro z
      obtain ⟨k, hk, hc⟩ := List.any_eq_true.mp ha
      simp only [Bool.and_eq_true, decide_eq_true_eq] at hc
      have := isIn_iff.mp z k (List.mem_range.mp hk) hc.1
      grind
    rw [this] at hQ
    simp [getV, to, op2V, ltV, leV, gtV, geV, subV, esc, escs, escV, escI, escW, escP, Pc.esc, demE, wipeE, ixV, asSeq, bindV, bindT, bindTs, biV, setP, ownAt]
    exact hQ
  · rintro env v ⟨s2, s3, rfl, rfl⟩ ha
    have : isIn p S x = true := isIn_iff.mpr fun k hk hs => by
      have := List.any_eq_false.mp ha k (List.mem_range.mpr hk)
      simp only [hs, decide_true, Bool.true_and, decide_eq_true_eq] at this
      exact Rat.not_lt.mp this
    rw [this] at hQ
    simp [getV, to, op2V, ltV, leV, gtV, geV, subV, esc, escs, escV, escI, escW, escP, Pc.esc, demE, wipeE, ixV, asSeq, bindV, bindT, bindTs, biV, setP, ownAt]
    exact hQ
/-- worths whose numbers are small -/
structure WoOk (e : Wo) : Prop where
  x : Sz 150 e.2.1
  y : Nb 10 e.2.2
theorem worAt_nb {p : List Rat} : ∀ {l : List Wo} {m : Rat}, Nb 10 m → (∀ e ∈ l, WoOk e) → Nb 10 (worAt p l m)
  | [], m, h, _ => h
  | e :: r, m, h, hs => by
    refine worAt_nb (l := r) (m := worStep p m e) ?_ fun d hd => hs d (List.mem_cons_of_mem _ hd)
    unfold worStep gr
    have := (hs e (List.mem_cons_self ..)).y
    split
    · split
      · exact this
      · exact h
    · exact h
theorem worAt_app (p : List Rat) (a b : List Wo) (m : Rat) : worAt p (a ++ b) m = worAt p b (worAt p a m) := by simp [worAt, List.foldl_append]
theorem nb0 {k : Nat} (hk : 1 ≤ k) : Nb k 0 := ⟨by decide, by decide, Sz.zero hk⟩
theorem f_44 {p : List Rat} {l : List Wo} (h : ∀ y ∈ p, Nm y) (hl : p.length ≤ 1000) (hw : ∀ e ∈ l, WoOk e) (w : Wd) : run 44 [.d (.tuple (l.map (en p.length))), .d (cq p)] w = .ok (.d (rq (worAt p l 0))) w := by
  refine wp_det fun Q hQ => ?_
  refine wp_at (d := d_44) rfl rfl ?_
  simp [d_44, b_44, getV, to, op2V, ltV, leV, gtV, geV, subV, esc, escs, escV, escI, escW, escP, Pc.esc, demE, wipeE, ixV, asSeq, bindV, bindT, bindTs, biV, setP, ownAt]
  refine wp_forP (en p.length) (fun done env v => ∃ s3 s4 : Slot, env = [.val (.d (.tuple (l.map (en p.length)))), .val (.d (cq p)), .val (.d (rq (worAt p done 0))), s3, s4] ∧ v = w) [] ⟨.non, .non, rfl, rfl⟩ ?_ ?_
  · rintro d e r hd env v ⟨s3, s4, rfl, rfl⟩ Q hQ
    have hd2 : l = d ++ e :: r := by simpa using hd
    have he := hw e (by rw [hd2]; simp)
    have hm := worAt_nb (p := p) (l := d) (m := 0) (nb0 (by decide)) fun x hx => hw x (by rw [hd2]; simp [hx])
    have e38 := f_38 (S := e.1) h hl he.x v
    have e29 := f_29 hm.s he.y.s (by decide) v
    have fin := hQ [.val (.d (.tuple (l.map (en p.length)))), .val (.d (cq p)), .val (.d (rq (worAt p (d ++ [e]) 0))), .val (.d (edg p.length e.1 e.2.1)), .val (.d (rq e.2.2))] v ⟨_, _, rfl, rfl⟩
    rw [worAt_app] at fin
    generalize worAt p d 0 = m at *
    have e1 : worAt p [e] m = if isIn p e.1 e.2.1 then gr m e.2.2 else m := rfl
    rw [e1] at fin
    by_cases q : isIn p e.1 e.2.1 = true
    · rw [if_pos q] at fin
      rw [q] at e38
      simp [forT, getV, to, op2V, ltV, leV, gtV, geV, subV, esc, escs, escV, escI, escW, escP, Pc.esc, demE, wipeE, ixV, asSeq, bindV, bindT, bindTs, biV, setP, ownAt]
      rw [e38]
      simp [e29, getV, to, op2V, ltV, leV, gtV, geV, subV, esc, escs, escV, escI, escW, escP, Pc.esc, demE, wipeE, ixV, asSeq, bindV, bindT, bindTs, biV, setP, ownAt]
      exact fin
    · have q : isIn p e.1 e.2.1 = false := by simpa using q
      rw [q] at e38 fin
      simp [forT, getV, to, op2V, ltV, leV, gtV, geV, subV, esc, escs, escV, escI, escW, escP, Pc.esc, demE, wipeE, ixV, asSeq, bindV, bindT, bindTs, biV, setP, ownAt]
      rw [e38]
      simp [getV, to, op2V, ltV, leV, gtV, geV, subV, esc, escs, escV, escI, escW, escP, Pc.esc, demE, wipeE, ixV, asSeq, bindV, bindT, bindTs, biV, setP, ownAt]
      exact fin
  · rintro env v ⟨s3, s4, rfl, rfl⟩
    simp [getV, to, op2V, ltV, leV, gtV, geV, subV, esc, escs, escV, escI, escW, escP, Pc.esc, demE, wipeE, ixV, asSeq, bindV, bindT, bindTs, biV, setP, ownAt]
    simpa using hQ
end Lk41
end
section
namespace Lk41
open PySem R
theorem row_set {r : List Rat} {k : Nat} (v : Rat) (hk : k < r.length) (hl : r.length ≤ 1000) : ∃ a d b : PyData, slV (cq r) none (some (k : Int)) = some a ∧ addV a (.tuple [rq v]) = some d ∧ slV (cq r) (some ((k : Int) + 1)) none = some b ∧ addV d b = some (cq (r.set k v)) := by
  have f1 : fits ((r.take k).map rq).length = true := by simp [fits, sizeLine]; omega
  refine ⟨cq (r.take k), cq (r.take k ++ [v]), cq (r.drop (k + 1)), ?_, ?_, ?_, ?_⟩
  · show some (PyData.tuple (cut (r.map rq) none (some (k : Int)))) = _
    rw [cut_take _ _ (by simpa using Nat.le_of_lt hk)]
    simp [List.map_take]
  · have f : fits (((r.take k).map rq).length + [rq v].length) = true := by
      simp [fits, sizeLine]
      omega
    show (if fits (((r.take k).map rq).length + [rq v].length) = true then some (PyData.tuple ((r.take k).map rq ++ [rq v])) else none) = _
    rw [if_pos f]
    simp
  · show some (PyData.tuple (cut (r.map rq) (some ((k : Int) + 1)) none)) = _
    have := cut_drop (r.map rq) (k + 1) (by simp; omega)
    rw [show ((k + 1 : Nat) : Int) = (k : Int) + 1 from rfl] at this
    rw [this]
    simp [List.map_drop]
  · have f : fits (((r.take k ++ [v]).map rq).length + ((r.drop (k + 1)).map rq).length) = true := by
      simp [fits, sizeLine]
      omega
    show (if fits (((r.take k ++ [v]).map rq).length + ((r.drop (k + 1)).map rq).length) = true then some (PyData.tuple ((r.take k ++ [v]).map rq ++ (r.drop (k + 1)).map rq)) else none) = _
    have es : r.set k v = r.take k ++ v :: r.drop (k + 1) := by
      rw [List.set_eq_take_append_cons_drop, if_pos hk]
    rw [if_pos f, ← List.map_append, List.append_assoc, List.singleton_append, ← es]
theorem rows_len : ∀ (L : List Nat) (rows : List (List Rat)), (L.foldl rowStep rows).length = 2 ^ L.length * rows.length
  | [], rows => by simp
  | k :: L, rows => by
    rw [List.foldl_cons, rows_len L]
    simp [rowStep, Nat.pow_succ]
    rw [Nat.mul_assoc, Nat.two_mul]
theorem f_45 {p c : List Rat} {part : List Int} (h : Nms p) (hc : Lims c) (hcl : c.length = p.length) (hp : PtL p.length part) (w : Wd) : run 45 [.d (cq p), .d (cq c), .d (li part)] w = .ok (.d (rq (shrAt (rowsOf p part) c part 0))) w := by
  refine wp_det fun Q hQ => ?_
  refine wp_at (d := d_45) rfl rfl ?_
  have l5 := h.l.2
  have ho := oth_len hp.pt
  have hpl := hp.len
  simp [d_45, b_45, small_nat (show p.length ≤ 1000000 by omega), getV, to, op2V, ltV, leV, gtV, geV, subV, esc, escs, escV, escI, escW, escP, Pc.esc, demE, wipeE, ixV, asSeq, bindV, bindT, bindTs, biV, setP, ownAt]
  refine wp_gathF (fun k : Nat => PyData.int k) (fun k : Nat => PyData.int k) (fun k => !decide ((k : Int) ∈ part)) ?_ (by simp [sizeLine]; omega) ?_
  · intro k _
    have := (in_int k part).2
    by_cases z : (k : Int) ∈ part
    · simp only [z, decide_true] at this
      simp [this, z, getV, to, op2V, ltV, leV, gtV, geV, subV, esc, escs, escV, escI, escW, escP, Pc.esc, demE, wipeE, ixV, asSeq, bindV, bindT, bindTs, biV, setP, ownAt]
    · simp only [z, decide_false] at this
      simp [this, z, getV, to, op2V, ltV, leV, gtV, geV, subV, esc, escs, escV, escI, escW, escP, Pc.esc, demE, wipeE, ixV, asSeq, bindV, bindT, bindTs, biV, setP, ownAt]
  · rw [List.nil_append]
    have eo : ((List.range p.length).filter fun (k : Nat) => !decide ((k : Int) ∈ part)) = oth p.length part := rfl
    rw [eo]
    simp [getV, to, op2V, ltV, leV, gtV, geV, subV, esc, escs, escV, escI, escW, escP, Pc.esc, demE, wipeE, ixV, asSeq, bindV, bindT, bindTs, biV, setP, ownAt]
    refine wp_forP (fun k : Nat => PyData.int k) (fun done env v => ∃ (s3 s7 : Slot), env = [.val (.d (cq p)), .val (.d (cq c)), .val (.d (li part)), s3, .non, .val (.d (.list ((done.foldl rowStep [p]).map cq))), .val (.d (rq 0)), s7, .non] ∧ v = w) [] ⟨.non, .non, rfl, rfl⟩ ?_ ?_
    · rintro d k r hd env v ⟨s3, s7, rfl, rfl⟩ Q hQ
      have hd2 : oth p.length part = d ++ k :: r := by simpa using hd
      have hkm : k ∈ oth p.length part := by rw [hd2]; simp
      have hk : k < p.length := List.mem_range.mp (List.mem_filter.mp hkm).1
      have hok : ∀ q ∈ d.foldl rowStep [p], RowOk p part q := rows_ok d [p] (fun j hj => by
        have : j ∈ oth p.length part := by rw [hd2]; simp [hj]
        simpa using (List.mem_filter.mp this).2) fun q hq => by
          rw [List.mem_singleton.mp hq]
          exact ⟨rfl, fun _ _ _ => rfl, h.n⟩
      have hrl : (d.foldl rowStep [p]).length ≤ 32 := by
        rw [rows_len]
        have : d.length ≤ 5 := by
          have := congrArg List.length hd2
          simp at this
          omega
        have := Nat.pow_le_pow_right (show 1 ≤ 2 by decide) this
        simpa using this
      have fin := hQ [.val (.d (cq p)), .val (.d (cq c)), .val (.d (li part)), .val (.d (.int k)), .non, .val (.d (.list (((d ++ [k]).foldl rowStep [p]).map cq))), .val (.d (rq 0)), .val (.d (.list ((d.foldl rowStep [p]).map fun q => cq (q.set k 1)))), .non] v ⟨_, _, rfl, rfl⟩
      rw [List.foldl_append] at fin
      generalize d.foldl rowStep [p] = rows at *
      have hk1 : addV (.int (k : Int)) (.int 1) = some (.int ((k : Int) + 1)) := rfl
      have e0 : bound? (.int (k : Int)) = some (some (k : Int)) := rfl
      have e1 : bound? (.int ((k : Int) + 1)) = some (some ((k : Int) + 1)) := rfl
      simp [forT, getV, to, op2V, ltV, leV, gtV, geV, subV, esc, escs, escV, escI, escW, escP, Pc.esc, demE, wipeE, ixV, asSeq, bindV, bindT, bindTs, biV, setP, ownAt]
      refine wp_gathM cq (fun q => cq (q.set k 1)) ?_ (by simp [sizeLine]; omega) ?_
      · intro q hq
        have ql := (hok q hq).l
        obtain ⟨a, d', b, q1, q2, q3, q4⟩ := row_set (r := q) 1 (k := k) (by omega) (by omega)
        have q2 : addV a (.tuple [.tuple [.int 1, .int 1]]) = some d' := q2
        generalize q.set k 1 = z at q4
        simp [e0, q1, q2, hk1, e1, q3, q4, getV, to, op2V, ltV, leV, gtV, geV, subV, esc, escs, escV, escI, escW, escP, Pc.esc, demE, wipeE, ixV, asSeq, bindV, bindT, bindTs, biV, setP, ownAt]
      · rw [List.nil_append]
        simp [getV, to, op2V, ltV, leV, gtV, geV, subV, esc, escs, escV, escI, escW, escP, Pc.esc, demE, wipeE, ixV, asSeq, bindV, bindT, bindTs, biV, setP, ownAt]
        refine wp_gathM cq (fun q => cq (q.set k 0)) ?_ (by simp [sizeLine]; omega) ?_
        · intro q hq
          have ql := (hok q hq).l
          obtain ⟨a, d', b, q1, q2, q3, q4⟩ := row_set (r := q) 0 (k := k) (by omega) (by omega)
          have q2 : addV a (.tuple [.tuple [.int 0, .int 1]]) = some d' := q2
          generalize q.set k 0 = z at q4
          simp [e0, q1, q2, hk1, e1, q3, q4, getV, to, op2V, ltV, leV, gtV, geV, subV, esc, escs, escV, escI, escW, escP, Pc.esc, demE, wipeE, ixV, asSeq, bindV, bindT, bindTs, biV, setP, ownAt]
        · rw [List.nil_append]
          have f : fits ((rows.map fun q => cq (q.set k 1)).length + (rows.map fun q => cq (q.set k 0)).length) = true := by
            simp [fits, sizeLine]
            omega
          have ea : addV (.list (rows.map fun q => cq (q.set k 1))) (.list (rows.map fun q => cq (q.set k 0))) = some (.list (([k].foldl rowStep rows).map cq)) := by
            show (if fits ((rows.map fun q => cq (q.set k 1)).length + (rows.map fun q => cq (q.set k 0)).length) = true then some (PyData.list ((rows.map fun q => cq (q.set k 1)) ++ (rows.map fun q => cq (q.set k 0)))) else none) = _
            rw [if_pos f]
            simp [rowStep, Function.comp_def]
          generalize ([k].foldl rowStep rows).map cq = next at ea fin
          generalize (rows.map fun q => cq (q.set k 1)) = l1 at ea fin ⊢
          generalize (rows.map fun q => cq (q.set k 0)) = l2 at ea
          simp [ea, getV, to, op2V, ltV, leV, gtV, geV, subV, esc, escs, escV, escI, escW, escP, Pc.esc, demE, wipeE, ixV, asSeq, bindV, bindT, bindTs, biV, setP, ownAt]
          exact fin
    · rintro env v ⟨s3, s7, rfl, rfl⟩
      rw [List.nil_append]
      have er : (oth p.length part).foldl rowStep [p] = rowsOf p part := rfl
      rw [er]
      have hok := rowsOf_ok (part := part) h.n
      generalize rowsOf p part = rows at *
      simp [getV, to, op2V, ltV, leV, gtV, geV, subV, esc, escs, escV, escI, escW, escP, Pc.esc, demE, wipeE, ixV, asSeq, bindV, bindT, bindTs, biV, setP, ownAt]
      refine wp_forP cq (fun done env v' => ∃ (s4 : Slot), env = [.val (.d (cq p)), .val (.d (cq c)), .val (.d (li part)), s3, s4, .val (.d (.list (rows.map cq))), .val (.d (rq (shrAt done c part 0))), s7, .non] ∧ v' = v) [] ⟨.non, rfl, rfl⟩ ?_ ?_
      · rintro d q r hd env v' ⟨s4, rfl, rfl⟩ Q hQ
        have hd2 : rows = d ++ q :: r := by simpa using hd
        have o := hok q (by rw [hd2]; simp)
        have qms : Nms q := ⟨o.n, by rw [o.l]; exact h.l⟩
        have e19 := f_19 (part := part) qms hc (by rw [o.l]; exact hcl) (by rw [o.l]; exact hp.lot) v'
        have hs : ∀ l : List (List Rat), (∀ z ∈ l, z ∈ rows) → Nb 3 (shrAt l c part 0) := fun l => by
          have key : ∀ (l : List (List Rat)) (m : Rat), Nb 3 m → (∀ z ∈ l, z ∈ rows) → Nb 3 (shrAt l c part m) := by
            intro l
            induction l with
            | nil => exact fun m hm _ => hm
            | cons z l ih =>
              intro m hm hz
              refine ih _ ?_ fun y hy => hz y (List.mem_cons_of_mem _ hy)
              show Nb 3 (gr m (shr z c part))
              unfold gr
              split
              · exact shr_nb (by rw [(hok z (hz z (List.mem_cons_self ..))).l]; exact l5)
              · exact hm
          exact key l 0 (nb0 (by decide))
        have hd3 := hs d fun z hz => by rw [hd2]; simp [hz]
        have e29 := f_29 hd3.s (shr_nb (p := q) (c := c) (part := part) (by rw [o.l]; exact l5)).s (by decide) v'
        have fin := hQ [.val (.d (cq p)), .val (.d (cq c)), .val (.d (li part)), s3, .val (.d (cq q)), .val (.d (.list (rows.map cq))), .val (.d (rq (shrAt (d ++ [q]) c part 0))), s7, .non] v' ⟨_, rfl, rfl⟩
        have ea : shrAt (d ++ [q]) c part 0 = gr (shrAt d c part 0) (shr q c part) := by simp [shrAt, List.foldl_append]
        rw [ea] at fin
        generalize shrAt d c part 0 = m at *
        generalize shr q c part = y at *
        simp [forT, getV, to, op2V, ltV, leV, gtV, geV, subV, esc, escs, escV, escI, escW, escP, Pc.esc, demE, wipeE, ixV, asSeq, bindV, bindT, bindTs, biV, setP, ownAt]
        rw [e19]
        simp [e29, getV, to, op2V, ltV, leV, gtV, geV, subV, esc, escs, escV, escI, escW, escP, Pc.esc, demE, wipeE, ixV, asSeq, bindV, bindT, bindTs, biV, setP, ownAt]
        exact fin
      · rintro env v' ⟨s4, rfl, rfl⟩
        rw [List.nil_append]
        simp [getV, to, op2V, ltV, leV, gtV, geV, subV, esc, escs, escV, escI, escW, escP, Pc.esc, demE, wipeE, ixV, asSeq, bindV, bindT, bindTs, biV, setP, ownAt]
        exact hQ
end Lk41
end
section
namespace Lk41
open PySem R
theorem ncI {i : Int} (h : i.natAbs < 2 ^ 40) : Nc 40 1 (.int i) := by
  have h2 : i.natAbs < 2 ^ 200 := Nat.lt_of_lt_of_le h (Nat.pow_le_pow_right (by decide) (by decide))
  have b := Nc.int (p := 1) (by decide) h2
  refine ⟨b.n, ?_, b.d⟩
  simp only [PyData.weight]
  split
  · omega
  · rename_i h0
    have : i.natAbs ≠ 0 := by simpa using h0
    have := (Nat.log2_lt this).mpr h
    omega
theorem ncR {x : Rat} (h : Sz 40 x) : Nc 82 2 (rq x) := by
  refine Nc.tup (k := 40) (p := 1) (n := 2) (fun y hy => ?_) (by simp)
  simp only [List.mem_cons, List.not_mem_nil, or_false] at hy
  rcases hy with rfl | rfl
  · exact ncI h.n
  · exact ncI (abs_den h)
theorem nc_en {n : Nat} {e : Wo} (hn : n ≤ 5) (hx : Sz 40 e.2.1) (hy : Sz 40 e.2.2) : Nc (416 * 2) 4 (en n e) := by
  refine Nc.tup (k := 415) (p := 3) (n := 2) (fun y h => ?_) (by simp)
  simp only [List.mem_cons, List.not_mem_nil, or_false] at h
  rcases h with rfl | rfl
  · refine Nc.tup (k := 82) (p := 2) (n := 5) (fun y h => ?_) (by simpa using hn)
    obtain ⟨k, hk, rfl⟩ := List.mem_map.mp h
    split
    · exact ncR hx
    · exact (Nc.none (k := 0) (p := 1) (by decide)).le (Nat.zero_le _) (by decide)
  · exact (ncR hy).le (by decide) (by decide)
theorem wor_ok {c : List Rat} {part : List Int} (h : PtL c.length part) (hc : ∀ x ∈ c, Nb 40 x) : ∀ e ∈ worL c part, Sz 40 e.2.1 ∧ Nb 10 e.2.2 := fun e he => by
  obtain ⟨b, hb, h2⟩ := List.mem_flatMap.mp he
  obtain ⟨S, hS, rfl⟩ := List.mem_map.mp h2
  have hb := List.mem_range.mp hb
  obtain ⟨hS0, hSs⟩ := mem_sets.mp hS
  have hS1 := List.length_pos_iff.mpr hS0
  have hS2 := hSs.length_le
  have hp := h.len
  have h5 := h.k.2
  have hm : nth c (S.length + b - 1) ∈ c := getD_mem (by omega)
  have hd : Nb 10 (dv (S.length : Nat) ((S.length + b : Nat) : Int)) := dv_nb (by omega) (by omega) (by omega) (by omega)
  exact ⟨(hc _ hm).s, hd⟩
theorem q_46 {n : Nat} {w : Wd} (hw : Wl n w) {Q : Vl → Wd → Prop} (k : ∀ w', Q (.d (.bool true)) w') : wpR (run 46 [.loc n] w) Q := by
  refine wp_at (d := d_46) rfl rfl ?_
  simp [d_46, b_46, getV, to, op2V, ltV, leV, gtV, geV, subV, esc, escs, escV, escI, escW, escP, Pc.esc, demE, wipeE, ixV, asSeq, bindV, bindT, bindTs, biV, setP, ownAt]
  refine q_23 PyData.int (xs := [3, 2, 4, 3, 5, 1]) _ (.inl rfl) hw (by simp) (by simp) fun u hu w1 hw1 => ?_
  have hu2 : 1 ≤ u ∧ u ≤ 5 := by
    simp at hu
    omega
  obtain ⟨m, rfl⟩ := Int.eq_ofNat_of_zero_le (show 0 ≤ u by omega)
  simp [getV, to, op2V, ltV, leV, gtV, geV, subV, esc, escs, escV, escI, escW, escP, Pc.esc, demE, wipeE, ixV, asSeq, bindV, bindT, bindTs, biV, setP, ownAt]
  refine q_39 hw1 (by omega) fun c w2 hcl hc hcb hw2 => ?_
  simp [f_31 (c := m) (by omega), getV, to, op2V, ltV, leV, gtV, geV, subV, esc, escs, escV, escI, escW, escP, Pc.esc, demE, wipeE, ixV, asSeq, bindV, bindT, bindTs, biV, setP, ownAt]
  refine q_23 li (xs := setsN m) _ (.inr rfl) hw2 (sets_ok m (sets_at (by omega))).1 (by
    have := sets_small (l := (List.range m).map fun (k : Nat) => (k : Int)) (by simp; omega)
    have e : setsN m = sets ((List.range m).map fun (k : Nat) => (k : Int)) := rfl
    rw [e]
    omega) fun part hpart w3 hw3 => ?_
  simp [getV, to, op2V, ltV, leV, gtV, geV, subV, esc, escs, escV, escI, escW, escP, Pc.esc, demE, wipeE, ixV, asSeq, bindV, bindT, bindTs, biV, setP, ownAt]
  refine q_34 (c := c) hw3 hcb (fun z => by subst z; simp at hcl; omega) (by omega) (by omega) fun p w4 hpl hpb hw4 => ?_
  have hp : Nms p := ⟨fun x hx => (hpb x hx).nm (by decide), by omega⟩
  have hl : c.length = p.length := by omega
  have ptl : PtL p.length part := ⟨by omega, by rw [hpl]; exact hpart⟩
  have ptc : PtL c.length part := by rw [hl]; exact ptl
  have hwo := wor_ok ptc hcb
  have hwo2 : ∀ e ∈ worL c part, WoOk e := fun e he => ⟨(hwo e he).1.mono (by decide), (hwo e he).2⟩
  have hwl := worL_len ptc
  have e42 := fun w => f_42 (part := part) hp.n hc.n hl hc.up hp.l.2 w
  have e20 := fun w => f_20 ptc hc w
  have e43 := fun w => f_43 ptc hc.n w
  have e19 := fun w => f_19 hp hc hl ptl.lot w
  have pk19 : ∀ a b d : Vl, putK (npT T 19) [2, 1, 0] [] [a, b, d] = [d, b, a] := fun _ _ _ => rfl
  have pk20 : ∀ a b : Vl, putK (npT T 20) [1, 0] [] [a, b] = [b, a] := fun _ _ => rfl
  have e44 := fun w => f_44 (p := p) (l := worL c part) hp.n (by omega) hwo2 w
  have e45 := fun w => f_45 hp hc hl ptl w
  rw [greatest_eq hl hc ptl.pt hp.n] at e45
  have hdue := shr_le hl rfl hc.up ptl.pt fun _ _ _ => rfl
  have mnb : Nb 10 (worAt p (worL c part) 0) := worAt_nb (nb0 (by decide)) hwo2
  have dnb := shr_nb (p := p) (c := c) (part := part) hp.l.2
  have e28 := fun w => f_28 mnb.s dnb.s (by decide) w
  rw [decide_eq_false (Rat.not_lt.mpr hdue)] at e28
  -- what is shown
  obtain ⟨s1, _, s3⟩ := Nc.show (Nc.lst (k := 82) (p := 2) (n := 2) (xs := [rq (shr p c part), rq (shr p c part)]) (fun x hx => by
    simp only [List.mem_cons, List.not_mem_nil, or_false, or_self] at hx
    rw [hx]
    exact ncR (dnb.s.mono (by decide))) (by simp)) (by decide) (by decide)
  have ncX : Nc (833 * 31) 5 (.tuple ((worL c part).map (en c.length))) := Nc.tup (k := 832) (p := 4) (n := 31) (fun x hx => by
    obtain ⟨e, he, rfl⟩ := List.mem_map.mp hx
    exact nc_en (by omega) (hwo e he).1 ((hwo e he).2.s.mono (by decide))) (by simpa using hwl)
  obtain ⟨t1, _, t3⟩ := Nc.show (Nc.lst (k := 833 * 31) (p := 5) (n := 2) (xs := [.tuple ((worL c part).map (en c.length)), .tuple ((worL c part).map (en c.length))]) (fun x hx => by
    simp only [List.mem_cons, List.not_mem_nil, or_false, or_self] at hx
    rw [hx]
    exact ncX) (by simp)) (by decide) (by decide)
  obtain ⟨r1, _, r3⟩ := Nc.show ((ncR (mnb.s.mono (by decide)))) (by decide) (by decide)
  simp only [biV, Option.ite_none_right_eq_some, and_true] at s1 t1 r1
  have hless := fun (q : List Rat) (hq : q.length = p.length) (hqn : ∀ y ∈ q, Nm y) (w : Wd) => (show run 44 [.d (.tuple ((worL c part).map (en p.length))), .d (cq q)] w = .ok (.d (rq (worAt q (worL c part) 0))) w from by
    rw [← hq]
    exact f_44 (p := q) (l := worL c part) hqn (by omega) hwo2 w)
  have hmono := fun (q : List Rat) (hq : q.length = p.length) (hle : ∀ i, i < p.length → nth q i ≤ nth p i) => worAt_mono (l := worL c part) (m := 0) hq hle
  have hnb := fun (q : List Rat) => worAt_nb (p := q) (l := worL c part) (m := 0) (nb0 (by decide)) hwo2
  rw [hl] at e20 e43 t1 t3
  generalize (worL c part).map (en p.length) = X at *
  simp [getV, to, op2V, ltV, leV, gtV, geV, subV, esc, escs, escV, escI, escW, escP, Pc.esc, demE, wipeE, ixV, asSeq, bindV, bindT, bindTs, biV, setP, ownAt]
  rw [e42]
  simp [getV, to, op2V, ltV, leV, gtV, geV, subV, esc, escs, escV, escI, escW, escP, Pc.esc, demE, wipeE, ixV, asSeq, bindV, bindT, bindTs, biV, setP, ownAt]
  rw [e20]
  simp [getV, to, op2V, ltV, leV, gtV, geV, subV, esc, escs, escV, escI, escW, escP, Pc.esc, demE, wipeE, ixV, asSeq, bindV, bindT, bindTs, biV, setP, ownAt]
  rw [e19]
  simp [pk19, getV, to, op2V, ltV, leV, gtV, geV, subV, esc, escs, escV, escI, escW, escP, Pc.esc, demE, wipeE, ixV, asSeq, bindV, bindT, bindTs, biV, setP, ownAt]
  rw [e19]
  simp [s1, s3, getV, to, op2V, ltV, leV, gtV, geV, subV, esc, escs, escV, escI, escW, escP, Pc.esc, demE, wipeE, ixV, asSeq, bindV, bindT, bindTs, biV, setP, ownAt]
  simp [pk20, getV, to, op2V, ltV, leV, gtV, geV, subV, esc, escs, escV, escI, escW, escP, Pc.esc, demE, wipeE, ixV, asSeq, bindV, bindT, bindTs, biV, setP, ownAt]
  rw [e20]
  have f2 : fits 2 = true := by decide
  simp [t1, getV, to, op2V, ltV, leV, gtV, geV, subV, esc, escs, escV, escI, escW, escP, Pc.esc, demE, wipeE, ixV, asSeq, bindV, bindT, bindTs, biV, setP, ownAt]
  rw [e43]
  simp [t1, t3, f2, getV, to, op2V, ltV, leV, gtV, geV, subV, esc, escs, escV, escI, escW, escP, Pc.esc, demE, wipeE, ixV, asSeq, bindV, bindT, bindTs, biV, setP, ownAt]
  rw [e43]
  simp [getV, to, op2V, ltV, leV, gtV, geV, subV, esc, escs, escV, escI, escW, escP, Pc.esc, demE, wipeE, ixV, asSeq, bindV, bindT, bindTs, biV, setP, ownAt]
  rw [e44]
  simp [e28, getV, to, op2V, ltV, leV, gtV, geV, subV, esc, escs, escV, escI, escW, escP, Pc.esc, demE, wipeE, ixV, asSeq, bindV, bindT, bindTs, biV, setP, ownAt]
  rw [e45]
  simp [r1, r3, getV, to, op2V, ltV, leV, gtV, geV, subV, esc, escs, escV, escI, escW, escP, Pc.esc, demE, wipeE, ixV, asSeq, bindV, bindT, bindTs, biV, setP, ownAt]
  refine wp_gathE rq rq (fun x y => Nb 110 y ∧ y ≤ x) (Wl n) hw4 (by simp [sizeLine]; omega) (fun x hx w5 hw5 Q hQ => ?_) ?_
  · simp [getV, to, op2V, ltV, leV, gtV, geV, subV, esc, escs, escV, escI, escW, escP, Pc.esc, demE, wipeE, ixV, asSeq, bindV, bindT, bindTs, biV, setP, ownAt]
    refine q_23 rq (xs := [1, dv 1 2, 0, dv 9 10]) _ (.inl ?_) hw5 (by simp) (by simp) fun f hf w6 hw6 => ?_
    · simp only [List.map_cons, List.map_nil, dv]
      rw [rq_pair (n := 1) (m := 2) (by decide) (by decide), rq_pair (n := 9) (m := 10) (by decide) (by decide), rq_one, rq_zero]
    · have fb : Nb 6 f := by
        simp only [List.mem_cons, List.not_mem_nil, or_false] at hf
        rcases hf with rfl | rfl | rfl | rfl
        · exact ⟨by decide, by decide, Sz.one (by decide)⟩
        · exact dv_nb (by decide) (by decide) (by decide) (by decide)
        · exact ⟨by decide, by decide, Sz.zero (by decide)⟩
        · exact dv_nb (by decide) (by decide) (by decide) (by decide)
      have xb := hpb x hx
      have e := f_27 xb.s fb.s (by decide) w6
      simp [e, getV, to, op2V, ltV, leV, gtV, geV, subV, esc, escs, escV, escI, escW, escP, Pc.esc, demE, wipeE, ixV, asSeq, bindV, bindT, bindTs, biV, setP, ownAt]
      refine hQ (x * f) w6 ⟨(mul_nb xb fb).mono (by decide), ?_⟩ hw6
      have := Rat.mul_le_mul_of_nonneg_left fb.o xb.z
      grind
  · intro less w5 hll hlz hw5
    rw [List.nil_append]
    have lz : ∀ i, i < p.length → Nb 110 (nth less i) ∧ nth less i ≤ nth p i := fun i hi => by
      have hz : i < (p.zip less).length := by rw [List.length_zip]; omega
      have := hlz _ (List.getElem_mem hz)
      rw [List.getElem_zip] at this
      rwa [nth_eq (by omega), nth_eq (by omega)]
    have lnb : ∀ y ∈ less, Nm y := fun y hy => by
      obtain ⟨i, hi, rfl⟩ := List.mem_iff_getElem.mp hy
      have := (lz i (by omega)).1
      rw [nth_eq (by omega)] at this
      exact this.nm (by decide)
    have g44 := fun w => hless less (by omega) lnb w
    have gm := hmono less (by omega) fun i hi => (lz i hi).2
    have gn := hnb less
    generalize worAt less (worL c part) 0 = y at g44 gm gn
    have g28 := fun w => f_28 gn.s mnb.s (by decide) w
    rw [decide_eq_false (Rat.not_lt.mpr gm)] at g28
    simp [getV, to, op2V, ltV, leV, gtV, geV, subV, esc, escs, escV, escI, escW, escP, Pc.esc, demE, wipeE, ixV, asSeq, bindV, bindT, bindTs, biV, setP, ownAt]
    rw [g44]
    simp [g28, getV, to, op2V, ltV, leV, gtV, geV, subV, esc, escs, escV, escI, escW, escP, Pc.esc, demE, wipeE, ixV, asSeq, bindV, bindT, bindTs, biV, setP, ownAt]
    exact k w5
theorem f_47 (ns : List Int) (hl : ns.length ≤ 63) : ∃ w, FnT gv T 48 47 [.d (.list (ns.map .int))] [] = .ok (.d (.bool true)) w := by
  have main : wpR (run 47 [.d (.list (ns.map .int))] []) (fun a _ => a = .d (.bool true)) := by
    refine wp_at (d := d_47) rfl rfl ?_
    have s2 : small62 2 = true := by decide
    simp [d_47, b_47, s2, getV, to, op2V, ltV, leV, gtV, geV, subV, esc, escs, escV, escI, escW, escP, Pc.esc, demE, wipeE, ixV, asSeq, bindV, bindT, bindTs, biV, setP, ownAt]
    refine wp_gathE (fun k : Nat => PyData.int k) (fun _ : Unit => .bool true) (fun _ _ => True) (fun _ => True) trivial (by simp [sizeLine]) (fun x hx w _ Q hQ => ?_) fun ys w hy _ _ => ?_
    · simp [getV, to, op2V, ltV, leV, gtV, geV, subV, esc, escs, escV, escI, escW, escP, Pc.esc, demE, wipeE, ixV, asSeq, bindV, bindT, bindTs, biV, setP, ownAt]
      refine f_21 (by omega) (by omega) fun n w hw => ?_
      simp
      refine q_46 hw fun w => ?_
      simp
      exact hQ () w trivial trivial
    · simp [getV, to, op2V, ltV, leV, gtV, geV, subV, esc, escs, escV, escI, escW, escP, Pc.esc, demE, wipeE, ixV, asSeq, bindV, bindT, bindTs, biV, setP, ownAt]
  obtain ⟨a, w, e, rfl⟩ := main
  exact ⟨w, e⟩
end Lk41
end
section
theorem PySem.Challenge.cw_surefinds_k41_whole_shares_and_worths_holds : PySem.Challenge.rw_surefinds_k41_whole_shares_and_worths.Holds := by
  exact Lk41.fin fun ns h => Lk41.f_47 ns h
end
