import PyProof.Rows.All
import PyProof.ZipIter
import PyProof.CallType
import PyProof.Walk
import PyProof.WalkLemmas
import PyProof.RangeIter
import PyProof.RulesTry
import HandS.Conv
import HandS.ForMost
import HandS.TryMany
import HandS.ExcInit
import HandS.ExcOwn
import HandS.WordsExc
import HandS.EndOwn
import HandS.IsInst
import HandS.TupAny
import HandS.TupMul
import HandS.Deep
import HandS.AnyAll
import KE.SortData
import KE.DataMinMax
import KE.KTupSum
import HandS.ExcSuper
import HandS.ExcField
import HandS.Zip
import HandS.Strs
import HandS.SetFor
import KE.GoesEnum
import HandS.SortKw
import HandS.Gcd
import PySem.Challenge.RW_stagewright_k21_whole_revolves
set_option Elab.async false
/-! the next order, the next choice -/
namespace Rf
/-- the entry at i put behind the others -/
def rotAt (i : Nat) (ix : List Nat) : List Nat := ix.take i ++ ix.drop (i + 1) ++ [ix.getD i 0]
def swpAt (i j : Nat) (ix : List Nat) : List Nat := (ix.set i (ix.getD j 0)).set j (ix.getD i 0)
/-- the next order of n places, by counters -/
def npStep (n : Nat) : Nat → List Nat → List Nat → Option (List Nat × List Nat)
  | 0, _, _ => none
  | k + 1, ix, cy => if cy.getD k 0 ≤ 1 then npStep n k (rotAt k ix) (cy.set k (n - k)) else some (swpAt k (n - (cy.getD k 0 - 1)) ix, cy.set k (cy.getD k 0 - 1))
/-- the next choice of places below n, rising -/
def ncAt (n : Nat) (ix : List Nat) : Nat → Option (List Nat)
  | 0 => none
  | k + 1 => if ix.getD k 0 = k + n - ix.length then ncAt n ix k else some (ix.take k ++ (List.range (ix.length - k)).map (ix.getD k 0 + 1 + ·))
end Rf
set_option Elab.async false
set_option linter.all false
set_option maxRecDepth 100000
set_option maxHeartbeats 2000000
/-! itertools.permutations(range(..)), itertools.combinations(range(..), r), at the library's level -/
namespace Pm
open PySem PySem.Spec
open Sem (wp)
theorem mro_pm : mroOf (.type "itertools.permutations") = pure [.type "itertools.permutations", .type "object"] := by rw [mroOf_type]; kernel_rfl
theorem lookup_pm_new : typeLookup (.type "itertools.permutations") "__new__" = pure (some (.builtin "itertools.permutations.__new__")) := by rw [typeLookup_type, builtinLookup_eq_fast]; kernel_rfl
theorem slot_pm_init : Slot "itertools.permutations" "__init__" "object.__init__" :=
  .of (owner := "object") (n := "__init__") (by rw [typeLookup_type, builtinLookup_eq_fast]; kernel_rfl) (by decide +kernel) (by decide +kernel) (by decide +kernel)
    (by first | exact .inl (by decide +kernel) | exact .inr (by decide +kernel)) (by rw [isSubtype_type]; kernel_rfl)
theorem sub_pm : isSubtype (.type "itertools.permutations") (.type "itertools.permutations") = pure true := by rw [isSubtype_type]; kernel_rfl
theorem called_pm : TypeCalled "itertools.permutations" "itertools.permutations.__new__" "object.__init__" :=
  ⟨by decide +kernel, by decide +kernel, ⟨_, _, mro_pm⟩, madeBy_type mro_pm lookup_pm_new (by decide +kernel), by decide +kernel, sub_pm, slot_pm_init⟩
theorem typeCall_pm (a : Value) : checkTypeCall "itertools.permutations" ⟨[a], []⟩ = pure () := by kernel_rfl
theorem newCall_pm (a : Value) : checkBuiltinCall "itertools.permutations.__new__" ⟨[.type "itertools.permutations", a], []⟩ = pure () := by kernel_rfl
theorem entry_pm_new : entryFor table "itertools.permutations.__new__" = some Builtin.«itertools.permutations.__new__» := entryFor_of_tree (by kernel_rfl)
theorem slot_pm_iter : Slot "itertools.permutations" "__iter__" "itertools.permutations.__iter__" :=
  .of (owner := "itertools.permutations") (n := "__iter__") (by rw [typeLookup_type, builtinLookup_eq_fast]; kernel_rfl) (by decide +kernel) (by decide +kernel) (by decide +kernel)
    (by first | exact .inl (by decide +kernel) | exact .inr (by decide +kernel)) sub_pm
theorem slot_pm_next : Slot "itertools.permutations" "__next__" "itertools.permutations.__next__" :=
  .of (owner := "itertools.permutations") (n := "__next__") (by rw [typeLookup_type, builtinLookup_eq_fast]; kernel_rfl) (by decide +kernel) (by decide +kernel) (by decide +kernel)
    (by first | exact .inl (by decide +kernel) | exact .inr (by decide +kernel)) sub_pm
theorem entry_pm_iter : entryFor table "itertools.permutations.__iter__" = some Builtin.«dict_keyiterator.__iter__» :=
  entryFor_alias (id' := "dict_keyiterator.__iter__") (by kernel_rfl) (by first | rfl | decide +kernel | (unfold String.splitOn; simp +decide [String.splitOnAux])) (by decide +kernel) (by kernel_rfl)
theorem entry_pm_next : entryFor table "itertools.permutations.__next__" = some Builtin.«itertools.permutations.__next__» := entryFor_of_tree (by kernel_rfl)
theorem owner_pm : Manifest.owners.lookup (String.ofList ['s', 'n', 'o', 'i', 't', 'a', 't', 'u', 'm', 'r', 'e', 'p', '.', 's', 'l', 'o', 'o', 't', 'r', 'e', 't', 'i'].reverse) = some Manifest.sig_itertools_permutations := by kernel_rfl
theorem args_pm_iter (a : Value) : argsOk "itertools.permutations.__iter__" ⟨[a], []⟩ := by
  unfold argsOk; rw [signature?_of (id := "itertools.permutations.__iter__") (n := ['_', '_', 'r', 'e', 't', 'i', '_', '_']) (o := ['s', 'n', 'o', 'i', 't', 'a', 't', 'u', 'm', 'r', 'e', 'p', '.', 's', 'l', 'o', 'o', 't', 'r', 'e', 't', 'i']) (by kernel_rfl) owner_pm]; kernel_rfl
theorem args_pm_next (a : Value) : argsOk "itertools.permutations.__next__" ⟨[a], []⟩ := by
  unfold argsOk; rw [signature?_of (id := "itertools.permutations.__next__") (n := ['_', '_', 't', 'x', 'e', 'n', '_', '_']) (o := ['s', 'n', 'o', 'i', 't', 'a', 't', 'u', 'm', 'r', 'e', 'p', '.', 's', 'l', 'o', 'o', 't', 'r', 'e', 't', 'i']) (by kernel_rfl) owner_pm]; kernel_rfl
theorem noDict_pm : typeHasDict (.type "itertools.permutations") = false := by decide +kernel
end Pm
set_option Elab.async false
set_option linter.all false
set_option maxRecDepth 100000
set_option maxHeartbeats 2000000
namespace Pm
open PySem PySem.Spec PyProof.Rows
open Sem (wp)
theorem bind_pm (v : Value) : Builtin.Itertools.itBindNamed "permutations" ["iterable", "r"] 1 2 [v] [] = pure [some v, none] := by kernel_rfl
theorem class_pm (v : Value) : Builtin.Itertools.itClassAndRest "permutations" ⟨[.type "itertools.permutations", v], []⟩ = pure (.type "itertools.permutations", [v]) := by
  have hcat : ("itertools." ++ "permutations" : String) = "itertools.permutations" := by decide +kernel
  unfold Builtin.Itertools.itClassAndRest
  show (isType (.type "itertools.permutations") >>= fun b => _) = _
  rw [show isType (.type "itertools.permutations") = pure true from by kernel_rfl]
  show (isSubtype (.type "itertools.permutations") (.type ("itertools." ++ "permutations")) >>= fun b => _) = _
  rw [hcat, sub_pm]
  rfl
def rawN (k : Nat) : Value := rawInt (k : Int)
def pmF (pool : Addr) (st : Int) (n : Nat) (last : Value) (ix cy : List Nat) : Array Value := (([.ref pool, rawInt st, rawInt (n : Int), last] : List Value) ++ ix.map rawN ++ cy.map rawN).toArray
abbrev IsPm (h : Heap) (it pool : Addr) (st : Int) (n : Nat) (last : Value) (ix cy : List Nat) : Prop := h.get? it = some { cls := .type "itertools.permutations", data := .fields (pmF pool st n last ix cy) }
section
variable {prog : Program} {w : World} {A : Around} {E : Value → Shared → Prop} {s : Shared} {r : Addr} {a b c : Int} {t u v : Tok} {n : Nat}
theorem code_pm_new {Q₁ : Value → Shared → Prop} (hh : A.handled = none) (hr : IsRange s.heap r a b c t u v) (hsmall : Builtin.Range.small a b c = true) (hn : Builtin.Range.rangeSize a b c = n) (hlen : n ≤ 1000)
    (h : ∀ (h' : Heap) (tk : Nat) (acc : Array Value), (∀ b o, s.heap.get? b = some o → h'.get? b = some o) → ItemsOf (fun i v => ∃ t, v = .int (a + i * c) t) acc n →
      Q₁ (.ref (h'.push { cls := .type "tuple", data := .seq acc }).objs.size) { s with heap := (h'.push { cls := .type "tuple", data := .seq acc }).push { cls := .type "itertools.permutations", data := .fields (pmF h'.objs.size 0 n .none (List.range n) ((List.range n).map fun i => n - i)) }, toks := tk }) :
    codeAny (model prog w) A (.call (.builtin "itertools.permutations.__new__") ⟨[.type "itertools.permutations", .ref r], []⟩) (wants Q₁ E) s := by
  refine codeAny_of_tree ?_
  show wpAny _ A.in1 (do checkBuiltinCall "itertools.permutations.__new__" ⟨[.type "itertools.permutations", .ref r], []⟩; again (.builtin "itertools.permutations.__new__" ⟨[.type "itertools.permutations", .ref r], []⟩)) _ _ s
  refine wpAny_bind (wpAny_of_eq (newCall_pm _) (wpAny_pure ⟨plainId_quiet (by decide +kernel) _, codeAny_builtin entry_pm_new ?_⟩))
  rw [Around.under_plainId (by decide +kernel) _]
  have hcat : ("itertools." ++ "permutations" : String) = "itertools.permutations" := by decide +kernel
  have hsub := sub_pm
  have hd := noDict_pm
  have hTI : s.TypeIs (.ref r) "range" := ⟨_, hr, rfl⟩
  have hh1 : A.in1.handled = none := hh
  show wpAny _ _ (Builtin.Itertools.itClassAndRest "permutations" ⟨[.type "itertools.permutations", .ref r], []⟩ >>= _) _ _ _
  refine wpAny_bind (wpAny_of_eq (class_pm _) ?_)
  show wpAny _ _ (Builtin.Itertools.itBindNamed "permutations" ["iterable", "r"] 1 2 [.ref r] [] >>= _) _ _ _
  refine wpAny_bind (wpAny_of_eq (bind_pm _) ?_)
  show wpAny _ _ (collect (.ref r) >>= _) _ _ _
  refine wpAny_bind (L2.collect_range (A := A.in1) hh1 hr hsmall hn (by omega) ?_)
  intro h' tk acc hk hacc
  have hl : acc.toList.length = n := by rw [Array.length_toList]; exact hacc.1
  show wpAny _ _ (pure ((acc.toList.length : Nat) : Int) >>= _) _ _ _
  refine wpAny_bind (wpAny_pure ?_)
  show wpAny _ _ (if ((acc.toList.length : Nat) : Int) < 0 then _ else _) _ _ _
  rw [if_neg (by omega)]
  show wpAny _ _ (if (decide (((acc.toList.length : Nat) : Int) > 2 ^ 20)) = true then _ else _) _ _ _
  rw [if_neg (by rw [decide_eq_true_eq]; omega)]
  refine wpAny_bind (wpAny_newTuple ?_)
  refine wpAny_bind ?_
  unfold Builtin.Itertools.itNewRecord
  rw [hd]
  rw [if_pos (show (!false) = true from rfl)]
  have hsz : (([.ref h'.objs.size, rawInt (if (((acc.toList.length : Nat) : Int)).toNat > acc.toList.length then 2 else 0), rawInt (((((acc.toList.length : Nat) : Int)).toNat : Nat) : Int), .none] : List Value) ++ (List.range acc.toList.length).map (fun (i : Nat) => rawInt (i : Int)) ++ (List.range (((acc.toList.length : Nat) : Int)).toNat).map (fun (i : Nat) => rawInt (((acc.toList.length : Nat) : Int) - (i : Int)))).toArray.size ≤ sizeLine + 2 := by
    simp only [List.size_toArray, List.length_append, List.length_map, List.length_range, List.length_cons, List.length_nil, Int.toNat_natCast]
    rw [sizeLine_eq]
    omega
  refine wpAny_newObj_type ?_ hsz
  refine wpAny_pure ?_
  have hF : (([.ref h'.objs.size, rawInt (if (((acc.toList.length : Nat) : Int)).toNat > acc.toList.length then 2 else 0), rawInt (((((acc.toList.length : Nat) : Int)).toNat : Nat) : Int), .none] : List Value) ++ (List.range acc.toList.length).map (fun (i : Nat) => rawInt (i : Int)) ++ (List.range (((acc.toList.length : Nat) : Int)).toNat).map (fun (i : Nat) => rawInt (((acc.toList.length : Nat) : Int) - (i : Int)))).toArray = pmF h'.objs.size 0 n .none (List.range n) ((List.range n).map fun i => n - i) := by
    rw [Int.toNat_natCast, hl, if_neg (Nat.lt_irrefl n)]
    unfold pmF
    congr 2
    rw [List.map_map]
    apply List.map_congr_left
    intro i hi
    rw [List.mem_range] at hi
    show rawInt ((n : Int) - (i : Int)) = rawInt ((n - i : Nat) : Int)
    rw [show ((n - i : Nat) : Int) = (n : Int) - (i : Int) by omega]
  have hA : acc.toList.toArray = acc := by simp
  have q := h h' tk acc hk hacc
  rw [← hF, ← hA] at q
  exact q
end
end Pm
set_option Elab.async false
set_option linter.all false
set_option maxRecDepth 100000
set_option maxHeartbeats 2000000
namespace Pm
open PySem PySem.Spec PyProof.Rows
open Sem (wp)
section
variable {prog : Program} {w : World} {A : Around} {E : Value → Shared → Prop} {s : Shared} {r : Addr} {a b c : Int} {t u v : Tok} {n : Nat}
theorem call_pm_range {Q : Value → Shared → Prop} (hh : A.handled = none) (hr : IsRange s.heap r a b c t u v) (hsmall : Builtin.Range.small a b c = true) (hn : Builtin.Range.rangeSize a b c = n) (hlen : n ≤ 1000)
    (hQ : ∀ (h' : Heap) (tk : Nat) (acc : Array Value), (∀ b o, s.heap.get? b = some o → h'.get? b = some o) → ItemsOf (fun i v => ∃ t, v = .int (a + i * c) t) acc n →
      Q (.ref (h'.push { cls := .type "tuple", data := .seq acc }).objs.size) { s with heap := (h'.push { cls := .type "tuple", data := .seq acc }).push { cls := .type "itertools.permutations", data := .fields (pmF h'.objs.size 0 n .none (List.range n) ((List.range n).map fun i => n - i)) }, toks := tk }) :
    wpAny (model prog w) A (call (.type "itertools.permutations") [.ref r]) Q E s := by
  refine callType_codes (Q₁ := fun obj s₁ => s₁.TypeIs obj "itertools.permutations" ∧ Q obj s₁) called_pm (typeCall_pm _) F.entry_object_init
    (code_pm_new (A := A.in1) hh hr hsmall hn hlen fun h' tk acc hk hacc => ⟨⟨_, Heap.get?_push_size _ rfl, rfl⟩, hQ h' tk acc hk hacc⟩) fun obj s₁ h₁ => ?_
  exact ⟨h₁.1, F.args_object_init_2 obj _, object_init_meets called_pm.init.lookup called_pm.made (by decide) prog w A.in1 _ s₁ ⟨h₁.1, rfl, h₁.2⟩⟩
theorem iter_pm {it pool : Addr} {st : Int} {last : Value} {ix cy : List Nat} {Q : Value → Shared → Prop} (hit : IsPm s.heap it pool st n last ix cy) (h : Q (.ref it) s) : wpAny (model prog w) A (pyIter (.ref it)) Q E s := by
  have hT : s.TypeIs (.ref it) "itertools.permutations" := ⟨_, hit, rfl⟩
  refine wpAny_pyIter_slot hT slot_pm_iter (wpAny_call_entry slot_pm_iter hT entry_pm_iter ?_ (args_pm_iter _))
  show wpAny _ _ (ret (.ref it)) _ _ s
  exact wpAny_pure ⟨_, rfl, "itertools.permutations", _, hT, slot_pm_next.lookup, h⟩
/-! one order after the other -/
theorem np_any (f : Nat → Nat → List Nat → List Nat → Option (List Nat × List Nat)) (h0 : ∀ n ix cy, f n 0 ix cy = none)
    (h1 : ∀ n i ix cy, f n (i + 1) ix cy = if (cy.getD i 0 - 1 == 0) = true then f n i (Rf.rotAt i ix) (cy.set i (n - i)) else some (Rf.swpAt i (n - (cy.getD i 0 - 1)) ix, cy.set i (cy.getD i 0 - 1))) (n : Nat) :
    ∀ i ix cy, f n i ix cy = Rf.npStep n i ix cy
  | 0, ix, cy => h0 n ix cy
  | i + 1, ix, cy => by
    rw [h1, Rf.npStep]
    by_cases h : cy.getD i 0 ≤ 1
    · rw [if_pos h, if_pos (by rw [beq_iff_eq]; omega), np_any f h0 h1 n i]
    · rw [if_neg h, if_neg (by rw [beq_iff_eq]; omega)]
theorem pm_set1 (pool : Addr) (st st' : Int) (n : Nat) (last : Value) (ix cy : List Nat) : (pmF pool st n last ix cy).setIfInBounds 1 (rawInt st') = pmF pool st' n last ix cy := by
  unfold pmF
  simp
theorem pm_set3 (pool : Addr) (st : Int) (n : Nat) (last last' : Value) (ix cy : List Nat) : (pmF pool st n last ix cy).setIfInBounds 3 last' = pmF pool st n last' ix cy := by
  unfold pmF
  simp
theorem pm_size (pool : Addr) (st : Int) (n : Nat) (last : Value) (ix cy : List Nat) : (pmF pool st n last ix cy).size = 4 + ix.length + cy.length := by
  unfold pmF
  simp
  omega
theorem pm_drop (pool : Addr) (st : Int) (n : Nat) (last : Value) (ix cy : List Nat) : ((pmF pool st n last ix cy).toList.drop 4).map (fun v => match v with | .int k _ => k.toNat | _ => 0) = ix ++ cy := by
  unfold pmF
  show ((ix.map rawN ++ cy.map rawN)).map _ = _
  rw [← List.map_append, List.map_map]
  conv => rhs; rw [← List.map_id (ix ++ cy)]
  apply List.map_congr_left
  intro k _
  show ((k : Int)).toNat = k
  exact Int.toNat_natCast k
theorem pm_put (pool : Addr) (st : Int) (n : Nat) (last : Value) (ix cy ix' cy' : List Nat) : (pmF pool st n last ix cy).extract 0 4 ++ ((ix' ++ cy').map fun (k : Nat) => rawInt (k : Int)).toArray = pmF pool st n last ix' cy' := by
  unfold pmF
  apply Array.ext'
  simp [rawN, Function.comp_def]
  rfl
/-- what is handed out -/
def pickV (items : Array Value) (ix : List Nat) : List Value := ix.map fun i => items.getD i .none
theorem pm_item0 {it pool : Addr} {items : Array Value} {ix cy : List Nat} {last : Value} {Q : Value → Shared → Prop} (hit : IsPm s.heap it pool 0 n last ix cy) (hp : s.heap.IsTuple pool items) (hn : items.size = n) (hix : ix.length = n) (hcy : cy.length = n) (hsm : n ≤ 1000) (hip : it ≠ pool)
    (hQ : ∀ h', IsPm h' it pool 1 n (.ref s.heap.objs.size) ix cy → h'.get? s.heap.objs.size = some { cls := .type "tuple", data := .seq (pickV items ix).toArray } → h'.objs.size = s.heap.objs.size + 1 → (∀ c o, c ≠ it → s.heap.get? c = some o → h'.get? c = some o) → Q (.ref s.heap.objs.size) { s with heap := h' }) :
    wpAny (model prog w) A (Builtin.«itertools.permutations.__next__» ⟨[.ref it], []⟩) (fun fin s' => ∃ v, fin = .done (.ret v) ∧ Q v s') E s := by
  obtain ⟨op, hop, _, np, hdp⟩ := id hp
  have f0 : ∀ st l ix cy, (pmF pool st n l ix cy)[0]? = some (.ref pool) := fun _ _ _ _ => rfl
  have f1 : ∀ st l ix cy, (pmF pool st n l ix cy)[1]? = some (rawInt st) := fun _ _ _ _ => rfl
  have f2 : ∀ st l ix cy, (pmF pool st n l ix cy)[2]? = some (rawInt (n : Int)) := fun _ _ _ _ => rfl
  have f3 : ∀ st l ix cy, (pmF pool st n l ix cy)[3]? = some l := fun _ _ _ _ => rfl
  show wpAny _ _ (field (.ref it) 0 >>= _) _ _ _
  refine wpAny_bind (wpAny_field hit rfl (f0 _ _ _ _) ?_)
  show wpAny _ _ ((seqItems? (.ref pool) >>= _) >>= _) _ _ _
  refine wpAny_bind (wpAny_bind (wpAny_seqItems hop hdp (wpAny_pure ?_)))
  show wpAny _ _ ((field (.ref it) 2 >>= _) >>= _) _ _ _
  refine wpAny_bind (wpAny_bind (wpAny_field hit rfl (f2 _ _ _ _) (wpAny_pure ?_)))
  show wpAny _ _ ((load it >>= _) >>= _) _ _ _
  refine wpAny_bind (wpAny_bind (wpAny_load hit (wpAny_pure ?_)))
  show wpAny _ _ ((field (.ref it) 1 >>= _) >>= _) _ _ _
  refine wpAny_bind (wpAny_bind (wpAny_field hit rfl (f1 _ _ _ _) (wpAny_pure ?_)))
  show wpAny _ _ (setField (.ref it) 1 (rawInt 1) >>= _) _ _ _
  refine wpAny_bind (wpAny_setField_rec hit (by rw [pm_size]; omega) fun h₁ hit₁ hs₁ => ?_)
  rw [pm_set1] at hit₁
  generalize hN : (List.map _ (List.drop 4 (pmF pool 0 n last ix cy).toList)) = N
  have hN2 : N = ix ++ cy := by rw [← hN]; exact pm_drop pool 0 n last ix cy
  subst hN2
  show wpAny _ _ (newTuple (((ix ++ cy).take ((n : Int)).toNat).map fun i => items.getD i Value.none) >>= _) _ _ _
  rw [Int.toNat_natCast, List.take_left' hix]
  refine wpAny_bind (wpAny_newTuple ?_ (by rw [List.length_map, sizeLine_eq]; omega))
  have hit₂ : IsPm (h₁.push { cls := .type "tuple", data := .seq (pickV items ix).toArray }) it pool 1 n last ix cy := Heap.get?_push_of_some _ hit₁
  show wpAny _ _ (field (.ref it) 3 >>= _) _ _ _
  refine wpAny_bind (wpAny_field hit₂ rfl (f3 _ _ _ _) ?_)
  refine wpAny_bind (wpAny_setField_rec hit₂ (by rw [pm_size]; omega) fun h₃ hit₃ hs₃ => ?_)
  rw [pm_set3] at hit₃
  refine wpAny_bind (wpAny_letGo (wpAny_pure ⟨_, rfl, ?_⟩))
  have e1 : h₁.objs.size = s.heap.objs.size := hs₁.1
  have hlt : it < s.heap.objs.size := Heap.lt_size hit
  have hne : s.heap.objs.size ≠ it := Nat.ne_of_gt hlt
  have hT : h₃.get? h₁.objs.size = some { cls := .type "tuple", data := .seq (pickV items ix).toArray } := hs₃.extBut _ _ (by rw [e1]; exact hne) (Heap.get?_push_size _ rfl)
  have hz : h₃.objs.size = h₁.objs.size + 1 := by rw [hs₃.1, Heap.size_push]
  show Q (.ref h₁.objs.size) { s with heap := h₃ }
  have hit₃' : IsPm h₃ it pool 1 n (.ref h₁.objs.size) ix cy := hit₃
  rw [e1] at hT hz hit₃' ⊢
  exact hQ h₃ hit₃' hT hz fun c o hc e => hs₃.extBut _ _ hc (Heap.get?_push_of_some _ (hs₁.extBut _ _ hc e))
theorem pm_item1 {it pool : Addr} {items : Array Value} {ix cy ix' cy' : List Nat} {last : Value} {Q : Value → Shared → Prop} (hit : IsPm s.heap it pool 1 n last ix cy) (hp : s.heap.IsTuple pool items) (hn : items.size = n) (hix : ix.length = n) (hcy : cy.length = n) (hix' : ix'.length = n) (hcy' : cy'.length = n) (hsm : n ≤ 1000) (hstep : Rf.npStep n n ix cy = some (ix', cy'))
    (hQ : ∀ h', IsPm h' it pool 1 n (.ref s.heap.objs.size) ix' cy' → h'.get? s.heap.objs.size = some { cls := .type "tuple", data := .seq (pickV items ix').toArray } → h'.objs.size = s.heap.objs.size + 1 → (∀ c o, c ≠ it → s.heap.get? c = some o → h'.get? c = some o) → Q (.ref s.heap.objs.size) { s with heap := h' }) :
    wpAny (model prog w) A (Builtin.«itertools.permutations.__next__» ⟨[.ref it], []⟩) (fun fin s' => ∃ v, fin = .done (.ret v) ∧ Q v s') E s := by
  obtain ⟨op, hop, _, np, hdp⟩ := id hp
  have f0 : ∀ st l ix cy, (pmF pool st n l ix cy)[0]? = some (.ref pool) := fun _ _ _ _ => rfl
  have f1 : ∀ st l ix cy, (pmF pool st n l ix cy)[1]? = some (rawInt st) := fun _ _ _ _ => rfl
  have f2 : ∀ st l ix cy, (pmF pool st n l ix cy)[2]? = some (rawInt (n : Int)) := fun _ _ _ _ => rfl
  have f3 : ∀ st l ix cy, (pmF pool st n l ix cy)[3]? = some l := fun _ _ _ _ => rfl
  show wpAny _ _ (field (.ref it) 0 >>= _) _ _ _
  refine wpAny_bind (wpAny_field hit rfl (f0 _ _ _ _) ?_)
  show wpAny _ _ ((seqItems? (.ref pool) >>= _) >>= _) _ _ _
  refine wpAny_bind (wpAny_bind (wpAny_seqItems hop hdp (wpAny_pure ?_)))
  show wpAny _ _ ((field (.ref it) 2 >>= _) >>= _) _ _ _
  refine wpAny_bind (wpAny_bind (wpAny_field hit rfl (f2 _ _ _ _) (wpAny_pure ?_)))
  show wpAny _ _ ((load it >>= _) >>= _) _ _ _
  refine wpAny_bind (wpAny_bind (wpAny_load hit (wpAny_pure ?_)))
  show wpAny _ _ ((field (.ref it) 1 >>= _) >>= _) _ _ _
  refine wpAny_bind (wpAny_bind (wpAny_field hit rfl (f1 _ _ _ _) (wpAny_pure ?_)))
  generalize hN : (List.map _ (List.drop 4 (pmF pool 1 n last ix cy).toList)) = N
  have hN2 : N = ix ++ cy := by rw [← hN]; exact pm_drop pool 1 n last ix cy
  subst hN2
  have htk : (ix ++ cy).take items.size = ix := by rw [hn, List.take_left' hix]
  have hdr : (ix ++ cy).drop items.size = cy := by rw [hn, List.drop_left' hix]
  have hst' : Rf.npStep items.size ((n : Int)).toNat ((ix ++ cy).take items.size) ((ix ++ cy).drop items.size) = some (ix', cy') := by rw [htk, hdr, Int.toNat_natCast, hn]; exact hstep
  split
  · next h => exact absurd h (by decide)
  · split
    · next i c heq =>
      have e := (np_any _ (fun _ _ _ => rfl) (fun _ _ _ _ => rfl) _ _ _ _).symm.trans heq
      rw [hst'] at e
      cases e
      show wpAny _ _ (updateFields it _ >>= _) _ _ _
      refine wpAny_bind (wpAny_updateFields hit rfl ?_ (by rw [pm_put, pm_size]; rw [sizeLine_eq]; omega))
      have hu : (s.heap.update it (Obj.mapFields fun fs => fs.extract 0 4 ++ ((ix' ++ cy').map fun (k : Nat) => rawInt (k : Int)).toArray)).get? it = some { cls := .type "itertools.permutations", data := .fields ((pmF pool 1 n last ix cy).extract 0 4 ++ ((ix' ++ cy').map fun (k : Nat) => rawInt (k : Int)).toArray) } := Heap.get?_update_self _ hit rfl
      rw [pm_put] at hu
      have hs₁ : Heap.SameBut it s.heap (s.heap.update it (Obj.mapFields fun fs => fs.extract 0 4 ++ ((ix' ++ cy').map fun (k : Nat) => rawInt (k : Int)).toArray)) := Heap.SameBut.update ..
      generalize s.heap.update it (Obj.mapFields fun fs => fs.extract 0 4 ++ ((ix' ++ cy').map fun (k : Nat) => rawInt (k : Int)).toArray) = h₁ at hu hs₁ ⊢
      show wpAny _ _ (newTuple ((ix'.take ((n : Int)).toNat).map fun i => items.getD i Value.none) >>= _) _ _ _
      rw [Int.toNat_natCast, List.take_of_length_le (by omega)]
      refine wpAny_bind (wpAny_newTuple ?_ (by rw [List.length_map, sizeLine_eq]; omega))
      have hit₂ : IsPm (h₁.push { cls := .type "tuple", data := .seq (pickV items ix').toArray }) it pool 1 n last ix' cy' := Heap.get?_push_of_some _ hu
      show wpAny _ _ (field (.ref it) 3 >>= _) _ _ _
      refine wpAny_bind (wpAny_field hit₂ rfl (f3 _ _ _ _) ?_)
      refine wpAny_bind (wpAny_setField_rec hit₂ (by rw [pm_size]; omega) fun h₃ hit₃ hs₃ => ?_)
      rw [pm_set3] at hit₃
      refine wpAny_bind (wpAny_letGo (wpAny_pure ⟨_, rfl, ?_⟩))
      have e1 : h₁.objs.size = s.heap.objs.size := hs₁.1
      have hlt : it < s.heap.objs.size := Heap.lt_size hit
      have hne : s.heap.objs.size ≠ it := Nat.ne_of_gt hlt
      have hT : h₃.get? h₁.objs.size = some { cls := .type "tuple", data := .seq (pickV items ix').toArray } := hs₃.extBut _ _ (by rw [e1]; exact hne) (Heap.get?_push_size _ rfl)
      have hz : h₃.objs.size = h₁.objs.size + 1 := by rw [hs₃.1, Heap.size_push]
      show Q (.ref h₁.objs.size) { s with heap := h₃ }
      have hit₃' : IsPm h₃ it pool 1 n (.ref h₁.objs.size) ix' cy' := hit₃
      rw [e1] at hT hz hit₃' ⊢
      exact hQ h₃ hit₃' hT hz fun c o hc e => hs₃.extBut _ _ hc (Heap.get?_push_of_some _ (hs₁.extBut _ _ hc e))
    · next heq =>
      have e := (np_any _ (fun _ _ _ => rfl) (fun _ _ _ _ => rfl) _ _ _ _).symm.trans heq
      rw [hst'] at e
      cases e
  · next _ h => exact absurd rfl h
theorem pm_end {it pool : Addr} {items : Array Value} {ix cy : List Nat} {last : Value} {Q : PySem.Fin → Shared → Prop} (hh : A.handled = none) (hit : IsPm s.heap it pool 1 n last ix cy) (hp : s.heap.IsTuple pool items) (hn : items.size = n) (hix : ix.length = n) (hcy : cy.length = n) (hstep : Rf.npStep n n ix cy = none)
    (hE : ∀ h' e, (∀ c o, c ≠ it → s.heap.get? c = some o → h'.get? c = some o) → (∃ o, h'.get? e = some o ∧ o.cls = .type "StopIteration") → E (.ref e) { s with heap := h' }) :
    wpAny (model prog w) A (Builtin.«itertools.permutations.__next__» ⟨[.ref it], []⟩) Q E s := by
  obtain ⟨op, hop, _, np, hdp⟩ := id hp
  have f0 : ∀ st l ix cy, (pmF pool st n l ix cy)[0]? = some (.ref pool) := fun _ _ _ _ => rfl
  have f1 : ∀ st l ix cy, (pmF pool st n l ix cy)[1]? = some (rawInt st) := fun _ _ _ _ => rfl
  have f2 : ∀ st l ix cy, (pmF pool st n l ix cy)[2]? = some (rawInt (n : Int)) := fun _ _ _ _ => rfl
  show wpAny _ _ (field (.ref it) 0 >>= _) _ _ _
  refine wpAny_bind (wpAny_field hit rfl (f0 _ _ _ _) ?_)
  show wpAny _ _ ((seqItems? (.ref pool) >>= _) >>= _) _ _ _
  refine wpAny_bind (wpAny_bind (wpAny_seqItems hop hdp (wpAny_pure ?_)))
  show wpAny _ _ ((field (.ref it) 2 >>= _) >>= _) _ _ _
  refine wpAny_bind (wpAny_bind (wpAny_field hit rfl (f2 _ _ _ _) (wpAny_pure ?_)))
  show wpAny _ _ ((load it >>= _) >>= _) _ _ _
  refine wpAny_bind (wpAny_bind (wpAny_load hit (wpAny_pure ?_)))
  show wpAny _ _ ((field (.ref it) 1 >>= _) >>= _) _ _ _
  refine wpAny_bind (wpAny_bind (wpAny_field hit rfl (f1 _ _ _ _) (wpAny_pure ?_)))
  generalize hN : (List.map _ (List.drop 4 (pmF pool 1 n last ix cy).toList)) = N
  have hN2 : N = ix ++ cy := by rw [← hN]; exact pm_drop pool 1 n last ix cy
  subst hN2
  have htk : (ix ++ cy).take items.size = ix := by rw [hn, List.take_left' hix]
  have hdr : (ix ++ cy).drop items.size = cy := by rw [hn, List.drop_left' hix]
  have hst' : Rf.npStep items.size ((n : Int)).toNat ((ix ++ cy).take items.size) ((ix ++ cy).drop items.size) = none := by rw [htk, hdr, Int.toNat_natCast, hn]; exact hstep
  split
  · next h => exact absurd h (by decide)
  · split
    · next i c heq =>
      have e := (np_any _ (fun _ _ _ => rfl) (fun _ _ _ _ => rfl) _ _ _ _).symm.trans heq
      rw [hst'] at e
      cases e
    · next heq =>
      refine wpAny_bind (wpAny_setField_rec hit (by rw [pm_size]; omega) fun h₁ hit₁ hs₁ => ?_)
      show wpAny _ _ (newExc (.type "StopIteration") [] >>= _) _ _ _
      refine wpAny_bind ?_
      simp only [newExc, newTuple]
      refine wpAny_bind (wpAny_newObj_type ?_ (by size_fits))
      refine wpAny_bind (m := firstArgMember _ _) (wpAny_of_eq (a := Value.none) (by first | rfl | (simp only [firstArgMember]; rfl)) ?_)
      refine wpAny_newObj_type ?_ (by size_fits)
      simp only [raiseNew]
      refine wpAny_bind (wpAny_handled ?_)
      first | rw [show A.in1.handled = none from hh] | rw [hh]
      refine wpAny_bind (wpAny_pure (wpAny_throw ?_))
      exact hE _ _ (fun c o hc e => Heap.get?_push_of_some _ (Heap.get?_push_of_some _ (hs₁.extBut _ _ hc e))) ⟨_, Heap.get?_push_size _ rfl, rfl⟩
  · next _ h => exact absurd rfl h
/-! as next -/
theorem next_of {it : Addr} {Q : Value → Shared → Prop} (hT : s.TypeIs (.ref it) "itertools.permutations") (h : wpAny (model prog w) A.in1 (Builtin.«itertools.permutations.__next__» ⟨[.ref it], []⟩) (fun fin s' => ∃ v, fin = .done (.ret v) ∧ Q v s') (fun _ _ => False) s) {R : Option Value → Shared → Prop} (hR : ∀ v s', Q v s' → R (some v) s') : wpAny (model prog w) A (pyNext (.ref it)) R E s := by
  unfold pyNext
  refine wpAny_bind (wpAny_attempt (wpAny_callSpecial?_slot (name := Str.ofString "__next__") hT slot_pm_next
    (wpAny_call_entry slot_pm_next hT entry_pm_next (wpAny_mono h (fun fin s' ⟨v, e, q⟩ => ⟨v, e, wpAny_pure (hR v s' q)⟩) fun _ _ z => z.elim) (args_pm_next _))))
theorem stop_of {it : Addr} {Q : PySem.Fin → Shared → Prop} {R : Option Value → Shared → Prop} (hT : s.TypeIs (.ref it) "itertools.permutations") (h : wpAny (model prog w) A.in1 (Builtin.«itertools.permutations.__next__» ⟨[.ref it], []⟩) (fun _ _ => False) (fun e s' => ∃ a o, e = .ref a ∧ s'.heap.get? a = some o ∧ o.cls = .type "StopIteration" ∧ R none s') s) : wpAny (model prog w) A (pyNext (.ref it)) R E s := by
  unfold pyNext
  refine wpAny_bind (wpAny_attempt (wpAny_callSpecial?_slot (name := Str.ofString "__next__") hT slot_pm_next
    (wpAny_call_entry slot_pm_next hT entry_pm_next (wpAny_mono h (fun _ _ z => z.elim) fun e s' z => ?_) (args_pm_next _))))
  obtain ⟨a, o, rfl, ho, hc, q⟩ := z
  refine wpAny_bind (wpAny_isInstance (T := "StopIteration") (b := true) ⟨o, ho, hc⟩ isSubtype_stop ?_)
  exact wpAny_pure q
end
end Pm
set_option Elab.async false
set_option linter.all false
set_option maxRecDepth 100000
set_option maxHeartbeats 2000000
namespace Pm
open PySem PySem.Spec
open Sem (wp)
theorem mro_cb : mroOf (.type "itertools.combinations") = pure [.type "itertools.combinations", .type "object"] := by rw [mroOf_type]; kernel_rfl
theorem lookup_cb_new : typeLookup (.type "itertools.combinations") "__new__" = pure (some (.builtin "itertools.combinations.__new__")) := by rw [typeLookup_type, builtinLookup_eq_fast]; kernel_rfl
theorem slot_cb_init : Slot "itertools.combinations" "__init__" "object.__init__" :=
  .of (owner := "object") (n := "__init__") (by rw [typeLookup_type, builtinLookup_eq_fast]; kernel_rfl) (by decide +kernel) (by decide +kernel) (by decide +kernel)
    (by first | exact .inl (by decide +kernel) | exact .inr (by decide +kernel)) (by rw [isSubtype_type]; kernel_rfl)
theorem sub_cb : isSubtype (.type "itertools.combinations") (.type "itertools.combinations") = pure true := by rw [isSubtype_type]; kernel_rfl
theorem called_cb : TypeCalled "itertools.combinations" "itertools.combinations.__new__" "object.__init__" :=
  ⟨by decide +kernel, by decide +kernel, ⟨_, _, mro_cb⟩, madeBy_type mro_cb lookup_cb_new (by decide +kernel), by decide +kernel, sub_cb, slot_cb_init⟩
theorem typeCall_cb (a b : Value) : checkTypeCall "itertools.combinations" ⟨[a, b], []⟩ = pure () := by kernel_rfl
theorem newCall_cb (a b : Value) : checkBuiltinCall "itertools.combinations.__new__" ⟨[.type "itertools.combinations", a, b], []⟩ = pure () := by kernel_rfl
theorem entry_cb_new : entryFor table "itertools.combinations.__new__" = some Builtin.«itertools.combinations.__new__» := entryFor_of_tree (by kernel_rfl)
theorem slot_cb_iter : Slot "itertools.combinations" "__iter__" "itertools.combinations.__iter__" :=
  .of (owner := "itertools.combinations") (n := "__iter__") (by rw [typeLookup_type, builtinLookup_eq_fast]; kernel_rfl) (by decide +kernel) (by decide +kernel) (by decide +kernel)
    (by first | exact .inl (by decide +kernel) | exact .inr (by decide +kernel)) sub_cb
theorem slot_cb_next : Slot "itertools.combinations" "__next__" "itertools.combinations.__next__" :=
  .of (owner := "itertools.combinations") (n := "__next__") (by rw [typeLookup_type, builtinLookup_eq_fast]; kernel_rfl) (by decide +kernel) (by decide +kernel) (by decide +kernel)
    (by first | exact .inl (by decide +kernel) | exact .inr (by decide +kernel)) sub_cb
theorem entry_cb_iter : entryFor table "itertools.combinations.__iter__" = some Builtin.«dict_keyiterator.__iter__» :=
  entryFor_alias (id' := "dict_keyiterator.__iter__") (by kernel_rfl) (by first | rfl | decide +kernel | (unfold String.splitOn; simp +decide [String.splitOnAux])) (by decide +kernel) (by kernel_rfl)
theorem entry_cb_next : entryFor table "itertools.combinations.__next__" = some Builtin.«itertools.combinations.__next__» := entryFor_of_tree (by kernel_rfl)
theorem owner_cb : Manifest.owners.lookup (String.ofList ['s', 'n', 'o', 'i', 't', 'a', 'n', 'i', 'b', 'm', 'o', 'c', '.', 's', 'l', 'o', 'o', 't', 'r', 'e', 't', 'i'].reverse) = some Manifest.sig_itertools_combinations := by kernel_rfl
theorem args_cb_iter (a : Value) : argsOk "itertools.combinations.__iter__" ⟨[a], []⟩ := by
  unfold argsOk; rw [signature?_of (id := "itertools.combinations.__iter__") (n := ['_', '_', 'r', 'e', 't', 'i', '_', '_']) (o := ['s', 'n', 'o', 'i', 't', 'a', 'n', 'i', 'b', 'm', 'o', 'c', '.', 's', 'l', 'o', 'o', 't', 'r', 'e', 't', 'i']) (by kernel_rfl) owner_cb]; kernel_rfl
theorem args_cb_next (a : Value) : argsOk "itertools.combinations.__next__" ⟨[a], []⟩ := by
  unfold argsOk; rw [signature?_of (id := "itertools.combinations.__next__") (n := ['_', '_', 't', 'x', 'e', 'n', '_', '_']) (o := ['s', 'n', 'o', 'i', 't', 'a', 'n', 'i', 'b', 'm', 'o', 'c', '.', 's', 'l', 'o', 'o', 't', 'r', 'e', 't', 'i']) (by kernel_rfl) owner_cb]; kernel_rfl
theorem noDict_cb : typeHasDict (.type "itertools.combinations") = false := by decide +kernel
end Pm
set_option Elab.async false
set_option linter.all false
set_option maxRecDepth 100000
set_option maxHeartbeats 2000000
namespace Pm
open PySem PySem.Spec PyProof.Rows
open Sem (wp)
theorem bind_cb (v u : Value) : Builtin.Itertools.itBindNamed "combinations" ["iterable", "r"] 2 2 [v, u] [] = pure [some v, some u] := by kernel_rfl
theorem class_cb (v u : Value) : Builtin.Itertools.itClassAndRest "combinations" ⟨[.type "itertools.combinations", v, u], []⟩ = pure (.type "itertools.combinations", [v, u]) := by
  have hcat : ("itertools." ++ "combinations" : String) = "itertools.combinations" := by decide +kernel
  unfold Builtin.Itertools.itClassAndRest
  show (isType (.type "itertools.combinations") >>= fun b => _) = _
  rw [show isType (.type "itertools.combinations") = pure true from by kernel_rfl]
  show (isSubtype (.type "itertools.combinations") (.type ("itertools." ++ "combinations")) >>= fun b => _) = _
  rw [hcat, sub_cb]
  rfl
theorem ssize_cb {k : Nat} (t : Tok) (h : k ≤ 1000) : Builtin.Itertools.itSsizeArg (.int (k : Int) t) = pure (k : Int) := by
  have hb : ¬ ((decide ((k : Int) < -(2 ^ 63 : Int)) || decide ((k : Int) ≥ 2 ^ 63)) = true) := by
    have q1 : decide ((k : Int) < -(2 ^ 63 : Int)) = false := decide_eq_false (by omega)
    have q2 : decide ((k : Int) ≥ (2 ^ 63 : Int)) = false := decide_eq_false (by omega)
    rw [q1, q2]
    decide
  unfold Builtin.Itertools.itSsizeArg
  rw [show asIndex (.int (k : Int) t) = pure (k : Int) from rfl]
  show (if (decide ((k : Int) < -(2 ^ 63 : Int)) || decide ((k : Int) ≥ 2 ^ 63)) = true then _ else pure (k : Int)) = _
  rw [if_neg hb]
def cbF (pool : Addr) (st : Int) (last : Value) (ix : List Nat) : Array Value := (([.ref pool, rawInt st, last] : List Value) ++ ix.map rawN).toArray
abbrev IsCb (h : Heap) (it pool : Addr) (st : Int) (last : Value) (ix : List Nat) : Prop := h.get? it = some { cls := .type "itertools.combinations", data := .fields (cbF pool st last ix) }
def cbSt (n k : Nat) : Int := if k > n then 2 else 0
section
variable {prog : Program} {w : World} {A : Around} {E : Value → Shared → Prop} {s : Shared} {r : Addr} {a b c : Int} {t u v : Tok} {n : Nat}
theorem code_cb_new {Q₁ : Value → Shared → Prop} {k : Nat} {tk : Tok} (hh : A.handled = none) (hr : IsRange s.heap r a b c t u v) (hsmall : Builtin.Range.small a b c = true) (hn : Builtin.Range.rangeSize a b c = n) (hlen : n ≤ 1000) (hk1 : k ≤ 1000)
    (h : ∀ (h' : Heap) (tk : Nat) (acc : Array Value), (∀ b o, s.heap.get? b = some o → h'.get? b = some o) → ItemsOf (fun i v => ∃ t, v = .int (a + i * c) t) acc n →
      Q₁ (.ref (h'.push { cls := .type "tuple", data := .seq acc }).objs.size) { s with heap := (h'.push { cls := .type "tuple", data := .seq acc }).push { cls := .type "itertools.combinations", data := .fields (cbF h'.objs.size (cbSt n k) .none (List.range k)) }, toks := tk }) :
    codeAny (model prog w) A (.call (.builtin "itertools.combinations.__new__") ⟨[.type "itertools.combinations", .ref r, .int (k : Int) tk], []⟩) (wants Q₁ E) s := by
  refine codeAny_of_tree ?_
  show wpAny _ A.in1 (do checkBuiltinCall "itertools.combinations.__new__" ⟨[.type "itertools.combinations", .ref r, .int (k : Int) tk], []⟩; again (.builtin "itertools.combinations.__new__" ⟨[.type "itertools.combinations", .ref r, .int (k : Int) tk], []⟩)) _ _ s
  refine wpAny_bind (wpAny_of_eq (newCall_cb _ _) (wpAny_pure ⟨plainId_quiet (by decide +kernel) _, codeAny_builtin entry_cb_new ?_⟩))
  rw [Around.under_plainId (by decide +kernel) _]
  have hcat : ("itertools." ++ "combinations" : String) = "itertools.combinations" := by decide +kernel
  have hsub := sub_cb
  have hd := noDict_cb
  have hTI : s.TypeIs (Value.ref r) "range" := ⟨_, hr, rfl⟩
  have hh1 : A.in1.handled = none := hh
  have hb : ¬ ((decide ((k : Int) < -(2 ^ 63 : Int)) || decide ((k : Int) ≥ 2 ^ 63)) = true) := by
    have q1 : decide ((k : Int) < -(2 ^ 63 : Int)) = false := decide_eq_false (by omega)
    have q2 : decide ((k : Int) ≥ (2 ^ 63 : Int)) = false := decide_eq_false (by omega)
    rw [q1, q2]
    decide
  show wpAny _ _ ((Builtin.Itertools.itClassAndRest "combinations" ⟨[.type "itertools.combinations", .ref r, .int (k : Int) tk], []⟩ >>= _) >>= _) _ _ _
  refine wpAny_bind (wpAny_bind (wpAny_of_eq (class_cb _ _) ?_))
  show wpAny _ _ (Builtin.Itertools.itBindNamed "combinations" ["iterable", "r"] 2 2 [.ref r, .int (k : Int) tk] [] >>= _) _ _ _
  refine wpAny_bind (wpAny_of_eq (bind_cb _ _) ?_)
  show wpAny _ _ (Builtin.Itertools.itSsizeArg (.int (k : Int) tk) >>= _) _ _ _
  refine wpAny_bind (wpAny_of_eq (ssize_cb _ hk1) ?_)
  show wpAny _ _ (collect (.ref r) >>= _) _ _ _
  refine wpAny_bind (L2.collect_range (A := A.in1) hh1 hr hsmall hn (by omega) ?_)
  intro h' tk acc hk hacc
  have hl : acc.toList.length = n := by rw [Array.length_toList]; exact hacc.1
  rw [if_neg (by omega)]
  show wpAny _ _ (if (decide ((k : Int) > 2 ^ 20)) = true then _ else _) _ _ _
  rw [if_neg (by rw [decide_eq_true_eq]; omega)]
  refine wpAny_bind (wpAny_newTuple ?_)
  refine wpAny_pure ?_
  refine wpAny_bind ?_
  unfold Builtin.Itertools.itNewRecord
  rw [hd]
  rw [if_pos (show (!false) = true from rfl)]
  have hF : (([.ref h'.objs.size, rawInt (if ((k : Int)).toNat > acc.toList.length then 2 else 0), .none] : List Value) ++ (List.range ((k : Int)).toNat).map (fun (i : Nat) => rawInt (i : Int))).toArray = cbF h'.objs.size (cbSt n k) .none (List.range k) := by
    rw [Int.toNat_natCast, hl]
    rfl
  have hsz : (([.ref h'.objs.size, rawInt (if ((k : Int)).toNat > acc.toList.length then 2 else 0), .none] : List Value) ++ (List.range ((k : Int)).toNat).map (fun (i : Nat) => rawInt (i : Int))).toArray.size ≤ sizeLine + 2 := by
    simp only [List.size_toArray, List.length_append, List.length_map, List.length_range, List.length_cons, List.length_nil, Int.toNat_natCast]
    rw [sizeLine_eq]
    omega
  refine wpAny_newObj_type ?_ hsz
  refine wpAny_pure ?_
  have hA : acc.toList.toArray = acc := by simp
  have q := h h' tk acc hk hacc
  rw [← hF, ← hA] at q
  exact q
end
end Pm
set_option Elab.async false
set_option linter.all false
set_option maxRecDepth 100000
set_option maxHeartbeats 2000000
namespace Pm
open PySem PySem.Spec PyProof.Rows
open Sem (wp)
section
variable {prog : Program} {w : World} {A : Around} {E : Value → Shared → Prop} {s : Shared} {r : Addr} {a b c : Int} {t u v : Tok} {n : Nat}
theorem call_cb_range {Q : Value → Shared → Prop} {k : Nat} {tk : Tok} (hh : A.handled = none) (hr : IsRange s.heap r a b c t u v) (hsmall : Builtin.Range.small a b c = true) (hn : Builtin.Range.rangeSize a b c = n) (hlen : n ≤ 1000) (hk1 : k ≤ 1000)
    (hQ : ∀ (h' : Heap) (tk : Nat) (acc : Array Value), (∀ b o, s.heap.get? b = some o → h'.get? b = some o) → ItemsOf (fun i v => ∃ t, v = .int (a + i * c) t) acc n →
      Q (.ref (h'.push { cls := .type "tuple", data := .seq acc }).objs.size) { s with heap := (h'.push { cls := .type "tuple", data := .seq acc }).push { cls := .type "itertools.combinations", data := .fields (cbF h'.objs.size (cbSt n k) .none (List.range k)) }, toks := tk }) :
    wpAny (model prog w) A (call (.type "itertools.combinations") [.ref r, .int (k : Int) tk]) Q E s := by
  refine callType_codes (Q₁ := fun obj s₁ => s₁.TypeIs obj "itertools.combinations" ∧ Q obj s₁) called_cb (typeCall_cb _ _) F.entry_object_init
    (code_cb_new (A := A.in1) hh hr hsmall hn hlen hk1 fun h' tk acc hk hacc => ⟨⟨_, Heap.get?_push_size _ rfl, rfl⟩, hQ h' tk acc hk hacc⟩) fun obj s₁ h₁ => ?_
  exact ⟨h₁.1, F.args_object_init_3 obj _ _, object_init_meets called_cb.init.lookup called_cb.made (by decide) prog w A.in1 _ s₁ ⟨h₁.1, rfl, h₁.2⟩⟩
theorem iter_cb {it pool : Addr} {st : Int} {last : Value} {ix : List Nat} {Q : Value → Shared → Prop} (hit : IsCb s.heap it pool st last ix) (h : Q (.ref it) s) : wpAny (model prog w) A (pyIter (.ref it)) Q E s := by
  have hT : s.TypeIs (.ref it) "itertools.combinations" := ⟨_, hit, rfl⟩
  refine wpAny_pyIter_slot hT slot_cb_iter (wpAny_call_entry slot_cb_iter hT entry_cb_iter ?_ (args_cb_iter _))
  show wpAny _ _ (ret (.ref it)) _ _ s
  exact wpAny_pure ⟨_, rfl, "itertools.combinations", _, hT, slot_cb_next.lookup, h⟩
/-! one choice after the other -/
theorem nc_find (n : Nat) (ix : List Nat) : ∀ k, (match (List.range k).reverse.find? (fun i => ix.getD i 0 != i + n - ix.length) with
    | none => none
    | some i => some (ix.take i ++ (List.range (ix.length - i)).map (ix.getD i 0 + 1 + ·))) = Rf.ncAt n ix k
  | 0 => rfl
  | k + 1 => by
    rw [List.range_succ, List.reverse_append, List.reverse_singleton, List.singleton_append, List.find?_cons, Rf.ncAt]
    by_cases h : ix.getD k 0 = k + n - ix.length
    · have e : (ix.getD k 0 != k + n - ix.length) = false := by simpa using h
      rw [e, if_pos h]
      exact nc_find n ix k
    · have e : (ix.getD k 0 != k + n - ix.length) = true := by simpa using h
      rw [e, if_neg h]
theorem nc_any (f : Nat → List Nat → Option (List Nat)) (h1 : ∀ n ix, f n ix = (match (List.range ix.length).reverse.find? (fun i => ix.getD i 0 != i + n - ix.length) with
    | none => none
    | some i => some (ix.take i ++ (List.range (ix.length - i)).map (ix.getD i 0 + 1 + ·)))) (n : Nat) (ix : List Nat) : f n ix = Rf.ncAt n ix ix.length := by
  rw [h1, nc_find]
theorem cb_set1 (pool : Addr) (st st' : Int) (last : Value) (ix : List Nat) : (cbF pool st last ix).setIfInBounds 1 (rawInt st') = cbF pool st' last ix := by
  unfold cbF
  simp
theorem cb_set2 (pool : Addr) (st : Int) (last last' : Value) (ix : List Nat) : (cbF pool st last ix).setIfInBounds 2 last' = cbF pool st last' ix := by
  unfold cbF
  simp
theorem cb_size (pool : Addr) (st : Int) (last : Value) (ix : List Nat) : (cbF pool st last ix).size = 3 + ix.length := by
  unfold cbF
  simp
  omega
theorem cb_drop (pool : Addr) (st : Int) (last : Value) (ix : List Nat) : ((cbF pool st last ix).toList.drop 3).map (fun v => match v with | .int k _ => k.toNat | _ => 0) = ix := by
  unfold cbF
  show (ix.map rawN).map _ = _
  rw [List.map_map]
  conv => rhs; rw [← List.map_id ix]
  apply List.map_congr_left
  intro k _
  show ((k : Int)).toNat = k
  exact Int.toNat_natCast k
theorem cb_put (pool : Addr) (st : Int) (last : Value) (ix ix' : List Nat) : (cbF pool st last ix).extract 0 3 ++ (ix'.map fun (k : Nat) => rawInt (k : Int)).toArray = cbF pool st last ix' := by
  unfold cbF
  apply Array.ext'
  simp [rawN, Function.comp_def]
theorem cb_item0 {it pool : Addr} {items : Array Value} {ix : List Nat} {last : Value} {Q : Value → Shared → Prop} (hit : IsCb s.heap it pool 0 last ix) (hp : s.heap.IsTuple pool items) (hsm : ix.length ≤ 1000)
    (hQ : ∀ h', IsCb h' it pool 1 (.ref s.heap.objs.size) ix → h'.get? s.heap.objs.size = some { cls := .type "tuple", data := .seq (pickV items ix).toArray } → h'.objs.size = s.heap.objs.size + 1 → (∀ c o, c ≠ it → s.heap.get? c = some o → h'.get? c = some o) → Q (.ref s.heap.objs.size) { s with heap := h' }) :
    wpAny (model prog w) A (Builtin.«itertools.combinations.__next__» ⟨[.ref it], []⟩) (fun fin s' => ∃ v, fin = .done (.ret v) ∧ Q v s') E s := by
  obtain ⟨op, hop, hcp, np, hdp⟩ := id hp
  have f0 : ∀ st l ix, (cbF pool st l ix)[0]? = some (.ref pool) := fun _ _ _ => rfl
  have f1 : ∀ st l ix, (cbF pool st l ix)[1]? = some (rawInt st) := fun _ _ _ => rfl
  have f2 : ∀ st l ix, (cbF pool st l ix)[2]? = some l := fun _ _ _ => rfl
  show wpAny _ _ (field (.ref it) 0 >>= _) _ _ _
  refine wpAny_bind (wpAny_field hit rfl (f0 _ _ _) ?_)
  show wpAny _ _ ((load it >>= _) >>= _) _ _ _
  refine wpAny_bind (wpAny_bind (wpAny_load hit (wpAny_pure ?_)))
  show wpAny _ _ ((field (.ref it) 1 >>= _) >>= _) _ _ _
  refine wpAny_bind (wpAny_bind (wpAny_field hit rfl (f1 _ _ _) (wpAny_pure ?_)))
  generalize hN : (List.map _ (List.drop 3 (cbF pool 0 last ix).toList)) = N
  have hN2 : N = ix := by rw [← hN]; exact cb_drop pool 0 last ix
  subst hN2
  show wpAny _ _ (setField (.ref it) 1 (rawInt 1) >>= _) _ _ _
  refine wpAny_bind (wpAny_setField_rec hit (by rw [cb_size]; omega) fun h₁ hit₁ hs₁ => ?_)
  rw [cb_set1] at hit₁
  have hpi : it ≠ pool := fun e => by
    subst e
    rw [hit] at hop
    cases hop
    simp at hcp
  have hop₁ : h₁.get? pool = some op := hs₁.extBut _ _ (Ne.symm hpi) hop
  show wpAny _ _ ((((seqItems? (.ref pool) >>= _) >>= _)) >>= _) _ _ _
  refine wpAny_bind (wpAny_bind (wpAny_bind (wpAny_seqItems (s := { s with heap := h₁ }) hop₁ hdp (wpAny_pure ?_))))
  refine wpAny_newTuple ?_ (by rw [List.length_map, sizeLine_eq]; omega)
  have hit₂ : IsCb (h₁.push { cls := .type "tuple", data := .seq (pickV items N).toArray }) it pool 1 last N := Heap.get?_push_of_some _ hit₁
  show wpAny _ _ (field (.ref it) 2 >>= _) _ _ _
  refine wpAny_bind (wpAny_field hit₂ rfl (f2 _ _ _) ?_)
  refine wpAny_bind (wpAny_setField_rec hit₂ (by rw [cb_size]; omega) fun h₃ hit₃ hs₃ => ?_)
  rw [cb_set2] at hit₃
  refine wpAny_bind (wpAny_letGo (wpAny_pure ⟨_, rfl, ?_⟩))
  have e1 : h₁.objs.size = s.heap.objs.size := hs₁.1
  have hlt : it < s.heap.objs.size := Heap.lt_size hit
  have hne : s.heap.objs.size ≠ it := Nat.ne_of_gt hlt
  have hT : h₃.get? h₁.objs.size = some { cls := .type "tuple", data := .seq (pickV items N).toArray } := hs₃.extBut _ _ (by rw [e1]; exact hne) (Heap.get?_push_size _ rfl)
  have hz : h₃.objs.size = h₁.objs.size + 1 := by rw [hs₃.1, Heap.size_push]
  show Q (.ref h₁.objs.size) { s with heap := h₃ }
  have hit₃' : IsCb h₃ it pool 1 (.ref h₁.objs.size) N := hit₃
  rw [e1] at hT hz hit₃' ⊢
  exact hQ h₃ hit₃' hT hz fun c o hc e => hs₃.extBut _ _ hc (Heap.get?_push_of_some _ (hs₁.extBut _ _ hc e))
theorem cb_item1 {it pool : Addr} {items : Array Value} {ix ix' : List Nat} {last : Value} {Q : Value → Shared → Prop} (hit : IsCb s.heap it pool 1 last ix) (hp : s.heap.IsTuple pool items) (hn : items.size = n) (hsm : ix'.length ≤ 1000) (hstep : Rf.ncAt n ix ix.length = some ix')
    (hQ : ∀ h', IsCb h' it pool 1 (.ref s.heap.objs.size) ix' → h'.get? s.heap.objs.size = some { cls := .type "tuple", data := .seq (pickV items ix').toArray } → h'.objs.size = s.heap.objs.size + 1 → (∀ c o, c ≠ it → s.heap.get? c = some o → h'.get? c = some o) → Q (.ref s.heap.objs.size) { s with heap := h' }) :
    wpAny (model prog w) A (Builtin.«itertools.combinations.__next__» ⟨[.ref it], []⟩) (fun fin s' => ∃ v, fin = .done (.ret v) ∧ Q v s') E s := by
  obtain ⟨op, hop, hcp, np, hdp⟩ := id hp
  have f0 : ∀ st l ix, (cbF pool st l ix)[0]? = some (.ref pool) := fun _ _ _ => rfl
  have f1 : ∀ st l ix, (cbF pool st l ix)[1]? = some (rawInt st) := fun _ _ _ => rfl
  have f2 : ∀ st l ix, (cbF pool st l ix)[2]? = some l := fun _ _ _ => rfl
  show wpAny _ _ (field (.ref it) 0 >>= _) _ _ _
  refine wpAny_bind (wpAny_field hit rfl (f0 _ _ _) ?_)
  show wpAny _ _ ((load it >>= _) >>= _) _ _ _
  refine wpAny_bind (wpAny_bind (wpAny_load hit (wpAny_pure ?_)))
  show wpAny _ _ ((field (.ref it) 1 >>= _) >>= _) _ _ _
  refine wpAny_bind (wpAny_bind (wpAny_field hit rfl (f1 _ _ _) (wpAny_pure ?_)))
  generalize hN : (List.map _ (List.drop 3 (cbF pool 1 last ix).toList)) = N
  have hN2 : N = ix := by rw [← hN]; exact cb_drop pool 1 last ix
  subst hN2
  split
  · next h => exact absurd h (by decide)
  · refine wpAny_bind ?_
    show wpAny _ _ (seqItems? (.ref pool) >>= _) _ _ _
    refine wpAny_bind (wpAny_seqItems hop hdp (wpAny_pure ?_))
    split
    · next ix2 heq =>
      have e := (nc_any _ (fun _ _ => rfl) _ _).symm.trans heq
      rw [hn, hstep] at e
      cases e
      show wpAny _ _ (updateFields it _ >>= _) _ _ _
      refine wpAny_bind (wpAny_updateFields hit rfl ?_ (by rw [cb_put, cb_size]; rw [sizeLine_eq]; omega))
      have hu : (s.heap.update it (Obj.mapFields fun fs => fs.extract 0 3 ++ (ix'.map fun (k : Nat) => rawInt (k : Int)).toArray)).get? it = some { cls := .type "itertools.combinations", data := .fields ((cbF pool 1 last N).extract 0 3 ++ (ix'.map fun (k : Nat) => rawInt (k : Int)).toArray) } := Heap.get?_update_self _ hit rfl
      rw [cb_put] at hu
      have hs₁ : Heap.SameBut it s.heap (s.heap.update it (Obj.mapFields fun fs => fs.extract 0 3 ++ (ix'.map fun (k : Nat) => rawInt (k : Int)).toArray)) := Heap.SameBut.update ..
      generalize s.heap.update it (Obj.mapFields fun fs => fs.extract 0 3 ++ (ix'.map fun (k : Nat) => rawInt (k : Int)).toArray) = h₁ at hu hs₁ ⊢
      have hpi : it ≠ pool := fun e => by
        subst e
        rw [hit] at hop
        cases hop
        simp at hcp
      have hop₁ : h₁.get? pool = some op := hs₁.extBut _ _ (Ne.symm hpi) hop
      show wpAny _ _ ((((seqItems? (.ref pool) >>= _) >>= _)) >>= _) _ _ _
      refine wpAny_bind (wpAny_bind (wpAny_bind (wpAny_seqItems (s := { s with heap := h₁ }) hop₁ hdp (wpAny_pure ?_))))
      refine wpAny_newTuple ?_ (by rw [List.length_map, sizeLine_eq]; omega)
      have hit₂ : IsCb (h₁.push { cls := .type "tuple", data := .seq (pickV items ix').toArray }) it pool 1 last ix' := Heap.get?_push_of_some _ hu
      show wpAny _ _ (field (.ref it) 2 >>= _) _ _ _
      refine wpAny_bind (wpAny_field hit₂ rfl (f2 _ _ _) ?_)
      refine wpAny_bind (wpAny_setField_rec hit₂ (by rw [cb_size]; omega) fun h₃ hit₃ hs₃ => ?_)
      rw [cb_set2] at hit₃
      refine wpAny_bind (wpAny_letGo (wpAny_pure ⟨_, rfl, ?_⟩))
      have e1 : h₁.objs.size = s.heap.objs.size := hs₁.1
      have hlt : it < s.heap.objs.size := Heap.lt_size hit
      have hne : s.heap.objs.size ≠ it := Nat.ne_of_gt hlt
      have hT : h₃.get? h₁.objs.size = some { cls := .type "tuple", data := .seq (pickV items ix').toArray } := hs₃.extBut _ _ (by rw [e1]; exact hne) (Heap.get?_push_size _ rfl)
      have hz : h₃.objs.size = h₁.objs.size + 1 := by rw [hs₃.1, Heap.size_push]
      show Q (.ref h₁.objs.size) { s with heap := h₃ }
      have hit₃' : IsCb h₃ it pool 1 (.ref h₁.objs.size) ix' := hit₃
      rw [e1] at hT hz hit₃' ⊢
      exact hQ h₃ hit₃' hT hz fun c o hc e => hs₃.extBut _ _ hc (Heap.get?_push_of_some _ (hs₁.extBut _ _ hc e))
    · next heq =>
      have e := (nc_any _ (fun _ _ => rfl) _ _).symm.trans heq
      rw [hn, hstep] at e
      cases e
  · next _ h => exact absurd rfl h
theorem stop_exc {Q : PySem.Fin → Shared → Prop} (hh : A.handled = none)
    (hE : ∀ h' e, (∀ c o, s.heap.get? c = some o → h'.get? c = some o) → (∃ o, h'.get? e = some o ∧ o.cls = .type "StopIteration") → E (.ref e) { s with heap := h' }) :
    wpAny (model prog w) A (Builtin.Itertools.itStop (α := PySem.Fin)) Q E s := by
  show wpAny _ _ (newExc (.type "StopIteration") [] >>= _) _ _ _
  refine wpAny_bind ?_
  simp only [newExc, newTuple]
  refine wpAny_bind (wpAny_newObj_type ?_ (by size_fits))
  refine wpAny_bind (m := firstArgMember _ _) (wpAny_of_eq (a := Value.none) (by first | rfl | (simp only [firstArgMember]; rfl)) ?_)
  refine wpAny_newObj_type ?_ (by size_fits)
  simp only [raiseNew]
  refine wpAny_bind (wpAny_handled ?_)
  first | rw [show A.in1.handled = none from hh] | rw [hh]
  refine wpAny_bind (wpAny_pure (wpAny_throw ?_))
  exact hE _ _ (fun c o e => Heap.get?_push_of_some _ (Heap.get?_push_of_some _ e)) ⟨_, Heap.get?_push_size _ rfl, rfl⟩
theorem cb_end {it pool : Addr} {items : Array Value} {ix : List Nat} {last : Value} {Q : PySem.Fin → Shared → Prop} (hh : A.handled = none) (hit : IsCb s.heap it pool 1 last ix) (hp : s.heap.IsTuple pool items) (hn : items.size = n) (hstep : Rf.ncAt n ix ix.length = none)
    (hE : ∀ h' e, (∀ c o, c ≠ it → s.heap.get? c = some o → h'.get? c = some o) → (∃ o, h'.get? e = some o ∧ o.cls = .type "StopIteration") → E (.ref e) { s with heap := h' }) :
    wpAny (model prog w) A (Builtin.«itertools.combinations.__next__» ⟨[.ref it], []⟩) Q E s := by
  obtain ⟨op, hop, hcp, np, hdp⟩ := id hp
  have f0 : ∀ st l ix, (cbF pool st l ix)[0]? = some (.ref pool) := fun _ _ _ => rfl
  have f1 : ∀ st l ix, (cbF pool st l ix)[1]? = some (rawInt st) := fun _ _ _ => rfl
  show wpAny _ _ (field (.ref it) 0 >>= _) _ _ _
  refine wpAny_bind (wpAny_field hit rfl (f0 _ _ _) ?_)
  show wpAny _ _ ((load it >>= _) >>= _) _ _ _
  refine wpAny_bind (wpAny_bind (wpAny_load hit (wpAny_pure ?_)))
  show wpAny _ _ ((field (.ref it) 1 >>= _) >>= _) _ _ _
  refine wpAny_bind (wpAny_bind (wpAny_field hit rfl (f1 _ _ _) (wpAny_pure ?_)))
  generalize hN : (List.map _ (List.drop 3 (cbF pool 1 last ix).toList)) = N
  have hN2 : N = ix := by rw [← hN]; exact cb_drop pool 1 last ix
  subst hN2
  split
  · next h => exact absurd h (by decide)
  · refine wpAny_bind ?_
    show wpAny _ _ (seqItems? (.ref pool) >>= _) _ _ _
    refine wpAny_bind (wpAny_seqItems hop hdp (wpAny_pure ?_))
    split
    · next ix2 heq =>
      have e := (nc_any _ (fun _ _ => rfl) _ _).symm.trans heq
      rw [hn, hstep] at e
      cases e
    · next heq =>
      refine wpAny_bind (wpAny_setField_rec hit (by rw [cb_size]; omega) fun h₁ hit₁ hs₁ => ?_)
      exact stop_exc hh fun h' e hk he => hE h' e (fun c o hc q => hk c o (hs₁.extBut _ _ hc q)) he
  · next _ h => exact absurd rfl h
/-- more places asked for than there are -/
theorem cb_over {it pool : Addr} {ix : List Nat} {last : Value} {Q : PySem.Fin → Shared → Prop} (hh : A.handled = none) (hit : IsCb s.heap it pool 2 last ix)
    (hE : ∀ h' e, (∀ c o, c ≠ it → s.heap.get? c = some o → h'.get? c = some o) → (∃ o, h'.get? e = some o ∧ o.cls = .type "StopIteration") → E (.ref e) { s with heap := h' }) :
    wpAny (model prog w) A (Builtin.«itertools.combinations.__next__» ⟨[.ref it], []⟩) Q E s := by
  have f0 : ∀ st l ix, (cbF pool st l ix)[0]? = some (.ref pool) := fun _ _ _ => rfl
  have f1 : ∀ st l ix, (cbF pool st l ix)[1]? = some (rawInt st) := fun _ _ _ => rfl
  show wpAny _ _ (field (.ref it) 0 >>= _) _ _ _
  refine wpAny_bind (wpAny_field hit rfl (f0 _ _ _) ?_)
  show wpAny _ _ ((load it >>= _) >>= _) _ _ _
  refine wpAny_bind (wpAny_bind (wpAny_load hit (wpAny_pure ?_)))
  show wpAny _ _ ((field (.ref it) 1 >>= _) >>= _) _ _ _
  refine wpAny_bind (wpAny_bind (wpAny_field hit rfl (f1 _ _ _) (wpAny_pure ?_)))
  split
  · next h => exact absurd h (by decide)
  · next h => exact absurd h (by decide)
  · refine wpAny_bind (wpAny_rule ?_)
    exact stop_exc hh fun h' e hk he => hE h' e (fun c o hc q => hk c o q) he
theorem next_cb {it : Addr} {Q : Value → Shared → Prop} (hT : s.TypeIs (.ref it) "itertools.combinations") (h : wpAny (model prog w) A.in1 (Builtin.«itertools.combinations.__next__» ⟨[.ref it], []⟩) (fun fin s' => ∃ v, fin = .done (.ret v) ∧ Q v s') (fun _ _ => False) s) {R : Option Value → Shared → Prop} (hR : ∀ v s', Q v s' → R (some v) s') : wpAny (model prog w) A (pyNext (.ref it)) R E s := by
  unfold pyNext
  refine wpAny_bind (wpAny_attempt (wpAny_callSpecial?_slot (name := Str.ofString "__next__") hT slot_cb_next
    (wpAny_call_entry slot_cb_next hT entry_cb_next (wpAny_mono h (fun fin s' ⟨v, e, q⟩ => ⟨v, e, wpAny_pure (hR v s' q)⟩) fun _ _ z => z.elim) (args_cb_next _))))
theorem stop_cb {it : Addr} {R : Option Value → Shared → Prop} (hT : s.TypeIs (.ref it) "itertools.combinations") (h : wpAny (model prog w) A.in1 (Builtin.«itertools.combinations.__next__» ⟨[.ref it], []⟩) (fun _ _ => False) (fun e s' => ∃ a o, e = .ref a ∧ s'.heap.get? a = some o ∧ o.cls = .type "StopIteration" ∧ R none s') s) : wpAny (model prog w) A (pyNext (.ref it)) R E s := by
  unfold pyNext
  refine wpAny_bind (wpAny_attempt (wpAny_callSpecial?_slot (name := Str.ofString "__next__") hT slot_cb_next
    (wpAny_call_entry slot_cb_next hT entry_cb_next (wpAny_mono h (fun _ _ z => z.elim) fun e s' z => ?_) (args_cb_next _))))
  obtain ⟨a, o, rfl, ho, hc, q⟩ := z
  refine wpAny_bind (wpAny_isInstance (T := "StopIteration") (b := true) ⟨o, ho, hc⟩ isSubtype_stop ?_)
  exact wpAny_pure q
end
end Pm
set_option Elab.async false
set_option linter.all false
set_option maxRecDepth 100000
set_option maxHeartbeats 1000000
/-! Rf: a small evaluator over plain data for the part of Python that these laws are written in. -/
namespace Rf
open PySem PySem.W L2

abbrev D := PyData

/-- what a name holds: nothing yet, plain data, a list of its own that grows, a list lent by the caller -/
inductive Slot where
  | un
  | val (d : D)
  | own (ds : List D)
  | io (ds : List D)
abbrev Rho := List Slot

inductive Res (α : Type) where
  | ok (a : α) (r : Rho)
  | exc (x : Nat) (d : D) (r : Rho)
  | bad
inductive FRes where
  | ok (d : D) (cs : List D)
  | exc (x : Nat) (d : D)
  | bad
abbrev Fn := List D → List D → FRes

@[inline] def Res.bind {α β : Type} (x : Res α) (f : α → Rho → Res β) : Res β := match x with
  | .ok a r => f a r
  | .exc x d r => .exc x d r
  | .bad => .bad
/-- the same where nothing may be raised -/
@[inline] def Res.calm {α β : Type} (x : Res α) (f : α → Rho → Res β) : Res β := match x with
  | .ok a r => f a r
  | _ => .bad

inductive Ty where | int | bool | str | list | tuple
  deriving DecidableEq
inductive Bop where | add | sub | mul | div | mod | pow
  deriving DecidableEq
inductive Cop where | lt | le | gt | ge | eq | ne | is | isnot | isin | notin
  deriving DecidableEq
inductive Bi where | len | int | tuple | list | sum | max | min | abs | any | all | sorted
  deriving DecidableEq
/-- a part of a target: a name, names in brackets -/
inductive Tq where
  | nm (i : Nat)
  | tp (is : List Nat)
  deriving DecidableEq
inductive Tg where
  | nm (i : Nat)
  | tp (is : List Nat)
  | tt (qs : List Tq)
  deriving DecidableEq

inductive E where
  | var (i : Nat)
  | cst (d : D)
  | nil
  | cons (a r : E)
  | tup (es : E)
  | lst (es : E)
  | bin (o : Bop) (a b : E)
  | neg (a : E)
  | not (a : E)
  | cmp (o : Cop) (a b : E)
  | and (a b : E)
  | or (a b : E)
  | ite (c a b : E)
  | ix (a i : E)
  | sl (a lo hi : E)
  | call (f : Nat) (args : E)
  | call0 (f : Nat)
  | callio (f : Nat) (pre : E) (i : Nat) (post : E)
  | isi (a : E) (ts : List Ty)
  | bi (b : Bi) (a : E)
  | bi2 (b : Bi) (a c : E)
  | lc (elt : E) (tg : Tg) (it : E) (cond : E) (own : List Nat)
  | lc2 (elt : E) (tg : Tg) (it : E) (cond : E) (tg1 : Tg) (it1 : E) (cond1 : E) (own own1 : List Nat)
  | rng1 (a : E)
  | rng2 (a b : E)
  | zip (a b : E)
  | enum (a : E)
  | allint (i lo hi : Nat)
  | told (f : Nat) (e : E)
  | meth (m : Nat) (o : E) (args : E)
  | nset (a : E)
  | lc3 (elt : E) (tg : Tg) (it : E) (cond : E) (tg1 : Tg) (it1 : E) (cond1 : E) (tg2 : Tg) (it2 : E) (cond2 : E) (own own1 own2 : List Nat)
  | perm1 (a : E)
  | perm2 (a b : E)
  | comb (a b : E)
  | chain (o1 o2 : Cop) (a b c : E)
  | lrng1 (t : Bool) (a : E)
  | g2 (l : Bool) (a b : E)
  | dflt (b : Bi) (a c : E)

/-! ### plain operations -/
def big : Nat := 1000000
def fits (ds : List D) : Bool := decide (ds.length ≤ big)

def isTy : Ty → D → Bool
  | .int, .int _ => true
  | .int, .bool _ => true
  | .bool, .bool _ => true
  | .str, .str _ => true
  | .list, .list _ => true
  | .tuple, .tuple _ => true
  | _, _ => false

def truth : D → Option Bool
  | .none => some false
  | .bool b => some b
  | .int i => some (i != 0)
  | .list ds => some (!ds.isEmpty)
  | .tuple ds => some (!ds.isEmpty)
  | .str s => if s.length ≤ big then some (s.length != 0) else none
  | _ => none

def items : D → Option (List D)
  | .list ds => some ds
  | .tuple ds => some ds
  | _ => none

def intsD : List D → Option (List Int)
  | [] => some []
  | .int i :: r => (intsD r).map (i :: ·)
  | _ => none
def boolsD : List D → Option (List Bool)
  | [] => some []
  | .bool i :: r => (boolsD r).map (i :: ·)
  | _ => none

def allAlike (ds : List D) : Bool := (ds.all fun x => ds.all fun y => alike x y) && ds.all fun x => match x with | .none => false | _ => true

def mulOk (i j : Int) : Bool := decide ((-(2 ^ 64) < i ∧ i < 2 ^ 64) ∨ (-(2 ^ 64) < j ∧ j < 2 ^ 64))
def powOk (i j : Int) : Bool := decide (0 ≤ j ∧ j ≤ 1000000 ∧ i.natAbs < 2 ^ 64)

def binD : Bop → D → D → Option D
  | .add, .int i, .int j => some (.int (i + j))
  | .add, .list xs, .list ys => if fits (xs ++ ys) then some (.list (xs ++ ys)) else none
  | .add, .tuple xs, .tuple ys => if fits (xs ++ ys) then some (.tuple (xs ++ ys)) else none
  | .add, .str x, .str y => if x.length + y.length ≤ big then some (.str (x ++ y)) else none
  | .sub, .int i, .int j => some (.int (i - j))
  | .mul, .int i, .int j => if mulOk i j then some (.int (i * j)) else none
  | .mul, .list xs, .int j => if 0 ≤ j ∧ j ≤ 1000000 ∧ xs.length * j.toNat ≤ big then some (.list (List.replicate j.toNat xs).flatten) else none
  | .mul, .tuple xs, .int j => if 2 ≤ j ∧ j ≤ 1000 ∧ xs.length ≤ 1000 ∧ xs.isEmpty = false then some (.tuple (List.replicate j.toNat xs).flatten) else none
  | .div, .int i, .int j => if 0 < j ∧ j < 1073741824 then some (.int (i / j)) else none
  | .mod, .int i, .int j => if 0 < j then some (.int (i % j)) else none
  | .pow, .int i, .int j => if powOk i j then some (.int (i ^ j.toNat)) else none
  | _, _, _ => none

def ordOk (a b : D) : Bool := alike a b && SeqAt.shaped a && SeqAt.shaped b
def ltD : D → D → Option Bool
  | .int i, .int j => some (decide (i < j))
  | .str x, .str y => some (decide (x.cps.toList < y.cps.toList))
  | .tuple xs, .tuple ys => if ordOk (.tuple xs) (.tuple ys) then some (dataLt (.tuple xs) (.tuple ys)) else none
  | _, _ => none
def isNone : D → Bool
  | .none => true
  | _ => false
def inD (x : D) (ys : List D) : Bool := ys.any fun y => PyData.eqv y x

def cmpD : Cop → D → D → Option Bool
  | .lt, a, b => ltD a b
  | .gt, .int i, .int j => some (decide (j < i))
  | .le, .int i, .int j => some (decide (i ≤ j))
  | .ge, .int i, .int j => some (decide (j ≤ i))
  | .eq, a, b => if SeqAt.shaped a && SeqAt.shaped b then some (PyData.eqv a b) else none
  | .ne, a, b => if SeqAt.shaped a && SeqAt.shaped b then some (!PyData.eqv a b) else none
  | .is, a, .none => some (isNone a)
  | .isnot, a, .none => some (!isNone a)
  | .isin, x, .list ys => if SeqAt.shaped x && SeqAt.shaped (.list ys) then some (inD x ys) else none
  | .isin, x, .tuple ys => if SeqAt.shaped x && SeqAt.shaped (.tuple ys) then some (inD x ys) else none
  | .notin, x, .list ys => if SeqAt.shaped x && SeqAt.shaped (.list ys) then some (!inD x ys) else none
  | .notin, x, .tuple ys => if SeqAt.shaped x && SeqAt.shaped (.tuple ys) then some (!inD x ys) else none
  | _, _, _ => none

def cut {α : Type} (xs : List α) (lo hi : Option Int) : List α := (xs.drop (HT.sIx xs.length 0 lo)).take (HT.sIx xs.length xs.length hi - HT.sIx xs.length 0 lo)

def ixD : D → D → Option D
  | .list xs, .int i => atI xs i
  | .tuple xs, .int i => atI xs i
  | .str z, .int i => if z.length ≤ big then (atI z.cps.toList i).map fun c => .str ⟨#[c]⟩ else none
  | _, _ => none
def slD : D → Option Int → Option Int → Option D
  | .list xs, lo, hi => some (.list (cut xs lo hi))
  | .tuple xs, lo, hi => some (.tuple (cut xs lo hi))
  | .dict kvs, lo, hi => some (.list (cut (kvs.map (·.1)) lo hi))
  | _, _, _ => none

def slowP (pick : D → List D → D) (x : D) (r : List D) : Option D := if allAlike (x :: r) && SeqAt.shaped (.list (x :: r)) then some (pick x r) else none
/-- the least or the greatest: of ints, of alike data -/
def pickOf (pick : D → List D → D) (pi : Int → Int → Int) : List D → Option D
  | [] => none
  | .int n :: r => match intsD r with
    | some ns => some (.int (ns.foldl pi n))
    | none => slowP pick (.int n) r
  | x :: r => slowP pick x r
/-- may be sorted: tuples with an item at least, or neither tuples nor None -/
def sortable (ds : List D) : Bool := (ds.all fun d => match d with | .tuple (_ :: _) => true | _ => false) || ds.all fun d => match d with | .tuple _ => false | .none => false | _ => true
def sortD (ds : List D) : Option D := match intsD ds with
  | some ns => some (.list ((ns.mergeSort fun a b => decide (a ≤ b)).map .int))
  | none => if allAlike ds && SeqAt.shaped (.list ds) && sortable ds then some (.list (ds.mergeSort (PySem.W.dataLe false id))) else none
def biD : Bi → D → Option D
  | .len, .list ds => some (.int ds.length)
  | .len, .tuple ds => some (.int ds.length)
  | .len, .str s => if s.length ≤ big then some (.int s.length) else none
  | .int, .int i => some (.int i)
  | .int, .bool b => some (.int (if b then 1 else 0))
  | .tuple, .list ds => some (.tuple ds)
  | .tuple, .tuple ds => some (.tuple ds)
  | .list, .list ds => some (.list ds)
  | .list, .tuple ds => some (.list ds)
  | .abs, .int i => some (.int (if i < 0 then -i else i))
  | .sum, d => (items d).bind fun ds => (intsD ds).map fun ns => .int ns.sum
  | .any, .list ds => (boolsD ds).map fun bs => .bool (bs.any id)
  | .all, .list ds => (boolsD ds).map fun bs => .bool (bs.all id)
  | .max, d => (items d).bind (pickOf PySem.W.maxD max)
  | .min, d => (items d).bind (pickOf PySem.W.minD min)
  | .sorted, .list ds => sortD ds
  | _, _ => none
def bi2D : Bi → D → D → Option D
  | .max, .int i, .int j => some (.int (if j > i then j else i))
  | .min, .int i, .int j => some (.int (if j < i then j else i))
  | _, _, _ => none

def rngD : List D → Option (List D)
  | [.int n] => if -1000000 ≤ n ∧ n ≤ 1000000 then some ((List.range n.toNat).map fun (k : Nat) => .int (k : Int)) else none
  | [.int a, .int n] => if -1000000 ≤ a ∧ a ≤ 1000000 ∧ -1000000 ≤ n ∧ n ≤ 1000000 then some ((List.range (n - a).toNat).map fun (k : Nat) => .int (a + (k : Int))) else none
  | _ => none
def zipD (a b : List D) : List D := (a.zip b).map fun p => .tuple [p.1, p.2]
def enumFrom : Int → List D → List D
  | _, [] => []
  | k, x :: r => .tuple [.int k, x] :: enumFrom (k + 1) r

/-! ### slots -/
def peek (r : Rho) (i : Nat) : Option D := match r[i]? with
  | some (.val d) => some d
  | some (.own ds) => some (.list ds)
  | some (.io ds) => some (.list ds)
  | _ => none
/-- a name's value, to be handed on: a list of its own is never changed again -/
def give (r : Rho) (i : Nat) : Res D := match r[i]? with
  | some (.val d) => .ok d r
  | some (.own ds) => .ok (.list ds) (r.set i (.val (.list ds)))
  | _ => .bad
def asgs : List Nat → List D → Rho → Option Rho
  | [], [], r => some r
  | i :: is, d :: ds, r => asgs is ds (r.set i (.val d))
  | _, _, _ => none
def asgQ (q : Tq) (d : D) (r : Rho) : Option Rho := match q with
  | .nm i => some (r.set i (.val d))
  | .tp is => match d with
      | .tuple ds => asgs is ds r
      | _ => none
def asgqs : List Tq → List D → Rho → Option Rho
  | [], [], r => some r
  | q :: qs, d :: ds, r => (asgQ q d r).bind (asgqs qs ds)
  | _, _, _ => none
def asgT (t : Tg) (d : D) (r : Rho) : Option Rho := match t with
  | .nm i => some (r.set i (.val d))
  | .tp is => match d with
      | .tuple ds => asgs is ds r
      | _ => none
  | .tt qs => match d with
      | .tuple ds => asgqs qs ds r
      | _ => none
def wipeR (r : Rho) : List Nat → Rho
  | [] => r
  | v :: vs => (wipeR r vs).set v .un
/-- the slots at vs as they were in r0 -/
def backR (r0 r : Rho) : List Nat → Rho
  | [] => r
  | v :: vs => (backR r0 r vs).set v (r0.getD v .un)

def opt {α : Type} (o : Option α) (r : Rho) : Res α := match o with
  | some a => .ok a r
  | none => .bad

def lcLoop (body : D → Rho → Res (Option D)) : List D → Rho → Res (List D)
  | [], r => .ok [] r
  | x :: xs, r => (body x r).calm fun o r1 => (lcLoop body xs r1).calm fun ys r2 => .ok (o.toList ++ ys) r2
def lcLoop2 (body : D → Rho → Res (List D)) : List D → Rho → Res (List D)
  | [], r => .ok [] r
  | x :: xs, r => (body x r).calm fun o r1 => (lcLoop2 body xs r1).calm fun ys r2 => .ok (o ++ ys) r2

/-- methods that plain data have; by number -/
def methD : Nat → D → List D → Option D
  | 0, .list xs, [y] => if SeqAt.shaped y && SeqAt.shaped (.list xs) then (xs.findIdx? fun x => PyData.eqv x y).map fun (j : Nat) => .int (j : Int) else none
  | 1, .list xs, [y] => if SeqAt.shaped y && SeqAt.shaped (.list xs) then some (.int (xs.countP fun x => PyData.eqv x y)) else none
  | 0, .tuple xs, [y] => if SeqAt.shaped y && SeqAt.shaped (.tuple xs) then (xs.findIdx? fun x => PyData.eqv x y).map fun (j : Nat) => .int (j : Int) else none
  | 1, .tuple xs, [y] => if SeqAt.shaped y && SeqAt.shaped (.tuple xs) then some (.int (xs.countP fun x => PyData.eqv x y)) else none
  | _, _, _ => none
/-- the same, of what stands there now (z) and stood there ahead of the arguments (x) -/
def methK (m : Nat) (x z : D) (ys : List D) : Option D := match x, z with
  | .list _, .list zs => methD m (.list zs) ys
  | .tuple _, .tuple zs => methD m (.tuple zs) ys
  | _, _ => none
def isLst : D → Bool
  | .list _ => true
  | .tuple _ => true
  | _ => false
/-- each number once, in the order of the first -/
def distI (ns : List Int) : List Int := ns.foldl (fun acc x => if acc.any (· == x) then acc else acc ++ [x]) []
/-- how many different numbers -/
def nsetD (d : D) : Option D := (items d).bind fun ds => (intsD ds).bind fun ns => if ns.length ≤ 4000 then some (.int (distI ns).length) else none
/-- max or min with a default -/
def dfltD (b : Bi) (z y : D) : Option D := match items z with
  | some [] => some y
  | _ => biD b z
/-- a row of states, each from the one before -/
def runS {σ : Type} (step : σ → Option σ) : Nat → σ → Option (List σ)
  | 0, _ => none
  | n + 1, s => match step s with
    | none => some [s]
    | some t => (runS step n t).map (s :: ·)
/-- the orders of n places -/
def permIx (n : Nat) : Option (List (List Nat)) := (runS (fun p : List Nat × List Nat => npStep n n p.1 p.2) 100000 (List.range n, (List.range n).map fun i => n - i)).map (List.map (·.1))
def picks (xs : List D) (ix : List Nat) : D := .tuple (ix.map fun i => xs.getD i .none)
/-- the choices of k of n places -/
def combIx (n k : Nat) : Option (List (List Nat)) := if n < k then some [] else runS (fun ix => ncAt n ix ix.length) 100000 (List.range k)
/-- what permutations gives of a range, combinations of range(n) -/
def permL (o : Option (List D)) : Option (List D) := o.bind fun xs => if xs.length ≤ 1000 then (permIx xs.length).map fun l => l.map (picks xs) else none
def combL (xs : List D) : D → Option (List D)
  | .int k => if xs.length ≤ 1000 ∧ 0 ≤ k ∧ k ≤ 1000 then (combIx xs.length k.toNat).map fun l => l.map (picks xs) else none
  | _ => none

/-- the readings of a piece of syntax: as a value, as an operand that is looked at alone, as a test, a clause's test, a slice's part, arguments, something that is walked -/
structure Sm where
  v : Rho → Res D
  o : Rho → Res D
  ag : Rho → D → Option D
  t : Rho → Res Bool
  c : Rho → Res Bool
  p : Rho → Res (Option Int)
  a : Rho → Res (List D)
  i : Rho → Res (List D)
def Sm.mk1 (v : Rho → Res D) (t : Rho → Res Bool) : Sm where
  v := v
  o := v
  ag := fun _ x => some x
  t := t
  c := t
  p := fun r => (v r).bind fun x r1 => match x with
    | .int i => .ok (some i) r1
    | _ => .bad
  a := fun _ => .bad
  i := fun r => (v r).bind fun x r1 => opt (items x) r1
def tOf (v : Rho → Res D) (r : Rho) : Res Bool := (v r).bind fun x r1 => opt (truth x) r1
def Sm.val (v : Rho → Res D) : Sm := Sm.mk1 v (tOf v)
def Sm.none : Sm := { v := fun _ => .bad, o := fun _ => .bad, ag := fun _ x => some x, t := fun _ => .bad, c := fun _ => .bad, p := fun _ => .bad, a := fun _ => .bad, i := fun _ => .bad }
def vVar (i : Nat) : Sm := { Sm.val (fun r => give r i) with o := fun r => opt (peek r i) r, ag := fun r _ => peek r i, t := fun r => (opt (peek r i) r).bind fun x r1 => opt (truth x) r1, c := fun r => (opt (peek r i) r).bind fun x r1 => opt (truth x) r1 }
def vTup (a : Sm) (r : Rho) : Res D := (a.a r).bind fun ds r1 => if fits ds then .ok (.tuple ds) r1 else .bad
def vLst (a : Sm) (r : Rho) : Res D := (a.a r).bind fun ds r1 => if fits ds then .ok (.list ds) r1 else .bad
def vBin (o : Bop) (a b : Sm) (r : Rho) : Res D := (a.v r).bind fun x r1 => (b.v r1).bind fun y r2 => opt (binD o x y) r2
def vNeg (a : Sm) (r : Rho) : Res D := (a.v r).bind fun x r1 => match x with
  | .int i => .ok (.int (-i)) r1
  | _ => .bad
def vNot (a : Sm) (r : Rho) : Res D := (a.v r).bind fun x r1 => match x with
  | .bool b => .ok (.bool (!b)) r1
  | _ => .bad
def vCmp (o : Cop) (a b : Sm) (r : Rho) : Res Bool := (a.o r).bind fun x r1 => (b.o r1).bind fun y r2 => opt ((a.ag r2 x).bind fun z => cmpD o z y) r2
def vChain (o1 o2 : Cop) (a b c : Sm) (r : Rho) : Res Bool := (a.v r).bind fun x r1 => (b.v r1).bind fun y r2 => (opt (cmpD o1 x y) r2).bind fun k r3 => if k then (c.v r3).bind fun z r4 => opt (cmpD o2 y z) r4 else .ok false r3
/-- a list (or a tuple, t) of a range's numbers -/
def rngLD (t : Bool) (o : Option (List D)) : Option D := o.map fun ds => if t then .tuple ds else .list ds
def vLrng1 (t : Bool) (a : Sm) (r : Rho) : Res D := (a.v r).bind fun x r1 => opt (rngLD t (rngD [x])) r1
def g2D (l : Bool) : D → D → Option D
  | .int i, .int j => some (.int (if l then ((i.natAbs.lcm j.natAbs : Nat) : Int) else ((i.natAbs.gcd j.natAbs : Nat) : Int)))
  | _, _ => none
def vG2 (l : Bool) (a b : Sm) (r : Rho) : Res D := (a.v r).bind fun x r1 => (b.v r1).bind fun y r2 => opt (g2D l x y) r2
def toV (t : Rho → Res Bool) (r : Rho) : Res D := (t r).bind fun k r1 => .ok (.bool k) r1
def vAnd (a b : Sm) (r : Rho) : Res D := (a.v r).bind fun x r1 => match x with
  | .bool true => b.v r1
  | .bool false => .ok (.bool false) r1
  | _ => .bad
def vOr (a b : Sm) (r : Rho) : Res D := (a.v r).bind fun x r1 => match x with
  | .bool true => .ok (.bool true) r1
  | .bool false => b.v r1
  | _ => .bad
def tNotR (a : Sm) (r : Rho) : Res Bool := (a.t r).bind fun k r1 => .ok (!k) r1
def tAndR (a b : Sm) (r : Rho) : Res Bool := (a.t r).bind fun k r1 => if k then b.t r1 else .ok false r1
def tOrR (a b : Sm) (r : Rho) : Res Bool := (a.t r).bind fun k r1 => if k then .ok true r1 else b.t r1
def vIte (c a b : Sm) (r : Rho) : Res D := (c.t r).bind fun k r1 => if k then a.v r1 else b.v r1
def vIx (a i : Sm) (r : Rho) : Res D := (a.o r).bind fun x r1 => (i.v r1).bind fun k r2 => opt ((a.ag r2 x).bind fun z => ixD z k) r2
def vSl (a lo hi : Sm) (r : Rho) : Res D := (a.o r).bind fun x r1 => (lo.p r1).bind fun l r2 => (hi.p r2).bind fun h r3 => opt ((a.ag r3 x).bind fun z => slD z l h) r3
def vCall (f : Fn) (a : Sm) (r : Rho) : Res D := (a.a r).bind fun ds r1 => match f ds [] with
  | .ok d _ => .ok d r1
  | .exc x d => .exc x d r1
  | .bad => .bad
def vCall0 (f : Fn) (r : Rho) : Res D := match f [] [] with
  | .ok d _ => .ok d r
  | _ => .bad
/-- a list of its own, or lent, stands there -/
def isL (r : Rho) (i : Nat) : Bool := match r[i]? with
  | some (.own _) => true
  | some (.io _) => true
  | _ => false
def ioEnd (f : Fn) (i : Nat) (ds : List D) (r2 : Rho) : Res D := match r2[i]? with
  | some (.own cs) => (match f ds cs with
      | .ok d cs' => .ok d (r2.set i (.own cs'))
      | _ => .bad)
  | some (.io cs) => (match f ds cs with
      | .ok d cs' => .ok d (r2.set i (.io cs'))
      | _ => .bad)
  | _ => .bad
def vCallIo (f : Fn) (a : Sm) (i : Nat) (b : Sm) (r : Rho) : Res D := (a.a r).bind fun ds r1 => if isL r1 i then (b.a r1).bind fun es r2 => ioEnd f i (ds ++ es) r2 else .bad
def vIsi (a : Sm) (ts : List Ty) (r : Rho) : Res Bool := (a.o r).bind fun x r1 => match x with
  | .dict _ => .bad
  | _ => .ok (ts.any fun t => isTy t x) r1
def vBi (b : Bi) (a : Sm) (r : Rho) : Res D := (a.o r).bind fun x r1 => opt (biD b x) r1
def vBi2 (b : Bi) (a c : Sm) (r : Rho) : Res D := (a.v r).bind fun x r1 => (c.v r1).bind fun y r2 => opt (bi2D b x y) r2
def lcBody (elt : Sm) (tg : Tg) (cond : Sm) (own : List Nat) (x : D) (r2 : Rho) : Res (Option D) := match asgT tg x r2 with
  | some r3 => (cond.c r3).calm fun k r4 => if k then (elt.v r4).calm fun y r5 => .ok (some y) (wipeR r5 own) else .ok Option.none (wipeR r4 own)
  | Option.none => .bad
def vLc (elt : Sm) (tg : Tg) (it cond : Sm) (own : List Nat) (r : Rho) : Res D := (it.i r).bind fun xs r1 =>
  (lcLoop (lcBody elt tg cond own) xs (wipeR r1 own)).calm fun ys r6 => if fits ys then .ok (.list ys) (backR r1 r6 own) else .bad
def lcBody2 (elt : Sm) (tg : Tg) (cond : Sm) (tg1 : Tg) (it1 cond1 : Sm) (own own1 : List Nat) (x : D) (r2 : Rho) : Res (List D) := match asgT tg x r2 with
  | some r3 => (cond.c r3).calm fun k r4 => if k then
      (it1.i r4).calm fun xs1 r5 => (lcLoop (lcBody elt tg1 cond1 own1) xs1 (wipeR r5 own1)).calm fun ys r10 => .ok ys (wipeR r10 own)
    else .ok [] (wipeR r4 own)
  | Option.none => .bad
def vLc2 (elt : Sm) (tg : Tg) (it cond : Sm) (tg1 : Tg) (it1 cond1 : Sm) (own own1 : List Nat) (r : Rho) : Res D := (it.i r).bind fun xs r1 =>
  (lcLoop2 (lcBody2 elt tg cond tg1 it1 cond1 own own1) xs (wipeR r1 own)).calm fun ys r6 => if fits ys then .ok (.list ys) (backR r1 r6 own) else .bad
def lcBody3 (elt : Sm) (tg : Tg) (cond : Sm) (tg1 : Tg) (it1 cond1 : Sm) (tg2 : Tg) (it2 cond2 : Sm) (own own1 own2 : List Nat) (x : D) (r2 : Rho) : Res (List D) := match asgT tg x r2 with
  | some r3 => (cond.c r3).calm fun k r4 => if k then
      (it1.i r4).calm fun xs1 r5 => (lcLoop2 (lcBody2 elt tg1 cond1 tg2 it2 cond2 own1 own2) xs1 (wipeR r5 own1)).calm fun ys r10 => .ok ys (wipeR r10 own)
    else .ok [] (wipeR r4 own)
  | Option.none => .bad
def vLc3 (elt : Sm) (tg : Tg) (it cond : Sm) (tg1 : Tg) (it1 cond1 : Sm) (tg2 : Tg) (it2 cond2 : Sm) (own own1 own2 : List Nat) (r : Rho) : Res D := (it.i r).bind fun xs r1 =>
  (lcLoop2 (lcBody3 elt tg cond tg1 it1 cond1 tg2 it2 cond2 own own1 own2) xs (wipeR r1 own)).calm fun ys r6 => if fits ys then .ok (.list ys) (backR r1 r6 own) else .bad
def vMeth (m : Nat) (o a : Sm) (r : Rho) : Res D := (o.o r).bind fun x r1 => if isLst x then (a.a r1).bind fun ys r2 => opt ((o.ag r2 x).bind fun z => methK m x z ys) r2 else .bad
/-- a whole number (no bool) within bounds that may be None -/
def inB (l h : D) (x : D) : Option Bool := match l, h with
  | .none, .none => some (match x with | .int _ => true | _ => false)
  | .int a, .none => some (match x with | .int i => decide (a ≤ i) | _ => false)
  | .none, .int b => some (match x with | .int i => decide (i ≤ b) | _ => false)
  | .int a, .int b => some (match x with | .int i => decide (a ≤ i) && decide (i ≤ b) | _ => false)
  | _, _ => Option.none
def vAll (i lo hi : Nat) (r : Rho) : Res Bool := match peek r i, peek r lo, peek r hi with
  | some x, some l, some h => (match items x, inB l h .none with
      | some ds, some _ => .ok (ds.all fun d => inB l h d == some true) r
      | _, _ => .bad)
  | _, _, _ => .bad
def exNames : List Str := ["BadValue", "BadText", "Ring", "Closed", "TakenDay", "TakenSeat", "FreeSeat", "NoRevision"]
def vTold (e : Sm) (r : Rho) : Res D := match e.v r with
  | .ok d r1 => .ok (.tuple [.str "value", d]) r1
  | .exc x d r1 => .ok (.tuple [.str (exNames.getD x ""), d]) r1
  | .bad => .bad
def aCons (a b : Sm) (r : Rho) : Res (List D) := (a.v r).bind fun x r1 => (b.a r1).bind fun ys r2 => .ok (x :: ys) r2
def iRng1 (a : Sm) (r : Rho) : Res (List D) := (a.v r).bind fun x r1 => opt (rngD [x]) r1
def iRng2 (a b : Sm) (r : Rho) : Res (List D) := (a.v r).bind fun x r1 => (b.v r1).bind fun y r2 => opt (rngD [x, y]) r2
/-- two rows, walked together -/
def zipI (x y : D) (r : Rho) : Res (List D) := match items x, items y with
  | some xs, some ys => .ok (zipD xs ys) r
  | _, _ => .bad
def enumI (x : D) (r : Rho) : Res (List D) := match items x with
  | some xs => .ok (enumFrom 0 xs) r
  | Option.none => .bad
def vDflt (b : Bi) (a c : Sm) (r : Rho) : Res D := (a.o r).bind fun x r1 => (c.v r1).bind fun y r2 => opt ((a.ag r2 x).bind fun z => dfltD b z y) r2
def vNset (a : Sm) (r : Rho) : Res D := (a.o r).bind fun x r1 => opt (nsetD x) r1
def iPerm1 (a : Sm) (r : Rho) : Res (List D) := (a.v r).bind fun x r1 => opt (permL (rngD [x])) r1
def iPerm2 (a b : Sm) (r : Rho) : Res (List D) := (a.v r).bind fun x r1 => (b.v r1).bind fun y r2 => opt (permL (rngD [x, y])) r2
def iComb (a b : Sm) (r : Rho) : Res (List D) := (a.v r).bind fun x r1 => (opt (rngD [x]) r1).bind fun xs r2 => (b.v r2).bind fun y r3 => opt (combL xs y) r3
def iZip (a b : Sm) (r : Rho) : Res (List D) := (a.v r).bind fun x r1 => (b.v r1).bind fun y r2 => zipI x y r2
def iEnum (a : Sm) (r : Rho) : Res (List D) := (a.v r).bind fun x r1 => enumI x r1

def ev (F : Nat → Fn) : E → Sm
  | .var i => vVar i
  | .cst d => Sm.val fun r => .ok d r
  | .nil => { Sm.none with c := fun r => .ok true r, p := fun r => .ok Option.none r, a := fun r => .ok [] r }
  | .cons a b => { Sm.none with a := aCons (ev F a) (ev F b) }
  | .tup es => Sm.val (vTup (ev F es))
  | .lst es => Sm.val (vLst (ev F es))
  | .bin o a b => Sm.val (vBin o (ev F a) (ev F b))
  | .neg a => Sm.val (vNeg (ev F a))
  | .not a => Sm.mk1 (vNot (ev F a)) (tNotR (ev F a))
  | .cmp o a b => Sm.mk1 (toV (vCmp o (ev F a) (ev F b))) (vCmp o (ev F a) (ev F b))
  | .and a b => Sm.mk1 (vAnd (ev F a) (ev F b)) (tAndR (ev F a) (ev F b))
  | .or a b => Sm.mk1 (vOr (ev F a) (ev F b)) (tOrR (ev F a) (ev F b))
  | .ite c a b => Sm.mk1 (vIte (ev F c) (ev F a) (ev F b)) fun _ => .bad
  | .ix a i => Sm.val (vIx (ev F a) (ev F i))
  | .sl a lo hi => Sm.val (vSl (ev F a) (ev F lo) (ev F hi))
  | .call f a => Sm.val (vCall (F f) (ev F a))
  | .call0 f => Sm.val (vCall0 (F f))
  | .callio f a i b => Sm.val (vCallIo (F f) (ev F a) i (ev F b))
  | .isi a ts => Sm.val (toV (vIsi (ev F a) ts))
  | .bi b a => Sm.val (vBi b (ev F a))
  | .bi2 b a c => Sm.val (vBi2 b (ev F a) (ev F c))
  | .lc e tg it c own => Sm.val (vLc (ev F e) tg (ev F it) (ev F c) own)
  | .lc2 e tg it c tg1 it1 c1 own own1 => Sm.val (vLc2 (ev F e) tg (ev F it) (ev F c) tg1 (ev F it1) (ev F c1) own own1)
  | .rng1 a => { Sm.none with i := iRng1 (ev F a) }
  | .rng2 a b => { Sm.none with i := iRng2 (ev F a) (ev F b) }
  | .zip a b => { Sm.none with i := iZip (ev F a) (ev F b) }
  | .enum a => { Sm.none with i := iEnum (ev F a) }
  | .allint i lo hi => Sm.val (toV (vAll i lo hi))
  | .told _ e => Sm.val (vTold (ev (fun i => F (i + 1000)) e))
  | .meth m o a => Sm.val (vMeth m (ev F o) (ev F a))
  | .lc3 e tg it c tg1 it1 c1 tg2 it2 c2 own own1 own2 => Sm.val (vLc3 (ev F e) tg (ev F it) (ev F c) tg1 (ev F it1) (ev F c1) tg2 (ev F it2) (ev F c2) own own1 own2)
  | .nset a => Sm.val (vNset (ev F a))
  | .dflt b a c => Sm.val (vDflt b (ev F a) (ev F c))
  | .perm1 a => { Sm.none with i := iPerm1 (ev F a) }
  | .perm2 a b => { Sm.none with i := iPerm2 (ev F a) (ev F b) }
  | .comb a b => { Sm.none with i := iComb (ev F a) (ev F b) }
  | .chain o1 o2 a b c => Sm.mk1 (toV (vChain o1 o2 (ev F a) (ev F b) (ev F c))) (vChain o1 o2 (ev F a) (ev F b) (ev F c))
  | .lrng1 t a => Sm.val (vLrng1 t (ev F a))
  | .g2 l a b => Sm.val (vG2 l (ev F a) (ev F b))

/-! ### statements -/
inductive S where
  | skip
  | seq (a b : S)
  | asg (t : Tg) (e : E)
  | asgO (i : Nat) (e : E)
  | ex (e : E)
  | app (i : Nat) (e : E)
  | setI (i : Nat) (k e : E)
  | aug (i : Nat) (o : Bop) (e : E)
  | ret (e : E)
  | retN
  | iff (c : E) (a b : S)
  | forr (t : Tg) (it : E) (b : S)
  | whl (n : Nat) (c : E) (b : S)
  | brk
  | cont
  | rais (x : Nat) (e : E)

inductive Out where
  | nx (r : Rho)
  | rt (d : D) (r : Rho)
  | bk (r : Rho)
  | ct (r : Rho)
  | exc (x : Nat) (d : D) (r : Rho)
  | bad
@[inline] def Res.out {α : Type} (x : Res α) (f : α → Rho → Out) : Out := match x with
  | .ok a r => f a r
  | .exc x d r => .exc x d r
  | .bad => .bad
def Out.then (x : Out) (f : Rho → Out) : Out := match x with
  | .nx r => f r
  | o => o
def forLoop (body : D → Rho → Out) : List D → Rho → Out
  | [], r => .nx r
  | x :: xs, r => match body x r with
      | .nx r1 => forLoop body xs r1
      | .ct r1 => forLoop body xs r1
      | .bk r1 => .nx r1
      | o => o
def whlLoop (c : Rho → Res Bool) (body : Rho → Out) : Nat → Rho → Out
  | 0, _ => .bad
  | n + 1, r => (c r).out fun k r1 => if k then (match body r1 with
      | .nx r2 => whlLoop c body n r2
      | .ct r2 => whlLoop c body n r2
      | .bk r2 => .nx r2
      | o => o) else .nx r1
def xAsg (t : Tg) (e : Sm) (r : Rho) : Out := (e.v r).out fun d r1 => match asgT t d r1 with
  | some r2 => .nx r2
  | Option.none => .bad
def xAsgO (i : Nat) (e : Sm) (r : Rho) : Out := (e.v r).out fun d r1 => match d with
  | .list ds => if i < r1.length then .nx (r1.set i (.own ds)) else .bad
  | _ => .bad
def appR (i : Nat) (d : D) (r1 : Rho) : Out := match r1[i]? with
  | some (.own ds) => if ds.length ≤ big then .nx (r1.set i (.own (ds ++ [d]))) else .bad
  | some (.io ds) => if ds.length ≤ big then .nx (r1.set i (.io (ds ++ [d]))) else .bad
  | _ => .bad
def xApp (i : Nat) (e : Sm) (r : Rho) : Out := if isL r i then (e.v r).out (appR i) else .bad
def setR (i : Nat) (d j : D) (r2 : Rho) : Out := match j with
  | .int z => (match r2[i]? with
      | some (.own ds) => (match ixN ds.length z with
          | some n => .nx (r2.set i (.own (ds.set n d)))
          | Option.none => .bad)
      | some (.io ds) => (match ixN ds.length z with
          | some n => .nx (r2.set i (.io (ds.set n d)))
          | Option.none => .bad)
      | _ => .bad)
  | _ => .bad
def xSet (i : Nat) (k e : Sm) (r : Rho) : Out := (e.v r).out fun d r1 => if isL r1 i then (k.v r1).out (setR i d) else .bad
def augR (i : Nat) (o : Bop) (x : Int) (d : D) (r1 : Rho) : Out := match o, d with
  | .add, .int y => .nx (r1.set i (.val (.int (x + y))))
  | .sub, .int y => .nx (r1.set i (.val (.int (x - y))))
  | _, _ => .bad
def xAug (i : Nat) (o : Bop) (e : Sm) (r : Rho) : Out := match r[i]? with
  | some (.val (.int x)) => (e.v r).out (augR i o x)
  | _ => .bad
def forB (t : Tg) (b : Rho → Out) (x : D) (r2 : Rho) : Out := match asgT t x r2 with
  | some r3 => b r3
  | Option.none => .bad
def xFor (t : Tg) (it : Sm) (b : Rho → Out) (r : Rho) : Out := (it.i r).out fun xs r1 => forLoop (forB t b) xs r1
def xIf (c : Sm) (a b : Rho → Out) (r : Rho) : Out := (c.t r).out fun k r1 => if k then a r1 else b r1
def exec (F : Nat → Fn) : S → Rho → Out
  | .skip, r => .nx r
  | .seq a b, r => (exec F a r).then (exec F b)
  | .asg t e, r => xAsg t (ev F e) r
  | .asgO i e, r => xAsgO i (ev F e) r
  | .ex e, r => ((ev F e).v r).out fun _ r1 => .nx r1
  | .app i e, r => xApp i (ev F e) r
  | .setI i k e, r => xSet i (ev F k) (ev F e) r
  | .aug i o e, r => xAug i o (ev F e) r
  | .ret e, r => ((ev F e).v r).out fun d r1 => .rt d r1
  | .retN, r => .rt .none r
  | .iff c a b, r => xIf (ev F c) (exec F a) (exec F b) r
  | .forr t it b, r => xFor t (ev F it) (exec F b) r
  | .whl n c b, r => whlLoop (ev F c).t (exec F b) n r
  | .brk, r => .bk r
  | .cont, r => .ct r
  | .rais x e, r => ((ev F e).v r).out fun d r1 => match F 2 [d] [] with
    | .ok dd _ => .exc x dd r1
    | _ => .bad

/-- the slots at a def's entry: n names, the parameters ds first; at the place j among them the list cs that is lent -/
def start0 (n : Nat) (j : Option Nat) (ds cs : List D) : Rho := match j with
  | Option.none => ds.map Slot.val ++ List.replicate (n - ds.length) .un
  | some k => (ds.take k).map Slot.val ++ [.io cs] ++ (ds.drop k).map Slot.val ++ List.replicate (n - (ds.length + 1)) .un
def ioAt (j : Option Nat) (r : Rho) : Option (List D) := match j with
  | Option.none => some []
  | some k => match r[k]? with
    | some (.io cs) => some cs
    | _ => Option.none
def runF (F : Nat → Fn) (b : S) (n k : Nat) (j : Option Nat) : Fn := fun ds cs =>
  if ds.length + (if j.isSome then 1 else 0) = k then
    match exec F b (start0 n j ds cs) with
    | .nx r => (match ioAt j r with | some cs' => .ok .none cs' | Option.none => .bad)
    | .rt d r => (match ioAt j r with | some cs' => .ok d cs' | Option.none => .bad)
    | .exc x d _ => if j.isSome then .bad else .exc x d
    | _ => .bad
  else .bad
end Rf
set_option Elab.async false
set_option linter.all false
set_option maxRecDepth 100000
set_option maxHeartbeats 4000000
/-! new tuples, their objects known -/
namespace Rf
open PySem PySem.Spec PyProof.Rows L2 LamX HT
/-- a tuple whose object is known: it has no dict of its own -/
abbrev tpO (its : List Value) (xs : List V) : HO := .frz { cls := .type "tuple", data := .seq its.toArray } (.tup xs)
def SqD (K : PySem.W.Frag) (H : Hp) (a : Addr) (xs : List V) : Prop :=
  (∃ its, H a = some (tpO its xs)) ∨
    ∃ (o : Obj) (its : Array Value) (n : Nat), K.lookup a = some o ∧ o.cls = .type "tuple" ∧ o.dict = none ∧ o.data = .seq its n ∧ its.size ≤ sizeLine ∧ Vals xs its.toList
theorem SqD.sq {K : PySem.W.Frag} {H : Hp} {a : Addr} {xs : List V} (h : SqD K H a xs) : SqT K H a xs := by
  rcases h with ⟨its, h⟩ | ⟨o, its, n, h1, h2, _, h3, h4, h5⟩
  · exact .inl (.inr ⟨_, h⟩)
  · exact .inr ⟨o, its, n, h1, h2, h3, h4, h5⟩
theorem SqD.new {K : PySem.W.Frag} {H : Hp} {p : Addr} {its : List Value} {xs : List V} : SqD K (upd H p (tpO its xs)) p xs := .inl ⟨its, upd_same⟩
section
variable {P : Program} {w : World} {H : Hp} {h : Heap} {xs : List V} {its : List Value}
theorem ok_tp {a : Addr} (e : h.get? a = some { cls := .type "tuple", data := .seq its.toArray }) (hz : xs.length ≤ sizeLine) (r : Vals xs its) : ObjOk P w H h a (tpO its xs) :=
  ⟨e, hz, its, r, _, e, rfl, _, rfl⟩
end
section
variable {X : Cx}
theorem sqD_dict {pins : List (Addr × Obj)} {σ : L2.St} {H : Hp} {s : Shared} {a : Addr} {xs : List V} (I : Inv X pins σ H s) (h : SqD X.K H a xs) :
    ∃ (its : List Value) (n : Nat) (sl : Array (Option Value)), Vals xs its ∧ xs.length ≤ sizeLine ∧ s.heap.get? a = some { cls := .type "tuple", data := .seq its.toArray n, slots := sl } := by
  rcases h with ⟨its, h⟩ | ⟨o, its, n, h1, h2, h3, h4, h5, h6⟩
  · obtain ⟨e, hz, its', r, ⟨o, ho, _, n, hd⟩⟩ := I.hok _ _ h
    rw [e] at ho
    cases ho
    have hd2 : its = its' := by
      have : (Data.seq its.toArray 0) = .seq its'.toArray n := hd
      have e2 : its.toArray = its'.toArray := by injection this
      simpa using e2
    subst hd2
    exact ⟨its, _, _, r, hz, e⟩
  · obtain ⟨cls, dd, data, sl⟩ := o
    simp only at h2 h3 h4
    subst h2 h3 h4
    refine ⟨its.toList, n, sl, h6, ?_, ?_⟩
    · rw [h6.length, Array.length_toList]; exact h5
    · rw [Array.toArray_toList]; exact I.kIn _ _ h1
def tTupD (t : TA) : TE := fun σ H Q => t σ H fun xs H1 => xs.length ≤ sizeLine ∧ ∀ p its, H1 p = none → Q (.ref p) (upd H1 p (tpO its xs))
theorem pe_tupD {es : List Expr} {t : TA} {pos : Pos} {x1 : Nat} (h : PA X es t) : PE X (.Tuple es x1 pos) (tTupD t) := by
  refine ⟨fun pins s σ H Q I hq => ?_⟩
  refine wpAny_Tuple_spliced (thn (h.run pos pins s σ H _ I hq) fun us s1 ⟨xs, H1, I1, r, z, q⟩ => ⟨by rw [← r.length]; exact z, ?_⟩)
  have hf : H1 s1.heap.objs.size = none := I1.hok.fresh (Nat.le_refl _)
  refine ⟨.ref s1.heap.objs.size, upd H1 s1.heap.objs.size (tpO us xs), I1.laid (t' := s1.toks) (fun b u e => Heap.get?_push_of_some _ e) (Nat.le_refl _) ?_, rfl, q _ us hf⟩
  exact ok_tp (Heap.get?_push_size _ rfl) z r
/-- t + u -/
def rCatD (K : PySem.W.Frag) : R2 := fun x y H Q => ∃ a b xs ys, x = .ref a ∧ y = .ref b ∧ SqT K H a xs ∧ SqT K H b ys ∧ xs.length + ys.length ≤ sizeLine ∧
  (xs = [] → Q (.ref b) H) ∧ (xs ≠ [] → ys = [] → Q (.ref a) H) ∧ (xs ≠ [] → ys ≠ [] → ∀ p its, H p = none → Q (.ref p) (upd H p (tpO its (xs ++ ys))))
theorem op_catD : OpR X (binaryOp .Add) (rCatD X.K) := by
  intro pins s σ H x y v u Q I rx ry h
  obtain ⟨a, b, xs, ys, rfl, rfl, ha, hb, hz, q0, q1, q2⟩ := h
  by_cases hx : xs = []
  · subst hx
    cases rx
    cases ry
    obtain ⟨its, r1, p1, _⟩ := I.tuple ha
    obtain ⟨its2, r2, p2, _⟩ := I.tuple hb
    cases r1
    exact cat_tup0 p1 p2 ⟨.ref b, H, I, rfl, q0 rfl⟩
  · cases rx
    cases ry
    obtain ⟨its, r1, p1, _⟩ := I.tuple ha
    obtain ⟨its2, r2, p2, _⟩ := I.tuple hb
    refine HT.cat_tup p1 p2 (fun z => hx (r1.nil_iff.mp z)) (fun z => ⟨.ref a, H, I, rfl, q1 hx (r2.nil_iff.mp z)⟩) (fun z => ?_) (by rw [← r1.length, ← r2.length]; exact hz)
    refine ⟨.ref s.heap.objs.size, _, I.laid (t' := s.toks) (o := tpO (its ++ its2) (xs ++ ys)) (fun b ob q => Heap.get?_push_of_some _ q) (Nat.le_refl _) ?_, rfl, q2 hx (fun w => z (r2.nil_iff.mpr w)) _ _ (I.hok.fresh (Nat.le_refl _))⟩
    exact ok_tp (Heap.get?_push_size _ rfl) (by rw [List.length_append]; exact hz) (r1.append r2)
def rRepD (K : PySem.W.Frag) : R2 := fun x y H Q => ∃ l k xs, x = .ref l ∧ y = .int k ∧ SqT K H l xs ∧ xs ≠ [] ∧ 2 ≤ k ∧ k ≤ 1000 ∧ xs.length ≤ 1000 ∧ ∀ p its, H p = none → Q (.ref p) (upd H p (tpO its (List.replicate k.toNat xs).flatten))
theorem op_repD : OpR X (binaryOp .Mult) (rRepD X.K) := by
  intro pins s σ H x y v u Q I rx ry h
  obtain ⟨l, k, xs, rfl, rfl, hT, hne, h1, h2, hz, q⟩ := h
  cases rx
  obtain ⟨t, rfl⟩ := ry
  obtain ⟨its, r, ⟨⟨cls, dd, data, sl⟩, ho, hc, n, hd⟩, hs⟩ := I.tuple hT
  simp only at hc hd
  subst hc hd
  have hle : its.length = xs.length := r.length.symm
  have hn : its ≠ [] := fun e => hne (by
    rw [e] at hle
    exact List.eq_nil_of_length_eq_zero hle.symm)
  have hi : its.toArray.isEmpty = false := by
    cases its with
    | nil => exact absurd rfl hn
    | cons a b => rfl
  have hsz0 : its.toArray.size = xs.length := by rw [List.size_toArray, hle]
  have hm : ((its.toArray.size : Nat) : Int) * k ≤ 1000000 := by
    rw [hsz0]
    have a1 : ((xs.length : Nat) : Int) * k ≤ 1000 * k := Int.mul_le_mul_of_nonneg_right (by omega) (by omega)
    omega
  have flen : (List.replicate k.toNat its).flatten.length ≤ sizeLine := by
    rw [PyProof.Rows.lm_len_rep_flat, hle, sizeLine_eq]
    have a1 : k.toNat * xs.length ≤ 1000 * 1000 := Nat.mul_le_mul (by omega) hz
    omega
  have c0 : (decide (k < -(2 ^ 63)) || decide (k ≥ 2 ^ 63)) = false := by
    rw [decide_eq_false (by omega), decide_eq_false (by omega)] <;> rfl
  have c1 : (its.toArray.isEmpty || k == 1) = false := by
    rw [hi, Bool.false_or]
    exact beq_eq_false_iff_ne.mpr (by omega)
  have c2 : (decide (k ≤ 0) || its.toArray.isEmpty) = false := by
    rw [hi, Bool.or_false]
    exact decide_eq_false (by omega)
  have c4 : Builtin.Tuple.tupleTooMany (((its.toArray.size : Nat) : Int) * k) = false := by
    unfold Builtin.Tuple.tupleTooMany
    rw [sizeLine_eq]
    exact decide_eq_false (by omega)
  refine wpAny_binaryOp_repeat_ref (T := "tuple") (U := "int") (by decide) ⟨_, ho, rfl⟩ (fun s' => typeIs_int s' k t) noFill_tuple_mul F.fills_int_mul F.slot_int_rmul repeat_tuple F.slot_int_index.lookup
    (call_meets F.slot_int_rmul (typeIs_int s k t) F.entry_int_rmul (F.args_int_rmul_2 _ _) (int_rmul_tuple k t l its.toArray n dd sl)
      ⟨ho, rfl, ⟨_, ho, rfl⟩, call_meets F.slot_tuple_mul ⟨_, ho, rfl⟩ F.entry_tuple_mul (F.args_tuple_mul_2 _ _) (tuple_mulW l its.toArray n dd sl k t c0 c1 c2 (by omega) c4 (by rw [size_rep, List.size_toArray]; exact flen)) ⟨ho, ?_⟩⟩)
  rw [size_rep]
  refine ⟨.ref s.heap.objs.size, _, I.laid (t' := s.toks) (o := tpO (List.replicate k.toNat its).flatten (List.replicate k.toNat xs).flatten) (fun b ob q => Heap.get?_push_of_some _ q) (Nat.le_refl _) ?_, rfl, q _ _ (I.hok.fresh (Nat.le_refl _))⟩
  exact ok_tp (Heap.get?_push_size _ rfl) (by rw [PyProof.Rows.lm_len_rep_flat, sizeLine_eq]; have a1 : k.toNat * xs.length ≤ 1000 * 1000 := Nat.mul_le_mul (by omega) hz; omega) (r.rep k.toNat)
/-- t[lo:hi]: the whole of it is t itself -/
def rSlD (K : PySem.W.Frag) : V → Option Int → Option Int → Hp → VK → Prop := fun x lo hi H Q => ∃ a xs, x = .ref a ∧ SqT K H a xs ∧
  (HT.sIx xs.length 0 lo = 0 ∧ HT.sIx xs.length xs.length hi = xs.length → Q (.ref a) H) ∧ (¬ (HT.sIx xs.length 0 lo = 0 ∧ HT.sIx xs.length xs.length hi = xs.length) → ∀ p its, H p = none → Q (.ref p) (upd H p (tpO its (cutV xs lo hi))))
theorem sl_tupD : SlR X (rSlD X.K) := by
  intro pins s σ H x v vl vu lo hi sl Q I rx hs pl pu h
  obtain ⟨a, xs, rfl, hx, q1, q2⟩ := h
  by_cases hw : HT.sIx xs.length 0 lo = 0 ∧ HT.sIx xs.length xs.length hi = xs.length
  · cases rx
    obtain ⟨its, r, ht, hz⟩ := I.tuple hx
    have hlen : its.toArray.size = xs.length := by rw [List.size_toArray]; exact r.length.symm
    refine ⟨"tuple", _, PyProof.Rows.slot_tuple_getitem.lookup, ht.typeIs, ?_⟩
    exact getItem_tuple_whole ht hs pl pu (by rw [hlen]; exact hw) ⟨.ref a, H, I, rfl, q1 hw⟩
  · cases rx
    obtain ⟨its, r, ht, hz⟩ := I.tuple hx
    have hlen : its.toArray.size = xs.length := by rw [List.size_toArray]; exact r.length.symm
    refine ⟨"tuple", _, PyProof.Rows.slot_tuple_getitem.lookup, ht.typeIs, ?_⟩
    refine HT.getItem_tuple_cut ht hs pl pu (by rw [hlen]; exact hw) ?_ (by rw [hlen]; exact hz)
    rw [hlen]
    refine ⟨.ref s.heap.objs.size, _, I.laid (t' := s.toks) (o := tpO ((its.drop (HT.sIx xs.length 0 lo)).take (HT.sIx xs.length xs.length hi - HT.sIx xs.length 0 lo)) (cutV xs lo hi)) (fun b ob q => Heap.get?_push_of_some _ q) (Nat.le_refl _) ?_, rfl, q2 hw _ _ (I.hok.fresh (Nat.le_refl _))⟩
    exact ok_tp (Heap.get?_push_size _ rfl) (Nat.le_trans (cutV_length xs lo hi) hz) ((r.drop (HT.sIx xs.length 0 lo)).take (HT.sIx xs.length xs.length hi - HT.sIx xs.length 0 lo))
theorem call_tuple_ofD : CallR X (.type "tuple") (fun xs H Q => ∃ p ys, xs = [.ref p] ∧ ((SqL X.K H p ys ∧ ∀ l its, H l = none → Q (.ref l) (upd H l (tpO its ys))) ∨ (SqT X.K H p ys ∧ Q (.ref p) H))) := by
  intro pins s σ H xs us Q I r h
  obtain ⟨p, ys, rfl, h⟩ := h
  obtain ⟨u, rfl, rx⟩ := vals1 r
  cases rx
  rcases h with ⟨hq, q⟩ | ⟨hq, q⟩
  · obtain ⟨its, r', pl, hz⟩ := I.list hq
    have hlen := r'.length
    refine call_tuple_list pl.isList (fun h' kp => ?_) (by simp only [List.size_toArray] <;> omega)
    have I1 : Inv X pins σ H { s with heap := h' } := I.kept (t' := s.toks) kp
    have I2 : Inv X pins σ (upd H h'.objs.size (tpO its ys)) { s with heap := h'.push { cls := .type "tuple", data := .seq its.toArray } } :=
      I1.laid (t' := s.toks) (fun b o e => Heap.get?_push_of_some _ e) (Nat.le_refl _) (ok_tp (Heap.get?_push_size _ rfl) hz r')
    exact ⟨.ref h'.objs.size, _, I2, rfl, q _ _ (I1.hok.fresh (Nat.le_refl _))⟩
  · obtain ⟨its, r', pl, hz⟩ := I.tuple hq
    exact call_tuple_same pl ⟨.ref p, H, I, rfl, q⟩
end
end Rf
set_option Elab.async false
set_option linter.all false
set_option maxRecDepth 100000
set_option maxHeartbeats 1000000
namespace Rf
open PySem PySem.Spec PyProof.Rows L2 LamX

/-- what stood still stands -/
abbrev Sub (G H : Hp) : Prop := ∀ a o, G a = some o → H a = some o
theorem Sub.rfl' (G : Hp) : Sub G G := fun _ _ h => h
theorem Sub.tr {G H J : Hp} (a : Sub G H) (b : Sub H J) : Sub G J := fun x o h => b x o (a x o h)
theorem Sub.new {G : Hp} {p : Addr} {o : HO} (h : G p = none) : Sub G (upd G p o) := fun a u e => by
  rw [upd_ne (ne_of_none e h)]; exact e
theorem Sub.both {G H : Hp} {p : Addr} {o : HO} (s : Sub G H) : Sub (upd G p o) (upd H p o) := fun a u e => by
  by_cases h : a = p
  · subst h; rw [upd_same] at e ⊢; exact e
  · rw [upd_ne h] at e ⊢; exact s a u e
theorem Sub.off {G H : Hp} {p : Addr} {o : HO} (s : Sub G H) (h : G p = none) : Sub G (upd H p o) := fun a u e => by
  rw [upd_ne (ne_of_none e h)]; exact s a u e

section
variable {K : PySem.W.Frag} {G H : Hp}
theorem sqL_sub (s : Sub G H) {a : Addr} {xs : List V} (h : SqL K G a xs) : SqL K H a xs := by
  rcases h with (h | ⟨o, h⟩) | h
  · exact .inl (.inl (s _ _ h))
  · exact .inl (.inr ⟨o, s _ _ h⟩)
  · exact .inr h
theorem sqT_sub (s : Sub G H) {a : Addr} {xs : List V} (h : SqT K G a xs) : SqT K H a xs := by
  rcases h with (h | ⟨o, h⟩) | h
  · exact .inl (.inl (s _ _ h))
  · exact .inl (.inr ⟨o, s _ _ h⟩)
  · exact .inr h
/-- the script's own data: a dict of its numbers stands for it -/
abbrev scrD (ns : List Int) : PyData := .dict (ns.map fun n => (.int n, .none))
theorem sqD_sub (s : Sub G H) {a : Addr} {xs : List V} (h : SqD K G a xs) : SqD K H a xs := by
  rcases h with ⟨its, h⟩ | h
  · exact .inl ⟨its, s _ _ h⟩
  · exact .inr h
mutual
/-- v is the plain data d; its lists are tracked -/
inductive Dq (K : PySem.W.Frag) (H : Hp) : V → PyData → Prop
  | non : Dq K H .non .none
  | bl (b : Bool) : Dq K H (.bl b) (.bool b)
  | int (i : Int) : Dq K H (.int i) (.int i)
  | str (x : Str) : Dq K H (.str x) (.str x)
  | lst {a : Addr} {xs : List V} {ds : List PyData} : H a = some (.lst xs) → DqAll K H xs ds → Dq K H (.ref a) (.list ds)
  | tup {a : Addr} {xs : List V} {ds : List PyData} : SqD K H a xs → DqAll K H xs ds → Dq K H (.ref a) (.tuple ds)
  | scr {a : Addr} {ns : List Int} : SqL K H a (ns.map V.int) → Dq K H (.ref a) (scrD ns)
inductive DqAll (K : PySem.W.Frag) (H : Hp) : List V → List PyData → Prop
  | nil : DqAll K H [] []
  | cons {v : V} {vs : List V} {d : PyData} {ds : List PyData} : Dq K H v d → DqAll K H vs ds → DqAll K H (v :: vs) (d :: ds)
end
mutual
theorem dp_sub (s : Sub G H) : ∀ {v : V} {d : PyData}, Dq K G v d → Dq K H v d
  | _, _, .non => .non
  | _, _, .bl b => .bl b
  | _, _, .int i => .int i
  | _, _, .str x => .str x
  | _, _, .lst h r => .lst (s _ _ h) (dps_sub s r)
  | _, _, .tup h r => .tup (sqD_sub s h) (dps_sub s r)
  | _, _, .scr h => .scr (sqL_sub s h)
theorem dps_sub (s : Sub G H) : ∀ {vs : List V} {ds : List PyData}, DqAll K G vs ds → DqAll K H vs ds
  | _, _, .nil => .nil
  | _, _, .cons h r => .cons (dp_sub s h) (dps_sub s r)
end
mutual
theorem dq_dp : ∀ {v : V} {d : PyData}, Dq K G v d → d.canLay0 = true → Dp K G v d
  | _, _, .non, _ => .non
  | _, _, .bl b, _ => .bl b
  | _, _, .int i, _ => .int i
  | _, _, .str x, _ => .str x
  | _, _, .lst h r, e => .lst (.inl (.inl h)) (dqs_dp r (by simpa [PyData.canLay0] using e))
  | _, _, .tup h r, e => .tup h.sq (dqs_dp r (by simpa [PyData.canLay0] using e))
  | _, _, .scr _, e => by simp [PyData.canLay0] at e
theorem dqs_dp : ∀ {vs : List V} {ds : List PyData}, DqAll K G vs ds → PyData.canLayAll0 ds = true → DpAll K G vs ds
  | _, _, .nil, _ => .nil
  | _, _, .cons h r, e => by
    simp only [PyData.canLayAll0, Bool.and_eq_true] at e
    exact .cons (dq_dp h e.1) (dqs_dp r e.2)
end
theorem dq_shaped {v : V} {d : PyData} (h : Dq K G v d) (e : SeqAt.shaped d = true) : Dp K G v d := dq_dp h (SeqAt.canLay_of_shaped e)
theorem dps_len : ∀ {vs : List V} {ds : List PyData}, DqAll K G vs ds → vs.length = ds.length
  | _, _, .nil => rfl
  | _, _, .cons _ r => congrArg Nat.succ (dps_len r)
theorem dps_app {vs ws : List V} {ds es : List PyData} (h : DqAll K G vs ds) (k : DqAll K G ws es) : DqAll K G (vs ++ ws) (ds ++ es) := by
  induction vs generalizing ds with
  | nil => cases h; exact k
  | cons v vs ih => cases h with | cons a b => exact .cons a (ih b)
theorem dps_one {v : V} {d : PyData} (h : Dq K G v d) : DqAll K G [v] [d] := .cons h .nil
theorem dps_drop : ∀ (n : Nat) {vs : List V} {ds : List PyData}, DqAll K G vs ds → DqAll K G (vs.drop n) (ds.drop n)
  | 0, _, _, h => h
  | _ + 1, _, _, .nil => .nil
  | n + 1, _, _, .cons _ r => dps_drop n r
theorem dps_take : ∀ (n : Nat) {vs : List V} {ds : List PyData}, DqAll K G vs ds → DqAll K G (vs.take n) (ds.take n)
  | 0, _, _, _ => .nil
  | _ + 1, _, _, .nil => .nil
  | n + 1, _, _, .cons h r => .cons h (dps_take n r)
theorem dps_get : ∀ {vs : List V} {ds : List PyData} (i : Nat) {d : PyData}, DqAll K G vs ds → ds[i]? = some d → ∃ v, vs[i]? = some v ∧ Dq K G v d
  | _, _, _, _, .nil, e => by simp at e
  | _, _, 0, _, .cons h _, e => by simp at e; subst e; exact ⟨_, rfl, h⟩
  | _, _, i + 1, _, .cons _ r, e => by
    obtain ⟨v, h1, h2⟩ := dps_get i r (by simpa using e)
    exact ⟨v, by simpa using h1, h2⟩
theorem dps_set : ∀ {vs : List V} {ds : List PyData} (i : Nat) {v : V} {d : PyData}, DqAll K G vs ds → Dq K G v d → DqAll K G (vs.set i v) (ds.set i d)
  | _, _, _, _, _, .nil, _ => .nil
  | _, _, 0, _, _, .cons _ r, h => .cons h r
  | _, _, i + 1, _, _, .cons a r, h => .cons a (dps_set i r h)
theorem dps_rep {vs : List V} {ds : List PyData} (h : DqAll K G vs ds) : ∀ k : Nat, DqAll K G (List.replicate k vs).flatten (List.replicate k ds).flatten
  | 0 => .nil
  | k + 1 => by
    rw [List.replicate_succ, List.replicate_succ, List.flatten_cons, List.flatten_cons]
    exact dps_app h (dps_rep h k)
theorem dps_cut {vs : List V} {ds : List PyData} (h : DqAll K G vs ds) (lo hi : Option Int) : DqAll K G (cutV vs lo hi) (cut ds lo hi) := by
  unfold cutV cut
  rw [dps_len h]
  exact dps_take _ (dps_drop _ h)
theorem dps_at {vs : List V} {ds : List PyData} {i : Int} {d : PyData} (h : DqAll K G vs ds) (e : atI ds i = some d) : ∃ v, atI vs i = some v ∧ Dq K G v d := by
  unfold atI at e ⊢
  rw [dps_len h]
  cases q : ixN ds.length i with
  | none => rw [q] at e; cases e
  | some j =>
    rw [q] at e
    exact dps_get j h e
/-- what the items of a list or a tuple are -/
theorem dp_items {v : V} {d : PyData} {ds : List PyData} (h : Dq K G v d) (e : items d = some ds) : ∃ a vs, v = .ref a ∧ DqAll K G vs ds ∧ ((d = .list ds ∧ G a = some (.lst vs)) ∨ (d = .tuple ds ∧ SqD K G a vs)) := by
  cases h with
  | lst s r => cases e; exact ⟨_, _, rfl, r, .inl ⟨rfl, s⟩⟩
  | tup s r => cases e; exact ⟨_, _, rfl, r, .inr ⟨rfl, s⟩⟩
  | _ => cases e
theorem dps_ints : ∀ {ds : List PyData} {vs : List V} {ns : List Int}, DqAll K G vs ds → intsD ds = some ns → vs = ns.map V.int
  | [], _, ns, .nil, e => by
    have q : some ([] : List Int) = some ns := e
    cases q
    rfl
  | d :: ds, _, ns, .cons h r, e => by
    cases h with
    | int i =>
      have q : (intsD ds).map (i :: ·) = some ns := e
      cases z : intsD ds with
      | none => rw [z] at q; cases q
      | some ms =>
        rw [z] at q
        cases q
        rw [dps_ints r z]
        rfl
    | _ => cases e
theorem dps_bools : ∀ {ds : List PyData} {vs : List V} {ns : List Bool}, DqAll K G vs ds → boolsD ds = some ns → vs = ns.map V.bl
  | [], _, ns, .nil, e => by
    have q : some ([] : List Bool) = some ns := e
    cases q
    rfl
  | d :: ds, _, ns, .cons h r, e => by
    cases h with
    | bl i =>
      have q : (boolsD ds).map (i :: ·) = some ns := e
      cases z : boolsD ds with
      | none => rw [z] at q; cases q
      | some ms =>
        rw [z] at q
        cases q
        rw [dps_bools r z]
        rfl
    | _ => cases e
end
theorem big_line {n : Nat} (h : n ≤ big) : n < sizeLine := Nat.lt_of_le_of_lt h (by decide)
theorem fits_le {ds : List PyData} (h : Rf.fits ds = true) : ds.length ≤ big := of_decide_eq_true h

/-! ### the state -/
/-- a def's entry: the plain heap, the whole heap, the list that is lent -/
structure Bk where
  G0 : Hp
  H0 : Hp
  lent : Option Addr
abbrev Wn := Nat → Option Addr
def noTbl (o : HO) : Prop := ∀ ps, o ≠ .tbl ps
/-- an object (no table) stands there -/
def Ob (H : Hp) (a : Addr) : Prop := ∃ o, H a = some o ∧ noTbl o
theorem Ob.non {H : Hp} {a : Addr} (h : H a = none) : ¬Ob H a := fun ⟨o, e, _⟩ => by rw [h] at e; cases e
theorem Ob.lst {H : Hp} {a : Addr} {vs : List V} (h : H a = some (.lst vs)) : Ob H a := ⟨_, h, fun ps z => nomatch z⟩
theorem Ob.put {H : Hp} {a p : Addr} {o : HO} (ho : noTbl o) (h : Ob H a) : Ob (upd H p o) a := by
  by_cases q : a = p
  · exact ⟨o, by rw [q, upd_same], ho⟩
  · obtain ⟨u, e, n⟩ := h
    exact ⟨u, by rw [upd_ne q]; exact e, n⟩
def SlotOk (K : PySem.W.Frag) (B : Bk) (G : Hp) (w : Wn) (σ : L2.St) (H : Hp) (i : Nat) : Slot → Prop
  | .un => w i = none
  | .val d => w i = none ∧ ∃ v, σ[i]? = some (some v) ∧ Dq K G v d
  | .own ds => ∃ a vs, w i = some a ∧ ¬Ob B.H0 a ∧ σ[i]? = some (some (.ref a)) ∧ H a = some (.lst vs) ∧ DqAll K G vs ds
  | .io ds => ∃ a vs, w i = some a ∧ B.lent = some a ∧ σ[i]? = some (some (.ref a)) ∧ H a = some (.lst vs) ∧ DqAll K G vs ds
abbrev NT (G : Hp) : Prop := ∀ a o, G a = some o → noTbl o
theorem NT.put {G : Hp} {p : Addr} {o : HO} (n : NT G) (ho : noTbl o) : NT (upd G p o) := fun a u e => by
  by_cases q : a = p
  · rw [q, upd_same] at e; cases e; exact ho
  · rw [upd_ne q] at e; exact n a u e
structure RR (K : PySem.W.Frag) (T : List (Addr × Str)) (B : Bk) (G : Hp) (w : Wn) (r : Rho) (σ : L2.St) (H : Hp) : Prop where
  sub : Sub G H
  tabs : Tabs T H
  nt : NT G
  ent : ∀ a o, B.H0 a = some o → noTbl o → B.lent ≠ some a → H a = some o
  dom : ∀ a, Ob B.H0 a → Ob H a
  grow : ∀ a, G a ≠ none → B.G0 a ≠ none ∨ ¬Ob B.H0 a
  sub0 : Sub B.G0 G
  inj : ∀ i j a, w i = some a → w j = some a → i = j
  fre : ∀ i a, w i = some a → G a = none ∧ (¬Ob B.H0 a ∨ B.lent = some a) ∧ ∃ vs, H a = some (.lst vs)
  slot : ∀ i x, r[i]? = some x → SlotOk K B G w σ H i x
  out : ∀ i, r[i]? = none → w i = none
  len : σ.length = r.length
/-- between two states of one def -/
structure Stp (G : Hp) (w : Wn) (H : Hp) (G' : Hp) (w' : Wn) (H' : Hp) : Prop where
  sub : Sub G G'
  grow : ∀ a, G' a ≠ none → G a ≠ none ∨ ¬Ob H a ∨ ∃ i, w i = some a
  keep : ∀ a o, H a = some o → noTbl o → (∀ i, w i ≠ some a) → H' a = some o
  dom : ∀ a, Ob H a → Ob H' a
  less : ∀ i a, w' i = some a → w i = some a
theorem Stp.refl (G : Hp) (w : Wn) (H : Hp) : Stp G w H G w H := ⟨Sub.rfl' G, fun _ h => .inl h, fun _ _ h _ _ => h, fun _ h => h, fun _ _ h => h⟩
theorem Stp.tr {G H G1 H1 G2 H2 : Hp} {w w1 w2 : Wn} (a : Stp G w H G1 w1 H1) (b : Stp G1 w1 H1 G2 w2 H2) : Stp G w H G2 w2 H2 where
  sub := a.sub.tr b.sub
  grow := fun x h => by
    rcases b.grow x h with h | h | ⟨i, h⟩
    · exact a.grow x h
    · exact .inr (.inl fun n => h (a.dom x n))
    · exact .inr (.inr ⟨i, a.less i x h⟩)
  keep := fun x o h n k => b.keep x o (a.keep x o h n k) n fun i z => k i (a.less i x z)
  dom := fun x h => b.dom x (a.dom x h)
  less := fun i x h => a.less i x (b.less i x h)

section
variable {K : PySem.W.Frag} {T : List (Addr × Str)} {B : Bk} {G H : Hp} {w : Wn} {r : Rho} {σ : L2.St}
theorem RR.nofr (R : RR K T B G w r σ H) {i : Nat} {a : Addr} (h : w i = some a) : G a = none := (R.fre i a h).1
/-- a new object, plain -/
theorem RR.new (R : RR K T B G w r σ H) {p : Addr} {o : HO} (hp : H p = none) (ho : noTbl o := by intro ps z; cases z) : RR K T B (upd G p o) w r σ (upd H p o) := by
  have gp : G p = none := by
    cases q : G p with
    | none => rfl
    | some u => rw [R.sub _ _ q] at hp; cases hp
  have hw : ∀ i a, w i = some a → a ≠ p := fun i a e z => by
    obtain ⟨_, _, vs, h⟩ := R.fre i a e
    rw [z, hp] at h; cases h
  refine ⟨R.sub.both, R.tabs.ext (Sub.new hp), R.nt.put ho, fun a u h n k => Sub.new hp _ _ (R.ent a u h n k), fun a h => ?_, fun a h => ?_, R.sub0.tr (Sub.new gp), R.inj, fun i a e => ?_, fun i x e => ?_, R.out, R.len⟩
  · exact (R.dom a h).put ho
  · by_cases q : a = p
    · exact .inr fun n => Ob.non (q ▸ hp) (R.dom a n)
    · rw [upd_ne q] at h; exact R.grow a h
  · obtain ⟨h1, h2, vs, h3⟩ := R.fre i a e
    exact ⟨by rw [upd_ne (hw i a e)]; exact h1, h2, vs, by rw [upd_ne (hw i a e)]; exact h3⟩
  · have q := R.slot i x e
    cases x with
    | un => exact q
    | val d => obtain ⟨q0, v, q1, q2⟩ := q; exact ⟨q0, v, q1, dp_sub (Sub.new gp) q2⟩
    | own ds => obtain ⟨a, vs, q1, q2, q3, q4, q5⟩ := q; exact ⟨a, vs, q1, q2, q3, by rw [upd_ne (hw i a q1)]; exact q4, dps_sub (Sub.new gp) q5⟩
    | io ds => obtain ⟨a, vs, q1, q2, q3, q4, q5⟩ := q; exact ⟨a, vs, q1, q2, q3, by rw [upd_ne (hw i a q1)]; exact q4, dps_sub (Sub.new gp) q5⟩
theorem Stp.new {p : Addr} {o : HO} (hs : Sub G H) (hp : H p = none) (ho : noTbl o := by intro ps z; cases z) : Stp G w H (upd G p o) w (upd H p o) where
  sub := Sub.new (by
    cases q : G p with
    | none => rfl
    | some u => rw [hs _ _ q] at hp; cases hp)
  grow := fun a h => by
    by_cases q : a = p
    · exact .inr (.inl (Ob.non (q ▸ hp)))
    · rw [upd_ne q] at h; exact .inl h
  keep := fun a u h _ _ => Sub.new hp _ _ h
  dom := fun a h => h.put ho
  less := fun _ _ h => h
/-- a new list, laid but not counted among the plain data yet -/
theorem RR.off (R : RR K T B G w r σ H) {p : Addr} {o : HO} (hp : H p = none) (ho : noTbl o := by intro ps z; cases z) : RR K T B G w r σ (upd H p o) := by
  have hw : ∀ i a, w i = some a → a ≠ p := fun i a e z => by
    obtain ⟨_, _, vs, h⟩ := R.fre i a e
    rw [z, hp] at h; cases h
  refine ⟨R.sub.tr (Sub.new hp), R.tabs.ext (Sub.new hp), R.nt, fun a u h n k => Sub.new hp _ _ (R.ent a u h n k), fun a h => ?_, R.grow, R.sub0, R.inj, fun i a e => ?_, fun i x e => ?_, R.out, R.len⟩
  · exact (R.dom a h).put ho
  · obtain ⟨h1, h2, vs, h3⟩ := R.fre i a e
    exact ⟨h1, h2, vs, by rw [upd_ne (hw i a e)]; exact h3⟩
  · have q := R.slot i x e
    cases x with
    | un => exact q
    | val d => exact q
    | own ds => obtain ⟨a, vs, q1, q2, q3, q4, q5⟩ := q; exact ⟨a, vs, q1, q2, q3, by rw [upd_ne (hw i a q1)]; exact q4, q5⟩
    | io ds => obtain ⟨a, vs, q1, q2, q3, q4, q5⟩ := q; exact ⟨a, vs, q1, q2, q3, by rw [upd_ne (hw i a q1)]; exact q4, q5⟩
theorem tabs_lst {p : Addr} {vs : List V} {o : HO} (t : Tabs T H) (hp : H p = some (.lst vs)) : Tabs T (upd H p o) := fun q hq => by
  obtain ⟨ps, h1, h2, h3⟩ := t q hq
  have n1 : q.1 ≠ p := fun z => by
    rw [z, hp] at h1
    cases h1
  refine ⟨ps, by rw [upd_ne n1]; exact h1, h2, fun pos cv hc => ?_⟩
  obtain ⟨c, e1, e2⟩ := h3 pos cv hc
  have n2 : c ≠ p := fun z => by
    rw [z, hp] at e2
    have z2 := Option.some.inj e2
    unfold CodeO at z2
    cases z2
  exact ⟨c, e1, by rw [upd_ne n2]; exact e2⟩
/-- a list that is in no slot changes -/
theorem RR.chg (R : RR K T B G w r σ H) {p : Addr} {xs : List V} {o : HO} (hp : H p = some (.lst xs)) (g : G p = none) (h0 : ¬Ob B.H0 p) (nw : ∀ i, w i ≠ some p) (ho : noTbl o := by intro ps z; cases z) : RR K T B G w r σ (upd H p o) := by
  have hw : ∀ i a, w i = some a → a ≠ p := fun i a e z => nw i (z ▸ e)
  refine ⟨R.sub.off g, tabs_lst R.tabs hp, R.nt, fun a v h n k => ?_, fun a h => ?_, R.grow, R.sub0, R.inj, fun i a e => ?_, fun i x e => ?_, R.out, R.len⟩
  · rw [upd_ne (show a ≠ p from fun z => h0 (z ▸ ⟨v, h, n⟩))]
    exact R.ent a v h n k
  · exact (R.dom a h).put ho
  · obtain ⟨h1, h2, vs, h3⟩ := R.fre i a e
    exact ⟨h1, h2, vs, by rw [upd_ne (hw i a e)]; exact h3⟩
  · have q := R.slot i x e
    cases x with
    | un => exact q
    | val d => exact q
    | own ds => obtain ⟨a, vs, q1, q2, q3, q4, q5⟩ := q; exact ⟨a, vs, q1, q2, q3, by rw [upd_ne (hw i a q1)]; exact q4, q5⟩
    | io ds => obtain ⟨a, vs, q1, q2, q3, q4, q5⟩ := q; exact ⟨a, vs, q1, q2, q3, by rw [upd_ne (hw i a q1)]; exact q4, q5⟩
/-- a list of its own becomes plain -/
theorem RR.settle (R : RR K T B G w r σ H) {p : Addr} {xs : List V} {ds : List D} (hp : H p = some (.lst xs)) (g : G p = none) (h0 : ¬Ob B.H0 p) (nw : ∀ i, w i ≠ some p) : RR K T B (upd G p (.lst xs)) w r σ H := by
  have sg : Sub G (upd G p (.lst xs)) := Sub.new g
  have hw : ∀ i a, w i = some a → a ≠ p := fun i a e z => nw i (z ▸ e)
  refine ⟨fun a o e => ?_, R.tabs, R.nt.put (fun ps z => by cases z), R.ent, R.dom, fun a h => ?_, R.sub0.tr sg, R.inj, fun i a e => ?_, fun i x e => ?_, R.out, R.len⟩
  · by_cases q : a = p
    · rw [q, upd_same] at e; rw [q, hp]; exact e
    · rw [upd_ne q] at e; exact R.sub a o e
  · by_cases q : a = p
    · exact .inr (q ▸ h0)
    · rw [upd_ne q] at h; exact R.grow a h
  · obtain ⟨h1, h2, vs, h3⟩ := R.fre i a e
    exact ⟨by rw [upd_ne (hw i a e)]; exact h1, h2, vs, h3⟩
  · have q := R.slot i x e
    cases x with
    | un => exact q
    | val d => obtain ⟨q0, v, q1, q2⟩ := q; exact ⟨q0, v, q1, dp_sub sg q2⟩
    | own ds => obtain ⟨a, vs, q1, q2, q3, q4, q5⟩ := q; exact ⟨a, vs, q1, q2, q3, q4, dps_sub sg q5⟩
    | io ds => obtain ⟨a, vs, q1, q2, q3, q4, q5⟩ := q; exact ⟨a, vs, q1, q2, q3, q4, dps_sub sg q5⟩
/-- a slot gets another word; w: which names hold lists of their own -/
def wset (w : Wn) (i : Nat) (a : Option Addr) : Wn := fun j => if j = i then a else w j
theorem wset_same {w : Wn} {i : Nat} {a : Option Addr} : wset w i a i = a := if_pos rfl
theorem wset_ne {w : Wn} {i j : Nat} {a : Option Addr} (h : j ≠ i) : wset w i a j = w j := if_neg h
theorem slot_w {w' : Wn} {i : Nat} {x : Slot} {σ' : L2.St} (e : w' i = w i) (eσ : σ'[i]? = σ[i]?) (h : SlotOk K B G w σ H i x) : SlotOk K B G w' σ' H i x := by
  cases x with
  | un => exact e.trans h
  | val d => exact ⟨e.trans h.1, by rw [eσ]; exact h.2⟩
  | own ds => obtain ⟨a, vs, q1, q2, q3, q4, q5⟩ := h; exact ⟨a, vs, e.trans q1, q2, eσ.trans q3, q4, q5⟩
  | io ds => obtain ⟨a, vs, q1, q2, q3, q4, q5⟩ := h; exact ⟨a, vs, e.trans q1, q2, eσ.trans q3, q4, q5⟩
/-- slot i forgotten or set to plain data; the slots σ' differ at i alone -/
theorem RR.putw (R : RR K T B G w r σ H) {i : Nat} {x : Slot} {σ' : L2.St} (hσ : ∀ j, j ≠ i → σ'[j]? = σ[j]?) (hl : σ'.length = σ.length) (hx : i < r.length → SlotOk K B G (wset w i none) σ' H i x) : RR K T B G (wset w i none) (r.set i x) σ' H := by
  have le : ∀ j a, wset w i none j = some a → w j = some a := fun j a e => by
    by_cases q : j = i
    · rw [q, wset_same] at e; cases e
    · rw [wset_ne q] at e; exact e
  refine ⟨R.sub, R.tabs, R.nt, R.ent, R.dom, R.grow, R.sub0, fun j k a e1 e2 => R.inj j k a (le j a e1) (le k a e2), fun j a e => R.fre j a (le j a e), fun j y e => ?_, fun j e => ?_, by rw [hl, List.length_set]; exact R.len⟩
  · by_cases q : j = i
    · subst q
      by_cases hl : j < r.length
      · rw [List.getElem?_set_self hl] at e
        cases e
        exact hx hl
      · rw [List.getElem?_eq_none (by rw [List.length_set]; omega)] at e
        cases e
    · rw [List.getElem?_set_ne (Ne.symm q)] at e
      exact slot_w (wset_ne q) (hσ j q) (R.slot j y e)
  · by_cases q : j = i
    · rw [q, wset_same]
    · rw [wset_ne q]
      rw [List.getElem?_set_ne (Ne.symm q)] at e
      exact R.out j e
theorem Stp.wset {i : Nat} : Stp G w H G (wset w i none) H where
  sub := Sub.rfl' G
  grow := fun _ h => .inl h
  keep := fun _ _ h _ _ => h
  dom := fun _ h => h
  less := fun j a e => by
    by_cases q : j = i
    · rw [q, wset_same] at e; cases e
    · rw [wset_ne q] at e; exact e
/-- the own list at slot i is changed to ys -/
theorem RR.own (R : RR K T B G w r σ H) {i : Nat} {a : Addr} {xs ys : List V} {es : List D} (hi : i < r.length) (wi : w i = some a) (h0 : ¬Ob B.H0 a) (hσ : σ[i]? = some (some (.ref a))) (ha : H a = some (.lst xs)) (hy : DqAll K G ys es) :
    RR K T B G w (r.set i (.own es)) σ (upd H a (.lst ys)) := by
  have ga := R.nofr wi
  refine ⟨R.sub.off ga, tabs_lst R.tabs ha, R.nt, fun b v h n k => ?_, fun b h => ?_, R.grow, R.sub0, R.inj, fun j b e => ?_, fun j x e => ?_, fun j e => ?_, by rw [List.length_set]; exact R.len⟩
  · rw [upd_ne (show b ≠ a from fun z => h0 (z ▸ ⟨v, h, n⟩))]
    exact R.ent b v h n k
  · exact (R.dom b h).put fun ps z => nomatch z
  · obtain ⟨h1, h2, vs, h3⟩ := R.fre j b e
    by_cases q : b = a
    · exact ⟨h1, h2, ys, by rw [q, upd_same]⟩
    · exact ⟨h1, h2, vs, by rw [upd_ne q]; exact h3⟩
  · by_cases q : j = i
    · subst q
      rw [List.getElem?_set_self hi] at e
      cases e
      exact ⟨a, ys, wi, h0, hσ, upd_same, hy⟩
    · rw [List.getElem?_set_ne (Ne.symm q)] at e
      have z := R.slot j x e
      have nb : ∀ b, w j = some b → b ≠ a := fun b hb z => q (R.inj j i a (z ▸ hb) wi)
      cases x with
      | un => exact z
      | val d => exact z
      | own ds => obtain ⟨b, vs, q1, q2, q3, q4, q5⟩ := z; exact ⟨b, vs, q1, q2, q3, by rw [upd_ne (nb b q1)]; exact q4, q5⟩
      | io ds => obtain ⟨b, vs, q1, q2, q3, q4, q5⟩ := z; exact ⟨b, vs, q1, q2, q3, by rw [upd_ne (nb b q1)]; exact q4, q5⟩
  · by_cases q : j = i
    · subst q
      rw [List.getElem?_eq_none_iff, List.length_set] at e
      omega
    · rw [List.getElem?_set_ne (Ne.symm q)] at e
      exact R.out j e
/-- .. the list that is lent -/
theorem RR.lent (R : RR K T B G w r σ H) {i : Nat} {a : Addr} {xs ys : List V} {es : List D} (hi : i < r.length) (wi : w i = some a) (h0 : B.lent = some a) (hσ : σ[i]? = some (some (.ref a))) (ha : H a = some (.lst xs)) (hy : DqAll K G ys es) :
    RR K T B G w (r.set i (.io es)) σ (upd H a (.lst ys)) := by
  have ga := R.nofr wi
  refine ⟨R.sub.off ga, tabs_lst R.tabs ha, R.nt, fun b v h n k => ?_, fun b h => ?_, R.grow, R.sub0, R.inj, fun j b e => ?_, fun j x e => ?_, fun j e => ?_, by rw [List.length_set]; exact R.len⟩
  · rw [upd_ne (show b ≠ a from fun z => k (z ▸ h0))]
    exact R.ent b v h n k
  · exact (R.dom b h).put fun ps z => nomatch z
  · obtain ⟨h1, h2, vs, h3⟩ := R.fre j b e
    by_cases q : b = a
    · exact ⟨h1, h2, ys, by rw [q, upd_same]⟩
    · exact ⟨h1, h2, vs, by rw [upd_ne q]; exact h3⟩
  · by_cases q : j = i
    · subst q
      rw [List.getElem?_set_self hi] at e
      cases e
      exact ⟨a, ys, wi, h0, hσ, upd_same, hy⟩
    · rw [List.getElem?_set_ne (Ne.symm q)] at e
      have z := R.slot j x e
      have nb : ∀ b, w j = some b → b ≠ a := fun b hb z => q (R.inj j i a (z ▸ hb) wi)
      cases x with
      | un => exact z
      | val d => exact z
      | own ds => obtain ⟨b, vs, q1, q2, q3, q4, q5⟩ := z; exact ⟨b, vs, q1, q2, q3, by rw [upd_ne (nb b q1)]; exact q4, q5⟩
      | io ds => obtain ⟨b, vs, q1, q2, q3, q4, q5⟩ := z; exact ⟨b, vs, q1, q2, q3, by rw [upd_ne (nb b q1)]; exact q4, q5⟩
  · by_cases q : j = i
    · subst q
      rw [List.getElem?_eq_none_iff, List.length_set] at e
      omega
    · rw [List.getElem?_set_ne (Ne.symm q)] at e
      exact R.out j e
theorem Stp.mut {i : Nat} {a : Addr} {o : HO} (wi : w i = some a) (ho : noTbl o := by intro ps z; cases z) : Stp G w H G w (upd H a o) where
  sub := Sub.rfl' G
  grow := fun _ h => .inl h
  keep := fun b u h _ k => by rw [upd_ne (show b ≠ a from fun z => k i (by rw [z]; exact wi))]; exact h
  dom := fun b h => h.put ho
  less := fun _ _ h => h
end
end Rf
set_option Elab.async false
set_option linter.all false
set_option maxRecDepth 100000
set_option maxHeartbeats 1000000
namespace Rf
open PySem PySem.Spec PyProof.Rows L2 LamX
abbrev XT := List (Addr × Str)
section
variable (K : PySem.W.Frag) (T : List (Addr × Str)) (xt : XT) (B : Bk) (W : WX)
/-- what is wanted behind a reading -/
def QX {α β : Type} (rel : Hp → Wn → Hp → β → α → Prop) (G : Hp) (w : Wn) (σ : L2.St) (H : Hp) (x : Res α) (Q : β → Hp → Prop) : Prop := match x with
  | .ok a r' => ∀ b G' w' H', RR K T B G' w' r' σ H' → Stp G w H G' w' H' → rel G' w' H' b a → Q b H'
  | .exc x d r' => ∀ c f dx v G' w' H', xt[x]? = some (c, f) → RR K T B G' w' r' σ H' → Stp G w H G' w' H' → H' dx = some (.xd [(f, v)]) → Dq K G' v d → W (.ref c) (some dx) σ H'
  | .bad => False
def relV (G : Hp) (_ : Wn) (_ : Hp) (v : V) (d : D) : Prop := Dq K G v d
def relB (_ : Hp) (_ : Wn) (_ : Hp) (b : Bool) (c : Bool) : Prop := b = c
def relP (_ : Hp) (_ : Wn) (_ : Hp) (b c : Option Int) : Prop := b = c
def relA (G : Hp) (_ : Wn) (_ : Hp) (vs : List V) (ds : List D) : Prop := DqAll K G vs ds
/-- plain data, or a list of a slot's own that is looked at -/
def DqO (K : PySem.W.Frag) (G H : Hp) (v : V) (d : D) : Prop := Dq K G v d ∨ ∃ (a : Addr) (vs : List V) (ds : List D), v = .ref a ∧ d = .list ds ∧ H a = some (.lst vs) ∧ DqAll K G vs ds
theorem DqO.dq {K : PySem.W.Frag} {G H : Hp} {v : V} {d : D} (s : Sub G H) (h : DqO K G H v d) : Dq K H v d := by
  rcases h with h | ⟨a, vs, ds, rfl, rfl, h1, h2⟩
  · exact dp_sub s h
  · exact .lst h1 (dps_sub s h2)
theorem DqO.list {K : PySem.W.Frag} {G H : Hp} {v : V} {ds : List D} (s : Sub G H) (h : DqO K G H v (.list ds)) : ∃ a vs, v = .ref a ∧ H a = some (.lst vs) ∧ DqAll K G vs ds := by
  rcases h with h | ⟨a, vs, es, rfl, e, h1, h2⟩
  · cases h with
    | lst h1 h2 => exact ⟨_, _, rfl, s _ _ h1, h2⟩
  · cases e
    exact ⟨a, vs, rfl, h1, h2⟩
theorem DqO.tuple {K : PySem.W.Frag} {G H : Hp} {v : V} {ds : List D} (s : Sub G H) (h : DqO K G H v (.tuple ds)) : ∃ a vs, v = .ref a ∧ SqD K G a vs ∧ SqT K H a vs ∧ DqAll K G vs ds := by
  rcases h with h | ⟨a, vs, es, rfl, e, h1, h2⟩
  · cases h with
    | tup h1 h2 => exact ⟨_, _, rfl, h1, (sqD_sub s h1).sq, h2⟩
  · cases e
/-- an operand: v is d now, and what ag tells later -/
def relO (σ : L2.St) (ag : Rho → D → Option D) (G : Hp) (w : Wn) (H : Hp) (v : V) (d : D) : Prop :=
  DqO K G H v d ∧ ∀ G2 w2 r2 H2 z, RR K T B G2 w2 r2 σ H2 → Stp G w H G2 w2 H2 → ag r2 d = some z → DqO K G2 H2 v z
end
section
variable {K : PySem.W.Frag} {T : List (Addr × Str)} {xt : XT} {B : Bk} {W : WX} {α β γ δ : Type}
theorem QX.after {rel : Hp → Wn → Hp → β → α → Prop} {G G1 : Hp} {w w1 : Wn} {σ : L2.St} {H H1 : Hp} {x : Res α} {Q : β → Hp → Prop} (h : QX K T xt B W rel G w σ H x Q) (s : Stp G w H G1 w1 H1) : QX K T xt B W rel G1 w1 σ H1 x Q := by
  cases x with
  | ok a r => exact fun b G' w' H' R S => h b G' w' H' R (s.tr S)
  | exc x d r => exact fun c f dx v G' w' H' e R S => h c f dx v G' w' H' e R (s.tr S)
  | bad => exact h
theorem QX.bind {rel1 : Hp → Wn → Hp → β → α → Prop} {rel2 : Hp → Wn → Hp → δ → γ → Prop} {G : Hp} {w : Wn} {σ : L2.St} {H : Hp} {x : Res α} {f : α → Rho → Res γ} {Q : δ → Hp → Prop} {Q1 : β → Hp → Prop} (h : QX K T xt B W rel2 G w σ H (x.bind f) Q)
    (k : ∀ a r1 b G1 w1 H1, x = .ok a r1 → RR K T B G1 w1 r1 σ H1 → Stp G w H G1 w1 H1 → rel1 G1 w1 H1 b a → QX K T xt B W rel2 G1 w1 σ H1 (f a r1) Q → Q1 b H1) : QX K T xt B W rel1 G w σ H x Q1 := by
  cases x with
  | ok a r => exact fun b G' w' H' R S q => k a r b G' w' H' rfl R S q (QX.after h S)
  | exc x d r => exact h
  | bad => exact h
theorem QX.opt {rel : Hp → Wn → Hp → β → α → Prop} {G : Hp} {w : Wn} {σ : L2.St} {H : Hp} {o : Option α} {r : Rho} {Q : β → Hp → Prop} (h : QX K T xt B W rel G w σ H (Rf.opt o r) Q) :
    ∃ a, o = some a ∧ ∀ b G' w' H', RR K T B G' w' r σ H' → Stp G w H G' w' H' → rel G' w' H' b a → Q b H' := by
  cases o with
  | none => exact h.elim
  | some a => exact ⟨a, rfl, h⟩
end

section
variable (T : List (Addr × Str)) (xt : XT) (X : Cx)
def SE (e : Expr) (f : Rho → Res D) : Prop := ∀ W : WX, Takes X W → ∃ t : TE, PE X e t ∧ ∀ B G w r σ H (Q : VK), RR X.K T B G w r σ H → QX X.K T xt B W (relV X.K) G w σ H (f r) Q → t σ H Q
def SO (e : Expr) (f : Rho → Res D) (ag : Rho → D → Option D) : Prop := ∀ W : WX, Takes X W → ∃ t : TE, PE X e t ∧ ∀ B G w r σ H (Q : VK), RR X.K T B G w r σ H → QX X.K T xt B W (relO X.K T B σ ag) G w σ H (f r) Q → t σ H Q
def ST (e : Expr) (f : Rho → Res Bool) : Prop := ∀ W : WX, Takes X W → ∃ t : TT, PT X e t ∧ ∀ B G w r σ H (Q : Bool → Hp → Prop), RR X.K T B G w r σ H → QX X.K T xt B W relB G w σ H (f r) Q → t σ H Q
def SC (es : List Expr) (f : Rho → Res Bool) : Prop := ∀ W : WX, Takes X W → ∃ t : TT, PTs X es t ∧ ∀ B G w r σ H (Q : Bool → Hp → Prop), RR X.K T B G w r σ H → QX X.K T xt B W relB G w σ H (f r) Q → t σ H Q
def SA (es : List Expr) (f : Rho → Res (List D)) : Prop := ∀ W : WX, Takes X W → ∃ t : TA, PA X es t ∧ ∀ B G w r σ H (Q : List V → Hp → Prop), RR X.K T B G w r σ H → QX X.K T xt B W (relA X.K) G w σ H (f r) Q → t σ H Q
def SP' (o : Option Expr) (f : Rho → Res (Option Int)) : Prop := ∀ W : WX, Takes X W → ∃ t : TO, PO X o t ∧ ∀ B G w r σ H (Q : Option Int → Hp → Prop), RR X.K T B G w r σ H → QX X.K T xt B W relP G w σ H (f r) Q → t σ H Q
end

section
variable {T : List (Addr × Str)} {xt : XT} {X : Cx} {a b c e : Expr} {va vb vc : Rho → Res D} {p : Pos}
/-! ### names -/
theorem se_give {i : Nat} {x : Str} (hN : X.N[i]? = some x) (hv : Vis X.env.scope x) (hd : (x == ("__debug__" : Str)) = false) (hcd : (x == ("__classdict__" : Str)) = false) : SE T xt X (.Name x p) fun r => give r i := by
  intro W tk
  refine ⟨tVar i, pe_var hN hv hd hcd, fun B G w r σ H Q R h => ?_⟩
  change QX _ _ _ _ _ _ _ _ _ _ (give r i) _ at h
  unfold give at h
  cases e : r[i]? with
  | none => rw [e] at h; exact h.elim
  | some x =>
    rw [e] at h
    have hs := R.slot i x e
    cases x with
    | un => exact h.elim
    | io ds => exact h.elim
    | val d =>
      obtain ⟨_, v, h1, h2⟩ := hs
      exact ⟨v, h1, h v G w H R (Stp.refl _ _ _) h2⟩
    | own ds =>
      obtain ⟨l, vs, h1, h2, h3, h4, h5⟩ := hs
      have R1 : RR X.K T B G (wset w i none) (r.set i .un) σ H := R.putw (fun _ _ => rfl) rfl fun _ => wset_same
      have nw : ∀ j, wset w i none j ≠ some l := fun j z => by
        by_cases q : j = i
        · rw [q, wset_same] at z; cases z
        · rw [wset_ne q] at z; exact q (R.inj j i l z h1)
      have gl := R.nofr h1
      have R2 := R1.settle (ds := ds) h4 gl h2 nw
      have hd : Dq X.K (upd G l (.lst vs)) (.ref l) (.list ds) := .lst upd_same (dps_sub (Sub.new gl) h5)
      have ww : wset (wset w i none) i none = wset w i none := by
        funext j
        by_cases q : j = i
        · rw [q, wset_same, wset_same]
        · rw [wset_ne q]
      have R3 := R2.putw (i := i) (x := .val (.list ds)) (σ' := σ) (fun _ _ => rfl) rfl fun _ => ⟨by rw [wset_same], _, h3, hd⟩
      rw [ww, List.set_set] at R3
      refine ⟨_, h3, h _ _ _ H R3 ⟨Sub.new gl, fun b hb => ?_, fun _ _ z _ _ => z, fun _ z => z, fun j b z => ?_⟩ hd⟩
      · by_cases q : b = l
        · exact .inr (.inr ⟨i, q ▸ h1⟩)
        · rw [upd_ne q] at hb; exact .inl hb
      · by_cases q : j = i
        · rw [q, wset_same] at z; cases z
        · rw [wset_ne q] at z; exact z
theorem RR.peek {K : PySem.W.Frag} {T : List (Addr × Str)} {B : Bk} {G H : Hp} {w : Wn} {r : Rho} {σ : L2.St} (R : RR K T B G w r σ H) {i : Nat} {d : D} (h : Rf.peek r i = some d) : ∃ v, σ[i]? = some (some v) ∧ DqO K G H v d := by
  unfold Rf.peek at h
  cases e : r[i]? with
  | none => rw [e] at h; cases h
  | some x =>
    rw [e] at h
    have hs := R.slot i x e
    cases x with
    | un => cases h
    | val z => cases h; obtain ⟨_, v, h1, h2⟩ := hs; exact ⟨v, h1, .inl h2⟩
    | own ds => cases h; obtain ⟨l, vs, h1, h2, h3, h4, h5⟩ := hs; exact ⟨_, h3, .inr ⟨l, vs, ds, rfl, rfl, h4, h5⟩⟩
    | io ds => cases h; obtain ⟨l, vs, h1, h2, h3, h4, h5⟩ := hs; exact ⟨_, h3, .inr ⟨l, vs, ds, rfl, rfl, h4, h5⟩⟩
theorem so_peek {i : Nat} {x : Str} (hN : X.N[i]? = some x) (hv : Vis X.env.scope x) (hd : (x == ("__debug__" : Str)) = false) (hcd : (x == ("__classdict__" : Str)) = false) : SO T xt X (.Name x p) (fun r => opt (peek r i) r) fun r _ => peek r i := by
  intro W tk
  refine ⟨tVar i, pe_var hN hv hd hcd, fun B G w r σ H Q R h => ?_⟩
  obtain ⟨d, e, h⟩ := h.opt
  obtain ⟨v, h1, h2⟩ := R.peek e
  refine ⟨v, h1, h v G w H R (Stp.refl _ _ _) ⟨h2, fun G2 w2 r2 H2 z R2 S2 ez => ?_⟩⟩
  obtain ⟨v2, k1, k2⟩ := R2.peek ez
  rw [h1] at k1
  cases k1
  exact k2
/-- a value may be looked at -/
theorem SE.so (h : SE T xt X e va) : SO T xt X e va fun _ x => some x := by
  intro W tk
  obtain ⟨t, p, q⟩ := h W tk
  refine ⟨t, p, fun B G w r σ H Q R k => q B G w r σ H Q R ?_⟩
  cases z : va r with
  | ok d r1 =>
    rw [z] at k
    intro v G' w' H' R' S' hd
    exact k v G' w' H' R' S' ⟨.inl hd, fun G2 w2 r2 H2 y R2 S2 ey => by cases ey; exact .inl (dp_sub S2.sub hd)⟩
  | exc x d r1 => rw [z] at k; exact k
  | bad => rw [z] at k; exact k
/-! ### constants -/
def cstOk : Const → D → Bool
  | .none, .none => true
  | .bool a, .bool b => a == b
  | .int a, .int b => a == b
  | .str a, .str b => decide (a = b)
  | _, _ => false
theorem se_cst {k : Const} {j : Nat} {d : D} (h : cstOk k d = true) : SE T xt X (.Constant k j p) fun r => .ok d r := by
  intro W tk
  have fin : ∀ v : V, (∀ G, Dq X.K G v d) → PE X (.Constant k j p) (tC v) → ∃ t : TE, PE X (.Constant k j p) t ∧ ∀ B G w r σ H (Q : VK), RR X.K T B G w r σ H → QX X.K T xt B W (relV X.K) G w σ H (Res.ok d r) Q → t σ H Q :=
    fun v hv hp => ⟨tC v, hp, fun B G w r σ H Q R q => q v G w H R (Stp.refl _ _ _) (hv G)⟩
  cases k with
  | none => cases d <;> first | exact fin .non (fun _ => .non) pe_non | cases h
  | bool x => cases d with
    | bool y =>
      have e : x = y := by simpa [cstOk] using h
      subst e
      exact fin (.bl x) (fun _ => .bl x) pe_bl
    | _ => cases h
  | int x => cases d with
    | int y =>
      have e : x = y := by simpa [cstOk] using h
      subst e
      exact fin (.int x) (fun _ => .int x) pe_int
    | _ => cases h
  | str x => cases d with
    | str y =>
      have e : x = y := of_decide_eq_true h
      subst e
      exact fin (.str x) (fun _ => .str x) pe_str
    | _ => cases h
  | _ => cases d <;> cases h
/-! ### arguments, displays -/
/-- arguments with more behind them -/
def SK (T : List (Addr × Str)) (xt : XT) (X : Cx) (es : List Expr) (f : Rho → Res (List D)) : Prop := ∀ W : WX, Takes X W → ∀ (es2 : List Expr) (t2 : TA), PA X es2 t2 → ∃ t : TA, PA X (es ++ es2) t ∧
  ∀ B G w r σ H (Q : List V → Hp → Prop), RR X.K T B G w r σ H → QX X.K T xt B W (relA X.K) G w σ H (f r) (fun vs H1 => t2 σ H1 fun us H2 => Q (vs ++ us) H2) → t σ H Q
theorem SK.sa {es : List Expr} {f : Rho → Res (List D)} (h : SK T xt X es f) : SA T xt X es f := by
  intro W tk
  obtain ⟨t, p, q⟩ := h W tk [] tNil pa_nil
  rw [List.append_nil] at p
  refine ⟨t, p, fun B G w r σ H Q R k => q B G w r σ H Q R ?_⟩
  have e : (fun (vs : List V) (H1 : Hp) => tNil σ H1 fun us H2 => Q (vs ++ us) H2) = Q := by
    funext vs H1
    show Q (vs ++ []) H1 = Q vs H1
    rw [List.append_nil]
  rw [e]
  exact k
theorem sk_nil : SK T xt X [] fun r => .ok [] r := fun W tk es2 t2 p2 => ⟨t2, p2, fun B G w r σ H Q R h => h [] G w H R (Stp.refl _ _ _) .nil⟩
def noStar : Expr → Bool
  | .Starred _ _ => false
  | _ => true
theorem star_one (e : Expr) (es : List Expr) (env : Env) (h : noStar e = true) : starEach (e :: es) env = (false, eval e env) :: starEach es env := by
  cases e <;> first | rfl | cases h
theorem sk_cons {es : List Expr} {fa : Rho → Res (List D)} (h : SE T xt X a va) (k : SK T xt X es fa) (hs : noStar a = true) : SK T xt X (a :: es) fun r => (va r).bind fun x r1 => (fa r1).bind fun ys r2 => .ok (x :: ys) r2 := by
  intro W tk es2 t2 p2
  obtain ⟨ta, pa, qa⟩ := h W tk
  obtain ⟨tb, pb, qb⟩ := k W tk es2 t2 p2
  refine ⟨tCons ta tb, pa_cons pa pb (star_one a (es ++ es2) X.env hs), fun B G w r σ H Q R q => ?_⟩
  refine qa _ _ _ _ _ _ _ R (q.bind fun x r1 v G1 w1 H1 _ R1 S1 d1 q1 => ?_)
  refine qb _ _ _ _ _ _ _ R1 (q1.bind fun ys r2 vs G2 w2 H2 _ R2 S2 d2 q2 => ?_)
  exact q2 (v :: vs) G2 w2 H2 R2 (Stp.refl _ _ _) (.cons (dp_sub S2.sub d1) d2)
theorem se_tup {es : List Expr} {fa : Rho → Res (List D)} {n : Nat} (h : SA T xt X es fa) : SE T xt X (.Tuple es n p) fun r => (fa r).bind fun ds r1 => if fits ds then .ok (.tuple ds) r1 else .bad := by
  intro W tk
  obtain ⟨ta, pa, qa⟩ := h W tk
  refine ⟨tTupD ta, pe_tupD pa, fun B G w r σ H Q R q => ?_⟩
  refine qa _ _ _ _ _ _ _ R (q.bind fun ds r1 vs G1 w1 H1 _ R1 S1 d1 q1 => ?_)
  cases f : fits ds with
  | false => rw [f] at q1; exact q1.elim
  | true =>
    rw [f] at q1
    refine ⟨by rw [dps_len d1]; exact Nat.le_of_lt (big_line (fits_le f)), fun a its ha => ?_⟩
    have ga : G1 a = none := by
      cases z : G1 a with
      | none => rfl
      | some u => rw [R1.sub _ _ z] at ha; cases ha
    exact q1 _ _ _ _ (R1.new ha) (Stp.new R1.sub ha) (.tup SqD.new (dps_sub (Sub.new ga) d1))
theorem RR.gnone {K : PySem.W.Frag} {T : List (Addr × Str)} {B : Bk} {G H : Hp} {w : Wn} {r : Rho} {σ : L2.St} (R : RR K T B G w r σ H) {a : Addr} (ha : H a = none) : G a = none := by
  cases z : G a with
  | none => rfl
  | some u => rw [R.sub _ _ z] at ha; cases ha
theorem se_lst {es : List Expr} {fa : Rho → Res (List D)} (h : SA T xt X es fa) : SE T xt X (.List es p) fun r => (fa r).bind fun ds r1 => if fits ds then .ok (.list ds) r1 else .bad := by
  intro W tk
  obtain ⟨ta, pa, qa⟩ := h W tk
  refine ⟨tLst ta, pe_lst pa, fun B G w r σ H Q R q => ?_⟩
  refine qa _ _ _ _ _ _ _ R (q.bind fun ds r1 vs G1 w1 H1 _ R1 S1 d1 q1 => ?_)
  cases f : fits ds with
  | false => rw [f] at q1; exact q1.elim
  | true =>
    rw [f] at q1
    refine ⟨by rw [dps_len d1]; exact Nat.le_of_lt (big_line (fits_le f)), fun a ha => ?_⟩
    exact q1 _ _ _ _ (R1.new ha) (Stp.new R1.sub ha) (.lst upd_same (dps_sub (Sub.new (R1.gnone ha)) d1))
/-! ### operators -/
/-- an operator does on values what g says of the data -/
def OpS (T : List (Addr × Str)) (X : Cx) (f : Value → Value → Sem Value) (g : D → D → Option D) : Prop := ∃ r : R2, OpR X f r ∧ ∀ (x y : V) (dx dy d : D) B G w ρ σ H (Q : VK), RR X.K T B G w ρ σ H → Dq X.K G x dx → Dq X.K G y dy → g dx dy = some d →
  (∀ v G' H', RR X.K T B G' w ρ σ H' → Stp G w H G' w H' → Dq X.K G' v d → Q v H') → r x y H Q
theorem se_bin {op : Operator} {g : D → D → Option D} (ho : OpS T X (binaryOp op) g) (ha : SE T xt X a va) (hb : SE T xt X b vb) : SE T xt X (.BinOp a op b p) fun r => (va r).bind fun x r1 => (vb r1).bind fun y r2 => opt (g x y) r2 := by
  intro W tk
  obtain ⟨ta, pa, qa⟩ := ha W tk
  obtain ⟨tb, pb, qb⟩ := hb W tk
  obtain ⟨ro, h1, h2⟩ := ho
  refine ⟨tOp ro ta tb, pe_op h1 pa pb, fun B G w r σ H Q R q => ?_⟩
  refine qa _ _ _ _ _ _ _ R (q.bind fun x r1 v G1 w1 H1 _ R1 S1 d1 q1 => ?_)
  refine qb _ _ _ _ _ _ _ R1 (q1.bind fun y r2 u G2 w2 H2 _ R2 S2 d2 q2 => ?_)
  obtain ⟨d, ed, q3⟩ := q2.opt
  exact h2 v u x y d B G2 w2 r2 σ H2 Q R2 (dp_sub S2.sub d1) d2 ed fun z G' H' R' S' hz => q3 z G' _ H' R' S' hz
def cmpF (oa : Rho → Res D) (ag : Rho → D → Option D) (ob : Rho → Res D) (g : D → D → Option Bool) (r : Rho) : Res Bool := (oa r).bind fun x r1 => (ob r1).bind fun y r2 => opt ((ag r2 x).bind fun z => g z y) r2
/-- a comparison -/
def CmS (X : Cx) (f : Value → Value → Sem Value) (g : D → D → Option Bool) : Prop := ∃ r : R2, OpR X f r ∧ ∀ (x y : V) (dx dy : D) (k : Bool) H (Q : VK), Dq X.K H x dx → Dq X.K H y dy → g dx dy = some k → Q (.bl k) H → r x y H Q
theorem cm_run {op : CmpOp} {g : D → D → Option Bool} {oa ob : Rho → Res D} {ag bg : Rho → D → Option D} (ho : CmS X (compareOp op) g) (ha : SO T xt X a oa ag) (hb : SO T xt X b ob bg) (hm : behindInMarks op b = false) : ∀ W : WX, Takes X W → ∃ t : TE, PE X (.Compare a [op] [b] p) t ∧ PT X (.Compare a [op] [b] p) (tTest t) ∧
    ∀ B G w r σ H (Q : VK), RR X.K T B G w r σ H → QX X.K T xt B W (fun _ _ _ (v : V) (k : Bool) => v = .bl k) G w σ H (cmpF oa ag ob g r) Q → t σ H Q := by
  intro W tk
  obtain ⟨ta, pa, qa⟩ := ha W tk
  obtain ⟨tb, pb, qb⟩ := hb W tk
  obtain ⟨ro, h1, h2⟩ := ho
  refine ⟨tOp ro ta tb, pe_cmpR h1 pa pb hm, pt_cmpR h1 pa pb hm, fun B G w r σ H Q R q => ?_⟩
  refine qa _ _ _ _ _ _ _ R (q.bind fun x r1 v G1 w1 H1 _ R1 S1 d1 q1 => ?_)
  refine qb _ _ _ _ _ _ _ R1 (q1.bind fun y r2 u G2 w2 H2 _ R2 S2 d2 q2 => ?_)
  obtain ⟨k, ek, q3⟩ := q2.opt
  cases ez : ag r2 x with
  | none => rw [ez] at ek; cases ek
  | some z =>
    rw [ez] at ek
    exact h2 v u z y k H2 Q ((d1.2 _ _ _ _ _ R2 S2 ez).dq R2.sub) (d2.1.dq R2.sub) ek (q3 (.bl k) G2 w2 H2 R2 (Stp.refl _ _ _) rfl)
theorem st_cmp {op : CmpOp} {g : D → D → Option Bool} {oa ob : Rho → Res D} {ag bg : Rho → D → Option D} (ho : CmS X (compareOp op) g) (ha : SO T xt X a oa ag) (hb : SO T xt X b ob bg) (hm : behindInMarks op b = false) :
    ST T xt X (.Compare a [op] [b] p) (cmpF oa ag ob g) := by
  intro W tk
  obtain ⟨t, p1, p2, q⟩ := cm_run (p := p) ho ha hb hm W tk
  refine ⟨tTest t, p2, fun B G w r σ H Q R h => q B G w r σ H _ R ?_⟩
  revert h
  generalize cmpF oa ag ob g r = x
  intro h
  cases x with
  | ok k r1 => exact fun v G' w' H' R' S' e => ⟨k, e, h k G' w' H' R' S' rfl⟩
  | exc x d r1 => exact h
  | bad => exact h
theorem se_cmp {op : CmpOp} {g : D → D → Option Bool} {oa ob : Rho → Res D} {ag bg : Rho → D → Option D} (ho : CmS X (compareOp op) g) (ha : SO T xt X a oa ag) (hb : SO T xt X b ob bg) (hm : behindInMarks op b = false) :
    SE T xt X (.Compare a [op] [b] p) (toV (cmpF oa ag ob g)) := by
  intro W tk
  obtain ⟨t, p1, p2, q⟩ := cm_run (p := p) ho ha hb hm W tk
  refine ⟨t, p1, fun B G w r σ H Q R h => q B G w r σ H _ R ?_⟩
  unfold toV at h
  revert h
  generalize cmpF oa ag ob g r = x
  intro h
  cases x with
  | ok k r1 =>
    intro v G' w' H' R' S' e
    have e' : v = .bl k := e
    subst e'
    exact h (.bl k) G' w' H' R' S' (.bl k)
  | exc x d r1 => exact h
  | bad => exact h
/-! ### truth -/
theorem truth_ok {K : PySem.W.Frag} {H : Hp} {v : V} {d : D} {k : Bool} (h : Dq K H v d) (e : truth d = some k) : TruV K v H k := by
  cases h with
  | non => cases e; rfl
  | bl b => cases e; rfl
  | int i => cases e; rfl
  | str x =>
    have e2 : (if x.length ≤ big then some (x.length != 0) else Option.none) = some k := e
    by_cases q : x.length ≤ big
    · rw [if_pos q] at e2
      cases e2
      refine ⟨Nat.le_of_lt (big_line q), ?_⟩
      rw [Bool.eq_iff_iff]
      simp
    · rw [if_neg q] at e2
      cases e2
  | lst h r =>
    cases e
    refine .inl ⟨_, .inl (.inl h), ?_⟩
    cases r <;> rfl
  | tup h r =>
    cases e
    refine .inr (.inl ⟨_, h.sq, ?_⟩)
    cases r <;> rfl
  | scr h => cases e
end
end Rf
set_option Elab.async false
set_option linter.all false
set_option maxRecDepth 100000
set_option maxHeartbeats 1000000
namespace Rf
open PySem PySem.Spec PyProof.Rows L2 LamX
section
variable {T : List (Addr × Str)} {xt : XT} {X : Cx}
/-! ### operators on data -/
theorem ops_int {f : Value → Value → Sem Value} {C : Int → Int → Prop} {h : Int → Int → Int} {g : D → D → Option D} (ho : OpR X f (rI C fun i j => .int (h i j)))
    (hg : ∀ x y d, g x y = some d → ∃ i j, x = .int i ∧ y = .int j ∧ C i j ∧ d = .int (h i j)) : OpS T X f g := by
  refine ⟨_, ho, fun x y dx dy d B G w ρ σ H Q R hx hy e q => ?_⟩
  obtain ⟨i, j, rfl, rfl, c, rfl⟩ := hg _ _ _ e
  cases hx
  cases hy
  exact ⟨i, j, rfl, rfl, c, q _ G H R (Stp.refl _ _ _) (.int _)⟩
theorem op_subC : OpR X (binaryOp .Sub) (rI (fun _ _ => True) fun i j => .int (i - j)) := fun pins s σ H x y v u Q I rx ry ⟨i, j, e1, e2, _, q⟩ => op_sub pins s σ H x y v u Q I rx ry ⟨i, j, e1, e2, q⟩
theorem os_sub : OpS T X (binaryOp .Sub) (binD .sub) := ops_int op_subC fun x y d e => by
  cases x <;> cases y <;> first | (cases e; done) | skip
  rename_i i j
  cases e
  exact ⟨i, j, rfl, rfl, True.intro, rfl⟩
theorem os_div : OpS T X (binaryOp .FloorDiv) (binD .div) := ops_int op_fdiv fun x y d e => by
  cases x <;> cases y <;> first | (cases e; done) | skip
  rename_i i j
  have e2 : (if 0 < j ∧ j < 1073741824 then some (PyData.int (i / j)) else Option.none) = some d := e
  by_cases q : 0 < j ∧ j < 1073741824
  · rw [if_pos q] at e2
    cases e2
    exact ⟨i, j, rfl, rfl, q, rfl⟩
  · rw [if_neg q] at e2
    cases e2
theorem os_mod : OpS T X (binaryOp .Mod) (binD .mod) := ops_int op_mod fun x y d e => by
  cases x <;> cases y <;> first | (cases e; done) | skip
  rename_i i j
  have e2 : (if 0 < j then some (PyData.int (i % j)) else Option.none) = some d := e
  by_cases q : 0 < j
  · rw [if_pos q] at e2
    cases e2
    exact ⟨i, j, rfl, rfl, q, rfl⟩
  · rw [if_neg q] at e2
    cases e2
theorem os_pow : OpS T X (binaryOp .Pow) (binD .pow) := ops_int op_pow fun x y d e => by
  cases x <;> cases y <;> first | (cases e; done) | skip
  rename_i i j
  have e2 : (if powOk i j then some (PyData.int (i ^ j.toNat)) else Option.none) = some d := e
  by_cases q : powOk i j = true
  · rw [if_pos q] at e2
    cases e2
    exact ⟨i, j, rfl, rfl, (have c : 0 ≤ j ∧ j ≤ 1000000 ∧ i.natAbs < 2 ^ 64 := of_decide_eq_true q; c), rfl⟩
  · rw [if_neg q] at e2
    cases e2
/-- a new plain object as an operator's answer -/
theorem new_ans {B : Bk} {G H : Hp} {w : Wn} {ρ : Rho} {σ : L2.St} {Q : VK} {d : D} {o : HO} (R : RR X.K T B G w ρ σ H) (q : ∀ v G' H', RR X.K T B G' w ρ σ H' → Stp G w H G' w H' → Dq X.K G' v d → Q v H')
    (hd : ∀ p, G p = none → Dq X.K (upd G p o) (.ref p) d) (ho : noTbl o := by intro ps z; cases z) : ∀ p, H p = none → Q (.ref p) (upd H p o) := fun p hp => q _ _ _ (R.new hp ho) (Stp.new R.sub hp ho) (hd p (R.gnone hp))
theorem os_add : OpS T X (binaryOp .Add) (binD .add) := by
  refine ⟨_, (op_add).or ((op_cat).or ((op_catD).or op_add_str)), fun x y dx dy d B G w ρ σ H Q R hx hy e q => ?_⟩
  cases dx <;> cases dy <;> first | (cases e; done) | skip
  · rename_i i j
    cases e
    cases hx
    cases hy
    exact .inl ⟨i, j, rfl, rfl, q _ G H R (Stp.refl _ _ _) (.int _)⟩
  · rename_i s1 s2
    have e2 : (if s1.length + s2.length ≤ big then some (PyData.str (s1 ++ s2)) else Option.none) = some d := e
    by_cases z : s1.length + s2.length ≤ big
    · rw [if_pos z] at e2
      cases e2
      cases hx
      cases hy
      exact .inr (.inr (.inr ⟨s1, s2, rfl, rfl, Nat.le_of_lt (big_line z), q _ G H R (Stp.refl _ _ _) (.str _)⟩))
    · rw [if_neg z] at e2
      cases e2
  · rename_i xs ys
    have e2 : (if fits (xs ++ ys) then some (PyData.list (xs ++ ys)) else Option.none) = some d := e
    by_cases z : fits (xs ++ ys) = true
    · rw [if_pos z] at e2
      cases e2
      cases hx with
      | lst h1 r1 =>
        cases hy with
        | lst h2 r2 =>
          have hl := fits_le z
          rw [List.length_append] at hl
          exact .inr (.inl ⟨_, _, _, _, rfl, rfl, R.sub _ _ h1, R.sub _ _ h2, by rw [dps_len r1, dps_len r2]; exact Nat.le_of_lt (big_line hl), new_ans R q fun p hp => .lst upd_same (dps_sub (Sub.new hp) (dps_app r1 r2))⟩)
    · rw [if_neg z] at e2
      cases e2
  · rename_i xs ys
    have e2 : (if fits (xs ++ ys) then some (PyData.tuple (xs ++ ys)) else Option.none) = some d := e
    by_cases z : fits (xs ++ ys) = true
    · rw [if_pos z] at e2
      cases e2
      cases hx with
      | tup h1 r1 =>
        cases hy with
        | tup h2 r2 =>
          have hl := fits_le z
          rw [List.length_append] at hl
          refine .inr (.inr (.inl ⟨_, _, _, _, rfl, rfl, (sqD_sub R.sub h1).sq, (sqD_sub R.sub h2).sq, by rw [dps_len r1, dps_len r2]; exact Nat.le_of_lt (big_line hl), fun e0 => ?_, fun _ e0 => ?_, fun _ _ p its => ?_⟩))
          · rw [e0] at r1
            cases r1
            exact q _ G H R (Stp.refl _ _ _) (.tup h2 r2)
          · rw [e0] at r2
            cases r2
            rw [List.append_nil] at q
            exact q _ G H R (Stp.refl _ _ _) (.tup h1 r1)
          · exact new_ans R q (fun p hp => .tup SqD.new (dps_sub (Sub.new hp) (dps_app r1 r2))) (by intro ps z; cases z) p
    · rw [if_neg z] at e2
      cases e2
theorem os_mul : OpS T X (binaryOp .Mult) (binD .mul) := by
  refine ⟨_, (op_mul).or ((op_rep).or op_repD), fun x y dx dy d B G w ρ σ H Q R hx hy e q => ?_⟩
  cases dx <;> cases dy <;> first | (cases e; done) | skip
  · rename_i i j
    have e2 : (if mulOk i j then some (PyData.int (i * j)) else Option.none) = some d := e
    by_cases z : mulOk i j = true
    · rw [if_pos z] at e2
      cases e2
      cases hx
      cases hy
      exact .inl ⟨i, j, rfl, rfl, (have c : (-(2 ^ 64) < i ∧ i < 2 ^ 64) ∨ (-(2 ^ 64) < j ∧ j < 2 ^ 64) := of_decide_eq_true z; c), q _ G H R (Stp.refl _ _ _) (.int _)⟩
    · rw [if_neg z] at e2
      cases e2
  · rename_i xs j
    have e2 : (if 0 ≤ j ∧ j ≤ 1000000 ∧ xs.length * j.toNat ≤ big then some (PyData.list (List.replicate j.toNat xs).flatten) else Option.none) = some d := e
    by_cases z : 0 ≤ j ∧ j ≤ 1000000 ∧ xs.length * j.toNat ≤ big
    · rw [if_pos z] at e2
      cases e2
      cases hy
      cases hx with
      | lst h1 r1 =>
        exact .inr (.inl ⟨_, j, _, rfl, rfl, R.sub _ _ h1, by omega, by omega, by rw [dps_len r1]; exact Nat.le_of_lt (big_line z.2.2), new_ans R q fun p hp => .lst upd_same (dps_sub (Sub.new hp) (dps_rep r1 _))⟩)
    · rw [if_neg z] at e2
      cases e2
  · rename_i xs j
    have e2 : (if 2 ≤ j ∧ j ≤ 1000 ∧ xs.length ≤ 1000 ∧ xs.isEmpty = false then some (PyData.tuple (List.replicate j.toNat xs).flatten) else Option.none) = some d := e
    by_cases z : 2 ≤ j ∧ j ≤ 1000 ∧ xs.length ≤ 1000 ∧ xs.isEmpty = false
    · rw [if_pos z] at e2
      cases e2
      cases hy
      cases hx with
      | tup h1 r1 =>
        refine .inr (.inr ⟨_, j, _, rfl, rfl, (sqD_sub R.sub h1).sq, fun e0 => ?_, z.1, z.2.1, by rw [dps_len r1]; exact z.2.2.1, fun p its => new_ans R q (fun p hp => .tup SqD.new (dps_sub (Sub.new hp) (dps_rep r1 _))) (by intro ps z; cases z) p⟩)
        rw [e0] at r1
        cases r1
        exact absurd z.2.2.2 (by decide)
    · rw [if_neg z] at e2
      cases e2
def opOf : Bop → Operator
  | .add => .Add
  | .sub => .Sub
  | .mul => .Mult
  | .div => .FloorDiv
  | .mod => .Mod
  | .pow => .Pow
theorem os_bin (o : Bop) : OpS T X (binaryOp (opOf o)) (binD o) := by
  cases o
  · exact os_add
  · exact os_sub
  · exact os_mul
  · exact os_div
  · exact os_mod
  · exact os_pow
/-! ### comparisons of data -/
theorem op_ltD (hu : X.A.units + 64 < cLine) : OpR X (compareOp .Lt) (fun x y H Q => ∃ d e, Dp X.K H x d ∧ Dp X.K H y e ∧ PySem.W.alike d e = true ∧ d ≠ .none ∧ d.depth ≤ 64 ∧ Q (.bl (PySem.W.dataLt d e)) H) := by
  intro pins s σ H x y v u Q I rx ry h
  obtain ⟨d, e, hd, he, ha, hn, hz, q⟩ := h
  obtain ⟨as, r1⟩ := Dp.reads I d x v hd rx
  obtain ⟨bs, r2⟩ := Dp.reads I e y u he ry
  have hm : min d.depth e.depth ≤ d.depth := Nat.min_le_left _ _
  exact PySem.W.rcLt_alike d e X.A s v u as bs r1 r2 ha hn (by omega) X.prog X.w X.xe _ ⟨.bl _, H, I, rfl, q⟩
theorem cs_lt (hu : X.A.units + 64 < cLine) : CmS X (compareOp .Lt) (cmpD .lt) := by
  refine ⟨_, (op_lt).or ((op_lt_str).or (op_ltD hu)), fun x y dx dy k H Q hx hy e q => ?_⟩
  replace e : ltD dx dy = some k := e
  cases dx <;> cases dy <;> first | (cases e; done) | skip
  · cases e
    cases hx
    cases hy
    exact .inl ⟨_, _, rfl, rfl, q⟩
  · cases e
    cases hx
    cases hy
    exact .inr (.inl ⟨_, _, rfl, rfl, q⟩)
  · rename_i xs ys
    have e2 : (if ordOk (.tuple xs) (.tuple ys) then some (PySem.W.dataLt (.tuple xs) (.tuple ys)) else Option.none) = some k := e
    by_cases z : ordOk (.tuple xs) (.tuple ys) = true
    · rw [if_pos z] at e2
      cases e2
      unfold ordOk at z
      simp only [Bool.and_eq_true] at z
      exact .inr (.inr ⟨_, _, dq_shaped hx z.1.2, dq_shaped hy z.2, z.1.1, (fun n => nomatch n), SeqAt.depth_of_shaped z.1.2, q⟩)
    · rw [if_neg z] at e2
      cases e2
theorem cs_int {f : Value → Value → Sem Value} {h : Int → Int → Bool} {g : D → D → Option Bool} (ho : OpR X f (rI0 fun i j => .bl (h i j))) (hg : ∀ x y k, g x y = some k → ∃ i j, x = .int i ∧ y = .int j ∧ k = h i j) : CmS X f g := by
  refine ⟨_, ho, fun x y dx dy k H Q hx hy e q => ?_⟩
  obtain ⟨i, j, rfl, rfl, rfl⟩ := hg _ _ _ e
  cases hx
  cases hy
  exact ⟨i, j, rfl, rfl, q⟩
theorem cs_le : CmS X (compareOp .LtE) (cmpD .le) := cs_int op_le fun x y k e => by
  cases x <;> cases y <;> first | (cases e; done) | (cases e; exact ⟨_, _, rfl, rfl, rfl⟩)
theorem cs_gt : CmS X (compareOp .Gt) (cmpD .gt) := cs_int op_gt fun x y k e => by
  cases x <;> cases y <;> first | (cases e; done) | (cases e; exact ⟨_, _, rfl, rfl, rfl⟩)
theorem cs_ge : CmS X (compareOp .GtE) (cmpD .ge) := cs_int op_ge fun x y k e => by
  cases x <;> cases y <;> first | (cases e; done) | (cases e; exact ⟨_, _, rfl, rfl, rfl⟩)
theorem ite_some {α : Type} {c : Prop} [Decidable c] {a b : α} (h : (if c then some a else Option.none) = some b) : c ∧ a = b := by
  by_cases q : c
  · rw [if_pos q] at h
    exact ⟨q, Option.some.inj h⟩
  · rw [if_neg q] at h
    cases h
theorem cs_eq (hu : X.A.units + 64 < cLine) : CmS X (compareOp .Eq) (cmpD .eq) := by
  refine ⟨_, op_eqD hu, fun x y dx dy k H Q hx hy e q => ?_⟩
  obtain ⟨z, rfl⟩ := ite_some (show (if (SeqAt.shaped dx && SeqAt.shaped dy) = true then some (PyData.eqv dx dy) else Option.none) = some k from e)
  rw [Bool.and_eq_true] at z
  exact ⟨dx, dy, dq_shaped hx z.1, dq_shaped hy z.2, z.1, z.2, q⟩
theorem cs_ne (hu : X.A.units + 64 < cLine) : CmS X (compareOp .NotEq) (cmpD .ne) := by
  refine ⟨_, op_neD hu, fun x y dx dy k H Q hx hy e q => ?_⟩
  obtain ⟨z, rfl⟩ := ite_some (show (if (SeqAt.shaped dx && SeqAt.shaped dy) = true then some (!PyData.eqv dx dy) else Option.none) = some k from e)
  rw [Bool.and_eq_true] at z
  exact ⟨dx, dy, dq_shaped hx z.1, dq_shaped hy z.2, z.1, z.2, q⟩
theorem none_dec {K : PySem.W.Frag} {H : Hp} {x : V} {d : D} (h : Dq K H x d) : decide (x = .non) = isNone d := by
  cases h <;> rfl
theorem cs_is : CmS X (compareOp .Is) (cmpD .is) := by
  refine ⟨_, op_isN, fun x y dx dy k H Q hx hy e q => ?_⟩
  cases dy <;> first | (cases dx <;> cases e; done) | skip
  have e2 : some (isNone dx) = some k := by cases dx <;> exact e
  cases e2
  cases hy
  exact ⟨rfl, by rw [none_dec hx]; exact q⟩
theorem cs_isnot : CmS X (compareOp .IsNot) (cmpD .isnot) := by
  refine ⟨_, op_notN, fun x y dx dy k H Q hx hy e q => ?_⟩
  cases dy <;> first | (cases dx <;> cases e; done) | skip
  have e2 : some (!isNone dx) = some k := by cases dx <;> exact e
  cases e2
  cases hy
  exact ⟨rfl, by rw [none_dec hx]; exact q⟩
theorem op_inT (hu : X.A.units + 65 < cLine) : OpR X (compareOp .In) (fun x y H Q => ∃ d ds, Dp X.K H x d ∧ Dp X.K H y (.tuple ds) ∧ SeqAt.shaped d = true ∧ SeqAt.shaped (.tuple ds) = true ∧ Q (.bl (ds.any fun z => PyData.eqv z d)) H) := by
  intro pins s σ H x y v u Q I rx ry h
  obtain ⟨d, ds, hd, he, sd, se, q⟩ := h
  obtain ⟨as, k1⟩ := Dp.reads I d x v hd rx
  obtain ⟨bs, k2⟩ := Dp.reads I (.tuple ds) y u he ry
  exact SeqAt.in_tuple_reads k2 k1 (SeqAt.canLay_of_shaped se) (SeqAt.canLay_of_shaped sd) (room_in_shaped sd hu) ⟨.bl _, H, I, rfl, q⟩
theorem op_notInT (hu : X.A.units + 65 < cLine) : OpR X (compareOp .NotIn) (fun x y H Q => ∃ d ds, Dp X.K H x d ∧ Dp X.K H y (.tuple ds) ∧ SeqAt.shaped d = true ∧ SeqAt.shaped (.tuple ds) = true ∧ Q (.bl (!ds.any fun z => PyData.eqv z d)) H) := by
  intro pins s σ H x y v u Q I rx ry h
  obtain ⟨d, ds, hd, he, sd, se, q⟩ := h
  obtain ⟨as, k1⟩ := Dp.reads I d x v hd rx
  obtain ⟨bs, k2⟩ := Dp.reads I (.tuple ds) y u he ry
  exact SeqAt.notIn_tuple_reads k2 k1 (SeqAt.canLay_of_shaped se) (SeqAt.canLay_of_shaped sd) (room_in_shaped sd hu) ⟨.bl _, H, I, rfl, q⟩
theorem cs_in (hu : X.A.units + 65 < cLine) : CmS X (compareOp .In) (cmpD .isin) := by
  refine ⟨_, (op_inD hu).or (op_inT hu), fun x y dx dy k H Q hx hy e q => ?_⟩
  cases dy <;> first | (cases dx <;> cases e; done) | skip
  · rename_i ys
    obtain ⟨z, rfl⟩ := ite_some (show (if (SeqAt.shaped dx && SeqAt.shaped (.list ys)) = true then some (inD dx ys) else Option.none) = some k by cases dx <;> exact e)
    rw [Bool.and_eq_true] at z
    exact .inl ⟨dx, ys, dq_shaped hx z.1, dq_shaped hy z.2, z.1, z.2, q⟩
  · rename_i ys
    obtain ⟨z, rfl⟩ := ite_some (show (if (SeqAt.shaped dx && SeqAt.shaped (.tuple ys)) = true then some (inD dx ys) else Option.none) = some k by cases dx <;> exact e)
    rw [Bool.and_eq_true] at z
    exact .inr ⟨dx, ys, dq_shaped hx z.1, dq_shaped hy z.2, z.1, z.2, q⟩
theorem cs_notin (hu : X.A.units + 65 < cLine) : CmS X (compareOp .NotIn) (cmpD .notin) := by
  refine ⟨_, (op_notInD hu).or (op_notInT hu), fun x y dx dy k H Q hx hy e q => ?_⟩
  cases dy <;> first | (cases dx <;> cases e; done) | skip
  · rename_i ys
    obtain ⟨z, rfl⟩ := ite_some (show (if (SeqAt.shaped dx && SeqAt.shaped (.list ys)) = true then some (!inD dx ys) else Option.none) = some k by cases dx <;> exact e)
    rw [Bool.and_eq_true] at z
    exact .inl ⟨dx, ys, dq_shaped hx z.1, dq_shaped hy z.2, z.1, z.2, q⟩
  · rename_i ys
    obtain ⟨z, rfl⟩ := ite_some (show (if (SeqAt.shaped dx && SeqAt.shaped (.tuple ys)) = true then some (!inD dx ys) else Option.none) = some k by cases dx <;> exact e)
    rw [Bool.and_eq_true] at z
    exact .inr ⟨dx, ys, dq_shaped hx z.1, dq_shaped hy z.2, z.1, z.2, q⟩
def cmOf : Cop → CmpOp
  | .lt => .Lt
  | .le => .LtE
  | .gt => .Gt
  | .ge => .GtE
  | .eq => .Eq
  | .ne => .NotEq
  | .is => .Is
  | .isnot => .IsNot
  | .isin => .In
  | .notin => .NotIn
theorem cs_all (hu : X.A.units + 65 < cLine) (o : Cop) : CmS X (compareOp (cmOf o)) (cmpD o) := by
  have h64 : X.A.units + 64 < cLine := by omega
  cases o
  · exact cs_lt h64
  · exact cs_le
  · exact cs_gt
  · exact cs_ge
  · exact cs_eq h64
  · exact cs_ne h64
  · exact cs_is
  · exact cs_isnot
  · exact cs_in hu
  · exact cs_notin hu
end
end Rf
set_option Elab.async false
set_option linter.all false
set_option maxRecDepth 100000
set_option maxHeartbeats 1000000
namespace Rf
open PySem PySem.Spec PyProof.Rows L2 LamX
section
variable {T : List (Addr × Str)} {xt : XT} {X : Cx} {a b c e : Expr} {va vb vc : Rho → Res D} {ta tb tc : Rho → Res Bool} {p : Pos}
/-! ### tests -/
def plainT : Expr → Bool
  | .UnaryOp .Not _ _ => false
  | .BoolOp _ _ _ => false
  | .IfExp _ _ _ _ => false
  | .Compare _ _ _ _ => false
  | _ => true
theorem plain_true (e : Expr) (h : plainT e = true) (env : Env) (whole : Sem Value) : isTrue e env whole = (do let v ← whole; standAt e.pos; holding [v] (truthy v)) := by
  cases e with
  | UnaryOp o x q => cases o <;> first | rfl | cases h
  | BoolOp _ _ _ => cases h
  | IfExp _ _ _ _ => cases h
  | Compare _ _ _ _ => cases h
  | _ => rfl
theorem so_test {f : Rho → Res D} {ag : Rho → D → Option D} (h : SO T xt X e f ag) (hp : plainT e = true) : ST T xt X e fun r => (f r).bind fun x r1 => opt (truth x) r1 := by
  intro W tk
  obtain ⟨t, pe, q⟩ := h W tk
  refine ⟨_, pt_truth pe (plain_true e hp X.env), fun B G w r σ H Q R k => q _ _ _ _ _ _ _ R (k.bind fun x r1 v G1 w1 H1 _ R1 S1 d1 q1 => ?_)⟩
  obtain ⟨b, eb, q2⟩ := q1.opt
  exact ⟨b, truth_ok (d1.1.dq R1.sub) eb, q2 b G1 w1 H1 R1 (Stp.refl _ _ _) rfl⟩
theorem st_not (h : ST T xt X a ta) : ST T xt X (.UnaryOp .Not a p) fun r => (ta r).bind fun k r1 => .ok (!k) r1 := by
  intro W tk
  obtain ⟨t, pe, q⟩ := h W tk
  exact ⟨_, pt_not pe, fun B G w r σ H Q R k => q _ _ _ _ _ _ _ R (k.bind fun x r1 v G1 w1 H1 _ R1 S1 d1 q1 => by
    obtain rfl : v = x := d1
    exact q1 _ _ _ _ R1 (Stp.refl _ _ _) rfl)⟩
/-- the judgement of and, or as tests, whatever is asked of the whole -/
def SW (T : List (Addr × Str)) (xt : XT) (X : Cx) (e : Expr) (f : Rho → Res Bool) : Prop := ∀ W : WX, Takes X W → ∃ t : TT, PW X e t ∧ ∀ B G w r σ H (Q : Bool → Hp → Prop), RR X.K T B G w r σ H → QX X.K T xt B W relB G w σ H (f r) Q → t σ H Q
theorem SW.st (h : SW T xt X e ta) : ST T xt X e ta := fun W tk => let ⟨t, p, q⟩ := h W tk; ⟨t, p.pt, q⟩
theorem sw_and1 (h : ST T xt X a ta) : SW T xt X (.BoolOp .And [a] p) ta := fun W tk => let ⟨t, p, q⟩ := h W tk; ⟨t, pw_and1 p, q⟩
theorem sw_or1 (h : ST T xt X a ta) : SW T xt X (.BoolOp .Or [a] p) ta := fun W tk => let ⟨t, p, q⟩ := h W tk; ⟨t, pw_or1 p, q⟩
theorem sw_and {es : List Expr} (h : ST T xt X a ta) (k : SW T xt X (.BoolOp .And (b :: es) p) tb) : SW T xt X (.BoolOp .And (a :: b :: es) p) fun r => (ta r).bind fun k r1 => if k then tb r1 else .ok false r1 := by
  intro W tk
  obtain ⟨t, p1, q1⟩ := h W tk
  obtain ⟨u, p2, q2⟩ := k W tk
  refine ⟨_, pw_and p1 p2, fun B G w r σ H Q R z => q1 _ _ _ _ _ _ _ R (z.bind fun x r1 v G1 w1 H1 _ R1 S1 d1 z1 => ?_)⟩
  obtain rfl : v = x := d1
  cases v with
  | true => exact iteT (q2 _ _ _ _ _ _ _ R1 z1)
  | false => exact iteF (z1 _ _ _ _ R1 (Stp.refl _ _ _) rfl)
theorem sw_or {es : List Expr} (h : ST T xt X a ta) (k : SW T xt X (.BoolOp .Or (b :: es) p) tb) : SW T xt X (.BoolOp .Or (a :: b :: es) p) fun r => (ta r).bind fun k r1 => if k then .ok true r1 else tb r1 := by
  intro W tk
  obtain ⟨t, p1, q1⟩ := h W tk
  obtain ⟨u, p2, q2⟩ := k W tk
  refine ⟨_, pw_or p1 p2, fun B G w r σ H Q R z => q1 _ _ _ _ _ _ _ R (z.bind fun x r1 v G1 w1 H1 _ R1 S1 d1 z1 => ?_)⟩
  obtain rfl : v = x := d1
  cases v with
  | true => exact iteT (z1 _ _ _ _ R1 (Stp.refl _ _ _) rfl)
  | false => exact iteF (q2 _ _ _ _ _ _ _ R1 z1)
/-! ### and, or, not as values -/
theorem se_one {op : BoolOp} (h : SE T xt X a va) : SE T xt X (.BoolOp op [a] p) va := fun W tk => let ⟨t, p, q⟩ := h W tk; ⟨t, pe_one p, q⟩
theorem se_and {es : List Expr} (h : SE T xt X a va) (k : SE T xt X (.BoolOp .And (b :: es) p) vb) : SE T xt X (.BoolOp .And (a :: b :: es) p) fun r => (va r).bind fun x r1 => match x with
    | .bool true => vb r1
    | .bool false => .ok (.bool false) r1
    | _ => .bad := by
  intro W tk
  obtain ⟨t, p1, q1⟩ := h W tk
  obtain ⟨u, p2, q2⟩ := k W tk
  refine ⟨_, pe_and p1 p2, fun B G w r σ H Q R z => q1 _ _ _ _ _ _ _ R (z.bind fun x r1 v G1 w1 H1 _ R1 S1 d1 z1 => ?_)⟩
  have d1 : Dq X.K G1 v x := d1
  cases d1 with
  | bl k =>
    refine ⟨k, rfl, ?_⟩
    cases k with
    | true => exact iteT (q2 _ _ _ _ _ _ _ R1 z1)
    | false => exact iteF (z1 _ _ _ _ R1 (Stp.refl _ _ _) (.bl false))
  | _ => exact z1.elim
theorem se_or {es : List Expr} (h : SE T xt X a va) (k : SE T xt X (.BoolOp .Or (b :: es) p) vb) : SE T xt X (.BoolOp .Or (a :: b :: es) p) fun r => (va r).bind fun x r1 => match x with
    | .bool true => .ok (.bool true) r1
    | .bool false => vb r1
    | _ => .bad := by
  intro W tk
  obtain ⟨t, p1, q1⟩ := h W tk
  obtain ⟨u, p2, q2⟩ := k W tk
  refine ⟨_, pe_or p1 p2, fun B G w r σ H Q R z => q1 _ _ _ _ _ _ _ R (z.bind fun x r1 v G1 w1 H1 _ R1 S1 d1 z1 => ?_)⟩
  have d1 : Dq X.K G1 v x := d1
  cases d1 with
  | bl k =>
    refine ⟨k, rfl, ?_⟩
    cases k with
    | true => exact iteT (z1 _ _ _ _ R1 (Stp.refl _ _ _) (.bl true))
    | false => exact iteF (q2 _ _ _ _ _ _ _ R1 z1)
  | _ => exact z1.elim
theorem se_not (h : SE T xt X a va) : SE T xt X (.UnaryOp .Not a p) fun r => (va r).bind fun x r1 => match x with
    | .bool b => .ok (.bool (!b)) r1
    | _ => .bad := by
  intro W tk
  obtain ⟨t, p1, q1⟩ := h W tk
  refine ⟨_, pe_not p1, fun B G w r σ H Q R z => q1 _ _ _ _ _ _ _ R (z.bind fun x r1 v G1 w1 H1 _ R1 S1 d1 z1 => ?_)⟩
  have d1 : Dq X.K G1 v x := d1
  cases d1 with
  | bl k => exact ⟨k, rfl, z1 _ _ _ _ R1 (Stp.refl _ _ _) (.bl _)⟩
  | _ => exact z1.elim
theorem se_neg (h : SE T xt X a va) : SE T xt X (.UnaryOp .USub a p) fun r => (va r).bind fun x r1 => match x with
    | .int i => .ok (.int (-i)) r1
    | _ => .bad := by
  intro W tk
  obtain ⟨t, p1, q1⟩ := h W tk
  refine ⟨_, pe_un un_neg p1, fun B G w r σ H Q R z => q1 _ _ _ _ _ _ _ R (z.bind fun x r1 v G1 w1 H1 _ R1 S1 d1 z1 => ?_)⟩
  have d1 : Dq X.K G1 v x := d1
  cases d1 with
  | int k => exact ⟨k, rfl, z1 _ _ _ _ R1 (Stp.refl _ _ _) (.int _)⟩
  | _ => exact z1.elim
theorem se_ite (h : ST T xt X c tc) (k1 : SE T xt X a va) (k2 : SE T xt X b vb) : SE T xt X (.IfExp c a b p) fun r => (tc r).bind fun k r1 => if k then va r1 else vb r1 := by
  intro W tk
  obtain ⟨t, p1, q1⟩ := h W tk
  obtain ⟨u, p2, q2⟩ := k1 W tk
  obtain ⟨u', p3, q3⟩ := k2 W tk
  refine ⟨_, pe_ifExp p1 p2 p3, fun B G w r σ H Q R z => q1 _ _ _ _ _ _ _ R (z.bind fun x r1 v G1 w1 H1 _ R1 S1 d1 z1 => ?_)⟩
  obtain rfl : v = x := d1
  cases v with
  | true => exact iteT (q2 _ _ _ _ _ _ _ R1 z1)
  | false => exact iteF (q3 _ _ _ _ _ _ _ R1 z1)
/-! ### subscripts -/
def noSlice : Expr → Bool
  | .Slice _ _ _ _ => false
  | _ => true
theorem plain_ix (b : Expr) (h : noSlice b = true) : PlainIx b := fun o i => by
  cases b <;> first | rfl | cases h
theorem se_ix {oa : Rho → Res D} {ag : Rho → D → Option D} (h : SO T xt X a oa ag) (k : SE T xt X b vb) (hs : noSlice b = true) : SE T xt X (.Subscript a b p) fun r => (oa r).bind fun x r1 => (vb r1).bind fun i r2 => opt ((ag r2 x).bind fun z => ixD z i) r2 := by
  intro W tk
  obtain ⟨t, p1, q1⟩ := h W tk
  obtain ⟨u, p2, q2⟩ := k W tk
  refine ⟨_, pe_ix ix_seq p1 p2 (plain_ix b hs), fun B G w r σ H Q R z => q1 _ _ _ _ _ _ _ R (z.bind fun x r1 v G1 w1 H1 _ R1 S1 d1 z1 => ?_)⟩
  refine q2 _ _ _ _ _ _ _ R1 (z1.bind fun i r2 v2 G2 w2 H2 _ R2 S2 d2 z2 => ?_)
  obtain ⟨d, ed, z3⟩ := z2.opt
  cases ez : ag r2 x with
  | none => rw [ez] at ed; cases ed
  | some y =>
    rw [ez] at ed
    have dy := d1.2 _ _ _ _ _ R2 S2 ez
    replace ed : ixD y i = some d := ed
    replace d2 : Dq X.K G2 v2 i := d2
    obtain ⟨ix, rfl⟩ : ∃ j, i = .int j := by
      cases i with
      | int j => exact ⟨j, rfl⟩
      | _ => cases y <;> cases ed
    cases d2
    cases y <;> first | (cases ed; done) | skip
    · rename_i s
      have e2 : (if s.length ≤ big then (atI s.cps.toList ix).map fun c => PyData.str ⟨#[c]⟩ else Option.none) = some d := ed
      by_cases l1 : s.length ≤ big
      · rw [if_pos l1] at e2
        cases ea : atI s.cps.toList ix with
        | none => rw [ea] at e2; cases e2
        | some cc =>
          rw [ea] at e2
          cases e2
          cases dy.dq R2.sub
          exact .inr (.inr ⟨s, ix, cc, rfl, rfl, Nat.le_of_lt (big_line l1), ea, z3 _ _ _ _ R2 (Stp.refl _ _ _) (.str _)⟩)
      · rw [if_neg l1] at e2
        cases e2
    · rename_i xs
      obtain ⟨l, vs, rfl, h1, h2⟩ := dy.list R2.sub
      obtain ⟨u, e1, e2⟩ := dps_at h2 ed
      exact .inl ⟨l, vs, ix, u, rfl, rfl, .inl (.inl h1), e1, z3 _ _ _ _ R2 (Stp.refl _ _ _) e2⟩
    · rename_i xs
      obtain ⟨l, vs, rfl, _, h1, h2⟩ := dy.tuple R2.sub
      obtain ⟨u, e1, e2⟩ := dps_at h2 ed
      exact .inr (.inl ⟨l, vs, ix, u, rfl, rfl, h1, e1, z3 _ _ _ _ R2 (Stp.refl _ _ _) e2⟩)
theorem dqs_ints {K : PySem.W.Frag} {G : Hp} : ∀ ns : List Int, DqAll K G (ns.map V.int) (ns.map PyData.int)
  | [] => .nil
  | n :: r => .cons (.int n) (dqs_ints r)
/-! ### slices -/
theorem sp_none : SP' T xt X none fun r => .ok Option.none r := fun W tk => ⟨tNoPart, po_none, fun B G w r σ H Q R h => h Option.none G w H R (Stp.refl _ _ _) rfl⟩
theorem sp_some (h : SE T xt X e va) : SP' T xt X (some e) fun r => (va r).bind fun x r1 => match x with
    | .int i => .ok (some i) r1
    | _ => .bad := by
  intro W tk
  obtain ⟨t, p1, q1⟩ := h W tk
  refine ⟨_, po_some p1, fun B G w r σ H Q R z => q1 _ _ _ _ _ _ _ R (z.bind fun x r1 v G1 w1 H1 _ R1 S1 d1 z1 => ?_)⟩
  have d1 : Dq X.K G1 v x := d1
  cases d1 with
  | int k => exact ⟨k, rfl, z1 _ _ _ _ R1 (Stp.refl _ _ _) rfl⟩
  | _ => exact z1.elim
theorem se_sl {oa : Rho → Res D} {ag : Rho → D → Option D} {lo hi : Option Expr} {fl fh : Rho → Res (Option Int)} {p2 : Pos} (h : SO T xt X a oa ag) (kl : SP' T xt X lo fl) (kh : SP' T xt X hi fh) :
    SE T xt X (.Subscript a (.Slice lo hi none p2) p) fun r => (oa r).bind fun x r1 => (fl r1).bind fun l r2 => (fh r2).bind fun u r3 => opt ((ag r3 x).bind fun z => slD z l u) r3 := by
  intro W tk
  obtain ⟨t, p1, q1⟩ := h W tk
  obtain ⟨u1, p2, q2⟩ := kl W tk
  obtain ⟨u2, p3, q3⟩ := kh W tk
  refine ⟨_, pe_slice ((sl_list).or sl_tupD) p1 p2 p3, fun B G w r σ H Q R z => q1 _ _ _ _ _ _ _ R (z.bind fun x r1 v G1 w1 H1 _ R1 S1 d1 z1 => ?_)⟩
  refine q2 _ _ _ _ _ _ _ R1 (z1.bind fun l r2 l' G2 w2 H2 _ R2 S2 dl z2 => ?_)
  refine q3 _ _ _ _ _ _ _ R2 (z2.bind fun h r3 h' G3 w3 H3 _ R3 S3 dh z3 => ?_)
  obtain rfl : l' = l := dl
  obtain rfl : h' = h := dh
  obtain ⟨d, ed, z4⟩ := z3.opt
  cases ez : ag r3 x with
  | none => rw [ez] at ed; cases ed
  | some y =>
    rw [ez] at ed
    have dy := d1.2 _ _ _ _ _ R3 (S2.tr S3) ez
    replace ed : slD y l' h' = some d := ed
    cases y <;> first | (cases ed; done) | skip
    · rename_i xs
      cases ed
      obtain ⟨l, vs, rfl, h1, h2⟩ := dy.list R3.sub
      refine .inl ⟨l, vs, rfl, .inl (.inl h1), fun p hp => z4 _ _ _ _ (R3.new hp) (Stp.new R3.sub hp) (.lst upd_same (dps_sub (Sub.new (R3.gnone hp)) (dps_cut h2 l' h')))⟩
    · rename_i xs
      cases ed
      obtain ⟨l, vs, rfl, h0, h1, h2⟩ := dy.tuple R3.sub
      refine .inr ⟨l, vs, rfl, h1, fun e0 => ?_, fun _ p its hp => z4 _ _ _ _ (R3.new hp) (Stp.new R3.sub hp) (.tup SqD.new (dps_sub (Sub.new (R3.gnone hp)) (dps_cut h2 l' h')))⟩
      have eq : cut xs l' h' = xs := by
        unfold cut
        rw [dps_len h2] at e0
        rw [e0.1, e0.2, List.drop_zero, Nat.sub_zero, List.take_length]
      rw [eq] at z4
      exact z4 _ _ _ _ R3 (Stp.refl _ _ _) (.tup h0 h2)
    · rename_i kvs
      cases ed
      rcases dy with dy | ⟨_, _, _, _, e0, _, _⟩
      · cases dy with
        | @scr l ns h1 =>
          refine .inl ⟨l, ns.map V.int, rfl, sqL_sub R3.sub h1, fun p hp => z4 _ _ _ _ (R3.new hp) (Stp.new R3.sub hp) ?_⟩
          have hk : DqAll X.K G3 (ns.map V.int) ((ns.map fun n => (PyData.int n, PyData.none)).map (·.1)) := by
            rw [List.map_map]
            exact dqs_ints ns
          exact .lst upd_same (dps_sub (Sub.new (R3.gnone hp)) (dps_cut hk l' h'))
      · cases e0
end
end Rf
set_option Elab.async false
set_option linter.all false
set_option maxRecDepth 100000
set_option maxHeartbeats 1000000
namespace Rf
open PySem PySem.Spec PyProof.Rows L2 LamX
section
variable {T : List (Addr × Str)} {xt : XT} {X : Cx} {a b c e : Expr} {va vb vc : Rho → Res D} {p : Pos}
/-! ### sums, least and greatest, of lists and tuples -/
theorem cr_sumT (hc : X.calm = true) : CallR X (.builtin "sum") (fun vs H Q => ∃ (a : Addr) (ns : List Int), vs = [V.ref a] ∧ SqT X.K H a (ns.map V.int) ∧ Q (.int ns.sum) H) := by
  intro pins s σ H vs us Q I r h
  obtain ⟨a, ns, rfl, hs, q⟩ := h
  obtain ⟨its, rv, ht, _⟩ := I.tuple hs
  rw [Vals.ref1 r]
  have hi := rv.ints
  obtain ⟨xs, e⟩ := hi.allInts.items
  have hn : numsOf (intItems xs).toList = ns := by rw [← e]; exact hi.numsOf
  rw [nums_intItems] at hn
  rw [e] at ht
  refine PySem.W.ktm_sumG (I.ok.hd hc) ht fun h' tk t' hk => ?_
  rw [preSum_eq, List.take_of_length_le (by simp), hn]
  exact ⟨.int _, H, I.kept hk, ⟨_, rfl⟩, q⟩
/-- what a walk for the least or greatest hands on -/
theorem pick_at {pins : List (Addr × Obj)} {s : Shared} {σ : L2.St} {H : Hp} {xs : List V} {its : List Value} {ds : List D} {m : D} {v : Value} {h' : Heap} {bs : List Addr} {i : Nat} (I : Inv X pins σ H s) (rv : Vals xs its) (hd : DqAll X.K H xs ds) (hl : PyData.canLayAll0 ds = true)
    (hm : ∀ d ∈ ds, PySem.W.alike d m = true) (hv : its.toArray[i]? = some v) (hr : Reads h' v m bs) (hk : ∀ b o, s.heap.get? b = some o → h'.get? b = some o) : ∃ x, xs[i]? = some x ∧ RelV x v ∧ Dq X.K H x m ∧ ∃ d, ds[i]? = some d ∧ d = m := by
  have e1 : its[i]? = some v := by simpa using hv
  have hlen := rv.length
  have hi : i < its.length := (List.getElem?_eq_some_iff.mp e1).1
  have hx : xs[i]? = some (xs[i]'(by omega)) := List.getElem?_eq_getElem (by omega)
  obtain ⟨u, e2, ru⟩ := rv.get hx
  rw [e1] at e2
  cases e2
  have hdl := dps_len hd
  have hdi : ds[i]? = some (ds[i]'(by omega)) := List.getElem?_eq_getElem (by omega)
  obtain ⟨y, e3, dy⟩ := dps_get i hd hdi
  rw [hx] at e3
  cases e3
  have hmem : ds[i]'(by omega) ∈ ds := List.getElem_mem _
  have hlay : (ds[i]'(by omega)).canLay0 = true := by
    have : ∀ (l : List D), PyData.canLayAll0 l = true → ∀ d ∈ l, d.canLay0 = true := by
      intro l
      induction l with
      | nil => intro _ d hd; cases hd
      | cons z r ih =>
        intro hz d hd
        simp only [PyData.canLayAll0, Bool.and_eq_true] at hz
        rcases List.mem_cons.mp hd with rfl | hd
        · exact hz.1
        · exact ih hz.2 d hd
    exact this ds hl _ hmem
  obtain ⟨as, r1⟩ := Dp.reads I _ _ v (dq_dp dy hlay) ru
  have eq := PySem.W.alike_unique _ _ v as bs (hm _ hmem) (PySem.W.reads_keeps hk r1) hr
  exact ⟨_, hx, ru, eq ▸ dy, _, hdi, eq⟩
theorem alike_mem_min : ∀ (xs : List D) (x : D), PySem.W.minD x xs ∈ x :: xs := by
  intro xs
  induction xs with
  | nil => intro x; exact List.mem_cons_self
  | cons y r ih =>
    intro x
    show PySem.W.minD (if PySem.W.dataLt y x then y else x) r ∈ _
    have := ih (if PySem.W.dataLt y x then y else x)
    rcases List.mem_cons.mp this with h | h
    · rw [h]
      split <;> simp
    · exact List.mem_cons_of_mem _ (List.mem_cons_of_mem _ h)
theorem alike_mem_max : ∀ (xs : List D) (x : D), PySem.W.maxD x xs ∈ x :: xs := by
  intro xs
  induction xs with
  | nil => intro x; exact List.mem_cons_self
  | cons y r ih =>
    intro x
    show PySem.W.maxD (if PySem.W.dataLt x y then y else x) r ∈ _
    have := ih (if PySem.W.dataLt x y then y else x)
    rcases List.mem_cons.mp this with h | h
    · rw [h]
      split <;> simp
    · exact List.mem_cons_of_mem _ (List.mem_cons_of_mem _ h)
theorem allAlike_of {ds : List D} (h : allAlike ds = true) : PySem.W.AlikeAll ds := by
  unfold allAlike at h
  simp only [Bool.and_eq_true, List.all_eq_true] at h
  refine ⟨fun x hx y hy => h.1 x hx y hy, fun x hx e => ?_⟩
  have := h.2 x hx
  rw [e] at this
  cases this
theorem shaped_list {ds : List D} (h : SeqAt.shaped (.list ds) = true) : PyData.canLayAll0 ds = true ∧ PyData.depthAll ds ≤ 63 := by
  have h1 := SeqAt.canLay_of_shaped h
  have h2 := SeqAt.depth_of_shaped h
  have e : PyData.depth (.list ds) = PyData.depthAll ds + 1 := by simp [PyData.depth]
  exact ⟨by simpa [PyData.canLay0] using h1, by omega⟩
/-- the least, the greatest of alike data in a list or a tuple -/
def rPick (pick : D → List D → D) (K : PySem.W.Frag) : List V → Hp → VK → Prop := fun vs H Q => ∃ (a : Addr) (xs : List V) (x : D) (r : List D), vs = [V.ref a] ∧ (SqL K H a xs ∨ SqT K H a xs) ∧ DqAll K H xs (x :: r) ∧ PySem.W.AlikeAll (x :: r) ∧ PyData.canLayAll0 (x :: r) = true ∧ PyData.depthAll (x :: r) ≤ 63 ∧
  ∀ (i : Nat) (v : V), xs[i]? = some v → (x :: r)[i]? = some (pick x r) → Q v H
theorem cr_minD (hc : X.calm = true) (hu : X.A.units + 65 < cLine) : CallR X (.builtin "min") (rPick PySem.W.minD X.K) := by
  intro pins s σ H vs us Q I rr h
  obtain ⟨a, xs, x, r, rfl, hs, hd, ha, hl, hz, q⟩ := h
  rw [Vals.ref1 rr]
  have hm : ∀ d ∈ x :: r, PySem.W.alike d (PySem.W.minD x r) = true := fun d hd => ha.1 d hd _ (alike_mem_min r x)
  have fin : ∀ {its : List Value}, Vals xs its → ∀ (i : Nat) v h' tk bs, its.toArray[i]? = some v → Reads h' v (PySem.W.minD x r) bs → (∀ b o, s.heap.get? b = some o → h'.get? b = some o) → EP X pins σ Q v { s with heap := h', toks := tk } := by
    intro its rv i v h' tk bs hv hr hk
    obtain ⟨y, h1, h2, h3, d, h4, h5⟩ := pick_at I rv hd hl hm hv hr hk
    exact ⟨y, H, I.kept hk, h2, q i y h1 (by rw [h4, h5])⟩
  rcases hs with hs | hs
  · obtain ⟨its, rv, hL, _⟩ := I.list hs
    obtain ⟨as, hR⟩ := Dp.readsAll I (x :: r) xs its (dqs_dp hd hl) rv
    exact PySem.W.min_list_data (I.ok.hd hc) hL.isList (by simpa using hR) ha (by omega) (fin rv)
  · obtain ⟨its, rv, hL, _⟩ := I.tuple hs
    obtain ⟨as, hR⟩ := Dp.readsAll I (x :: r) xs its (dqs_dp hd hl) rv
    exact PySem.W.min_tuple_data (I.ok.hd hc) hL (by simpa using hR) ha (by omega) (fin rv)
theorem cr_maxD (hc : X.calm = true) (hu : X.A.units + 65 < cLine) : CallR X (.builtin "max") (rPick PySem.W.maxD X.K) := by
  intro pins s σ H vs us Q I rr h
  obtain ⟨a, xs, x, r, rfl, hs, hd, ha, hl, hz, q⟩ := h
  rw [Vals.ref1 rr]
  have hm : ∀ d ∈ x :: r, PySem.W.alike d (PySem.W.maxD x r) = true := fun d hd => ha.1 d hd _ (alike_mem_max r x)
  have fin : ∀ {its : List Value}, Vals xs its → ∀ (i : Nat) v h' tk bs, its.toArray[i]? = some v → Reads h' v (PySem.W.maxD x r) bs → (∀ b o, s.heap.get? b = some o → h'.get? b = some o) → EP X pins σ Q v { s with heap := h', toks := tk } := by
    intro its rv i v h' tk bs hv hr hk
    obtain ⟨y, h1, h2, h3, d, h4, h5⟩ := pick_at I rv hd hl hm hv hr hk
    exact ⟨y, H, I.kept hk, h2, q i y h1 (by rw [h4, h5])⟩
  rcases hs with hs | hs
  · obtain ⟨its, rv, hL, _⟩ := I.list hs
    obtain ⟨as, hR⟩ := Dp.readsAll I (x :: r) xs its (dqs_dp hd hl) rv
    exact PySem.W.max_list_data (I.ok.hd hc) hL.isList (by simpa using hR) ha (by omega) (fin rv)
  · obtain ⟨its, rv, hL, _⟩ := I.tuple hs
    obtain ⟨as, hR⟩ := Dp.readsAll I (x :: r) xs its (dqs_dp hd hl) rv
    exact PySem.W.max_tuple_data (I.ok.hd hc) hL (by simpa using hR) ha (by omega) (fin rv)
/-! ### built-ins of one argument -/
/-- f of one operand does what g says of the data -/
def CaS (T : List (Addr × Str)) (X : Cx) (f : Value) (g : D → Option D) : Prop := ∃ r : List V → Hp → VK → Prop, CallR X f r ∧ ∀ (v : V) (d z : D) B G w ρ σ H (Q : VK), RR X.K T B G w ρ σ H → DqO X.K G H v d → g d = some z →
  (∀ u G' H', RR X.K T B G' w ρ σ H' → Stp G w H G' w H' → Dq X.K G' u z → Q u H') → r [v] H Q
theorem ca_len : CaS T X (.builtin "len") (biD .len) := by
  refine ⟨_, (call_len_seq).or call_len_str, fun v d z B G w ρ σ H Q R hd e q => ?_⟩
  cases d <;> first | (cases e; done) | skip
  · rename_i s
    obtain ⟨l, rfl⟩ := ite_some (show (if s.length ≤ big then some (PyData.int s.length) else Option.none) = some z from e)
    cases hd.dq R.sub
    exact .inr ⟨s, rfl, Nat.le_of_lt (big_line l), q _ G H R (Stp.refl _ _ _) (.int _)⟩
  · cases e
    obtain ⟨a, vs, rfl, h1, h2⟩ := hd.list R.sub
    exact .inl ⟨a, vs, rfl, .inl (.inl (.inl h1)), by rw [dps_len h2]; exact q _ G H R (Stp.refl _ _ _) (.int _)⟩
  · cases e
    obtain ⟨a, vs, rfl, h0, h1, h2⟩ := hd.tuple R.sub
    exact .inl ⟨a, vs, rfl, .inr h1, by rw [dps_len h2]; exact q _ G H R (Stp.refl _ _ _) (.int _)⟩
theorem ca_int : CaS T X (.type "int") (biD .int) := by
  refine ⟨_, call_int1, fun v d z B G w ρ σ H Q R hd e q => ?_⟩
  cases d <;> first | (cases e; done) | skip
  · rename_i b
    cases e
    cases hd.dq R.sub
    exact .inr ⟨b, rfl, q _ G H R (Stp.refl _ _ _) (.int _)⟩
  · rename_i i
    cases e
    cases hd.dq R.sub
    exact .inl ⟨i, rfl, q _ G H R (Stp.refl _ _ _) (.int _)⟩
theorem ca_abs : CaS T X (.builtin "abs") (biD .abs) := by
  refine ⟨_, call_abs, fun v d z B G w ρ σ H Q R hd e q => ?_⟩
  cases d <;> first | (cases e; done) | skip
  rename_i i
  cases e
  cases hd.dq R.sub
  exact ⟨i, rfl, q _ G H R (Stp.refl _ _ _) (.int _)⟩
theorem ca_tuple : CaS T X (.type "tuple") (biD .tuple) := by
  refine ⟨_, call_tuple_ofD, fun v d z B G w ρ σ H Q R hd e q => ?_⟩
  cases d <;> first | (cases e; done) | skip
  · cases e
    obtain ⟨a, vs, rfl, h1, h2⟩ := hd.list R.sub
    exact ⟨a, vs, rfl, .inl ⟨.inl (.inl h1), fun p its hp => q _ _ _ (R.new hp) (Stp.new R.sub hp) (.tup SqD.new (dps_sub (Sub.new (R.gnone hp)) h2))⟩⟩
  · cases e
    obtain ⟨a, vs, rfl, h0, h1, h2⟩ := hd.tuple R.sub
    exact ⟨a, vs, rfl, .inr ⟨h1, q _ G H R (Stp.refl _ _ _) (.tup h0 h2)⟩⟩
theorem ca_list : CaS T X (.type "list") (biD .list) := by
  refine ⟨_, call_list_of, fun v d z B G w ρ σ H Q R hd e q => ?_⟩
  cases d <;> first | (cases e; done) | skip
  · cases e
    obtain ⟨a, vs, rfl, h1, h2⟩ := hd.list R.sub
    exact ⟨a, vs, rfl, .inl (.inl (.inl h1)), fun p hp => q _ _ _ (R.new hp) (Stp.new R.sub hp) (.lst upd_same (dps_sub (Sub.new (R.gnone hp)) h2))⟩
  · cases e
    obtain ⟨a, vs, rfl, h0, h1, h2⟩ := hd.tuple R.sub
    exact ⟨a, vs, rfl, .inr h1, fun p hp => q _ _ _ (R.new hp) (Stp.new R.sub hp) (.lst upd_same (dps_sub (Sub.new (R.gnone hp)) h2))⟩
/-- the items of a list or a tuple -/
theorem DqO.items {K : PySem.W.Frag} {G H : Hp} {v : V} {d : D} {ds : List D} (s : Sub G H) (h : DqO K G H v d) (e : Rf.items d = some ds) : ∃ a vs, v = .ref a ∧ (SqL K H a vs ∨ SqT K H a vs) ∧ DqAll K G vs ds := by
  cases d <;> first | (cases e; done) | skip
  · cases e
    obtain ⟨a, vs, rfl, h1, h2⟩ := h.list s
    exact ⟨a, vs, rfl, .inl (.inl (.inl h1)), h2⟩
  · cases e
    obtain ⟨a, vs, rfl, h0, h1, h2⟩ := h.tuple s
    exact ⟨a, vs, rfl, .inr h1, h2⟩
theorem ca_sum (hc : X.calm = true) : CaS T X (.builtin "sum") (biD .sum) := by
  refine ⟨_, (cr_sum hc).or (cr_sumT hc), fun v d z B G w ρ σ H Q R hd e q => ?_⟩
  have e : ((items d).bind fun ds => (intsD ds).map fun ns => PyData.int ns.sum) = some z := e
  cases e1 : items d with
  | none => rw [e1] at e; cases e
  | some ds =>
    rw [e1] at e
    replace e : ((intsD ds).map fun ns => PyData.int ns.sum) = some z := e
    cases e2 : intsD ds with
    | none => rw [e2] at e; cases e
    | some ns =>
      rw [e2] at e
      cases e
      obtain ⟨a, vs, rfl, h1, h2⟩ := hd.items R.sub e1
      have ev := dps_ints h2 e2
      subst ev
      rcases h1 with h1 | h1
      · exact .inl ⟨a, ns, rfl, h1, q _ G H R (Stp.refl _ _ _) (.int _)⟩
      · exact .inr ⟨a, ns, rfl, h1, q _ G H R (Stp.refl _ _ _) (.int _)⟩
theorem ca_any (hc : X.calm = true) : CaS T X (.builtin "any") (biD .any) := by
  refine ⟨_, cr_any hc, fun v d z B G w ρ σ H Q R hd e q => ?_⟩
  cases d <;> first | (cases e; done) | skip
  rename_i ds
  have e : ((boolsD ds).map fun bs => PyData.bool (bs.any id)) = some z := e
  cases e2 : boolsD ds with
  | none => rw [e2] at e; cases e
  | some ns =>
    rw [e2] at e
    cases e
    obtain ⟨a, vs, rfl, h1, h2⟩ := hd.list R.sub
    have ev := dps_bools h2 e2
    subst ev
    exact ⟨a, ns, rfl, .inl (.inl h1), q _ G H R (Stp.refl _ _ _) (.bl _)⟩
theorem ca_all (hc : X.calm = true) : CaS T X (.builtin "all") (biD .all) := by
  refine ⟨_, cr_all hc, fun v d z B G w ρ σ H Q R hd e q => ?_⟩
  cases d <;> first | (cases e; done) | skip
  rename_i ds
  have e : ((boolsD ds).map fun bs => PyData.bool (bs.all id)) = some z := e
  cases e2 : boolsD ds with
  | none => rw [e2] at e; cases e
  | some ns =>
    rw [e2] at e
    cases e
    obtain ⟨a, vs, rfl, h1, h2⟩ := hd.list R.sub
    have ev := dps_bools h2 e2
    subst ev
    exact ⟨a, ns, rfl, .inl (.inl h1), q _ G H R (Stp.refl _ _ _) (.bl _)⟩
theorem intsD_map : ∀ {ds : List D} {ns : List Int}, intsD ds = some ns → ds = ns.map PyData.int
  | [], ns, e => by
    have q : some ([] : List Int) = some ns := e
    cases q
    rfl
  | d :: ds, ns, e => by
    cases d <;> first | (cases e; done) | skip
    rename_i i
    have q : (intsD ds).map (i :: ·) = some ns := e
    cases z : intsD ds with
    | none => rw [z] at q; cases q
    | some ms =>
      rw [z] at q
      cases q
      rw [intsD_map z]
      rfl
theorem lay_ints : ∀ ns : List Int, PyData.canLayAll0 (ns.map PyData.int) = true
  | [] => rfl
  | n :: r => by
    have := lay_ints r
    simp only [List.map_cons, PyData.canLayAll0, PyData.canLay0, this, Bool.and_self]
theorem depth_ints : ∀ ns : List Int, PyData.depthAll (ns.map PyData.int) = 0
  | [] => rfl
  | n :: r => by
    have := depth_ints r
    simp only [List.map_cons, PyData.depthAll, PyData.depth, this]
    rfl
theorem alike_ints (ns : List Int) : PySem.W.AlikeAll (ns.map PyData.int) := by
  refine ⟨fun x hx y hy => ?_, fun x hx e => ?_⟩
  · obtain ⟨i, _, rfl⟩ := List.mem_map.mp hx
    obtain ⟨j, _, rfl⟩ := List.mem_map.mp hy
    rfl
  · obtain ⟨i, _, rfl⟩ := List.mem_map.mp hx
    cases e
theorem ca_pick {nm : String} {bi : Bi} {pick : D → List D → D} {pi : Int → Int → Int} (hp : ∀ (n : Int) (ns : List Int), pick (.int n) (ns.map .int) = .int (ns.foldl pi n)) (hr : CallR X (.builtin nm) (rPick pick X.K))
    (hb : ∀ d, biD bi d = (items d).bind (pickOf pick pi)) : CaS T X (.builtin nm) (biD bi) := by
  refine ⟨_, hr, fun v d z B G w ρ σ H Q R hd e q => ?_⟩
  rw [hb d] at e
  cases e1 : items d with
  | none => rw [e1] at e; cases e
  | some ds =>
    rw [e1] at e
    obtain ⟨a, vs, rfl, h1, h2⟩ := hd.items R.sub e1
    have fin : ∀ (x : D) (r : List D), ds = x :: r → PySem.W.AlikeAll (x :: r) → PyData.canLayAll0 (x :: r) = true → PyData.depthAll (x :: r) ≤ 63 → pick x r = z → rPick pick X.K [V.ref a] H Q := by
      intro x r ed ha hl hz ez
      subst ed
      refine ⟨a, vs, x, r, rfl, h1, dps_sub R.sub h2, ha, hl, hz, fun i v hv hx => ?_⟩
      obtain ⟨u, e3, e4⟩ := dps_get i h2 hx
      rw [hv] at e3
      cases e3
      exact q v G H R (Stp.refl _ _ _) (ez ▸ e4)
    cases ds with
    | nil => cases e
    | cons x r =>
      have slow : (if (allAlike (x :: r) && SeqAt.shaped (.list (x :: r))) = true then some (pick x r) else Option.none) = some z → rPick pick X.K [V.ref a] H Q := fun e => by
        obtain ⟨c, rfl⟩ := ite_some e
        rw [Bool.and_eq_true] at c
        obtain ⟨l1, l2⟩ := shaped_list c.2
        exact fin x r rfl (allAlike_of c.1) l1 l2 rfl
      cases x with
      | int n =>
        replace e : (match intsD r with
          | some ns => some (PyData.int (ns.foldl pi n))
          | Option.none => slowP pick (.int n) r) = some z := e
        cases e2 : intsD r with
        | none =>
          rw [e2] at e
          exact slow e
        | some ns =>
          rw [e2] at e
          cases e
          have em := intsD_map e2
          have ec : (PyData.int n :: r) = (n :: ns).map PyData.int := by rw [em]; rfl
          refine fin (.int n) r rfl ?_ ?_ ?_ ?_
          · rw [ec]; exact alike_ints _
          · rw [ec]; exact lay_ints _
          · rw [ec, depth_ints]; exact Nat.zero_le _
          · rw [em]; exact hp n ns
      | _ => exact slow e
theorem ca_max (hc : X.calm = true) (hu : X.A.units + 65 < cLine) : CaS T X (.builtin "max") (biD .max) := ca_pick PySem.W.maxD_ints (cr_maxD hc hu) fun d => rfl
theorem ca_min (hc : X.calm = true) (hu : X.A.units + 65 < cLine) : CaS T X (.builtin "min") (biD .min) := ca_pick PySem.W.minD_ints (cr_minD hc hu) fun d => rfl
/-- the call itself: a built-in by its name, of one operand -/
theorem se_callB {x : Str} {id : String} {g : D → Option D} {oa : Rho → Res D} {ag : Rho → D → Option D} {pn : Pos} (hc : CaS T X (.builtin id) g) (hg : Gl X x) (hm : X.mg x = none) (hv : bootBuiltins x = some (.builtin id)) (h : SO T xt X a oa ag) (hs : noStar a = true) (hn : x ≠ "__name__") (hd : (x == ("__debug__" : Str)) = false) :
    SE T xt X (.Call (.Name x pn) [a] [] p) fun r => (oa r).bind fun y r1 => opt (g y) r1 := by
  intro W tk
  obtain ⟨t, p1, q1⟩ := h W tk
  obtain ⟨rc, h1, h2⟩ := hc
  refine ⟨_, pe_callB h1 hg hm hv (pa_cons p1 pa_nil (star_one a [] X.env hs)) hn hd (star_one a [] X.env hs) rfl, fun B G w r σ H Q R z => q1 _ _ _ _ _ _ _ R (z.bind fun x r1 v G1 w1 H1 _ R1 S1 d1 z1 => ?_)⟩
  obtain ⟨d, ed, z2⟩ := z1.opt
  exact h2 v x d B G1 w1 r1 σ H1 Q R1 d1.1 ed fun u G' H' R' S' hz => z2 u G' _ H' R' S' hz
theorem se_callT {x : Str} {id : String} {g : D → Option D} {oa : Rho → Res D} {ag : Rho → D → Option D} {pn : Pos} (hc : CaS T X (.type id) g) (hg : Gl X x) (hm : X.mg x = none) (hv : bootBuiltins x = some (.type id)) (h : SO T xt X a oa ag) (hs : noStar a = true) (hn : x ≠ "__name__") (hd : (x == ("__debug__" : Str)) = false) :
    SE T xt X (.Call (.Name x pn) [a] [] p) fun r => (oa r).bind fun y r1 => opt (g y) r1 := by
  intro W tk
  obtain ⟨t, p1, q1⟩ := h W tk
  obtain ⟨rc, h1, h2⟩ := hc
  refine ⟨_, pe_callTy h1 hg hm hv (pa_cons p1 pa_nil (star_one a [] X.env hs)) hn hd (star_one a [] X.env hs) rfl, fun B G w r σ H Q R z => q1 _ _ _ _ _ _ _ R (z.bind fun x r1 v G1 w1 H1 _ R1 S1 d1 z1 => ?_)⟩
  obtain ⟨d, ed, z2⟩ := z1.opt
  exact h2 v x d B G1 w1 r1 σ H1 Q R1 d1.1 ed fun u G' H' R' S' hz => z2 u G' _ H' R' S' hz
end
end Rf
set_option Elab.async false
set_option linter.all false
set_option maxRecDepth 100000
set_option maxHeartbeats 1000000
namespace Rf
open PySem PySem.Spec PyProof.Rows L2 LamX
section
variable {T : List (Addr × Str)} {xt : XT} {X : Cx} {a b c e : Expr} {va vb vc : Rho → Res D} {p : Pos}
/-! ### two arguments -/
theorem se_bi2 {x : Str} {id : String} {bi : Bi} {pn : Pos} (hc : ∃ r, CallR X (.builtin id) r ∧ ∀ (v u : V) (d e z : D) H (Q : VK), (∀ G, Dq X.K G v d → True) → (∃ G, Dq X.K G v d) → (∃ G, Dq X.K G u e) → bi2D bi d e = some z → (∀ i, z = .int i → Q (.int i) H) → r [v, u] H Q)
    (hz : ∀ d e z, bi2D bi d e = some z → ∃ i, z = .int i)
    (hg : Gl X x) (hm : X.mg x = none) (hv : bootBuiltins x = some (.builtin id)) (h : SE T xt X a va) (k : SE T xt X b vb) (hs : noStar a = true) (hs2 : noStar b = true) (hn : x ≠ "__name__") (hd : (x == ("__debug__" : Str)) = false) :
    SE T xt X (.Call (.Name x pn) [a, b] [] p) fun r => (va r).bind fun y r1 => (vb r1).bind fun z r2 => opt (bi2D bi y z) r2 := by
  intro W tk
  obtain ⟨t, p1, q1⟩ := h W tk
  obtain ⟨u, p2, q2⟩ := k W tk
  obtain ⟨rc, h1, h2⟩ := hc
  refine ⟨_, pe_callB h1 hg hm hv (pa_cons p1 (pa_cons p2 pa_nil (star_one b [] X.env hs2)) (star_one a [b] X.env hs)) hn hd (star_one a [b] X.env hs) (by rw [star_one b [] X.env hs2]; rfl), fun B G w r σ H Q R z => q1 _ _ _ _ _ _ _ R (z.bind fun x r1 v G1 w1 H1 _ R1 S1 d1 z1 => ?_)⟩
  refine q2 _ _ _ _ _ _ _ R1 (z1.bind fun y r2 v2 G2 w2 H2 _ R2 S2 d2 z2 => ?_)
  obtain ⟨d, ed, z3⟩ := z2.opt
  exact h2 v v2 x y d H2 Q (fun _ _ => True.intro) ⟨G1, d1⟩ ⟨G2, d2⟩ ed fun i ei => by
    subst ei
    exact z3 _ _ _ _ R2 (Stp.refl _ _ _) (.int i)
theorem ca_max2 (hc : X.calm = true) : ∃ r, CallR X (.builtin "max") r ∧ ∀ (v u : V) (d e z : D) H (Q : VK), (∀ G, Dq X.K G v d → True) → (∃ G, Dq X.K G v d) → (∃ G, Dq X.K G u e) → bi2D .max d e = some z → (∀ i, z = .int i → Q (.int i) H) → r [v, u] H Q := by
  refine ⟨_, call_max2 hc, fun v u d e z H Q _ ⟨G1, h1⟩ ⟨G2, h2⟩ eq q => ?_⟩
  cases d <;> cases e <;> first | (cases eq; done) | skip
  rename_i i j
  cases eq
  cases h1
  cases h2
  exact ⟨_, _, rfl, q _ rfl⟩
theorem ca_min2 (hc : X.calm = true) : ∃ r, CallR X (.builtin "min") r ∧ ∀ (v u : V) (d e z : D) H (Q : VK), (∀ G, Dq X.K G v d → True) → (∃ G, Dq X.K G v d) → (∃ G, Dq X.K G u e) → bi2D .min d e = some z → (∀ i, z = .int i → Q (.int i) H) → r [v, u] H Q := by
  refine ⟨_, call_min2 hc, fun v u d e z H Q _ ⟨G1, h1⟩ ⟨G2, h2⟩ eq q => ?_⟩
  cases d <;> cases e <;> first | (cases eq; done) | skip
  rename_i i j
  cases eq
  cases h1
  cases h2
  exact ⟨_, _, rfl, q _ rfl⟩
theorem bi2_int (bi : Bi) (d e z : D) (h : bi2D bi d e = some z) : ∃ i, z = .int i := by
  cases bi <;> cases d <;> cases e <;> first | (cases h; done) | (cases h; exact ⟨_, rfl⟩)
/-! ### isinstance -/
def dName : D → String
  | .none => "NoneType"
  | .bool _ => "bool"
  | .int _ => "int"
  | .str _ => "str"
  | .list _ => "list"
  | .tuple _ => "tuple"
  | .dict _ => ""
def tName : Ty → String
  | .int => "int"
  | .bool => "bool"
  | .str => "str"
  | .list => "list"
  | .tuple => "tuple"
theorem kit_all : ∀ t : Ty, kitB "NoneType" (tName t) = some false ∧ kitB "bool" (tName t) = some (isTy t (.bool true)) ∧ kitB "int" (tName t) = some (isTy t (.int 0)) ∧ kitB "str" (tName t) = some (isTy t (.str "")) ∧ kitB "list" (tName t) = some (isTy t (.list [])) ∧ kitB "tuple" (tName t) = some (isTy t (.tuple [])) := by
  intro t
  cases t <;> (refine ⟨?_, ?_, ?_, ?_, ?_, ?_⟩ <;> decide +kernel)
theorem kit_d (t : Ty) (d : D) (h : ∀ kvs, d ≠ .dict kvs) : kitB (dName d) (tName t) = some (isTy t d) := by
  obtain ⟨h1, h2, h3, h4, h5, h6⟩ := kit_all t
  cases d with
  | none => rw [show dName .none = "NoneType" from rfl, h1]; cases t <;> rfl
  | bool b => rw [show dName (.bool b) = "bool" from rfl, h2]; cases t <;> rfl
  | int i => rw [show dName (.int i) = "int" from rfl, h3]; cases t <;> rfl
  | str s => rw [show dName (.str s) = "str" from rfl, h4]; cases t <;> rfl
  | list l => rw [show dName (.list l) = "list" from rfl, h5]; cases t <;> rfl
  | tuple l => rw [show dName (.tuple l) = "tuple" from rfl, h6]; cases t <;> rfl
  | dict k => exact absurd rfl (h k)
theorem ty_of {K : PySem.W.Frag} {H : Hp} {v : V} {d : D} (h : Dq K H v d) (hd : ∀ kvs, d ≠ .dict kvs) : TyX K H v (.type (dName d)) := by
  cases h with
  | non => exact .base .non
  | bl b => exact .base (.bl b)
  | int i => exact .base (.int i)
  | str x => exact .base (.str x)
  | lst h _ => exact .base (.lst h)
  | tup h _ =>
    replace h := h.sq
    rcases h with (h | ⟨o, h⟩) | ⟨o, its, n, hk, hc, _⟩
    · exact .base (.tup h)
    · exact .fTuple h
    · exact .kTuple hk hc
  | scr _ => exact absurd rfl (hd _)
/-- the names of built-in types as arguments -/
theorem pa_types : ∀ (ts : List Ty) (es : List Expr), (es.length = ts.length) → (∀ (i : Nat) (t : Ty) (e : Expr), ts[i]? = some t → es[i]? = some e → noStar e = true ∧ PE X e (tC (.ty (tName t)))) →
    ∃ ta : TA, PA X es ta ∧ ∀ σ H Q, Q (ts.map fun t => V.ty (tName t)) H → ta σ H Q
  | [], [], _, _ => ⟨tNil, pa_nil, fun _ _ _ q => q⟩
  | t :: ts, e :: es, hl, h => by
    obtain ⟨ta, p1, q1⟩ := pa_types ts es (by simpa using hl) fun i t' e' h1 h2 => h (i + 1) t' e' (by simpa using h1) (by simpa using h2)
    obtain ⟨hs, pe⟩ := h 0 t e rfl rfl
    exact ⟨_, pa_cons pe p1 (star_one e es X.env hs), fun σ H Q q => q1 σ H _ q⟩
theorem kit_any {K : PySem.W.Frag} {d : D} (hd : ∀ kvs, d ≠ .dict kvs) : ∀ ts : List Ty, PySem.W.kitAny K (.type (dName d)) (ts.map fun t => Value.type (tName t)) = some (ts.any fun t => isTy t d)
  | [] => rfl
  | t :: ts => kitAny_cons (kit_ty (kit_d t d hd)) (fun e => by
      rw [kit_any hd ts, List.any_cons, e, Bool.false_or]) fun e => by rw [List.any_cons, e, Bool.true_or]
theorem cls_pair : ∀ ts : List Ty, Paired ClsV (ts.map fun t => V.ty (tName t)) (ts.map fun t => Value.type (tName t))
  | [] => .nil
  | t :: ts => .cons (.ty _) (cls_pair ts)
def vIsiO (oa : Rho → Res D) (ts : List Ty) (r : Rho) : Res Bool := (oa r).bind fun x r1 => match x with
  | .dict _ => .bad
  | _ => .ok (ts.any fun t => isTy t x) r1
theorem isi_end {ts : List Ty} {x : D} {r1 : Rho} {B : Bk} {G : Hp} {w : Wn} {σ : L2.St} {H : Hp} {Q : VK} {W : WX}
    (z : QX X.K T xt B W (relV X.K) G w σ H ((match x with
      | .dict _ => Res.bad
      | _ => Res.ok (ts.any fun t => isTy t x) r1 : Res Bool).bind fun k r2 => .ok (.bool k) r2) Q) : (∀ kvs, x ≠ .dict kvs) ∧ ∀ v G' w' H', RR X.K T B G' w' r1 σ H' → Stp G w H G' w' H' → Dq X.K G' v (.bool (ts.any fun t => isTy t x)) → Q v H' := by
  cases x with
  | dict k => exact z.elim
  | _ => exact ⟨(fun kvs e => nomatch e), z⟩
theorem se_isi1 {oa : Rho → Res D} {ag : Rho → D → Option D} {t : Ty} {pn : Pos} (hg : Gl X "isinstance") (hm : X.mg "isinstance" = none) (h : SO T xt X a oa ag) (hs : noStar a = true) (hs2 : noStar b = true) (hb : PE X b (tC (.ty (tName t)))) :
    SE T xt X (.Call (.Name "isinstance" pn) [a, b] [] p) (toV (vIsiO oa [t])) := by
  intro W tk
  obtain ⟨ta, p1, q1⟩ := h W tk
  refine ⟨_, pe_callB call_isi hg hm (by decide +kernel) (pa_cons p1 (pa_cons hb pa_nil (star_one b [] X.env hs2)) (star_one a [b] X.env hs)) (by decide) (by decide) (star_one a [b] X.env hs) (by rw [star_one b [] X.env hs2]; rfl), fun B G w r σ H Q R z => ?_⟩
  unfold toV vIsiO at z
  revert z
  intro z
  refine q1 _ _ _ _ _ _ _ R ?_
  cases e : oa r with
  | bad => rw [e] at z; exact z
  | exc _ _ _ => rw [e] at z; exact z
  | ok x r1 =>
    rw [e] at z
    intro v G1 w1 H1 R1 S1 d1
    obtain ⟨hd, z2⟩ := isi_end (z.after S1)
    exact ⟨v, _, _, _, _, rfl, .ty _, ty_of (d1.1.dq R1.sub) hd, kit_ty (kit_d t x hd), z2 _ _ _ _ R1 (Stp.refl _ _ _) (by rw [List.any_cons, List.any_nil, Bool.or_false]; exact .bl _)⟩
theorem se_isiT {oa : Rho → Res D} {ag : Rho → D → Option D} {ts : List Ty} {es : List Expr} {n : Nat} {pn pt : Pos} (hg : Gl X "isinstance") (hm : X.mg "isinstance" = none) (h : SO T xt X a oa ag) (hs : noStar a = true) (hl : es.length = ts.length) (hz : ts.length ≤ 100)
    (hb : ∀ (i : Nat) (t : Ty) (e : Expr), ts[i]? = some t → es[i]? = some e → noStar e = true ∧ PE X e (tC (.ty (tName t)))) :
    SE T xt X (.Call (.Name "isinstance" pn) [a, .Tuple es n pt] [] p) (toV (vIsiO oa ts)) := by
  intro W tk
  obtain ⟨ta, p1, q1⟩ := h W tk
  obtain ⟨tb, p2, q2⟩ := pa_types ts es hl hb
  refine ⟨_, pe_callB call_isiT hg hm (by decide +kernel) (pa_cons p1 (pa_cons (pe_tup p2) pa_nil (star_one _ [] X.env rfl)) (star_one a _ X.env hs)) (by decide) (by decide) (star_one a _ X.env hs) (by rw [star_one (.Tuple es n pt) [] X.env rfl]; rfl), fun B G w r σ H Q R z => ?_⟩
  unfold toV vIsiO at z
  refine q1 _ _ _ _ _ _ _ R ?_
  cases e : oa r with
  | bad => rw [e] at z; exact z
  | exc _ _ _ => rw [e] at z; exact z
  | ok x r1 =>
    rw [e] at z
    intro v G1 w1 H1 R1 S1 d1
    obtain ⟨hd, z2⟩ := isi_end (z.after S1)
    refine q2 _ _ _ ⟨by rw [List.length_map]; exact Nat.le_trans hz (by decide), fun q hq => ?_⟩
    refine ⟨v, q, _, _, _, _, rfl, upd_same, cls_pair ts, ty_of (dp_sub (Sub.new hq) (d1.1.dq R1.sub)) hd, kit_any hd ts, z2 _ _ _ _ (R1.new hq) (Stp.new R1.sub hq) (.bl _)⟩
end
end Rf
set_option Elab.async false
set_option linter.all false
set_option maxRecDepth 100000
set_option maxHeartbeats 1000000
namespace Rf
open PySem PySem.Spec PyProof.Rows L2 LamX
/-! ### what a def promises -/
def lentOf (j : Option Nat) (vs : List V) : Option Addr := match j with
  | Option.none => Option.none
  | some i => match vs[i]? with
    | some (.ref a) => some a
    | _ => Option.none
/-- behind a call: what stood stands, but for the lent list -/
structure Pst (K : PySem.W.Frag) (T : List (Addr × Str)) (lent : Option Addr) (cs : List D) (G H G' H' : Hp) : Prop where
  sub : Sub G G'
  sub' : Sub G' H'
  grow : ∀ a, G' a ≠ none → G a ≠ none ∨ ¬Ob H a
  keep : ∀ a o, H a = some o → noTbl o → lent ≠ some a → H' a = some o
  dom : ∀ a, Ob H a → Ob H' a
  tabs : Tabs T H'
  nt : NT G'
  put : ∀ a, lent = some a → ∃ ws, H' a = some (.lst ws) ∧ DqAll K G' ws cs
def ArgOk (K : PySem.W.Frag) (G H : Hp) (j : Option Nat) (vs : List V) (ds cs : List D) : Prop := match j with
  | Option.none => DqAll K G vs ds ∧ cs = []
  | some i => ∃ (a : Addr) (ws : List V), vs[i]? = some (.ref a) ∧ DqAll K G (vs.eraseIdx i) ds ∧ H a = some (.lst ws) ∧ DqAll K G ws cs ∧ G a = none
def spF (K : PySem.W.Frag) (T : List (Addr × Str)) (xt : XT) (φ : Fn) (k : Nat) (j : Option Nat) : Sp := fun vs H Q E => vs.length = k ∧ ∃ G ds cs, Sub G H ∧ Tabs T H ∧ NT G ∧ ArgOk K G H j vs ds cs ∧
  match φ ds cs with
  | .ok d cs' => ∀ v G' H', Pst K T (lentOf j vs) cs' G H G' H' → Dq K G' v d → Q v H'
  | .exc x d => j = Option.none ∧ ∀ c f dx v G' H', xt[x]? = some (c, f) → Pst K T Option.none [] G H G' H' → H' dx = some (.xd [(f, v)]) → Dq K G' v d → E (.ref c) (some dx) H'
  | .bad => False
/-- a def of the text that does what φ says -/
structure FnS (T : List (Addr × Str)) (xt : XT) (P : Program) (w : World) (K : PySem.W.Frag) (mg : Str → Option Value) (base : Heap) (lv : Nat) (x : Str) (φ : Fn) (k : Nat) (j : Option Nat) : Prop where
  ex : ∃ (f : Addr) (fd : FuncData) (ps : List Str), FnOk P w K mg base (L2.CX P w) lv f fd ps (spF K T xt φ k j) ∧ mg x = some (.ref f) ∧ PySem.W.keepIn K (.ref f) = true ∧ L2.Binds K fd ps []
  ar : ∀ ds cs, φ ds cs ≠ .bad → ds.length + (if j.isSome then 1 else 0) = k
section
variable {K : PySem.W.Frag} {T : List (Addr × Str)} {xt : XT} {B : Bk} {G H G' H' : Hp} {w : Wn} {r : Rho} {σ : L2.St}
theorem RR.dom0 (R : RR K T B G w r σ H) {a : Addr} (h : H a = none) : ¬Ob B.H0 a := fun n => Ob.non h (R.dom a n)
theorem RR.call (R : RR K T B G w r σ H) (P : Pst K T none [] G H G' H') : RR K T B G' w r σ H' := by
  have hw : ∀ i a, w i = some a → ∀ vs, H a = some (.lst vs) → H' a = some (.lst vs) := fun i a _ vs h => P.keep a _ h (fun ps z => nomatch z) (fun z => nomatch z)
  refine ⟨P.sub', P.tabs, P.nt, fun a o h n k => P.keep a o (R.ent a o h n k) n (fun z => nomatch z), fun a h => P.dom a (R.dom a h), fun a h => ?_, R.sub0.tr P.sub, R.inj, fun i a e => ?_, fun i x e => ?_, R.out, R.len⟩
  · rcases P.grow a h with h | h
    · exact R.grow a h
    · exact .inr fun n => h (R.dom _ n)
  · obtain ⟨h1, h2, vs, h3⟩ := R.fre i a e
    refine ⟨?_, h2, vs, hw i a e vs h3⟩
    cases z : G' a with
    | none => rfl
    | some u =>
      rcases P.grow a (by rw [z]; simp) with q | q
      · exact absurd h1 q
      · exact absurd (Ob.lst h3) q
  · have q := R.slot i x e
    cases x with
    | un => exact q
    | val d => obtain ⟨q0, v, q1, q2⟩ := q; exact ⟨q0, v, q1, dp_sub P.sub q2⟩
    | own ds => obtain ⟨a, vs, q1, q2, q3, q4, q5⟩ := q; exact ⟨a, vs, q1, q2, q3, hw i a q1 vs q4, dps_sub P.sub q5⟩
    | io ds => obtain ⟨a, vs, q1, q2, q3, q4, q5⟩ := q; exact ⟨a, vs, q1, q2, q3, hw i a q1 vs q4, dps_sub P.sub q5⟩
theorem Pst.plain {cs : List D} (P : Pst K T none cs G H G' H') : Pst K T none [] G H G' H' := ⟨P.sub, P.sub', P.grow, P.keep, P.dom, P.tabs, P.nt, fun _ h => nomatch h⟩
theorem Pst.stp (P : Pst K T none [] G H G' H') : Stp G w H G' w H' where
  sub := P.sub
  grow := fun a h => by
    rcases P.grow a h with h | h
    · exact .inl h
    · exact .inr (.inl h)
  keep := fun a o h n _ => P.keep a o h n (fun z => nomatch z)
  dom := P.dom
  less := fun _ _ h => h
/-- behind a call that changed the list of slot i -/
theorem RR.callio (R : RR K T B G w r σ H) {i : Nat} {a : Addr} {cs : List D} {x y : Slot} (P : Pst K T (some a) cs G H G' H') (hi : r[i]? = some x) (wi : w i = some a) (hσ : σ[i]? = some (some (.ref a)))
    (hy : (y = .own cs ∧ ¬Ob B.H0 a) ∨ (y = .io cs ∧ B.lent = some a)) : RR K T B G' w (r.set i y) σ H' := by
  have hl : i < r.length := (List.getElem?_eq_some_iff.mp hi).1
  obtain ⟨ws, hw1, hw2⟩ := P.put a rfl
  have ha := R.fre i a wi
  have oth : ∀ j b, w j = some b → j ≠ i → ∀ vs, H b = some (.lst vs) → H' b = some (.lst vs) := fun j b e ne vs h => P.keep b _ h (fun ps z => nomatch z) (fun z => ne (R.inj j i a (by rw [e]; exact z.symm) wi))
  refine ⟨P.sub', P.tabs, P.nt, fun b o h n k => ?_, fun b h => P.dom b (R.dom b h), fun b h => ?_, R.sub0.tr P.sub, R.inj, fun j b e => ?_, fun j z e => ?_, fun j e => ?_, by rw [List.length_set]; exact R.len⟩
  · have hb := R.ent b o h n k
    by_cases q : b = a
    · rcases ha.2.1 with h0 | h0
      · exact absurd ⟨o, q ▸ h, n⟩ h0
      · exact absurd (q ▸ h0) k
    · exact P.keep b o hb n (fun z => q (Option.some.inj z).symm)
  · rcases P.grow b h with h | h
    · exact R.grow b h
    · exact .inr fun n => h (R.dom _ n)
  · obtain ⟨h1, h2, vs, h3⟩ := R.fre j b e
    refine ⟨?_, h2, ?_⟩
    · cases z : G' b with
      | none => rfl
      | some u =>
        rcases P.grow b (by rw [z]; simp) with q | q
        · exact absurd h1 q
        · exact absurd (Ob.lst h3) q
    · by_cases q : j = i
      · subst q
        rw [wi] at e
        cases e
        exact ⟨ws, hw1⟩
      · exact ⟨vs, oth j b e q vs h3⟩
  · by_cases q : j = i
    · subst q
      rw [List.getElem?_set_self hl] at e
      cases e
      rcases hy with ⟨rfl, h0⟩ | ⟨rfl, h0⟩
      · exact ⟨a, ws, wi, h0, hσ, hw1, hw2⟩
      · exact ⟨a, ws, wi, h0, hσ, hw1, hw2⟩
    · rw [List.getElem?_set_ne (Ne.symm q)] at e
      have z2 := R.slot j z e
      cases z with
      | un => exact z2
      | val d => obtain ⟨q0, v, q1, q2⟩ := z2; exact ⟨q0, v, q1, dp_sub P.sub q2⟩
      | own ds => obtain ⟨b, vs, q1, q2, q3, q4, q5⟩ := z2; exact ⟨b, vs, q1, q2, q3, oth j b q1 q vs q4, dps_sub P.sub q5⟩
      | io ds => obtain ⟨b, vs, q1, q2, q3, q4, q5⟩ := z2; exact ⟨b, vs, q1, q2, q3, oth j b q1 q vs q4, dps_sub P.sub q5⟩
  · by_cases q : j = i
    · subst q
      rw [List.getElem?_eq_none_iff, List.length_set] at e
      omega
    · rw [List.getElem?_set_ne (Ne.symm q)] at e
      exact R.out j e
theorem Pst.stpio {i : Nat} {a : Addr} {cs : List D} (P : Pst K T (some a) cs G H G' H') (wi : w i = some a) : Stp G w H G' w H' where
  sub := P.sub
  grow := fun b h => by
    rcases P.grow b h with h | h
    · exact .inl h
    · exact .inr (.inl h)
  keep := fun b o h n k => P.keep b o h n (fun z => k i (by rw [wi]; exact z))
  dom := P.dom
  less := fun _ _ h => h
end
section
variable {T : List (Addr × Str)} {xt : XT} {X : Cx} {a b c e : Expr} {va vb vc : Rho → Res D} {p : Pos} {x : Str} {φ : Fn} {k lv : Nat}
theorem sp_of_call {B : Bk} {G H : Hp} {w : Wn} {r1 : Rho} {σ : L2.St} {W : WX} {Q : VK} {vs : List V} {ds : List D} (har : ∀ ds cs, φ ds cs ≠ .bad → ds.length + (if (none : Option Nat).isSome then 1 else 0) = k) (R : RR X.K T B G w r1 σ H) (hd : DqAll X.K G vs ds)
    (z : QX X.K T xt B W (relV X.K) G w σ H (match φ ds [] with
      | .ok d _ => Res.ok d r1
      | .exc x d => .exc x d r1
      | .bad => .bad) Q) : spF X.K T xt φ k none vs H Q (WE W σ) := by
  have hb : φ ds [] ≠ .bad := fun e => by rw [e] at z; exact z
  have hk := har ds [] hb
  refine ⟨by rw [dps_len hd]; simpa using hk, G, ds, [], R.sub, R.tabs, R.nt, ⟨hd, rfl⟩, ?_⟩
  cases e : φ ds [] with
  | ok d cs => rw [e] at z; exact fun v G' H' P dv => z v G' w H' (R.call P.plain) P.plain.stp dv
  | exc x d => rw [e] at z; exact ⟨rfl, fun c f dx v G' H' hx P hdx dv => z c f dx v G' w H' hx (R.call P) P.stp hdx dv⟩
  | bad => exact hb e
theorem se_call {es : List Expr} {fa : Rho → Res (List D)} {pn : Pos} (F : FnS T xt X.prog X.w X.K X.mg X.base lv x φ k none) (hr : Room lv X.A) (hg : Gl X x) (hd : (x == ("__debug__" : Str)) = false) (ha : SA T xt X (a :: es) fa) (hs : noStar a = true) (hpl : ∀ pos : Pos, (backTo pos (starEach es X.env)).any (·.1) = false) :
    SE T xt X (.Call (.Name x pn) (a :: es) [] p) fun r => (fa r).bind fun ds r1 => match φ ds [] with
      | .ok d _ => .ok d r1
      | .exc x d => .exc x d r1
      | .bad => .bad := by
  intro W tk
  obtain ⟨ta, p1, q1⟩ := ha W tk
  obtain ⟨⟨f, fd, ps, F1, hm, hk, hb⟩, har⟩ := F
  refine ⟨_, pe_callS F1 hr hg hm hk hb (fun σ => passAt tk σ) p1 hd (star_one a es X.env hs) (hpl p), fun B G w r σ H Q R z => q1 _ _ _ _ _ _ _ R (z.bind fun ds r1 vs G1 w1 H1 _ R1 S1 d1 z1 => ?_)⟩
  exact sp_of_call har R1 d1 z1
theorem se_call0 {pn : Pos} (F : FnS T xt X.prog X.w X.K X.mg X.base lv x φ k none) (hr : Room lv X.A) (hg : Gl X x) (hd : (x == ("__debug__" : Str)) = false) :
    SE T xt X (.Call (.Name x pn) [] [] p) fun r => match φ [] [] with
      | .ok d _ => .ok d r
      | _ => .bad := by
  intro W tk
  obtain ⟨⟨f, fd, ps, F1, hm, hk, hb⟩, har⟩ := F
  refine ⟨_, pe_call0 F1 hr hg hm hk hb .nil passL hd, fun B G w r σ H Q R z => ?_⟩
  show spF X.K T xt φ k none ([] ++ []) H Q (fun _ _ _ => False)
  have hb : φ [] [] ≠ .bad := fun e => by rw [e] at z; exact z
  have hk := har [] [] hb
  refine ⟨by simpa using hk, G, [], [], R.sub, R.tabs, R.nt, ⟨.nil, rfl⟩, ?_⟩
  cases e : φ [] [] with
  | ok d cs => rw [e] at z; exact fun v G' H' P dv => z v G' w H' (R.call P.plain) P.plain.stp dv
  | exc x d => rw [e] at z; exact z.elim
  | bad => exact hb e
/-- a call whose list argument at place j is lent -/
theorem se_callio {es1 es2 : List Expr} {fa fb : Rho → Res (List D)} {pn pi : Pos} {i j : Nat} {y : Str} (F : FnS T xt X.prog X.w X.K X.mg X.base lv x φ k (some j)) (hr : Room lv X.A) (hg : Gl X x) (hd : (x == ("__debug__" : Str)) = false)
    (ha : SK T xt X es1 fa) (hb : SA T xt X es2 fb) (hj : es1.length = j) (hN : X.N[i]? = some y) (hv : Vis X.env.scope y) (hy : (y == ("__debug__" : Str)) = false) (hyc : (y == ("__classdict__" : Str)) = false) (e0 : Expr) (er : List Expr) (ee : es1 ++ .Name y pi :: es2 = e0 :: er)
    (hs : noStar e0 = true) (hpl : ∀ pos : Pos, (backTo pos (starEach er X.env)).any (·.1) = false) (hlen : ∀ r ds r1, fa r = .ok ds r1 → ds.length = j) :
    SE T xt X (.Call (.Name x pn) (es1 ++ .Name y pi :: es2) [] p) fun r => (fa r).bind fun ds r1 => if isL r1 i then (fb r1).bind fun es r2 => ioEnd φ i (ds ++ es) r2 else .bad := by
  intro W tk
  obtain ⟨tb, p2, q2⟩ := hb W tk
  obtain ⟨ta, p1, q1⟩ := ha W tk (.Name y pi :: es2) _ (pa_cons (pe_var hN hv hy hyc) p2 (star_one _ es2 X.env rfl))
  obtain ⟨⟨f, fd, ps, F1, hm, hk, hb⟩, har⟩ := F
  rw [ee] at p1 ⊢
  refine ⟨_, pe_callS F1 hr hg hm hk hb (fun σ => passAt tk σ) p1 hd (star_one e0 er X.env hs) (hpl p), fun B G w r σ H Q R z => q1 _ _ _ _ _ _ _ R (z.bind fun ds r1 vs G1 w1 H1 e1 R1 S1 d1 z1 => ?_)⟩
  cases el : isL r1 i with
  | false => rw [el] at z1; exact z1.elim
  | true =>
    rw [el] at z1
    replace z1 : QX X.K T xt B W (relV X.K) G1 w1 σ H1 ((fb r1).bind fun es r2 => ioEnd φ i (ds ++ es) r2) Q := z1
    have hσ : ∃ a, σ[i]? = some (some (V.ref a)) ∧ w1 i = some a := by
      unfold isL at el
      cases ei : r1[i]? with
      | none => rw [ei] at el; cases el
      | some sl =>
        have q := R1.slot i sl ei
        cases sl with
        | un => rw [ei] at el; cases el
        | val d => rw [ei] at el; cases el
        | own cs => obtain ⟨a, _, h1, _, h2, _⟩ := q; exact ⟨a, h2, h1⟩
        | io cs => obtain ⟨a, _, h1, _, h2, _⟩ := q; exact ⟨a, h2, h1⟩
    obtain ⟨a, hσ, wa⟩ := hσ
    refine ⟨.ref a, hσ, q2 _ _ _ _ _ _ _ R1 (z1.bind fun es r2 us G2 w2 H2 _ R2 S2 d2 z2 => ?_)⟩
    have d1' : DqAll X.K G2 vs ds := dps_sub S2.sub d1
    have hvl : vs.length = j := by rw [dps_len d1]; exact hlen _ _ _ e1
    have hat : (vs ++ V.ref a :: us)[j]? = some (.ref a) := by rw [← hvl, List.getElem?_append_right (Nat.le_refl _), Nat.sub_self]; rfl
    have her : (vs ++ V.ref a :: us).eraseIdx j = vs ++ us := by rw [← hvl, List.eraseIdx_append_of_length_le (Nat.le_refl _), Nat.sub_self]; rfl
    have hlent : lentOf (some j) (vs ++ V.ref a :: us) = some a := by unfold lentOf; simp only [hat]
    have go : ∀ (cs : List D) (mk : List D → Slot), r2[i]? = some (mk cs) → (∀ cs', (mk cs' = .own cs' ∧ ¬Ob B.H0 a) ∨ (mk cs' = .io cs' ∧ B.lent = some a)) → w2 i = some a → (∃ ws, H2 a = some (.lst ws) ∧ DqAll X.K G2 ws cs) →
        QX X.K T xt B W (relV X.K) G2 w2 σ H2 (match φ (ds ++ es) cs with
          | .ok d cs' => Res.ok d (r2.set i (mk cs'))
          | _ => .bad) Q → spF X.K T xt φ k (some j) (vs ++ V.ref a :: us) H2 Q (WE W σ) := by
      intro cs mk hi hmk w2a ⟨ws, hw1, hw2⟩ z3
      have hb : φ (ds ++ es) cs ≠ .bad := fun e => by rw [e] at z3; exact z3
      have hkk := har _ _ hb
      have hl2 := dps_len d1'
      have hl3 := dps_len d2
      refine ⟨?_, G2, ds ++ es, cs, R2.sub, R2.tabs, R2.nt, ⟨a, ws, hat, by rw [her]; exact dps_app d1' d2, hw1, hw2, R2.nofr w2a⟩, ?_⟩
      · rw [List.length_append] at hkk ⊢
        rw [List.length_cons]
        simp only [Option.isSome_some, if_true] at hkk
        omega
      · cases e : φ (ds ++ es) cs with
        | bad => exact hb e
        | exc x d => rw [e] at z3; exact z3.elim
        | ok d cs' =>
          rw [e] at z3
          intro v G' H' P dv
          rw [hlent] at P
          exact z3 v G' w2 H' (R2.callio P hi w2a hσ (hmk cs')) (P.stpio w2a) dv
    unfold ioEnd at z2
    cases ei : r2[i]? with
    | none => rw [ei] at z2; exact z2.elim
    | some sl =>
      rw [ei] at z2
      have q := R2.slot i sl ei
      cases sl with
      | un => exact z2.elim
      | val d => exact z2.elim
      | own cs =>
        obtain ⟨b, ws, h1, h0, h2, h3, h4⟩ := q
        rw [hσ] at h2
        cases h2
        exact go cs Slot.own ei (fun cs' => .inl ⟨rfl, h0⟩) h1 ⟨ws, h3, h4⟩ z2
      | io cs =>
        obtain ⟨b, ws, h1, h0, h2, h3, h4⟩ := q
        rw [hσ] at h2
        cases h2
        exact go cs Slot.io ei (fun cs' => .inr ⟨rfl, h0⟩) h1 ⟨ws, h3, h4⟩ z2
/-! ### no stars -/
theorem star_all : ∀ (es : List Expr) (env : Env), es.all noStar = true → (starEach es env).any (·.1) = false
  | [], _, _ => rfl
  | e :: es, env, h => by
    rw [List.all_cons, Bool.and_eq_true] at h
    rw [star_one e es env h.1, List.any_cons, star_all es env h.2]
    rfl
theorem back_all {es : List Expr} {env : Env} (h : es.all noStar = true) (pos : Pos) : (backTo pos (starEach es env)).any (·.1) = false := by
  unfold backTo
  rw [List.any_map]
  exact star_all es env h
end
end Rf
set_option Elab.async false
set_option linter.all false
set_option maxRecDepth 100000
set_option maxHeartbeats 1000000
namespace Rf
open PySem PySem.Spec PyProof.Rows L2 LamX
/-! ### targets -/
def gIs : List Nat → TGs
  | [] => gNil
  | i :: is => gCons (gName i) (gIs is)
def gQ (K : PySem.W.Frag) : Tq → TG
  | .nm i => gName i
  | .tp is => gTup K is.length (gIs is)
def gQs (K : PySem.W.Frag) : List Tq → TGs
  | [] => gNil
  | q :: qs => gCons (gQ K q) (gQs K qs)
def gOf (K : PySem.W.Frag) : Tg → TG
  | .nm i => gName i
  | .tp is => gTup K is.length (gIs is)
  | .tt qs => gTup K qs.length (gQs K qs)
def tqIx : Tq → List Nat
  | .nm i => [i]
  | .tp is => is
def tgIx : Tg → List Nat
  | .nm i => [i]
  | .tp is => is
  | .tt qs => qs.flatMap tqIx
section
variable {K : PySem.W.Frag} {T : List (Addr × Str)} {B : Bk} {G H : Hp} {w : Wn} {r r' : Rho} {σ : L2.St}
theorem RR.bindv (R : RR K T B G w r σ H) {i : Nat} {v : V} {d : D} (hd : Dq K G v d) : RR K T B G (wset w i none) (r.set i (.val d)) (σ.set i (some v)) H := by
  refine R.putw (fun j h => List.getElem?_set_ne (Ne.symm h)) List.length_set fun hi => ⟨wset_same, v, ?_, hd⟩
  rw [List.getElem?_set_self (by rw [R.len]; exact hi)]
theorem asgs_ok : ∀ (is : List Nat) {ds : List D} {vs : List V} {r r' : Rho} {σ : L2.St} {w : Wn} {Q : L2.St → Hp → Prop}, RR K T B G w r σ H → DqAll K G vs ds → asgs is ds r = some r' →
    (∀ σ' w', RR K T B G w' r' σ' H → Stp G w H G w' H → (∀ j, j ∉ is → σ'[j]? = σ[j]?) → σ'.length = σ.length → Q σ' H) → gIs is vs σ H Q
  | [], ds, vs, r, r', σ, w, Q, R, hd, e, q => by
    cases hd with
    | nil =>
      cases e
      exact ⟨rfl, q σ w R (Stp.refl _ _ _) (fun _ _ => rfl) rfl⟩
    | cons _ _ => cases e
  | i :: is, ds, vs, r, r', σ, w, Q, R, hd, e, q => by
    cases hd with
    | nil => cases e
    | @cons v vs d ds h1 h2 =>
      refine ⟨v, vs, rfl, ?_⟩
      show gIs is vs (σ.set i (some v)) H Q
      refine asgs_ok is (R.bindv h1) h2 e fun σ' w' R' S' hj hl => q σ' w' R' (Stp.wset.tr S') (fun j hj2 => ?_) (by rw [hl, List.length_set])
      rw [hj j fun z => hj2 (List.mem_cons_of_mem _ z), List.getElem?_set_ne fun z => hj2 (by rw [z]; exact List.mem_cons_self)]
theorem asgs_len : ∀ {is : List Nat} {ds : List D} {r r' : Rho}, asgs is ds r = some r' → ds.length = is.length
  | [], [], _, _, _ => rfl
  | [], _ :: _, _, _, e => by cases e
  | _ :: _, [], _, _, e => by cases e
  | _ :: is, _ :: ds, _, _, e => congrArg Nat.succ (asgs_len (is := is) (ds := ds) e)
theorem asgQ_ok (t : Tq) {d : D} {v : V} {σ : L2.St} {w : Wn} {r r' : Rho} {Q : L2.St → Hp → Prop} (R : RR K T B G w r σ H) (hd : Dq K G v d) (e : asgQ t d r = some r')
    (q : ∀ σ' w', RR K T B G w' r' σ' H → Stp G w H G w' H → (∀ j, j ∉ tqIx t → σ'[j]? = σ[j]?) → σ'.length = σ.length → Q σ' H) : gQ K t v σ H Q := by
  cases t with
  | nm i =>
    cases e
    exact q _ _ (R.bindv hd) Stp.wset (fun j h => List.getElem?_set_ne fun z => h (by rw [z]; exact List.mem_singleton.mpr rfl)) List.length_set
  | tp is =>
    cases d <;> first | (cases e; done) | skip
    rename_i ds
    cases hd with
    | @tup a xs _ h1 h2 => exact ⟨a, xs, rfl, (sqD_sub R.sub h1).sq, by rw [dps_len h2]; exact asgs_len e, asgs_ok is R h2 e q⟩
theorem asgqs_ok : ∀ (qs : List Tq) {ds : List D} {vs : List V} {r r' : Rho} {σ : L2.St} {w : Wn} {Q : L2.St → Hp → Prop}, RR K T B G w r σ H → DqAll K G vs ds → asgqs qs ds r = some r' →
    (∀ σ' w', RR K T B G w' r' σ' H → Stp G w H G w' H → (∀ j, j ∉ qs.flatMap tqIx → σ'[j]? = σ[j]?) → σ'.length = σ.length → Q σ' H) → gQs K qs vs σ H Q
  | [], ds, vs, r, r', σ, w, Q, R, hd, e, q => by
    cases hd with
    | nil =>
      cases e
      exact ⟨rfl, q σ w R (Stp.refl _ _ _) (fun _ _ => rfl) rfl⟩
    | cons _ _ => cases e
  | t :: qs, ds, vs, r, r', σ, w, Q, R, hd, e, q => by
    cases hd with
    | nil => cases e
    | @cons v vs d ds h1 h2 =>
      replace e : (asgQ t d r).bind (asgqs qs ds) = some r' := e
      cases e1 : asgQ t d r with
      | none => rw [e1] at e; cases e
      | some r1 =>
        rw [e1] at e
        refine ⟨v, vs, rfl, asgQ_ok t R h1 e1 fun σ1 w1 R1 S1 hj1 hl1 => ?_⟩
        refine asgqs_ok qs R1 h2 e fun σ' w' R' S' hj hl => q σ' w' R' (S1.tr S') (fun j hj2 => ?_) (by rw [hl, hl1])
        rw [List.flatMap_cons, List.mem_append] at hj2
        rw [hj j fun z => hj2 (.inr z), hj1 j fun z => hj2 (.inl z)]
theorem asgqs_len : ∀ {qs : List Tq} {ds : List D} {r r' : Rho}, asgqs qs ds r = some r' → ds.length = qs.length
  | [], [], _, _, _ => rfl
  | [], _ :: _, _, _, e => by cases e
  | _ :: _, [], _, _, e => by cases e
  | t :: qs, d :: ds, r, r', e => by
    replace e : (asgQ t d r).bind (asgqs qs ds) = some r' := e
    cases e1 : asgQ t d r with
    | none => rw [e1] at e; cases e
    | some r1 => rw [e1] at e; exact congrArg Nat.succ (asgqs_len (qs := qs) (ds := ds) e)
theorem asg_ok (t : Tg) {d : D} {v : V} {Q : L2.St → Hp → Prop} (R : RR K T B G w r σ H) (hd : Dq K G v d) (e : asgT t d r = some r')
    (q : ∀ σ' w', RR K T B G w' r' σ' H → Stp G w H G w' H → (∀ j, j ∉ tgIx t → σ'[j]? = σ[j]?) → σ'.length = σ.length → Q σ' H) : gOf K t v σ H Q := by
  cases t with
  | nm i =>
    cases e
    exact q _ _ (R.bindv hd) Stp.wset (fun j h => List.getElem?_set_ne fun z => h (by rw [z]; exact List.mem_singleton.mpr rfl)) List.length_set
  | tp is =>
    cases d <;> first | (cases e; done) | skip
    rename_i ds
    cases hd with
    | @tup a xs _ h1 h2 =>
      have hl : ∀ (is : List Nat) (ds : List D) (r r' : Rho), asgs is ds r = some r' → ds.length = is.length := by
        intro is
        induction is with
        | nil => intro ds r r' e; cases ds with | nil => rfl | cons _ _ => cases e
        | cons i is ih => intro ds r r' e; cases ds with | nil => cases e | cons d ds => exact congrArg Nat.succ (ih ds _ _ e)
      exact ⟨a, xs, rfl, (sqD_sub R.sub h1).sq, by rw [dps_len h2]; exact hl is ds r r' e, asgs_ok is R h2 e q⟩
  | tt qs =>
    cases d <;> first | (cases e; done) | skip
    rename_i ds
    cases hd with
    | @tup a xs _ h1 h2 => exact ⟨a, xs, rfl, (sqD_sub R.sub h1).sq, by rw [dps_len h2]; exact asgqs_len e, asgqs_ok qs R h2 e q⟩
end
/-- targets, brackets among them -/
theorem pg_qs {X : Cx} : ∀ (qs : List Tq) (es : List Expr), es.length = qs.length → (∀ (k : Nat) (q : Tq) (e : Expr), qs[k]? = some q → es[k]? = some e → PG X e (gQ X.K q) ∧ ∀ es' : List Expr, assignEach (e :: es') X.env = (false, assign e X.env) :: assignEach es' X.env) →
    PGs X es (gQs X.K qs) ∧ (assignEach es X.env).length = qs.length ∧ (assignEach es X.env).findIdx? (·.1) = none
  | [], [], _, _ => ⟨pgs_nil, rfl, rfl⟩
  | q :: qs, e :: es, hl, h => by
    obtain ⟨p1, p2, p3⟩ := pg_qs qs es (by simpa using hl) fun k i' e' h1 h2 => h (k + 1) i' e' (by simpa using h1) (by simpa using h2)
    obtain ⟨h1, h2⟩ := h 0 q e rfl rfl
    have ea := h2 es
    refine ⟨pgs_cons h1 p1 (by rw [ea]; rfl), by rw [ea, List.length_cons, p2]; rfl, ?_⟩
    rw [ea, List.findIdx?_cons]
    simp [p3]
/-- names as targets -/
theorem pg_is {X : Cx} (hN : X.N.Nodup) : ∀ (is : List Nat) (es : List Expr), es.length = is.length → (∀ (k i : Nat) (e : Expr), is[k]? = some i → es[k]? = some e → ∃ x p, e = .Name x p ∧ X.N[i]? = some x ∧ Loc X.env.scope x ∧ (X.fn x = true ∨ X.env.scope.names.lookup x = some .local)) →
    PGs X es (gIs is) ∧ (assignEach es X.env).length = is.length ∧ (assignEach es X.env).findIdx? (·.1) = none
  | [], [], _, _ => ⟨pgs_nil, rfl, rfl⟩
  | i :: is, e :: es, hl, h => by
    obtain ⟨p1, p2, p3⟩ := pg_is hN is es (by simpa using hl) fun k i' e' h1 h2 => h (k + 1) i' e' (by simpa using h1) (by simpa using h2)
    obtain ⟨x, p, rfl, h1, h2, h3⟩ := h 0 i e rfl rfl
    have ea : assignEach (.Name x p :: es) X.env = (false, assign (.Name x p) X.env) :: assignEach es X.env := rfl
    refine ⟨pgs_cons (pg_name hN h1 h2 h3) p1 (by rw [ea]; rfl), by rw [ea, List.length_cons, p2]; rfl, ?_⟩
    rw [ea, List.findIdx?_cons]
    simp [p3]
/-! ### what is walked -/
/-- from G1 on, J walks xs -/
def Wk (K : PySem.W.Frag) (T : List (Addr × Str)) (B : Bk) (J : It) (G1 : Hp) (xs : List D) : Prop := ∀ G2 w2 r2 (σ2 : L2.St) H2, RR K T B G2 w2 r2 σ2 H2 → Sub G1 G2 → ∀ i : Nat,
  (∀ x, xs[i]? = some x → J.go i H2 ∧ ∀ v H3, J.yld i H2 v H3 → ∃ G3, RR K T B G3 w2 r2 σ2 H3 ∧ Stp G2 w2 H2 G3 w2 H3 ∧ Dq K G3 v x) ∧ (xs[i]? = none → J.stop i H2)
def relI (K : PySem.W.Frag) (T : List (Addr × Str)) (B : Bk) (G : Hp) (_ : Wn) (_ : Hp) (J : It) (xs : List D) : Prop := Wk K T B J G xs
def SI (T : List (Addr × Str)) (xt : XT) (X : Cx) (tg e : Expr) (f : Rho → Res (List D)) : Prop := ∀ W : WX, Takes X W → ∃ t : TI, PI X tg e t ∧ ∀ B G w r σ H (R : It → Hp → Prop), RR X.K T B G w r σ H → QX X.K T xt B W (relI X.K T B) G w σ H (f r) R → t σ H R
section
variable {T : List (Addr × Str)} {xt : XT} {X : Cx} {a b c e tg : Expr} {va vb vc : Rho → Res D} {p : Pos}
/-- a list or a tuple, walked -/
theorem pi_seq {l : Expr} {tl : TE} (hl : PE X l tl) : PI X tg l fun σ H R => tl σ H fun x H1 => ∃ a, x = .ref a ∧ (((∃ xs, SqL X.K H1 a xs) ∧ R (Itl X.K a) H1) ∨ ((∃ xs, SqT X.K H1 a xs) ∧ R (Itt X.K a) H1)) := by
  constructor
  intro pins s σ H R I h
  refine thn (hl.run pins s σ H _ I h) ?_
  rintro v s1 ⟨x, H1, I1, r1, a, ex, q⟩
  subst ex
  cases r1
  have new : ∀ b ∈ [s1.heap.objs.size], FpOk X pins H1 b := fun b hb => by
    obtain rfl := List.mem_singleton.mp hb
    exact I1.fpOk (Nat.le_refl _) (I1.hok.fresh (Nat.le_refl _))
  rcases q with ⟨⟨xs, hq⟩, q⟩ | ⟨⟨xs, hq⟩, q⟩
  · obtain ⟨its, _, pl, _⟩ := I1.list hq
    refine wpAny_pyIter_list pl.isList ⟨s1.heap.objs.size, [s1.heap.objs.size], _, _, H1, rfl, ?_, turn_list a _, ⟨_, Heap.get?_push_size _ rfl, rfl, rfl⟩, new, q⟩
    exact I1.kept (t' := s1.toks) fun b o e => Heap.get?_push_of_some _ e
  · obtain ⟨its, _, pl, _⟩ := I1.tuple hq
    refine wpAny_pyIter_tuple (show s1.heap.IsTuple a its.toArray from pl) ⟨s1.heap.objs.size, [s1.heap.objs.size], _, _, H1, rfl, ?_, turn_tuple a _, ⟨_, Heap.get?_push_size _ rfl, rfl, rfl⟩, new, q⟩
    exact I1.kept (t' := s1.toks) fun b o e => Heap.get?_push_of_some _ e
theorem wk_list {K : PySem.W.Frag} {B : Bk} {G1 : Hp} {a : Addr} {vs : List V} {ds : List D} (h1 : SqL K G1 a vs) (h2 : DqAll K G1 vs ds) : Wk K T B (Itl K a) G1 ds := by
  intro G2 w2 r2 σ2 H2 R s i
  have hL := sqL_sub (s.tr R.sub) h1
  refine ⟨fun x hx => ?_, fun hn => ⟨vs, hL, by rw [dps_len h2]; exact List.getElem?_eq_none_iff.mp hn⟩⟩
  obtain ⟨v, e1, e2⟩ := dps_get i h2 hx
  refine ⟨⟨vs, v, hL, e1⟩, fun u H3 ⟨eh, hy⟩ => ?_⟩
  subst eh
  have := hy vs hL
  rw [e1] at this
  cases this
  exact ⟨G2, R, Stp.refl _ _ _, dp_sub s e2⟩
theorem wk_tup {K : PySem.W.Frag} {B : Bk} {G1 : Hp} {a : Addr} {vs : List V} {ds : List D} (h1 : SqT K G1 a vs) (h2 : DqAll K G1 vs ds) : Wk K T B (Itt K a) G1 ds := by
  intro G2 w2 r2 σ2 H2 R s i
  have hL := sqT_sub (s.tr R.sub) h1
  refine ⟨fun x hx => ?_, fun hn => ⟨vs, hL, by rw [dps_len h2]; exact List.getElem?_eq_none_iff.mp hn⟩⟩
  obtain ⟨v, e1, e2⟩ := dps_get i h2 hx
  refine ⟨⟨vs, v, hL, e1⟩, fun u H3 ⟨eh, hy⟩ => ?_⟩
  subst eh
  have := hy vs hL
  rw [e1] at this
  cases this
  exact ⟨G2, R, Stp.refl _ _ _, dp_sub s e2⟩
theorem si_seq (h : SE T xt X e va) : SI T xt X tg e fun r => (va r).bind fun x r1 => opt (items x) r1 := by
  intro W tk
  obtain ⟨t, p1, q1⟩ := h W tk
  refine ⟨_, pi_seq p1, fun B G w r σ H R0 R z => q1 _ _ _ _ _ _ _ R (z.bind fun x r1 v G1 w1 H1 _ R1 S1 d1 z1 => ?_)⟩
  obtain ⟨ds, ed, z2⟩ := z1.opt
  have d1 : Dq X.K G1 v x := d1
  obtain ⟨a, vs, rfl, h2, h3⟩ := dp_items d1 ed
  rcases h3 with ⟨_, h3⟩ | ⟨_, h3⟩
  · exact ⟨a, rfl, .inl ⟨⟨vs, .inl (.inl (R1.sub _ _ h3))⟩, z2 _ _ _ _ R1 (Stp.refl _ _ _) (wk_list (.inl (.inl h3)) h2)⟩⟩
  · exact ⟨a, rfl, .inr ⟨⟨vs, (sqD_sub R1.sub h3).sq⟩, z2 _ _ _ _ R1 (Stp.refl _ _ _) (wk_tup h3.sq h2)⟩⟩
theorem wk_rng {K : PySem.W.Frag} {B : Bk} {G1 : Hp} (lo : Int) (n : Nat) : Wk K T B (Itr lo n) G1 ((List.range n).map fun (k : Nat) => PyData.int (lo + (k : Int))) := by
  intro G2 w2 r2 σ2 H2 R s i
  refine ⟨fun x hx => ?_, fun hn => ?_⟩
  · rw [List.getElem?_map] at hx
    by_cases hi : i < n
    · rw [List.getElem?_range hi] at hx
      cases hx
      refine ⟨hi, fun u H3 ⟨eh, hy⟩ => ?_⟩
      subst eh hy
      exact ⟨G2, R, Stp.refl _ _ _, .int _⟩
    · rw [List.getElem?_eq_none (by rw [List.length_range]; omega)] at hx
      cases hx
  · have := List.getElem?_eq_none_iff.mp hn
    rw [List.length_map, List.length_range] at this
    exact this
theorem si_rng1 {pn : Pos} (hg : Gl X "range") (hm : X.mg "range" = none) (ha : SE T xt X a va) (hs : noStar a = true) : SI T xt X tg (.Call (.Name "range" pn) [a] [] p) fun r => (va r).bind fun x r1 => opt (rngD [x]) r1 := by
  intro W tk
  obtain ⟨t, p1, q1⟩ := ha W tk
  have e0 := star_one a [] X.env hs
  refine ⟨_, pi_range1 hg hm (pa_cons p1 pa_nil e0) e0, fun B G w r σ H R0 R z => q1 _ _ _ _ _ _ _ R (z.bind fun x r1 v G1 w1 H1 _ R1 S1 d1 z1 => ?_)⟩
  obtain ⟨ys, ed, z2⟩ := z1.opt
  have d1 : Dq X.K G1 v x := d1
  cases d1 with
  | int n =>
    obtain ⟨c, ey⟩ := ite_some (show (if -1000000 ≤ n ∧ n ≤ 1000000 then some ((List.range n.toNat).map fun (k : Nat) => PyData.int (k : Int)) else Option.none) = some ys from ed)
    subst ey
    refine ⟨n, rfl, by omega, by omega, z2 _ _ _ _ R1 (Stp.refl _ _ _) ?_⟩
    have := wk_rng (K := X.K) (T := T) (B := B) (G1 := G1) 0 n.toNat
    simp only [Int.zero_add] at this
    exact this
  | _ => cases ed
theorem si_rng2 {pn : Pos} (hg : Gl X "range") (hm : X.mg "range" = none) (ha : SE T xt X a va) (hb : SE T xt X b vb) (hs : noStar a = true) (hs2 : noStar b = true) : SI T xt X tg (.Call (.Name "range" pn) [a, b] [] p) fun r => (va r).bind fun x r1 => (vb r1).bind fun y r2 => opt (rngD [x, y]) r2 := by
  intro W tk
  obtain ⟨t, p1, q1⟩ := ha W tk
  obtain ⟨t2, p2, q2⟩ := hb W tk
  have e1 := star_one b [] X.env hs2
  have e0 := star_one a [b] X.env hs
  refine ⟨_, pi_range2 hg hm (pa_cons p1 (pa_cons p2 pa_nil e1) e0) (by rw [e0, e1]; rfl) e1, fun B G w r σ H R0 R z => q1 _ _ _ _ _ _ _ R (z.bind fun x r1 v G1 w1 H1 _ R1 S1 d1 z1 => ?_)⟩
  refine q2 _ _ _ _ _ _ _ R1 (z1.bind fun y r2 u G2 w2 H2 _ R2 S2 d2 z2 => ?_)
  obtain ⟨ys, ed, z3⟩ := z2.opt
  have d1 : Dq X.K G1 v x := d1
  have d2 : Dq X.K G2 u y := d2
  have key : ∀ m n : Int, x = .int m → y = .int n → v = .int m → u = .int n → ∃ i j : Int, [v, u] = [V.int i, V.int j] ∧ (-(2 ^ 62) ≤ i ∧ i < 2 ^ 62 ∧ -(2 ^ 62) ≤ j ∧ j < 2 ^ 62) ∧ R0 (Itr i (j - i).toNat) H2 := by
    intro m n ex ey ev eu
    subst ex ey ev eu
    obtain ⟨c, ee⟩ := ite_some (show (if -1000000 ≤ m ∧ m ≤ 1000000 ∧ -1000000 ≤ n ∧ n ≤ 1000000 then some ((List.range (n - m).toNat).map fun (k : Nat) => PyData.int (m + (k : Int))) else Option.none) = some ys from ed)
    subst ee
    exact ⟨m, n, rfl, ⟨by omega, by omega, by omega, by omega⟩, z3 _ _ _ _ R2 (Stp.refl _ _ _) (wk_rng m _)⟩
  cases d1 <;> cases d2 <;> first | (cases ed; done) | exact key _ _ rfl rfl rfl rfl
/-! ### wiping slots -/
def wclr (w : Wn) : List Nat → Wn
  | [] => w
  | v :: vs => wset (wclr w vs) v none
theorem wclr_in {w : Wn} {j : Nat} : ∀ {vs : List Nat}, j ∈ vs → wclr w vs j = none
  | v :: vs, h => by
    by_cases q : j = v
    · rw [q]; exact wset_same
    · show wset (wclr w vs) v none j = none
      rw [wset_ne q]
      exact wclr_in ((List.mem_cons.mp h).resolve_left q)
theorem wclr_out {w : Wn} {j : Nat} : ∀ {vs : List Nat}, j ∉ vs → wclr w vs j = w j
  | [], _ => rfl
  | v :: vs, h => by
    show wset (wclr w vs) v none j = w j
    rw [wset_ne fun z => h (by rw [z]; exact List.mem_cons_self)]
    exact wclr_out fun z => h (List.mem_cons_of_mem _ z)
theorem wclr_le {w : Wn} {j : Nat} {a : Addr} {vs : List Nat} (h : wclr w vs j = some a) : w j = some a := by
  by_cases q : j ∈ vs
  · rw [wclr_in q] at h; cases h
  · rw [wclr_out q] at h; exact h
theorem wipeR_len (r : Rho) : ∀ vs : List Nat, (wipeR r vs).length = r.length
  | [] => rfl
  | v :: vs => by
    show ((wipeR r vs).set v .un).length = _
    rw [List.length_set, wipeR_len r vs]
theorem backR_len (r0 r : Rho) : ∀ vs : List Nat, (backR r0 r vs).length = r.length
  | [] => rfl
  | v :: vs => by
    show ((backR r0 r vs).set v _).length = _
    rw [List.length_set, backR_len r0 r vs]
theorem backR_out {r0 r : Rho} {j : Nat} : ∀ {vs : List Nat}, j ∉ vs → (backR r0 r vs)[j]? = r[j]?
  | [], _ => rfl
  | v :: vs, h => by
    show ((backR r0 r vs).set v _)[j]? = _
    rw [List.getElem?_set_ne fun z => h (by rw [← z]; exact List.mem_cons_self)]
    exact backR_out fun z => h (List.mem_cons_of_mem _ z)
theorem backR_in {r0 r : Rho} {j : Nat} : ∀ {vs : List Nat}, j ∈ vs → j < r.length → (backR r0 r vs)[j]? = some (r0.getD j .un)
  | v :: vs, h, hl => by
    show ((backR r0 r vs).set v _)[j]? = _
    by_cases q : v = j
    · subst q
      rw [List.getElem?_set_self (by rw [backR_len]; exact hl)]
    · rw [List.getElem?_set_ne q]
      exact backR_in ((List.mem_cons.mp h).resolve_left (Ne.symm q)) hl
theorem wipe_out' {σ : L2.St} {j : Nat} : ∀ {vs : List Nat}, j ∉ vs → (wipe σ vs)[j]? = σ[j]?
  | [], _ => rfl
  | v :: vs, h => by
    show ((wipe σ vs).set v none)[j]? = _
    rw [List.getElem?_set_ne fun z => h (by rw [← z]; exact List.mem_cons_self)]
    exact wipe_out' fun z => h (List.mem_cons_of_mem _ z)
theorem wipe_in' {σ : L2.St} {j : Nat} : ∀ {vs : List Nat}, j ∈ vs → j < σ.length → (wipe σ vs)[j]? = some none
  | v :: vs, h, hl => by
    show ((wipe σ vs).set v none)[j]? = _
    by_cases q : v = j
    · subst q
      rw [List.getElem?_set_self (by rw [wipe_length]; exact hl)]
    · rw [List.getElem?_set_ne q]
      exact wipe_in' ((List.mem_cons.mp h).resolve_left (Ne.symm q)) hl
theorem wipe_eq {σ σ2 : L2.St} {vs : List Nat} (h : ∀ j, j ∉ vs → σ2[j]? = σ[j]?) (hl : σ2.length = σ.length) : wipe σ2 vs = wipe σ vs := by
  apply List.ext_getElem?
  intro j
  by_cases q : j ∈ vs
  · by_cases z : j < σ.length
    · rw [wipe_in' q z, wipe_in' q (by omega)]
    · rw [List.getElem?_eq_none (by rw [wipe_length]; omega), List.getElem?_eq_none (by rw [wipe_length]; omega)]
  · rw [wipe_out' q, wipe_out' q, h j q]
theorem wipe_wipe {σ : L2.St} {vs : List Nat} : wipe (wipe σ vs) vs = wipe σ vs := wipe_eq (fun _ h => wipe_out' h) (wipe_length _ _)
section
variable {K : PySem.W.Frag} {B : Bk} {G H : Hp} {w : Wn} {r : Rho} {σ : L2.St}
theorem RR.wipe (R : RR K T B G w r σ H) : ∀ vs : List Nat, RR K T B G (wclr w vs) (wipeR r vs) (L2.wipe σ vs) H
  | [] => R
  | v :: vs => (RR.wipe R vs).putw (fun j h => List.getElem?_set_ne (Ne.symm h)) List.length_set fun _ => wset_same
theorem Stp.wipe : ∀ vs : List Nat, Stp G w H G (wclr w vs) H
  | [] => Stp.refl _ _ _
  | v :: vs => (Stp.wipe vs).tr Stp.wset
/-- behind a block: its names hold again what they held -/
theorem RR.back {G1 H1 : Hp} {w1 : Wn} {r1 : Rho} {vs : List Nat} (R1 : RR K T B G1 w1 r1 σ H1) (R2 : RR K T B G w r (L2.wipe σ vs) H) (S : Stp G1 (wclr w1 vs) H1 G w H) :
    RR K T B G (fun j => if j ∈ vs then w1 j else w j) (backR r1 r vs) σ H ∧ Stp G1 w1 H1 G (fun j => if j ∈ vs then w1 j else w j) H := by
  have hl : σ.length = r.length := by have := R2.len; rw [wipe_length] at this; exact this
  have hl1 := R1.len
  have wle : ∀ j a, w j = some a → j ∉ vs ∧ w1 j = some a := fun j a h => by
    have := S.less j a h
    by_cases q : j ∈ vs
    · rw [wclr_in q] at this; cases this
    · exact ⟨q, wclr_le this⟩
  have wb : ∀ j a, (if j ∈ vs then w1 j else w j) = some a → w1 j = some a := fun j a h => by
    by_cases q : j ∈ vs
    · rw [if_pos q] at h; exact h
    · rw [if_neg q] at h; exact (wle j a h).2
  have nv : ∀ j a, j ∈ vs → w1 j = some a → ∀ i, wclr w1 vs i ≠ some a := fun j a hj h i z => by
    have e := R1.inj i j a (wclr_le z) h
    rw [e, wclr_in hj] at z
    cases z
  have keepv : ∀ j a u, j ∈ vs → w1 j = some a → H1 a = some (.lst u) → H a = some (.lst u) := fun j a u hj h hu => S.keep a _ hu (fun ps z => nomatch z) (nv j a hj h)
  have gone : ∀ j a, j ∈ vs → w1 j = some a → G a = none := fun j a hj h => by
    obtain ⟨f1, _, u, f3⟩ := R1.fre j a h
    cases z : G a with
    | none => rfl
    | some o =>
      rcases S.grow a (by rw [z]; simp) with q | q | ⟨i, q⟩
      · exact absurd f1 q
      · exact absurd (Ob.lst f3) q
      · exact absurd q (nv j a hj h i)
  refine ⟨⟨R2.sub, R2.tabs, R2.nt, R2.ent, R2.dom, R2.grow, R2.sub0, fun i j a h1 h2 => R1.inj i j a (wb i a h1) (wb j a h2), fun j a h => ?_, fun j x e => ?_, fun j e => ?_, by rw [backR_len]; exact hl⟩, ⟨S.sub, fun a h => ?_, fun a o h n k => S.keep a o h n fun i z => k i (wclr_le z), S.dom, fun j a h => wb j a h⟩⟩
  · have h' : (if j ∈ vs then w1 j else w j) = some a := h
    by_cases q : j ∈ vs
    · rw [if_pos q] at h'
      obtain ⟨f1, f2, u, f3⟩ := R1.fre j a h'
      exact ⟨gone j a q h', f2, u, keepv j a u q h' f3⟩
    · rw [if_neg q] at h'
      exact R2.fre j a h'
  · by_cases q : j ∈ vs
    · have hj : j < r.length := by
        have := (List.getElem?_eq_some_iff.mp e).1
        rw [backR_len] at this
        exact this
      rw [backR_in q hj] at e
      have hj1 : j < r1.length := by omega
      have ej : r1[j]? = some (r1.getD j .un) := by rw [List.getD_eq_getElem?_getD, List.getElem?_eq_getElem hj1]; rfl
      have sl := R1.slot j _ ej
      have ex := Option.some.inj e
      rw [ex] at sl
      have wj : (fun j => if j ∈ vs then w1 j else w j) j = w1 j := if_pos q
      cases x with
      | un => exact wj.trans sl
      | val d => obtain ⟨s0, v, s1, s2⟩ := sl; exact ⟨wj.trans s0, v, s1, dp_sub S.sub s2⟩
      | own ds => obtain ⟨a, u, s1, s2, s3, s4, s5⟩ := sl; exact ⟨a, u, wj.trans s1, s2, s3, keepv j a u q s1 s4, dps_sub S.sub s5⟩
      | io ds => obtain ⟨a, u, s1, s2, s3, s4, s5⟩ := sl; exact ⟨a, u, wj.trans s1, s2, s3, keepv j a u q s1 s4, dps_sub S.sub s5⟩
    · rw [backR_out q] at e
      exact slot_w (show (if j ∈ vs then w1 j else w j) = w j from if_neg q) (wipe_out' q).symm (R2.slot j x e)
  · by_cases q : j ∈ vs
    · have := List.getElem?_eq_none_iff.mp e
      rw [backR_len] at this
      show (if j ∈ vs then w1 j else w j) = none
      rw [if_pos q]
      exact R1.out j (List.getElem?_eq_none_iff.mpr (by omega))
    · rw [backR_out q] at e
      show (if j ∈ vs then w1 j else w j) = none
      rw [if_neg q]
      exact R2.out j e
  · rcases S.grow a h with h | h | ⟨i, h⟩
    · exact .inl h
    · exact .inr (.inl h)
    · exact .inr (.inr ⟨i, wclr_le h⟩)
end
end
end Rf
set_option Elab.async false
set_option linter.all false
set_option maxRecDepth 100000
set_option maxHeartbeats 1000000
namespace Rf
open PySem PySem.Spec PyProof.Rows L2 LamX
/-! ### comprehensions -/
abbrev W0 : WX := fun _ _ _ _ => False
def canE (K : PySem.W.Frag) (T : List (Addr × Str)) (xt : XT) (f : Rho → Res D) : TE := fun σ H Q => ∃ B G w r, RR K T B G w r σ H ∧ QX K T xt B W0 (relV K) G w σ H (f r) Q
def canC (K : PySem.W.Frag) (T : List (Addr × Str)) (xt : XT) (f : Rho → Res Bool) : TT := fun σ H Q => ∃ B G w r, RR K T B G w r σ H ∧ QX K T xt B W0 relB G w σ H (f r) Q
def canI (K : PySem.W.Frag) (T : List (Addr × Str)) (xt : XT) (f : Rho → Res (List D)) : TI := fun σ H Q => ∃ B G w r, RR K T B G w r σ H ∧ QX K T xt B W0 (relI K T B) G w σ H (f r) Q
theorem takesW0 {X : Cx} : Takes X W0 := fun _ _ ⟨_, _, _, _, _, _, _, _, _, _, _, _, _, _, _, _, z⟩ => z.elim
section
variable {T : List (Addr × Str)} {xt : XT} {X : Cx} {a b c e tg : Expr} {va vb vc : Rho → Res D} {p : Pos}
theorem SE.can (h : SE T xt X e va) : PE X e (canE X.K T xt va) := by
  obtain ⟨t, p, q⟩ := h W0 takesW0
  exact ⟨fun pins s σ H Q I ⟨B, G, w, r, R, k⟩ => p.run pins s σ H Q I (q B G w r σ H Q R k)⟩
theorem SC.can {es : List Expr} {f : Rho → Res Bool} (h : SC T xt X es f) : PTs X es (canC X.K T xt f) := by
  obtain ⟨t, p, q⟩ := h W0 takesW0
  exact ⟨fun pins s σ H Q I ⟨B, G, w, r, R, k⟩ => p.run pins s σ H Q I (q B G w r σ H Q R k)⟩
theorem SI.can {f : Rho → Res (List D)} (h : SI T xt X tg e f) : PI X tg e (canI X.K T xt f) := by
  obtain ⟨t, p, q⟩ := h W0 takesW0
  exact ⟨fun pins s σ H Q I ⟨B, G, w, r, R, k⟩ => p.run pins s σ H Q I (q B G w r σ H Q R k)⟩
theorem sc_nil : SC T xt X [] fun r => .ok true r := fun W tk => ⟨tYes, pts_nil, fun B G w r σ H Q R h => h true G w H R (Stp.refl _ _ _) rfl⟩
theorem sc_one {f : Rho → Res Bool} (h : ST T xt X e f) : SC T xt X [e] f := fun W tk => let ⟨t, p, q⟩ := h W tk; ⟨t, pts_one p, q⟩
/-- nothing raised within -/
theorem calm_ok {α β : Type} {x : Res α} {f : α → Rho → Res β} {b : β} {r : Rho} (h : x.calm f = .ok b r) : ∃ a r1, x = .ok a r1 ∧ f a r1 = .ok b r := by
  cases x with
  | ok a r1 => exact ⟨a, r1, rfl, h⟩
  | exc _ _ _ => cases h
  | bad => cases h
theorem QX.calm {K : PySem.W.Frag} {B : Bk} {W : WX} {α γ δ : Type} {rel2 : Hp → Wn → Hp → δ → γ → Prop} {G : Hp} {w : Wn} {σ : L2.St} {H : Hp} {x : Res α} {f : α → Rho → Res γ} {Q : δ → Hp → Prop} (h : QX K T xt B W rel2 G w σ H (x.calm f) Q) : ∃ a r1, x = .ok a r1 ∧ QX K T xt B W rel2 G w σ H (f a r1) Q := by
  cases x with
  | ok a r1 => exact ⟨a, r1, rfl, h⟩
  | exc _ _ _ => exact h.elim
  | bad => exact h.elim
theorem QX.of_ok {K : PySem.W.Frag} {B : Bk} {W : WX} {α β : Type} {rel : Hp → Wn → Hp → β → α → Prop} {G : Hp} {w : Wn} {σ : L2.St} {H : Hp} {x : Res α} {a : α} {r1 : Rho} {Q : β → Hp → Prop} (e : x = .ok a r1)
    (h : ∀ b G' w' H', RR K T B G' w' r1 σ H' → Stp G w H G' w' H' → rel G' w' H' b a → Q b H') : QX K T xt B W rel G w σ H x Q := by rw [e]; exact h
/-- a change of an object that was not there at first -/
theorem Stp.late {G G1 H H1 : Hp} {w w1 : Wn} {p : Addr} {o : HO} (S : Stp G w H G1 w1 H1) (hp : ¬Ob H p) (ho : noTbl o := by intro ps z; cases z) : Stp G w H G1 w1 (upd H1 p o) where
  sub := S.sub
  grow := S.grow
  keep := fun a u h n k => by rw [upd_ne (show a ≠ p from fun z => hp (z ▸ ⟨u, h, n⟩))]; exact S.keep a u h n k
  dom := fun a h => (S.dom a h).put ho
  less := S.less
theorem Stp.settle {G G1 H H1 : Hp} {w w1 : Wn} {p : Addr} {o : HO} (S : Stp G w H G1 w1 H1) (hp : ¬Ob H p) (g : G1 p = none) : Stp G w H (upd G1 p o) w1 H1 where
  sub := S.sub.tr (Sub.new g)
  grow := fun a h => by
    by_cases q : a = p
    · exact .inr (.inl (q ▸ hp))
    · rw [upd_ne q] at h; exact S.grow a h
  keep := S.keep
  dom := S.dom
  less := S.less
/-- the list D under way: what is kept of it -/
structure Und (G : Hp) (w : Wn) (H : Hp) (B : Bk) (D : Addr) (acc : List V) : Prop where
  g : G D = none
  h : H D = some (.lst acc)
  b : ¬Ob B.H0 D
  nw : ∀ i, w i ≠ some D
theorem Und.step {G G1 H H1 : Hp} {w w1 : Wn} {B : Bk} {D : Addr} {acc : List V} (u : Und G w H B D acc) (S : Stp G w H G1 w1 H1) : Und G1 w1 H1 B D acc where
  g := by
    cases z : G1 D with
    | none => rfl
    | some o =>
      rcases S.grow D (by rw [z]; simp) with q | q | ⟨i, q⟩
      · exact absurd u.g q
      · exact absurd (Ob.lst u.h) q
      · exact absurd q (u.nw i)
  h := S.keep D _ u.h (fun ps z => nomatch z) u.nw
  b := u.b
  nw := fun i z => u.nw i (S.less i D z)
theorem Und.put {G H : Hp} {w : Wn} {B : Bk} {D : Addr} {acc acc' : List V} (u : Und G w H B D acc) : Und G w (upd H D (.lst acc')) B D acc' := ⟨u.g, upd_same, u.b, u.nw⟩
def lcBodyF (fe : Rho → Res D) (t : Tg) (fc : Rho → Res Bool) (own : List Nat) (x : D) (r2 : Rho) : Res (Option D) := match asgT t x r2 with
  | some r3 => (fc r3).calm fun k r4 => if k then (fe r4).calm fun y r5 => .ok (some y) (wipeR r5 own) else .ok Option.none (wipeR r4 own)
  | Option.none => .bad
/-- one turn of a comprehension's loop: the element, or nothing -/
theorem lc_turn {K : PySem.W.Frag} {B : Bk} {fe : Rho → Res D} {fc : Rho → Res Bool} {t : Tg} {own : List Nat} {x : D} {v : V} {o : Option D} {G H : Hp} {w : Wn} {r r' : Rho} {σ : L2.St} {Dl : Addr} {acc : List V} {accD : List D} {Nx : Hp → Prop} (ht : ∀ j ∈ tgIx t, j ∈ own)
    (R : RR K T B G w r (wipe σ own) H) (hx : Dq K G v x) (e : lcBodyF fe t fc own x r = .ok o r') (u : Und G w H B Dl acc) (ha : DqAll K G acc accD) (hz : acc.length < sizeLine)
    (nx : ∀ G' w' H' acc', RR K T B G' w' r' (wipe σ own) H' → Stp G w H G' w' (upd H' Dl (.lst acc)) → Und G' w' H' B Dl acc' → DqAll K G' acc' (accD ++ o.toList) → Nx H') :
    gOf K t v (wipe σ own) H fun σ2 H2 => wipe σ2 own = wipe σ own ∧ canC K T xt fc σ2 H2 fun b H3 => if b = true then canE K T xt fe σ2 H3 fun y H4 => ∃ acc, H4 Dl = some (.lst acc) ∧ acc.length < sizeLine ∧ Nx (upd H4 Dl (.lst (acc ++ [y]))) else Nx H3 := by
  unfold lcBodyF at e
  cases e1 : asgT t x r with
  | none => rw [e1] at e; cases e
  | some r3 =>
    rw [e1] at e
    replace e : ((fc r3).calm fun k r4 => if k then (fe r4).calm fun y r5 => Res.ok (some y) (wipeR r5 own) else .ok Option.none (wipeR r4 own)) = .ok o r' := e
    obtain ⟨k, r4, e2, e⟩ := calm_ok e
    refine asg_ok t R hx e1 fun σ2 w2 R2 S2 hj hl => ?_
    have hw : wipe σ2 own = wipe σ own := by
      have := wipe_eq (σ := wipe σ own) (σ2 := σ2) (vs := own) (fun j h => hj j fun z => h (ht j z)) hl
      rw [this, wipe_wipe]
    have wiped : ∀ {G' H' : Hp} {w' : Wn} {ra : Rho}, RR K T B G' w' ra σ2 H' → RR K T B G' (wclr w' own) (wipeR ra own) (wipe σ own) H' := fun R' => by
      have := R'.wipe own
      rw [hw] at this
      exact this
    refine ⟨hw, B, G, w2, r3, R2, QX.of_ok e2 fun b G3 w3 H3 R3 S3 eb => ?_⟩
    obtain rfl : b = k := eb
    have u3 := (u.step S2).step S3
    have same : ∀ {G' H' : Hp} {w' : Wn}, Stp G w H G' w' H' → Und G' w' H' B Dl acc → Stp G w H G' w' (upd H' Dl (.lst acc)) := fun {G' H' w'} S uu => by
      have : upd H' Dl (.lst acc) = H' := by
        funext q
        by_cases z : q = Dl
        · rw [z, upd_same, uu.h]
        · rw [upd_ne z]
      rw [this]; exact S
    cases b with
    | false =>
      cases e
      rw [if_neg Bool.false_ne_true]
      have S' := (S2.tr S3).tr (Stp.wipe (G := G3) (w := w3) (H := H3) own)
      have uw := u3.step (Stp.wipe (G := G3) (w := w3) (H := H3) own)
      refine nx G3 _ H3 acc (wiped R3) (same S' uw) uw ?_
      rw [Option.toList_none, List.append_nil]
      exact dps_sub (S2.tr S3).sub ha
    | true =>
      rw [if_pos rfl]
      replace e : ((fe r4).calm fun y r5 => Res.ok (some y) (wipeR r5 own)) = .ok o r' := e
      obtain ⟨y, r5, e3, e⟩ := calm_ok e
      cases e
      refine ⟨B, G3, w3, r4, R3, QX.of_ok e3 fun vy G4 w4 H4 R4 S4 dy => ?_⟩
      have dy : Dq K G4 vy y := dy
      have u4 := u3.step S4
      refine ⟨acc, u4.h, hz, ?_⟩
      have S' := ((S2.tr S3).tr S4).tr (Stp.wipe (G := G4) (w := w4) (H := H4) own)
      have uw := u4.step (Stp.wipe (G := G4) (w := w4) (H := H4) own)
      have R5 := (wiped R4).chg (o := .lst (acc ++ [vy])) uw.h uw.g uw.b uw.nw
      have S6 : Stp G w H G4 (wclr w4 own) (upd (upd H4 Dl (.lst (acc ++ [vy]))) Dl (.lst acc)) := by
        rw [upd_upd]
        exact same S' uw
      exact nx G4 _ _ (acc ++ [vy]) R5 S6 uw.put (dps_app (dps_sub (S2.tr (S3.tr S4)).sub ha) (dps_one dy))
theorem upd_back {H : Hp} {p : Addr} {o : HO} {u : HO} (h : H p = some o) : upd (upd H p u) p o = H := by
  funext q
  by_cases z : q = p
  · rw [z, upd_same, h]
  · rw [upd_ne z, upd_ne z]
theorem lcLoop2_cons {body : D → Rho → Res (List D)} {x : D} {xs ys : List D} {r r6 : Rho} (e : lcLoop2 body (x :: xs) r = .ok ys r6) : ∃ o r1 zs, body x r = .ok o r1 ∧ lcLoop2 body xs r1 = .ok zs r6 ∧ ys = o ++ zs := by
  have e : ((body x r).calm fun o r1 => (lcLoop2 body xs r1).calm fun ys r2 => .ok (o ++ ys) r2) = .ok ys r6 := e
  obtain ⟨o, r1, e1, e⟩ := calm_ok e
  obtain ⟨zs, r2, e2, e⟩ := calm_ok e
  cases e
  exact ⟨o, r1, zs, e1, e2, rfl⟩
def toL (body : D → Rho → Res (Option D)) (x : D) (r : Rho) : Res (List D) := (body x r).calm fun o r1 => .ok o.toList r1
theorem lcLoop_to {body : D → Rho → Res (Option D)} : ∀ {xs ys : List D} {r r6 : Rho}, lcLoop body xs r = .ok ys r6 → lcLoop2 (toL body) xs r = .ok ys r6
  | [], ys, r, r6, e => e
  | x :: xs, ys, r, r6, e => by
    have e : ((body x r).calm fun o r1 => (lcLoop body xs r1).calm fun ys r2 => .ok (o.toList ++ ys) r2) = .ok ys r6 := e
    obtain ⟨o, r1, e1, e⟩ := calm_ok e
    obtain ⟨zs, r2, e2, e⟩ := calm_ok e
    cases e
    show ((toL body x r).calm fun o r1 => (lcLoop2 (toL body) xs r1).calm fun ys r2 => .ok (o ++ ys) r2) = _
    unfold toL
    rw [e1]
    show ((lcLoop2 (toL body) xs r1).calm fun ys r2 => Res.ok (o.toList ++ ys) r2) = _
    rw [lcLoop_to e2]
    rfl
/-- what one turn does, under way with the list Dl -/
def Turn (K : PySem.W.Frag) (T : List (Addr × Str)) (B : Bk) (σ : L2.St) (Dl : Addr) (body : D → Rho → Res (List D)) (Goal : V → Hp → (Hp → Prop) → Prop) : Prop :=
  ∀ (x : D) (v : V) (o : List D) G w H r r' acc accD (Nx : Hp → Prop), RR K T B G w r σ H → Dq K G v x → body x r = .ok o r' → Und G w H B Dl acc → DqAll K G acc accD → (accD ++ o).length ≤ big →
    (∀ G' w' H' acc', RR K T B G' w' r' σ H' → Stp G w H G' w' (upd H' Dl (.lst acc)) → Und G' w' H' B Dl acc' → DqAll K G' acc' (accD ++ o) → Nx H') → Goal v H Nx
/-- the loop of one clause: from a state at which the new list Dl holds acc0 -/
theorem loop_run {K : PySem.W.Frag} {B : Bk} {body : D → Rho → Res (List D)} {xs : List D} {J : It} {G1 H1 : Hp} {w1 : Wn} {r1 r6 : Rho} {σ : L2.St} {Dl : Addr} {acc0 : List V} {acc0D ys : List D} {Qd : Hp → Prop} {Goal : V → Hp → (Hp → Prop) → Prop} (turn : Turn K T B σ Dl body Goal)
    (wk : Wk K T B J G1 xs) (R1 : RR K T B G1 w1 r1 σ H1) (e : lcLoop2 body xs r1 = .ok ys r6) (u : Und G1 w1 H1 B Dl acc0) (ha : DqAll K G1 acc0 acc0D) (hf : (acc0D ++ ys).length ≤ big)
    (fin : ∀ G w H acc, RR K T B G w r6 σ H → Stp G1 w1 H1 G w (upd H Dl (.lst acc0)) → Und G w H B Dl acc → DqAll K G acc (acc0D ++ ys) → Qd H) :
    ∃ W : Nat → Nat → Hp → Prop, (∃ m, W 0 m H1) ∧ ∀ i m H, W i m H →
      (J.stop i H ∧ Qd H) ∨ (J.go i H ∧ ∃ Nx : Hp → Prop, (∀ H', Nx H' → ∃ m', m' < m ∧ W (i + 1) m' H') ∧ ∀ x H', J.yld i H x H' → Goal x H' Nx) := by
  have stp0 : Stp G1 w1 H1 G1 w1 (upd H1 Dl (.lst acc0)) := by
    have : upd H1 Dl (.lst acc0) = H1 := by
      funext q
      by_cases z : q = Dl
      · rw [z, upd_same, u.h]
      · rw [upd_ne z]
    rw [this]; exact Stp.refl _ _ _
  refine ⟨fun i m H => ∃ G w r acc accD rest, i + m = xs.length ∧ RR K T B G w r σ H ∧ Stp G1 w1 H1 G w (upd H Dl (.lst acc0)) ∧ Und G w H B Dl acc ∧ DqAll K G acc accD ∧ lcLoop2 body (xs.drop i) r = .ok rest r6 ∧ accD ++ rest = acc0D ++ ys,
    ⟨xs.length, G1, w1, r1, acc0, acc0D, ys, Nat.zero_add _, R1, stp0, u, ha, e, rfl⟩, ?_⟩
  rintro i m H ⟨G, w, r, acc, accD, rest, him, R, S, un, da, er, ey⟩
  have k := wk G w r σ H R S.sub i
  cases hx : xs[i]? with
  | none =>
    refine .inl ⟨k.2 hx, ?_⟩
    have : xs.drop i = [] := List.drop_eq_nil_iff.mpr (List.getElem?_eq_none_iff.mp hx)
    rw [this] at er
    cases er
    rw [List.append_nil] at ey
    subst ey
    exact fin G w H acc R S un da
  | some x =>
    obtain ⟨go, st⟩ := k.1 x hx
    have hd : xs.drop i = x :: xs.drop (i + 1) := by
      obtain ⟨hlt, e2⟩ := List.getElem?_eq_some_iff.mp hx
      rw [← e2]
      exact List.drop_eq_getElem_cons hlt
    rw [hd] at er
    obtain ⟨o, r2, zs, e1, e2, e3⟩ := lcLoop2_cons er
    have hlt : i < xs.length := (List.getElem?_eq_some_iff.mp hx).1
    refine .inr ⟨go, fun H' => ∃ m', m' < m ∧ ∃ G w r acc accD rest, (i + 1) + m' = xs.length ∧ RR K T B G w r σ H' ∧ Stp G1 w1 H1 G w (upd H' Dl (.lst acc0)) ∧ Und G w H' B Dl acc ∧ DqAll K G acc accD ∧ lcLoop2 body (xs.drop (i + 1)) r = .ok rest r6 ∧ accD ++ rest = acc0D ++ ys, fun H' h => h, fun v H3 y => ?_⟩
    obtain ⟨G3, R3, S3, dv⟩ := st v H3 y
    have u3 := un.step S3
    have al : (accD ++ o).length ≤ big := by
      have h2 : (accD ++ rest).length ≤ big := by rw [ey]; exact hf
      rw [e3, ← List.append_assoc, List.length_append] at h2
      omega
    refine turn x v o G3 w H3 r r2 acc accD _ R3 dv e1 u3 (dps_sub S3.sub da) al fun G' w' H' acc' R' S' u' da' => ?_
    refine ⟨m - 1, by omega, G', w', r2, acc', accD ++ o, zs, by omega, R', ?_, u', da', e2, by rw [← ey, e3, List.append_assoc]⟩
    -- the step, the list aside
    refine ⟨S.sub.tr (S3.sub.tr S'.sub), fun a h => ?_, fun a o h n k => ?_, fun a h => ?_, fun j a h => S.less j a (S3.less j a (S'.less j a h))⟩
    · have q := (S3.tr S').grow a h
      rcases q with q | q | ⟨j, q⟩
      · exact S.grow a q
      · refine .inr (.inl fun nn => ?_)
        by_cases z : a = Dl
        · exact q (z ▸ Ob.lst un.h)
        · obtain ⟨u1, e1, n1⟩ := S.dom a nn
          rw [upd_ne z] at e1
          exact q ⟨u1, e1, n1⟩
      · exact .inr (.inr ⟨j, S.less j a q⟩)
    · by_cases z : a = Dl
      · rw [z] at h ⊢
        rw [upd_same]
        rw [u.h] at h
        exact h
      · have h1 := S.keep a o h n k
        rw [upd_ne z] at h1 ⊢
        have h2 := (S3.tr S').keep a o h1 n fun j q => k j (S.less j a q)
        rw [upd_ne z] at h2
        exact h2
    · by_cases z : a = Dl
      · exact ⟨.lst acc0, by rw [z, upd_same], fun ps z => nomatch z⟩
      · obtain ⟨u1, e1, n1⟩ := S.dom a h
        rw [upd_ne z] at e1
        obtain ⟨u2, e2, n2⟩ := (S3.tr S').dom a ⟨u1, e1, n1⟩
        rw [upd_ne z] at e2
        exact ⟨u2, by rw [upd_ne z]; exact e2, n2⟩
def lcGoal (K : PySem.W.Frag) (T : List (Addr × Str)) (xt : XT) (fe : Rho → Res D) (t : Tg) (fc : Rho → Res Bool) (own : List Nat) (Dl : Addr) (σ : L2.St) (v : V) (H : Hp) (Nx : Hp → Prop) : Prop := gOf K t v (wipe σ own) H fun σ2 H2 => wipe σ2 own = wipe σ own ∧ canC K T xt fc σ2 H2 fun b H3 =>
        if b = true then canE K T xt fe σ2 H3 fun y H4 => ∃ acc, H4 Dl = some (.lst acc) ∧ acc.length < sizeLine ∧ Nx (upd H4 Dl (.lst (acc ++ [y]))) else Nx H3
theorem turn_lc {K : PySem.W.Frag} {B : Bk} {fe : Rho → Res D} {fc : Rho → Res Bool} {t : Tg} {own : List Nat} {σ : L2.St} {Dl : Addr} (ht : ∀ j ∈ tgIx t, j ∈ own) : Turn K T B (wipe σ own) Dl (toL (lcBodyF fe t fc own)) (lcGoal K T xt fe t fc own Dl σ) := by
  intro x v o G w H r r' acc accD Nx R dv e u da hb nx
  unfold toL at e
  obtain ⟨o1, r1, e1, e⟩ := calm_ok e
  cases e
  refine lc_turn ht R dv e1 u da ?_ nx
  have h1 := dps_len da
  rw [List.length_append] at hb
  exact big_line (by omega)
def lcF (fi : Rho → Res (List D)) (body : D → Rho → Res (Option D)) (own : List Nat) (r : Rho) : Res D := (fi r).bind fun xs r1 =>
  (lcLoop body xs (wipeR r1 own)).calm fun ys r6 => if fits ys then .ok (.list ys) (backR r1 r6 own) else .bad
/-- a list that nothing else holds -/
def relF (K : PySem.W.Frag) (B : Bk) (G : Hp) (w : Wn) (H : Hp) (v : V) (d : D) : Prop := ∃ a vs ds, v = .ref a ∧ d = .list ds ∧ G a = none ∧ H a = some (.lst vs) ∧ ¬Ob B.H0 a ∧ (∀ i, w i ≠ some a) ∧ DqAll K G vs ds
/-- .. counted among the plain data -/
theorem QX.fresh {K : PySem.W.Frag} {B : Bk} {W : WX} {G : Hp} {w : Wn} {σ : L2.St} {H : Hp} {x : Res D} {Q : VK} (h : QX K T xt B W (relV K) G w σ H x Q) (hn : ∀ a o, H a = some o → noTbl o → True) : QX K T xt B W (fun G' w' H' v d => relF K B G' w' H' v d ∧ (∀ a, v = .ref a → ¬Ob H a)) G w σ H x Q := by
  cases x with
  | ok d r1 =>
    rintro v G1 w1 H1 R1 S1 ⟨⟨a, vs, ds, rfl, rfl, h1, h2, h3, h4, h5⟩, h6⟩
    exact h (.ref a) _ _ _ (R1.settle h2 h1 h3 h4 (ds := ds)) (S1.settle (h6 a rfl) h1) (.lst upd_same (dps_sub (Sub.new h1) h5))
  | exc _ _ _ => exact h
  | bad => exact h
abbrev relN (K : PySem.W.Frag) (B : Bk) (H0 : Hp) (G' : Hp) (w' : Wn) (H' : Hp) (v : V) (d : D) : Prop := relF K B G' w' H' v d ∧ (∀ a, v = .ref a → ¬Ob H0 a)
/-- a new list, nothing else holds it -/
def SF (T : List (Addr × Str)) (xt : XT) (X : Cx) (e : Expr) (f : Rho → Res D) : Prop := ∀ W : WX, Takes X W → ∃ t : TE, PE X e t ∧ ∀ B G w r σ H (Q : VK), RR X.K T B G w r σ H → QX X.K T xt B W (relN X.K B H) G w σ H (f r) Q → t σ H Q
theorem SF.se {f : Rho → Res D} (h : SF T xt X e f) : SE T xt X e f := fun W tk => let ⟨t, p, q⟩ := h W tk; ⟨t, p, fun B G w r σ H Q R z => q B G w r σ H Q R (z.fresh fun _ _ _ _ => trivial)⟩
theorem lc_t {ti : TI} {B : Bk} {W : WX} {fi : Rho → Res (List D)} {fe : Rho → Res D} {fc : Rho → Res Bool} {t : Tg} {own : List Nat} {G H : Hp} {w : Wn} {r : Rho} {σ : L2.St} {Q : VK} (ht : ∀ j ∈ tgIx t, j ∈ own)
    (q : ∀ B G w r σ H (R : It → Hp → Prop), RR X.K T B G w r σ H → QX X.K T xt B W (relI X.K T B) G w σ H (fi r) R → ti σ H R) (R : RR X.K T B G w r σ H)
    (z : QX X.K T xt B W (relN X.K B H) G w σ H (lcF fi (lcBodyF fe t fc own) own r) Q) : tLc ti (gOf X.K t) (canC X.K T xt fc) (canE X.K T xt fe) own σ H Q := by
  refine q _ _ _ _ _ _ _ R (z.bind fun xs r1 J G1 w1 H1 _ R1 S1 wk z1 => ?_)
  obtain ⟨ys, r6, e, z2⟩ := z1.calm
  cases hf : fits ys with
  | false => rw [hf] at z2; exact z2.elim
  | true =>
    rw [hf] at z2
    replace z2 : QX X.K T xt B W (relN X.K B H) G1 w1 σ H1 (.ok (.list ys) (backR r1 r6 own)) Q := z2
    intro Dl hD
    have wk : Wk X.K T B J G1 xs := wk
    have nD1 : ∀ i, w1 i ≠ some Dl := fun i h => by
      obtain ⟨_, _, vs, h3⟩ := R1.fre i Dl h
      rw [hD] at h3; cases h3
    have R2 := (R1.off (o := .lst []) hD).wipe own
    have u2 : Und G1 (wclr w1 own) (upd H1 Dl (.lst [])) B Dl [] := ⟨R1.gnone hD, upd_same, R1.dom0 hD, fun i h => nD1 i (wclr_le h)⟩
    refine loop_run (turn_lc (xt := xt) ht) wk R2 (lcLoop_to e) u2 .nil (by simpa using fits_le hf) fun G5 w5 H5 acc R5 S5 u5 da => ?_
    -- back in the def
    have S6 : Stp G1 (wclr w1 own) H1 G5 w5 H5 := by
      have : Stp G1 (wclr w1 own) H1 G1 (wclr w1 own) (upd H1 Dl (.lst [])) := (Stp.refl _ _ _).late (Ob.non hD)
      have := (this.tr S5).late (o := .lst acc) (Ob.non hD)
      rw [upd_back u5.h] at this
      exact this
    obtain ⟨R7, S7⟩ := RR.back R1 R5 S6
    have nD : ∀ i, (fun j => if j ∈ own then w1 j else w5 j) i ≠ some Dl := fun i h => by
      have h : (if i ∈ own then w1 i else w5 i) = some Dl := h
      split at h
      · exact nD1 i h
      · exact u5.nw i h
    have hn : ¬Ob H Dl := fun n => Ob.non hD (S1.dom Dl n)
    exact z2 (.ref Dl) _ _ _ R7 S7 ⟨⟨Dl, acc, ys, rfl, rfl, u5.g, u5.h, u5.b, nD, by simpa using da⟩, fun a e => by cases e; exact hn⟩
abbrev InBlk (X : Cx) (scope : Scope) (P : Cx → Prop) : Prop := ∀ (s : Shared) (H : Hp) (C : Addr) (cl : List (Str × Addr)) (fp : List Addr), P (X.blk s H scope (compEnvC scope cl C X.env) fp)
theorem sf_lc {elt iter : Expr} {ifs : List Expr} {scope : Scope} {own : List (Str × Nat)} {t : Tg} {fi : Rho → Res (List D)} {fe : Rho → Res D} {fc : Rho → Res Bool} (hc : X.calm = true) (hN : X.N.Nodup) (hi : SI T xt X tg iter fi) (ok : BlkOk X.N X.env.scope scope own)
    (hg : InBlk X scope fun Y => PG Y tg (gOf X.K t)) (hcnd : InBlk X scope fun Y => SC T xt Y ifs fc) (he : InBlk X scope fun Y => SE T xt Y elt fe) (ht : ∀ j ∈ tgIx t, j ∈ own.map (·.2)) (hs : ∀ x, foldedSetIterable iter X.env x = pure x) :
    SF T xt X (.ListComp elt [⟨tg, iter, ifs, 0⟩] scope p) (lcF fi (lcBodyF fe t fc (own.map (·.2))) (own.map (·.2))) := by
  intro W tk
  obtain ⟨ti, p, q⟩ := hi W tk
  exact ⟨_, pe_lc hc hN p ok hg (fun s H C cl fp => (hcnd s H C cl fp).can) (fun s H C cl fp => (he s H C cl fp).can) hs, fun B G w r σ H Q R z => lc_t ht q R z⟩
end
end Rf
set_option Elab.async false
set_option linter.all false
set_option maxRecDepth 100000
set_option maxHeartbeats 1000000
namespace Rf
open PySem PySem.Spec PyProof.Rows L2 LamX
/-! ### comprehensions of two clauses -/
def lcBody2F (fe : Rho → Res D) (t : Tg) (fc : Rho → Res Bool) (t1 : Tg) (fi1 : Rho → Res (List D)) (fc1 : Rho → Res Bool) (own own1 : List Nat) (x : D) (r2 : Rho) : Res (List D) := match asgT t x r2 with
  | some r3 => (fc r3).calm fun k r4 => if k then
      (fi1 r4).calm fun xs1 r5 => (lcLoop (lcBodyF fe t1 fc1 own1) xs1 (wipeR r5 own1)).calm fun ys r10 => .ok ys (wipeR r10 own)
    else .ok [] (wipeR r4 own)
  | Option.none => .bad
section
variable {T : List (Addr × Str)} {xt : XT} {X : Cx} {a b c e tg : Expr} {va vb vc : Rho → Res D} {p : Pos}
def lc2Goal (K : PySem.W.Frag) (T : List (Addr × Str)) (xt : XT) (fe : Rho → Res D) (t : Tg) (fc : Rho → Res Bool) (t1 : Tg) (fi1 : Rho → Res (List D)) (fc1 : Rho → Res Bool) (own own1 : List Nat) (Dl : Addr) (σ : L2.St) (v : V) (H : Hp) (Nx : Hp → Prop) : Prop := gOf K t v (wipe σ own) H fun σ2 H2 => wipe σ2 own = wipe σ own ∧ canC K T xt fc σ2 H2 fun b H3 =>
        if b = true then canI K T xt fi1 σ2 H3 fun J1 H4 => ∃ W1 : Nat → Nat → Hp → Prop, (∃ m, W1 0 m H4) ∧ ∀ j k H, W1 j k H →
          (J1.stop j H ∧ Nx H) ∨ (J1.go j H ∧ ∃ Nx1 : Hp → Prop, (∀ H', Nx1 H' → ∃ k', k' < k ∧ W1 (j + 1) k' H') ∧ ∀ x H', J1.yld j H x H' → lcGoal K T xt fe t1 fc1 own1 Dl σ2 x H' Nx1)
        else Nx H3
theorem wipe_sub {σ : L2.St} {own own1 : List Nat} (h : ∀ j ∈ own1, j ∈ own) : wipe (wipe σ own1) own = wipe σ own :=
  wipe_eq (fun j hj => wipe_out' fun z => hj (h j z)) (wipe_length _ _)
theorem turn_lc2 {K : PySem.W.Frag} {B : Bk} {fe : Rho → Res D} {fc fc1 : Rho → Res Bool} {fi1 : Rho → Res (List D)} {t t1 : Tg} {own own1 : List Nat} {σ : L2.St} {Dl : Addr} (ht : ∀ j ∈ tgIx t, j ∈ own) (ht1 : ∀ j ∈ tgIx t1, j ∈ own1) (hw1 : ∀ j ∈ own1, j ∈ own) :
    Turn K T B (wipe σ own) Dl (lcBody2F fe t fc t1 fi1 fc1 own own1) (lc2Goal K T xt fe t fc t1 fi1 fc1 own own1 Dl σ) := by
  intro x v o G w H r r' acc accD Nx R hx e u ha hz nx
  unfold lcBody2F at e
  cases e1 : asgT t x r with
  | none => rw [e1] at e; cases e
  | some r3 =>
    rw [e1] at e
    replace e : ((fc r3).calm fun k r4 => if k then (fi1 r4).calm fun xs1 r5 => (lcLoop (lcBodyF fe t1 fc1 own1) xs1 (wipeR r5 own1)).calm fun ys r10 => Res.ok ys (wipeR r10 own) else .ok [] (wipeR r4 own)) = .ok o r' := e
    obtain ⟨k, r4, e2, e⟩ := calm_ok e
    refine asg_ok t R hx e1 fun σ2 w2 R2 S2 hj hl => ?_
    have hw : wipe σ2 own = wipe σ own := by
      have := wipe_eq (σ := wipe σ own) (σ2 := σ2) (vs := own) (fun j h => hj j fun z => h (ht j z)) hl
      rw [this, wipe_wipe]
    have same : ∀ {G' H' : Hp} {w' : Wn}, Stp G w H G' w' H' → Und G' w' H' B Dl acc → Stp G w H G' w' (upd H' Dl (.lst acc)) := fun {G' H' w'} S uu => by
      have : upd H' Dl (.lst acc) = H' := by
        funext q
        by_cases z : q = Dl
        · rw [z, upd_same, uu.h]
        · rw [upd_ne z]
      rw [this]; exact S
    refine ⟨hw, B, G, w2, r3, R2, QX.of_ok e2 fun b G3 w3 H3 R3 S3 eb => ?_⟩
    obtain rfl : b = k := eb
    have u3 := (u.step S2).step S3
    cases b with
    | false =>
      cases e
      rw [if_neg Bool.false_ne_true]
      have S' := (S2.tr S3).tr (Stp.wipe (G := G3) (w := w3) (H := H3) own)
      have uw := u3.step (Stp.wipe (G := G3) (w := w3) (H := H3) own)
      have R5 := R3.wipe own
      rw [hw] at R5
      refine nx G3 _ H3 acc R5 (same S' uw) uw ?_
      rw [List.append_nil]
      exact dps_sub (S2.tr S3).sub ha
    | true =>
      rw [if_pos rfl]
      replace e : ((fi1 r4).calm fun xs1 r5 => (lcLoop (lcBodyF fe t1 fc1 own1) xs1 (wipeR r5 own1)).calm fun ys r10 => Res.ok ys (wipeR r10 own)) = .ok o r' := e
      obtain ⟨xs1, r5, e3, e⟩ := calm_ok e
      obtain ⟨ys, r10, e4, e⟩ := calm_ok e
      cases e
      refine ⟨B, G3, w3, r4, R3, QX.of_ok e3 fun J G4 w4 H4 R4 S4 wk => ?_⟩
      have wk : Wk K T B J G4 xs1 := wk
      have u4 := (u3.step S4).step (Stp.wipe (G := G4) (w := w4) (H := H4) own1)
      have S14 := (((S2.tr S3).tr S4).tr (Stp.wipe (G := G4) (w := w4) (H := H4) own1))
      refine loop_run (turn_lc (xt := xt) ht1) wk (R4.wipe own1) (lcLoop_to e4) u4 (dps_sub S14.sub ha) hz fun G5 w5 H5 acc5 R5 S5 u5 da5 => ?_
      have R6 := R5.wipe own
      rw [wipe_sub hw1, hw] at R6
      refine nx G5 _ H5 acc5 R6 ((S14.tr S5).tr (Stp.wipe own)) (u5.step (Stp.wipe (G := G5) (w := w5) (H := H5) own)) da5
def lcF2 (fi : Rho → Res (List D)) (body : D → Rho → Res (List D)) (own : List Nat) (r : Rho) : Res D := (fi r).bind fun xs r1 =>
  (lcLoop2 body xs (wipeR r1 own)).calm fun ys r6 => if fits ys then .ok (.list ys) (backR r1 r6 own) else .bad
theorem lc2_t {ti : TI} {B : Bk} {W : WX} {fi fi1 : Rho → Res (List D)} {fe : Rho → Res D} {fc fc1 : Rho → Res Bool} {t t1 : Tg} {own own1 : List Nat} {G H : Hp} {w : Wn} {r : Rho} {σ : L2.St} {Q : VK} (ht : ∀ j ∈ tgIx t, j ∈ own) (ht1 : ∀ j ∈ tgIx t1, j ∈ own1) (hw1 : ∀ j ∈ own1, j ∈ own)
    (q : ∀ B G w r σ H (R : It → Hp → Prop), RR X.K T B G w r σ H → QX X.K T xt B W (relI X.K T B) G w σ H (fi r) R → ti σ H R) (R : RR X.K T B G w r σ H)
    (z : QX X.K T xt B W (relN X.K B H) G w σ H (lcF2 fi (lcBody2F fe t fc t1 fi1 fc1 own own1) own r) Q) : tLc2 ti (gOf X.K t) (canC X.K T xt fc) (canI X.K T xt fi1) (gOf X.K t1) (canC X.K T xt fc1) (canE X.K T xt fe) own own1 σ H Q := by
  refine q _ _ _ _ _ _ _ R (z.bind fun xs r1 J G1 w1 H1 _ R1 S1 wk z1 => ?_)
  obtain ⟨ys, r6, e, z2⟩ := z1.calm
  cases hf : fits ys with
  | false => rw [hf] at z2; exact z2.elim
  | true =>
    rw [hf] at z2
    replace z2 : QX X.K T xt B W (relN X.K B H) G1 w1 σ H1 (.ok (.list ys) (backR r1 r6 own)) Q := z2
    intro Dl hD
    have wk : Wk X.K T B J G1 xs := wk
    have nD1 : ∀ i, w1 i ≠ some Dl := fun i h => by
      obtain ⟨_, _, vs, h3⟩ := R1.fre i Dl h
      rw [hD] at h3; cases h3
    have R2 := (R1.off (o := .lst []) hD).wipe own
    have u2 : Und G1 (wclr w1 own) (upd H1 Dl (.lst [])) B Dl [] := ⟨R1.gnone hD, upd_same, R1.dom0 hD, fun i h => nD1 i (wclr_le h)⟩
    refine loop_run (turn_lc2 (xt := xt) ht ht1 hw1) wk R2 e u2 .nil (by simpa using fits_le hf) fun G5 w5 H5 acc R5 S5 u5 da => ?_
    have S6 : Stp G1 (wclr w1 own) H1 G5 w5 H5 := by
      have : Stp G1 (wclr w1 own) H1 G1 (wclr w1 own) (upd H1 Dl (.lst [])) := (Stp.refl _ _ _).late (Ob.non hD)
      have := (this.tr S5).late (o := .lst acc) (Ob.non hD)
      rw [upd_back u5.h] at this
      exact this
    obtain ⟨R7, S7⟩ := RR.back R1 R5 S6
    have nD : ∀ i, (fun j => if j ∈ own then w1 j else w5 j) i ≠ some Dl := fun i h => by
      have h : (if i ∈ own then w1 i else w5 i) = some Dl := h
      split at h
      · exact nD1 i h
      · exact u5.nw i h
    have hn : ¬Ob H Dl := fun n => Ob.non hD (S1.dom Dl n)
    exact z2 (.ref Dl) _ _ _ R7 S7 ⟨⟨Dl, acc, ys, rfl, rfl, u5.g, u5.h, u5.b, nD, by simpa using da⟩, fun a e => by cases e; exact hn⟩
theorem sf_lc2 {elt iter tg1 iter1 : Expr} {ifs ifs1 : List Expr} {scope : Scope} {own : List (Str × Nat)} {own1 : List Nat} {t t1 : Tg} {fi fi1 : Rho → Res (List D)} {fe : Rho → Res D} {fc fc1 : Rho → Res Bool} (hc : X.calm = true) (hN : X.N.Nodup) (hi : SI T xt X tg iter fi) (ok : BlkOk X.N X.env.scope scope own)
    (hg : InBlk X scope fun Y => PG Y tg (gOf X.K t)) (hcnd : InBlk X scope fun Y => SC T xt Y ifs fc) (hi1 : InBlk X scope fun Y => SI T xt Y tg1 iter1 fi1) (hg1 : InBlk X scope fun Y => PG Y tg1 (gOf X.K t1)) (hcnd1 : InBlk X scope fun Y => SC T xt Y ifs1 fc1) (he : InBlk X scope fun Y => SE T xt Y elt fe)
    (ht : ∀ j ∈ tgIx t, j ∈ own.map (·.2)) (ht1 : ∀ j ∈ tgIx t1, j ∈ own1) (hw1 : ∀ j ∈ own1, j ∈ own.map (·.2)) (hs : ∀ x, foldedSetIterable iter X.env x = pure x) (hs1 : ∀ env x, foldedSetIterable iter1 env x = pure x) :
    SF T xt X (.ListComp elt [⟨tg, iter, ifs, 0⟩, ⟨tg1, iter1, ifs1, 0⟩] scope p) (lcF2 fi (lcBody2F fe t fc t1 fi1 fc1 (own.map (·.2)) own1) (own.map (·.2))) := by
  intro W tk
  obtain ⟨ti, p, q⟩ := hi W tk
  exact ⟨_, pe_lc2 hc hN p ok hw1 hg (fun s H C cl fp => (hcnd s H C cl fp).can) (fun s H C cl fp => (hi1 s H C cl fp).can) hg1 (fun s H C cl fp => (hcnd1 s H C cl fp).can) (fun s H C cl fp => (he s H C cl fp).can) hs hs1, fun B G w r σ H Q R z => lc2_t ht ht1 hw1 q R z⟩
end
end Rf
set_option Elab.async false
set_option linter.all false
set_option maxRecDepth 100000
set_option maxHeartbeats 2000000
/-! comprehensions of three clauses -/
namespace Rf
open PySem PySem.Spec PyProof.Rows L2 LamX
/-- a turn that goes on into the next clause -/
def outT (c : Expr) (j : Nat) (t i : Expr) (ifs : List Expr) (i1 : Expr) (it acc : Value) (env : Env) : Sem Fin := do
      standAt i.pos
      match ← pyNext it with
      | none => pure (.done .next)
      | some v =>
        letOwnedTupleGo t it v
        assign t env v
        let mut ok := true
        for c in ifs do
          if ok then ok ← isTrue c env (eval c env)
        if ok then
          let x ← eval i1 env
          standAt i1.pos
          let x ← foldedSetIterable i1 env x
          let _ ← runOwn (.compStart c (j + 1) (← holding [x] (pyIter x)) acc env) env
        again (.compLoop c j it acc env)
def inT (c : Expr) (j : Nat) (t i : Expr) (ifs : List Expr) (elt : Expr) (it acc : Value) (env : Env) : Sem Fin := do
      standAt i.pos
      match ← pyNext it with
      | none => pure (.done .next)
      | some v =>
        letOwnedTupleGo t it v
        assign t env v
        let mut ok := true
        for c in ifs do
          if ok then ok ← isTrue c env (eval c env)
        if ok then
          (do let _ ← call (.builtin "list.append") [acc, ← eval elt env])
        again (.compLoop c j it acc env)
section
variable {elt t0 i0 t1 i1 t2 i2 : Expr} {f0 f1 f2 : List Expr} {scope : Scope} {pos : Pos} {it acc : Value} {env : Env}
theorem ct3_0 : compTurn (.ListComp elt [⟨t0, i0, f0, 0⟩, ⟨t1, i1, f1, 0⟩, ⟨t2, i2, f2, 0⟩] scope pos) 0 it acc env = outT (.ListComp elt [⟨t0, i0, f0, 0⟩, ⟨t1, i1, f1, 0⟩, ⟨t2, i2, f2, 0⟩] scope pos) 0 t0 i0 f0 i1 it acc env := by rfl
theorem ct3_1 : compTurn (.ListComp elt [⟨t0, i0, f0, 0⟩, ⟨t1, i1, f1, 0⟩, ⟨t2, i2, f2, 0⟩] scope pos) 1 it acc env = outT (.ListComp elt [⟨t0, i0, f0, 0⟩, ⟨t1, i1, f1, 0⟩, ⟨t2, i2, f2, 0⟩] scope pos) 1 t1 i1 f1 i2 it acc env := by rfl
theorem ct3_2 : compTurn (.ListComp elt [⟨t0, i0, f0, 0⟩, ⟨t1, i1, f1, 0⟩, ⟨t2, i2, f2, 0⟩] scope pos) 2 it acc env = inT (.ListComp elt [⟨t0, i0, f0, 0⟩, ⟨t1, i1, f1, 0⟩, ⟨t2, i2, f2, 0⟩] scope pos) 2 t2 i2 f2 elt it acc env := by rfl
end
section
variable {prog : Program} {w : World} {A : Around} {R : Result → Shared → Prop} {s : Shared} {c elt t i i1 : Expr} {ifs : List Expr} {j : Nat} {it acc : Value} {env : Env}
theorem loop_out (hu : A.under (Code.compLoop c j it acc env) = A) (hd : (model prog w).den (Code.compLoop c j it acc env) = (compTurn c j it acc env).onRaise (fun x => do noteFrame x env; theTreesLotGoes x)) (hct : compTurn c j it acc env = outT c j t i ifs i1 it acc env) (hs : ∀ x, foldedSetIterable i1 env x = pure x) (I : Nat → Shared → Prop)
    (turn : ∀ n s, I n s → wpAny (model prog w) A (pyNext it) (fun r s₁ => match r with
      | none => R (.ok .next) s₁
      | some v => wpAny (model prog w) A (letOwnedTupleGo t it v) (fun _ s₁' => wpAny (model prog w) A (assign t env v) (fun _ s₂ =>
          wpAny (model prog w) A (forIn ifs true fun c r => if r = true then do let ok ← isTrue c env (eval c env); pure (ForInStep.yield ok) else pure (ForInStep.yield r)) (fun ok s₃ =>
            if ok = true then wpAny (model prog w) A (eval i1 env) (fun x s₄ => wpAny (model prog w) A (pyIter x) (fun it1 s₅ =>
              codeAny (model prog w) A (.compStart c (j + 1) it1 acc env) (fun r s' => match r with
                | .ok _ => ∃ m, m < n ∧ I m s'
                | .error _ => False) s₅) (notedBy (model prog w) A env fun e s' => R (.error e) s') s₄) (notedBy (model prog w) A env fun e s' => R (.error e) s') s₃
            else ∃ m, m < n ∧ I m s₃) (notedBy (model prog w) A env fun e s' => R (.error e) s') s₂) (notedBy (model prog w) A env fun e s' => R (.error e) s') s₁') (notedBy (model prog w) A env fun e s' => R (.error e) s') s₁) (notedBy (model prog w) A env fun e s' => R (.error e) s') s)
    (n : Nat) (h : I n s) :
    codeAny (model prog w) A (.compLoop c j it acc env) R s := by
  refine codeAny_loop rfl I (fun n s hI => ?_) n h
  rw [hu, hd]
  refine wpAny_noted ?_
  rw [hct]
  refine wpAny_bind (wpAny_standAt (wpAny_bind (wpAny_mono (turn n s hI) (fun r s₁ h₁ => ?_) fun _ _ h' => h')))
  cases r with
  | none => exact wpAny_pure h₁
  | some v =>
    refine wpAny_bind (wpAny_mono h₁ (fun _ s₁' h₁' => ?_) fun _ _ h' => h')
    refine wpAny_bind (wpAny_mono h₁' (fun _ s₂ h₂ => wpAny_bind (wpAny_mono h₂ (fun ok s₃ h₃ => ?_) fun _ _ h' => h')) fun _ _ h' => h')
    cases ok with
    | false => exact wpAny_pure ⟨rfl, h₃⟩
    | true =>
      refine wpAny_bind (wpAny_mono h₃ (fun x s₄ h₄ => ?_) fun _ _ h' => h')
      refine wpAny_bind (wpAny_standAt (wpAny_bind (wpAny_of_eq (hs x) (wpAny_bind (wpAny_holding (wpAny_mono h₄ (fun it1 s₅ h₅ => ?_) fun _ _ h' => h'))))))
      refine wpAny_bind (wpAny_runOwn ?_)
      rw [Around.mark_none]
      refine codeAny_mono h₅ fun r s' hr => ?_
      cases r with
      | ok f =>
        first
          | exact wpAny_pure ⟨rfl, hr⟩
          | exact wpAny_bind (wpAny_pure (wpAny_pure ⟨rfl, hr⟩))
      | error e => exact hr.elim
theorem loop_in (hu : A.under (Code.compLoop c j it acc env) = A) (hd : (model prog w).den (Code.compLoop c j it acc env) = (compTurn c j it acc env).onRaise (fun x => do noteFrame x env; theTreesLotGoes x)) (hct : compTurn c j it acc env = inT c j t i ifs elt it acc env) (I : Nat → Shared → Prop)
    (turn : ∀ n s, I n s → wpAny (model prog w) A (pyNext it) (fun r s₁ => match r with
      | none => R (.ok .next) s₁
      | some v => wpAny (model prog w) A (letOwnedTupleGo t it v) (fun _ s₁' => wpAny (model prog w) A (assign t env v) (fun _ s₂ =>
          wpAny (model prog w) A (forIn ifs true fun c r => if r = true then do let ok ← isTrue c env (eval c env); pure (ForInStep.yield ok) else pure (ForInStep.yield r)) (fun ok s₃ =>
            if ok = true then wpAny (model prog w) A (eval elt env) (fun x s₄ =>
              wpAny (model prog w) A (call (.builtin "list.append") [acc, x]) (fun _ s₅ => ∃ m, m < n ∧ I m s₅) (notedBy (model prog w) A env fun e s' => R (.error e) s') s₄) (notedBy (model prog w) A env fun e s' => R (.error e) s') s₃
            else ∃ m, m < n ∧ I m s₃) (notedBy (model prog w) A env fun e s' => R (.error e) s') s₂) (notedBy (model prog w) A env fun e s' => R (.error e) s') s₁') (notedBy (model prog w) A env fun e s' => R (.error e) s') s₁) (notedBy (model prog w) A env fun e s' => R (.error e) s') s)
    (n : Nat) (h : I n s) :
    codeAny (model prog w) A (.compLoop c j it acc env) R s := by
  refine codeAny_loop rfl I (fun n s hI => ?_) n h
  rw [hu, hd]
  refine wpAny_noted ?_
  rw [hct]
  refine wpAny_bind (wpAny_standAt (wpAny_bind (wpAny_mono (turn n s hI) (fun r s₁ h₁ => ?_) fun _ _ h' => h')))
  cases r with
  | none => exact wpAny_pure h₁
  | some v =>
    refine wpAny_bind (wpAny_mono h₁ (fun _ s₁' h₁' => ?_) fun _ _ h' => h')
    refine wpAny_bind (wpAny_mono h₁' (fun _ s₂ h₂ => wpAny_bind (wpAny_mono h₂ (fun ok s₃ h₃ => ?_) fun _ _ h' => h')) fun _ _ h' => h')
    cases ok with
    | false => exact wpAny_pure ⟨rfl, h₃⟩
    | true =>
      exact wpAny_bind (wpAny_bind (wpAny_mono h₃ (fun x s₄ h₄ => wpAny_bind (wpAny_mono h₄ (fun _ s₅ h₅ => wpAny_pure (wpAny_pure ⟨rfl, h₅⟩)) fun _ _ h' => h')) fun _ _ h' => h'))
end
section
variable {prog : Program} {w : World} {A : Around} {R : Result → Shared → Prop} {s : Shared} {elt t0 i0 t1 i1 t2 i2 : Expr} {f0 f1 f2 : List Expr} {scope : Scope} {pos : Pos} {it acc : Value} {env : Env}
theorem start3_1 (h0 : codeAny (model prog w) A (.compLoop (.ListComp elt [⟨t0, i0, f0, 0⟩, ⟨t1, i1, f1, 0⟩, ⟨t2, i2, f2, 0⟩] scope pos) 1 it acc env) R s)
    (h : wpAny (model prog w) A (pyIter it) (fun it' s' => codeAny (model prog w) A (.compLoop (.ListComp elt [⟨t0, i0, f0, 0⟩, ⟨t1, i1, f1, 0⟩, ⟨t2, i2, f2, 0⟩] scope pos) 1 it' acc env) R s')
      (notedBy (model prog w) A env fun x s' => R (.error x) s') s) :
    codeAny (model prog w) A (.compStart (.ListComp elt [⟨t0, i0, f0, 0⟩, ⟨t1, i1, f1, 0⟩, ⟨t2, i2, f2, 0⟩] scope pos) 1 it acc env) R s := by
  refine codeAny_of_tree ?_
  show wpAny _ _ ((compStart (.ListComp elt [⟨t0, i0, f0, 0⟩, ⟨t1, i1, f1, 0⟩, ⟨t2, i2, f2, 0⟩] scope pos) 1 it acc env).onRaise (fun x => do noteFrame x env; standAt theWindowsPlace)) _ _ s
  refine wpAny_notedAt ?_
  unfold compStart
  show wpAny _ _ (ask >>= _) _ _ s
  refine wpAny_bind (wpAny_askSetting (wpAny_ite ?_))
  split
  · first
      | exact wpAny_bind (wpAny_pure (wpAny_pure (And.intro rfl h0)))
      | exact wpAny_pure (And.intro rfl h0)
  · first
      | exact wpAny_bind (wpAny_rule (wpAny_bind (wpAny_standAt (wpAny_bind (wpAny_mono h (fun it' s' h' => wpAny_pure (And.intro rfl h')) fun _ _ x => x)))))
      | (refine wpAny_bind (wpAny_rule ?_); show wpAny _ _ (standAt i1.pos >>= _) _ _ s; exact wpAny_bind (wpAny_standAt (wpAny_bind (wpAny_mono h (fun it' s' h' => wpAny_pure (And.intro rfl h')) fun _ _ x => x))))
theorem start3_2 (h0 : codeAny (model prog w) A (.compLoop (.ListComp elt [⟨t0, i0, f0, 0⟩, ⟨t1, i1, f1, 0⟩, ⟨t2, i2, f2, 0⟩] scope pos) 2 it acc env) R s)
    (h : wpAny (model prog w) A (pyIter it) (fun it' s' => codeAny (model prog w) A (.compLoop (.ListComp elt [⟨t0, i0, f0, 0⟩, ⟨t1, i1, f1, 0⟩, ⟨t2, i2, f2, 0⟩] scope pos) 2 it' acc env) R s')
      (notedBy (model prog w) A env fun x s' => R (.error x) s') s) :
    codeAny (model prog w) A (.compStart (.ListComp elt [⟨t0, i0, f0, 0⟩, ⟨t1, i1, f1, 0⟩, ⟨t2, i2, f2, 0⟩] scope pos) 2 it acc env) R s := by
  refine codeAny_of_tree ?_
  show wpAny _ _ ((compStart (.ListComp elt [⟨t0, i0, f0, 0⟩, ⟨t1, i1, f1, 0⟩, ⟨t2, i2, f2, 0⟩] scope pos) 2 it acc env).onRaise (fun x => do noteFrame x env; standAt theWindowsPlace)) _ _ s
  refine wpAny_notedAt ?_
  unfold compStart
  show wpAny _ _ (ask >>= _) _ _ s
  refine wpAny_bind (wpAny_askSetting (wpAny_ite ?_))
  split
  · first
      | exact wpAny_bind (wpAny_pure (wpAny_pure (And.intro rfl h0)))
      | exact wpAny_pure (And.intro rfl h0)
  · first
      | exact wpAny_bind (wpAny_rule (wpAny_bind (wpAny_standAt (wpAny_bind (wpAny_mono h (fun it' s' h' => wpAny_pure (And.intro rfl h')) fun _ _ x => x)))))
      | (refine wpAny_bind (wpAny_rule ?_); show wpAny _ _ (standAt i2.pos >>= _) _ _ s; exact wpAny_bind (wpAny_standAt (wpAny_bind (wpAny_mono h (fun it' s' h' => wpAny_pure (And.intro rfl h')) fun _ _ x => x))))
end
end Rf
set_option Elab.async false
set_option linter.all false
set_option maxRecDepth 100000
set_option maxHeartbeats 2000000
namespace Rf
open PySem PySem.Spec PyProof.Rows L2 LamX
/-- the last clause: what is made goes to the list at D -/
def tIn (D : Addr) (wi : TI) (g : TG) (tt : TT) (te : TE) (vs : List Nat) : L2.St → Hp → (Hp → Prop) → Prop := fun σ H N => wi σ H fun J H1 => ∃ W : Nat → Nat → Hp → Prop, (∃ m, W 0 m H1) ∧ ∀ j k H, W j k H →
  (J.stop j H ∧ N H) ∨ (J.go j H ∧ ∃ N1 : Hp → Prop, (∀ H', N1 H' → ∃ k', k' < k ∧ W (j + 1) k' H') ∧ ∀ x H', J.yld j H x H' → g x (wipe σ vs) H' fun σ3 H5 => wipe σ3 vs = wipe σ vs ∧ tt σ3 H5 fun b H6 =>
    if b = true then te σ3 H6 fun y H7 => ∃ acc, H7 D = some (.lst acc) ∧ acc.length < sizeLine ∧ N1 (upd H7 D (.lst (acc ++ [y]))) else N1 H6)
/-- a clause with another behind it -/
def tOut (wi : TI) (g : TG) (tt : TT) (B : L2.St → Hp → (Hp → Prop) → Prop) (vs : List Nat) : L2.St → Hp → (Hp → Prop) → Prop := fun σ H N => wi σ H fun J H1 => ∃ W : Nat → Nat → Hp → Prop, (∃ m, W 0 m H1) ∧ ∀ j k H, W j k H →
  (J.stop j H ∧ N H) ∨ (J.go j H ∧ ∃ N1 : Hp → Prop, (∀ H', N1 H' → ∃ k', k' < k ∧ W (j + 1) k' H') ∧ ∀ x H', J.yld j H x H' → g x (wipe σ vs) H' fun σ3 H5 => wipe σ3 vs = wipe σ vs ∧ tt σ3 H5 fun b H6 =>
    if b = true then B σ3 H6 N1 else N1 H6)
/-- the clause's source and loop, as it stands within the clause before -/
def Runs (X : Cx) (i : Expr) (c : Expr) (j : Nat) (D : Addr) (B : L2.St → Hp → (Hp → Prop) → Prop) (vs : List Nat) : Prop := ∀ (pins : List (Addr × Obj)) (s : Shared) (σ : L2.St) (H : Hp) (N : Hp → Prop) (R : Shared → Prop), Inv X pins σ H s → B σ H N → (∀ s' H', Inv X pins (wipe σ vs) H' s' → N H' → R s') →
  wpAny (model X.prog X.w) X.A (eval i X.env) (fun x s₄ => wpAny (model X.prog X.w) X.A (pyIter x) (fun it1 s₅ => codeAny (model X.prog X.w) X.A (.compStart c j it1 (.ref D) X.env) (fun r s' => match r with
    | .ok _ => R s'
    | .error _ => False) s₅) (fun _ _ => False) s₄) (fun _ _ => False) s
section
variable {X : Cx} {c elt t i i1 : Expr} {ifs : List Expr} {j : Nat} {D : Addr} {wi : TI} {g : TG} {tt : TT} {te : TE} {vs vs2 : List Nat} {B : L2.St → Hp → (Hp → Prop) → Prop}
theorem lv_in (hc : X.calm = true) (hx : X.xe = fun _ _ => False)
    (hu : ∀ it, X.A.under (Code.compLoop c j it (.ref D) X.env) = X.A) (hd : ∀ it, (model X.prog X.w).den (Code.compLoop c j it (.ref D) X.env) = (compTurn c j it (.ref D) X.env).onRaise (fun x => do noteFrame x X.env; theTreesLotGoes x))
    (hct : ∀ it, compTurn c j it (.ref D) X.env = inT c j t i ifs elt it (.ref D) X.env)
    (hst : ∀ it R s, codeAny (model X.prog X.w) X.A (.compLoop c j it (.ref D) X.env) R s → wpAny (model X.prog X.w) X.A (pyIter it) (fun it' s' => codeAny (model X.prog X.w) X.A (.compLoop c j it' (.ref D) X.env) R s') (notedBy (model X.prog X.w) X.A X.env fun x s' => R (.error x) s') s → codeAny (model X.prog X.w) X.A (.compStart c j it (.ref D) X.env) R s)
    (pi1 : PI X t i wi) (pg1 : PG X t g) (pt1 : PTs X ifs tt) (pe : PE X elt te) : Runs X i c j D (tIn D wi g tt te vs) vs := by
  intro pins s9 σ8 H9 N R I9 q9 fin
  have q := pi1.run pins s9 σ8 H9 _ I9 q9
  rw [hx] at q
  refine wpAny_mono q (fun xv s10 hx1 => wpAny_mono hx1 (fun itv s11 h11 => ?_) fun _ _ e => e) fun _ _ e => e
  obtain ⟨it1, fp1, tn1, J1, H11, e1, I11, T1, st11, f11, W1, ⟨m1, w1⟩, turn1⟩ := h11
  subst e1
  have stat1 : ∀ {H' : Hp}, (∀ b ∈ fp1, H' b = none) → ∀ b ∈ fp1, FpOk X pins H' b := fun hn b hb => ⟨hn b hb, (f11 b hb).2⟩
  have loop1 : codeAny (model X.prog X.w) X.A (.compLoop c j (.ref it1) (.ref D) X.env) (fun r s' => match r with
      | .ok _ => R s'
      | .error _ => False) s11 := by
    refine loop_in (hu _) (hd _) (hct _) (fun k s' => ∃ j H', Inv X pins (wipe σ8 vs) H' s' ∧ tn1 j s'.heap ∧ (∀ b ∈ fp1, H' b = none) ∧ W1 j k H') ?_ m1 ⟨0, H11, I11.weak (wipe_length _ _) (fun j v e => (wipe_some e).1), st11, fun b hb => (f11 b hb).1, w1⟩
    rintro k s12 ⟨j, H12, I12, st12, n12, w12⟩
    rcases turn1 j k H12 w12 with ⟨stop1, nx1⟩ | ⟨go1, Nx1, hNx1, step1⟩
    · refine thnF (T1.done X rfl rfl rfl hc j _ s12 (wipe σ8 vs) H12 (fun _ _ => False) I12 (stat1 n12) st12 stop1) fun r s13 ⟨hr, I13⟩ => ?_
      subst hr
      exact fin _ _ I13 nx1
    · refine thnF (T1.item X rfl rfl rfl hc j _ s12 (wipe σ8 vs) H12 (fun _ _ => False) I12 (stat1 n12) st12 go1) fun r s13 ⟨u1, hr, h13⟩ => ?_
      subst hr
      refine thnF h13 fun _ s14 ⟨x1, H14, I14, r14, y14, st14, n14⟩ => ?_
      have I14' := I14.pinned (stat1 n14) (T1.obj _ _ st14)
      have k15 := pg1.run _ s14 (wipe σ8 vs) H14 x1 u1 _ I14' r14 (step1 x1 H14 y14)
      rw [hx] at k15
      refine thnF k15 fun _ s15 ⟨σ15, H15, I15, hw15, q15⟩ => ?_
      have k16 := pt1.run _ s15 σ15 H15 _ I15 q15
      rw [hx] at k16
      refine thnF k16 fun b1 s16 ⟨H16, I16, q16⟩ => ?_
      have fin1 : ∀ {s' : Shared} {H' : Hp}, Inv X (pins ++ pinsAt fp1 s14.heap) σ15 H' s' → Nx1 H' → ∃ m, m < k ∧ ∃ j H', Inv X pins (wipe σ8 vs) H' s' ∧ tn1 j s'.heap ∧ (∀ b ∈ fp1, H' b = none) ∧ W1 j m H' := fun {s' H'} I' nx => by
        obtain ⟨m', hm, w'⟩ := hNx1 H' nx
        have pin' : ∀ b ∈ fp1, ∀ o, s14.heap.get? b = some o → s'.heap.get? b = some o ∧ H' b = none := fun b hb o e =>
          let z := I'.pin (b, o) (List.mem_append_right _ (List.mem_append_right _ (mem_pinsAt hb e)))
          ⟨z.1, z.2.1⟩
        refine ⟨m', hm, j + 1, H', I'.unpinned.weak (by rw [← hw15, wipe_length]) (fun j v e => by rw [← hw15] at e; exact (wipe_some e).1), T1.keep _ _ _ st14 fun b hb o e => (pin' b hb o e).1, fun b hb => ?_, w'⟩
        obtain ⟨o, e, _⟩ := T1.obj _ _ st14 b hb
        exact (pin' b hb o e).2
      cases b1 with
      | false =>
        simp only [Bool.false_eq_true, if_false] at q16 ⊢
        exact fin1 I16 q16
      | true =>
        simp only [if_true] at q16 ⊢
        have k17 := pe.run _ s16 σ15 H16 _ I16 q16
        rw [hx] at k17
        refine thnF k17 fun z s17 ⟨yv, H17, I17, r17, acc, hD17, hz17, nx⟩ => ?_
        exact app_ok (X := X) I17 hD17 hz17 r17 fun s18 I18 => fin1 I18 nx
  exact hst _ _ _ loop1 (T1.self X.A 0 _ _ _ st11 loop1)
theorem lv_out (hc : X.calm = true) (hx : X.xe = fun _ _ => False)
    (hu : ∀ it, X.A.under (Code.compLoop c j it (.ref D) X.env) = X.A) (hd : ∀ it, (model X.prog X.w).den (Code.compLoop c j it (.ref D) X.env) = (compTurn c j it (.ref D) X.env).onRaise (fun x => do noteFrame x X.env; theTreesLotGoes x))
    (hct : ∀ it, compTurn c j it (.ref D) X.env = outT c j t i ifs i1 it (.ref D) X.env) (hs : ∀ x, foldedSetIterable i1 X.env x = pure x)
    (hst : ∀ it R s, codeAny (model X.prog X.w) X.A (.compLoop c j it (.ref D) X.env) R s → wpAny (model X.prog X.w) X.A (pyIter it) (fun it' s' => codeAny (model X.prog X.w) X.A (.compLoop c j it' (.ref D) X.env) R s') (notedBy (model X.prog X.w) X.A X.env fun x s' => R (.error x) s') s → codeAny (model X.prog X.w) X.A (.compStart c j it (.ref D) X.env) R s)
    (pi1 : PI X t i wi) (pg1 : PG X t g) (pt1 : PTs X ifs tt) (hv : ∀ b ∈ vs2, b ∈ vs) (body : Runs X i1 c (j + 1) D B vs2) : Runs X i c j D (tOut wi g tt B vs) vs := by
  intro pins s9 σ8 H9 N R I9 q9 fin
  have q := pi1.run pins s9 σ8 H9 _ I9 q9
  rw [hx] at q
  refine wpAny_mono q (fun xv s10 hx1 => wpAny_mono hx1 (fun itv s11 h11 => ?_) fun _ _ e => e) fun _ _ e => e
  obtain ⟨it1, fp1, tn1, J1, H11, e1, I11, T1, st11, f11, W1, ⟨m1, w1⟩, turn1⟩ := h11
  subst e1
  have stat1 : ∀ {H' : Hp}, (∀ b ∈ fp1, H' b = none) → ∀ b ∈ fp1, FpOk X pins H' b := fun hn b hb => ⟨hn b hb, (f11 b hb).2⟩
  have loop1 : codeAny (model X.prog X.w) X.A (.compLoop c j (.ref it1) (.ref D) X.env) (fun r s' => match r with
      | .ok _ => R s'
      | .error _ => False) s11 := by
    refine loop_out (hu _) (hd _) (hct _) hs (fun k s' => ∃ j H', Inv X pins (wipe σ8 vs) H' s' ∧ tn1 j s'.heap ∧ (∀ b ∈ fp1, H' b = none) ∧ W1 j k H') ?_ m1 ⟨0, H11, I11.weak (wipe_length _ _) (fun j v e => (wipe_some e).1), st11, fun b hb => (f11 b hb).1, w1⟩
    rintro k s12 ⟨j, H12, I12, st12, n12, w12⟩
    rcases turn1 j k H12 w12 with ⟨stop1, nx1⟩ | ⟨go1, Nx1, hNx1, step1⟩
    · refine thnF (T1.done X rfl rfl rfl hc j _ s12 (wipe σ8 vs) H12 (fun _ _ => False) I12 (stat1 n12) st12 stop1) fun r s13 ⟨hr, I13⟩ => ?_
      subst hr
      exact fin _ _ I13 nx1
    · refine thnF (T1.item X rfl rfl rfl hc j _ s12 (wipe σ8 vs) H12 (fun _ _ => False) I12 (stat1 n12) st12 go1) fun r s13 ⟨u1, hr, h13⟩ => ?_
      subst hr
      refine thnF h13 fun _ s14 ⟨x1, H14, I14, r14, y14, st14, n14⟩ => ?_
      have I14' := I14.pinned (stat1 n14) (T1.obj _ _ st14)
      have k15 := pg1.run _ s14 (wipe σ8 vs) H14 x1 u1 _ I14' r14 (step1 x1 H14 y14)
      rw [hx] at k15
      refine thnF k15 fun _ s15 ⟨σ15, H15, I15, hw15, q15⟩ => ?_
      have k16 := pt1.run _ s15 σ15 H15 _ I15 q15
      rw [hx] at k16
      refine thnF k16 fun b1 s16 ⟨H16, I16, q16⟩ => ?_
      have fin1 : ∀ {σ9 : L2.St} {s' : Shared} {H' : Hp}, Inv X (pins ++ pinsAt fp1 s14.heap) σ9 H' s' → (wipe σ8 vs).length = σ9.length → (∀ (j : Nat) v, (wipe σ8 vs)[j]? = some (some v) → σ9[j]? = some (some v)) → Nx1 H' → ∃ m, m < k ∧ ∃ j H', Inv X pins (wipe σ8 vs) H' s' ∧ tn1 j s'.heap ∧ (∀ b ∈ fp1, H' b = none) ∧ W1 j m H' := fun {σ9 s' H'} I' hl hk nx => by
        obtain ⟨m', hm, w'⟩ := hNx1 H' nx
        have pin' : ∀ b ∈ fp1, ∀ o, s14.heap.get? b = some o → s'.heap.get? b = some o ∧ H' b = none := fun b hb o e =>
          let z := I'.pin (b, o) (List.mem_append_right _ (List.mem_append_right _ (mem_pinsAt hb e)))
          ⟨z.1, z.2.1⟩
        refine ⟨m', hm, j + 1, H', I'.unpinned.weak hl hk, T1.keep _ _ _ st14 fun b hb o e => (pin' b hb o e).1, fun b hb => ?_, w'⟩
        obtain ⟨o, e, _⟩ := T1.obj _ _ st14 b hb
        exact (pin' b hb o e).2
      have hl15 : (wipe σ8 vs).length = σ15.length := by rw [← hw15, wipe_length]
      have hk15 : ∀ (j : Nat) v, (wipe σ8 vs)[j]? = some (some v) → σ15[j]? = some (some v) := fun j v e => by
        rw [← hw15] at e
        exact (wipe_some e).1
      have hk16 : ∀ (j : Nat) v, (wipe σ8 vs)[j]? = some (some v) → (wipe σ15 vs2)[j]? = some (some v) := fun j v e => by
        rw [← hw15] at e
        obtain ⟨e1, e2⟩ := wipe_some e
        rw [wipe_out fun z => e2 (hv j z)]
        exact e1
      cases b1 with
      | false =>
        simp only [Bool.false_eq_true, if_false] at q16 ⊢
        exact fin1 I16 hl15 hk15 q16
      | true =>
        simp only [if_true] at q16 ⊢
        refine thnF (body _ s16 σ15 H16 Nx1 (fun s' => ∃ m, m < k ∧ ∃ j H', Inv X pins (wipe σ8 vs) H' s' ∧ tn1 j s'.heap ∧ (∀ b ∈ fp1, H' b = none) ∧ W1 j m H') I16 q16 fun s' H' I' nx => fin1 I' (hl15.trans (wipe_length _ _).symm) hk16 nx) fun x s17 h17 => ?_
        exact thnF h17 fun it1 s18 h18 => h18
  exact hst _ _ _ loop1 (T1.self X.A 0 _ _ _ st11 loop1)
end
end Rf
set_option Elab.async false
set_option linter.all false
set_option maxRecDepth 100000
set_option maxHeartbeats 2000000
namespace Rf
open PySem PySem.Spec PyProof.Rows L2 LamX
section
variable {X : Cx}
/-- the first clause of three, the others' loops told by B -/
def tLc3 (wi : TI) (g : TG) (tt : TT) (B : Addr → L2.St → Hp → (Hp → Prop) → Prop) (vs : List Nat) : TE := fun σ H Q => wi σ H fun J H1 => ∀ D, H1 D = none → ∃ W : Nat → Nat → Hp → Prop, (∃ m, W 0 m (upd H1 D (.lst []))) ∧ ∀ i m H, W i m H →
  (J.stop i H ∧ Q (.ref D) H) ∨ (J.go i H ∧ ∃ Nx : Hp → Prop, (∀ H', Nx H' → ∃ m', m' < m ∧ W (i + 1) m' H') ∧ ∀ x H', J.yld i H x H' → g x (wipe σ vs) H' fun σ2 H2 => wipe σ2 vs = wipe σ vs ∧ tt σ2 H2 fun b H3 =>
    if b = true then B D σ2 H3 Nx else Nx H3)
theorem lc3_core {pins : List (Addr × Obj)} {s : Shared} {σ : L2.St} {H : Hp} {Q : VK} {elt tg iter tg1 iter1 tg2 iter2 : Expr} {ifs ifs1 ifs2 : List Expr} {scope : Scope} {own : List (Str × Nat)} {vs1 : List Nat} {pos pos' : Pos} {wi : TI} {g : TG} {tt : TT} {B : Addr → L2.St → Hp → (Hp → Prop) → Prop} {use : Option (Value → Sem Unit)} {Qf : Value → Shared → Prop}
    (hc : X.calm = true) (hN : X.N.Nodup) (I : Inv X pins σ H s) (hi : PI X tg iter wi) (ok : BlkOk X.N X.env.scope scope own) (hv : ∀ i ∈ vs1, i ∈ own.map (·.2))
    (hg : ∀ (s : Shared) (H : Hp) (C : Addr) (cl : List (Str × Addr)) (fp : List Addr), PG (X.blk s H scope (compEnvC scope cl C X.env) fp) tg g) (ht : ∀ (s : Shared) (H : Hp) (C : Addr) (cl : List (Str × Addr)) (fp : List Addr), PTs (X.blk s H scope (compEnvC scope cl C X.env) fp) ifs tt)
    (hs : ∀ x, foldedSetIterable iter X.env x = pure x) (hs1 : ∀ env x, foldedSetIterable iter1 env x = pure x)
    (body : ∀ (s : Shared) (H : Hp) (C : Addr) (cl : List (Str × Addr)) (fp : List Addr) (D : Addr), Runs (X.blk s H scope (compEnvC scope cl C X.env) fp) iter1 (.ListComp elt [⟨tg, iter, ifs, 0⟩, ⟨tg1, iter1, ifs1, 0⟩, ⟨tg2, iter2, ifs2, 0⟩] scope pos) 1 D (B D) vs1)
    (h : tLc3 wi g tt B (own.map (·.2)) σ H Q)
    (hRR : ∀ D C s' m H', Inv X pins σ H' s' → Q (.ref D) H' → s'.heap.Ns C m → FpOk X pins H' C → compPost (model X.prog X.w) X.A X.xe use Qf (.ref D) C (.ok .next) s') :
    wpAny (model X.prog X.w) X.A (comprehension (.ListComp elt [⟨tg, iter, ifs, 0⟩, ⟨tg1, iter1, ifs1, 0⟩, ⟨tg2, iter2, ifs2, 0⟩] scope pos) scope X.env pos' (newList []) false (eval iter X.env) use) Qf X.xe s := by
  have hfree : ∀ y ∈ scope.names, y.2 = .free → ∃ c, X.env.cells.lookup y.1 = some c := fun y hy e => by
    rcases ok.free y hy e with k | k
    · exact I.ok.has _ (.inl k)
    · exact I.ok.has _ (.inr k)
  refine wpAny_comprehension_free (use := use) rfl hs (closure_ok hfree) ok.kind (fun y hy e => by rw [ok.uniq y hy, e])
    (thn (hi.run pins s σ H _ I h) fun xv s1 hx => thn hx fun itv s2 h2 => ?_)
  obtain ⟨it, fp, tn, J, H2, e, I2, T, st2, f2, q⟩ := h2
  subst e
  refine wpAny_newObj_type (newEnv_comp ?_) (by show 0 ≤ sizeLine; decide)
  generalize hD : s2.heap.objs.size = D
  have hDn : H2 D = none := I2.hok.fresh (Nat.le_of_eq hD)
  obtain ⟨W, ⟨m0, w0⟩, turn⟩ := q D hDn
  -- the new list
  generalize hs3 : ({ s2 with heap := s2.heap.push { cls := .type "list", data := .seq ([] : List Value).toArray } } : Shared) = s3
  have I3 : Inv X pins σ (upd H2 D (.lst [])) s3 := by
    rw [← hs3]
    refine I2.laid (t' := s2.toks) (fun b o e => Heap.get?_push_of_some _ e) (Nat.le_of_eq hD) ⟨Nat.zero_le _, [], 0, .nil, ?_⟩
    rw [← hD]
    exact Heap.get?_push_size _ rfl
  have h3 : s3.heap = s2.heap.push { cls := .type "list", data := .seq ([] : List Value).toArray } := by rw [← hs3]
  have sz : ∀ b ∈ fp, b < s2.heap.objs.size := fun b hb => by
    obtain ⟨o, e, _⟩ := T.obj _ _ st2 b hb
    exact Heap.lt_size e
  have f3 : ∀ b ∈ fp, FpOk X pins (upd H2 D (.lst [])) b ∧ b < s3.heap.objs.size := fun b hb => by
    have hlt := sz b hb
    refine ⟨⟨?_, (f2 b hb).2⟩, by rw [h3, Heap.size_push]; exact Nat.lt_succ_of_lt hlt⟩
    rw [upd_ne (by rw [← hD]; exact Nat.ne_of_lt hlt)]
    exact (f2 b hb).1
  have st3 : tn 0 s3.heap := T.keep _ _ _ st2 fun b _ o e => by rw [h3]; exact Heap.get?_push_of_some _ e
  have I4 := block_start I3 ok hN f3
  have pg := hg s3 (upd H2 D (.lst [])) s3.heap.objs.size (cellsFrom (s3.heap.objs.size + 1) scope.names (cloFrom X.env.cells scope.names [])) fp
  have pt := ht s3 (upd H2 D (.lst [])) s3.heap.objs.size (cellsFrom (s3.heap.objs.size + 1) scope.names (cloFrom X.env.cells scope.names [])) fp
  have bd := body s3 (upd H2 D (.lst [])) s3.heap.objs.size (cellsFrom (s3.heap.objs.size + 1) scope.names (cloFrom X.env.cells scope.names [])) fp D
  show codeAny _ _ (.compStart (.ListComp elt [⟨tg, iter, ifs, 0⟩, ⟨tg1, iter1, ifs1, 0⟩, ⟨tg2, iter2, ifs2, 0⟩] scope pos) 0 (.ref it) (.ref D) (compEnvC scope (cellsFrom (s3.heap.objs.size + 1) scope.names (cloFrom X.env.cells scope.names [])) s3.heap.objs.size X.env)) (compPost (model X.prog X.w) X.A X.xe use Qf (.ref D) s3.heap.objs.size) { s3 with heap := pushCells (s3.heap.push { cls := .type "dict", data := .dict #[] }) scope.names }
  have nfp : ∀ b ∈ fp, (upd H2 D (.lst [])) b = none := fun b hb => (f3 b hb).1.1
  generalize hce : compEnvC scope (cellsFrom (s3.heap.objs.size + 1) scope.names (cloFrom X.env.cells scope.names [])) s3.heap.objs.size X.env = ce at I4 pg pt bd ⊢
  have cL : ce.locals = s3.heap.objs.size := by subst hce; rfl
  generalize hH3 : upd H2 D (.lst []) = H3 at I3 I4 pg pt bd w0 nfp f3
  generalize hs4 : ({ s3 with heap := pushCells (s3.heap.push { cls := .type "dict", data := .dict #[] }) scope.names } : Shared) = s4 at I4 ⊢
  have st4 : tn 0 s4.heap := T.keep _ _ _ st3 fun b _ o e => by rw [← hs4]; exact pushCells_keeps _ _ _ _ (Heap.get?_push_of_some _ e)
  have stat : ∀ {σ' : L2.St} {H' : Hp} {s' : Shared}, Inv (X.blk s3 H3 scope ce fp) [] σ' H' s' → (∀ b ∈ fp, H' b = none) → ∀ b ∈ fp, FpOk (X.blk s3 H3 scope ce fp) [] H' b := fun {σ' H' s'} I' hn b hb =>
    ⟨hn b hb, (I'.ok.exf b hb).1, I'.ok.exfs b hb, .inl hb, fun x c e => (I'.ok.exf b hb).2 x c e, fun p hp => absurd (show p ∈ ([] : List (Addr × Obj)) ++ [] from hp) (by simp)⟩
  have loop : codeAny (model X.prog X.w) X.A (.compLoop (.ListComp elt [⟨tg, iter, ifs, 0⟩, ⟨tg1, iter1, ifs1, 0⟩, ⟨tg2, iter2, ifs2, 0⟩] scope pos) 0 (.ref it) (.ref D) ce) (compPost (model X.prog X.w) X.A X.xe use Qf (.ref D) s3.heap.objs.size) s4 := by
    refine loop_out rfl rfl ct3_0 (hs1 ce) (fun n s' => ∃ i H', Inv (X.blk s3 H3 scope ce fp) [] (wipe σ (own.map (·.2))) H' s' ∧ tn i s'.heap ∧ (∀ b ∈ fp, H' b = none) ∧ W i n H') ?_ m0 ⟨0, H3, I4, st4, nfp, w0⟩
    rintro n s5 ⟨i, H5, I5, st5, n5, w5⟩
    rcases turn i n H5 w5 with ⟨stop, qq⟩ | ⟨go, Nx, hNx, step⟩
    · have td := T.done (X.blk s3 H3 scope ce fp) rfl rfl rfl hc i [] s5 _ H5 (fun _ _ => False) I5 (stat I5 n5) st5 stop
      refine thnF td fun r s6 ⟨hr, I6⟩ => ?_
      subst hr
      -- back in the def's context
      have I7 : Inv X pins σ H5 s6 := I3.call' (ch := fp) I6.os I6.base I6.hok I6.bare fun b hb => ⟨(f3 b hb).1.2.2.2.1, (f3 b hb).1.2.1, (f3 b hb).1.2.2.2.2.1, (f3 b hb).1.2.2.2.2.2⟩
      have nC : H5 s3.heap.objs.size = none := by
        have z : H5 ce.locals = none := I6.free
        rw [cL] at z
        exact z
      obtain ⟨m, hn, _⟩ := I6.loc
      have hn : s6.heap.Ns ce.locals m := hn
      rw [cL] at hn
      exact hRR D s3.heap.objs.size s6 m H5 I7 qq hn (I3.fpOk (Nat.le_refl _) nC)
    · have ti := T.item (X.blk s3 H3 scope ce fp) rfl rfl rfl hc i [] s5 _ H5 (fun _ _ => False) I5 (stat I5 n5) st5 go
      refine thnF ti fun r s6 ⟨u, hr, h6⟩ => ?_
      subst hr
      refine thnF h6 fun _ s7 ⟨x, H7, I7, r7, y7, st7, n7⟩ => ?_
      have I7' := I7.pinned (stat I7 n7) (T.obj _ _ st7)
      refine thnF (pg.run _ s7 _ H7 x u _ I7' r7 (step x H7 y7)) fun _ s8 ⟨σ8, H8, I8, hw8, q8⟩ => ?_
      refine thnF (pt.run _ s8 σ8 H8 _ I8 q8) fun b s9 ⟨H9, I9, q9⟩ => ?_
      -- the turn's end, from any slots that know what the block knew at its start
      have fin : ∀ {σ9 : L2.St} {s' : Shared} {H' : Hp}, Inv (X.blk s3 H3 scope ce fp) ([] ++ pinsAt fp s7.heap) σ9 H' s' → (wipe σ (own.map (·.2))).length = σ9.length → (∀ (j : Nat) v, (wipe σ (own.map (·.2)))[j]? = some (some v) → σ9[j]? = some (some v)) → Nx H' →
          ∃ m, m < n ∧ ∃ i H', Inv (X.blk s3 H3 scope ce fp) [] (wipe σ (own.map (·.2))) H' s' ∧ tn i s'.heap ∧ (∀ b ∈ fp, H' b = none) ∧ W i m H' := fun {σ9 s' H'} I' hl hk nx => by
        obtain ⟨m', hm, w'⟩ := hNx H' nx
        have pin' : ∀ b ∈ fp, ∀ o, s7.heap.get? b = some o → s'.heap.get? b = some o ∧ H' b = none := fun b hb o e =>
          let z := I'.pin (b, o) (List.mem_append_right _ (List.mem_append_right _ (mem_pinsAt hb e)))
          ⟨z.1, z.2.1⟩
        refine ⟨m', hm, i + 1, H', (I'.unpinned (pins := [])).weak hl hk, T.keep _ _ _ st7 fun b hb o e => (pin' b hb o e).1, fun b hb => ?_, w'⟩
        obtain ⟨o, e, _⟩ := T.obj _ _ st7 b hb
        exact (pin' b hb o e).2
      have hl8 : (wipe σ (own.map (·.2))).length = σ8.length := by rw [← hw8, wipe_length]
      have hk8 : ∀ (j : Nat) v, (wipe σ (own.map (·.2)))[j]? = some (some v) → σ8[j]? = some (some v) := fun j v e => by
        rw [← hw8] at e
        exact (wipe_some e).1
      have hk9 : ∀ (j : Nat) v, (wipe σ (own.map (·.2)))[j]? = some (some v) → (wipe σ8 vs1)[j]? = some (some v) := fun j v e => by
        rw [← hw8] at e
        obtain ⟨e1, e2⟩ := wipe_some e
        rw [wipe_out fun z => e2 (hv j z)]
        exact e1
      cases b with
      | false =>
        simp only [Bool.false_eq_true, if_false] at q9 ⊢
        exact fin I9 hl8 hk8 q9
      | true =>
        simp only [if_true] at q9 ⊢
        refine thnF (bd _ s9 σ8 H9 Nx (fun s' => ∃ m, m < n ∧ ∃ i H', Inv (X.blk s3 H3 scope ce fp) [] (wipe σ (own.map (·.2))) H' s' ∧ tn i s'.heap ∧ (∀ b ∈ fp, H' b = none) ∧ W i m H') I9 q9 fun s' H' I' nx => fin I' (hl8.trans (wipe_length σ8 vs1).symm) hk9 nx) fun x s10 h10 => ?_
        exact thnF h10 fun it1 s11 h11 => h11
  exact codeAny_compStart_list loop (T.self X.A 0 _ _ _ st4 loop)
/-- as a value -/
theorem pe_lc3 {elt tg iter tg1 iter1 tg2 iter2 : Expr} {ifs ifs1 ifs2 : List Expr} {scope : Scope} {own : List (Str × Nat)} {vs1 : List Nat} {pos : Pos} {wi : TI} {g : TG} {tt : TT} {B : Addr → L2.St → Hp → (Hp → Prop) → Prop} (hc : X.calm = true) (hN : X.N.Nodup) (hi : PI X tg iter wi) (ok : BlkOk X.N X.env.scope scope own) (hv : ∀ i ∈ vs1, i ∈ own.map (·.2))
    (hg : ∀ (s : Shared) (H : Hp) (C : Addr) (cl : List (Str × Addr)) (fp : List Addr), PG (X.blk s H scope (compEnvC scope cl C X.env) fp) tg g) (ht : ∀ (s : Shared) (H : Hp) (C : Addr) (cl : List (Str × Addr)) (fp : List Addr), PTs (X.blk s H scope (compEnvC scope cl C X.env) fp) ifs tt)
    (hs : ∀ x, foldedSetIterable iter X.env x = pure x) (hs1 : ∀ env x, foldedSetIterable iter1 env x = pure x)
    (body : ∀ (s : Shared) (H : Hp) (C : Addr) (cl : List (Str × Addr)) (fp : List Addr) (D : Addr), Runs (X.blk s H scope (compEnvC scope cl C X.env) fp) iter1 (.ListComp elt [⟨tg, iter, ifs, 0⟩, ⟨tg1, iter1, ifs1, 0⟩, ⟨tg2, iter2, ifs2, 0⟩] scope pos) 1 D (B D) vs1) :
    PE X (.ListComp elt [⟨tg, iter, ifs, 0⟩, ⟨tg1, iter1, ifs1, 0⟩, ⟨tg2, iter2, ifs2, 0⟩] scope pos) (tLc3 wi g tt B (own.map (·.2))) := by
  refine ⟨fun pins s σ H Q I h => ?_⟩
  rw [eval_ListComp]
  refine lc3_core hc hN I hi ok hv hg ht hs hs1 body h fun D C s' m H' I' q hn f => ⟨m, hn, fun h'' sb => ?_⟩
  obtain ⟨f0, f1, f2, f3, f4, f5⟩ := f
  exact ⟨.ref D, H', I'.turned (t' := s'.toks) (fun b o hb e => (sb.2 b hb).trans e) f0 f1 f3 f4 f5, rfl, q⟩
end
end Rf
set_option Elab.async false
set_option linter.all false
set_option maxRecDepth 100000
set_option maxHeartbeats 1000000
namespace Rf
open PySem PySem.Spec PyProof.Rows L2 LamX
def lcBody3F (fe : Rho → Res D) (t : Tg) (fc : Rho → Res Bool) (t1 : Tg) (fi1 : Rho → Res (List D)) (fc1 : Rho → Res Bool) (t2 : Tg) (fi2 : Rho → Res (List D)) (fc2 : Rho → Res Bool) (own own1 own2 : List Nat) (x : D) (r2 : Rho) : Res (List D) := match asgT t x r2 with
  | some r3 => (fc r3).calm fun k r4 => if k then
      (fi1 r4).calm fun xs1 r5 => (lcLoop2 (lcBody2F fe t1 fc1 t2 fi2 fc2 own1 own2) xs1 (wipeR r5 own1)).calm fun ys r10 => .ok ys (wipeR r10 own)
    else .ok [] (wipeR r4 own)
  | Option.none => .bad
section
variable {T : List (Addr × Str)} {xt : XT} {X : Cx} {a b c e tg : Expr} {va vb vc : Rho → Res D} {p : Pos}
def lc3Goal (K : PySem.W.Frag) (T : List (Addr × Str)) (xt : XT) (fe : Rho → Res D) (t : Tg) (fc : Rho → Res Bool) (t1 : Tg) (fi1 : Rho → Res (List D)) (fc1 : Rho → Res Bool) (t2 : Tg) (fi2 : Rho → Res (List D)) (fc2 : Rho → Res Bool) (own own1 own2 : List Nat) (Dl : Addr) (σ : L2.St) (v : V) (H : Hp) (Nx : Hp → Prop) : Prop := gOf K t v (wipe σ own) H fun σ2 H2 => wipe σ2 own = wipe σ own ∧ canC K T xt fc σ2 H2 fun b H3 =>
        if b = true then tOut (canI K T xt fi1) (gOf K t1) (canC K T xt fc1) (tIn Dl (canI K T xt fi2) (gOf K t2) (canC K T xt fc2) (canE K T xt fe) own2) own1 σ2 H3 Nx
        else Nx H3
theorem turn_lc3 {K : PySem.W.Frag} {B : Bk} {fe : Rho → Res D} {fc fc1 fc2 : Rho → Res Bool} {fi1 fi2 : Rho → Res (List D)} {t t1 t2 : Tg} {own own1 own2 : List Nat} {σ : L2.St} {Dl : Addr} (ht : ∀ j ∈ tgIx t, j ∈ own) (ht1 : ∀ j ∈ tgIx t1, j ∈ own1) (ht2 : ∀ j ∈ tgIx t2, j ∈ own2) (hw1 : ∀ j ∈ own1, j ∈ own) (hw2 : ∀ j ∈ own2, j ∈ own1) :
    Turn K T B (wipe σ own) Dl (lcBody3F fe t fc t1 fi1 fc1 t2 fi2 fc2 own own1 own2) (lc3Goal K T xt fe t fc t1 fi1 fc1 t2 fi2 fc2 own own1 own2 Dl σ) := by
  intro x v o G w H r r' acc accD Nx R hx e u ha hz nx
  unfold lcBody3F at e
  cases e1 : asgT t x r with
  | none => rw [e1] at e; cases e
  | some r3 =>
    rw [e1] at e
    replace e : ((fc r3).calm fun k r4 => if k then (fi1 r4).calm fun xs1 r5 => (lcLoop2 (lcBody2F fe t1 fc1 t2 fi2 fc2 own1 own2) xs1 (wipeR r5 own1)).calm fun ys r10 => Res.ok ys (wipeR r10 own) else .ok [] (wipeR r4 own)) = .ok o r' := e
    obtain ⟨k, r4, e2, e⟩ := calm_ok e
    refine asg_ok t R hx e1 fun σ2 w2 R2 S2 hj hl => ?_
    have hw : wipe σ2 own = wipe σ own := by
      have := wipe_eq (σ := wipe σ own) (σ2 := σ2) (vs := own) (fun j h => hj j fun z => h (ht j z)) hl
      rw [this, wipe_wipe]
    have same : ∀ {G' H' : Hp} {w' : Wn}, Stp G w H G' w' H' → Und G' w' H' B Dl acc → Stp G w H G' w' (upd H' Dl (.lst acc)) := fun {G' H' w'} S uu => by
      have : upd H' Dl (.lst acc) = H' := by
        funext q
        by_cases z : q = Dl
        · rw [z, upd_same, uu.h]
        · rw [upd_ne z]
      rw [this]; exact S
    refine ⟨hw, B, G, w2, r3, R2, QX.of_ok e2 fun b G3 w3 H3 R3 S3 eb => ?_⟩
    obtain rfl : b = k := eb
    have u3 := (u.step S2).step S3
    cases b with
    | false =>
      cases e
      rw [if_neg Bool.false_ne_true]
      have S' := (S2.tr S3).tr (Stp.wipe (G := G3) (w := w3) (H := H3) own)
      have uw := u3.step (Stp.wipe (G := G3) (w := w3) (H := H3) own)
      have R5 := R3.wipe own
      rw [hw] at R5
      refine nx G3 _ H3 acc R5 (same S' uw) uw ?_
      rw [List.append_nil]
      exact dps_sub (S2.tr S3).sub ha
    | true =>
      rw [if_pos rfl]
      replace e : ((fi1 r4).calm fun xs1 r5 => (lcLoop2 (lcBody2F fe t1 fc1 t2 fi2 fc2 own1 own2) xs1 (wipeR r5 own1)).calm fun ys r10 => Res.ok ys (wipeR r10 own)) = .ok o r' := e
      obtain ⟨xs1, r5, e3, e⟩ := calm_ok e
      obtain ⟨ys, r10, e4, e⟩ := calm_ok e
      cases e
      refine ⟨B, G3, w3, r4, R3, QX.of_ok e3 fun J G4 w4 H4 R4 S4 wk => ?_⟩
      have wk : Wk K T B J G4 xs1 := wk
      have u4 := (u3.step S4).step (Stp.wipe (G := G4) (w := w4) (H := H4) own1)
      have S14 := (((S2.tr S3).tr S4).tr (Stp.wipe (G := G4) (w := w4) (H := H4) own1))
      refine loop_run (turn_lc2 (xt := xt) ht1 ht2 hw2) wk (R4.wipe own1) e4 u4 (dps_sub S14.sub ha) hz fun G5 w5 H5 acc5 R5 S5 u5 da5 => ?_
      have R6 := R5.wipe own
      rw [wipe_sub hw1, hw] at R6
      refine nx G5 _ H5 acc5 R6 ((S14.tr S5).tr (Stp.wipe own)) (u5.step (Stp.wipe (G := G5) (w := w5) (H := H5) own)) da5
theorem lc3_t {ti : TI} {B : Bk} {W : WX} {fi fi1 fi2 : Rho → Res (List D)} {fe : Rho → Res D} {fc fc1 fc2 : Rho → Res Bool} {t t1 t2 : Tg} {own own1 own2 : List Nat} {G H : Hp} {w : Wn} {r : Rho} {σ : L2.St} {Q : VK} (ht : ∀ j ∈ tgIx t, j ∈ own) (ht1 : ∀ j ∈ tgIx t1, j ∈ own1) (ht2 : ∀ j ∈ tgIx t2, j ∈ own2) (hw1 : ∀ j ∈ own1, j ∈ own) (hw2 : ∀ j ∈ own2, j ∈ own1)
    (q : ∀ B G w r σ H (R : It → Hp → Prop), RR X.K T B G w r σ H → QX X.K T xt B W (relI X.K T B) G w σ H (fi r) R → ti σ H R) (R : RR X.K T B G w r σ H)
    (z : QX X.K T xt B W (relN X.K B H) G w σ H (lcF2 fi (lcBody3F fe t fc t1 fi1 fc1 t2 fi2 fc2 own own1 own2) own r) Q) : tLc3 ti (gOf X.K t) (canC X.K T xt fc) (fun Dl => tOut (canI X.K T xt fi1) (gOf X.K t1) (canC X.K T xt fc1) (tIn Dl (canI X.K T xt fi2) (gOf X.K t2) (canC X.K T xt fc2) (canE X.K T xt fe) own2) own1) own σ H Q := by
  refine q _ _ _ _ _ _ _ R (z.bind fun xs r1 J G1 w1 H1 _ R1 S1 wk z1 => ?_)
  obtain ⟨ys, r6, e, z2⟩ := z1.calm
  cases hf : fits ys with
  | false => rw [hf] at z2; exact z2.elim
  | true =>
    rw [hf] at z2
    replace z2 : QX X.K T xt B W (relN X.K B H) G1 w1 σ H1 (.ok (.list ys) (backR r1 r6 own)) Q := z2
    intro Dl hD
    have wk : Wk X.K T B J G1 xs := wk
    have nD1 : ∀ i, w1 i ≠ some Dl := fun i h => by
      obtain ⟨_, _, vs, h3⟩ := R1.fre i Dl h
      rw [hD] at h3; cases h3
    have R2 := (R1.off (o := .lst []) hD).wipe own
    have u2 : Und G1 (wclr w1 own) (upd H1 Dl (.lst [])) B Dl [] := ⟨R1.gnone hD, upd_same, R1.dom0 hD, fun i h => nD1 i (wclr_le h)⟩
    refine loop_run (turn_lc3 (xt := xt) ht ht1 ht2 hw1 hw2) wk R2 e u2 .nil (by simpa using fits_le hf) fun G5 w5 H5 acc R5 S5 u5 da => ?_
    have S6 : Stp G1 (wclr w1 own) H1 G5 w5 H5 := by
      have : Stp G1 (wclr w1 own) H1 G1 (wclr w1 own) (upd H1 Dl (.lst [])) := (Stp.refl _ _ _).late (Ob.non hD)
      have := (this.tr S5).late (o := .lst acc) (Ob.non hD)
      rw [upd_back u5.h] at this
      exact this
    obtain ⟨R7, S7⟩ := RR.back R1 R5 S6
    have nD : ∀ i, (fun j => if j ∈ own then w1 j else w5 j) i ≠ some Dl := fun i h => by
      have h : (if i ∈ own then w1 i else w5 i) = some Dl := h
      split at h
      · exact nD1 i h
      · exact u5.nw i h
    have hn : ¬Ob H Dl := fun n => Ob.non hD (S1.dom Dl n)
    exact z2 (.ref Dl) _ _ _ R7 S7 ⟨⟨Dl, acc, ys, rfl, rfl, u5.g, u5.h, u5.b, nD, by simpa using da⟩, fun a e => by cases e; exact hn⟩
theorem sf_lc3 {elt iter tg1 iter1 tg2 iter2 : Expr} {ifs ifs1 ifs2 : List Expr} {scope : Scope} {own : List (Str × Nat)} {own1 own2 : List Nat} {t t1 t2 : Tg} {fi fi1 fi2 : Rho → Res (List D)} {fe : Rho → Res D} {fc fc1 fc2 : Rho → Res Bool} (hc : X.calm = true) (hN : X.N.Nodup) (hi : SI T xt X tg iter fi) (ok : BlkOk X.N X.env.scope scope own)
    (hg : InBlk X scope fun Y => PG Y tg (gOf X.K t)) (hcnd : InBlk X scope fun Y => SC T xt Y ifs fc) (hi1 : InBlk X scope fun Y => SI T xt Y tg1 iter1 fi1) (hg1 : InBlk X scope fun Y => PG Y tg1 (gOf X.K t1)) (hcnd1 : InBlk X scope fun Y => SC T xt Y ifs1 fc1)
    (hi2 : InBlk X scope fun Y => SI T xt Y tg2 iter2 fi2) (hg2 : InBlk X scope fun Y => PG Y tg2 (gOf X.K t2)) (hcnd2 : InBlk X scope fun Y => SC T xt Y ifs2 fc2) (he : InBlk X scope fun Y => SE T xt Y elt fe)
    (ht : ∀ j ∈ tgIx t, j ∈ own.map (·.2)) (ht1 : ∀ j ∈ tgIx t1, j ∈ own1) (ht2 : ∀ j ∈ tgIx t2, j ∈ own2) (hw1 : ∀ j ∈ own1, j ∈ own.map (·.2)) (hw2 : ∀ j ∈ own2, j ∈ own1) (hs : ∀ x, foldedSetIterable iter X.env x = pure x) (hs1 : ∀ env x, foldedSetIterable iter1 env x = pure x) (hs2 : ∀ env x, foldedSetIterable iter2 env x = pure x) :
    SF T xt X (.ListComp elt [⟨tg, iter, ifs, 0⟩, ⟨tg1, iter1, ifs1, 0⟩, ⟨tg2, iter2, ifs2, 0⟩] scope p) (lcF2 fi (lcBody3F fe t fc t1 fi1 fc1 t2 fi2 fc2 (own.map (·.2)) own1 own2) (own.map (·.2))) := by
  intro W tk
  obtain ⟨ti, p, q⟩ := hi W tk
  exact ⟨_, pe_lc3 hc hN p ok hw1 hg (fun s H C cl fp => (hcnd s H C cl fp).can) hs hs1 (fun s H C cl fp D => lv_out hc rfl (fun it => rfl) (fun it => rfl) (fun it => ct3_1) (hs2 _) (fun it R s h0 h => start3_1 h0 h) (hi1 s H C cl fp).can (hg1 s H C cl fp) (hcnd1 s H C cl fp).can hw2
    (lv_in hc rfl (fun it => rfl) (fun it => rfl) (fun it => ct3_2) (fun it R s h0 h => start3_2 h0 h) (hi2 s H C cl fp).can (hg2 s H C cl fp) (hcnd2 s H C cl fp).can (he s H C cl fp).can)), fun B G w r σ H Q R z => lc3_t ht ht1 ht2 hw1 hw2 q R z⟩
end
end Rf
set_option Elab.async false
set_option linter.all false
set_option maxRecDepth 100000
set_option maxHeartbeats 1000000
namespace Rf
open PySem PySem.Spec PyProof.Rows L2 LamX
/-! ### statements -/
/-- a statement's step: a name may take a new list as its own -/
structure StpS (G : Hp) (w : Wn) (H : Hp) (G' : Hp) (w' : Wn) (H' : Hp) : Prop where
  sub : Sub G G'
  grow : ∀ a, G' a ≠ none → G a ≠ none ∨ ¬Ob H a ∨ ∃ i, w i = some a
  keep : ∀ a o, H a = some o → noTbl o → (∀ i, w i ≠ some a) → H' a = some o
  dom : ∀ a, Ob H a → Ob H' a
  less : ∀ i a, w' i = some a → w i = some a ∨ ¬Ob H a
theorem Stp.s {G H G' H' : Hp} {w w' : Wn} (S : Stp G w H G' w' H') : StpS G w H G' w' H' := ⟨S.sub, S.grow, S.keep, S.dom, fun i a h => .inl (S.less i a h)⟩
theorem StpS.refl (G : Hp) (w : Wn) (H : Hp) : StpS G w H G w H := (Stp.refl G w H).s
theorem StpS.tr {G H G1 H1 G2 H2 : Hp} {w w1 w2 : Wn} (a : StpS G w H G1 w1 H1) (b : StpS G1 w1 H1 G2 w2 H2) : StpS G w H G2 w2 H2 where
  sub := a.sub.tr b.sub
  grow := fun x h => by
    rcases b.grow x h with h | h | ⟨i, h⟩
    · exact a.grow x h
    · exact .inr (.inl fun n => h (a.dom x n))
    · rcases a.less i x h with h | h
      · exact .inr (.inr ⟨i, h⟩)
      · exact .inr (.inl h)
  keep := fun x o h n k => b.keep x o (a.keep x o h n k) n fun i z => by
    rcases a.less i x z with q | q
    · exact k i q
    · exact q ⟨o, h, n⟩
  dom := fun x h => b.dom x (a.dom x h)
  less := fun i x h => by
    rcases b.less i x h with q | q
    · exact a.less i x q
    · exact .inr fun n => q (a.dom x n)
section
variable (K : PySem.W.Frag) (T : List (Addr × Str)) (xt : XT) (B : Bk) (W : WX)
def QO (G : Hp) (w : Wn) (H : Hp) (o : Out) (D : Ends) : Prop := match o with
  | .nx r' => ∀ σ' G' w' H', RR K T B G' w' r' σ' H' → StpS G w H G' w' H' → D.nx σ' H'
  | .rt d r' => ∀ v σ' G' w' H', RR K T B G' w' r' σ' H' → StpS G w H G' w' H' → Dq K G' v d → D.rt v H'
  | .bk r' => ∀ σ' G' w' H', RR K T B G' w' r' σ' H' → StpS G w H G' w' H' → D.bk σ' H'
  | .ct r' => ∀ σ' G' w' H', RR K T B G' w' r' σ' H' → StpS G w H G' w' H' → D.ct σ' H'
  | .exc x d r' => ∀ c f dx v σ' G' w' H', xt[x]? = some (c, f) → RR K T B G' w' r' σ' H' → StpS G w H G' w' H' → H' dx = some (.xd [(f, v)]) → Dq K G' v d → W (.ref c) (some dx) σ' H'
  | .bad => False
end
section
variable {K : PySem.W.Frag} {T : List (Addr × Str)} {xt : XT} {B : Bk} {W : WX} {α β : Type}
theorem QO.after {G G1 : Hp} {w w1 : Wn} {H H1 : Hp} {o : Out} {D : Ends} (h : QO K T xt B W G w H o D) (s : StpS G w H G1 w1 H1) : QO K T xt B W G1 w1 H1 o D := by
  cases o with
  | nx r => exact fun σ' G' w' H' R S => h σ' G' w' H' R (s.tr S)
  | rt d r => exact fun v σ' G' w' H' R S => h v σ' G' w' H' R (s.tr S)
  | bk r => exact fun σ' G' w' H' R S => h σ' G' w' H' R (s.tr S)
  | ct r => exact fun σ' G' w' H' R S => h σ' G' w' H' R (s.tr S)
  | exc x d r => exact fun c f dx v σ' G' w' H' e R S => h c f dx v σ' G' w' H' e R (s.tr S)
  | bad => exact h
theorem QO.ends {G : Hp} {w : Wn} {H : Hp} {o : Out} {D D' : Ends} (h : QO K T xt B W G w H o D) (h1 : ∀ r, o = .nx r → QO K T xt B W G w H o D') (h2 : ∀ v H, D.rt v H → D'.rt v H) (h3 : ∀ r, o = .bk r → QO K T xt B W G w H o D') (h4 : ∀ r, o = .ct r → QO K T xt B W G w H o D') : QO K T xt B W G w H o D' := by
  cases o with
  | nx r => exact h1 r rfl
  | rt d r => exact fun v σ' G' w' H' R S e => h2 _ _ (h v σ' G' w' H' R S e)
  | bk r => exact h3 r rfl
  | ct r => exact h4 r rfl
  | exc x d r => exact h
  | bad => exact h
theorem QO.out {rel1 : Hp → Wn → Hp → β → α → Prop} {G : Hp} {w : Wn} {σ : L2.St} {H : Hp} {x : Res α} {f : α → Rho → Out} {D : Ends} {Q1 : β → Hp → Prop} (h : QO K T xt B W G w H (x.out f) D)
    (k : ∀ a r1 b G1 w1 H1, x = .ok a r1 → RR K T B G1 w1 r1 σ H1 → Stp G w H G1 w1 H1 → rel1 G1 w1 H1 b a → QO K T xt B W G1 w1 H1 (f a r1) D → Q1 b H1) : QX K T xt B W rel1 G w σ H x Q1 := by
  cases x with
  | ok a r => exact fun b G' w' H' R S q => k a r b G' w' H' rfl R S q (QO.after h S.s)
  | exc x d r => exact fun c f dx v G' w' H' e R S => h c f dx v σ G' w' H' e R S.s
  | bad => exact h
theorem QO.then' {G : Hp} {w : Wn} {H : Hp} {o : Out} {f : Rho → Out} {D : Ends} {N : L2.St → Hp → Prop} (h : QO K T xt B W G w H (o.then f) D)
    (k : ∀ r1 σ1 G1 w1 H1, o = .nx r1 → RR K T B G1 w1 r1 σ1 H1 → StpS G w H G1 w1 H1 → QO K T xt B W G1 w1 H1 (f r1) D → N σ1 H1) : QO K T xt B W G w H o { D with nx := N } := by
  cases o with
  | nx r => exact fun σ' G' w' H' R S => k r σ' G' w' H' rfl R S (QO.after h S)
  | rt d r => exact h
  | bk r => exact h
  | ct r => exact h
  | exc x d r => exact h
  | bad => exact h
end
section
variable (T : List (Addr × Str)) (xt : XT) (X : Cx)
def S1 (st : Stmt) (f : Rho → Out) : Prop := ∀ W : WX, Takes X W → ∃ t : TS, PS X st t ∧ ∀ B G w r σ H (D : Ends), RR X.K T B G w r σ H → QO X.K T xt B W G w H (f r) D → t D σ H
def SS (sts : List Stmt) (f : Rho → Out) : Prop := ∀ W : WX, Takes X W → ∃ t : TS, PSs X sts t ∧ ∀ B G w r σ H (D : Ends), RR X.K T B G w r σ H → QO X.K T xt B W G w H (f r) D → t D σ H
end
def noComp : Expr → Bool
  | .ListComp _ _ _ _ => false
  | .SetComp _ _ _ _ => false
  | .DictComp _ _ _ _ _ => false
  | _ => true
theorem sw_no {e : Expr} {t : Option Expr} {l : Nat} {env : Env} (h : noComp e = true) : swapsWith e t l env = pure false := by
  cases e <;> first | rfl | cases h
theorem sw_sub {e o i : Expr} {p : Pos} {l : Nat} {env : Env} : swapsWith e (some (.Subscript o i p)) l env = pure false := by
  cases e <;> rfl
def noTup : Expr → Bool
  | .Tuple _ _ _ => false
  | .List _ _ => false
  | _ => true
theorem ss_no {tg e : Expr} {env : Env} (h : (noTup tg || noTup e) = true) : swappedStores [tg] e env = pure none := by
  unfold swappedStores
  cases tg <;> first | rfl | (cases e <;> first | rfl | cases h)
section
variable {T : List (Addr × Str)} {xt : XT} {X : Cx} {a b c e tg : Expr} {va vb vc : Rho → Res D} {p : Pos} {st : Stmt} {rest : List Stmt} {f g : Rho → Out}
theorem ss_nil : SS T xt X [] fun r => .nx r := fun W tk => ⟨tNext, pss_nil, fun B G w r σ H D R h => h σ G w H R (StpS.refl _ _ _)⟩
theorem ss_cons (h : S1 T xt X st f) (k : SS T xt X rest g) : SS T xt X (st :: rest) fun r => (f r).then g := by
  intro W tk
  obtain ⟨t, p1, q1⟩ := h W tk
  obtain ⟨u, p2, q2⟩ := k W tk
  exact ⟨tSeq t u, pss_cons p1 p2, fun B G w r σ H D R z => q1 _ _ _ _ _ _ _ R (z.then' fun r1 σ1 G1 w1 H1 _ R1 S1 z1 => q2 _ _ _ _ _ _ _ R1 z1)⟩
theorem ss_one (h : S1 T xt X st f) : SS T xt X [st] f := by
  intro W tk
  obtain ⟨t, p1, q1⟩ := h W tk
  exact ⟨t, pss_one p1, q1⟩
theorem s_asg {t : Tg} (h : SE T xt X e va) (hg : PG X tg (gOf X.K t)) (hs : swapsWith e (some tg) p.line X.env = pure false) (hw : swappedStores [tg] e X.env = pure none) (h1 : (assignEach [tg] X.env).map (·.2) = [assign tg X.env]) :
    S1 T xt X (.Assign [tg] e p) fun r => (va r).out fun d r1 => match asgT t d r1 with
      | some r2 => .nx r2
      | Option.none => .bad := by
  intro W tk
  obtain ⟨te, p1, q1⟩ := h W tk
  refine ⟨_, ps_asg p1 hg hs hw h1, fun B G w r σ H D R z => q1 _ _ _ _ _ _ _ R (z.out fun d r1 v G1 w1 H1 _ R1 S1 dv z1 => ?_)⟩
  cases e1 : asgT t d r1 with
  | none => rw [e1] at z1; exact z1.elim
  | some r2 =>
    rw [e1] at z1
    exact asg_ok t R1 dv e1 fun σ' w' R2 S2 _ _ => z1 σ' G1 w' H1 R2 S2.s
/-- name = [..], the comprehension's own instruction -/
theorem s_asgLc {i : Nat} {y : Str} {py lp : Pos} {elt tg iter : Expr} {ifs : List Expr} {scope : Scope} {own : List (Str × Nat)} {t : Tg} {fi : Rho → Res (List D)} {fe : Rho → Res D} {fc : Rho → Res Bool} (hc : X.calm = true) (hN : X.N.Nodup) (hy : X.N[i]? = some y) (hyl : X.env.scope.names.lookup y = some .local)
    (hsw : swapsWith (.ListComp elt [⟨tg, iter, ifs, 0⟩] scope lp) (some (.Name y py)) p.line X.env = pure true) (hi : SI T xt X tg iter fi) (ok : BlkOk X.N X.env.scope scope own)
    (hg : InBlk X scope fun Y => PG Y tg (gOf X.K t)) (hcnd : InBlk X scope fun Y => SC T xt Y ifs fc) (he : InBlk X scope fun Y => SE T xt Y elt fe) (ht : ∀ j ∈ tgIx t, j ∈ own.map (·.2)) (hs : ∀ x, foldedSetIterable iter X.env x = pure x) :
    S1 T xt X (.Assign [.Name y py] (.ListComp elt [⟨tg, iter, ifs, 0⟩] scope lp) p) fun r => (lcF fi (lcBodyF fe t fc (own.map (·.2))) (own.map (·.2)) r).out fun d r1 => .nx (r1.set i (.val d)) := by
  intro W tk
  obtain ⟨ti, p1, q1⟩ := hi W tk
  refine ⟨_, ps_setLc hc hN hy hyl hsw p1 ok hg (fun s H C cl fp => (hcnd s H C cl fp).can) (fun s H C cl fp => (he s H C cl fp).can) hs, fun B G w r σ H D R z => lc_t (B := B) (W := W) ht q1 R ?_⟩
  exact QX.fresh (z.out (rel1 := relV X.K) fun d r1 v G1 w1 H1 _ R1 S1 dv z1 => z1 _ _ _ _ (R1.bindv dv) Stp.wset.s) fun _ _ _ _ => trivial
theorem s_asgLc2 {i : Nat} {y : Str} {py lp : Pos} {elt tg iter tg1 iter1 : Expr} {ifs ifs1 : List Expr} {scope : Scope} {own : List (Str × Nat)} {own1 : List Nat} {t t1 : Tg} {fi fi1 : Rho → Res (List D)} {fe : Rho → Res D} {fc fc1 : Rho → Res Bool} (hc : X.calm = true) (hN : X.N.Nodup) (hy : X.N[i]? = some y) (hyl : X.env.scope.names.lookup y = some .local)
    (hsw : swapsWith (.ListComp elt [⟨tg, iter, ifs, 0⟩, ⟨tg1, iter1, ifs1, 0⟩] scope lp) (some (.Name y py)) p.line X.env = pure true) (hi : SI T xt X tg iter fi) (ok : BlkOk X.N X.env.scope scope own)
    (hg : InBlk X scope fun Y => PG Y tg (gOf X.K t)) (hcnd : InBlk X scope fun Y => SC T xt Y ifs fc) (hi1 : InBlk X scope fun Y => SI T xt Y tg1 iter1 fi1) (hg1 : InBlk X scope fun Y => PG Y tg1 (gOf X.K t1)) (hcnd1 : InBlk X scope fun Y => SC T xt Y ifs1 fc1) (he : InBlk X scope fun Y => SE T xt Y elt fe)
    (ht : ∀ j ∈ tgIx t, j ∈ own.map (·.2)) (ht1 : ∀ j ∈ tgIx t1, j ∈ own1) (hw1 : ∀ j ∈ own1, j ∈ own.map (·.2)) (hs : ∀ x, foldedSetIterable iter X.env x = pure x) (hs1 : ∀ env x, foldedSetIterable iter1 env x = pure x) :
    S1 T xt X (.Assign [.Name y py] (.ListComp elt [⟨tg, iter, ifs, 0⟩, ⟨tg1, iter1, ifs1, 0⟩] scope lp) p) fun r => (lcF2 fi (lcBody2F fe t fc t1 fi1 fc1 (own.map (·.2)) own1) (own.map (·.2)) r).out fun d r1 => .nx (r1.set i (.val d)) := by
  intro W tk
  obtain ⟨ti, p1, q1⟩ := hi W tk
  refine ⟨_, ps_setLc2 hc hN hy hyl hsw p1 ok hw1 hg (fun s H C cl fp => (hcnd s H C cl fp).can) (fun s H C cl fp => (hi1 s H C cl fp).can) hg1 (fun s H C cl fp => (hcnd1 s H C cl fp).can) (fun s H C cl fp => (he s H C cl fp).can) hs hs1, fun B G w r σ H D R z => lc2_t (B := B) (W := W) ht ht1 hw1 q1 R ?_⟩
  exact QX.fresh (z.out (rel1 := relV X.K) fun d r1 v G1 w1 H1 _ R1 S1 dv z1 => z1 _ _ _ _ (R1.bindv dv) Stp.wset.s) fun _ _ _ _ => trivial
/-! ### a list of a name's own -/
theorem RR.bindO {K : PySem.W.Frag} {B : Bk} {G H : Hp} {w : Wn} {r : Rho} {σ : L2.St} (R : RR K T B G w r σ H) {i : Nat} {l : Addr} {vs : List V} {ds : List D} (hi : i < r.length) (g : G l = none) (h : H l = some (.lst vs)) (h0 : ¬Ob B.H0 l) (nw : ∀ j, w j ≠ some l) (dv : DqAll K G vs ds) :
    RR K T B G (wset w i (some l)) (r.set i (.own ds)) (σ.set i (some (.ref l))) H where
  sub := R.sub
  tabs := R.tabs
  nt := R.nt
  ent := R.ent
  dom := R.dom
  grow := R.grow
  sub0 := R.sub0
  inj := fun j k a h1 h2 => by
    by_cases q1 : j = i <;> by_cases q2 : k = i
    · rw [q1, q2]
    · rw [q1, wset_same] at h1; cases h1
      rw [wset_ne q2] at h2; exact absurd h2 (nw k)
    · rw [q2, wset_same] at h2; cases h2
      rw [wset_ne q1] at h1; exact absurd h1 (nw j)
    · rw [wset_ne q1] at h1; rw [wset_ne q2] at h2; exact R.inj j k a h1 h2
  fre := fun j a e => by
    by_cases q : j = i
    · rw [q, wset_same] at e; cases e
      exact ⟨g, .inl h0, vs, h⟩
    · rw [wset_ne q] at e; exact R.fre j a e
  slot := fun j x e => by
    by_cases q : j = i
    · subst q
      rw [List.getElem?_set_self hi] at e
      cases e
      exact ⟨l, vs, wset_same, h0, by rw [List.getElem?_set_self (by rw [R.len]; exact hi)], h, dv⟩
    · rw [List.getElem?_set_ne (Ne.symm q)] at e
      exact slot_w (wset_ne q) (List.getElem?_set_ne (Ne.symm q)) (R.slot j x e)
  out := fun j e => by
    by_cases q : j = i
    · subst q
      rw [List.getElem?_eq_none_iff, List.length_set] at e
      omega
    · rw [wset_ne q]
      rw [List.getElem?_set_ne (Ne.symm q)] at e
      exact R.out j e
  len := by rw [List.length_set, List.length_set]; exact R.len
theorem StpS.own {G G1 H H1 : Hp} {w w1 : Wn} {i : Nat} {l : Addr} (S : Stp G w H G1 w1 H1) (hn : ¬Ob H l) : StpS G w H G1 (wset w1 i (some l)) H1 where
  sub := S.sub
  grow := S.grow
  keep := S.keep
  dom := S.dom
  less := fun j a e => by
    by_cases q : j = i
    · rw [q, wset_same] at e; cases e; exact .inr hn
    · rw [wset_ne q] at e; exact .inl (S.less j a e)
theorem fresh_own {K : PySem.W.Frag} {B : Bk} {W : WX} {G : Hp} {w : Wn} {σ : L2.St} {H : Hp} {i : Nat} {x : Res D} {D : Ends}
    (z : QO K T xt B W G w H (x.out fun d r1 => match d with
      | .list ds => if i < r1.length then .nx (r1.set i (.own ds)) else .bad
      | _ => .bad) D) : QX K T xt B W (relN K B H) G w σ H x (fun v H1 => D.nx (σ.set i (some v)) H1) := by
  cases x with
  | exc x d r => exact fun c f dx v G' w' H' e R S => z c f dx v σ G' w' H' e R S.s
  | bad => exact z
  | ok d r1 =>
    rintro v G1 w1 H1 R1 S1 ⟨⟨a, vs, ds, rfl, rfl, h1, h2, h3, h4, h5⟩, h6⟩
    have z : QO K T xt B W G w H (if i < r1.length then .nx (r1.set i (.own ds)) else .bad) D := z
    by_cases hl : i < r1.length
    · rw [if_pos hl] at z
      exact z _ _ _ _ (R1.bindO hl h1 h2 h3 h4 h5) (StpS.own S1 (h6 a rfl))
    · rw [if_neg hl] at z; exact z.elim
/-- a name takes a new list as its own -/
theorem s_asgO {i : Nat} {y : Str} {py : Pos} (h : SF T xt X e va) (hg : PG X (.Name y py) (gName i)) (hs : swapsWith e (some (.Name y py)) p.line X.env = pure false) :
    S1 T xt X (.Assign [.Name y py] e p) fun r => (va r).out fun d r1 => match d with
      | .list ds => if i < r1.length then .nx (r1.set i (.own ds)) else .bad
      | _ => .bad := by
  intro W tk
  obtain ⟨te, p1, q1⟩ := h W tk
  refine ⟨_, ps_asg p1 hg hs (ss_no rfl) rfl, fun B G w r σ H D R z => q1 _ _ _ _ _ _ _ R ?_⟩
  exact fresh_own (σ := σ) z
theorem s_asgOLc {i : Nat} {y : Str} {py lp : Pos} {elt tg iter : Expr} {ifs : List Expr} {scope : Scope} {own : List (Str × Nat)} {t : Tg} {fi : Rho → Res (List D)} {fe : Rho → Res D} {fc : Rho → Res Bool} (hc : X.calm = true) (hN : X.N.Nodup) (hy : X.N[i]? = some y) (hyl : X.env.scope.names.lookup y = some .local)
    (hsw : swapsWith (.ListComp elt [⟨tg, iter, ifs, 0⟩] scope lp) (some (.Name y py)) p.line X.env = pure true) (hi : SI T xt X tg iter fi) (ok : BlkOk X.N X.env.scope scope own)
    (hg : InBlk X scope fun Y => PG Y tg (gOf X.K t)) (hcnd : InBlk X scope fun Y => SC T xt Y ifs fc) (he : InBlk X scope fun Y => SE T xt Y elt fe) (ht : ∀ j ∈ tgIx t, j ∈ own.map (·.2)) (hs : ∀ x, foldedSetIterable iter X.env x = pure x) :
    S1 T xt X (.Assign [.Name y py] (.ListComp elt [⟨tg, iter, ifs, 0⟩] scope lp) p) fun r => (lcF fi (lcBodyF fe t fc (own.map (·.2))) (own.map (·.2)) r).out fun d r1 => match d with
      | .list ds => if i < r1.length then .nx (r1.set i (.own ds)) else .bad
      | _ => .bad := by
  intro W tk
  obtain ⟨ti, p1, q1⟩ := hi W tk
  refine ⟨_, ps_setLc hc hN hy hyl hsw p1 ok hg (fun s H C cl fp => (hcnd s H C cl fp).can) (fun s H C cl fp => (he s H C cl fp).can) hs, fun B G w r σ H D R z => lc_t (B := B) (W := W) ht q1 R ?_⟩
  exact fresh_own (σ := σ) z
/-- .. by the kind of what is new -/
theorem sf_lst {es : List Expr} {fa : Rho → Res (List D)} (h : SA T xt X es fa) : SF T xt X (.List es p) fun r => (fa r).bind fun ds r1 => if fits ds then .ok (.list ds) r1 else .bad := by
  intro W tk
  obtain ⟨ta, pa, qa⟩ := h W tk
  refine ⟨tLst ta, pe_lst pa, fun B G w r σ H Q R q => ?_⟩
  refine qa _ _ _ _ _ _ _ R (q.bind fun ds r1 vs G1 w1 H1 _ R1 S1 d1 q1 => ?_)
  cases f : fits ds with
  | false => rw [f] at q1; exact q1.elim
  | true =>
    rw [f] at q1
    refine ⟨by rw [dps_len d1]; exact Nat.le_of_lt (big_line (fits_le f)), fun a ha => ?_⟩
    exact q1 _ _ _ _ (R1.off ha) ((Stp.refl _ _ _).late (Ob.non ha)) ⟨⟨a, vs, ds, rfl, rfl, R1.gnone ha, upd_same, R1.dom0 ha, fun i h => (by
      obtain ⟨_, _, us, h3⟩ := R1.fre i a h
      rw [ha] at h3; cases h3), d1⟩, fun b e => by cases e; exact fun n => Ob.non ha (S1.dom a n)⟩
theorem sf_rep (ha : SE T xt X a va) (hb : SE T xt X b vb) : SF T xt X (.BinOp a .Mult b p) fun r => (va r).bind fun x r1 => (vb r1).bind fun y r2 => match x with
    | .list _ => opt (binD .mul x y) r2
    | _ => .bad := by
  intro W tk
  obtain ⟨ta, pa, qa⟩ := ha W tk
  obtain ⟨tb, pb, qb⟩ := hb W tk
  refine ⟨tOp _ ta tb, pe_op op_rep pa pb, fun B G w r σ H Q R q => ?_⟩
  refine qa _ _ _ _ _ _ _ R (q.bind fun x r1 v G1 w1 H1 _ R1 S1 d1 q1 => ?_)
  refine qb _ _ _ _ _ _ _ R1 (q1.bind fun y r2 u G2 w2 H2 _ R2 S2 d2 q2 => ?_)
  have d1 : Dq X.K G1 v x := d1
  have d2 : Dq X.K G2 u y := d2
  have key : ∀ xs j, x = .list xs → y = .int j → QX X.K T xt B W (relN X.K B H) G2 w2 σ H2 (opt (binD .mul (.list xs) (.int j)) r2) Q → rRep v u H2 Q := by
    intro xs j ex ey q2
    subst ex ey
    obtain ⟨d, ed, q3⟩ := q2.opt
    obtain ⟨z, rfl⟩ := ite_some (show (if 0 ≤ j ∧ j ≤ 1000000 ∧ xs.length * j.toNat ≤ big then some (PyData.list (List.replicate j.toNat xs).flatten) else Option.none) = some d from ed)
    have d1 := dp_sub S2.sub d1
    cases d2
    cases d1 with
    | lst h1 rr =>
      refine ⟨_, j, _, rfl, rfl, R2.sub _ _ h1, by omega, by omega, by rw [dps_len rr]; exact Nat.le_of_lt (big_line z.2.2), fun p hp => ?_⟩
      exact q3 _ _ _ _ (R2.off hp) ((Stp.refl _ _ _).late (Ob.non hp)) ⟨⟨p, _, _, rfl, rfl, R2.gnone hp, upd_same, R2.dom0 hp, fun i h => (by
        obtain ⟨_, _, us, h3⟩ := R2.fre i p h
        rw [hp] at h3; cases h3), dps_rep rr _⟩, fun b e => by cases e; exact fun n => Ob.non hp ((S1.tr S2).dom p n)⟩
  clear d1 d2
  cases x <;> first | (exact q2.elim) | skip
  cases y <;> first | (exact q2.elim) | exact key _ _ rfl rfl q2
/-! ### changes of a list -/
theorem RR.isl {K : PySem.W.Frag} {B : Bk} {G H : Hp} {w : Wn} {r : Rho} {σ : L2.St} (R : RR K T B G w r σ H) {i : Nat} (h : isL r i = true) : ∃ a vs, w i = some a ∧ σ[i]? = some (some (.ref a)) ∧ H a = some (.lst vs) := by
  unfold isL at h
  cases e : r[i]? with
  | none => rw [e] at h; cases h
  | some x =>
    rw [e] at h
    have q := R.slot i x e
    cases x with
    | un => cases h
    | val d => cases h
    | own cs => obtain ⟨a, vs, h1, _, h2, h3, _⟩ := q; exact ⟨a, vs, h1, h2, h3⟩
    | io cs => obtain ⟨a, vs, h1, _, h2, h3, _⟩ := q; exact ⟨a, vs, h1, h2, h3⟩
theorem s_app {i : Nat} {y : Str} {py apos cpos : Pos} (h : SE T xt X e va) (hN : X.N[i]? = some y) (hv : Vis X.env.scope y) (hy : (y == ("__debug__" : Str)) = false) (hyc : (y == ("__classdict__" : Str)) = false) (hs : noStar e = true) (hline : (apos.endLine == cpos.line) = true) :
    S1 T xt X (.Expr (.Call (.Attribute (.Name y py) "append" apos) [e] [] cpos) p) fun r => if isL r i then (va r).out (appR i) else .bad := by
  intro W tk
  obtain ⟨te, p1, q1⟩ := h W tk
  have e0 := star_one e [] X.env hs
  have hfew : ((backTo cpos (starEach [e] X.env)).all (fun x => !x.1) && (backToKw cpos (keywordEach [] X.env)).all (fun x => x.1.isSome)
      && decide ([e].length + ([] : List Keyword).length + (if ([] : List Keyword).isEmpty then 0 else 1) < 30)) = true := by
    rw [e0]; rfl
  refine ⟨_, ps_expr (pe_bm PySem.F.plainAttrs_list PySem.F.slot_list_append PySem.F.type_list_append mt_append (pe_var hN hv hy hyc) (pa_cons p1 pa_nil e0) rfl hfew hline e0 rfl) rfl, fun B G w r σ H D R z => ?_⟩
  replace z : QO X.K T xt B W G w H (if isL r i then (va r).out (appR i) else .bad) D := z
  cases hl : isL r i with
  | false => rw [hl] at z; exact z.elim
  | true =>
    rw [hl] at z
    replace z : QO X.K T xt B W G w H ((va r).out (appR i)) D := z
    obtain ⟨l, vl, wl, sl, hl1⟩ := R.isl hl
    refine ⟨.ref l, sl, .inl ⟨rfl, vl, .inl (.inl hl1)⟩, q1 _ _ _ _ _ _ _ R (z.out fun d r1 v G1 w1 H1 _ R1 S1 dv z1 => ?_)⟩
    have dv : Dq X.K G1 v d := dv
    unfold appR at z1
    cases ei : r1[i]? with
    | none => rw [ei] at z1; exact z1.elim
    | some x =>
      rw [ei] at z1
      have q := R1.slot i x ei
      have hi : i < r1.length := (List.getElem?_eq_some_iff.mp ei).1
      cases x with
      | un => exact z1.elim
      | val d => exact z1.elim
      | own ds =>
        obtain ⟨a, vs, h1, h0, h2, h3, h4⟩ := q
        rw [sl] at h2
        cases h2
        replace z1 : QO X.K T xt B W G1 w1 H1 (if ds.length ≤ big then .nx (r1.set i (.own (ds ++ [d]))) else .bad) D := z1
        by_cases hb : ds.length ≤ big
        · rw [if_pos hb] at z1
          exact ⟨_, vs, v, rfl, rfl, h3, by rw [dps_len h4]; exact big_line hb, z1 σ G1 w1 _ (R1.own hi h1 h0 sl h3 (dps_app h4 (dps_one dv))) (Stp.mut h1).s⟩
        · rw [if_neg hb] at z1; exact z1.elim
      | io ds =>
        obtain ⟨a, vs, h1, h0, h2, h3, h4⟩ := q
        rw [sl] at h2
        cases h2
        replace z1 : QO X.K T xt B W G1 w1 H1 (if ds.length ≤ big then .nx (r1.set i (.io (ds ++ [d]))) else .bad) D := z1
        by_cases hb : ds.length ≤ big
        · rw [if_pos hb] at z1
          exact ⟨_, vs, v, rfl, rfl, h3, by rw [dps_len h4]; exact big_line hb, z1 σ G1 w1 _ (R1.lent hi h1 h0 sl h3 (dps_app h4 (dps_one dv))) (Stp.mut h1).s⟩
        · rw [if_neg hb] at z1; exact z1.elim
theorem s_setI {i : Nat} {k : Expr} {y : Str} {py sp : Pos} {vk : Rho → Res D} (h : SE T xt X e va) (hk : SE T xt X k vk) (hN : X.N[i]? = some y) (hv : Vis X.env.scope y) (hy : (y == ("__debug__" : Str)) = false) (hyc : (y == ("__classdict__" : Str)) = false) (hsl : ∀ v, assign (.Subscript (.Name y py) k sp) X.env v = (do
      let ov ← holding [v] (eval (.Name y py) X.env)
      let iv ← holding [v, ov] (eval k X.env)
      standAt sp
      holding [v, ov, iv] (setItem ov iv v)
      release [v, ov, iv] [])) :
    S1 T xt X (.Assign [.Subscript (.Name y py) k sp] e p) fun r => (va r).out fun d r1 => if isL r1 i then (vk r1).out (setR i d) else .bad := by
  intro W tk
  obtain ⟨te, p1, q1⟩ := h W tk
  obtain ⟨tk', p2, q2⟩ := hk W tk
  refine ⟨_, ps_asg p1 (pg_sub (pe_var hN hv hy hyc) p2 set_list hsl) (show swapsWith e (some (.Subscript (.Name y py) k sp)) p.line X.env = pure false from sw_sub) (ss_no rfl) rfl, fun B G w r σ H D R z => q1 _ _ _ _ _ _ _ R (z.out fun d r1 v G1 w1 H1 _ R1 S1 dv z1 => ?_)⟩
  have dv : Dq X.K G1 v d := dv
  cases hl : isL r1 i with
  | false => rw [hl] at z1; exact z1.elim
  | true =>
    rw [hl] at z1
    replace z1 : QO X.K T xt B W G1 w1 H1 ((vk r1).out (setR i d)) D := z1
    obtain ⟨l, vl, wl, sl, hl1⟩ := R1.isl hl
    refine ⟨.ref l, sl, q2 _ _ _ _ _ _ _ R1 (z1.out fun j r2 u G2 w2 H2 _ R2 S2 dj z2 => ?_)⟩
    have dj : Dq X.K G2 u j := dj
    have dv := dp_sub S2.sub dv
    have key : ∀ zi, j = .int zi → QO X.K T xt B W G2 w2 H2 (match r2[i]? with
      | some (.own ds) => (match ixN ds.length zi with
          | some n => .nx (r2.set i (.own (ds.set n d)))
          | Option.none => .bad)
      | some (.io ds) => (match ixN ds.length zi with
          | some n => .nx (r2.set i (.io (ds.set n d)))
          | Option.none => .bad)
      | _ => .bad) D → rSetL (.ref l) u v H2 (fun H3 => D.nx σ H3) := by
      intro zi ej z3
      subst ej
      cases dj
      cases ei : r2[i]? with
      | none => rw [ei] at z3; exact z3.elim
      | some x =>
        rw [ei] at z3
        have q := R2.slot i x ei
        have hi : i < r2.length := (List.getElem?_eq_some_iff.mp ei).1
        cases x with
        | un => exact z3.elim
        | val d => exact z3.elim
        | own ds =>
          obtain ⟨a, vs, h1, h0, h2, h3, h4⟩ := q
          rw [sl] at h2
          cases h2
          cases en : ixN ds.length zi with
          | none => simp only [en] at z3; exact z3.elim
          | some n =>
            simp only [en] at z3
            exact ⟨_, vs, zi, n, rfl, rfl, h3, by rw [dps_len h4]; exact en, z3 σ G2 w2 _ (R2.own hi h1 h0 sl h3 (dps_set n h4 dv)) (Stp.mut h1).s⟩
        | io ds =>
          obtain ⟨a, vs, h1, h0, h2, h3, h4⟩ := q
          rw [sl] at h2
          cases h2
          cases en : ixN ds.length zi with
          | none => simp only [en] at z3; exact z3.elim
          | some n =>
            simp only [en] at z3
            exact ⟨_, vs, zi, n, rfl, rfl, h3, by rw [dps_len h4]; exact en, z3 σ G2 w2 _ (R2.lent hi h1 h0 sl h3 (dps_set n h4 dv)) (Stp.mut h1).s⟩
    clear dj
    cases j <;> first | exact z2.elim | exact key _ rfl z2
/-! ### flow -/
theorem s_ex (h : SE T xt X e va) (hs : swapsWith e none p.line X.env = pure false) : S1 T xt X (.Expr e p) fun r => (va r).out fun _ r1 => .nx r1 := by
  intro W tk
  obtain ⟨te, p1, q1⟩ := h W tk
  exact ⟨_, ps_expr p1 hs, fun B G w r σ H D R z => q1 _ _ _ _ _ _ _ R (z.out (rel1 := relV X.K) fun d r1 v G1 w1 H1 _ R1 S1 dv z1 => z1 σ G1 w1 H1 R1 (StpS.refl _ _ _))⟩
theorem s_pass : S1 T xt X (.Pass p) fun r => .nx r := fun W tk => ⟨_, ps_pass, fun B G w r σ H D R z => z σ G w H R (StpS.refl _ _ _)⟩
theorem s_brk : S1 T xt X (.Break p) fun r => .bk r := fun W tk => ⟨_, ps_break, fun B G w r σ H D R z => z σ G w H R (StpS.refl _ _ _)⟩
theorem s_cont : S1 T xt X (.Continue p) fun r => .ct r := fun W tk => ⟨_, ps_continue, fun B G w r σ H D R z => z σ G w H R (StpS.refl _ _ _)⟩
theorem s_ret (h : SE T xt X e va) : S1 T xt X (.Return (some e) p) fun r => (va r).out fun d r1 => .rt d r1 := by
  intro W tk
  obtain ⟨te, p1, q1⟩ := h W tk
  exact ⟨_, ps_ret p1, fun B G w r σ H D R z => q1 _ _ _ _ _ _ _ R (z.out (rel1 := relV X.K) fun d r1 v G1 w1 H1 _ R1 S1 dv z1 => z1 v σ G1 w1 H1 R1 (StpS.refl _ _ _) dv)⟩
theorem s_retN : S1 T xt X (.Return none p) fun r => .rt .none r := fun W tk => ⟨_, ps_retN, fun B G w r σ H D R z => z .non σ G w H R (StpS.refl _ _ _) .non⟩
theorem s_if {sa sb : List Stmt} {ft : Rho → Res Bool} {fa fb : Rho → Out} (hc : ST T xt X c ft) (ha : SS T xt X sa fa) (hb : SS T xt X sb fb) : S1 T xt X (.If c sa sb p) fun r => (ft r).out fun k r1 => if k then fa r1 else fb r1 := by
  intro W tk
  obtain ⟨tc, p1, q1⟩ := hc W tk
  obtain ⟨ta, p2, q2⟩ := ha W tk
  obtain ⟨tb, p3, q3⟩ := hb W tk
  refine ⟨_, ps_if p1 p2 p3, fun B G w r σ H D R z => q1 _ _ _ _ _ _ _ R (z.out (rel1 := relB) fun k r1 b G1 w1 H1 _ R1 S1 eb z1 => ?_)⟩
  obtain rfl : b = k := eb
  cases b with
  | true => exact q2 _ _ _ _ _ _ _ R1 z1
  | false => exact q3 _ _ _ _ _ _ _ R1 z1
/-- name += e, name -= e; of ints -/
def augOf : Bop → Option Operator
  | .add => some .Add
  | .sub => some .Sub
  | _ => none
theorem s_aug {i : Nat} {y : Str} {py : Pos} {o : Bop} {op : Operator} (h : SE T xt X e va) (hN : X.N.Nodup) (hi : X.N[i]? = some y) (hx : Loc X.env.scope y) (hf : X.fn y = true ∨ X.env.scope.names.lookup y = some .local) (ho : augOf o = some op) :
    S1 T xt X (.AugAssign (.Name y py) op e p) fun r => match r[i]? with
      | some (.val (.int x)) => (va r).out (augR i o x)
      | _ => .bad := by
  intro W tk
  obtain ⟨te, p1, q1⟩ := h W tk
  have go : ∀ (f : Int → Int → Int), PIp X op (ipI f) → (∀ x y r, augR i o x (.int y) r = .nx (r.set i (.val (.int (f x y))))) → (∀ x d r, (∀ y, d ≠ .int y) → augR i o x d r = .bad) → ∃ t : TS, PS X (.AugAssign (.Name y py) op e p) t ∧ ∀ B G w r σ H (D : Ends), RR X.K T B G w r σ H → QO X.K T xt B W G w H (match r[i]? with
      | some (.val (.int x)) => (va r).out (augR i o x)
      | _ => .bad) D → t D σ H := by
    intro f hp hf1 hf2
    refine ⟨_, ps_aug hN hi hx p1 hp hf, fun B G w r σ H D R z => ?_⟩
    cases ei : r[i]? with
    | none => rw [ei] at z; exact z.elim
    | some x =>
      rw [ei] at z
      have q := R.slot i x ei
      cases x with
      | un => exact z.elim
      | own _ => exact z.elim
      | io _ => exact z.elim
      | val d =>
        cases d <;> first | (exact z.elim) | skip
        rename_i x
        obtain ⟨_, v, h1, h2⟩ := q
        cases h2
        replace z : QO X.K T xt B W G w H ((va r).out (augR i o x)) D := z
        refine ⟨.int x, h1, q1 _ _ _ _ _ _ _ R (z.out (rel1 := relV X.K) fun d r1 v G1 w1 H1 _ R1 S1 dv z1 => ?_)⟩
        have dv : Dq X.K G1 v d := dv
        rcases Classical.em (∃ y, d = .int y) with ⟨y, rfl⟩ | nn
        · cases dv
          rw [hf1] at z1
          exact ⟨x, y, rfl, rfl, z1 _ _ _ _ (R1.bindv (.int _)) Stp.wset.s⟩
        · rw [hf2 _ _ _ fun y e => nn ⟨y, e⟩] at z1; exact z1.elim
  cases o <;> first | (cases ho; done) | skip
  · cases ho; exact go _ ip_add (fun _ _ _ => rfl) fun x d r h => by cases d <;> first | rfl | exact absurd rfl (h _)
  · cases ho; exact go _ ip_sub (fun _ _ _ => rfl) fun x d r h => by cases d <;> first | rfl | exact absurd rfl (h _)
end
end Rf
set_option Elab.async false
set_option linter.all false
set_option maxRecDepth 100000
set_option maxHeartbeats 1000000
namespace Rf
open PySem PySem.Spec PyProof.Rows L2 LamX
section
variable {T : List (Addr × Str)} {xt : XT} {X : Cx} {a b c e tg : Expr} {va vb vc : Rho → Res D} {p : Pos}
/-- two lists put together: a new one -/
def catG (x y : D) (r : Rho) : Res D := match x with
  | .list _ => opt (binD .add x y) r
  | _ => .bad
theorem sf_cat (ha : SE T xt X a va) (hb : SE T xt X b vb) : SF T xt X (.BinOp a .Add b p) fun r => (va r).bind fun x r1 => (vb r1).bind fun y r2 => catG x y r2 := by
  intro W tk
  obtain ⟨ta, pa, qa⟩ := ha W tk
  obtain ⟨tb, pb, qb⟩ := hb W tk
  refine ⟨tOp _ ta tb, pe_op op_cat pa pb, fun B G w r σ H Q R q => ?_⟩
  refine qa _ _ _ _ _ _ _ R (q.bind fun x r1 v G1 w1 H1 _ R1 S1 d1 q1 => ?_)
  refine qb _ _ _ _ _ _ _ R1 (q1.bind fun y r2 u G2 w2 H2 _ R2 S2 d2 q2 => ?_)
  have d1 : Dq X.K G1 v x := d1
  have d2 : Dq X.K G2 u y := d2
  have key : ∀ xs ys, x = .list xs → y = .list ys → QX X.K T xt B W (relN X.K B H) G2 w2 σ H2 (opt (binD .add (.list xs) (.list ys)) r2) Q → rCat v u H2 Q := by
    intro xs ys ex ey q2
    subst ex ey
    obtain ⟨d, ed, q3⟩ := q2.opt
    obtain ⟨z, rfl⟩ := ite_some (show (if fits (xs ++ ys) = true then some (PyData.list (xs ++ ys)) else Option.none) = some d from ed)
    have d1 := dp_sub S2.sub d1
    cases d1 with
    | lst h1 rr =>
      cases d2 with
      | lst h2 rr2 =>
        have hl := fits_le z
        rw [List.length_append] at hl
        refine ⟨_, _, _, _, rfl, rfl, R2.sub _ _ h1, R2.sub _ _ h2, by rw [dps_len rr, dps_len rr2]; exact Nat.le_of_lt (big_line hl), fun p hp => ?_⟩
        exact q3 _ _ _ _ (R2.off hp) ((Stp.refl _ _ _).late (Ob.non hp)) ⟨⟨p, _, _, rfl, rfl, R2.gnone hp, upd_same, R2.dom0 hp, fun i h => (by
          obtain ⟨_, _, us, h3⟩ := R2.fre i p h
          rw [hp] at h3; cases h3), dps_app rr rr2⟩, fun b e => by cases e; exact fun n => Ob.non hp ((S1.tr S2).dom p n)⟩
  clear d1 d2
  cases x <;> first | (exact q2.elim) | skip
  rename_i xs
  cases y <;> first | (exact q2.elim) | exact key _ _ rfl rfl q2
/-- list(x): a new one -/
theorem sf_list {oa : Rho → Res D} {ag : Rho → D → Option D} {pn : Pos} (hg : Gl X "list") (hm : X.mg "list" = none) (h : SO T xt X a oa ag) (hs : noStar a = true) :
    SF T xt X (.Call (.Name "list" pn) [a] [] p) fun r => (oa r).bind fun y r1 => opt (biD .list y) r1 := by
  intro W tk
  obtain ⟨t, p1, q1⟩ := h W tk
  refine ⟨_, pe_callTy call_list_of hg hm (by rfl) (pa_cons p1 pa_nil (star_one a [] X.env hs)) (by decide) (by decide) (star_one a [] X.env hs) rfl, fun B G w r σ H Q R z => q1 _ _ _ _ _ _ _ R (z.bind fun x r1 v G1 w1 H1 _ R1 S1 d1 z1 => ?_)⟩
  obtain ⟨d, ed, z2⟩ := z1.opt
  have hd : DqO X.K G1 H1 v x := d1.1
  have fin : ∀ (ds : List D) (vs : List V), d = .list ds → DqAll X.K G1 vs ds → ∀ p, H1 p = none → Q (.ref p) (upd H1 p (.lst vs)) := by
    intro ds vs e h2 p hp
    subst e
    exact z2 _ _ _ _ (R1.off hp) ((Stp.refl _ _ _).late (Ob.non hp)) ⟨⟨p, _, _, rfl, rfl, R1.gnone hp, upd_same, R1.dom0 hp, fun i h => (by
      obtain ⟨_, _, us, h3⟩ := R1.fre i p h
      rw [hp] at h3; cases h3), h2⟩, fun b e => by cases e; exact fun n => Ob.non hp (S1.dom p n)⟩
  cases x <;> first | (cases ed; done) | skip
  · cases ed
    obtain ⟨a, vs, rfl, h1, h2⟩ := hd.list R1.sub
    exact ⟨a, vs, rfl, .inl (.inl (.inl h1)), fun p hp => fin _ _ rfl h2 p hp⟩
  · cases ed
    obtain ⟨a, vs, rfl, h0, h1, h2⟩ := hd.tuple R1.sub
    exact ⟨a, vs, rfl, .inr h1, fun p hp => fin _ _ rfl h2 p hp⟩
end
end Rf
set_option Elab.async false
set_option linter.all false
set_option maxRecDepth 100000
set_option maxHeartbeats 1000000
namespace Rf
open PySem PySem.Spec PyProof.Rows L2 LamX
section
variable {T : List (Addr × Str)} {xt : XT} {X : Cx} {a b c e tg : Expr} {va vb vc : Rho → Res D} {p : Pos} {st : Stmt} {rest : List Stmt} {f g : Rho → Out}
theorem s_for {body : List Stmt} {t : Tg} {fi : Rho → Res (List D)} {fb : Rho → Out} (hp : PassesOwn (model X.prog X.w) X.A X.env X.xe) (hc : X.calm = true) (hi : SI T xt X tg e fi) (hg : PG X tg (gOf X.K t)) (hb : SS T xt X body fb) (hs : ∀ x, foldedSetIterable e X.env x = pure x) :
    S1 T xt X (.For tg e body [] p) fun r => (fi r).out fun xs r1 => forLoop (forB t fb) xs r1 := by
  intro W tk
  obtain ⟨ti, p1, q1⟩ := hi W tk
  obtain ⟨tb, p2, q2⟩ := hb W tk
  refine ⟨_, ps_for hp hc p1 hg p2 hs, fun B G w r σ H D R z => q1 _ _ _ _ _ _ _ R (z.out fun xs r1 J G1 w1 H1 _ R1 S1 wk z1 => ?_)⟩
  have wk : Wk X.K T B J G1 xs := wk
  refine ⟨fun i m σ H => ∃ G w r, i + m = xs.length ∧ RR X.K T B G w r σ H ∧ Sub G1 G ∧ QO X.K T xt B W G w H (forLoop (forB t fb) (xs.drop i) r) D, ⟨xs.length, G1, w1, r1, Nat.zero_add _, R1, Sub.rfl' _, z1⟩, ?_⟩
  rintro i m σ H ⟨G, w, r, him, R, S, q⟩
  have k := wk G w r σ H R S i
  cases hx : xs[i]? with
  | none =>
    refine .inl ⟨k.2 hx, ?_⟩
    have : xs.drop i = [] := List.drop_eq_nil_iff.mpr (List.getElem?_eq_none_iff.mp hx)
    rw [this] at q
    exact q σ G w H R (StpS.refl _ _ _)
  | some x =>
    obtain ⟨go, sx⟩ := k.1 x hx
    have hd : xs.drop i = x :: xs.drop (i + 1) := by
      obtain ⟨hlt, e2⟩ := List.getElem?_eq_some_iff.mp hx
      rw [← e2]
      exact List.drop_eq_getElem_cons hlt
    have hlt : i < xs.length := (List.getElem?_eq_some_iff.mp hx).1
    rw [hd] at q
    refine .inr ⟨go, fun σ' H' => ∃ m', m' < m ∧ ∃ G w r, (i + 1) + m' = xs.length ∧ RR X.K T B G w r σ' H' ∧ Sub G1 G ∧ QO X.K T xt B W G w H' (forLoop (forB t fb) (xs.drop (i + 1)) r) D, fun _ _ h => h, fun v H3 y => ?_⟩
    obtain ⟨G3, R3, S3, dv⟩ := sx v H3 y
    have q := q.after S3.s
    have q : QO X.K T xt B W G3 w H3 (match forB t fb x r with
      | .nx r1 => forLoop (forB t fb) (xs.drop (i + 1)) r1
      | .ct r1 => forLoop (forB t fb) (xs.drop (i + 1)) r1
      | .bk r1 => .nx r1
      | o => o) D := q
    cases ea : asgT t x r with
    | none =>
      have : forB t fb x r = .bad := by unfold forB; rw [ea]
      rw [this] at q
      exact q.elim
    | some r3 =>
      have eb : forB t fb x r = fb r3 := by unfold forB; rw [ea]
      rw [eb] at q
      refine asg_ok t R3 dv ea fun σ2 w2 R4 S4 _ _ => ?_
      have q := q.after S4.s
      refine q2 _ _ _ _ _ _ _ R4 ?_
      cases eo : fb r3 with
      | nx r4 =>
        rw [eo] at q
        exact fun σ' G' w' H' R' S' => ⟨m - 1, by omega, G', w', r4, by omega, R', (S.tr S3.sub).tr S'.sub, QO.after q S'⟩
      | ct r4 =>
        rw [eo] at q
        exact fun σ' G' w' H' R' S' => ⟨m - 1, by omega, G', w', r4, by omega, R', (S.tr S3.sub).tr S'.sub, QO.after q S'⟩
      | bk r4 => rw [eo] at q; exact q
      | rt d r4 => rw [eo] at q; exact q
      | exc x d r4 => rw [eo] at q; exact q
      | bad => rw [eo] at q; exact q.elim
theorem s_whl {body : List Stmt} {n : Nat} {ft : Rho → Res Bool} {fb : Rho → Out} (hp : PassesOwn (model X.prog X.w) X.A X.env X.xe) (hc : ST T xt X c ft) (hb : SS T xt X body fb) : S1 T xt X (.While c body [] p) fun r => whlLoop ft fb n r := by
  intro W tk
  obtain ⟨tc, p1, q1⟩ := hc W tk
  obtain ⟨tb, p2, q2⟩ := hb W tk
  refine ⟨_, ps_while hp p1 p2, fun B G w r σ H D R z => ?_⟩
  refine ⟨fun m σ H => ∃ G w r, RR X.K T B G w r σ H ∧ QO X.K T xt B W G w H (whlLoop ft fb m r) D, ⟨n, G, w, r, R, z⟩, ?_⟩
  rintro m σ H ⟨G, w, r, R, q⟩
  cases m with
  | zero => exact q.elim
  | succ m =>
    have q : QO X.K T xt B W G w H ((ft r).out fun k r1 => if k then (match fb r1 with
      | .nx r2 => whlLoop ft fb m r2
      | .ct r2 => whlLoop ft fb m r2
      | .bk r2 => .nx r2
      | o => o) else .nx r1) D := q
    refine q1 _ _ _ _ _ _ _ R (q.out (rel1 := relB) fun k r1 b G1 w1 H1 _ R1 S1 eb z1 => ?_)
    obtain rfl : b = k := eb
    cases b with
    | false => exact z1 σ G1 w1 H1 R1 (StpS.refl _ _ _)
    | true =>
      have z1 : QO X.K T xt B W G1 w1 H1 (match fb r1 with
      | .nx r2 => whlLoop ft fb m r2
      | .ct r2 => whlLoop ft fb m r2
      | .bk r2 => .nx r2
      | o => o) D := z1
      rw [if_pos rfl]
      refine ⟨fun σ' H' => ∃ m', m' < m + 1 ∧ ∃ G w r, RR X.K T B G w r σ' H' ∧ QO X.K T xt B W G w H' (whlLoop ft fb m' r) D, fun _ _ h => h, q2 _ _ _ _ _ _ _ R1 ?_⟩
      cases eo : fb r1 with
      | nx r4 => rw [eo] at z1; exact fun σ' G' w' H' R' S' => ⟨m, Nat.lt_succ_self _, G', w', r4, R', QO.after z1 S'⟩
      | ct r4 => rw [eo] at z1; exact fun σ' G' w' H' R' S' => ⟨m, Nat.lt_succ_self _, G', w', r4, R', QO.after z1 S'⟩
      | bk r4 => rw [eo] at z1; exact z1
      | rt d r4 => rw [eo] at z1; exact z1
      | exc x d r4 => rw [eo] at z1; exact z1
      | bad => rw [eo] at z1; exact z1.elim
end
end Rf
set_option Elab.async false
set_option linter.all false
set_option maxRecDepth 100000
set_option maxHeartbeats 1000000
namespace Rf
open PySem PySem.Spec PyProof.Rows L2 LamX
/-! ### a def, by its body -/
section
variable {K : PySem.W.Frag} {T : List (Addr × Str)} {xt : XT}
theorem start_get {N : List Str} {vs : List V} {i : Nat} {v : V} (h : vs[i]? = some v) : (L2.start N vs)[i]? = some (some v) := by
  unfold L2.start
  obtain ⟨hl, e⟩ := List.getElem?_eq_some_iff.mp h
  rw [List.getElem?_append_left (by rw [List.length_map]; exact hl), List.getElem?_map, h]
  rfl
theorem start_len {N : List Str} {vs : List V} (h : vs.length ≤ N.length) : (L2.start N vs).length = N.length := by
  unfold L2.start
  rw [List.length_append, List.length_map, List.length_replicate]
  omega
theorem rr_start0 {N : List Str} {G H : Hp} {vs : List V} {ds : List D} (hn : vs.length ≤ N.length) (s : Sub G H) (t : Tabs T H) (nt : NT G) (hd : DqAll K G vs ds) : RR K T ⟨G, H, none⟩ G (fun _ => none) (start0 N.length none ds []) (L2.start N vs) H := by
  have hl := dps_len hd
  refine ⟨s, t, nt, fun a o h _ _ => h, fun a h => h, fun a h => .inl h, Sub.rfl' _, fun i j a h _ => (nomatch h), fun i a h => (nomatch h), fun i x e => ?_, fun _ _ => rfl, ?_⟩
  · have e : (ds.map Slot.val ++ List.replicate (N.length - ds.length) Slot.un)[i]? = some x := e
    by_cases q : i < ds.length
    · rw [List.getElem?_append_left (by rw [List.length_map]; exact q), List.getElem?_map, List.getElem?_eq_getElem q] at e
      cases e
      obtain ⟨v, h1, h2⟩ := dps_get i hd (List.getElem?_eq_getElem q)
      exact ⟨rfl, v, start_get h1, h2⟩
    · rw [List.getElem?_append_right (by rw [List.length_map]; omega), List.getElem?_replicate] at e
      split at e
      · cases e; rfl
      · cases e
  · rw [start_len hn]
    show _ = (ds.map Slot.val ++ List.replicate (N.length - ds.length) Slot.un).length
    rw [List.length_append, List.length_map, List.length_replicate]
    omega
theorem eraseIdx_lt {α : Type} {l : List α} {k i : Nat} (h : i < k) : (l.eraseIdx k)[i]? = l[i]? := List.getElem?_eraseIdx_of_lt h
theorem eraseIdx_ge {α : Type} {l : List α} {k i : Nat} (h : k ≤ i) : (l.eraseIdx k)[i]? = l[i + 1]? := List.getElem?_eraseIdx_of_ge h
theorem start0_io {n k : Nat} {ds cs : List D} {i : Nat} {x : Slot} (hk : k ≤ ds.length) (e : (start0 n (some k) ds cs)[i]? = some x) : (i < k ∧ ∃ d, ds[i]? = some d ∧ x = .val d) ∨ (i = k ∧ x = .io cs) ∨ (k < i ∧ ∃ d, ds[i - 1]? = some d ∧ x = .val d) ∨ (ds.length < i ∧ x = .un) := by
  have e : ((ds.take k).map Slot.val ++ [Slot.io cs] ++ (ds.drop k).map Slot.val ++ List.replicate (n - (ds.length + 1)) Slot.un)[i]? = some x := e
  have l1 : ((ds.take k).map Slot.val).length = k := by rw [List.length_map, List.length_take]; omega
  have l2 : ((ds.take k).map Slot.val ++ [Slot.io cs]).length = k + 1 := by rw [List.length_append, l1]; rfl
  have l3 : ((ds.take k).map Slot.val ++ [Slot.io cs] ++ (ds.drop k).map Slot.val).length = ds.length + 1 := by rw [List.length_append, l2, List.length_map, List.length_drop]; omega
  by_cases q : i < ds.length + 1
  · rw [List.getElem?_append_left (by rw [l3]; exact q)] at e
    by_cases q2 : i < k + 1
    · rw [List.getElem?_append_left (by rw [l2]; exact q2)] at e
      by_cases q3 : i < k
      · rw [List.getElem?_append_left (by rw [l1]; exact q3), List.getElem?_map, List.getElem?_take_of_lt q3] at e
        cases z : ds[i]? with
        | none => rw [z] at e; cases e
        | some d => rw [z] at e; cases e; exact .inl ⟨q3, d, rfl, rfl⟩
      · have : i = k := by omega
        subst this
        rw [List.getElem?_append_right (by rw [l1]; omega), l1, Nat.sub_self] at e
        cases e
        exact .inr (.inl ⟨rfl, rfl⟩)
    · rw [List.getElem?_append_right (by rw [l2]; omega), l2, List.getElem?_map, List.getElem?_drop] at e
      have : k + (i - (k + 1)) = i - 1 := by omega
      rw [this] at e
      cases z : ds[i - 1]? with
      | none => rw [z] at e; cases e
      | some d => rw [z] at e; cases e; exact .inr (.inr (.inl ⟨by omega, d, rfl, rfl⟩))
  · rw [List.getElem?_append_right (by rw [l3]; omega), List.getElem?_replicate] at e
    split at e
    · cases e; exact .inr (.inr (.inr ⟨by omega, rfl⟩))
    · cases e
theorem start0_len {n k : Nat} {ds cs : List D} (hk : k ≤ ds.length) (hn : ds.length + 1 ≤ n) : (start0 n (some k) ds cs).length = n := by
  show ((ds.take k).map Slot.val ++ [Slot.io cs] ++ (ds.drop k).map Slot.val ++ List.replicate (n - (ds.length + 1)) Slot.un).length = n
  simp only [List.length_append, List.length_map, List.length_take, List.length_drop, List.length_replicate, List.length_cons, List.length_nil]
  omega
theorem rr_start1 {N : List Str} {G H : Hp} {vs ws : List V} {ds cs : List D} {k : Nat} {a : Addr} (hn : vs.length ≤ N.length) (s : Sub G H) (t : Tabs T H) (nt : NT G) (ha : vs[k]? = some (.ref a)) (hd : DqAll K G (vs.eraseIdx k) ds) (hw : H a = some (.lst ws)) (hc : DqAll K G ws cs) (hg : G a = none) :
    RR K T ⟨G, H, some a⟩ G (fun i => if i = k then some a else none) (start0 N.length (some k) ds cs) (L2.start N vs) H := by
  have hkv := (List.getElem?_eq_some_iff.mp ha).1
  have hl := dps_len hd
  rw [List.length_eraseIdx_of_lt hkv] at hl
  have hk : k ≤ ds.length := by omega
  have wk : ∀ i b, (if i = k then some a else none) = some b → i = k ∧ b = a := fun i b h => by
    by_cases q : i = k
    · rw [if_pos q] at h; cases h; exact ⟨q, rfl⟩
    · rw [if_neg q] at h; cases h
  refine ⟨s, t, nt, fun b o h _ _ => h, fun b h => h, fun b h => .inl h, Sub.rfl' _, fun i j b h1 h2 => by rw [(wk i b h1).1, (wk j b h2).1], fun i b h => ?_, fun i x e => ?_, fun i e => ?_, ?_⟩
  · rw [(wk i b h).2]
    exact ⟨hg, .inr rfl, ws, hw⟩
  · rcases start0_io hk e with ⟨q, d, e1, rfl⟩ | ⟨rfl, rfl⟩ | ⟨q, d, e1, rfl⟩ | ⟨q, rfl⟩
    · obtain ⟨v, h1, h2⟩ := dps_get i hd e1
      rw [eraseIdx_lt q] at h1
      exact ⟨if_neg (by omega), v, start_get h1, h2⟩
    · exact ⟨a, ws, if_pos rfl, rfl, start_get ha, hw, hc⟩
    · obtain ⟨v, h1, h2⟩ := dps_get (i - 1) hd e1
      rw [eraseIdx_ge (by omega), show i - 1 + 1 = i from by omega] at h1
      exact ⟨if_neg (by omega), v, start_get h1, h2⟩
    · exact if_neg (by omega)
  · have := List.getElem?_eq_none_iff.mp e
    rw [start0_len hk (by omega)] at this
    exact if_neg (by omega)
  · rw [start_len hn, start0_len hk (by omega)]
/-- what a body leaves is what a def promises -/
theorem pst_of {j : Option Nat} {vs : List V} {G H G' H' : Hp} {w' : Wn} {r' : Rho} {σ' : L2.St} {cs' : List D} (R : RR K T ⟨G, H, lentOf j vs⟩ G' w' r' σ' H') (e : ioAt j r' = some cs') : Pst K T (lentOf j vs) cs' G H G' H' := by
  refine ⟨R.sub0, R.sub, R.grow, fun a o h n k => R.ent a o h n k, R.dom, R.tabs, R.nt, fun a ha => ?_⟩
  cases j with
  | none => cases ha
  | some k =>
    unfold ioAt at e
    cases z : r'[k]? with
    | none => simp only [z] at e; cases e
    | some x =>
      simp only [z] at e
      have q := R.slot k x z
      cases x with
      | io cs =>
        cases e
        obtain ⟨b, ws, _, h1, _, h2, h3⟩ := q
        have h1 : lentOf (some k) vs = some b := h1
        rw [ha] at h1
        cases h1
        exact ⟨ws, h2, h3⟩
      | _ => cases e
variable {P : Program} {w : World} {mg : Str → Option Value} {base : Heap}
theorem fnS_of {x qual : Str} {st : Stmt} {f : Addr} {fd : FuncData} {N ps : List Str} {lv : Nat} {j : Option Nat} {F : Nat → Fn} {b : S} (Fu : L2.Fun K x qual st f fd) (S : FnScope N ps (defScope st)) (hm : mg x = some (.ref f)) (hb : L2.Binds K fd ps [])
    (hbody : ∀ (cdv : Value) (A : Around) (outer : List Env) (s : Shared) (H : Hp) (E : XK), Room lv (A.deeper (envOfC qual (defScope st) s.heap.objs.size f cdv)) → SS T xt (cxOf (L2.CX P w) P w K mg base N qual (defScope st) f cdv A outer s H E) (defBody st) (exec F b)) :
    FnS T xt P w K mg base (lv + 1) x (runF F b N.length ps.length j) ps.length j := by
  have hpN : ps.length ≤ N.length := by
    have := congrArg List.length S.pre
    rw [List.length_take] at this
    omega
  refine ⟨⟨f, fd, ps, Fu.okX S (fun vs H Q E h => h.1) fun cdv A outer s H vs Q E hr hsp => ?_, hm, Fu.kp, hb⟩, fun ds cs h => ?_⟩
  · obtain ⟨t, p, q⟩ := hbody cdv A outer s H E hr (fun cls d _ H => E cls d H) (takes_of rfl rfl rfl rfl)
    refine ⟨t, p, ?_⟩
    obtain ⟨hl, G, ds, cs, hs, ht, hnt, ha, hφ⟩ := hsp
    unfold runF at hφ
    by_cases hk : ds.length + (if j.isSome then 1 else 0) = ps.length
    · rw [if_pos hk] at hφ
      have key : ∀ (w : Wn), RR K T ⟨G, H, lentOf j vs⟩ G w (start0 N.length j ds cs) (L2.start N vs) H → QO K T xt ⟨G, H, lentOf j vs⟩ (fun cls d _ H => E cls d H) G w H (exec F b (start0 N.length j ds cs)) { nx := fun _ H' => Q .non H', rt := Q } := by
        intro w R
        cases eo : exec F b (start0 N.length j ds cs) with
        | nx r' =>
          simp only [eo] at hφ
          cases ei : ioAt j r' with
          | none => simp only [ei] at hφ
          | some cs' =>
            simp only [ei] at hφ
            exact fun σ' G' w' H' R' _ => hφ .non G' H' (pst_of R' ei) .non
        | rt d r' =>
          simp only [eo] at hφ
          cases ei : ioAt j r' with
          | none => simp only [ei] at hφ
          | some cs' =>
            simp only [ei] at hφ
            exact fun v σ' G' w' H' R' _ dv => hφ v G' H' (pst_of R' ei) dv
        | bk r' => simp only [eo] at hφ
        | ct r' => simp only [eo] at hφ
        | bad => simp only [eo] at hφ
        | exc x d r' =>
          simp only [eo] at hφ
          cases j with
          | some k => simp only [Option.isSome_some, if_true] at hφ
          | none =>
            simp only [Option.isSome_none, Bool.false_eq_true, if_false] at hφ
            exact fun c f dx v σ' G' w' H' hx R' _ hdx dv => hφ.2 c f dx v G' H' hx (Pst.plain (pst_of (cs' := []) R' rfl)) hdx dv
      cases j with
      | none =>
        obtain ⟨hd, rfl⟩ := ha
        have R := rr_start0 (K := K) (T := T) (N := N) (by omega) hs ht hnt hd
        exact q _ _ _ _ _ _ _ R (key _ R)
      | some k =>
        obtain ⟨a, ws, h1, h2, h3, h4, h5⟩ := ha
        have R := rr_start1 (K := K) (T := T) (N := N) (cs := cs) (by omega) hs ht hnt h1 h2 h3 h4 h5
        have el : lentOf (some k) vs = some a := by unfold lentOf; simp only [h1]
        rw [el] at key
        exact q _ _ _ _ _ _ _ R (key _ R)
    · rw [if_neg hk] at hφ
      exact hφ.elim
  · unfold runF at h
    by_cases hk : ds.length + (if j.isSome then 1 else 0) = ps.length
    · exact hk
    · rw [if_neg hk] at h; exact absurd rfl h
end
end Rf
set_option Elab.async false
set_option linter.all false
set_option maxRecDepth 100000
set_option maxHeartbeats 4000000
/-! own classes over own classes over Exception, with an __init__ of their own -/
namespace Rf
open PySem PySem.Spec PyProof.Rows L2 LamX
abbrev exT : List Value := [.type "Exception", .type "BaseException", .type "object"]
/-- own classes, then Exception's line -/
def refsX : List Value → Bool
  | .ref _ :: r => refsX r
  | l => decide (l = exT)
theorem refsX_cases : ∀ {l : List Value}, refsX l = true → (∃ c r, l = .ref c :: r ∧ refsX r = true) ∨ l = exT := by
  intro l h
  cases l with
  | nil => exact .inr (of_decide_eq_true h)
  | cons a r =>
    cases a <;> first | exact .inl ⟨_, _, rfl, h⟩ | exact .inr (of_decide_eq_true h)
theorem refsX_has (x : String) : ∀ {l : List Value}, refsX l = true → l.contains (.type x) = exT.contains (.type x)
  | [], h => absurd (of_decide_eq_true h : ([] : List Value) = exT) (by simp)
  | a :: r, h => by
    rcases refsX_cases h with ⟨c, r', e, h'⟩ | e
    · cases e
      rw [List.contains_cons, refsX_has x h']
      rfl
    · rw [e]
theorem refsX_pass (self : Value) : ∀ {l : List Value}, refsX l = true → refuseLoop self "__setattr__" l = pure ()
  | [], h => absurd (of_decide_eq_true h : ([] : List Value) = exT) (by simp)
  | a :: r, h => by
    rcases refsX_cases h with ⟨c, r', e, h'⟩ | e
    · cases e
      rw [refuseLoop_ref]
      exact refsX_pass self h'
    · rw [e]
      exact F.store_Exception.passes self
section
open Builtin Builtin.ObjectAttr
variable {prog : Program} {w : World} {A : Around} {R : Result → Shared → Prop} {hp : Heap} {g : Array GenState} {d : Drawn} {t : Nat} {os : OsState}
theorem setx_new {K : W.Frag} {f : Str} {tk : Tok} {v : Value} {x C : Addr} {fv : Array Value} {cd : ClassData} (KX : K.In hp) (hx : hp.get? x = some { cls := .ref C, data := .fields fv }) (hcd : W.clsIn K C = some cd) (hm : refsX cd.mro = true) (hh : cd.hasDict = true)
    (ha : W.findIn K (.ref C) f = some none)
    (fin : ∀ h' tk' dx, (∀ b o, b ≠ x → hp.get? b = some o → h'.get? b = some o) → hp.objs.size ≤ dx → dx ≠ x → h'.get? x = some { cls := .ref C, dict := some dx, data := .fields fv } → h'.Ns1 dx (fun y => if y = f then some v else none) → R (.ok (.ret .none)) ⟨h', g, d, tk', os⟩) :
    codeAny (model prog w) A (.call (.builtin "object.__setattr__") ⟨[.ref x, .str f tk, v], []⟩) R ⟨hp, g, d, t, os⟩ := by
  have inst : W.InstAt hp x { cls := .ref C, data := .fields fv } C none := ⟨hx, rfl, rfl, trivial⟩
  have nx : x ≠ hp.objs.size := Nat.ne_of_lt (Heap.lt_size hx)
  have facts := F.store_object
  have hobj : W.mroIn K C (.type "object") = some true := by
    unfold W.mroIn
    have nb : cd.mro.isEmpty = false := by
      cases q : cd.mro with
      | nil => rw [q] at hm; exact absurd (of_decide_eq_true hm : ([] : List Value) = exT) (by simp)
      | cons _ _ => rfl
    rw [hcd, Option.bind_some, if_neg (by rw [nb]; decide), refsX_has "object" hm]
    decide +kernel
  have isobj : W.Looks (model prog w) hp (isInstance (.ref x) (.type "object")) true := inst.type.andThen (W.looks_mroIn KX hobj)
  refine codeAny_call_builtin facts.slot.plain facts.entry (@W.check_slot (model prog w) _ _ ⟨hp, g, d, t, os⟩ "object.__setattr__" "object" "__setattr__" (.ref x) [.str f tk, v] [] _ facts.kind facts.split isobj (facts.args (.ref x) (.str f tk) v) ?_)
  have lm : W.Looks (model prog w) hp (mroOf (.ref C)) cd.mro := (W.looks_clsIn KX hcd).andThen .now
  have lt : W.Looks (model prog w) hp (storeTaker? none) none := .now
  have lc : W.Looks (model prog w) hp (classData C) cd := W.looks_clsIn KX hcd
  rw [W.osa_eq, refuse_eq]
  refine wpAny_bind (wpAny_bind (inst.type.at (wpAny_bind (lm.at ?_))))
  rw [refsX_pass (Value.ref x) hm]
  refine wpAny_pure (wpAny_bind (inst.type.at (wpAny_bind ((W.looks_findIn KX ha).at (wpAny_bind (lt.at ?_))))))
  show wpAny _ _ (storeInOwnDict (.ref x) (.ref C) (.str f tk) f v false) _ _ _
  obtain ⟨n1, n2, mro, n4, n5, hd, n7, n8, n9, n10, n11⟩ := cd
  dsimp only at hh
  subst hh
  unfold storeInOwnDict ownDictForStores
  repeat (first | with_reducible refine HandSPX.store_in_new ?_ ?_ | with_reducible refine wpAny_loadPart_at hx ?_ | with_reducible refine lc.at ?_ | wp_step)
  · exact ⟨_, #[], _, (Heap.get?_update_ne _ _ _ _ nx.symm).trans (Heap.get?_push_at rfl rfl), rfl, fun e he => absurd he (by simp), fun _ => rfl⟩
  · intro h' tk' hn' hs
    have hx₁ : (hp.push { cls := .type "dict", data := .dict #[] }).get? x = some { cls := .ref C, data := .fields fv } := Heap.get?_push_of_some _ hx
    refine fin h' tk' hp.objs.size (fun b o hb ho => ?_) (Nat.le_refl _) nx.symm ?_ hn'
    · exact (hs.2 b (Nat.ne_of_lt (Heap.lt_size ho))).trans ((Heap.get?_update_ne _ _ _ _ hb).trans (Heap.get?_push_of_some _ ho))
    · exact (hs.2 x nx).trans (Heap.get?_update_self _ hx₁ rfl)
end
/-- what the written part says of such a class; f: the one field that its __init__ sets -/
structure ExC (K : PySem.W.Frag) (C : Addr) (f : Str) : Prop where
  cls : ∃ nm q N bs bm sn sub ab col dd k0 k1 k2 k3 k5, K.lookup C = some (excClassObj nm q C N bs bm true sn sub ab col dd k0 k1 k2 k3 k5 "Exception.__new__") ∧ refsX bm = true
  sa : PySem.W.findIn K (.ref C) "__setattr__" = some (some (.builtin "object.__setattr__"))
  no : PySem.W.findIn K (.ref C) f = some none
  exC : PySem.W.subIn K (.ref C) (.type "BaseException") = some true
  tyC : PySem.W.typeIn K (.ref C) = some (.type "type")
  kC : PySem.W.keepIn K (.ref C) = true
section
variable {X : Cx} {pins : List (Addr × Obj)} {σ : L2.St} {H : Hp} {s : Shared} {a C : Addr} {f : Str} {y : V} {u : Value} {Q : Unit → Shared → Prop} {E : Value → Shared → Prop} {A : Around}
theorem ostx_new (T : ExC X.K C f) (I : Inv X pins σ H s) (e : H a = some (exo a C none)) (ry : RelV y u)
    (h : ∀ dx s', H dx = none → dx ≠ a → Inv X pins σ (upd (upd H dx (exd dx [(f, y)])) a (exo a C (some dx))) s' → Q () s') : wpAny (model X.prog X.w) A (setAttr (.ref a) f u) Q E s := by
  obtain ⟨nm, q, N, bs, bm, sn, sub, ab, col, dd, k0, k1, k2, k3, k5, hC, hbm⟩ := T.cls
  have hcl : PySem.W.clsIn X.K C = some { name := nm, bases := bs, mro := .ref C :: bm, ns := N, qualname := q, hasDict := true, slotNames := sn, subclasses := sub, abstract := ab, collection := col, hasDel := false } := by unfold PySem.W.clsIn; rw [hC] <;> rfl
  obtain ⟨t1, ho⟩ := exo_at I.hok e
  obtain ⟨hp, g, d, t, os⟩ := s
  refine PySem.W.set_plain I.kIn (ox := { cls := .ref C, dict := none, data := .fields #[.ref t1, .none, .none, .none, .bool false, .none] }) (od := none) ⟨ho, rfl, rfl, trivial⟩ T.sa ?_
  refine setx_new I.kIn ho hcl (show refsX (.ref C :: bm) = true from hbm) rfl T.no fun h' tk' dx k dn dne hx hn => ?_
  have fresh : H dx = none := I.hok.fresh dn
  have old : ∀ {b : Addr} {o : Obj}, hp.get? b = some o → b ≠ dx := fun {b o} z => Nat.ne_of_lt (Nat.lt_of_lt_of_le (Heap.lt_size z) dn)
  have apart : ∀ {b : Addr}, H b = none → b ≠ a := fun {b} n z => by rw [z, e] at n; cases n
  have U : Un X.fs [] H (upd (upd H dx (exd dx [(f, y)])) a (exo a C (some dx))) hp h' := {
    keep := fun b o z n _ _ => k b o (apart n) z
    slot := fun b o z n _ _ => ⟨o.slots, k b o (apart n) z⟩
    free := fun b o z n _ => by rw [upd_ne (apart n), upd_ne (old z)]; exact n
    there := fun b o z _ => by
      rcases Classical.em (b = a) with hb | hb
      · exact ⟨_, by rw [hb]; exact hx⟩
      · exact ⟨o, k b o hb z⟩
    tups := fun b xs z => by rw [upd_ne (at_ne e z exo_tup), upd_ne (ne_of_none z fresh)]; exact z
    frzs := fun b o v z => by rw [upd_ne (at_ne e z exo_frz), upd_ne (ne_of_none z fresh)]; exact z
    tbls := fun b ps z => ⟨#[], by rw [upd_ne (at_ne e z exo_tbl), upd_ne (ne_of_none z fresh), z]; simp⟩ }
  refine h dx _ fresh dne (I.un (t' := tk') U fun b o z => ?_)
  by_cases hb : b = a
  · subst hb
    rw [upd_same] at z
    cases z
    exact exo_ok hx
  · rw [upd_ne hb] at z
    by_cases hd : b = dx
    · subst hd
      rw [upd_same] at z
      cases z
      exact exd_ok hn (relO_put (fs := []) ry fun g => True.intro)
    · rw [upd_ne hd] at z
      refine (I.hok b o z).stay (fun c v hc r => k c v ?_ r) (fun c hc => ?_) fun c xs hc => ?_
      · rcases hc with hc | hc
        · rw [hc]; exact hb
        · exact at_ne e hc exo_own
      · rw [upd_ne (at_ne e hc exo_own), upd_ne (ne_of_none hc fresh)]; exact hc
      · rw [upd_ne (at_ne e hc exo_tup), upd_ne (ne_of_none hc fresh)]; exact hc
end
/-- C(e, ..): what is asked -/
def tMkX (C : Addr) (sp : Sp) (ta : TA) : L2.St → Hp → XK → Prop := fun σ H Q => ta σ H fun vs H1 => vs.length ≤ 1000 ∧ ∀ a, H1 a = none → sp (.ref a :: vs) (upd H1 a (exo a C none))
  (fun v H2 => v = .non ∧ ∃ (d : Addr) (fs : List (Str × V)), H2 a = some (exo a C (some d)) ∧ H2 d = some (exd d fs) ∧ ¬Ob H1 d ∧ Q (.ref C) (some d) (upd (del H2 a) d (.xd fs))) (fun _ _ _ => False)
/-- self.f = e -/
def tOstX (K : PySem.W.Frag) (f : Str) (to te : TE) : TS := fun D σ H => te σ H fun y H1 => to σ H1 fun x H2 => ∃ a C : Addr, x = .ref a ∧ ExC K C f ∧ H2 a = some (exo a C none) ∧ ∀ dx, H2 dx = none → dx ≠ a → D.nx σ (upd (upd H2 dx (exd dx [(f, y)])) a (exo a C (some dx)))
section
variable {X : Cx} {o e : Expr} {es : List Expr} {to te : TE} {ta : TA} {f : Str} {p p' pos : Pos}
theorem ps_ostx (ho : PE X o to) (he : PE X e te) (hs : swapsWith e (some (.Attribute o f p')) pos.line X.env = pure false) : PS X (.Assign [.Attribute o f p'] e pos) (tOstX X.K f to te) := by
  refine ⟨fun pins s σ H D I h => ?_⟩
  refine plainObj_wpAny_Assign_Attribute (thn (he.run pins s σ H _ I h) fun v s1 h1 => ?_) hs
  obtain ⟨y, H1, I1, r1, q1⟩ := h1
  refine thn (ho.run pins s1 σ H1 _ I1 q1) fun u s2 h2 => ?_
  obtain ⟨x, H2, I2, r2, a, C, ex, T, ea, q⟩ := h2
  subst ex
  obtain rfl : u = Value.ref a := r2
  exact ostx_new T I2 ea r1 fun dx s' n ne J => ⟨σ, _, J, q dx n ne⟩
/-- C(e, ..), the own __init__ keeping sp -/
theorem pmk_x {CX : CXT} {x : Str} {C fI : Addr} {k : Nat} {fd : FuncData} {ps : List Str} {sp : Sp} (T : ExC X.K C f) (iC : PySem.W.findIn X.K (.ref C) "__init__" = some (some (.ref fI))) (tI : PySem.W.typeIn X.K (.ref fI) = some (.type "function"))
    (F1 : FnOk X.prog X.w X.K X.mg X.base CX k fI fd ps sp) (hr : Room (k + 1) X.A) (hb : L2.Binds X.K fd ps []) (hx : Passes CX X (fun _ _ _ => False)) (hg : Gl X x) (hm : X.mg x = some (.ref C)) (ha : PA X (e :: es) ta)
    (hdb : (x == ("__debug__" : Str)) = false) (he : starEach (e :: es) X.env = (false, eval e X.env) :: starEach es X.env) (hpl : (backTo pos (starEach es X.env)).any (·.1) = false) :
    PMk X (.Call (.Name x p) (e :: es) [] pos) (tMkX C sp ta) := by
  intro pins s σ H Q I h
  obtain ⟨nm, q, N, bs, bm, sn, sub, ab, col, dd, k0, k1, k2, k3, k5, hC, hbm⟩ := T.cls
  refine wpAny_Call_Name_kw (ld_glob I hg hm ?_ hdb)
  refine PySem.W.callWith_K (h₀ := X.base) I.ok.mod.kin T.kC (thn (ha.run pos pins s σ H _ I h) fun us s1 h1 => ?_) he hpl
  obtain ⟨vs, H1, I1, r1, hz, q1⟩ := h1
  refine ⟨I1.kIn, ?_⟩
  show wpAny _ _ (call (.ref C) us) _ _ _
  obtain ⟨hp, g, dr, tk, os⟩ := s1
  have hsz : hp.objs.size ≤ hp.objs.size + 1 := Nat.le_succ _
  have hq := q1 (hp.objs.size + 1) (I1.hok.fresh hsz)
  have kk : ∀ b o, hp.get? b = some o → ((hp.push (PySem.W.kdv_tup us)).push (PySem.HandSPX.excO C hp.objs.size)).get? b = some o := fun b o z => Heap.get?_push_of_some _ (Heap.get?_push_of_some _ z)
  have there : ((hp.push (PySem.W.kdv_tup us)).push (PySem.HandSPX.excO C hp.objs.size)).get? (hp.objs.size + 1) = some (PySem.HandSPX.excO C hp.objs.size) := by heap_get
  have I2 : Inv X pins σ (upd H1 (hp.objs.size + 1) (exo (hp.objs.size + 1) C none)) ⟨(hp.push (PySem.W.kdv_tup us)).push (PySem.HandSPX.excO C hp.objs.size), g, dr, tk, os⟩ :=
    I1.laid (t' := tk) (a := hp.objs.size + 1) (o := exo (hp.objs.size + 1) C none) (h' := (hp.push (PySem.W.kdv_tup us)).push (PySem.HandSPX.excO C hp.objs.size)) kk hsz (exo_ok there)
  have r2 : Vals (V.ref (hp.objs.size + 1) :: vs) (Value.ref (hp.objs.size + 1) :: us) := .cons rfl r1
  have hl : (Value.ref (hp.objs.size + 1) :: us).length = ps.length := by
    have z := r2.length
    rw [F1.len _ _ _ _ hq] at z
    exact z.symm
  have hus : us.length ≤ sizeLine := by
    rw [← Paired.length r1, sizeLine_eq]
    omega
  have hl0 : (Value.ref (hp.objs.size + 1) :: us ++ ([] : List Value)).length = ps.length := by rw [List.append_nil]; exact hl
  have bnd := hb (⟨(hp.push (PySem.W.kdv_tup us)).push (PySem.HandSPX.excO C hp.objs.size), g, dr, tk, os⟩ : Shared) (Value.ref (hp.objs.size + 1) :: us) I2.kIn hl0
  rw [List.append_nil] at bnd
  refine wpAny_call (PySem.HandSPX.call_own F.excBase_Exception (fun Y => refsX_has Y hbm) (I1.kIn _ _ hC) (PySem.W.looks_findIn I1.kIn iC) (fun self => PySem.W.bind_fn I1.kIn self tI) hus
    (codeAny_mono (F1.run _ X.stack _ _ ⟨Value.ref (hp.objs.size + 1) :: us, []⟩ (Value.ref (hp.objs.size + 1) :: us) _ _ (fun _ _ _ => False) (hr.make C us []) (I2.env0.make C us []) bnd r2 hq) fun r s' hq' => ?_))
  cases r with
  | error er => exact hx pins σ _ _ er s' I2 hq'
  | ok fl =>
    cases fl with
    | ret u =>
      obtain ⟨v, H2, os2, bare2, un2, hok2, rv, ev, d, fs, ea, ed, hd1, q2⟩ := hq'
      subst ev
      obtain ⟨h2, g2, d2, t2, os'⟩ := s'
      have hd0 : H1 d = none := by
        cases z : H1 d with
        | none => rfl
        | some o =>
          by_cases nt : noTbl o
          · exact absurd ⟨o, z, nt⟩ hd1
          · obtain ⟨tps, rfl⟩ : ∃ tps, o = .tbl tps := Classical.byContradiction fun n => nt fun ps e => n ⟨ps, e⟩
            obtain ⟨more, e⟩ := un2.tbls d tps (by rw [upd_ne (ne_of_none z (I1.hok.fresh hsz))]; exact z)
            rw [ed] at e
            have e := Option.some.inj e
            unfold exd at e
            cases e
      exact ⟨rv, mk_end (raises_own T.exC T.tyC) I1 hsz kk un2 hok2 os2 bare2 ea ed hd0 q2⟩
    | next => exact False.elim hq'
    | brk => exact False.elim hq'
    | cont => exact False.elim hq'
end
end Rf
set_option Elab.async false
set_option linter.all false
set_option maxRecDepth 100000
set_option maxHeartbeats 2000000
namespace Rf
open PySem PySem.Spec PyProof.Rows L2 LamX
/-! ### raise X(e), X's __init__ being self.f = as_tuples(p) -/
def spI (K : PySem.W.Frag) (T : List (Addr × Str)) (φ : Fn) (C : Addr) (f : Str) : Sp := fun vs H Q _ => ∃ G d dd a v, vs = [.ref a, v] ∧ Sub G H ∧ Tabs T H ∧ NT G ∧ Dq K G v d ∧ G a = none ∧ H a = some (exo a C none) ∧ (∃ cs, φ [d] [] = .ok dd cs) ∧
  ∀ G' H' dx y, Pst K T none [] G H G' H' → H' dx = none → dx ≠ a → Dq K G' y dd → Q .non (upd (upd H' dx (exd dx [(f, y)])) a (exo a C (some dx)))
structure ExS (T : List (Addr × Str)) (xt : XT) (P : Program) (w : World) (K : PySem.W.Frag) (mg : Str → Option Value) (base : Heap) (lv : Nat) (n : Nat) (x : Str) (φ : Fn) : Prop where
  ex : ∃ (C : Addr) (f : Str) (fI : Addr) (fd : FuncData) (p : Str), xt[n]? = some (C, f) ∧ mg x = some (.ref C) ∧ ExC K C f ∧ PySem.W.findIn K (.ref C) "__init__" = some (some (.ref fI)) ∧ PySem.W.typeIn K (.ref fI) = some (.type "function") ∧
    FnOk P w K mg base (L2.CX P w) lv fI fd ["self", p] (spI K T φ C f) ∧ L2.Binds K fd ["self", p] []
section
variable {K : PySem.W.Frag} {T : List (Addr × Str)} {xt : XT} {P : Program} {w : World} {mg : Str → Option Value} {base : Heap}
theorem rr_self {p : Str} {G H : Hp} {a : Addr} {v : V} {d : D} (s : Sub G H) (t : Tabs T H) (nt : NT G) (hd : Dq K G v d) : RR K T ⟨G, H, none⟩ G (fun _ => none) [.un, .val d] (L2.start ["self", p] [.ref a, v]) H := by
  refine ⟨s, t, nt, fun a o h _ _ => h, fun a h => h, fun a h => .inl h, Sub.rfl' _, fun i j a h _ => (nomatch h), fun i a h => (nomatch h), fun i x e => ?_, fun _ _ => rfl, rfl⟩
  match i, e with
  | 0, e => cases e; rfl
  | 1, e => cases e; exact ⟨rfl, v, rfl, hd⟩
  | i + 2, e => cases e
theorem fnI_of {qual x : Str} {st : Stmt} {fI : Addr} {fd : FuncData} {p f : Str} {C : Addr} {lv : Nat} {φ : Fn} {p0 p1 p2 p3 p4 p5 p6 : Pos} (Fu : L2.Fun K "__init__" qual st fI fd) (S : FnScope ["self", p] ["self", p] (defScope st)) (Ex : ExC K C f)
    (hbody : defBody st = [.Assign [.Attribute (.Name "self" p1) f p2] (.Call (.Name x p3) [.Name p p4] [] p5) p6])
    (hF : FnS T xt P w K mg base lv x φ 1 none) (hx : (x == ("__debug__" : Str)) = false) (hp : (p == ("__debug__" : Str)) = false) (hpc : (p == ("__classdict__" : Str)) = false) (hg : (defScope st).names.lookup x = some .globalImplicit) (hps : Vis (defScope st) p) (hss : Vis (defScope st) "self") :
    FnOk P w K mg base (L2.CX P w) (lv + 1) fI fd ["self", p] (spI K T φ C f) := by
  refine Fu.okX S (fun vs H Q E h => ?_) fun cdv A outer s H vs Q E hr hsp => ?_
  · obtain ⟨_, _, _, _, _, rfl, _⟩ := h
    rfl
  · obtain ⟨G, d, dd, a, v, rfl, hs, ht, hnt, hd, hga, ha, ⟨cs, hφ⟩, fin⟩ := hsp
    generalize hX : cxOf (L2.CX P w) P w K mg base ["self", p] qual (defScope st) fI cdv A outer s H E = X
    have hK : X.K = K := by rw [← hX]; rfl
    have hc : SE T xt X (.Call (.Name x p3) [.Name p p4] [] p5) fun r => ((give r 1).bind fun d r1 => (Res.ok [] r1).bind fun ys r2 => .ok (d :: ys) r2).bind fun ds r1 => match φ ds [] with
      | .ok d _ => .ok d r1
      | .exc x d => .exc x d r1
      | .bad => .bad := by
      subst hX
      exact se_call hF hr hg hx (sk_cons (se_give rfl hps hp hpc) sk_nil rfl).sa rfl (fun _ => rfl)
    have tk : Takes X (fun cls d _ H => E cls d H) := by
      subst hX
      exact takes_of rfl rfl rfl rfl
    obtain ⟨te, pe, qe⟩ := hc _ tk
    have hself : PE X (.Name "self" p1) (tVar 0) := by
      subst hX
      exact pe_var rfl hss (by decide) (by decide)
    rw [hbody]
    refine ⟨tOstX K f (tVar 0) te, ?_, ?_⟩
    · have := pss_one (ps_ostx (f := f) (p' := p2) (pos := p6) hself pe (sw_no rfl))
      rw [hK] at this
      exact this
    · subst hX
      have R := rr_self (p := p) (a := a) hs ht hnt hd
      refine qe _ _ _ _ _ _ _ R ?_
      have e1 : (((give [Slot.un, .val d] 1).bind fun d r1 => (Res.ok [] r1).bind fun ys r2 => .ok (d :: ys) r2).bind fun ds r1 => match φ ds [] with
      | .ok d _ => .ok d r1
      | .exc x d => .exc x d r1
      | .bad => .bad) = Res.ok dd [Slot.un, .val d] := by
        show (match φ [d] [] with
          | .ok d' _ => Res.ok d' [Slot.un, .val d]
          | .exc x d' => .exc x d' [Slot.un, .val d]
          | .bad => .bad) = _
        rw [hφ]
      refine QX.of_ok (r1 := [Slot.un, .val d]) (a := dd) e1 ?_
      intro y G1 w1 H1 R1 S1 dy
      have ea : H1 a = some (exo a C none) := S1.keep a _ ha (fun ps z => exo_tbl z) (fun _ z => nomatch z)
      refine ⟨.ref a, rfl, a, C, rfl, Ex, ea, fun dx n ne => fin G1 H1 dx y ?_ n ne dy⟩
      exact pst_of (j := none) (vs := []) R1 rfl
end
section
variable {T : List (Addr × Str)} {xt : XT} {X : Cx} {a b c e tg : Expr} {va vb vc : Rho → Res D} {p : Pos}
theorem exo_code {e C : Addr} {q : Str} : exo e C none ≠ CodeO e q := fun z => by
  unfold exo CodeO at z
  have z2 := HO.ext.inj z
  let ob : Obj := { cls := .ref C, dict := none, data := .fields #[.ref 0, .none, .none, .none, .bool false, .none] }
  let h : Heap := ⟨Array.replicate (e + 1) ob, {}⟩
  have hg : h.get? e = some ob := by
    have : h.objs[e]? = some ob := by simp [h]
    unfold Heap.get?
    rw [this]
  have z3 := congrFun z2 h
  have z4 : ∃ t1 : Addr, h.get? e = some ({ cls := .ref C, dict := none, data := .fields #[.ref t1, .none, .none, .none, .bool false, .none] } : Obj) := ⟨0, hg⟩
  obtain ⟨oc, vs, t, e1, e2, e3⟩ := z3.mp z4
  rw [hg] at e1
  cases e1
  cases e2
  cases e3
theorem RR.exd {K : PySem.W.Frag} {B : Bk} {G1 G2 H1 H2 : Hp} {w1 : Wn} {r1 : Rho} {σ : L2.St} {C ae dx : Addr} {f : Str} {y : V} (R1 : RR K T B G1 w1 r1 σ H1) (na : H1 ae = none) (P : Pst K T none [] G1 (upd H1 ae (exo ae C none)) G2 H2) (nd : H2 dx = none) (ne : dx ≠ ae) :
    RR K T B G2 w1 r1 σ (fun b => if b = dx then some (.xd [(f, y)]) else if b = ae then none else H2 b) ∧ Stp G1 w1 H1 G2 w1 (fun b => if b = dx then some (.xd [(f, y)]) else if b = ae then none else H2 b) := by
  have R2 := (R1.off (o := exo ae C none) na fun ps z => exo_tbl z).call P
  have hae : H2 ae = some (exo ae C none) := P.keep ae _ upd_same (fun ps z => exo_tbl z) (fun z => nomatch z)
  have oth : ∀ b o, H2 b = some o → b ≠ ae → (if b = dx then some (HO.xd [(f, y)]) else if b = ae then none else H2 b) = some o := fun b o h n => by
    rw [if_neg (ne_of_none h nd), if_neg n]; exact h
  have ga : G2 ae = none := by
    cases z : G2 ae with
    | none => rfl
    | some u =>
      rcases P.grow ae (by rw [z]; simp) with q | q
      · exact absurd (R1.gnone na) q
      · exact absurd ⟨_, upd_same, fun ps z => exo_tbl z⟩ q
  have b0 : ¬Ob B.H0 ae := R1.dom0 na
  refine ⟨⟨fun b o h => oth b o (R2.sub b o h) (ne_of_none h ga), fun q hq => ?_, R2.nt, fun b o h n k => oth b o (R2.ent b o h n k) fun z => b0 (z ▸ ⟨o, h, n⟩), fun b h => ?_, R2.grow, R2.sub0, R2.inj, fun i b h => ?_, fun i x h => ?_, R2.out, R2.len⟩, ⟨P.sub, fun b h => ?_, fun b o h n k => ?_, fun b h => ?_, fun _ _ h => h⟩⟩
  · obtain ⟨ps, h1, h2, h3⟩ := R2.tabs q hq
    refine ⟨ps, oth _ _ h1 (fun z => ?_), h2, fun pos cv hc => ?_⟩
    · rw [z, hae] at h1
      exact exo_tbl (Option.some.inj h1)
    · obtain ⟨c, e1, e2⟩ := h3 pos cv hc
      subst e1
      exact ⟨c, rfl, oth _ _ e2 fun z => exo_code (Option.some.inj (hae.symm.trans (z ▸ e2)))⟩
  · obtain ⟨u, e, n⟩ := R2.dom b h
    exact ⟨u, oth b u e fun z => b0 (z ▸ h), n⟩
  · obtain ⟨h1, h2, vs, h3⟩ := R2.fre i b h
    refine ⟨h1, h2, vs, oth _ _ h3 fun z => ?_⟩
    rw [z, hae] at h3
    have h4 := Option.some.inj h3
    cases h4
  · have q := R2.slot i x h
    cases x with
    | un => exact q
    | val d => exact q
    | own ds => obtain ⟨b, vs, q1, q2, q3, q4, q5⟩ := q; exact ⟨b, vs, q1, q2, q3, oth _ _ q4 (fun z => by rw [z, hae] at q4; have h4 := Option.some.inj q4; cases h4), q5⟩
    | io ds => obtain ⟨b, vs, q1, q2, q3, q4, q5⟩ := q; exact ⟨b, vs, q1, q2, q3, oth _ _ q4 (fun z => by rw [z, hae] at q4; have h4 := Option.some.inj q4; cases h4), q5⟩
  · rcases P.grow b h with q | q
    · exact .inl q
    · exact .inr (.inl fun n => q (n.put fun ps z => exo_tbl z))
  · have nb : b ≠ ae := ne_of_none h na
    exact oth b o (P.keep b o (by rw [upd_ne nb]; exact h) n (fun z => nomatch z)) nb
  · obtain ⟨u, e, n⟩ := P.dom b (h.put fun ps z => exo_tbl z)
    exact ⟨u, oth b u e fun z => Ob.non na (z ▸ h), n⟩
theorem s_rais {x : Str} {φ : Fn} {lv n : Nat} {pn cp : Pos} (hc : X.calm = true) (Ex : ExS T xt X.prog X.w X.K X.mg X.base lv n x φ) (hr : Room (lv + 1) X.A) (hg : Gl X x) (hx : (x == ("__debug__" : Str)) = false) (h : SE T xt X e va) (hs : noStar e = true) :
    S1 T xt X (.Raise (some (.Call (.Name x pn) [e] [] cp)) none p) fun r => (va r).out fun d r1 => match φ [d] [] with
      | .ok dd _ => .exc n dd r1
      | _ => .bad := by
  intro W tk
  obtain ⟨te, p1, q1⟩ := h W tk
  obtain ⟨C, f, fI, fd, pp, hxt, hm, ec, iC, tI, F1, hb⟩ := Ex.ex
  have e0 := star_one e [] X.env hs
  refine ⟨_, L2.ps_raise hc tk (pmk_x ec iC tI F1 hr hb passL hg hm (pa_cons p1 pa_nil e0) hx e0 rfl), fun B G w r σ H D R z => q1 _ _ _ _ _ _ _ R (z.out (rel1 := relV X.K) fun d r1 v G1 w1 H1 _ R1 S1 dv z1 => ?_)⟩
  have dv : Dq X.K G1 v d := dv
  cases eφ : φ [d] [] with
  | exc _ _ => simp only [eφ] at z1; exact z1.elim
  | bad => simp only [eφ] at z1; exact z1.elim
  | ok dd cs =>
    simp only [eφ] at z1
    refine ⟨by show 1 ≤ 1000; omega, fun a na => ⟨G1, d, dd, a, v, rfl, R1.sub.tr (Sub.new na), (R1.off (o := exo a C none) na fun ps z => exo_tbl z).tabs, R1.nt, dv, R1.gnone na, upd_same, ⟨cs, eφ⟩, fun G' H' dx y P nd ne dy => ⟨rfl, dx, [(f, y)], by rw [upd_same], by rw [upd_ne ne, upd_same], ?_, ?_⟩⟩⟩
    · exact fun n => Ob.non nd (P.dom dx (n.put fun ps z => exo_tbl z))
    · obtain ⟨R2, S2⟩ := RR.exd (f := f) (y := y) R1 na P nd ne
      have eH : upd (del (upd (upd H' dx (L2.exd dx [(f, y)])) a (exo a C (some dx))) a) dx (.xd [(f, y)]) = (fun b => if b = dx then some (.xd [(f, y)]) else if b = a then none else H' b) := by
        funext b
        by_cases q : b = dx
        · rw [q, upd_same, if_pos rfl]
        · rw [upd_ne q, if_neg q]
          by_cases q2 : b = a
          · rw [q2, del_same, if_pos rfl]
          · rw [del_ne q2, upd_ne q2, upd_ne q, if_neg q2]
      rw [eH]
      exact z1 C f dx y σ G' w1 _ hxt R2 S2.s (if_pos rfl) dy
end
end Rf
set_option Elab.async false
set_option linter.all false
set_option maxRecDepth 100000
set_option maxHeartbeats 4000000
/-! several except clauses, each with a name for the exception -/
namespace Rf
open PySem PySem.Spec PyProof.Rows L2 LamX
abbrev Suite := Addr → Value → Option Addr → TS
def behind (i : Nat) (D : Ends) : Ends := { nx := fun σ' H' => D.nx (σ'.set i none) H', rt := D.rt, bk := fun σ' H' => D.bk (σ'.set i none) H', ct := fun σ' H' => D.ct (σ'.set i none) H' }
/-- what the clauses wish of an exception; slot i bears the clauses' name -/
def wishAs (K : PySem.W.Frag) (i : Nat) (D : Ends) : List (Value × Suite) → WX
  | [] => fun _ _ _ _ => False
  | (c, ts) :: more => fun cls d σ H => ∃ hit, PySem.W.exmOne K cls c = some hit ∧ (hit = true → ∀ a, H a = none → ts a cls d (behind i D) (σ.set i (some (.ref a))) H) ∧ (hit = false → wishAs K i D more cls d σ H)
inductive ClsOk (X : Cx) (n : Str) : List ExceptHandler → List (Value × Suite) → Prop
  | last : ClsOk X n [] []
  | next {x : Str} {c : Value} {ts : Suite} {st0 : Stmt} {sts : List Stmt} {np hp : Pos} {hds : List ExceptHandler} {l : List (Value × Suite)} (hc : Names X x c)
      (hsu : ∀ (a : Addr) (oe : Obj) (cls : Value) (d : Option Addr) (pn : List (Addr × Obj)), Zc cls d oe → (∃ vs, oe.data = .fields vs) → PSs (X.suite a ((a, oe) :: pn)) (st0 :: sts) (ts a cls d)) (r : ClsOk X n hds l) :
      ClsOk X n (.ExceptHandler (some (.Name x np)) (some n) (st0 :: sts) hp :: hds) ((c, ts) :: l)
section
variable {X : Cx} {body : List Stmt} {h0 : ExceptHandler} {hds : List ExceptHandler} {l : List (Value × Suite)} {pos : Pos} {tb : WX → TS} {i : Nat} {n : Str}
/-- the clauses, tried one after the other for an exception that has landed -/
theorem clauses_run {pins : List (Addr × Obj)} {σ : L2.St} {H : Hp} {s1 : Shared} {B h3 : Heap} {a : Addr} {cls : Value} {d : Option Addr} {D : Ends} (ok : X.Ok) (hN : X.N.Nodup) (hi : X.N[i]? = some n) (hln : X.env.kindOf n = some .local) (hf : X.env.frame = some X.env.locals)
    (fl : HandSPX.FlyingZ B (X.env :: X.outer) a (Zc cls d) h3) (na : H a = none)
    (land : ∀ h4, B.StaysIn h4 → h3.UpToSlots h4 → Inv X pins σ H { s1 with heap := h4 }) :
    ∀ {hds : List ExceptHandler} {l : List (Value × Suite)}, ClsOk X n hds l → wishAs X.K i D l cls d σ H → wpAny (model X.prog X.w) X.A (handleBy (.ref a) X.env hds) (SP X pins D) X.xe { s1 with heap := h3 } := by
  obtain ⟨o3, v3, at3, z3, d3⟩ := fl.there
  have notFrame : a ∉ frs (X.env :: X.outer) := fun hm => by
    obtain ⟨_, o', e', nf⟩ := fl.2.2.1.mem hm
    rw [at3] at e'
    cases e'
    exact nf _ d3
  have notLoc : a ≠ X.env.locals := fun z => notFrame (List.mem_filterMap.mpr ⟨X.env, List.mem_cons_self, by rw [hf, z]⟩)
  have notFs : a ∉ X.fs := fun hm => by
    obtain ⟨e, he, q⟩ := List.mem_filterMap.mp hm
    exact notFrame (List.mem_filterMap.mpr ⟨e, List.mem_cons_of_mem _ he, q⟩)
  have here := land h3 fl.1 (Heap.UpToSlots.refl _)
  have within := here.suite at3 d3 na notLoc notFs
  intro hds l hk
  induction hk with
  | last => intro w; exact w.elim
  | @next x c ts st0 sts np hp rest l2 hc hsu r ih =>
    intro w
    obtain ⟨hit, e1, yes, no⟩ := w
    refine wpAny_handleBy_cons (codeAny_handlers_test ?_) (by intro q; cases q)
    have ty : PySem.W.Looks (model X.prog X.w) h3 (typeOf (.ref a)) cls := fun A Q E s k q => wpAny_typeOf_ref (k _ _ at3) (by rw [z3.1]; exact q)
    have isC := PySem.W.exm_one (M := model X.prog X.w) here.kIn ty e1
    have named : ∀ {Q : Value → Shared → Prop} {E : Value → Shared → Prop}, Q c { s1 with heap := h3 } → wpAny (model X.prog X.w) (X.A.mark (some (.ref a))) (eval (.Name x np) X.env) Q E { s1 with heap := h3 } := fun {Q E} q => by
      obtain ⟨g, nd, m | ⟨m, v, nn⟩⟩ := hc
      · exact ld_glob (X := X.suite a ((a, o3) :: (X.pn ++ pins))) within g m q nd
      · exact ld_blt (X := X.suite a ((a, o3) :: (X.pn ++ pins))) within g m v q nn nd
    refine named (isC.here ?_)
    cases hit with
    | false => exact ih (no rfl)
    | true =>
      refine codeAny_handlers_suite_as (HandSPX.lands_againZ fl fun h4 fl4 up4 => ?_)
      obtain ⟨o4, v4, at4, z4, d4⟩ := fl4.there
      refine store_ok (X := X.suite a ((a, o4) :: (X.pn ++ pins))) (v := .ref a) ((land h4 fl4.1 up4).suite at4 d4 na notLoc notFs) hN hi (.inl hln) rfl (fun s5 S5 => ?_) (.inr hln)
      have leave : ∀ {σ6 : L2.St} {H6 : Hp} {s6 : Shared} {Q : Shared → Prop}, Inv (X.suite a ((a, o4) :: (X.pn ++ pins))) [] σ6 H6 s6 → (∀ s7, Inv X pins (σ6.set i none) H6 s7 → Q s7) →
          wpAny (model X.prog X.w) X.A (do bindName X.env n .none; unbindBehindTheSuite X.env n hp) (fun _ s7 => Q s7) X.xe s6 := fun S6 hq => gone_ok (S6.unsuite ok) hN hi hln hq
      refine wpAny_mono ((hsu a o4 cls d (X.pn ++ pins) z4 ⟨_, d4⟩).run [] s5 _ H _ S5 (yes rfl a na)) (fun f s6 h6 => ?_) (fun _ _ z => False.elim z)
      cases f with
      | ret u => obtain ⟨v6, σ6, H6, S6, r6, q6⟩ := h6; exact leave S6 fun s7 J7 => ⟨v6, _, H6, J7, r6, q6⟩
      | next => obtain ⟨σ6, H6, S6, q6⟩ := h6; exact leave S6 fun s7 J7 => ⟨_, H6, J7, q6⟩
      | brk => obtain ⟨σ6, H6, S6, q6⟩ := h6; exact leave S6 fun s7 J7 => ⟨_, H6, J7, q6⟩
      | cont => obtain ⟨σ6, H6, S6, q6⟩ := h6; exact leave S6 fun s7 J7 => ⟨_, H6, J7, q6⟩
theorem ps_tryAs (hs : X.stack = X.env :: X.outer) (hf : X.env.frame = some X.env.locals) (hN : X.N.Nodup) (hi : X.N[i]? = some n) (hln : X.env.kindOf n = some .local)
    (hb : ∀ (W : WX) (pn : List (Addr × Obj)) (xe : Value → Shared → Prop), Takes (X.tr pn xe) W → PassesOwn (model X.prog X.w) X.A X.env xe → PSs (X.tr pn xe) body (tb W))
    (hh : ClsOk X n (h0 :: hds) l) : PS X (.Try body (h0 :: hds) [] [] pos) (fun D σ H => tb (wishAs X.K i D l) D σ H) := by
  refine ⟨fun pins s σ H D I h => ?_⟩
  have ok := I.ok
  have fr : X.A.frames = some (X.env :: X.outer) := by rw [ok.frames, hs]
  have taken : Takes (X.tr (X.pn ++ pins) fun e s₁ => wpAny (model X.prog X.w) X.A (noteFrame e X.env) (fun _ s₂ => wpAny (model X.prog X.w) X.A (setFlight e none) (fun _ s₃ =>
      wpAny (model X.prog X.w) X.A (handleBy e X.env (h0 :: hds)) (SP X pins D) X.xe s₃) X.xe s₂) X.xe s₁) (wishAs X.K i D l) := by
    intro u s1 air
    obtain ⟨a, B, sI, pins1, σ1, H1, cls, d, rfl, J1, nb, up, sky, na, os, ag, w⟩ := air
    have J : Inv X pins σ1 H1 sI := J1.ofTry ok
    rw [show (X.tr (X.pn ++ pins) fun e s₁ => wpAny (model X.prog X.w) X.A (noteFrame e X.env) (fun _ s₂ => wpAny (model X.prog X.w) X.A (setFlight e none) (fun _ s₃ =>
      wpAny (model X.prog X.w) X.A (handleBy e X.env (h0 :: hds)) (SP X pins D) X.xe s₃) X.xe s₂) X.xe s₁).stack = X.env :: X.outer from hs] at sky
    refine Sky.land Zc.steady fr hf sky fun h3 fl3 up3 => ?_
    exact clauses_run ok hN hi hln hf fl3 na (fun h4 g4 up4 => J.landed nb g4 ((up.trans up3).trans up4) os ag) hh w
  refine wpAny_Try_except (wpAny_mono ((hb (wishAs X.K i D l) (X.pn ++ pins) _ taken PassesOwn.looking).run [] s σ H D (I.toTry _) h) (fun f s1 q => ?_) (fun e s1 he => he))
  cases f with
  | ret u => obtain ⟨v, σ', H', J', r, q⟩ := q; exact ⟨v, σ', H', J'.ofTry ok, r, q⟩
  | next => obtain ⟨σ', H', J', q⟩ := q; exact wpAny_execs_nil ⟨σ', H', J'.ofTry ok, q⟩
  | brk => obtain ⟨σ', H', J', q⟩ := q; exact ⟨σ', H', J'.ofTry ok, q⟩
  | cont => obtain ⟨σ', H', J', q⟩ := q; exact ⟨σ', H', J'.ofTry ok, q⟩
end
end Rf
set_option Elab.async false
set_option linter.all false
set_option maxRecDepth 100000
set_option maxHeartbeats 4000000
namespace Rf
open PySem PySem.Spec PyProof.Rows L2 LamX
/-! ### what is told of a deed -/
section
variable {K : PySem.W.Frag} {T : List (Addr × Str)} {xt : XT} {B : Bk} {G H : Hp} {w : Wn} {r : Rho} {σ : L2.St}
theorem RR.ext (R : RR K T B G w r σ H) {H1 : Hp} (e : ExtN H H1) (t : Tabs T H1) : RR K T B G w r σ H1 ∧ Stp G w H G w H1 := by
  have kl : ∀ a vs, H a = some (.lst vs) → H1 a = some (.lst vs) := fun a vs h => e a _ h fun ps z => nomatch z
  have dm : ∀ a, Ob H a → Ob H1 a := fun a ⟨o, h, n⟩ => ⟨o, e a o h n, n⟩
  refine ⟨⟨fun a o h => e a o (R.sub a o h) (R.nt a o h), t, R.nt, fun a o h n k => e a o (R.ent a o h n k) n, fun a h => dm a (R.dom a h), R.grow, R.sub0, R.inj, fun i a h => ?_, fun i x h => ?_, R.out, R.len⟩, ⟨Sub.rfl' G, fun _ h => .inl h, fun a o h n _ => e a o h n, dm, fun _ _ h => h⟩⟩
  · obtain ⟨h1, h2, vs, h3⟩ := R.fre i a h
    exact ⟨h1, h2, vs, kl a vs h3⟩
  · have q := R.slot i x h
    cases x with
    | un => exact q
    | val d => exact q
    | own ds => obtain ⟨a, vs, q1, q2, q3, q4, q5⟩ := q; exact ⟨a, vs, q1, q2, q3, kl a vs q4, q5⟩
    | io ds => obtain ⟨a, vs, q1, q2, q3, q4, q5⟩ := q; exact ⟨a, vs, q1, q2, q3, kl a vs q4, q5⟩
end
/-- the reading of a lambda's body -/
def canX (K : PySem.W.Frag) (T : List (Addr × Str)) (xt : XT) (f : Rho → Res D) (E : XK) : TE := fun σ H Q => ∃ B G w r, RR K T B G w r σ H ∧ QX K T xt B (fun cls d _ H => E cls d H) (relV K) G w σ H (f r) Q
/-- the pair that is told: nm, v -/
def pairT (nm : Str) (Q : VK) (v : V) (H' : Hp) : Prop := ∀ p its, H' p = none → Q (.ref p) (upd H' p (tpO its [.str nm, v]))
/-- one clause: except X as n: return (nm, n.f) -/
structure Cl where
  C : Addr
  f : Str
  nm : Str
def clSuite (K : PySem.W.Frag) (i : Nat) (k : Cl) : Suite := fun a cls d => tRet (tTupD (tCons (tC (.str k.nm)) (tCons (tXf a cls d k.C k.f (tVar i)) tNil)))
def clsOf (K : PySem.W.Frag) (i : Nat) (l : List Cl) : List (Value × Suite) := l.map fun k => (.ref k.C, clSuite K i k)
section
variable {X : Cx}
theorem cl_next {i : Nat} {x n : Str} {k : Cl} {l : List Cl} {rest : List (Value × Suite)} {hds : List ExceptHandler} {np p1 p2 p3 p4 p5 hp : Pos} {j m : Nat} (hc : Names X x (.ref k.C)) (xf : XfC X.K k.C) (hno : PySem.W.findIn X.K (.ref k.C) k.f = some none) (hN : X.N[i]? = some n) (hv : Vis X.env.scope n) (hd : (n == ("__debug__" : Str)) = false) (hcd : (n == ("__classdict__" : Str)) = false) (r : ClsOk X n hds (clsOf X.K i l ++ rest)) :
    ClsOk X n (.ExceptHandler (some (.Name x np)) (some n) [.Return (some (.Tuple [.Constant (.str k.nm) j p1, .Attribute (.Name n p2) k.f p3] m p4)) p5] hp :: hds) (clsOf X.K i (k :: l) ++ rest) := by
  refine .next hc (fun a oe cls d pn hz hf => ?_) r
  exact pss_one (ps_ret (pe_tupD (pa_cons pe_str (pa_cons (pe_xf xf hno hz hf (pe_var hN hv hd hcd)) pa_nil))))
theorem cl_never {i : Nat} {x n : Str} {c : Value} {st0 : Stmt} {sts : List Stmt} {l : List (Value × Suite)} {hds : List ExceptHandler} {np hp : Pos} (hc : Names X x c) (r : ClsOk X n hds l) :
    ClsOk X n (.ExceptHandler (some (.Name x np)) (some n) (st0 :: sts) hp :: hds) ((c, fun _ _ _ => tNever) :: l) := .next hc (fun a oe cls d pn hz hf => pss_never) r
/-- the wish, at an exception of the x-th clause's class -/
theorem wish_at {K : PySem.W.Frag} {i : Nat} {D : Ends} {Q : VK} {dx : Addr} {v : V} {H : Hp} {σ : L2.St} {rest : List (Value × Suite)} (hi : i < σ.length) (hD : D.rt = Q) : ∀ {l : List Cl} {x : Nat} {k : Cl}, l[x]? = some k → (∀ y k', y ≤ x → l[y]? = some k' → PySem.W.exmOne K (.ref k.C) (.ref k'.C) = some (x == y)) → H dx = some (.xd [(k.f, v)]) → pairT k.nm Q v H →
    wishAs K i D (clsOf K i l ++ rest) (.ref k.C) (some dx) σ H
  | [], _, _, h, _, _, _ => by simp at h
  | k0 :: l, 0, k, h, he, hx, q => by
    simp only [List.getElem?_cons_zero, Option.some.injEq] at h
    subst h
    refine ⟨true, he 0 k0 (Nat.le_refl _) rfl, fun _ a na => ?_, fun z => nomatch z⟩
    show tTupD (tCons (tC (.str k0.nm)) (tCons (tXf a (.ref k0.C) (some dx) k0.C k0.f (tVar i)) tNil)) _ H (behind i D).rt
    refine ⟨.ref a, by rw [List.getElem?_set_self hi], rfl, rfl, dx, [(k0.f, v)], v, rfl, hx, by simp [List.lookup], ?_⟩
    refine ⟨by show 2 ≤ sizeLine; decide, fun p hp => ?_⟩
    have := q p hp
    rw [← hD] at this
    exact this
  | k0 :: l, x + 1, k, h, he, hx, q => by
    have e0 := he 0 k0 (Nat.zero_le _) rfl
    rw [show ((x + 1) == 0) = false from rfl] at e0
    refine ⟨false, e0, fun z => (by cases z), fun _ => ?_⟩
    refine wish_at hi hD (x := x) (by simpa using h) (fun y k' hy e => ?_) hx q
    have := he (y + 1) k' (Nat.succ_le_succ hy) (by simpa using e)
    rw [this]
    simp
def tlTold (xt : XT) (nms : List Str) : (XK → Hp → VK → Prop) → Hp → VK → Prop := fun tl H Q =>
  tl (fun cls d H' => ∃ x C f dx v, xt[x]? = some (C, f) ∧ cls = .ref C ∧ d = some dx ∧ H' dx = some (.xd [(f, v)]) ∧ pairT (nms.getD x "") Q v H') H fun v H' => pairT "value" Q v H'
theorem Takes.len {W : WX} (tk : Takes X W) : Takes X (fun cls d σ H => σ.length = X.N.length → W cls d σ H) := fun u s' ⟨a, B, sI, pins, σ, H, cls, d, e, I, nb, up, sky, na, os, ag, w⟩ =>
  tk u s' ⟨a, B, sI, pins, σ, H, cls, d, e, I, nb, up, sky, na, os, ag, w I.len⟩
theorem told_gives {Ng : List Str} {x a n q : Str} {sg : Scope} {g : Addr} {cdg : Value} {l : List Cl} {rest : List (Value × Suite)} {nms : List Str} {xt : XT} {hds : List ExceptHandler} {h0 : ExceptHandler} {j m : Nat} {p1 p2 p3 p4 p5 p6 : Pos} (hNg : Ng = [a, n]) (hnd : Ng.Nodup) (hln : sg.names.lookup n = some .local)
    (hx : ∀ (x : Nat) (k : Cl), l[x]? = some k → xt[x]? = some (k.C, k.f)) (hxl : xt.length = l.length) (hnm : ∀ (x : Nat) (k : Cl), l[x]? = some k → nms.getD x ("" : Str) = k.nm) (hex : ∀ (x y : Nat) (k k' : Cl), l[x]? = some k → l[y]? = some k' → y ≤ x → PySem.W.exmOne X.K (.ref k.C) (.ref k'.C) = some (x == y))
    (hcl : ∀ (A : Around) (outer : List Env) (s : Shared) (H : Hp), ClsOk (cxOf C8.CX0 X.prog X.w X.K X.mg X.base Ng x sg g cdg A outer s H C8.E0).nox n (h0 :: hds) (clsOf X.K 1 l ++ rest)) :
    GivesTo X Ng x sg g cdg [.Try [.Return (some (.Tuple [.Constant (.str "value") j p1, .Call (.Name a p2) [] [] p3] m p4)) p5] (h0 :: hds) [] [] p6] a q (tlTold xt nms) := by
  intro f c' s H Q tl act hc h
  generalize hE : (fun (cls : Value) (d : Option Addr) (H' : Hp) => ∃ x C f dx v, xt[x]? = some (C, f) ∧ cls = .ref C ∧ d = some dx ∧ H' dx = some (.xd [(f, v)]) ∧ pairT (nms.getD x "") Q v H') = E8
  have h : tl E8 H fun v H' => pairT "value" Q v H' := by rw [← hE]; exact h
  subst hNg
  refine ⟨_, pss_one (ps_tryAs (i := 1) (n := n) (X := (cxOf C8.CX0 X.prog X.w X.K X.mg X.base [a, n] x sg g cdg X.A X.stack s H C8.E0).nox)
      (tb := fun W D σ H => (∀ cls d σ' H', E8 cls d H' → σ'.length = 2 → W cls d σ' H') ∧ σ[0]? = some (some (.ref f)) ∧ H c' = some (CodeO c' q) ∧ tl E8 H fun v H' => pairT "value" D.rt v H')
      rfl rfl hnd rfl hln (fun W pn xe tk _ => ?_) (hcl _ _ _ _)), ?_⟩
  · refine ⟨fun pins s' σ H' D I h' => ?_⟩
    obtain ⟨hW, h1, h2, h3⟩ := h'
    have hp := act (fun cls d σ H => σ.length = 2 → W cls d σ H) pn xe E8 p2 p3 (Takes.len tk) hW
    have hq := pss_one (st := .Return (some (.Tuple [.Constant (.str "value") j p1, .Call (.Name a p2) [] [] p3] m p4)) p5) (ps_ret (pos := p5) (pe_tupD (pos := p4) (pa_cons (pe_str (x := "value") (pos := p1) (j := j)) (pa_cons hp pa_nil))))
    refine hq.run pins s' σ H' D I ?_
    show σ[0]? = some (some (.ref f)) ∧ H' c' = some (CodeO c' q) ∧ tl E8 H' fun v H2 => 2 ≤ sizeLine ∧ ∀ p its, H2 p = none → D.rt (.ref p) (upd H2 p (tpO its [.str "value", v]))
    refine ⟨h1, h2, ?_⟩
    have e : (fun (v : V) (H2 : Hp) => 2 ≤ sizeLine ∧ ∀ p its, H2 p = none → D.rt (.ref p) (upd H2 p (tpO its [.str "value", v]))) = fun v H' => pairT "value" D.rt v H' := by
      funext v H2
      exact propext ⟨fun z => z.2, fun z => ⟨by decide, z⟩⟩
    rw [e]
    exact h3
  · refine ⟨fun cls d σ' H' he hl => ?_, rfl, hc, h⟩
    rw [← hE] at he
    obtain ⟨y, C, ff, dx, v, e1, rfl, rfl, e4, e5⟩ := he
    have hy : y < l.length := by rw [← hxl]; exact (List.getElem?_eq_some_iff.mp e1).1
    have ek : l[y]? = some l[y] := List.getElem?_eq_getElem hy
    have e6 := hx y _ ek
    rw [e1] at e6
    obtain ⟨rfl, rfl⟩ : C = l[y].C ∧ ff = l[y].f := by
      have := Option.some.inj e6
      exact ⟨congrArg Prod.fst this, congrArg Prod.snd this⟩
    refine wish_at (by omega) rfl ek (fun z k' hz ez => hex y z _ k' ek ez hz) e4 ?_
    have := hnm y _ ek
    rw [this] at e5
    exact e5
end
end Rf
set_option Elab.async false
set_option linter.all false
set_option maxRecDepth 100000
set_option maxHeartbeats 4000000
namespace Rf
open PySem PySem.Spec PyProof.Rows L2 LamX
def toldF (nms : List Str) (fe : Rho → Res D) (r : Rho) : Res D := match fe r with
  | .ok d r1 => .ok (.tuple [.str "value", d]) r1
  | .exc x d r1 => .ok (.tuple [.str (nms.getD x ""), d]) r1
  | .bad => .bad
/-- the def that tells of a deed -/
structure ToldS (xt : XT) (P : Program) (w : World) (K : PySem.W.Frag) (mg : Str → Option Value) (base : Heap) (x : Str) (nms : List Str) : Prop where
  ex : ∃ (g : Addr) (pg : Arguments) (bg : List Stmt) (sg : Scope) (dV kV doc pm cdv ct oc : Value) (an od : Option Addr) (osl : Array (Option Value)) (Ng : List Str) (a : Str),
    mg x = some (.ref g) ∧ PySem.W.keepIn K (.ref g) = true ∧ K.lookup g = some ⟨oc, od, .func (PySem.W.fnOf x x pg bg sg dV kV doc pm an cdv ct), osl⟩ ∧ PySem.W.codeIn K cdv x = true ∧ L2.Binds K (PySem.W.fnOf x x pg bg sg dV kV doc pm an cdv ct) [a] [] ∧ FnScope Ng [a] sg ∧ Ng[0]? = some a ∧ Vis sg a ∧
    (a == ("__debug__" : Str)) = false ∧ (a == ("__classdict__" : Str)) = false ∧ ∀ (X : Cx) (q : Str), X.prog = P → X.w = w → X.K = K → X.mg = mg → X.base = base → GivesTo X Ng x sg g cdv bg a q (tlTold xt nms)
theorem se_told {T : List (Addr × Str)} {xt : XT} {X : Cx} {x : Str} {nms : List Str} {c P : Addr} {k : Nat} {params : Arguments} {body : Expr} {scope : Scope} {fe : Rho → Res D} {p lpos pos : Pos} (To : ToldS xt X.prog X.w X.K X.mg X.base x nms) (hg : Gl X x) (hx : (x == ("__debug__" : Str)) = false)
    (TB : TabB X.base X.mg c P) (hcode : X.env.code = .ref c) (hmT : (P, X.env.qual ++ "<lambda>") ∈ T) (hu : ∀ p ∈ T, p.1 = P → p.2 = X.env.qual ++ "<lambda>") (hr : Room (k + 2) X.A) (L : LamS X.env.scope scope) (hdef : defaultsOf params X.env = ([], []))
    (hbind : ∀ (q : Str) (cl : List (Str × Addr)) (pm cv ctv : Value), bindArgs (PySem.W.kla_fn "<lambda>" q params body scope cl pm cv ctv) ⟨[], []⟩ = pure [])
    (hb : ∀ (A : Around) (outer : List Env) (s : Shared) (H : Hp) (E : XK) (f c' : Addr), Room k (A.deeper (lamEnv X scope s.heap.objs.size f c')) → SE T xt (lamCx X A outer s H E scope f c') body fe) :
    SE T xt X (.Call (.Name x p) [.Lambda params body scope lpos] [] pos) (toldF nms fe) := by
  intro W tk
  obtain ⟨g, pg, bg, sg, dV, kV, doc, pm, cdv, ct, oc, an, od, osl, Ng, a, hm, hk, lk, hcg, hbi, Sg, hNg, hva, hd, hcd, gives⟩ := To.ex
  refine ⟨tLam T (tlTold xt nms) (canX X.K T xt fe), pe_lamcall hg hm hk lk hcg hbi Sg hNg hva (gives X _ rfl rfl rfl rfl rfl) TB hcode hmT hu hr L hdef hbind (fun A outer s H E f c' hr' => ?_) hx hd hcd, fun B G w r σ H Q R z => ⟨R.tabs, fun H1 eN t1 => ?_⟩⟩
  · obtain ⟨te, p, q⟩ := hb A outer s H E f c' hr' (fun cls d _ H => E cls d H) (takes_of rfl rfl rfl rfl)
    exact ⟨fun pins s σ H Q I ⟨B, G, w, r, R, k⟩ => p.run pins s σ H Q I (q B G w r σ H Q R k)⟩
  · obtain ⟨R1, S1⟩ := R.ext eN t1
    refine ⟨B, G, w, r, R1, ?_⟩
    unfold toldF at z
    have pair : ∀ (nm : Str) (d : D) (r1 : Rho) (v : V) (G' : Hp) (w' : Wn) (H' : Hp), RR X.K T B G' w' r1 σ H' → Stp G w H1 G' w' H' → Dq X.K G' v d → QX X.K T xt B W (relV X.K) G w σ H (.ok (.tuple [.str nm, d]) r1) Q → pairT nm Q v H' :=
      fun nm d r1 v G' w' H' R' S' dv z p its hp => z (.ref p) _ _ _ (R'.new hp) ((S1.tr S').tr (Stp.new R'.sub hp)) (.tup SqD.new (dps_sub (Sub.new (R'.gnone hp)) (.cons (.str _) (.cons dv .nil))))
    cases e : fe r with
    | bad => simp only [e] at z; exact z.elim
    | ok d r1 =>
      simp only [e] at z
      exact fun v G' w' H' R' S' dv => pair _ d r1 v G' w' H' R' S' dv z
    | exc x d r1 =>
      simp only [e] at z
      exact fun c f dx v G' w' H' hx R' S' hdx dv => ⟨x, c, f, dx, v, hx, rfl, rfl, hdx, pair _ d r1 v G' w' H' R' S' dv z⟩
end Rf
set_option Elab.async false
set_option linter.all false
set_option maxRecDepth 100000
set_option maxHeartbeats 4000000
/-! is_integer(value, low, high), walked where the frames are not known -/
namespace Rf
open PySem PySem.Spec PyProof.Rows L2 LamX
/-- an expression's value; the heap h stays -/
def EvL (P : Program) (w : World) (A : Around) (env : Env) (h : Heap) (e : Expr) (u : Value) : Prop :=
  ∀ (g : Array GenState) (d : Drawn) (t : Nat) (os : OsState) (Q : Value → Shared → Prop) (E : Value → Shared → Prop), (∀ t', Q u ⟨h, g, d, t', os⟩) → wpAny (model P w) A (eval e env) Q E ⟨h, g, d, t, os⟩
def TrL (P : Program) (w : World) (A : Around) (env : Env) (h : Heap) (e : Expr) (b : Bool) : Prop :=
  ∀ (g : Array GenState) (d : Drawn) (t : Nat) (os : OsState) (Q : Bool → Shared → Prop) (E : Value → Shared → Prop), (∀ t', Q b ⟨h, g, d, t', os⟩) → wpAny (model P w) A (isTrue e env (eval e env)) Q E ⟨h, g, d, t, os⟩
section
variable {P : Program} {w : World} {A : Around} {env : Env} {h : Heap} {K : PySem.W.Frag} {mg : Str → Option Value} {base : Heap} {m : Str → Option Value}
theorem evl_name {x : Str} {p : Pos} {u : Value} (hk : env.scope.kind = .function) (hl : env.kindOf x = some .local) (hn : h.Ns env.locals m) (hm : m x = some u) (hd : (x == ("__debug__" : Str)) = false) : EvL P w A env h (.Name x p) u :=
  fun g d t os Q E q => wpAny_Name (wpAny_loadName_local hk hl hn hm (q t)) hd
theorem evl_none {j : Nat} {p : Pos} : EvL P w A env h (.Constant .none j p) .none := fun g d t os Q E q => Constant_none (q t)
theorem evl_isnone {a : Expr} {u : Value} {p p1 : Pos} {j : Nat} (ha : EvL P w A env h a u) : EvL P w A env h (.Compare a [.Is] [.Constant .none j p1] p) (.bool (u == .none)) := fun g d t os Q E q =>
  wpAny_Compare1 (ha g d t os _ E fun t1 => Constant_none (is_none_gen (q t1))) rfl
theorem evl_le {a b : Expr} {i j : Int} {ti tj : Tok} {p : Pos} (ha : EvL P w A env h a (.int i ti)) (hb : EvL P w A env h b (.int j tj)) (hm : behindInMarks .LtE b = false) : EvL P w A env h (.Compare a [.LtE] [b] p) (.bool (decide (i ≤ j))) := fun g d t os Q E q =>
  wpAny_Compare1 (ha g d t os _ E fun t1 => hb g d t1 os _ E fun t2 => PyProof.Rows.le_int (q t2)) hm
theorem evl_one {op : BoolOp} {a : Expr} {u : Value} {p : Pos} (ha : EvL P w A env h a u) : EvL P w A env h (.BoolOp op [a] p) u := fun g d t os Q E q => BoolOp_one (ha g d t os Q E q)
theorem evl_or {a b : Expr} {x y : Bool} {rest : List Expr} {p : Pos} (ha : EvL P w A env h a (.bool x)) (hb : x = false → EvL P w A env h (.BoolOp .Or (b :: rest) p) (.bool y)) : EvL P w A env h (.BoolOp .Or (a :: b :: rest) p) (.bool (x || y)) := fun g d t os Q E q =>
  BoolOp_or (ha g d t os _ E fun t1 => wpAny_truthy_bool (by
    cases x with
    | true => exact q t1
    | false => exact hb rfl g d t1 os Q E q))
theorem evl_and {a b : Expr} {x y : Bool} {rest : List Expr} {p : Pos} (ha : EvL P w A env h a (.bool x)) (hb : x = true → EvL P w A env h (.BoolOp .And (b :: rest) p) (.bool y)) : EvL P w A env h (.BoolOp .And (a :: b :: rest) p) (.bool (x && y)) := fun g d t os Q E q =>
  BoolOp_and (ha g d t os _ E fun t1 => wpAny_truthy_bool (by
    cases x with
    | true => exact hb rfl g d t1 os Q E q
    | false => exact q t1))
theorem trl_not {a : Expr} {x : Bool} {p : Pos} (ha : TrL P w A env h a x) : TrL P w A env h (.UnaryOp .Not a p) (!x) := fun g d t os Q E q => isTrue_not (ha g d t os _ E q)
theorem trl_or1 {a : Expr} {x : Bool} {p : Pos} (ha : TrL P w A env h a x) : TrL P w A env h (.BoolOp .Or [a] p) x := fun g d t os Q E q => isTrue_or (ha g d t os _ E fun t1 => by
  cases x with
  | true => exact q t1
  | false => exact isTrue_or_nil (q t1))
theorem trl_or {a b : Expr} {x y : Bool} {rest : List Expr} {p : Pos} (ha : TrL P w A env h a x) (hb : x = false → ∀ whole (g : Array GenState) (d : Drawn) (t : Nat) (os : OsState) (Q : Bool → Shared → Prop) (E : Value → Shared → Prop), (∀ t', Q y ⟨h, g, d, t', os⟩) → wpAny (model P w) A (isTrue (.BoolOp .Or (b :: rest) p) env whole) Q E ⟨h, g, d, t, os⟩) : TrL P w A env h (.BoolOp .Or (a :: b :: rest) p) (x || y) :=
  fun g d t os Q E q => isTrue_or (ha g d t os _ E fun t1 => by
    cases x with
    | true => exact q t1
    | false => exact hb rfl _ g d t1 os Q E q)
theorem trl_val {e : Expr} {b : Bool} (he : ∀ whole, isTrue e env whole = (do let v ← whole; standAt e.pos; holding [v] (truthy v))) (hv : EvL P w A env h e (.bool b)) : TrL P w A env h e b := fun g d t os Q E q =>
  isTrue_plain (hv g d t os _ E fun t1 => wpAny_truthy_bool (q t1)) (he _)
/-- what a load of a global or a builtin asks of the heap -/
structure LoH (K : PySem.W.Frag) (mg : Str → Option Value) (base h : Heap) : Prop where
  mod : Mod K mg base
  bs : ∀ b o, base.get? b = some o → h.get? b = some o
theorem LoH.kin (L : LoH K mg base h) : K.In h := L.mod.kin.keeps L.bs
theorem LoH.glob (L : LoH K mg base h) : h.Ns mainGlobals mg := L.mod.glob.keeps L.bs
theorem LoH.lim (L : LoH K mg base h) : h.NoLimit := L.mod.nolimit.keeps L.bs
theorem LoH.up {h' : Heap} (L : LoH K mg base h) (k : ∀ b o, h.get? b = some o → h'.get? b = some o) : LoH K mg base h' := ⟨L.mod, fun b o e => k b o (L.bs b o e)⟩
theorem evl_glob {x : Str} {p : Pos} {u : Value} (L : LoH K mg base h) (hk : env.scope.kind = .function) (he : env.globals = mainGlobals) (hg : env.kindOf x = some .globalImplicit) (hm : mg x = some u) (hd : (x == ("__debug__" : Str)) = false) : EvL P w A env h (.Name x p) u :=
  fun g d t os Q E q => Calls.Name_function_global hk hg (Calls.loadGlobal_global (by rw [he]; exact L.glob) hm (q t)) hd
theorem evl_blt {x : Str} {p : Pos} {u : Value} (L : LoH K mg base h) (hk : env.scope.kind = .function) (he : env.globals = mainGlobals) (hb : env.builtins = builtinsNs) (hg : env.kindOf x = some .globalImplicit) (hm : mg x = none) (hv : bootBuiltins x = some u) (hn : x ≠ "__name__") (hd : (x == ("__debug__" : Str)) = false) : EvL P w A env h (.Name x p) u :=
  fun g d t os Q E q => by
    obtain ⟨mb, h1, h2⟩ := L.mod.blt
    exact Calls.Name_function_global hk hg (Calls.loadGlobal_builtin (by rw [he]; exact L.glob) hm (by rw [hb]; exact h1.keeps L.bs) ((h2 x hn).trans hv) (q t)) hd
/-- the type of a value, as isinstance asks it -/
def KitAt (K : PySem.W.Frag) (h : Heap) (u t : Value) : Prop := ∃ R : Heap → Prop, PySem.W.KitX K u t R ∧ (∀ h', (∀ b o c, h.get? b = some o → o.cls = .type c → h'.get? b = some o) → R h') ∧ u ≠ .builtin "__main__.__loader__#opaque"
theorem KitAt.up {h' : Heap} {u t : Value} (k : KitAt K h u t) (kp : ∀ b o c, h.get? b = some o → o.cls = .type c → h'.get? b = some o) : KitAt K h' u t := by
  obtain ⟨R, a, b, c⟩ := k
  exact ⟨R, a, fun h2 k2 => b h2 fun x o c e ec => k2 x o c (kp x o c e ec) ec, c⟩
theorem evl_isi {a : Expr} {u t : Value} {T : String} {x : Str} {b : Bool} {p p1 p2 : Pos} (L : LoH K mg base h) (hk : env.scope.kind = .function) (he : env.globals = mainGlobals) (hb : env.builtins = builtinsNs) (hgi : env.kindOf "isinstance" = some .globalImplicit) (hmi : mg "isinstance" = none)
    (hg : env.kindOf x = some .globalImplicit) (hm : mg x = none) (hv : bootBuiltins x = some (.type T)) (hn : x ≠ "__name__") (hd : (x == ("__debug__" : Str)) = false) (ha : EvL P w A env h a u) (ks : noStar a = true) (k : KitAt K h u t) (e : PySem.W.kitOne K t (.type T) = some b) :
    EvL P w A env h (.Call (.Name "isinstance" p1) [a, .Name x p2] [] p) (.bool b) := fun g d tk os Q E q => by
  have e0 := star_one a [.Name x p2] env ks
  have e1 := star_one (.Name x p2) [] env rfl
  refine wpAny_Call_Name_kw (evl_blt L hk he hb hgi hmi boot_isinstance (by decide) (by decide) g d tk os _ E fun t1 => ?_)
  refine PyProof.Rows.callWith_builtin1 ?_ e0 (by rw [e1]; rfl)
  rw [e0, e1]
  show wpAny _ _ (spliced [(false, eval a env), (false, eval (.Name x p2) env)]) _ _ _
  refine Calls.spliced_cons (ha g d t1 os _ E fun t2 => Calls.spliced_cons (evl_blt L hk he hb hg hm hv hn hd g d t2 os _ E fun t3 => Calls.spliced_nil ?_))
  obtain ⟨R, k1, k2, k3⟩ := k
  exact PySem.W.kia_one k1 L.kin (k2 h fun _ _ _ z _ => z) e k3 fun t4 => q t4
end
end Rf
set_option Elab.async false
set_option linter.all false
set_option maxRecDepth 100000
set_option maxHeartbeats 4000000
namespace Rf
open PySem PySem.Spec PyProof.Rows L2 LamX
/-- a bound of is_integer: None or an int -/
inductive BndV : D → Value → Prop
  | non : BndV .none .none
  | int (i : Int) (t : Tok) : BndV (.int i) (.int i t)
/-- is_integer's text -/
def isIntText (b : List Stmt) : Prop := ∃ (p1 p2 p3 p4 p5 p6 p7 p8 p9 p10 p11 p12 p13 p14 p15 p16 p17 p18 p19 p20 p21 p22 p23 p24 p25 p26 p27 p28 p29 p30 : Pos) (j1 j2 j3 : Nat), b = [
  .If (.BoolOp .Or [.UnaryOp .Not (.Call (.Name "isinstance" p1) [.Name "value" p2, .Name "int" p3] [] p4) p5, .Call (.Name "isinstance" p6) [.Name "value" p7, .Name "bool" p8] [] p9] p10) [.Return (some (.Constant (.bool false) j1 p11)) p12] [] p13,
  .Return (some (.BoolOp .And [
    .BoolOp .Or [.Compare (.Name "low" p14) [.Is] [.Constant .none j2 p15] p16, .Compare (.Name "low" p17) [.LtE] [.Name "value" p18] p19] p20,
    .BoolOp .Or [.Compare (.Name "high" p21) [.Is] [.Constant .none j3 p22] p23, .Compare (.Name "value" p24) [.LtE] [.Name "high" p25] p26] p27] p28)) p29]
structure IntFn (K : PySem.W.Frag) (mg : Str → Option Value) (f : Addr) : Prop where
  ex : ∃ (qual : Str) (st : Stmt) (fd : FuncData), L2.Fun K "is_integer" qual st f fd ∧ FnScope ["value", "low", "high"] ["value", "low", "high"] (defScope st) ∧ isIntText (defBody st) ∧ L2.Binds K fd ["value", "low", "high"] [] ∧ (defScope st).names.lookup ("isinstance" : Str) = some .globalImplicit ∧ (defScope st).names.lookup ("int" : Str) = some .globalImplicit ∧ (defScope st).names.lookup ("bool" : Str) = some .globalImplicit ∧
    (defScope st).names.lookup ("value" : Str) = some .local ∧ (defScope st).names.lookup ("low" : Str) = some .local ∧ (defScope st).names.lookup ("high" : Str) = some .local
  mi : mg "isinstance" = none
  mt : mg "int" = none
  mb : mg "bool" = none
def geB (l : D) (i : Int) : Bool := match l with
  | .int a => decide (a ≤ i)
  | _ => true
def leB (h : D) (i : Int) : Bool := match h with
  | .int b => decide (i ≤ b)
  | _ => true
def inBV (l h : D) (x : Option Int) : Bool := match x with
  | none => false
  | some i => geB l i && leB h i
/-- what is_integer asks of its value -/
structure IntV (K : PySem.W.Frag) (h : Heap) (u : Value) (n : Option Int) : Prop where
  ex : ∃ (t : Value) (ki kb : Bool), KitAt K h u t ∧ PySem.W.kitOne K t (.type "int") = some ki ∧ PySem.W.kitOne K t (.type "bool") = some kb ∧ ((ki && !kb) = n.isSome) ∧ ∀ i, n = some i → ∃ tk, u = .int i tk
theorem IntV.up {K : PySem.W.Frag} {h h' : Heap} {u : Value} {n : Option Int} (v : IntV K h u n) (kp : ∀ b o c, h.get? b = some o → o.cls = .type c → h'.get? b = some o) : IntV K h' u n := by
  obtain ⟨t, ki, kb, a, b, c, d, e⟩ := v.ex
  exact ⟨t, ki, kb, a.up kp, b, c, d, e⟩
section
variable {P : Program} {w : World} {A : Around} {K : PySem.W.Frag} {mg : Str → Option Value} {base : Heap}
theorem isint_run {f : Addr} {s : Shared} {u lv hv : Value} {l h : D} {n : Option Int} {Q : Value → Shared → Prop} {E : Value → Shared → Prop} (I : IntFn K mg f) (L : LoH K mg base s.heap) (hdp : A.depth < recursionLimit) (v : IntV K s.heap u n) (bl : BndV l lv) (bh : BndV h hv)
    (q : ∀ h' tk, (∀ b o, s.heap.get? b = some o → h'.get? b = some o) → Q (.bool (inBV l h n)) { s with heap := h', toks := tk }) : wpAny (model P w) A (call (.ref f) [u, lv, hv]) Q E s := by
  obtain ⟨qual, st, fd, Fu, S, tx, bn, gi, gt, gb, lv1, lv2, lv3⟩ := I.ex
  obtain ⟨oc, od, kV, doc, pm, an, cdv, ct, osl, rfl, lk, hcd⟩ := Fu.ex
  refine wpAny_call (codeAny_call_function hdp (L.kin _ _ lk) rfl S.co S.gen rfl (PySem.W.codeRec_of L.kin hcd) (bn s [u, lv, hv] L.kin rfl _ _ _ _ ?_))
  have hkind : ∀ y ∈ (["value", "low", "high"] : List Str).zip ([u, lv, hv] ++ []), (defScope st).names.lookup y.1 = some .local ∨ ((defScope st).names.lookup y.1 = some .cell ∧ ((cellsFrom (s.heap.objs.size + 1) (defScope st).names []).lookup y.1).isSome = true) := fun y hy => by
    simp only [List.append_nil, List.zip_cons_cons, List.zip_nil_right, List.mem_cons, List.not_mem_nil, or_false] at hy
    rcases hy with rfl | rfl | rfl
    · exact .inl lv1
    · exact .inl lv2
    · exact .inl lv3
  refine wpAny_newFunctionEnv_cells S.kind hkind fun env he s1 x => ?_
  refine ⟨L.lim.keeps x.toInCall.keep, codeAny_func ?_⟩
  obtain ⟨h1, tk1, e1, k1⟩ := x.done
  have xn := x.toInCall.ns
  subst e1
  have L1 : LoH K mg base h1 := L.up k1
  have v1 := v.up fun b o _ e _ => k1 b o e
  have sc : env.scope = defScope st := by rw [he]; rfl
  have hk : env.scope.kind = .function := by rw [sc]; exact S.kind
  have hgl : env.globals = mainGlobals := by rw [he]; rfl
  have hbt : env.builtins = builtinsNs := by rw [he]; rfl
  have kd : ∀ y, env.kindOf y = (defScope st).names.lookup y := fun y => by unfold Env.kindOf; rw [sc]
  have pnd : (["value", "low", "high"] : List Str).Nodup := by decide
  have m1 := bindL_get (m := fun _ => none) (kindOf := env.kindOf) (P := ["value", "low", "high"]) (vs := [u, lv, hv] ++ []) (i := 0) pnd rfl rfl (show env.kindOf "value" = some .local by rw [kd]; exact lv1)
  have m2 := bindL_get (m := fun _ => none) (kindOf := env.kindOf) (P := ["value", "low", "high"]) (vs := [u, lv, hv] ++ []) (i := 1) pnd rfl rfl (show env.kindOf "low" = some .local by rw [kd]; exact lv2)
  have m3 := bindL_get (m := fun _ => none) (kindOf := env.kindOf) (P := ["value", "low", "high"]) (vs := [u, lv, hv] ++ []) (i := 2) pnd rfl rfl (show env.kindOf "high" = some .local by rw [kd]; exact lv3)
  have ev1 : ∀ p, EvL P w (A.deeper env) env h1 (.Name "value" p) u := fun p => evl_name hk (by rw [kd]; exact lv1) xn m1 (by decide)
  have ev2 : ∀ p, EvL P w (A.deeper env) env h1 (.Name "low" p) lv := fun p => evl_name hk (by rw [kd]; exact lv2) xn m2 (by decide)
  have ev3 : ∀ p, EvL P w (A.deeper env) env h1 (.Name "high" p) hv := fun p => evl_name hk (by rw [kd]; exact lv3) xn m3 (by decide)
  obtain ⟨ty, ki, kb, kit, ei, eb, en, ein⟩ := v1.ex
  obtain ⟨p1, p2, p3, p4, p5, p6, p7, p8, p9, p10, p11, p12, p13, p14, p15, p16, p17, p18, p19, p20, p21, p22, p23, p24, p25, p26, p27, p28, p29, p30, j1, j2, j3, eb0⟩ := tx
  rw [eb0]
  have i1 : EvL P w (A.deeper env) env h1 (.Call (.Name "isinstance" p1) [.Name "value" p2, .Name "int" p3] [] p4) (.bool ki) := evl_isi L1 hk hgl hbt (by rw [kd]; exact gi) I.mi (by rw [kd]; exact gt) I.mt boot_int (by decide) (by decide) (ev1 p2) rfl kit ei
  have i2 : EvL P w (A.deeper env) env h1 (.Call (.Name "isinstance" p6) [.Name "value" p7, .Name "bool" p8] [] p9) (.bool kb) := evl_isi L1 hk hgl hbt (by rw [kd]; exact gi) I.mi (by rw [kd]; exact gb) I.mb boot_bool (by decide) (by decide) (ev1 p7) rfl kit eb
  have tst : TrL P w (A.deeper env) env h1 (.BoolOp .Or [.UnaryOp .Not (.Call (.Name "isinstance" p1) [.Name "value" p2, .Name "int" p3] [] p4) p5, .Call (.Name "isinstance" p6) [.Name "value" p7, .Name "bool" p8] [] p9] p10) (!ki || kb) :=
    trl_or (trl_not (trl_val (fun _ => rfl) i1)) fun _ whole g d t os Q E q => isTrue_or (trl_val (fun _ => rfl) i2 g d t os _ E fun t1 => by
      cases kb with
      | true => exact q t1
      | false => exact isTrue_or_nil (q t1))
  have hs1 : ∀ tk, Keeps s ⟨h1, s.gens, s.drawn, tk, s.os⟩ := fun tk => ⟨h1, tk, rfl, k1⟩
  refine wpAny_execs_cons (wpAny_If (tst s.gens s.drawn tk1 s.os _ _ fun t1 => ?_))
  cases n with
  | none =>
    have : (!ki || kb) = true := by cases ki <;> cases kb <;> first | rfl | cases en
    rw [this]
    exact wpAny_execs_cons (wpAny_Return_some (Constant_bool (q h1 _ k1)))
  | some i =>
    have : (!ki || kb) = false := by cases ki <;> cases kb <;> first | rfl | cases en
    rw [this]
    obtain ⟨ti, rfl⟩ := ein i rfl
    refine wpAny_execs_nil (wpAny_execs_cons (wpAny_Return_some ?_))
    have lo : EvL P w (A.deeper env) env h1 (.BoolOp .Or [.Compare (.Name "low" p14) [.Is] [.Constant .none j2 p15] p16, .Compare (.Name "low" p17) [.LtE] [.Name "value" p18] p19] p20) (.bool (geB l i)) := by
      cases bl with
      | non => exact evl_or (y := true) (evl_isnone (ev2 p14)) fun z => by cases z
      | int a t => exact evl_or (evl_isnone (ev2 p14)) fun _ => evl_one (evl_le (ev2 p17) (ev1 p18) rfl)
    have hi : EvL P w (A.deeper env) env h1 (.BoolOp .Or [.Compare (.Name "high" p21) [.Is] [.Constant .none j3 p22] p23, .Compare (.Name "value" p24) [.LtE] [.Name "high" p25] p26] p27) (.bool (leB h i)) := by
      cases bh with
      | non => exact evl_or (y := true) (evl_isnone (ev3 p21)) fun z => by cases z
      | int a t => exact evl_or (evl_isnone (ev3 p21)) fun _ => evl_one (evl_le (ev1 p24) (ev3 p25) rfl)
    exact evl_and (p := p28) lo (fun _ => evl_one hi) s.gens s.drawn t1 s.os _ _ fun t2 => q h1 _ k1
end
end Rf
set_option Elab.async false
set_option linter.all false
set_option maxRecDepth 100000
set_option maxHeartbeats 4000000
/-! all(is_integer(item, low, high) for item in value) -/
namespace Rf
open PySem PySem.Spec PyProof.Rows L2 LamX
def intOf : D → Option Int
  | .int i => some i
  | _ => none
section
variable {X : Cx} {pins : List (Addr × Obj)} {σ : L2.St} {H : Hp} {s : Shared}
theorem kit_list {K : PySem.W.Frag} {a : Addr} {o : Obj} {h : Heap} (e : h.get? a = some o) (c : o.cls = .type "list") : KitAt K h (.ref a) (.type "list") := ⟨_, PySem.W.kitx_list, fun h' k => ⟨o, k a o _ e c, c⟩, fun z => nomatch z⟩
theorem kit_tuple {K : PySem.W.Frag} {a : Addr} {o : Obj} {h : Heap} (e : h.get? a = some o) (c : o.cls = .type "tuple") : KitAt K h (.ref a) (.type "tuple") := ⟨_, PySem.W.kitx_tuple, fun h' k => ⟨o, k a o _ e c, c⟩, fun z => nomatch z⟩
theorem intV_of {x : V} {u : Value} {d : D} (I : Inv X pins σ H s) (rx : RelV x u) (hd : Dq X.K H x d) : IntV X.K s.heap u (intOf d) := by
  cases hd with
  | non => cases (show u = Value.none from rx); exact ⟨_, false, false, ⟨_, PySem.W.kitx_none, fun _ _ => True.intro, fun z => nomatch z⟩, rfl, rfl, rfl, fun i e => nomatch e⟩
  | bl y => cases (show u = Value.bool y from rx); exact ⟨_, true, true, ⟨_, PySem.W.kitx_bool, fun _ _ => True.intro, fun z => nomatch z⟩, rfl, rfl, rfl, fun i e => nomatch e⟩
  | int i => obtain ⟨t, q⟩ := (show ∃ t, u = Value.int i t from rx); cases q; exact ⟨_, true, false, ⟨_, PySem.W.kitx_int, fun _ _ => True.intro, fun z => nomatch z⟩, rfl, rfl, rfl, fun j e => by cases e; exact ⟨t, rfl⟩⟩
  | str y => obtain ⟨t, q⟩ := (show ∃ t, u = Value.str y t from rx); cases q; exact ⟨_, false, false, ⟨_, PySem.W.kitx_str, fun _ _ => True.intro, fun z => nomatch z⟩, rfl, rfl, rfl, fun i e => nomatch e⟩
  | @lst a xs ds ea _ =>
    cases (show u = Value.ref a from rx)
    obtain ⟨_, _, n, _, h1⟩ := (show ObjOk X.prog X.w H s.heap a (.lst xs) from I.hok a _ ea)
    exact ⟨_, false, false, kit_list h1 rfl, rfl, rfl, rfl, fun i e => nomatch e⟩
  | @scr a ns q =>
    cases (show u = Value.ref a from rx)
    obtain ⟨its, _, pl, _⟩ := I.list q
    obtain ⟨o, n, e, c, _⟩ := pl
    exact ⟨_, false, false, kit_list e c, rfl, rfl, rfl, fun i e => nomatch e⟩
  | @tup a xs ds q _ =>
    cases (show u = Value.ref a from rx)
    obtain ⟨its, _, ⟨o, h1, h2, _⟩, _⟩ := I.tuple q.sq
    exact ⟨_, false, false, kit_tuple h1 h2, rfl, rfl, rfl, fun i e => nomatch e⟩
theorem bndV_of {x : V} {u : Value} {d : D} (rx : RelV x u) (hd : Dq X.K H x d) (hb : (inB d .none .none).isSome = true) : BndV d u := by
  cases hd with
  | non => cases (show u = Value.none from rx); exact .non
  | int i => obtain ⟨t, q⟩ := (show ∃ t, u = Value.int i t from rx); cases q; exact .int i t
  | _ => cases hb
end
theorem inB_iff {l h d : D} (e : (inB l h .none).isSome = true) : inB l h d = some (inBV l h (intOf d)) := by
  cases l <;> cases h <;> first | (cases e; done) | skip
  all_goals (cases d <;> first | rfl | simp [inB, inBV, intOf, geB, leB])
section
variable {X : Cx} {pins : List (Addr × Obj)} {σ : L2.St} {H : Hp} {s : Shared}
/-- a list or a tuple, walked by an iterator -/
theorem seq_walk {a : Addr} {xs : List V} (I : Inv X pins σ H s) (hq : SqL X.K H a xs ∨ SqT X.K H a xs) : ∃ (o : Obj) (its : List Value) (St : Nat → Heap → Prop), Vals xs its ∧ (∃ oa c, s.heap.get? a = some oa ∧ oa.cls = .type c) ∧
    (∀ (Q : Value → Shared → Prop) (E : Value → Shared → Prop), Q (.ref s.heap.objs.size) { s with heap := s.heap.push o } → wpAny (model X.prog X.w) X.A (pyIter (.ref a)) Q E s) ∧
    (∀ A' : Around, A'.handled = none → Walks X.prog X.w A' s.heap.objs.size [s.heap.objs.size, a] [s.heap.objs.size] its.toArray.size (fun i v => its.toArray[i]? = some v) St) ∧ St 0 (s.heap.push o) := by
  have ne : ∀ {oa : Obj}, s.heap.get? a = some oa → a ≠ s.heap.objs.size := fun e => Nat.ne_of_lt (Heap.lt_size e)
  rcases hq with hq | hq
  · obtain ⟨its, r, pl, _⟩ := I.list hq
    obtain ⟨oa, n, e, c, _⟩ := id pl
    exact ⟨_, its, _, r, ⟨oa, _, e, c⟩, fun Q E q => wpAny_pyIter_list pl.isList q, fun A' hh => Walks.list hh _ a (ne e) its.toArray, ⟨_, Heap.get?_push_size _ rfl, rfl, rfl⟩, pl.isList.at fun o z => Heap.get?_push_of_some _ z⟩
  · obtain ⟨its, r, pl, _⟩ := I.tuple hq
    have pl : s.heap.IsTuple a its.toArray := pl
    obtain ⟨oa, e, c, _⟩ := id pl
    exact ⟨_, its, _, r, ⟨oa, _, e, c⟩, fun Q E q => wpAny_pyIter_tuple pl q, fun A' hh => Walks.tuple hh _ a (ne e) its.toArray, ⟨_, Heap.get?_push_size _ rfl, rfl, rfl⟩, pl.at fun o z => Heap.get?_push_of_some _ z⟩
/-- a new code object in its maker's table -/
theorem tabs_grow {T : List (Addr × Str)} {Pt c' : Addr} {q : Str} {ps : Array Value} {pos : Pos} (hT : Tabs T H) (hm : (Pt, q) ∈ T) (hu : ∀ p ∈ T, p.1 = Pt → p.2 = q) (hP : H Pt = some (.tbl ps)) (nC : H c' = none) :
    ExtN H (upd (upd H Pt (.tbl (ps ++ #[rawInt pos.line, rawInt pos.col, .ref c']))) c' (CodeO c' q)) ∧ Tabs T (upd (upd H Pt (.tbl (ps ++ #[rawInt pos.line, rawInt pos.col, .ref c']))) c' (CodeO c' q)) := by
  have hE : ExtN H (upd (upd H Pt (.tbl (ps ++ #[rawInt pos.line, rawInt pos.col, .ref c']))) c' (CodeO c' q)) := fun b o e n => by
    rw [upd_ne (ne_of_none e nC), upd_ne (fun z => n ps (Option.some.inj (e.symm.trans (by rw [z]; exact hP))))]
    exact e
  refine ⟨hE, fun p hp => ?_⟩
  obtain ⟨ps1, a1, a2, a3⟩ := hT p hp
  by_cases hb : p.1 = Pt
  · have eq : p.2 = q := hu p hp hb
    have e1 : ps1 = ps := by
      rw [hb, hP] at a1
      have z := Option.some.inj a1
      cases z
      rfl
    subst e1
    have eL : (ps1 ++ #[rawInt pos.line, rawInt pos.col, .ref c']).toList = ps1.toList ++ [rawInt pos.line, rawInt pos.col, .ref c'] := by simp
    refine ⟨_, by rw [hb, upd_ne (ne_of_none hP nC), upd_same], by rw [eL]; exact PySem.TriplesOk_snoc _ _ _ _ a2, fun p' cv hcv => ?_⟩
    rw [eL] at hcv
    rcases among_app _ a2 hcv with z | z
    · obtain ⟨c0, e1, e2⟩ := a3 p' cv z
      exact ⟨c0, e1, hE _ _ e2 codeO_ne⟩
    · exact ⟨c', z, by rw [eq, upd_same]⟩
  · refine ⟨ps1, by rw [upd_ne (ne_of_none a1 nC), upd_ne hb]; exact a1, a2, fun p' cv hcv => ?_⟩
    obtain ⟨c0, e1, e2⟩ := a3 p' cv hcv
    exact ⟨c0, e1, hE _ _ e2 codeO_ne⟩
/-- the scope of such a generator expression -/
structure GenI (env : Env) (scope : Scope) (x lo hi : Str) : Prop where
  kind : scope.kind = .function
  co : scope.isCoroutine = false
  cell : ∀ y ∈ scope.names, y.2 ≠ .cell
  dot : scope.names.lookup (".0" : Str) = some NameKind.local
  loc : scope.names.lookup x = some .local
  uniq : ∀ y ∈ scope.names, scope.names.lookup y.1 = some y.2
  free : ∀ y ∈ scope.names, y.2 = .free → env.scope.names.lookup y.1 = some .cell ∨ env.scope.names.lookup y.1 = some .free
  lo : scope.names.lookup lo = some .free
  hi : scope.names.lookup hi = some .free
  isf : scope.names.lookup ("is_integer" : Str) = some .globalImplicit
theorem cell_of {y : Str} {i : Nat} {v : V} (I : Inv X pins σ H s) (hN : X.N[i]? = some y) (hs : σ[i]? = some (some v)) (hk : X.env.scope.names.lookup y = some .cell ∨ X.env.scope.names.lookup y = some .free) : ∃ u c, RelV v u ∧ X.env.cells.lookup y = some c ∧ s.heap.IsCell c (some u) := by
  obtain ⟨m, hn, hl⟩ := I.loc
  obtain ⟨u, r, q⟩ := hl i y v hN hs (hk.elim (fun k => .inr (.inl k)) fun k => .inr (.inr k))
  rcases q with ⟨k, _⟩ | ⟨_, c, e, z⟩
  · have k : X.env.scope.names.lookup y = some .local := k
    rcases hk with h | h <;> rw [h] at k <;> cases k
  · exact ⟨u, c, r, e, z⟩
theorem clo_get {env : Env} {scope : Scope} {y : Str} {c : Addr} (hu : ∀ z ∈ scope.names, scope.names.lookup z.1 = some z.2) (hf : scope.names.lookup y = some .free) (he : env.cells.lookup y = some c) : (cloFrom env.cells scope.names []).lookup y = some c := by
  have hm : (y, NameKind.free) ∈ scope.names := PySem.mem_of_lookup hf
  obtain ⟨c2, h2⟩ := mem_lookup (cloFrom_has (cells := env.cells) (acc := []) hm)
  have h3 := PySem.mem_of_lookup h2
  rcases cloFrom_mem h3 with z | ⟨_, z⟩
  · cases z
  · rw [he] at z
    rw [h2, z]
    rfl
end
end Rf
set_option Elab.async false
set_option linter.all false
set_option maxRecDepth 100000
set_option maxHeartbeats 4000000
namespace Rf
open PySem PySem.Spec PyProof.Rows L2 LamX
section
variable {P : Program} {w : World} {A : Around} {K : PySem.W.Frag} {mg : Str → Option Value} {base : Heap}
theorem evl_free {env : Env} {h : Heap} {x : Str} {p : Pos} {u : Value} {c : Addr} (hk : env.scope.kind = .function) (hl : env.kindOf x = some .free) (hc : env.cells.lookup x = some c) (hv : h.IsCell c (some u)) (hd : (x == ("__debug__" : Str)) = false) (hn : (x == ("__classdict__" : Str)) = false) : EvL P w A env h (.Name x p) u :=
  fun g d t os Q E q => wpAny_Name (wpAny_loadName_free hk hl hc hv (q t) hn) hd
theorem elt_int {cenv : Env} {s : Shared} {m : Str → Option Value} {f : Addr} {x lo hi : Str} {v lv hv : Value} {l h : D} {n : Option Int} {c1 c2 : Addr} {E : Value → Shared → Prop} {p1 p2 p3 p4 p5 : Pos} (If : IntFn K mg f) (hm : mg "is_integer" = some (.ref f)) (kf : PySem.W.keepIn K (.ref f) = true)
    (L : LoH K mg base s.heap) (hdp : A.depth < recursionLimit) (hk : cenv.scope.kind = .function) (hgl : cenv.globals = mainGlobals) (hns : s.heap.Ns cenv.locals m) (hx : m x = some v) (kx : cenv.kindOf x = some .local) (kl : cenv.kindOf lo = some .free) (kh : cenv.kindOf hi = some .free) (kg : cenv.kindOf "is_integer" = some .globalImplicit)
    (e1 : cenv.cells.lookup lo = some c1) (e2 : cenv.cells.lookup hi = some c2) (i1 : s.heap.IsCell c1 (some lv)) (i2 : s.heap.IsCell c2 (some hv)) (iv : IntV K s.heap v n) (bl : BndV l lv) (bh : BndV h hv)
    (dx : (x == ("__debug__" : Str)) = false) (dl : (lo == ("__debug__" : Str)) = false ∧ (lo == ("__classdict__" : Str)) = false) (dh : (hi == ("__debug__" : Str)) = false ∧ (hi == ("__classdict__" : Str)) = false) :
    wpAny (model P w) A (eval (.Call (.Name "is_integer" p1) [.Name x p2, .Name lo p3, .Name hi p4] [] p5) cenv) (fun y s₃ => y = .bool (inBV l h n) ∧ Keeps s s₃) E s := by
  obtain ⟨hp, g, d, t, os⟩ := s
  have L : LoH K mg base hp := L
  refine wpAny_Call_Name_kw (evl_glob L hk hgl kg hm (by decide) g d t os _ E fun t1 => ?_)
  refine PySem.W.callWith_K (h₀ := hp) L.kin kf ?_ rfl rfl
  show wpAny _ _ (spliced [(false, eval (.Name x p2) cenv), (false, eval (.Name lo p3) cenv), (false, eval (.Name hi p4) cenv)]) _ _ _
  refine Calls.spliced_cons (evl_name hk kx hns hx dx g d t1 os _ E fun t2 => Calls.spliced_cons (evl_free hk kl e1 i1 dl.1 dl.2 g d t2 os _ E fun t3 => Calls.spliced_cons (evl_free hk kh e2 i2 dh.1 dh.2 g d t3 os _ E fun t4 => Calls.spliced_nil ⟨L.kin, ?_⟩)))
  exact isint_run (s := ⟨hp, g, d, t4, os⟩) If L hdp iv bl bh fun h' tk k => ⟨rfl, h', tk, rfl, k⟩
end
section
variable {X : Cx} {pins : List (Addr × Obj)} {σ : L2.St} {H : Hp} {s : Shared} {T : List (Addr × Str)}
/-- the generator g over the items its of a, ready to be walked; H: what was held before -/
def ReadyI (X : Cx) (T : List (Addr × Str)) (pins : List (Addr × Obj)) (σ : L2.St) (H : Hp) (bs : List Bool) (g : Addr) (s5 : Shared) : Prop :=
  ∃ (n : Nat) (fp wr : List Addr) (G : Array GenState → Array GenState → Prop) (F : Nat → Value → Prop) (St : Nat → Shared → Prop),
    n = bs.length ∧ WalksS X.prog X.w X.A.in1 g fp wr G n F St ∧ St 0 s5 ∧ TruthOf X.prog X.w X.A.in1 F (fun j => bs.getD j false) ∧ ∀ s', Moved wr G s5 s' → ∃ H2, ExtN H H2 ∧ Tabs T H2 ∧ Inv X pins σ H2 s'
theorem all_getD (bs : List Bool) : (List.range bs.length).all (fun j => bs.getD j false) = bs.all id := by
  rw [Bool.eq_iff_iff, List.all_eq_true, List.all_eq_true]
  constructor
  · intro h b hb
    obtain ⟨j, hj, e⟩ := List.getElem_of_mem hb
    have q := h j (List.mem_range.mpr hj)
    rw [List.getD_eq_getElem?_getD, List.getElem?_eq_getElem hj, e] at q
    exact q
  · intro h j hj
    have hj' := List.mem_range.mp hj
    rw [List.getD_eq_getElem?_getD, List.getElem?_eq_getElem hj']
    exact h _ (List.getElem_mem hj')
theorem gen_int {c Pt f a : Addr} {iv il ih : Nat} {x vn lo hi : Str} {p1 p2 p3 p4 p5 px pv gpos : Pos} {scope : Scope} {k : Nat} {xs : List V} {ds : List D} {vl vh : V} {l h : D} {Q' : Value → Shared → Prop}
    (hr : Room k X.A) (TB : LamX.TabB X.base X.mg c Pt) (hcode : X.env.code = .ref c) (hmT : (Pt, X.env.qual ++ "<genexpr>") ∈ T) (hu : ∀ p ∈ T, p.1 = Pt → p.2 = X.env.qual ++ "<genexpr>") (S : GenI X.env scope x lo hi) (If : IntFn X.K X.mg f) (hm : X.mg "is_integer" = some (.ref f)) (kf : PySem.W.keepIn X.K (.ref f) = true)
    (I : Inv X pins σ H s) (hT : Tabs T H) (hNv : X.N[iv]? = some vn) (hvv : Vis X.env.scope vn) (dv : (vn == ("__debug__" : Str)) = false ∧ (vn == ("__classdict__" : Str)) = false) (hsv : σ[iv]? = some (some (.ref a))) (hq : SqL X.K H a xs ∨ SqT X.K H a xs) (hds : DqAll X.K H xs ds)
    (hNl : X.N[il]? = some lo) (hsl : σ[il]? = some (some vl)) (bl : Dq X.K H vl l) (ol : (inB l .none .none).isSome = true) (hNh : X.N[ih]? = some hi) (hsh : σ[ih]? = some (some vh)) (bh : Dq X.K H vh h) (oh : (inB h .none .none).isSome = true)
    (dx : (x == ("__debug__" : Str)) = false) (dl : (lo == ("__debug__" : Str)) = false ∧ (lo == ("__classdict__" : Str)) = false) (dh : (hi == ("__debug__" : Str)) = false ∧ (hi == ("__classdict__" : Str)) = false)
    (hQ : ∀ g s5, ReadyI X T pins σ H (ds.map fun d => inBV l h (intOf d)) g s5 → Q' (.ref g) s5) :
    wpAny (model X.prog X.w) X.A (eval (.GeneratorExp (.Call (.Name "is_integer" p1) [.Name x p2, .Name lo p3, .Name hi p4] [] p5) [⟨.Name x px, .Name vn pv, [], 0⟩] scope gpos) X.env) Q' X.xe s := by
  have hfree : ∀ y ∈ scope.names, y.2 = .free → ∃ c, X.env.cells.lookup y.1 = some c := fun y hy e => by
    rcases S.free y hy e with k | k
    · exact I.ok.has _ (.inl k)
    · exact I.ok.has _ (.inr k)
  refine wpAny_GeneratorExp_walksQD hr.hd S.co (closure_ok hfree) S.cell S.dot S.loc S.kind hr.depth ?_ (fun _ => rfl)
  refine thn ((pe_var (pos := pv) hNv hvv dv.1 dv.2).run pins s σ H (fun v H1 => v = .ref a ∧ H1 = H) I ⟨_, hsv, rfl, rfl⟩) fun xv s1 h1 => ?_
  obtain ⟨v0, H1, I1, r1, ev, eH⟩ := h1
  rw [ev] at r1
  rw [eH] at I1
  clear ev eH
  obtain rfl : xv = Value.ref a := r1
  obtain ⟨o, its, St, rv, ⟨oa, ca, ea, eca⟩, hit, W, hst⟩ := seq_walk I1 hq
  refine hit _ _ ?_
  obtain ⟨ps, hP, ht, hcs⟩ := hT _ hmT
  have hPs : s1.heap.get? Pt = some { cls := .none, data := .fields ps } := I1.hok Pt _ hP
  have hPlt : Pt < s1.heap.objs.size := Heap.lt_size hPs
  have hP2 : (s1.heap.push o).get? Pt = some { cls := .none, data := .fields ps } := Heap.get?_push_of_some _ hPs
  have cd : PySem.W.CodeHd (s1.heap.push o) c Pt := TB.code.keeps fun b u e => Heap.get?_push_of_some _ (I1.bk b u e)
  have lim2 : (s1.heap.push o).NoLimit := I1.nolimit.push o
  have aP : a ≠ Pt := fun z => by
    rw [z, hPs] at ea
    cases ea
    cases eca
  obtain ⟨ul, cl1, rl, ecl, icl⟩ := cell_of I1 hNl hsl (S.free _ (PySem.mem_of_lookup S.lo) rfl)
  obtain ⟨uh, ch1, rh, ech, ich⟩ := cell_of I1 hNh hsh (S.free _ (PySem.mem_of_lookup S.hi) rfl)
  have bl' : BndV l ul := bndV_of rl bl ol
  have bh' : BndV h uh := bndV_of rh bh oh
  have cell_ne : ∀ {cc : Addr} {v : Option Value}, s1.heap.IsCell cc v → cc ≠ Pt := fun {cc v} z e => by
    obtain ⟨oc, e1, e2⟩ := z
    rw [e, hPs] at e1
    cases e1
    cases e2
  have itsl : its.length = ds.length := by rw [← rv.length, dps_len hds]
  have cont : ∀ (code : Value) (h3 : Heap) (tk : Nat) (ps' : Array Value), Heap.ExtBut Pt (s1.heap.push o) h3 → (s1.heap.push o).objs.size ≤ h3.objs.size → h3.get? Pt = some { cls := .none, data := .fields ps' } →
      (∀ (s' : Shared), (∀ b u, b ≠ Pt → s1.heap.get? b = some u → s'.heap.get? b = some u) → (∀ b u, (s1.heap.push o).objs.size ≤ b → h3.get? b = some u → s'.heap.get? b = some u) → s'.heap.get? Pt = some { cls := .none, data := .fields ps' } → AllBare s'.gens → s'.os = s1.os → ∃ H2, ExtN H H2 ∧ Tabs T H2 ∧ Inv X pins σ H2 s') →
      wpAny (model X.prog X.w) X.A (builtinsFor X.env.globals X.env.builtins) (fun bi s₄ =>
        ∃ Ia fp wr n₀ Pf St₀ pz F, Value.ref s1.heap.objs.size = .ref Ia ∧ (∀ A' : Around, A'.handled = none → Walks X.prog X.w A' Ia fp wr n₀ Pf St₀) ∧ St₀ 0 s₄.heap ∧ (∀ b ∈ fp, b < s₄.heap.objs.size) ∧ s₄.heap.NoLimit ∧ cStatics ∉ wr ∧
          (∀ href : Heap, (∀ b o, s₄.heap.get? b = some o → href.get? b = some o) →
            QuietGenD X.prog X.w (genEnv scope (cloFrom X.env.cells scope.names []) s₄.heap.objs.size code bi X.env) x [] (.Call (.Name "is_integer" p1) [.Name x p2, .Name lo p3, .Name hi p4] [] p5) (List.range s₄.heap.objs.size) wr Pf pz F href (X.A.depth + 1) (X.A.units + 8)) ∧
          (∀ a h₅ tk gs, gs.bare = true → s₄.heap.objs.size < a → h₅.objs.size = a + 1 → (∀ b o, s₄.heap.get? b = some o → h₅.get? b = some o) →
            WalksS X.prog X.w X.A.in4 a (a :: s₄.heap.objs.size :: List.range s₄.heap.objs.size) (s₄.heap.objs.size :: wr) (GenOnlyQ s₄.gens.size) (passing pz n₀ 0).length
              (fun j y => ∃ i, (passing pz n₀ 0)[j]? = some i ∧ F i y) (GenAt X.prog X.w X.A.in4 a s₄.gens.size s₄.heap.objs.size (List.range s₄.heap.objs.size) wr pz n₀ F) →
            GenAt X.prog X.w X.A.in4 a s₄.gens.size s₄.heap.objs.size (List.range s₄.heap.objs.size) wr pz n₀ F 0 { s₄ with gens := s₄.gens.push gs, toks := tk, heap := h₅ } →
            Q' (.ref a) { s₄ with gens := s₄.gens.push gs, toks := tk, heap := h₅ })) X.xe { s1 with heap := h3, toks := tk } := by
    intro code h3 tk ps' hx hsz hP3 fin
    obtain ⟨bm, ob, b1, b2, b3, b4, b5, b6, b7, b8⟩ := TB.bm
    have hcP : cStatics ≠ Pt := fun e => by
      obtain ⟨_, hns, _⟩ := I1.nolimit
      obtain ⟨o', es, ep, ho, hd, _⟩ := hns
      rw [e, hPs] at ho
      cases ho
      cases hd
    have hcl : cStatics < s1.heap.objs.size := let ⟨_, hns, _⟩ := I1.nolimit; hns.lt
    have sz2 : (s1.heap.push o).objs.size = s1.heap.objs.size + 1 := Heap.size_push ..
    have hsz' : s1.heap.objs.size + 1 ≤ h3.objs.size := by rw [← sz2]; exact hsz
    have big3 : ∀ b : Addr, b < s1.heap.objs.size → b < h3.objs.size := fun b hb => Nat.lt_of_lt_of_le (Nat.lt_succ_of_lt hb) hsz'
    have keep3 : ∀ b u, b ≠ Pt → s1.heap.get? b = some u → h3.get? b = some u := fun b u hb e => hx b u hb (Heap.get?_push_of_some _ e)
    have baseP : ∀ b u, X.base.get? b = some u → b ≠ Pt := fun b u e z => by
      have q := I1.base.free b u (I1.ok.bs b u e).1 (I1.ok.bs b u e).2 (I1.ok.noex b u e)
      rw [z, hP] at q
      cases q
    refine wpAny_builtinsFor (m := X.mg) (by rw [I1.ok.glob]; exact ((I1.mod.glob.keeps I1.bk).push o).extBut hx TB.gP) b1 b2 (keep3 _ _ b4 (I1.bk _ _ b5)) b6 b7 b8 ?_
    refine ⟨s1.heap.objs.size, [s1.heap.objs.size, a], [s1.heap.objs.size], its.toArray.size, fun i v => its.toArray[i]? = some v, St, (fun _ => true), (fun i y => ∃ d, ds[i]? = some d ∧ y = .bool (inBV l h (intOf d))), rfl, W, ?_, ?_, lim2.extBut hx hcP, ?_, ?_, ?_⟩
    · refine (W X.A hr.hd).frame _ _ _ hst fun b hb u e => hx b u (fun z => ?_) e
      rcases List.mem_cons.mp hb with z2 | z2
      · exact Nat.ne_of_lt hPlt (z.symm.trans z2)
      · rcases List.mem_cons.mp z2 with z3 | z3
        · exact aP (z3.symm.trans z)
        · cases z3
    · intro b hb
      show b < h3.objs.size
      rcases List.mem_cons.mp hb with z | z
      · rw [z]
        show s1.heap.objs.size < h3.objs.size
        omega
      · rcases List.mem_cons.mp z with z | z
        · rw [z]
          exact big3 a (Heap.lt_size ea)
        · cases z
    · intro z
      rcases List.mem_cons.mp z with z | z
      · exact Nat.ne_of_lt hcl z
      · cases z
    · intro href hhref
      refine ⟨fun A' E' i v s₂ m₂ hA _ _ hPv hn hm hk => ?_, fun A' E' i v s₂ m₂ hA hdp _ hPv _ hn hmx hk => ?_⟩
      · simp only [List.forIn_nil]
        exact wpAny_pure ⟨rfl, s₂.heap, s₂.toks, rfl, fun _ _ e => e⟩
      · have hPv : its.toArray[i]? = some v := hPv
        have hi : i < its.length := by
          rcases Nat.lt_or_ge i its.length with q | q
          · exact q
          · rw [Array.getElem?_eq_none (by rw [List.size_toArray]; exact q)] at hPv; cases hPv
        have ei : its[i]? = some v := by simpa using hPv
        have hid : i < ds.length := by omega
        obtain ⟨xv, ex, dxv⟩ := dps_get i hds (List.getElem?_eq_getElem hid)
        obtain ⟨u2, eu, ru⟩ := Vals.get rv ex
        rw [ei] at eu
        cases eu
        have iv := intV_of I1 ru dxv
        have k12 : ∀ b u, b ≠ Pt → s1.heap.get? b = some u → s₂.heap.get? b = some u := fun b u hb e => by
          have hl := Heap.lt_size e
          refine hk b (List.mem_range.mpr (big3 b hl)) (fun z => ?_) u (hhref b u (keep3 b u hb e))
          rcases List.mem_cons.mp z with z | z
          · exact Nat.ne_of_lt hl z
          · cases z
        have clsP : ∀ b u c, s1.heap.get? b = some u → u.cls = .type c → b ≠ Pt := fun b u c e ec z => by
          rw [z, hPs] at e
          cases e
          cases ec
        have L2 : LoH X.K X.mg X.base s₂.heap := ⟨I1.ok.mod, fun b u e => k12 b u (baseP b u e) (I1.bk b u e)⟩
        have cellK : ∀ {cc : Addr} {q : Option Value}, s1.heap.IsCell cc q → s₂.heap.IsCell cc q := fun {cc q} z => by
          have n := cell_ne z
          obtain ⟨oc, z1, z2⟩ := z
          exact ⟨oc, k12 cc oc n z1, z2⟩
        refine wpAny_mono (elt_int If hm kf L2 (Nat.lt_of_le_of_lt hdp (by have := hr.dp; omega)) S.kind I1.ok.glob hn hmx S.loc S.lo S.hi S.isf (clo_get S.uniq S.lo ecl) (clo_get S.uniq S.hi ech) (cellK icl) (cellK ich) (iv.up fun b u c e ec => k12 b u (clsP b u c e ec) e) bl' bh' dx dl dh) (fun y s3 r => ⟨⟨ds[i], List.getElem?_eq_getElem hid, r.1⟩, r.2⟩) fun _ _ e => e
    · intro g h5 tk5 gs hgb hag hsz5 hk5 W5 hat
      simp only [GxR.passing_true, List.length_range] at W5
      have hlen : its.toArray.size = (ds.map fun d => inBV l h (intOf d)).length := by rw [List.size_toArray, List.length_map, itsl]
      refine hQ g _ ⟨_, _, _, _, _, _, hlen, W5.in4_1, hat, ?_, fun s' hmv => ?_⟩
      · intro j y sj Qj Ej hy hQj
        obtain ⟨i, hij, d, hd, rfl⟩ := hy
        obtain ⟨hj, ej⟩ := List.getElem?_eq_some_iff.mp hij
        rw [List.getElem_range] at ej
        subst ej
        have hQ2 : Qj ((ds.map fun d => inBV l h (intOf d)).getD j false) sj := hQj
        rw [List.getD_eq_getElem?_getD, List.getElem?_map, hd] at hQ2
        exact wpAny_truthy_bool hQ2
      · have nwr : ∀ b, b < s1.heap.objs.size → b ∉ h3.objs.size :: [s1.heap.objs.size] := fun b hl hb => by
          rcases List.mem_cons.mp hb with z | z
          · exact Nat.ne_of_lt (big3 b hl) z
          · rcases List.mem_cons.mp z with z | z
            · exact Nat.ne_of_lt hl z
            · cases z
        refine fin s' (fun b u hb e => hmv.heap b u (nwr b (Heap.lt_size e)) (hk5 b u (keep3 b u hb e))) (fun b u hb' e => hmv.heap b u (fun z => ?_) (hk5 b u e)) (hmv.heap Pt _ (nwr Pt hPlt) (hk5 Pt _ hP3)) (AllBare.movedS (I1.bare.push hgb) hmv) hmv.os
        have hl := Heap.lt_size e
        rcases List.mem_cons.mp z with z | z
        · rw [z] at hl; exact Nat.lt_irrefl _ hl
        · rcases List.mem_cons.mp z with z | z
          · exact absurd (show (s1.heap.push o).objs.size ≤ s1.heap.objs.size from z ▸ ‹(s1.heap.push o).objs.size ≤ b›) (by rw [sz2]; exact Nat.not_succ_le_self _)
          · cases z
  refine ⟨lim2, ?_⟩
  cases hf : codeAmong gpos ps.toList with
  | none =>
    refine wpAny_genexprCodeX hcode (cd.code hP2 ht) (cd.tab hP2) hf fun c' h' tk hx hge hlt hco' hrec htab' _ => ?_
    obtain ⟨c2, oc, vs, t, e2, hoc, hdc, hvc⟩ := hrec
    cases e2
    have sz2 : (s1.heap.push o).objs.size = s1.heap.objs.size + 1 := Heap.size_push ..
    have hge1 : s1.heap.objs.size ≤ c' := Nat.le_trans (by rw [sz2]; exact Nat.le_succ _) hge
    have nC : H c' = none := I1.hok.fresh hge1
    obtain ⟨eN, tN⟩ := tabs_grow (pos := gpos) hT hmT hu hP nC
    refine cont _ h' tk _ hx (Nat.le_trans hge (Nat.le_of_lt hlt)) htab'.2 fun s' k1 k2 k3 hb ho => ⟨_, eN, tN, ?_⟩
    have I2 := LamX.inv_table (t' := s'.toks) (more := #[rawInt gpos.line, rawInt gpos.col, .ref c']) (h' := s'.heap) (q := X.env.qual ++ "<genexpr>") I1 hP k1 k3 hge1 ⟨oc, vs, t, k2 c' oc hge hoc, hdc, hvc⟩
    have nPc : Pt ≠ c' := ne_of_none hP nC
    have hP' : (upd (upd H Pt (.tbl (ps ++ #[rawInt gpos.line, rawInt gpos.col, .ref c']))) c' (CodeO c' (X.env.qual ++ "<genexpr>"))) Pt = some (.tbl (ps ++ #[rawInt gpos.line, rawInt gpos.col, .ref c'])) := by rw [upd_ne nPc, upd_same]
    have I3 := GxR.inv_tab (more := #[]) (h' := s'.heap) (g' := s'.gens) (d' := s'.drawn) (t' := s'.toks) I2 hP' (fun b u _ e => e) (by rw [Array.append_empty]; exact k3) hb
    rw [Array.append_empty] at I3
    have eu : upd (upd (upd H Pt (.tbl (ps ++ #[rawInt gpos.line, rawInt gpos.col, .ref c']))) c' (CodeO c' (X.env.qual ++ "<genexpr>"))) Pt (.tbl (ps ++ #[rawInt gpos.line, rawInt gpos.col, .ref c'])) = upd (upd H Pt (.tbl (ps ++ #[rawInt gpos.line, rawInt gpos.col, .ref c']))) c' (CodeO c' (X.env.qual ++ "<genexpr>")) := by
      funext b
      by_cases z : b = Pt
      · rw [z, upd_same, hP']
      · rw [upd_ne z]
    rw [eu] at I3
    have e4 := GxR.sh_eta s1 s' ho
    rw [← e4]
    exact I3
  | some cv =>
    refine wpAny_genexprCode_hit hcode (cd.code hP2 ht) hf ?_
    refine cont cv (s1.heap.push o) s1.toks ps (Heap.ExtBut.refl _ _) (Nat.le_refl _) hP2 fun s' k1 k2 k3 hb ho => ⟨H, ExtN.refl H, hT, ?_⟩
    have I3 := GxR.inv_tab (more := #[]) (h' := s'.heap) (g' := s'.gens) (d' := s'.drawn) (t' := s'.toks) I1 hP k1 (by rw [Array.append_empty]; exact k3) hb
    rw [Array.append_empty] at I3
    have eu : upd H Pt (.tbl ps) = H := by
      funext b
      by_cases z : b = Pt
      · rw [z, upd_same, hP]
      · rw [upd_ne z]
    rw [eu] at I3
    have e4 := GxR.sh_eta s1 s' ho
    rw [← e4]
    exact I3
end
end Rf
set_option Elab.async false
set_option linter.all false
set_option maxRecDepth 100000
set_option maxHeartbeats 4000000
namespace Rf
open PySem PySem.Spec PyProof.Rows L2 LamX
theorem inB_parts {l h : D} (e : (inB l h .none).isSome = true) : (inB l .none .none).isSome = true ∧ (inB h .none .none).isSome = true := by
  cases l <;> cases h <;> first | (cases e; done) | exact ⟨rfl, rfl⟩
theorem all_inB {l h : D} {ds : List D} (e : (inB l h .none).isSome = true) : (ds.all fun d => inB l h d == some true) = (ds.map fun d => inBV l h (intOf d)).all id := by
  rw [List.all_map]
  congr 1
  funext d
  rw [inB_iff e]
  show (some (inBV l h (intOf d)) == some true) = inBV l h (intOf d)
  cases inBV l h (intOf d) <;> rfl
section
variable {T : List (Addr × Str)} {xt : XT} {X : Cx}
theorem se_allint {c Pt f : Addr} {iv il ih : Nat} {x vn lo hi : Str} {p1 p2 p3 p4 p5 px pv gpos pa pos : Pos} {scope : Scope} {k : Nat}
    (hr : Room k X.A) (hga : Gl X "all") (hma : X.mg "all" = none) (TB : LamX.TabB X.base X.mg c Pt) (hcode : X.env.code = .ref c) (hmT : (Pt, X.env.qual ++ "<genexpr>") ∈ T) (hu : ∀ p ∈ T, p.1 = Pt → p.2 = X.env.qual ++ "<genexpr>") (S : GenI X.env scope x lo hi) (If : IntFn X.K X.mg f) (hm : X.mg "is_integer" = some (.ref f)) (kf : PySem.W.keepIn X.K (.ref f) = true)
    (hNv : X.N[iv]? = some vn) (hvv : Vis X.env.scope vn) (dv : (vn == ("__debug__" : Str)) = false ∧ (vn == ("__classdict__" : Str)) = false) (hNl : X.N[il]? = some lo) (hNh : X.N[ih]? = some hi)
    (dx : (x == ("__debug__" : Str)) = false) (dl : (lo == ("__debug__" : Str)) = false ∧ (lo == ("__classdict__" : Str)) = false) (dh : (hi == ("__debug__" : Str)) = false ∧ (hi == ("__classdict__" : Str)) = false) :
    SE T xt X (.Call (.Name "all" pa) [.GeneratorExp (.Call (.Name "is_integer" p1) [.Name x p2, .Name lo p3, .Name hi p4] [] p5) [⟨.Name x px, .Name vn pv, [], 0⟩] scope gpos] [] pos) (toV (vAll iv il ih)) := by
  intro W tk
  refine ⟨fun σ H Q => ∃ B G w r, RR X.K T B G w r σ H ∧ QX X.K T xt B W (relV X.K) G w σ H (toV (vAll iv il ih) r) Q, ⟨fun pins s σ H Q I h => ?_⟩, fun B G w r σ H Q R z => ⟨B, G, w, r, R, z⟩⟩
  obtain ⟨B, G, w, r, R, z⟩ := h
  unfold toV vAll at z
  cases ev : peek r iv with
  | none => rw [ev] at z; exact z.elim
  | some xd =>
  cases el : peek r il with
  | none => rw [ev, el] at z; exact z.elim
  | some l =>
  cases eh : peek r ih with
  | none => rw [ev, el, eh] at z; exact z.elim
  | some hD =>
  rw [ev, el, eh] at z
  cases ei : items xd with
  | none => simp only [ei] at z; exact z.elim
  | some ds =>
  cases eb : inB l hD .none with
  | none => simp only [ei, eb] at z; exact z.elim
  | some bb =>
    simp only [ei, eb] at z
    have hb : (inB l hD .none).isSome = true := by rw [eb]; rfl
    obtain ⟨ol, oh⟩ := inB_parts hb
    obtain ⟨v, sv, dvq⟩ := R.peek ev
    obtain ⟨vl, sl, dlq⟩ := R.peek el
    obtain ⟨vh, sh, dhq⟩ := R.peek eh
    have dvq := dvq.dq R.sub
    obtain ⟨a, vs, rfl, h2, h3⟩ := dp_items dvq ei
    have hq : SqL X.K H a vs ∨ SqT X.K H a vs := by
      rcases h3 with ⟨_, h3⟩ | ⟨_, h3⟩
      · exact .inl (.inl (.inl h3))
      · exact .inr h3.sq
    refine wpAny_Call_Name_kw (ld_blt I hga hma (by decide +kernel : bootBuiltins "all" = some (.builtin "all")) ?_ (by decide) (by decide))
    have e0 : starEach [.GeneratorExp (.Call (.Name "is_integer" p1) [.Name x p2, .Name lo p3, .Name hi p4] [] p5) [⟨.Name x px, .Name vn pv, [], 0⟩] scope gpos] X.env = (false, eval (.GeneratorExp (.Call (.Name "is_integer" p1) [.Name x p2, .Name lo p3, .Name hi p4] [] p5) [⟨.Name x px, .Name vn pv, [], 0⟩] scope gpos) X.env) :: starEach [] X.env := rfl
    refine PyProof.Rows.callWith_builtin1 ?_ e0 rfl
    rw [e0]
    show wpAny _ _ (spliced ((false, eval (.GeneratorExp (.Call (.Name "is_integer" p1) [.Name x p2, .Name lo p3, .Name hi p4] [] p5) [⟨.Name x px, .Name vn pv, [], 0⟩] scope gpos) X.env) :: backTo pos (starEach [] X.env))) _ _ s
    refine Calls.spliced_cons (gen_int hr TB hcode hmT hu S If hm kf I R.tabs hNv hvv dv sv hq h2 hNl sl (dlq.dq R.sub) ol hNh sh (dhq.dq R.sub) oh dx dl dh fun g s5 hG => ?_)
    obtain ⟨n, fp, wr, Gg, F, St, hn, Wk, hst, htr, hI⟩ := hG
    refine Calls.spliced_nil ?_
    refine call_all_walkS (Wk.self 0 _ _ _ hst ⟨g, fp, wr, Gg, _, F, St, _, rfl, Wk, hst, htr, fun s' hmv => ?_⟩)
    obtain ⟨H2, eN, tN, J⟩ := hI s' hmv
    obtain ⟨R2, S2⟩ := R.ext eN tN
    refine ⟨.bl _, H2, J, rfl, ?_⟩
    rw [hn, all_getD, ← all_inB hb]
    exact z (.bl _) G w H2 R2 S2 (.bl _)
end
end Rf
set_option Elab.async false
set_option linter.all false
set_option maxRecDepth 100000
set_option maxHeartbeats 1000000
namespace Rf
open PySem PySem.Spec PyProof.Rows L2 LamX
/-! ### methods of lists: index, count -/
def rCntL (K : PySem.W.Frag) : V → List V → Hp → VK → Prop := fun x xs H Q => ∃ (a : Addr) (y : V) (d : PyData) (ds : List PyData), x = V.ref a ∧ xs = [y] ∧ Dp K H (V.ref a) (.list ds) ∧ Dp K H y d ∧
  SeqAt.shaped (.list ds) = true ∧ SeqAt.shaped d = true ∧ Q (.int (ds.countP fun z => PyData.eqv z d : Nat)) H
theorem cnt_map {h : Heap} {its : List Value} {ds : List PyData} (hmap : its.map (SeqAt.readOf h) = ds) (d : PyData) : its.toArray.toList.countP (fun u => PyData.eqv (SeqAt.readOf h u) d) = ds.countP fun z => PyData.eqv z d := by
  rw [← hmap, List.countP_map]
  rfl
theorem mt_cntL {X : Cx} (hu : X.A.units + 65 < cLine) : MtR X "list.count" (rCntL X.K) := by
  intro pins s σ H x xs v us Q I rx rxs h
  obtain ⟨a, y, d, ds, rfl, rfl, hl, hy, sl, sd, q⟩ := h
  cases rx
  cases rxs with
  | cons ry rt =>
    rename_i uy ut
    cases rt
    obtain ⟨bs, r1⟩ := Dp.reads I d y uy hy ry
    have hxs : PyData.canLayAll0 ds = true := SeqAt.canLay_of_shaped sl
    have hroom : X.A.units + 1 + min (PyData.depthAll ds) d.depth < cLine := room_in_shaped sd hu
    cases hl with
    | lst hs ha =>
      obtain ⟨its, rv, ⟨⟨cls, dd, data, sls⟩, n, ho, hc, hdn, hdt⟩, hlen⟩ := I.list hs
      simp only at hc hdt
      subst hc hdt
      obtain ⟨as, h4⟩ := Dp.readsAll I ds _ its ha rv
      have hmap : its.map (SeqAt.readOf s.heap) = ds := SeqAt.readsAll_map ds its as hxs h4
      refine call_meets PySem.F.slot_list_count ⟨_, ho, rfl⟩ PySem.F.entry_list_count (PySem.F.args_list_count_2 _ _)
        (SeqAt.list_countAt a its.toArray n dd sls uy (fun u => PyData.eqv (SeqAt.readOf s.heap u) d)) ⟨ho, SeqAt.items_eqAt (vs := its.toArray) (show ReadsAll s.heap its.toArray.toList ds as from h4) r1 hxs (SeqAt.canLay_of_shaped sd) hroom, ?_⟩
      rw [cnt_map hmap]
      exact ⟨.int _, H, I.tok _, ⟨_, rfl⟩, q⟩
def notSup : Expr → Bool
  | .Call (.Name _ _) [] [] _ => false
  | _ => true
theorem base_of {o : Expr} (h : notSup o = true) (attr : Str) (env : Env) (m : Sem Value) : attributeBase o attr env m = m := by
  cases o <;> first | rfl | skip
  rename_i f as ks p
  cases f <;> first | rfl | skip
  cases as <;> first | rfl | skip
  cases ks <;> first | rfl | skip
  cases h
/-- where an equal one stands first -/
theorem find_at : ∀ {ds : List D} {p : D → Bool} {j : Nat}, ds.findIdx? p = some j → ∃ z, ds[j]? = some z ∧ p z = true ∧ ∀ (m : Nat) (z' : D), m < j → ds[m]? = some z' → p z' = false := by
  intro ds p j h
  obtain ⟨hj, h1, h2⟩ := List.findIdx?_eq_some_iff_getElem.mp h
  refine ⟨ds[j], List.getElem?_eq_getElem hj, h1, fun m z' hm hz => ?_⟩
  obtain ⟨hml, rfl⟩ := List.getElem?_eq_some_iff.mp hz
  have := h2 m hm
  simpa using this
theorem meth_one {m : Nat} {z d : D} {ys : List D} (h : methD m z ys = some d) : ∃ y, ys = [y] := by
  unfold methD at h
  split at h
  · exact ⟨_, rfl⟩
  · exact ⟨_, rfl⟩
  · exact ⟨_, rfl⟩
  · exact ⟨_, rfl⟩
  · cases h
def mNm : Nat → Option Str
  | 0 => some "index"
  | 1 => some "count"
  | _ => none
def rCntT (K : PySem.W.Frag) : V → List V → Hp → VK → Prop := fun x xs H Q => ∃ (a : Addr) (y : V) (d : PyData) (ds : List PyData), x = V.ref a ∧ xs = [y] ∧ Dp K H (V.ref a) (.tuple ds) ∧ Dp K H y d ∧
  SeqAt.shaped (.tuple ds) = true ∧ SeqAt.shaped d = true ∧ Q (.int (ds.countP fun z => PyData.eqv z d : Nat)) H
theorem shaped_tuple_lay {ds : List PyData} (h : SeqAt.shaped (.tuple ds) = true) : PyData.canLayAll0 ds = true := by
  have := SeqAt.canLay_of_shaped h
  simpa [PyData.canLay0] using this
theorem room_in_tuple {ds : List PyData} {d : PyData} {A : Around} (sd : SeqAt.shaped d = true) (hu : A.units + 65 < cLine) : A.units + 1 + min (PyData.depthAll ds) d.depth < cLine := by
  have := SeqAt.depth_of_shaped sd
  have h2 : min (PyData.depthAll ds) d.depth ≤ d.depth := Nat.min_le_right _ _
  omega
theorem mt_cntT {X : Cx} (hu : X.A.units + 65 < cLine) : MtR X "tuple.count" (rCntT X.K) := by
  intro pins s σ H x xs v us Q I rx rxs h
  obtain ⟨a, y, d, ds, rfl, rfl, hl, hy, sl, sd, q⟩ := h
  cases rx
  cases rxs with
  | cons ry rt =>
    rename_i uy ut
    cases rt
    obtain ⟨bs, r1⟩ := Dp.reads I d y uy hy ry
    have hxs : PyData.canLayAll0 ds = true := shaped_tuple_lay sl
    have hroom : X.A.units + 1 + min (PyData.depthAll ds) d.depth < cLine := room_in_tuple sd hu
    cases hl with
    | tup hs ha =>
      obtain ⟨its, rv, ⟨⟨cls, dd, data, sls⟩, ho, hc, n, hdt⟩, hlen⟩ := I.tuple hs
      simp only at hc hdt
      subst hc hdt
      obtain ⟨as, h4⟩ := Dp.readsAll I ds _ its ha rv
      have hmap : its.map (SeqAt.readOf s.heap) = ds := SeqAt.readsAll_map ds its as hxs h4
      refine call_meets PySem.F.slot_tuple_count ⟨_, ho, rfl⟩ PySem.F.entry_tuple_count (PySem.F.args_tuple_count_2 _ _)
        (SeqAt.tuple_countAt a its.toArray n dd sls uy (fun u => PyData.eqv (SeqAt.readOf s.heap u) d)) ⟨ho, SeqAt.items_eqAt (vs := its.toArray) (show ReadsAll s.heap its.toArray.toList ds as from h4) r1 hxs (SeqAt.canLay_of_shaped sd) hroom, ?_⟩
      rw [cnt_map hmap]
      exact ⟨.int _, H, I.tok _, ⟨_, rfl⟩, q⟩
def rIndexT (K : PySem.W.Frag) : V → List V → Hp → VK → Prop := fun x xs H Q => ∃ (a : Addr) (y : V) (d : PyData) (ds : List PyData) (j : Nat) (z : PyData), x = V.ref a ∧ xs = [y] ∧ Dp K H (V.ref a) (.tuple ds) ∧ Dp K H y d ∧
  SeqAt.shaped (.tuple ds) = true ∧ SeqAt.shaped d = true ∧ ds[j]? = some z ∧ PyData.eqv z d = true ∧ (∀ (m : Nat) (z' : PyData), m < j → ds[m]? = some z' → PyData.eqv z' d = false) ∧ Q (.int (j : Nat)) H
theorem mt_indexT {X : Cx} (hu : X.A.units + 65 < cLine) : MtR X "tuple.index" (rIndexT X.K) := by
  intro pins s σ H x xs v us Q I rx rxs h
  obtain ⟨a, y, d, ds, j, z, rfl, rfl, hl, hy, sl, sd, hz, hzj, hno, q⟩ := h
  cases rx
  cases rxs with
  | cons ry rt =>
    rename_i uy ut
    cases rt
    obtain ⟨bs, r1⟩ := Dp.reads I d y uy hy ry
    have hxs : PyData.canLayAll0 ds = true := shaped_tuple_lay sl
    have hroom : X.A.units + 1 + min (PyData.depthAll ds) d.depth < cLine := room_in_tuple sd hu
    cases hl with
    | tup hs ha =>
      obtain ⟨its, rv, ⟨⟨cls, dd, data, sls⟩, ho, hc, n, hdt⟩, hlen⟩ := I.tuple hs
      simp only at hc hdt
      subst hc hdt
      obtain ⟨as, h4⟩ := Dp.readsAll I ds _ its ha rv
      have hn : its.length = ds.length := SeqAt.ReadsAll.length ds its as h4
      have hmap : its.map (SeqAt.readOf s.heap) = ds := SeqAt.readsAll_map ds its as hxs h4
      obtain ⟨hjd, _⟩ := List.getElem?_eq_some_iff.mp hz
      have hjl : j < its.length := by omega
      have hj : j < its.toArray.size := by simpa using hjl
      have at_ : ∀ (m : Nat) (hm : m < its.toArray.size) (z' : PyData), ds[m]? = some z' → SeqAt.readOf s.heap its.toArray[m] = z' := by
        intro m hm z' hz'
        have hml : m < its.length := by simpa using hm
        rw [← hmap, List.getElem?_map, List.getElem?_eq_getElem hml] at hz'
        have e1 : SeqAt.readOf s.heap its[m] = z' := Option.some.inj (show some (SeqAt.readOf s.heap its[m]) = some z' from hz')
        simpa using e1
      refine call_meets PySem.F.slot_tuple_index ⟨_, ho, rfl⟩ PySem.F.entry_tuple_index (PySem.F.args_tuple_index_2 _ _)
        (TI.tuple_indexAt a its.toArray n dd sls uy (fun u => PyData.eqv (SeqAt.readOf s.heap u) d) j hj ?_ ?_) ⟨ho, SeqAt.items_eqAt (vs := its.toArray) (show ReadsAll s.heap its.toArray.toList ds as from h4) r1 hxs (SeqAt.canLay_of_shaped sd) hroom, ?_⟩
      · show PyData.eqv (SeqAt.readOf s.heap its.toArray[j]) d = true
        rw [at_ j hj z hz]
        exact hzj
      · intro m hm hmj
        have hmd : m < ds.length := by omega
        have hz' : ds[m]? = some ds[m] := List.getElem?_eq_getElem hmd
        show PyData.eqv (SeqAt.readOf s.heap its.toArray[m]) d = false
        rw [at_ m hm _ hz']
        exact hno m _ hmj hz'
      · exact ⟨.int (j : Nat), H, I.tok _, ⟨_, rfl⟩, q⟩
/-- o.m(e), o a list or a tuple -/
def tBMD (K : PySem.W.Frag) (rl rt : V → List V → Hp → VK → Prop) (to : TE) (t : TA) : TE := fun σ H Q => to σ H fun x H1 => (∃ p xs, x = .ref p ∧ SqL K H1 p xs ∧ t σ H1 fun xs H2 => rl x xs H2 Q) ∨ (∃ p xs, x = .ref p ∧ SqD K H1 p xs ∧ t σ H1 fun xs H2 => rt x xs H2 Q)
theorem pe_bmD {X : Cx} {o e : Expr} {to : TE} {t : TA} {name : Str} {apos cpos : Pos} {il it : String} {rl rt : V → List V → Hp → VK → Prop} (sl : PySem.Slot "list" name il) (st : PySem.Slot "tuple" name it) (yl : typeOf (.builtin il) = pure (.type "method_descriptor")) (yt : typeOf (.builtin it) = pure (.type "method_descriptor"))
    (ml : MtR X il rl) (mt : MtR X it rt) (ho : PE X o to) (ha : PA X [e] t) (hbase : attributeBase o name X.env (eval o X.env) = eval o X.env)
    (hfew : ((backTo cpos (starEach [e] X.env)).all (fun x => !x.1) && (backToKw cpos (keywordEach [] X.env)).all (fun x => x.1.isSome)
      && decide ([e].length + ([] : List Keyword).length + (if ([] : List Keyword).isEmpty then 0 else 1) < 30)) = true)
    (hline : (apos.endLine == cpos.line) = true) (hs : starEach [e] X.env = (false, eval e X.env) :: starEach [] X.env) :
    PE X (.Call (.Attribute o name apos) [e] [] cpos) (tBMD X.K rl rt to t) := by
  refine ⟨fun pins s σ H Q I h => ?_⟩
  refine wpAny_Call_method_late hbase hfew hline rfl (thn (ho.run pins s σ H _ I h) fun v s1 ⟨x, H1, I1, r1, q1⟩ => ?_)
  rcases q1 with ⟨p, xs, rfl, hq, q1⟩ | ⟨p, xs, rfl, hq, q1⟩
  · obtain ⟨h1, h2⟩ := tyV_is I1 r1 (show tyV X.K "list" (.ref p) H1 from .inl ⟨rfl, xs, hq⟩)
    refine ⟨"list", il, PySem.F.plainAttrs_list, sl, yl, h1, h2, ?_⟩
    have hA := ha.run cpos pins s1 σ H1 _ I1 q1
    rw [hs] at hA ⊢
    refine Calls.callWith_builtin rfl (Calls.evalArgs_plain ?_)
    exact thn hA fun us s2 ⟨vs, H2, I2, r2, q2⟩ => ml pins s2 σ H2 _ vs v us Q I2 r1 r2 q2
  · obtain ⟨its, n, sls, rv, hz, ho⟩ := sqD_dict I1 hq
    cases r1
    refine ⟨"tuple", it, PySem.F.plainAttrs_tuple, st, yt, ⟨_, ho, rfl⟩, fun a ea => by cases ea; exact ⟨_, ho, rfl⟩, ?_⟩
    have hA := ha.run cpos pins s1 σ H1 _ I1 q1
    rw [hs] at hA ⊢
    refine Calls.callWith_builtin rfl (Calls.evalArgs_plain ?_)
    exact thn hA fun us s2 ⟨vs, H2, I2, r2, q2⟩ => mt pins s2 σ H2 (.ref p) vs (.ref p) us Q I2 rfl r2 q2
section
variable {T : List (Addr × Str)} {xt : XT} {X : Cx} {a b c e : Expr} {va vb vc : Rho → Res D} {p : Pos}
theorem methK_l {m : Nat} {xs : List D} {z d : D} {ys : List D} (h : methK m (.list xs) z ys = some d) : ∃ zs, z = .list zs ∧ methD m (.list zs) ys = some d := by
  cases z <;> first | (cases h; done) | exact ⟨_, rfl, h⟩
theorem methK_t {m : Nat} {xs : List D} {z d : D} {ys : List D} (h : methK m (.tuple xs) z ys = some d) : ∃ zs, z = .tuple zs ∧ methD m (.tuple zs) ys = some d := by
  cases z <;> first | (cases h; done) | exact ⟨_, rfl, h⟩
theorem se_meth {m : Nat} {nm : Str} {l : Expr} {oa : Rho → Res D} {ag : Rho → D → Option D} {fa : Rho → Res (List D)} {apos : Pos} (hu : X.A.units + 65 < cLine) (hm : mNm m = some nm) (h : SO T xt X l oa ag) (k : SA T xt X [e] fa) (hs : noStar e = true) (hn : notSup l = true) (hp : (apos.endLine == p.line) = true) :
    SE T xt X (.Call (.Attribute l nm apos) [e] [] p) fun r => (oa r).bind fun x r1 => if isLst x then (fa r1).bind fun ys r2 => opt ((ag r2 x).bind fun z => methK m x z ys) r2 else .bad := by
  have e0 := star_one e [] X.env hs
  have few : ((backTo p (starEach [e] X.env)).all (fun x => !x.1) && (backToKw p (keywordEach [] X.env)).all (fun x => x.1.isSome)
      && decide ([e].length + ([] : List Keyword).length + (if ([] : List Keyword).isEmpty then 0 else 1) < 30)) = true := by rw [e0]; rfl
  have core : ∀ {il it : String} {rl rt : V → List V → Hp → VK → Prop} (sl : PySem.Slot "list" nm il) (st : PySem.Slot "tuple" nm it) (yl : typeOf (.builtin il) = pure (.type "method_descriptor")) (yt : typeOf (.builtin it) = pure (.type "method_descriptor")) (ml : MtR X il rl) (mt : MtR X it rt)
      (hl : ∀ (v vy : V) (zs : List D) (y : D) (d : D) (G2 H2 : Hp) (w2 : Wn) (B : Bk) (r2 : Rho) (σ : L2.St) (Q : VK), RR X.K T B G2 w2 r2 σ H2 → DqO X.K G2 H2 v (.list zs) → Dq X.K G2 vy y → methD m (.list zs) [y] = some d → (∀ i, d = .int i → Q (.int i) H2) → rl v [vy] H2 Q)
      (ht : ∀ (v vy : V) (zs : List D) (y : D) (d : D) (G2 H2 : Hp) (w2 : Wn) (B : Bk) (r2 : Rho) (σ : L2.St) (Q : VK), RR X.K T B G2 w2 r2 σ H2 → DqO X.K G2 H2 v (.tuple zs) → Dq X.K G2 vy y → methD m (.tuple zs) [y] = some d → (∀ i, d = .int i → Q (.int i) H2) → rt v [vy] H2 Q),
      SE T xt X (.Call (.Attribute l nm apos) [e] [] p) fun r => (oa r).bind fun x r1 => if isLst x then (fa r1).bind fun ys r2 => opt ((ag r2 x).bind fun z => methK m x z ys) r2 else .bad := by
    intro il it rl rt sl st yl yt ml mt hl ht W tk
    obtain ⟨t, p1, q1⟩ := h W tk
    obtain ⟨u, p2, q2⟩ := k W tk
    refine ⟨_, pe_bmD sl st yl yt ml mt p1 p2 (base_of hn _ _ _) few hp e0, fun B G w r σ H Q R z => q1 _ _ _ _ _ _ _ R (z.bind fun x r1 v G1 w1 H1 _ R1 S1 d1 z1 => ?_)⟩
    cases x <;> first | (exact z1.elim) | skip
    · rename_i xs hx
      have z1 : QX X.K T xt B W (relV X.K) G1 w1 σ H1 ((fa r1).bind fun ys r2 => opt ((ag r2 (.list xs)).bind fun z => methK m (.list xs) z ys) r2) Q := z1
      obtain ⟨la, vs, ev, h1, h2⟩ := DqO.list R1.sub d1.1
      refine .inl ⟨la, vs, ev, .inl (.inl h1), q2 _ _ _ _ _ _ _ R1 (z1.bind fun ys r2 us G2 w2 H2 _ R2 S2 d2 z2 => ?_)⟩
      obtain ⟨d, ed, z3⟩ := z2.opt
      cases ez : ag r2 (.list xs) with
      | none => rw [ez] at ed; cases ed
      | some y =>
        rw [ez] at ed
        obtain ⟨zs, rfl, em⟩ := methK_l (show methK m (.list xs) y ys = some d from ed)
        have dy := d1.2 _ _ _ _ _ R2 S2 ez
        have d2 : DqAll X.K G2 us ys := d2
        obtain ⟨y0, rfl⟩ := meth_one em
        cases d2 with
        | cons k1 k2 =>
          cases k2
          exact hl _ _ _ _ _ _ _ _ _ _ _ _ R2 dy k1 em fun i ei => by
            subst ei
            exact z3 _ _ _ _ R2 (Stp.refl _ _ _) (.int i)
    · rename_i xs hx
      have z1 : QX X.K T xt B W (relV X.K) G1 w1 σ H1 ((fa r1).bind fun ys r2 => opt ((ag r2 (.tuple xs)).bind fun z => methK m (.tuple xs) z ys) r2) Q := z1
      obtain ⟨la, vs, ev, h0, h1, h2⟩ := DqO.tuple R1.sub d1.1
      refine .inr ⟨la, vs, ev, sqD_sub R1.sub h0, q2 _ _ _ _ _ _ _ R1 (z1.bind fun ys r2 us G2 w2 H2 _ R2 S2 d2 z2 => ?_)⟩
      obtain ⟨d, ed, z3⟩ := z2.opt
      cases ez : ag r2 (.tuple xs) with
      | none => rw [ez] at ed; cases ed
      | some y =>
        rw [ez] at ed
        obtain ⟨zs, rfl, em⟩ := methK_t (show methK m (.tuple xs) y ys = some d from ed)
        have dy := d1.2 _ _ _ _ _ R2 S2 ez
        have d2 : DqAll X.K G2 us ys := d2
        obtain ⟨y0, rfl⟩ := meth_one em
        cases d2 with
        | cons k1 k2 =>
          cases k2
          exact ht _ _ _ _ _ _ _ _ _ _ _ _ R2 dy k1 em fun i ei => by
            subst ei
            exact z3 _ _ _ _ R2 (Stp.refl _ _ _) (.int i)
  match m, hm with
  | 0, hm =>
    cases hm
    refine core PySem.F.slot_list_index PySem.F.slot_tuple_index PySem.F.type_list_index PySem.F.type_tuple_index (mt_indexD hu) (mt_indexT hu) (fun v vy ds y d G2 H2 w2 B r2 σ Q R dz dy em q => ?_) (fun v vy ds y d G2 H2 w2 B r2 σ Q R dz dy em q => ?_)
    · obtain ⟨hh, em2⟩ : (SeqAt.shaped y && SeqAt.shaped (.list ds)) = true ∧ (ds.findIdx? fun x => PyData.eqv x y).map (fun (j : Nat) => PyData.int (j : Int)) = some d := by
        have em : (if (SeqAt.shaped y && SeqAt.shaped (.list ds)) = true then (ds.findIdx? fun x => PyData.eqv x y).map fun (j : Nat) => PyData.int (j : Int) else none) = some d := em
        split at em
        · exact ⟨by assumption, em⟩
        · cases em
      rw [Bool.and_eq_true] at hh
      cases ef : ds.findIdx? fun x => PyData.eqv x y with
      | none => rw [ef] at em2; cases em2
      | some j =>
        rw [ef] at em2
        cases em2
        obtain ⟨zz, f1, f2, f3⟩ := find_at ef
        obtain ⟨la, vs, rfl, h1, h2⟩ := DqO.list R.sub dz
        exact ⟨la, vy, y, ds, j, zz, rfl, rfl, dq_shaped (.lst h1 (dps_sub R.sub h2)) hh.2, dq_shaped (dp_sub R.sub dy) hh.1, hh.2, hh.1, f1, f2, f3, q _ rfl⟩
    · obtain ⟨hh, em2⟩ : (SeqAt.shaped y && SeqAt.shaped (.tuple ds)) = true ∧ (ds.findIdx? fun x => PyData.eqv x y).map (fun (j : Nat) => PyData.int (j : Int)) = some d := by
        have em : (if (SeqAt.shaped y && SeqAt.shaped (.tuple ds)) = true then (ds.findIdx? fun x => PyData.eqv x y).map fun (j : Nat) => PyData.int (j : Int) else none) = some d := em
        split at em
        · exact ⟨by assumption, em⟩
        · cases em
      rw [Bool.and_eq_true] at hh
      cases ef : ds.findIdx? fun x => PyData.eqv x y with
      | none => rw [ef] at em2; cases em2
      | some j =>
        rw [ef] at em2
        cases em2
        obtain ⟨zz, f1, f2, f3⟩ := find_at ef
        obtain ⟨la, vs, rfl, h0, h1, h2⟩ := DqO.tuple R.sub dz
        exact ⟨la, vy, y, ds, j, zz, rfl, rfl, dq_shaped (.tup (sqD_sub R.sub h0) (dps_sub R.sub h2)) hh.2, dq_shaped (dp_sub R.sub dy) hh.1, hh.2, hh.1, f1, f2, f3, q _ rfl⟩
  | 1, hm =>
    cases hm
    refine core PySem.F.slot_list_count PySem.F.slot_tuple_count PySem.F.type_list_count PySem.F.type_tuple_count (mt_cntL hu) (mt_cntT hu) (fun v vy ds y d G2 H2 w2 B r2 σ Q R dz dy em q => ?_) (fun v vy ds y d G2 H2 w2 B r2 σ Q R dz dy em q => ?_)
    · obtain ⟨hh, em2⟩ : (SeqAt.shaped y && SeqAt.shaped (.list ds)) = true ∧ some (PyData.int (ds.countP fun x => PyData.eqv x y : Nat)) = some d := by
        have em : (if (SeqAt.shaped y && SeqAt.shaped (.list ds)) = true then some (PyData.int (ds.countP fun x => PyData.eqv x y : Nat)) else none) = some d := em
        split at em
        · exact ⟨by assumption, em⟩
        · cases em
      rw [Bool.and_eq_true] at hh
      cases em2
      obtain ⟨la, vs, rfl, h1, h2⟩ := DqO.list R.sub dz
      exact ⟨la, vy, y, ds, rfl, rfl, dq_shaped (.lst h1 (dps_sub R.sub h2)) hh.2, dq_shaped (dp_sub R.sub dy) hh.1, hh.2, hh.1, q _ rfl⟩
    · obtain ⟨hh, em2⟩ : (SeqAt.shaped y && SeqAt.shaped (.tuple ds)) = true ∧ some (PyData.int (ds.countP fun x => PyData.eqv x y : Nat)) = some d := by
        have em : (if (SeqAt.shaped y && SeqAt.shaped (.tuple ds)) = true then some (PyData.int (ds.countP fun x => PyData.eqv x y : Nat)) else none) = some d := em
        split at em
        · exact ⟨by assumption, em⟩
        · cases em
      rw [Bool.and_eq_true] at hh
      cases em2
      obtain ⟨la, vs, rfl, h0, h1, h2⟩ := DqO.tuple R.sub dz
      exact ⟨la, vy, y, ds, rfl, rfl, dq_shaped (.tup (sqD_sub R.sub h0) (dps_sub R.sub h2)) hh.2, dq_shaped (dp_sub R.sub dy) hh.1, hh.2, hh.1, q _ rfl⟩
  | n + 2, hm => cases hm
end
end Rf
set_option Elab.async false
set_option linter.all false
set_option maxRecDepth 100000
set_option maxHeartbeats 1000000
namespace Rf
open PySem PySem.Spec PyProof.Rows L2 LamX
/-! ### len(set(x)), x a list or a tuple of whole numbers -/
theorem distI_met (ns : List Int) : PyProof.Rows.firstMet (fun i => ns.getD i 0) ns.length = distI ns := by
  have e : (List.range ns.length).map (fun i => ns.getD i 0) = ns := by
    apply List.ext_getElem
    · simp
    · intro i h1 h2
      simp [List.getD, h2]
  unfold PyProof.Rows.firstMet
  rw [e]
  rfl
theorem dist_inv : ∀ (ns acc : List Int), acc.Nodup → (ns.foldl (fun acc x => if acc.any (· == x) then acc else acc ++ [x]) acc).Nodup ∧ ∀ k, k ∈ ns.foldl (fun acc x => if acc.any (· == x) then acc else acc ++ [x]) acc ↔ k ∈ acc ∨ k ∈ ns
  | [], acc, h => ⟨h, fun k => by simp⟩
  | n :: ns, acc, h => by
    rw [List.foldl_cons]
    by_cases hn : (acc.any (· == n)) = true
    · rw [if_pos hn]
      obtain ⟨i1, i2⟩ := dist_inv ns acc h
      refine ⟨i1, fun k => (i2 k).trans ?_⟩
      have hm : n ∈ acc := by
        obtain ⟨y, hy, ey⟩ := List.any_eq_true.mp hn
        rw [← eq_of_beq ey]
        exact hy
      rw [List.mem_cons]
      constructor
      · rintro (q | q)
        · exact .inl q
        · exact .inr (.inr q)
      · rintro (q | q | q)
        · exact .inl q
        · exact .inl (q ▸ hm)
        · exact .inr q
    · rw [if_neg hn]
      have hm : n ∉ acc := fun q => hn (List.any_eq_true.mpr ⟨n, q, beq_self_eq_true n⟩)
      have nd : (acc ++ [n]).Nodup := List.nodup_append.mpr ⟨h, by simp, fun a ha b hb e => hm (by
        have : b = n := by simpa using hb
        rw [← this, ← e]; exact ha)⟩
      obtain ⟨i1, i2⟩ := dist_inv ns (acc ++ [n]) nd
      refine ⟨i1, fun k => (i2 k).trans ?_⟩
      rw [List.mem_append, List.mem_singleton, List.mem_cons, or_assoc]
theorem dist_nodup (ns : List Int) : (distI ns).Nodup := (dist_inv ns [] List.nodup_nil).1
theorem dist_mem (ns : List Int) (k : Int) : k ∈ distI ns ↔ k ∈ ns := by
  have := (dist_inv ns [] List.nodup_nil).2 k
  simpa [distI] using this
/-- a set's number by its members -/
theorem setR_len {w : World} {h : Heap} {a : Addr} {c : Nat} {ns : List Int} (R : L2.SetR w h a (fun j => decide (j ∈ ns)) c) : c = (distI ns).length := by
  obtain ⟨o, es, ep, t, ho, hx, hd, g, nd, hm, hb, hf, hn, _⟩ := R
  have p : (es.toList.map L2.keyOf).Perm (distI ns) := by
    rw [List.perm_ext_iff_of_nodup nd (dist_nodup ns)]
    intro k
    rw [← hm k, dist_mem]
    simp
  have := p.length_eq
  rw [List.length_map, Array.length_toList, hn] at this
  exact this
def tNset (K : PySem.W.Frag) (ta : TE) : TE := fun σ H Q => ta σ H fun x H1 => ∃ (l : Addr) (ns : List Int), x = .ref l ∧ (SqL K H1 l (ns.map V.int) ∨ SqT K H1 l (ns.map V.int)) ∧ ns.length ≤ 4000 ∧ Q (.int ((distI ns).length : Nat)) H1
theorem pe_nset {X : Cx} {a : Expr} {ta : TE} {p p2 q pos : Pos} (hc : X.calm = true) (hg : Gl X "len") (hm : X.mg "len" = none) (hg2 : Gl X "set") (hm2 : X.mg "set" = none) (ha : PE X a ta)
    (na : starEach [a] X.env = (false, eval a X.env) :: starEach [] X.env) : PE X (.Call (.Name "len" p) [.Call (.Name "set" p2) [a] [] q] [] pos) (tNset X.K ta) := by
  refine ⟨fun pins s σ H Q I h => ?_⟩
  refine Call_ (ld_blt I hg hm boot_len ?_)
  refine PyProof.Rows.callWith_builtin1 (PyProof.Rows.args_cons ?_ rfl) rfl rfl
  refine Call_ (ld_blt I hg2 hm2 boot_set ?_)
  refine PyProof.Rows.callWith_type1 (PyProof.Rows.args_cons (thn (ha.run pins s σ H _ I h) fun v s1 ⟨x, H1, I1, r1, q1⟩ => PyProof.Rows.args_nil ?_) na) na rfl
  obtain ⟨l, ns, rfl, hq, hl, q1⟩ := q1
  cases r1
  rcases hq with hq | hq
  · obtain ⟨its, r, pl, hz⟩ := I1.list hq
    have hlen : its.toArray.size = ns.length := by rw [List.size_toArray, ← r.length, List.length_map]
    refine call_set_list (I1.ok.hd hc) pl.isList (by simpa using RZ.intsAre_vals r) (by rw [hlen]; unfold scanBound; omega) fun h' tk hS hk => ?_
    refine PyProof.Rows.args_nil ?_
    rw [hlen, distI_met] at hS
    obtain ⟨o, es, ep, t, ho, hex, hd, _, _, _, hf, hn⟩ := hS
    have I2 : Inv X pins σ H1 { s1 with heap := h', toks := tk } := I1.kept fun b o e => hk b o (Heap.lt_size e) e
    have hle : (distI ns).length ≤ ns.length := by
      rw [← distI_met]
      exact PyProof.Rows.firstMet_length_le _ _
    exact call_len_set ho hex hd hf (by rw [hn] <;> omega) ⟨.int ((distI ns).length : Nat), H1, I2.tok _, ⟨_, by rw [hn]⟩, q1⟩
  · obtain ⟨its, r, pl, hz⟩ := I1.tuple hq
    have hlen : its.length = ns.length := by rw [← r.length, List.length_map]
    refine L2.call_set_tupI ns (I1.ok.hd hc) (show s1.heap.IsTuple l its.toArray from pl) (by simpa using RZ.intsAre_vals r) (by unfold scanBound; omega) fun h' tk c hS hc2 hk => ?_
    refine PyProof.Rows.args_nil ?_
    have ec := setR_len hS
    obtain ⟨o, es, ep, t, ho, hex, hd, g, nd, hmm, hb, hf, hn, _⟩ := hS
    have I2 : Inv X pins σ H1 { s1 with heap := h', toks := tk } := I1.kept hk
    exact call_len_set ho hex hd hf (by rw [hn] <;> omega) ⟨.int ((distI ns).length : Nat), H1, I2.tok _, ⟨_, by rw [hn, ec]⟩, q1⟩
section
variable {T : List (Addr × Str)} {xt : XT} {X : Cx} {a b c e : Expr} {va vb vc : Rho → Res D} {p : Pos}
theorem se_nset {oa : Rho → Res D} {ag : Rho → D → Option D} {pn p2 q : Pos} (hc : X.calm = true) (hg : Gl X "len") (hm : X.mg "len" = none) (hg2 : Gl X "set") (hm2 : X.mg "set" = none) (h : SO T xt X a oa ag) (hs : noStar a = true) :
    SE T xt X (.Call (.Name "len" pn) [.Call (.Name "set" p2) [a] [] q] [] p) fun r => (oa r).bind fun x r1 => opt (nsetD x) r1 := by
  intro W tk
  obtain ⟨t, p1, q1⟩ := h W tk
  refine ⟨_, pe_nset hc hg hm hg2 hm2 p1 (star_one a [] X.env hs), fun B G w r σ H Q R z => q1 _ _ _ _ _ _ _ R (z.bind fun x r1 v G1 w1 H1 _ R1 S1 d1 z1 => ?_)⟩
  obtain ⟨d, ed, z2⟩ := z1.opt
  have hd : DqO X.K G1 H1 v x := d1.1
  have ed : ((items x).bind fun ds => (intsD ds).bind fun ns => if ns.length ≤ 4000 then some (PyData.int ((distI ns).length : Nat)) else none) = some d := ed
  cases e1 : items x with
  | none => rw [e1] at ed; cases ed
  | some ds =>
    rw [e1] at ed
    replace ed : ((intsD ds).bind fun ns => if ns.length ≤ 4000 then some (PyData.int ((distI ns).length : Nat)) else none) = some d := ed
    cases e2 : intsD ds with
    | none => rw [e2] at ed; cases ed
    | some ns =>
      rw [e2] at ed
      obtain ⟨hl, rfl⟩ := ite_some (show (if ns.length ≤ 4000 then some (PyData.int ((distI ns).length : Nat)) else none) = some d from ed)
      obtain ⟨a, vs, rfl, h1, h2⟩ := hd.items R1.sub e1
      have ev := dps_ints h2 e2
      subst ev
      exact ⟨a, ns, rfl, h1, hl, z2 _ _ _ _ R1 (Stp.refl _ _ _) (.int _)⟩
end
end Rf
set_option Elab.async false
set_option linter.all false
set_option maxRecDepth 100000
set_option maxHeartbeats 1000000
namespace Rf
open PySem PySem.Spec PyProof.Rows L2 LamX
/-! ### zip of two rows; enumerate of a list -/
section
variable {K : PySem.W.Frag} {T : List (Addr × Str)} {B : Bk} {G1 : Hp} {a b : Addr} {vs us : List V} {ds es : List D}
theorem zip_at (ds es : List D) (i : Nat) {z : D} (h : (zipD ds es)[i]? = some z) : ∃ x y, ds[i]? = some x ∧ es[i]? = some y ∧ z = .tuple [x, y] := by
  unfold zipD at h
  rw [List.getElem?_map] at h
  cases e : (ds.zip es)[i]? with
  | none => rw [e] at h; cases h
  | some p =>
    rw [e] at h
    cases h
    obtain ⟨x, y⟩ := p
    rw [List.getElem?_zip_eq_some] at e
    exact ⟨x, y, e.1, e.2, rfl⟩
theorem zip_end (ds es : List D) (i : Nat) (h : (zipD ds es)[i]? = none) : ds.length ≤ i ∨ es.length ≤ i := by
  have := List.getElem?_eq_none_iff.mp h
  unfold zipD at this
  rw [List.length_map, List.length_zip] at this
  omega
/-- a list (true) or a tuple -/
def SqK (K : PySem.W.Frag) : Bool → Hp → Addr → List V → Prop
  | true => SqL K
  | false => SqD K
def RwK : Bool → Heap → Addr → Array Value → Prop
  | true => fun h a xs => h.IsList a xs
  | false => fun h a xs => h.IsTuple a xs
def IwK : Bool → Heap → Addr → Addr → Nat → Prop
  | true => fun h i a n => h.IsListIter i a n
  | false => fun h i a n => h.IsTupleIter i a n
def newK : Bool → Addr → Obj
  | true, a => { cls := .type "list_iterator", data := .fields #[.ref a, .int 0 0] }
  | false, a => { cls := .type "tuple_iterator", data := .fields #[.ref a, .int 0 0] }
theorem sqK_sub {k : Bool} {G H : Hp} (s : Sub G H) (h : SqK K k G a vs) : SqK K k H a vs := by
  cases k
  · exact sqD_sub s h
  · exact sqL_sub s h
theorem rowK {k : Bool} {X : Cx} {pins : List (Addr × Obj)} {σ : L2.St} {H : Hp} {s : Shared} (I : Inv X pins σ H s) (h : SqK X.K k H a vs) : ∃ its, Vals vs its ∧ RwK k s.heap a its.toArray := by
  cases k
  · obtain ⟨its, rv, p, _⟩ := I.tuple h.sq
    exact ⟨its, rv, p⟩
  · obtain ⟨its, rv, p, _⟩ := I.list h
    exact ⟨its, rv, p.isList⟩
theorem rwK_lt {k : Bool} {h : Heap} {xs : Array Value} (p : RwK k h a xs) : a < h.objs.size := by
  cases k
  · obtain ⟨o, ho, _⟩ := id p
    exact Heap.lt_size ho
  · obtain ⟨o, ho, _⟩ := id p
    exact Heap.lt_size ho
theorem iwK_obj {k : Bool} {h : Heap} {i : Addr} {n : Nat} (p : IwK k h i a n) : ∃ o, h.get? i = some o ∧ ∀ v, o.data ≠ .cell v := by
  cases k
  · obtain ⟨o, e, _, d⟩ := p
    exact ⟨o, e, fun v q => by rw [d] at q; cases q⟩
  · obtain ⟨o, e, _, d⟩ := p
    exact ⟨o, e, fun v q => by rw [d] at q; cases q⟩
theorem iwK_at {k : Bool} {h h' : Heap} {i : Addr} {n : Nat} (p : IwK k h i a n) (f : ∀ o, h.get? i = some o → h'.get? i = some o) : IwK k h' i a n := by
  cases k
  · exact Heap.IsTupleIter.at p f
  · exact Heap.IsListIter.at p f
theorem iwK_new {k : Bool} {h : Heap} {i : Addr} (e : h.get? i = some (newK k a)) : IwK k h i a 0 := by
  cases k
  · exact ⟨_, e, rfl, rfl⟩
  · exact ⟨_, e, rfl, rfl⟩
theorem begK (k : Bool) (a : Addr) (xs : Array Value) : Begins (.ref a) (newK k a) fun h => RwK k h a xs := by
  cases k
  · exact begins_tuple a xs
  · exact begins_list a xs
theorem drawK {P : Program} {w : World} {A : Around} (hh : A.handled = none) (k : Bool) (it l : Addr) (hne : l ≠ it) (xs : Array Value) : Draws P w A it [it, l] xs.size (fun i v => xs[i]? = some v) (fun i h => IwK k h it l i ∧ RwK k h l xs) := by
  cases k
  · exact Draws.tuple hh it l hne xs
  · exact Draws.list hh it l hne xs
/-- at its end -/
theorem doneK {P : Program} {w : World} {A : Around} (hh : A.handled = none) (k : Bool) (it l : Addr) (xs : Array Value) (n : Nat) (hn : xs.size ≤ n) : Draws P w A it [it, l] n (fun _ _ => True) (fun i h => i = n ∧ IwK k h it l n ∧ RwK k h l xs) := by
  have hx : xs[n]? = none := by simp; omega
  cases k
  · exact ⟨fun _ _ st => let ⟨o, ho, _⟩ := st.2.1; ⟨o, ho⟩, fun _ _ _ st hk => ⟨st.1, Heap.IsTupleIter.at st.2.1 fun o e => hk it (by simp) o e, Heap.IsTuple.at st.2.2 fun o e => hk l (by simp) o e⟩,
      fun i s Q E hi st _ => absurd st.1 (Nat.ne_of_lt hi), fun s Q E st hE => wpAny_nextOf_tuple_end hh st.2.1 st.2.2 hx hE⟩
  · exact ⟨fun _ _ st => let ⟨o, ho, _⟩ := st.2.1; ⟨o, ho⟩, fun _ _ _ st hk => ⟨st.1, Heap.IsListIter.at st.2.1 fun o e => hk it (by simp) o e, Heap.IsList.at st.2.2 fun o e => hk l (by simp) o e⟩,
      fun i s Q E hi st _ => absurd st.1 (Nat.ne_of_lt hi), fun s Q E st hE => wpAny_nextOf_list_end hh st.2.1 st.2.2 hx hE⟩
/-- the rows at a and b as they stand at each turn, the items in new pairs -/
def ItzK (K : PySem.W.Frag) (k1 k2 : Bool) (a b : Addr) : It :=
  ⟨fun i H => ∃ (xs ys : List V) (x y : V), SqK K k1 H a xs ∧ SqK K k2 H b ys ∧ xs[i]? = some x ∧ ys[i]? = some y,
    fun i H v H' => ∃ T its x y, v = .ref T ∧ H T = none ∧ H' = upd H T (tpO its [x, y]) ∧ (∀ xs, SqK K k1 H a xs → xs[i]? = some x) ∧ ∀ ys, SqK K k2 H b ys → ys[i]? = some y,
    fun i H => ∃ xs ys : List V, SqK K k1 H a xs ∧ SqK K k2 H b ys ∧ (xs.length ≤ i ∨ ys.length ≤ i)⟩
theorem sqK_inj {k : Bool} {X : Cx} {pins : List (Addr × Obj)} {σ : L2.St} {H : Hp} {s : Shared} (I : Inv X pins σ H s) {xs ys : List V} (h1 : SqK X.K k H a xs) (h2 : SqK X.K k H a ys) : xs = ys := by
  cases k
  · exact I.tuple_inj h1.sq h2.sq
  · exact I.list_inj h1 h2
theorem turn_zipK {P : Program} {w : World} {k1 k2 : Bool} {elts : List Expr} {kk : Nat} {tpos : Pos} {z TI TO i1 i2 : Addr} (D : ZipApart z TI TO i1 i2 a b) (S : ZipSep2 z TI TO i1 i2 [i1, a] [i2, b]) :
    L2.Turn P w K (.Tuple elts kk tpos) (ItzK K k1 k2 a b) [z, TI, TO, i1, i2] z (fun i h => IsZip h z TI TO .none ∧ IsTupOf2 h TI (.ref i1) (.ref i2) ∧ (∃ x y, IsTupOf2 h TO x y) ∧ IwK k1 h i1 a i ∧ IwK k2 h i2 b i) where
  mem := by simp
  obj := fun i h st c hc => by
    obtain ⟨hz, hTI, ⟨x, y, hTO⟩, h1, h2⟩ := st
    have e' : c = z ∨ c = TI ∨ c = TO ∨ c = i1 ∨ c = i2 := by simpa using hc
    rcases e' with q | q | q | q | q
    · rw [q]; exact ⟨_, hz, fun v q => nomatch q⟩
    · rw [q]; exact ⟨_, hTI, fun v q => nomatch q⟩
    · rw [q]; exact ⟨_, hTO, fun v q => nomatch q⟩
    · rw [q]; exact iwK_obj h1
    · rw [q]; exact iwK_obj h2
  keep := fun i h h' st k => by
    obtain ⟨hz, hTI, ⟨x, y, hTO⟩, h1, h2⟩ := st
    exact ⟨k z (by simp) _ hz, k TI (by simp) _ hTI, ⟨x, y, k TO (by simp) _ hTO⟩, iwK_at h1 fun o q => k i1 (by simp) o q, iwK_at h2 fun o q => k i2 (by simp) o q⟩
  item := by
    intro X hP hw hK hc i pins s σ H E I hf st hg
    subst hP hw hK
    obtain ⟨hz, hTI, ⟨x0, y0, hTO⟩, h1, h2⟩ := st
    obtain ⟨xs, ys, x, y, hqx, hqy, hx, hy⟩ := hg
    obtain ⟨its, rv, p⟩ := rowK I hqx
    obtain ⟨its2, rv2, p2⟩ := rowK I hqy
    obtain ⟨u, hu, ru⟩ := rv.get hx
    obtain ⟨u2, hu2, ru2⟩ := rv2.get hy
    have hzl : z < s.heap.objs.size := Heap.lt_size hz
    have hh : X.A.in1.handled = none := I.ok.hd hc
    have c1 : i < its.toArray.size := by
      have := (List.getElem?_eq_some_iff.mp hu).1
      simpa using this
    have c2 : i < its2.toArray.size := by
      have := (List.getElem?_eq_some_iff.mp hu2).1
      simpa using this
    refine wpAny_pyNext_zipD2_item S (drawK hh k1 i1 a D.l1i1 its.toArray) (drawK hh k2 i2 b D.l2i2 its2.toArray) hz hTI hTO ⟨h1, p⟩ ⟨h2, p2⟩ c1 c2 fun x1 x2 h' tk q1 q2 z' TO' h1' h2' hT hsz hk => ?_
    have e1 : x1 = u := by
      have : its[i]? = some x1 := by simpa using q1
      rw [hu] at this
      exact (Option.some.inj this).symm
    have e2 : x2 = u2 := by
      have : its2[i]? = some x2 := by simpa using q2
      rw [hu2] at this
      exact (Option.some.inj this).symm
    subst e1 e2
    refine ⟨_, rfl, wpAny_letOwnedTupleGo_zip (s := { s with heap := h', toks := tk }) z' fun h'' z'' sb => ?_⟩
    have hT2 : h''.get? s.heap.objs.size = some { cls := .type "tuple", data := .seq #[x1, x2] } := (sb.2 _ (Nat.ne_of_gt hzl)).trans hT
    have new : ObjOk X.prog X.w (upd H s.heap.objs.size (tpO [x1, x2] [x, y])) h'' s.heap.objs.size (tpO [x1, x2] [x, y]) :=
      ok_tp hT2 (by show 2 ≤ sizeLine; decide) (.cons ru (.cons ru2 .nil))
    have I1 : Inv X pins σ (upd H s.heap.objs.size (tpO [x1, x2] [x, y])) { s with heap := h'', toks := tk } :=
      I.turnedNew (t' := tk) (ch := [z, TI, TO, i1, i2]) (fun c o hb q => (sb.2 c (fun q' => hb (by simp [q']))).trans (hk c o (fun q' => hb (by simp [q'])) (fun q' => hb (by simp [q'])) (fun q' => hb (by simp [q'])) (fun q' => hb (by simp [q'])) q)) hf (Nat.le_refl _) new
    refine ⟨.ref s.heap.objs.size, _, I1, rfl, ⟨_, _, x, y, rfl, I.hok.fresh (Nat.le_refl _), rfl, fun l hl => by rw [sqK_inj I hl hqx]; exact hx, fun l hl => by rw [sqK_inj I hl hqy]; exact hy⟩, ⟨z'', ?_, ⟨x1, x2, ?_⟩, ?_, ?_⟩, fun c hcm => ?_⟩
    · exact (sb.2 _ D.TIz).trans (hk _ _ D.TIz D.TITO D.TIi1 D.TIi2 hTI)
    · exact (sb.2 _ D.TOz).trans TO'
    · exact iwK_at h1'.1 fun o q => (sb.2 _ D.i1z).trans q
    · exact iwK_at h2'.1 fun o q => (sb.2 _ D.i2z).trans q
    · have hlt : c < s.heap.objs.size := by
        have e' : c = z ∨ c = TI ∨ c = TO ∨ c = i1 ∨ c = i2 := by simpa using hcm
        rcases e' with q | q | q | q | q
        · rw [q]; exact hzl
        · rw [q]; exact Heap.lt_size hTI
        · rw [q]; exact Heap.lt_size hTO
        · rw [q]; obtain ⟨_, e1, _⟩ := iwK_obj h1; exact Heap.lt_size e1
        · rw [q]; obtain ⟨_, e2, _⟩ := iwK_obj h2; exact Heap.lt_size e2
      rw [upd_ne (Nat.ne_of_lt hlt)]
      exact (hf c hcm).1
  done := by
    intro X hP hw hK hc i pins s σ H E I hf st hg
    subst hP hw hK
    obtain ⟨hz, hTI, ⟨x0, y0, hTO⟩, h1, h2⟩ := st
    obtain ⟨xs, ys, hqx, hqy, hend⟩ := hg
    obtain ⟨its, rv, p⟩ := rowK I hqx
    obtain ⟨its2, rv2, p2⟩ := rowK I hqy
    have l1 := rv.length
    have l2 := rv2.length
    have hh : X.A.in1.handled = none := I.ok.hd hc
    have fin : ∀ h' tk, (∀ c o, c ≠ z → c ≠ TO → c ≠ i1 → c ≠ i2 → s.heap.get? c = some o → h'.get? c = some o) → (none : Option Value) = none ∧ Inv X pins σ H { s with heap := h', toks := tk } := fun h' tk hk =>
      ⟨rfl, I.turnedL (t' := tk) (ch := [z, TI, TO, i1, i2]) (fun c o hb q => hk c o (fun q' => hb (by simp [q'])) (fun q' => hb (by simp [q'])) (fun q' => hb (by simp [q'])) (fun q' => hb (by simp [q'])) q) hf⟩
    by_cases c1 : its.toArray.size ≤ i
    · by_cases c2 : its2.toArray.size ≤ i
      · exact wpAny_pyNext_zipD2_end S (doneK hh k1 i1 a its.toArray i c1) (doneK hh k2 i2 b its2.toArray i c2) hz hTI hTO ⟨rfl, h1, p⟩ ⟨rfl, h2, p2⟩ (Nat.le_refl _) (Nat.le_refl _) (.inl rfl) fin
      · exact wpAny_pyNext_zipD2_end S (doneK hh k1 i1 a its.toArray i c1) (drawK hh k2 i2 b D.l2i2 its2.toArray) hz hTI hTO ⟨rfl, h1, p⟩ ⟨h2, p2⟩ (Nat.le_refl _) (by omega) (.inl rfl) fin
    · have c2 : its2.toArray.size ≤ i := by
        simp only [List.size_toArray] at c1 ⊢
        omega
      exact wpAny_pyNext_zipD2_end S (drawK hh k1 i1 a D.l1i1 its.toArray) (doneK hh k2 i2 b its2.toArray i c2) hz hTI hTO ⟨h1, p⟩ ⟨rfl, h2, p2⟩ (by omega) (Nat.le_refl _) (.inr rfl) fin
  self := fun A i s Q E st h => wpAny_pyIter_zip st.1 h
def iZipK (K : PySem.W.Frag) (ta : TA) : TI := fun σ H R => ta σ H fun vs H1 => ∃ a b xs ys k1 k2, vs = [.ref a, .ref b] ∧ SqK K k1 H1 a xs ∧ SqK K k2 H1 b ys ∧ R (ItzK K k1 k2 a b) H1
theorem pi_zipK {X : Cx} {e e2 : Expr} {ta : TA} {p pos tpos : Pos} {elts : List Expr} {kk : Nat} (hg : Gl X "zip") (hm : X.mg "zip" = none) (ha : PA X [e, e2] ta)
    (hs : starEach [e, e2] X.env = (false, eval e X.env) :: starEach [e2] X.env) (hpl : (backTo pos (starEach [e2] X.env)).any (·.1) = false) :
    PI X (.Tuple elts kk tpos) (.Call (.Name "zip" p) [e, e2] [] pos) (iZipK X.K ta) := by
  refine ⟨fun pins s σ H R I h => ?_⟩
  refine Call_ (ld_blt I hg hm PyProof.Rows.boot_zip (PyProof.Rows.callWith_type1 (thn (ha.run pos pins s σ H _ I h) fun us s1 ⟨vs, H1, I1, r1, q1⟩ => ?_) hs hpl))
  obtain ⟨a, b, xs, ys, k1, k2, ex, hqx, hqy, q⟩ := q1
  subst ex
  cases r1 with
  | cons r rr =>
    cases rr with
    | cons r' rr =>
      cases rr
      cases r
      cases r'
      obtain ⟨its, rv, p1⟩ := rowK I1 hqx
      obtain ⟨its2, rv2, p2⟩ := rowK I1 hqy
      have la := rwK_lt p1
      have lb := rwK_lt p2
      refine zip_begins2 (begK k1 a its.toArray) (begK k2 b its2.toArray) p1 p2 fun h' hz hTI hTO h1 h2 hsz hk => wpAny_pyIter_zip hz ?_
      have I2 : Inv X pins σ H1 { s1 with heap := h' } := I1.kept (t' := s1.toks) hk
      refine ⟨s1.heap.objs.size + 4, [s1.heap.objs.size + 4, s1.heap.objs.size + 2, s1.heap.objs.size + 3, s1.heap.objs.size, s1.heap.objs.size + 1], _, _, H1, rfl, I2, turn_zipK (PySem.W.ktu_apart s1.heap.objs.size a b la lb) (zip_sep2 (by simpa using la) (by simpa using lb)), ⟨hz, hTI, ⟨_, _, hTO⟩, iwK_new h1, iwK_new h2⟩, fun c hcm => ?_, q⟩
      have e' : c = s1.heap.objs.size + 4 ∨ c = s1.heap.objs.size + 2 ∨ c = s1.heap.objs.size + 3 ∨ c = s1.heap.objs.size ∨ c = s1.heap.objs.size + 1 := by simpa using hcm
      have hle : s1.heap.objs.size ≤ c := by
        rcases e' with z | z | z | z | z <;> rw [z] <;> first | exact Nat.le_refl _ | exact Nat.le_add_right _ _
      exact I1.fpOk hle (I1.hok.fresh hle)
theorem wk_zipK {k1 k2 : Bool} (h1 : SqK K k1 G1 a vs) (h2 : DqAll K G1 vs ds) (h3 : SqK K k2 G1 b us) (h4 : DqAll K G1 us es) : Wk K T B (ItzK K k1 k2 a b) G1 (zipD ds es) := by
  intro G2 w2 r2 σ2 H2 R s i
  have hL := sqK_sub (s.tr R.sub) h1
  have hM := sqK_sub (s.tr R.sub) h3
  refine ⟨fun z hz => ?_, fun hn => ⟨vs, us, hL, hM, by rw [dps_len h2, dps_len h4]; exact zip_end ds es i hn⟩⟩
  obtain ⟨x, y, hx, hy, rfl⟩ := zip_at ds es i hz
  obtain ⟨v, e1, e2⟩ := dps_get i h2 hx
  obtain ⟨u, f1, f2⟩ := dps_get i h4 hy
  refine ⟨⟨vs, us, v, u, hL, hM, e1, f1⟩, fun q H3 ⟨p, its, v', u', eq, hp, eh, k1, k2⟩ => ?_⟩
  subst eq eh
  have q1 := k1 vs hL
  rw [e1] at q1
  cases q1
  have q2 := k2 us hM
  rw [f1] at q2
  cases q2
  exact ⟨_, R.new hp, Stp.new R.sub hp, .tup SqD.new (dps_sub (Sub.new (R.gnone hp)) (.cons (dp_sub s e2) (.cons (dp_sub s f2) .nil)))⟩
/-- data that are walked stand as a row -/
theorem rowD {v : V} {d : D} (h : Dq K G1 v d) (e : items d = some ds) : ∃ k a vs, v = .ref a ∧ SqK K k G1 a vs ∧ DqAll K G1 vs ds := by
  obtain ⟨a, vs, rfl, h2, h3⟩ := dp_items h e
  rcases h3 with ⟨_, h3⟩ | ⟨_, h3⟩
  · exact ⟨true, a, vs, rfl, .inl (.inl h3), h2⟩
  · exact ⟨false, a, vs, rfl, h3, h2⟩
theorem zipI_eq {x y : D} {xs ys : List D} {r : Rho} (h1 : items x = some xs) (h2 : items y = some ys) : zipI x y r = .ok (zipD xs ys) r := by
  unfold zipI
  rw [h1, h2]
theorem zipI_bad {x y : D} {r : Rho} (h : items x = none ∨ items y = none) : zipI x y r = .bad := by
  unfold zipI
  rcases h with h | h
  · rw [h]
  · rw [h]
    cases items x <;> rfl
end
section
variable {T : List (Addr × Str)} {xt : XT} {X : Cx} {a b c e : Expr} {va vb vc : Rho → Res D} {p : Pos}
theorem si_zip {elts : List Expr} {kk : Nat} {tpos pn : Pos} (hg : Gl X "zip") (hm : X.mg "zip" = none) (ha : SE T xt X a va) (hb : SE T xt X b vb) (hs : noStar a = true) (hs2 : noStar b = true) :
    SI T xt X (.Tuple elts kk tpos) (.Call (.Name "zip" pn) [a, b] [] p) fun r => (va r).bind fun x r1 => (vb r1).bind fun y r2 => zipI x y r2 := by
  intro W tk
  obtain ⟨t, p1, q1⟩ := ha W tk
  obtain ⟨u, p2, q2⟩ := hb W tk
  have e1 := star_one b [] X.env hs2
  have e0 := star_one a [b] X.env hs
  refine ⟨_, pi_zipK hg hm (pa_cons p1 (pa_cons p2 pa_nil e1) e0) e0 (by rw [e1]; rfl), fun B G w r σ H R0 R z => q1 _ _ _ _ _ _ _ R (z.bind fun x r1 v G1 w1 H1 _ R1 S1 d1 z1 => ?_)⟩
  refine q2 _ _ _ _ _ _ _ R1 (z1.bind fun y r2 v2 G2 w2 H2 _ R2 S2 d2 z2 => ?_)
  have d1 : Dq X.K G1 v x := d1
  have d2 : Dq X.K G2 v2 y := d2
  have d1 := dp_sub S2.sub d1
  cases ex : items x with
  | none =>
    rw [zipI_bad (.inl ex)] at z2
    exact z2.elim
  | some xs =>
    cases ey : items y with
    | none =>
      rw [zipI_bad (.inr ey)] at z2
      exact z2.elim
    | some ys =>
      rw [zipI_eq ex ey] at z2
      obtain ⟨k1, l1, vs1, rfl, h1, f1⟩ := rowD d1 ex
      obtain ⟨k2, l2, vs2, rfl, h2, f2⟩ := rowD d2 ey
      have z2 : QX X.K T xt B W (relI X.K T B) G2 w2 σ H2 (.ok (zipD xs ys) r2) R0 := z2
      exact ⟨l1, l2, vs1, vs2, k1, k2, rfl, sqK_sub R2.sub h1, sqK_sub R2.sub h2, z2 _ _ _ _ R2 (Stp.refl _ _ _) (wk_zipK h1 f1 h2 f2)⟩
theorem enum_at : ∀ (ds : List D) (k : Int) (i : Nat) (z : D), (enumFrom k ds)[i]? = some z → ∃ x, ds[i]? = some x ∧ z = .tuple [.int (k + (i : Int)), x]
  | [], _, _, _, h => by simp [enumFrom] at h
  | d :: ds, k, 0, z, h => by
    cases h
    exact ⟨d, rfl, by simp⟩
  | d :: ds, k, i + 1, z, h => by
    obtain ⟨x, h1, h2⟩ := enum_at ds (k + 1) i z (by simpa [enumFrom] using h)
    refine ⟨x, by simpa using h1, ?_⟩
    rw [h2, show k + 1 + (i : Int) = k + ((i + 1 : Nat) : Int) by omega]
theorem enum_len : ∀ (ds : List D) (k : Int), (enumFrom k ds).length = ds.length
  | [], _ => rfl
  | d :: ds, k => by simp [enumFrom, enum_len ds]
/-- enumerate(v): its two new cells -/
theorem meets_enum1 {v : Value} {o : Obj} {H : Heap → Prop} (B : Begins v o H) :
    Meets (Builtin.«enumerate.__new__» ⟨[.type "enumerate", v], []⟩) (fun _ R s => H s.heap ∧
      R (.ok (.ret (.ref (s.heap.push o).objs.size))) { s with heap := (s.heap.push o).push { cls := .type "enumerate", data := .fields #[.none, .bool false, .ref s.heap.objs.size, rawInt 0, .none, .none] } }) :=
  .of_wp fun prog w A R s h => by
    obtain ⟨hp, g, d, tk, os⟩ := s; obtain ⟨h1, h⟩ := h
    have hsub := sub_enumerate
    have q1 : ∀ {A' : Around} {E : Value → Shared → Prop} {Q : Value → Shared → Prop}, Q (.ref hp.objs.size) ⟨hp.push o, g, d, tk, os⟩ → wpAny (model prog w) A' (pyIter v) Q E ⟨hp, g, d, tk, os⟩ :=
      fun q => B.iter prog w _ _ ⟨hp, g, d, tk, os⟩ _ h1 q
    wp_walk using q1
    refine wpAny_stack_any fun st => wpAny_pure ?_
    split
    · rename_i c _ _ _ _ _
      cases (c == Value.type "enumerate")
      · wp_walk using q1
        exact ⟨_, rfl, h⟩
      · wp_walk using q1
        exact ⟨_, rfl, h⟩
    · wp_walk using q1
      exact ⟨_, rfl, h⟩
section
variable {prog : Program} {w : World} {A : Around} {E : Value → Shared → Prop} {s : Shared}
theorem enum_begins1 {v : Value} {o : Obj} {H : Heap → Prop} {Q : Value → Shared → Prop} (B : Begins v o H) (h1 : H s.heap)
    (h : ∀ h', IsEnum h' (s.heap.objs.size + 1) s.heap.objs.size 0 .none → h'.get? s.heap.objs.size = some o → h'.objs.size = s.heap.objs.size + 2 →
      (∀ b o, s.heap.get? b = some o → h'.get? b = some o) → Q (.ref (s.heap.objs.size + 1)) { s with heap := h' }) :
    wpAny (model prog w) A (call (.type "enumerate") [v]) Q E s := by
  refine callType_new F.called_enumerate (by decide) (F.typeCall_enumerate_1 _) (F.newCall_enumerate_1 _) (fun obj => F.args_object_init_2 obj _) F.entry_enumerate_new
    (meets_enum1 B) ⟨h1, ?_⟩
  have hz : (s.heap.push o).objs.size = s.heap.objs.size + 1 := Heap.size_push ..
  show _ ∧ _
  rw [hz]
  have he : IsEnum ((s.heap.push o).push { cls := .type "enumerate", data := .fields #[.none, .bool false, .ref s.heap.objs.size, rawInt 0, .none, .none] }) (s.heap.objs.size + 1) s.heap.objs.size 0 .none := by
    have := Heap.get?_push_size (s.heap.push o) (o := { cls := .type "enumerate", data := .fields #[.none, .bool false, .ref s.heap.objs.size, rawInt 0, .none, .none] }) rfl
    rw [hz] at this; exact this
  refine ⟨⟨_, he, rfl⟩, h _ he (Heap.get?_push_of_some _ (Heap.get?_push_size _ B.free)) (by rw [Heap.size_push, hz]) fun b o x => Heap.get?_push_of_some _ (Heap.get?_push_of_some _ x)⟩
end
/-- the row at a as it stands at each turn, each item in a new pair -/
def IteK (K : PySem.W.Frag) (k : Bool) (a : Addr) : It :=
  ⟨fun i H => ∃ (xs : List V) (x : V), SqK K k H a xs ∧ xs[i]? = some x, fun i H v H' => ∃ T its x, v = .ref T ∧ H T = none ∧ H' = upd H T (tpO its [.int (i : Nat), x]) ∧ ∀ xs, SqK K k H a xs → xs[i]? = some x, fun i H => ∃ xs : List V, SqK K k H a xs ∧ xs.length ≤ i⟩
theorem turn_enumK {P : Program} {w : World} {K : PySem.W.Frag} {elts : List Expr} {kk : Nat} {tpos : Pos} (k : Bool) (a e it : Addr) (hai : a ≠ it) (hea : e ≠ a) :
    L2.Turn P w K (.Tuple elts kk tpos) (IteK K k a) [e, it] e (fun i h => (∃ old, IsEnum h e it ((i : Nat) : Int) old) ∧ IwK k h it a i ∧ e ≠ it) where
  mem := by simp
  obj := fun i h st b hb => by
    obtain ⟨⟨old, he⟩, hi, _⟩ := st
    have e' : b = e ∨ b = it := by simpa using hb
    rcases e' with z | z
    · rw [z]; exact ⟨_, he, fun v q => nomatch q⟩
    · rw [z]; exact iwK_obj hi
  keep := fun i h h' st k => let ⟨⟨old, he⟩, hi, hne⟩ := st; ⟨⟨old, k e (by simp) _ he⟩, iwK_at hi fun o q => k it (by simp) o q, hne⟩
  item := by
    intro X hP hw hK hc i pins s σ H E I hf st hg
    subst hP hw hK
    obtain ⟨⟨old, he⟩, hit, hne⟩ := st
    obtain ⟨xs, x, hq, hx⟩ := hg
    obtain ⟨its, rv, p⟩ := rowK I hq
    obtain ⟨u, hu, ru⟩ := rv.get hx
    have hel : e < s.heap.objs.size := Heap.lt_size he
    have hil : it < s.heap.objs.size := by obtain ⟨_, q, _⟩ := iwK_obj hit; exact Heap.lt_size q
    have hh : X.A.in1.handled = none := I.ok.hd hc
    have c1 : i < its.toArray.size := by
      have := (List.getElem?_eq_some_iff.mp hu).1
      simpa using this
    refine wpAny_pyNext_enum_itemD (drawK hh k it a hai its.toArray) he ⟨hit, p⟩ c1 hne (by simp [hne, hea]) fun x1 h' tk q1 ho hit' hT hsz hk => ?_
    have e1 : x1 = u := by
      have : its[i]? = some x1 := by simpa using q1
      rw [hu] at this
      exact (Option.some.inj this).symm
    subst e1
    refine ⟨_, rfl, wpAny_letOwnedTupleGo_enum (s := { s with heap := h', toks := tk + 1 }) ho fun h'' he' sb => ?_⟩
    have hT2 : h''.get? s.heap.objs.size = some { cls := .type "tuple", data := .seq #[.int i tk, x1] } := (sb.2 _ (Nat.ne_of_gt hel)).trans hT
    have new : ObjOk X.prog X.w (upd H s.heap.objs.size (tpO [.int i tk, x1] [.int (i : Nat), x])) h'' s.heap.objs.size (tpO [.int i tk, x1] [.int (i : Nat), x]) :=
      ok_tp hT2 (by show 2 ≤ sizeLine; decide) (.cons ⟨_, rfl⟩ (.cons ru .nil))
    have I1 : Inv X pins σ (upd H s.heap.objs.size (tpO [.int i tk, x1] [.int (i : Nat), x])) { s with heap := h'', toks := tk + 1 } :=
      I.turnedNew (t' := tk + 1) (ch := [e, it]) (fun b ob hb q => (sb.2 b (fun z => hb (by simp [z]))).trans (hk b ob (fun z => hb (by simp [z])) (fun z => hb (by simp [z])) q)) hf (Nat.le_refl _) new
    refine ⟨.ref s.heap.objs.size, _, I1, rfl, ⟨_, _, x, rfl, I.hok.fresh (Nat.le_refl _), rfl, fun ys hy => by rw [sqK_inj I hy hq]; exact hx⟩, ⟨⟨x1, ?_⟩, iwK_at hit'.1 fun o q => (sb.2 it (Ne.symm hne)).trans q, hne⟩, fun b hb => ?_⟩
    · have e1 : ((i + 1 : Nat) : Int) = (i : Int) + 1 := by omega
      rw [e1]; exact he'
    · have hb' : b < s.heap.objs.size := by
        have e' : b = e ∨ b = it := by simpa using hb
        rcases e' with z | z
        · rw [z]; exact hel
        · rw [z]; exact hil
      rw [upd_ne (Nat.ne_of_lt hb')]
      exact (hf b hb).1
  done := by
    intro X hP hw hK hc i pins s σ H E I hf st hg
    subst hP hw hK
    obtain ⟨⟨old, he⟩, hit, hne⟩ := st
    obtain ⟨xs, hq, hx⟩ := hg
    obtain ⟨its, rv, p⟩ := rowK I hq
    obtain ⟨f0, f1, f2, f3, f4, f5⟩ := hf it (by simp)
    have hl := rv.length
    have hh : X.A.in1.handled = none := I.ok.hd hc
    exact wpAny_pyNext_enum_endD (doneK hh k it a its.toArray i (by simp; omega)) he ⟨rfl, hit, p⟩ fun h' eb => ⟨rfl, I.turned (t' := s.toks) (fun b o hb q => eb b o hb q) f0 f1 f3 f4 f5⟩
  self := fun A i s Q E st h => let ⟨⟨_, he⟩, _⟩ := st; wpAny_pyIter_enum he h
def iEnumK (K : PySem.W.Frag) (ta : TA) : L2.TI := fun σ H R => ta σ H fun vs H1 => ∃ a xs k, vs = [.ref a] ∧ SqK K k H1 a xs ∧ R (IteK K k a) H1
theorem pi_enumK {X : Cx} {e : Expr} {ta : TA} {p pos tpos : Pos} {elts : List Expr} {kk : Nat} (hg : Gl X "enumerate") (hm : X.mg "enumerate" = none) (ha : PA X [e] ta) (hs : starEach [e] X.env = [(false, eval e X.env)] := by rfl) :
    PI X (.Tuple elts kk tpos) (.Call (.Name "enumerate" p) [e] [] pos) (iEnumK X.K ta) := by
  refine ⟨fun pins s σ H R I h => ?_⟩
  refine Call_ (ld_blt I hg hm boot_enumerate (PyProof.Rows.callWith_type1 (thn (ha.run pos pins s σ H _ I h) fun us s1 ⟨vs, H1, I1, r1, q1⟩ => ?_) hs rfl))
  obtain ⟨a, xs, k, ex, hq, q⟩ := q1
  subst ex
  cases r1 with
  | cons r rr =>
    cases rr
    cases r
    obtain ⟨its, rv, p'⟩ := rowK I1 hq
    have la := rwK_lt p'
    refine enum_begins1 (begK k a its.toArray) p' fun h' he hit hsz hk => wpAny_pyIter_enum he ?_
    have I2 : Inv X pins σ H1 { s1 with heap := h' } := I1.kept (t' := s1.toks) hk
    refine ⟨s1.heap.objs.size + 1, [s1.heap.objs.size + 1, s1.heap.objs.size], _, _, H1, rfl, I2, turn_enumK k a (s1.heap.objs.size + 1) s1.heap.objs.size (Nat.ne_of_lt la) (Nat.ne_of_gt (Nat.lt_succ_of_lt la)), ⟨⟨_, he⟩, iwK_new hit, Nat.succ_ne_self _⟩, fun c hcm => ?_, q⟩
    have e' : c = s1.heap.objs.size + 1 ∨ c = s1.heap.objs.size := by simpa using hcm
    have hle : s1.heap.objs.size ≤ c := by
      rcases e' with z | z <;> rw [z] <;> first | exact Nat.le_refl _ | exact Nat.le_add_right _ _
    exact I1.fpOk hle (I1.hok.fresh hle)
theorem wk_enum {K : PySem.W.Frag} {B : Bk} {G1 : Hp} {k : Bool} {a : Addr} {vs : List V} {ds : List D} (h1 : SqK K k G1 a vs) (h2 : DqAll K G1 vs ds) : Wk K T B (IteK K k a) G1 (enumFrom 0 ds) := by
  intro G2 w2 r2 σ2 H2 R s i
  have hL := sqK_sub (s.tr R.sub) h1
  refine ⟨fun z hz => ?_, fun hn => ⟨vs, hL, by
    have := List.getElem?_eq_none_iff.mp hn
    rw [enum_len] at this
    rw [dps_len h2]
    exact this⟩⟩
  obtain ⟨x, hx, rfl⟩ := enum_at ds 0 i z hz
  obtain ⟨v, e1, e2⟩ := dps_get i h2 hx
  refine ⟨⟨vs, v, hL, e1⟩, fun q H3 ⟨p, its, v', eq, hp, eh, k1⟩ => ?_⟩
  subst eq eh
  have q1 := k1 vs hL
  rw [e1] at q1
  cases q1
  rw [Int.zero_add]
  exact ⟨_, R.new hp, Stp.new R.sub hp, .tup SqD.new (dps_sub (Sub.new (R.gnone hp)) (.cons (.int _) (.cons (dp_sub s e2) .nil)))⟩
theorem si_enum {elts : List Expr} {kk : Nat} {tpos pn : Pos} (hg : Gl X "enumerate") (hm : X.mg "enumerate" = none) (ha : SE T xt X a va) (hs : noStar a = true) :
    SI T xt X (.Tuple elts kk tpos) (.Call (.Name "enumerate" pn) [a] [] p) fun r => (va r).bind fun x r1 => enumI x r1 := by
  intro W tk
  obtain ⟨t, p1, q1⟩ := ha W tk
  have e0 := star_one a [] X.env hs
  refine ⟨_, pi_enumK hg hm (pa_cons p1 pa_nil e0) e0, fun B G w r σ H R0 R z => q1 _ _ _ _ _ _ _ R (z.bind fun x r1 v G1 w1 H1 _ R1 S1 d1 z1 => ?_)⟩
  have d1 : Dq X.K G1 v x := d1
  cases ex : items x with
  | none =>
    unfold enumI at z1
    rw [ex] at z1
    exact z1.elim
  | some xs =>
    have ez : enumI x r1 = .ok (enumFrom 0 xs) r1 := by unfold enumI; rw [ex]
    rw [ez] at z1
    obtain ⟨k, l, vs, rfl, h1, f1⟩ := rowD d1 ex
    have z1 : QX X.K T xt B W (relI X.K T B) G1 w1 σ H1 (.ok (enumFrom 0 xs) r1) R0 := z1
    exact ⟨l, vs, k, rfl, sqK_sub R1.sub h1, z1 _ _ _ _ R1 (Stp.refl _ _ _) (wk_enum h1 f1)⟩
end
end Rf
set_option Elab.async false
set_option linter.all false
set_option maxRecDepth 100000
set_option maxHeartbeats 1000000
namespace Rf
open PySem PySem.Spec PyProof.Rows L2 LamX
/-! ### max(x, default=d), min(x, default=d) -/
theorem pick_facts {pick : D → List D → D} {pi : Int → Int → Int} (hp : ∀ (n : Int) (ns : List Int), pick (.int n) (ns.map .int) = .int (ns.foldl pi n)) {ds : List D} {z : D} (e : pickOf pick pi ds = some z) :
    ∃ x r, ds = x :: r ∧ PySem.W.AlikeAll (x :: r) ∧ PyData.canLayAll0 (x :: r) = true ∧ PyData.depthAll (x :: r) ≤ 63 ∧ pick x r = z := by
  cases ds with
  | nil => cases e
  | cons x r =>
    have slow : (if (allAlike (x :: r) && SeqAt.shaped (.list (x :: r))) = true then some (pick x r) else Option.none) = some z → ∃ x' r', x :: r = x' :: r' ∧ PySem.W.AlikeAll (x' :: r') ∧ PyData.canLayAll0 (x' :: r') = true ∧ PyData.depthAll (x' :: r') ≤ 63 ∧ pick x' r' = z := fun e => by
      obtain ⟨c, rfl⟩ := ite_some e
      rw [Bool.and_eq_true] at c
      obtain ⟨l1, l2⟩ := shaped_list c.2
      exact ⟨x, r, rfl, allAlike_of c.1, l1, l2, rfl⟩
    cases x with
    | int n =>
      replace e : (match intsD r with
        | some ns => some (PyData.int (ns.foldl pi n))
        | Option.none => slowP pick (.int n) r) = some z := e
      cases e2 : intsD r with
      | none =>
        rw [e2] at e
        exact slow e
      | some ns =>
        rw [e2] at e
        cases e
        have em := intsD_map e2
        have ec : (PyData.int n :: r) = (n :: ns).map PyData.int := by rw [em]; rfl
        refine ⟨.int n, r, rfl, ?_, ?_, ?_, ?_⟩
        · rw [ec]; exact alike_ints _
        · rw [ec]; exact lay_ints _
        · rw [ec, depth_ints]; exact Nat.zero_le _
        · rw [em]; exact hp n ns
    | _ => exact slow e
def rDflt (pick : D → List D → D) (K : PySem.W.Frag) : List V → List V → Hp → VK → Prop := fun vs zs H Q => ∃ (a : Addr) (xs : List V) (ds : List D) (y : V), vs = [V.ref a] ∧ zs = [y] ∧ (SqL K H a xs ∨ SqT K H a xs) ∧ DqAll K H xs ds ∧ PySem.W.AlikeAll ds ∧ PyData.canLayAll0 ds = true ∧ PyData.depthAll ds ≤ 63 ∧
  (ds = [] → Q y H) ∧ ∀ (x : D) (r : List D) (i : Nat) (v : V), ds = x :: r → xs[i]? = some v → ds[i]? = some (pick x r) → Q v H
theorem vals1' {y : V} {ws : List Value} (r : Vals [y] ws) : ∃ w, ws = [w] ∧ RelV y w := by
  cases r with
  | cons h t => cases t; exact ⟨_, rfl, h⟩
theorem cr_maxDf {X : Cx} (hc : X.calm = true) (hu : X.A.units + 65 < cLine) : CallRK X (.builtin "max") ["default"] (rDflt PySem.W.maxD X.K) := by
  intro pins s σ H vs zs us ws Q I rr rz h
  obtain ⟨a, xs, ds, y, rfl, rfl, hs, hd, ha, hl, hz, q0, q⟩ := h
  rw [Vals.ref1 rr]
  obtain ⟨w, rfl, hw⟩ := vals1' rz
  have z0 : ds = [] → ∀ h' tk, (∀ b o, s.heap.get? b = some o → h'.get? b = some o) → EP X pins σ Q w { s with heap := h', toks := tk } := fun e h' tk hk => ⟨y, H, I.kept hk, hw, q0 e⟩
  have fin : ∀ {its : List Value}, Vals xs its → ∀ (x : D) (r : List D) (i : Nat) v h' tk bs, ds = x :: r → its.toArray[i]? = some v → Reads h' v (PySem.W.maxD x r) bs → (∀ b o, s.heap.get? b = some o → h'.get? b = some o) → EP X pins σ Q v { s with heap := h', toks := tk } := by
    intro its rv x r i v h' tk bs ed hv hr hk
    subst ed
    obtain ⟨y, h1, h2, h3, d, h4, h5⟩ := pick_at I rv hd hl (fun d hd => ha.1 d hd _ (alike_mem_max r x)) hv hr hk
    exact ⟨y, H, I.kept hk, h2, q x r i y rfl h1 (by rw [h4, h5])⟩
  rcases hs with hs | hs
  · obtain ⟨its, rv, hL, _⟩ := I.list hs
    obtain ⟨as, hR⟩ := Dp.readsAll I ds xs its (dqs_dp hd hl) rv
    exact PySem.W.max_list_default (I.ok.hd hc) hL.isList (by simpa using hR) ha (by omega) z0 (fun x r i v h' tk bs => fin rv x r i v h' tk bs)
  · obtain ⟨its, rv, hL, _⟩ := I.tuple hs
    obtain ⟨as, hR⟩ := Dp.readsAll I ds xs its (dqs_dp hd hl) rv
    exact PySem.W.max_tuple_default (I.ok.hd hc) hL (by simpa using hR) ha (by omega) z0 (fun x r i v h' tk bs => fin rv x r i v h' tk bs)
theorem cr_minDf {X : Cx} (hc : X.calm = true) (hu : X.A.units + 65 < cLine) : CallRK X (.builtin "min") ["default"] (rDflt PySem.W.minD X.K) := by
  intro pins s σ H vs zs us ws Q I rr rz h
  obtain ⟨a, xs, ds, y, rfl, rfl, hs, hd, ha, hl, hz, q0, q⟩ := h
  rw [Vals.ref1 rr]
  obtain ⟨w, rfl, hw⟩ := vals1' rz
  have z0 : ds = [] → ∀ h' tk, (∀ b o, s.heap.get? b = some o → h'.get? b = some o) → EP X pins σ Q w { s with heap := h', toks := tk } := fun e h' tk hk => ⟨y, H, I.kept hk, hw, q0 e⟩
  have fin : ∀ {its : List Value}, Vals xs its → ∀ (x : D) (r : List D) (i : Nat) v h' tk bs, ds = x :: r → its.toArray[i]? = some v → Reads h' v (PySem.W.minD x r) bs → (∀ b o, s.heap.get? b = some o → h'.get? b = some o) → EP X pins σ Q v { s with heap := h', toks := tk } := by
    intro its rv x r i v h' tk bs ed hv hr hk
    subst ed
    obtain ⟨y, h1, h2, h3, d, h4, h5⟩ := pick_at I rv hd hl (fun d hd => ha.1 d hd _ (alike_mem_min r x)) hv hr hk
    exact ⟨y, H, I.kept hk, h2, q x r i y rfl h1 (by rw [h4, h5])⟩
  rcases hs with hs | hs
  · obtain ⟨its, rv, hL, _⟩ := I.list hs
    obtain ⟨as, hR⟩ := Dp.readsAll I ds xs its (dqs_dp hd hl) rv
    exact PySem.W.min_list_default (I.ok.hd hc) hL.isList (by simpa using hR) ha (by omega) z0 (fun x r i v h' tk bs => fin rv x r i v h' tk bs)
  · obtain ⟨its, rv, hL, _⟩ := I.tuple hs
    obtain ⟨as, hR⟩ := Dp.readsAll I ds xs its (dqs_dp hd hl) rv
    exact PySem.W.min_tuple_default (I.ok.hd hc) hL (by simpa using hR) ha (by omega) z0 (fun x r i v h' tk bs => fin rv x r i v h' tk bs)
section
variable {T : List (Addr × Str)} {xt : XT} {X : Cx} {a b c e : Expr} {va vb vc : Rho → Res D} {p : Pos}
theorem alike_nil : PySem.W.AlikeAll [] := ⟨fun x h => (by cases h), fun x h => (by cases h)⟩
theorem se_dflt {bi : Bi} {nm : Str} {id : String} {pick : D → List D → D} {pi : Int → Int → Int} {oa : Rho → Res D} {ag : Rho → D → Option D} {pn kp : Pos} (hp : ∀ (n : Int) (ns : List Int), pick (.int n) (ns.map .int) = .int (ns.foldl pi n)) (hr : CallRK X (.builtin id) ["default"] (rDflt pick X.K)) (hb : ∀ d, biD bi d = (items d).bind (pickOf pick pi))
    (hg : Gl X nm) (hm : X.mg nm = none) (hv : bootBuiltins nm = some (.builtin id)) (h : SO T xt X a oa ag) (k : SE T xt X b vb) (hs : noStar a = true) (hn : nm ≠ "__name__") (hd : (nm == ("__debug__" : Str)) = false) :
    SE T xt X (.Call (.Name nm pn) [a] [⟨some "default", b, kp⟩] p) fun r => (oa r).bind fun x r1 => (vb r1).bind fun y r2 => opt ((ag r2 x).bind fun z => dfltD bi z y) r2 := by
  intro W tk
  obtain ⟨t, p1, q1⟩ := h W tk
  obtain ⟨u, p2, q2⟩ := k W tk
  have e0 := star_one a [] X.env hs
  refine ⟨_, pe_callBK hr hg hm hv (pa_cons p1 pa_nil e0) (pk_cons p2 pk_nil) hn hd (by rw [e0]; rfl) (by rw [e0]; rfl) (by rfl) (by rfl) (by rfl), fun B G w r σ H Q R z => q1 _ _ _ _ _ _ _ R (z.bind fun x r1 v G1 w1 H1 _ R1 S1 d1 z1 => ?_)⟩
  refine q2 _ _ _ _ _ _ _ R1 (z1.bind fun y r2 v2 G2 w2 H2 _ R2 S2 d2 z2 => ?_)
  obtain ⟨d, ed, z3⟩ := z2.opt
  cases ez : ag r2 x with
  | none => rw [ez] at ed; cases ed
  | some zz =>
    rw [ez] at ed
    have dy := d1.2 _ _ _ _ _ R2 S2 ez
    replace ed : dfltD bi zz y = some d := ed
    have d2 : Dq X.K G2 v2 y := d2
    cases e1 : items zz with
    | none =>
      have : biD bi zz = some d := by unfold dfltD at ed; rw [e1] at ed; exact ed
      rw [hb, e1] at this
      cases this
    | some ds =>
      obtain ⟨la, vs, rfl, h1, h2⟩ := dy.items R2.sub e1
      cases ds with
      | nil =>
        have : some y = some d := by unfold dfltD at ed; rw [e1] at ed; exact ed
        cases this
        refine ⟨la, vs, [], v2, rfl, rfl, h1, dps_sub R2.sub h2, alike_nil, rfl, Nat.zero_le _, fun _ => z3 _ _ _ _ R2 (Stp.refl _ _ _) d2, fun x r i v e => (by cases e)⟩
      | cons x0 r0 =>
        have e3 : biD bi zz = some d := by unfold dfltD at ed; rw [e1] at ed; exact ed
        rw [hb, e1] at e3
        obtain ⟨x', r', ex, k1, k2, k3, k4⟩ := pick_facts hp e3
        cases ex
        refine ⟨la, vs, _, v2, rfl, rfl, h1, dps_sub R2.sub h2, k1, k2, k3, fun e => (by cases e), fun x r i v e hv hx => ?_⟩
        cases e
        obtain ⟨u', e4, e5⟩ := dps_get i h2 hx
        rw [hv] at e4
        cases e4
        exact z3 v _ _ _ R2 (Stp.refl _ _ _) (k4 ▸ e5)
end
end Rf
set_option Elab.async false
set_option linter.all false
set_option maxRecDepth 100000
set_option maxHeartbeats 2000000
namespace Rf
open PySem PySem.Spec PyProof.Rows L2 LamX Pm
/-! ### permutations(range(..)), combinations(range(..), k) -/
/-- rows of values, handed out one by one as new tuples -/
def ItP (rows : List (List V)) : It :=
  ⟨fun i _ => i < rows.length, fun i H v H' => ∃ T its xs, v = .ref T ∧ H T = none ∧ rows[i]? = some xs ∧ H' = upd H T (tpO its xs), fun i _ => rows.length ≤ i⟩
theorem runS_at {σ : Type} {step : σ → Option σ} : ∀ {n : Nat} {s : σ} {L : List σ}, runS step n s = some L → L[0]? = some s ∧ ∀ (k : Nat) (p : σ), L[k]? = some p → step p = L[k + 1]?
  | 0, _, _, h => by cases h
  | n + 1, s, L, h => by
    unfold runS at h
    cases e : step s with
    | none =>
      rw [e] at h
      cases h
      refine ⟨rfl, fun k p hk => ?_⟩
      cases k with
      | zero => cases hk; exact e
      | succ k => cases hk
    | some t =>
      rw [e] at h
      replace h : (runS step n t).map (s :: ·) = some L := h
      cases e2 : runS step n t with
      | none => rw [e2] at h; cases h
      | some M =>
        rw [e2] at h
        cases h
        obtain ⟨h0, h1⟩ := runS_at e2
        refine ⟨rfl, fun k p hk => ?_⟩
        cases k with
        | zero => cases hk; rw [e]; exact h0.symm
        | succ k => exact h1 k p hk
theorem rotAt_len {i : Nat} {ix : List Nat} (h : i < ix.length) : (rotAt i ix).length = ix.length := by
  unfold rotAt
  simp only [List.length_append, List.length_take, List.length_drop, List.length_cons, List.length_nil]
  omega
theorem npStep_len {n : Nat} : ∀ {k : Nat} {ix cy ix' cy' : List Nat}, k ≤ n → ix.length = n → cy.length = n → npStep n k ix cy = some (ix', cy') → ix'.length = n ∧ cy'.length = n
  | 0, _, _, _, _, _, _, _, h => by cases h
  | k + 1, ix, cy, ix', cy', hk, h1, h2, h => by
    unfold npStep at h
    split at h
    · exact npStep_len (by omega) (by rw [rotAt_len (by omega)]; exact h1) (by rw [List.length_set]; exact h2) h
    · cases h
      exact ⟨by unfold swpAt; rw [List.length_set, List.length_set]; exact h1, by rw [List.length_set]; exact h2⟩
theorem ncAt_len {n : Nat} {ix : List Nat} : ∀ {k : Nat} {ix' : List Nat}, k ≤ ix.length → ncAt n ix k = some ix' → ix'.length = ix.length
  | 0, _, _, h => by cases h
  | k + 1, ix', hk, h => by
    unfold ncAt at h
    split at h
    · exact ncAt_len (by omega) h
    · cases h
      rw [List.length_append, List.length_take, List.length_map, List.length_range]
      omega
/-- an invariant of all that a run goes through -/
theorem run_all {σ : Type} {step : σ → Option σ} {I : σ → Prop} {L : List σ} {s : σ} (h0 : L[0]? = some s) (h1 : ∀ (k : Nat) (p : σ), L[k]? = some p → step p = L[k + 1]?) (hs : I s) (hi : ∀ p q, I p → step p = some q → I q) : ∀ (k : Nat) (p : σ), L[k]? = some p → I p
  | 0, p, h => by rw [h0] at h; cases h; exact hs
  | k + 1, p, h => by
    have : k < L.length := by
      have := (List.getElem?_eq_some_iff.mp h).1
      omega
    have e := h1 k L[k] (List.getElem?_eq_getElem this)
    rw [h] at e
    exact hi _ _ (run_all h0 h1 hs hi k _ (List.getElem?_eq_getElem this)) e
def pkV (vs : List V) (ix : List Nat) : List V := ix.map fun i => vs.getD i .non
theorem vals_getD : ∀ {vs : List V} {us : List Value} (i : Nat), Vals vs us → RelV (vs.getD i .non) (us.getD i .none)
  | _, _, _, .nil => rfl
  | _, _, 0, .cons r _ => r
  | _, _, i + 1, .cons _ t => vals_getD i t
theorem vals_pk {vs : List V} {items : Array Value} (h : Vals vs items.toList) : ∀ ix : List Nat, Vals (pkV vs ix) (pickV items ix)
  | [] => .nil
  | i :: ix => .cons (by
      have := vals_getD i h
      have e : items.toList.getD i .none = items.getD i .none := by simp [List.getD_eq_getElem?_getD, Array.getD_eq_getD_getElem?]
      rw [e] at this
      exact this) (vals_pk h ix)
theorem turn_pm {P : Program} {w : World} {K : PySem.W.Frag} {tg : Expr} {it pool : Addr} {items : Array Value} {n : Nat} {L : List (List Nat × List Nat)} {vs : List V} (hne : it ≠ pool) (hn : items.size = n) (hsm : n ≤ 1000) (h0 : 0 < L.length)
    (hL : ∀ (k : Nat) p, L[k]? = some p → npStep n n p.1 p.2 = L[k + 1]?) (hlen : ∀ (k : Nat) p, L[k]? = some p → p.1.length = n ∧ p.2.length = n) (hv : Vals vs items.toList) :
    L2.Turn P w K tg (ItP (L.map fun p => pkV vs p.1)) [it, pool] it (fun i h => ∃ st last p, IsPm h it pool st n last p.1 p.2 ∧ h.IsTuple pool items ∧ ((i = 0 ∧ st = 0 ∧ L[0]? = some p) ∨ ∃ k, i = k + 1 ∧ st = 1 ∧ L[k]? = some p)) where
  mem := by simp
  obj := fun i h ⟨st, last, p, hit, ⟨o, ho, hc, np, hd⟩, _⟩ b hb => by
    have e' : b = it ∨ b = pool := by simpa using hb
    rcases e' with z | z
    · rw [z]; exact ⟨_, hit, fun v q => by cases q⟩
    · rw [z]; exact ⟨_, ho, fun v q => by rw [hd] at q; cases q⟩
  keep := fun i h h' ⟨st, last, p, hit, ⟨o, ho, hc, np, hd⟩, q⟩ k => ⟨st, last, p, k it (by simp) _ hit, ⟨o, k pool (by simp) _ ho, hc, np, hd⟩, q⟩
  item := by
    intro X hP hw hK hc i pins s σ H E I hf st hg
    subst hP hw hK
    obtain ⟨stt, last, p, hit, hp, hst⟩ := st
    have hg : i < (L.map fun p => pkV vs p.1).length := hg
    rw [List.length_map] at hg
    have hT : s.TypeIs (.ref it) "itertools.permutations" := ⟨_, hit, rfl⟩
    have hlt : it < s.heap.objs.size := Heap.lt_size hit
    have hlp : pool < s.heap.objs.size := by obtain ⟨o, ho, _⟩ := id hp; exact Heap.lt_size ho
    have fin : ∀ (p' : List Nat × List Nat), L[i]? = some p' → ∀ h', IsPm h' it pool 1 n (.ref s.heap.objs.size) p'.1 p'.2 → h'.get? s.heap.objs.size = some { cls := .type "tuple", data := .seq (pickV items p'.1).toArray } → h'.objs.size = s.heap.objs.size + 1 → (∀ c o, c ≠ it → s.heap.get? c = some o → h'.get? c = some o) →
        ∃ u, some (Value.ref s.heap.objs.size) = some u ∧ wpAny (model X.prog X.w) X.A (letOwnedTupleGo tg (.ref it) u) (fun _ s2 => ∃ x H', Inv X pins σ H' s2 ∧ RelV x u ∧ (ItP (L.map fun p => pkV vs p.1)).yld i H x H' ∧ (∃ st last p, IsPm s2.heap it pool st n last p.1 p.2 ∧ s2.heap.IsTuple pool items ∧ ((i + 1 = 0 ∧ st = 0 ∧ L[0]? = some p) ∨ ∃ k, i + 1 = k + 1 ∧ st = 1 ∧ L[k]? = some p)) ∧ ∀ b ∈ [it, pool], H' b = none) E { s with heap := h' } := by
      intro p' hp' h' hit' hT' hsz hk
      have I1 : Inv X pins σ (upd H s.heap.objs.size (tpO (pickV items p'.1) (pkV vs p'.1))) { s with heap := h' } :=
        I.turnedNew (t' := s.toks) (ch := [it, pool]) (fun b o hb q => hk b o (fun z => hb (by simp [z])) q) hf (Nat.le_refl _)
          (ok_tp hT' (by unfold pkV; rw [List.length_map, (hlen _ _ hp').1, sizeLine_eq]; omega) (vals_pk hv _))
      refine ⟨_, rfl, go_of (s := { s with heap := h' }) (n := "itertools.permutations") hit' rfl rfl (by decide) ⟨.ref s.heap.objs.size, _, I1, rfl, ⟨_, _, _, rfl, I.hok.fresh (Nat.le_refl _), by rw [List.getElem?_map, hp']; rfl, rfl⟩, ⟨1, _, p', hit', ?_, .inr ⟨i, rfl, rfl, hp'⟩⟩, fun b hb => ?_⟩⟩
      · obtain ⟨o, ho, r⟩ := id hp
        exact ⟨o, hk _ _ (Ne.symm hne) ho, r⟩
      · have hb' : b < s.heap.objs.size := by
          have e' : b = it ∨ b = pool := by simpa using hb
          rcases e' with z | z
          · rw [z]; exact hlt
          · rw [z]; exact hlp
        rw [upd_ne (Nat.ne_of_lt hb')]
        exact (hf b hb).1
    rcases hst with ⟨rfl, rfl, hp0⟩ | ⟨k, rfl, rfl, hpk⟩
    · exact next_of (Q := fun v s' => ∃ u, some v = some u ∧ wpAny (model X.prog X.w) X.A (letOwnedTupleGo tg (.ref it) u) _ E s') hT
        (pm_item0 hit hp hn (hlen _ _ hp0).1 (hlen _ _ hp0).2 hsm hne fun h' a b c d => fin p hp0 h' a b c d) fun v s' q => q
    · have e := hL k p hpk
      rw [List.getElem?_eq_getElem hg] at e
      exact next_of (Q := fun v s' => ∃ u, some v = some u ∧ wpAny (model X.prog X.w) X.A (letOwnedTupleGo tg (.ref it) u) _ E s') hT
        (pm_item1 hit hp hn (hlen _ _ hpk).1 (hlen _ _ hpk).2 (hlen _ _ (List.getElem?_eq_getElem hg)).1 (hlen _ _ (List.getElem?_eq_getElem hg)).2 hsm e fun h' a b c d => fin _ (List.getElem?_eq_getElem hg) h' a b c d) fun v s' q => q
  done := by
    intro X hP hw hK hc i pins s σ H E I hf st hg
    subst hP hw hK
    obtain ⟨stt, last, p, hit, hp, hst⟩ := st
    have hg : (L.map fun p => pkV vs p.1).length ≤ i := hg
    rw [List.length_map] at hg
    have hT : s.TypeIs (.ref it) "itertools.permutations" := ⟨_, hit, rfl⟩
    obtain ⟨f0, f1, f2, f3, f4, f5⟩ := hf it (by simp)
    have hh : X.A.in1.handled = none := I.ok.hd hc
    rcases hst with ⟨rfl, rfl, hp0⟩ | ⟨k, rfl, rfl, hpk⟩
    · omega
    · have e := hL k p hpk
      rw [List.getElem?_eq_none hg] at e
      exact stop_of (Q := fun _ _ => False) hT (pm_end hh hit hp hn (hlen _ _ hpk).1 (hlen _ _ hpk).2 e fun h' ea hk ⟨o, ho, hcl⟩ => ⟨ea, o, rfl, ho, hcl, rfl, I.turned (t' := s.toks) (fun b o hb q => hk b o hb q) f0 f1 f3 f4 f5⟩)
  self := fun A i s Q E ⟨st, last, p, hit, _⟩ h => iter_pm hit h
theorem turn_cb {P : Program} {w : World} {K : PySem.W.Frag} {tg : Expr} {it pool : Addr} {items : Array Value} {n m : Nat} {L : List (List Nat)} {vs : List V} (hne : it ≠ pool) (hn : items.size = n) (hsm : m ≤ 1000) (h0 : 0 < L.length)
    (hL : ∀ (k : Nat) p, L[k]? = some p → ncAt n p p.length = L[k + 1]?) (hlen : ∀ (k : Nat) p, L[k]? = some p → p.length = m) (hv : Vals vs items.toList) :
    L2.Turn P w K tg (ItP (L.map fun p => pkV vs p)) [it, pool] it (fun i h => ∃ st last p, IsCb h it pool st last p ∧ h.IsTuple pool items ∧ ((i = 0 ∧ st = 0 ∧ L[0]? = some p) ∨ ∃ k, i = k + 1 ∧ st = 1 ∧ L[k]? = some p)) where
  mem := by simp
  obj := fun i h ⟨st, last, p, hit, ⟨o, ho, hc, np, hd⟩, _⟩ b hb => by
    have e' : b = it ∨ b = pool := by simpa using hb
    rcases e' with z | z
    · rw [z]; exact ⟨_, hit, fun v q => by cases q⟩
    · rw [z]; exact ⟨_, ho, fun v q => by rw [hd] at q; cases q⟩
  keep := fun i h h' ⟨st, last, p, hit, ⟨o, ho, hc, np, hd⟩, q⟩ k => ⟨st, last, p, k it (by simp) _ hit, ⟨o, k pool (by simp) _ ho, hc, np, hd⟩, q⟩
  item := by
    intro X hP hw hK hc i pins s σ H E I hf st hg
    subst hP hw hK
    obtain ⟨stt, last, p, hit, hp, hst⟩ := st
    have hg : i < (L.map fun p => pkV vs p).length := hg
    rw [List.length_map] at hg
    have hT : s.TypeIs (.ref it) "itertools.combinations" := ⟨_, hit, rfl⟩
    have hlt : it < s.heap.objs.size := Heap.lt_size hit
    have hlp : pool < s.heap.objs.size := by obtain ⟨o, ho, _⟩ := id hp; exact Heap.lt_size ho
    have fin : ∀ (p' : List Nat), L[i]? = some p' → ∀ h', IsCb h' it pool 1 (.ref s.heap.objs.size) p' → h'.get? s.heap.objs.size = some { cls := .type "tuple", data := .seq (pickV items p').toArray } → h'.objs.size = s.heap.objs.size + 1 → (∀ c o, c ≠ it → s.heap.get? c = some o → h'.get? c = some o) →
        ∃ u, some (Value.ref s.heap.objs.size) = some u ∧ wpAny (model X.prog X.w) X.A (letOwnedTupleGo tg (.ref it) u) (fun _ s2 => ∃ x H', Inv X pins σ H' s2 ∧ RelV x u ∧ (ItP (L.map fun p => pkV vs p)).yld i H x H' ∧ (∃ st last p, IsCb s2.heap it pool st last p ∧ s2.heap.IsTuple pool items ∧ ((i + 1 = 0 ∧ st = 0 ∧ L[0]? = some p) ∨ ∃ k, i + 1 = k + 1 ∧ st = 1 ∧ L[k]? = some p)) ∧ ∀ b ∈ [it, pool], H' b = none) E { s with heap := h' } := by
      intro p' hp' h' hit' hT' hsz hk
      have I1 : Inv X pins σ (upd H s.heap.objs.size (tpO (pickV items p') (pkV vs p'))) { s with heap := h' } :=
        I.turnedNew (t' := s.toks) (ch := [it, pool]) (fun b o hb q => hk b o (fun z => hb (by simp [z])) q) hf (Nat.le_refl _)
          (ok_tp hT' (by unfold pkV; rw [List.length_map, hlen _ _ hp', sizeLine_eq]; omega) (vals_pk hv _))
      refine ⟨_, rfl, go_of (s := { s with heap := h' }) (n := "itertools.combinations") hit' rfl rfl (by decide) ⟨.ref s.heap.objs.size, _, I1, rfl, ⟨_, _, _, rfl, I.hok.fresh (Nat.le_refl _), by rw [List.getElem?_map, hp']; rfl, rfl⟩, ⟨1, _, p', hit', ?_, .inr ⟨i, rfl, rfl, hp'⟩⟩, fun b hb => ?_⟩⟩
      · obtain ⟨o, ho, r⟩ := id hp
        exact ⟨o, hk _ _ (Ne.symm hne) ho, r⟩
      · have hb' : b < s.heap.objs.size := by
          have e' : b = it ∨ b = pool := by simpa using hb
          rcases e' with z | z
          · rw [z]; exact hlt
          · rw [z]; exact hlp
        rw [upd_ne (Nat.ne_of_lt hb')]
        exact (hf b hb).1
    rcases hst with ⟨rfl, rfl, hp0⟩ | ⟨k, rfl, rfl, hpk⟩
    · exact next_cb (Q := fun v s' => ∃ u, some v = some u ∧ wpAny (model X.prog X.w) X.A (letOwnedTupleGo tg (.ref it) u) _ E s') hT
        (cb_item0 hit hp (by rw [hlen _ _ hp0]; exact hsm) fun h' a b c d => fin p hp0 h' a b c d) fun v s' q => q
    · have e := hL k p hpk
      rw [List.getElem?_eq_getElem hg] at e
      exact next_cb (Q := fun v s' => ∃ u, some v = some u ∧ wpAny (model X.prog X.w) X.A (letOwnedTupleGo tg (.ref it) u) _ E s') hT
        (cb_item1 hit hp hn (by rw [hlen _ _ (List.getElem?_eq_getElem hg)]; exact hsm) e fun h' a b c d => fin _ (List.getElem?_eq_getElem hg) h' a b c d) fun v s' q => q
  done := by
    intro X hP hw hK hc i pins s σ H E I hf st hg
    subst hP hw hK
    obtain ⟨stt, last, p, hit, hp, hst⟩ := st
    have hg : (L.map fun p => pkV vs p).length ≤ i := hg
    rw [List.length_map] at hg
    have hT : s.TypeIs (.ref it) "itertools.combinations" := ⟨_, hit, rfl⟩
    obtain ⟨f0, f1, f2, f3, f4, f5⟩ := hf it (by simp)
    have hh : X.A.in1.handled = none := I.ok.hd hc
    rcases hst with ⟨rfl, rfl, hp0⟩ | ⟨k, rfl, rfl, hpk⟩
    · omega
    · have e := hL k p hpk
      rw [List.getElem?_eq_none hg] at e
      exact stop_cb hT (cb_end hh hit hp hn e fun h' ea hk ⟨o, ho, hcl⟩ => ⟨ea, o, rfl, ho, hcl, rfl, I.turned (t' := s.toks) (fun b o hb q => hk b o hb q) f0 f1 f3 f4 f5⟩)
  self := fun A i s Q E ⟨st, last, p, hit, _⟩ h => iter_cb hit h
/-- none to choose: more asked for than there are -/
theorem turn_cb0 {P : Program} {w : World} {K : PySem.W.Frag} {tg : Expr} {it pool : Addr} :
    L2.Turn P w K tg (ItP []) [it, pool] it (fun i h => ∃ last p, IsCb h it pool 2 last p ∧ ∃ o, h.get? pool = some o ∧ ∀ v, o.data ≠ .cell v) where
  mem := by simp
  obj := fun i h ⟨last, p, hit, hp⟩ b hb => by
    have e' : b = it ∨ b = pool := by simpa using hb
    rcases e' with z | z
    · rw [z]; exact ⟨_, hit, fun v q => by cases q⟩
    · rw [z]; exact hp
  keep := fun i h h' ⟨last, p, hit, o, ho, q⟩ k => ⟨last, p, k it (by simp) _ hit, o, k pool (by simp) _ ho, q⟩
  item := by
    intro X hP hw hK hc i pins s σ H E I hf st hg
    exact absurd (show i < ([] : List (List V)).length from hg) (Nat.not_lt_zero i)
  done := by
    intro X hP hw hK hc i pins s σ H E I hf st hg
    subst hP hw hK
    obtain ⟨last, p, hit, hp⟩ := st
    have hT : s.TypeIs (.ref it) "itertools.combinations" := ⟨_, hit, rfl⟩
    obtain ⟨f0, f1, f2, f3, f4, f5⟩ := hf it (by simp)
    have hh : X.A.in1.handled = none := I.ok.hd hc
    exact stop_cb hT (cb_over hh hit fun h' ea hk ⟨o, ho, hcl⟩ => ⟨ea, o, rfl, ho, hcl, rfl, I.turned (t' := s.toks) (fun b o hb q => hk b o hb q) f0 f1 f3 f4 f5⟩)
  self := fun A i s Q E ⟨last, p, hit, _⟩ h => iter_cb hit h
end Rf
set_option Elab.async false
set_option linter.all false
set_option maxRecDepth 100000
set_option maxHeartbeats 2000000
namespace Rf
open PySem PySem.Spec PyProof.Rows L2 LamX Pm
section
variable {K : PySem.W.Frag} {T : List (Addr × Str)} {B : Bk} {G1 : Hp}
theorem dq_rg {G : Hp} (a b : Int) : DqAll K G (rgV a b) ((List.range (b - a).toNat).map fun (k : Nat) => PyData.int (a + (k : Int))) := by
  unfold rgV
  generalize List.range (b - a).toNat = l
  induction l with
  | nil => exact .nil
  | cons x l ih => exact .cons (.int _) ih
theorem dq_getD : ∀ {vs : List V} {ds : List D} (i : Nat), DqAll K G1 vs ds → Dq K G1 (vs.getD i .non) (ds.getD i .none)
  | _, _, _, .nil => .non
  | _, _, 0, .cons r _ => r
  | _, _, i + 1, .cons _ t => dq_getD i t
theorem dq_pk {vs : List V} {ds : List D} (h : DqAll K G1 vs ds) : ∀ ix : List Nat, DqAll K G1 (pkV vs ix) (ix.map fun i => ds.getD i .none)
  | [] => .nil
  | i :: ix => .cons (dq_getD i h) (dq_pk h ix)
theorem wk_rows {rows : List (List V)} {dss : List (List D)} (hl : rows.length = dss.length) (h : ∀ (i : Nat) vs ds, rows[i]? = some vs → dss[i]? = some ds → DqAll K G1 vs ds) : Wk K T B (ItP rows) G1 (dss.map PyData.tuple) := by
  intro G2 w2 r2 σ2 H2 R s i
  refine ⟨fun z hz => ?_, fun hn => ?_⟩
  · rw [List.getElem?_map] at hz
    cases e : dss[i]? with
    | none => rw [e] at hz; cases hz
    | some ds =>
      rw [e] at hz
      cases hz
      have hi : i < rows.length := by rw [hl]; exact (List.getElem?_eq_some_iff.mp e).1
      refine ⟨hi, fun q H3 ⟨p, its, xs, eq, hp, ex, eh⟩ => ?_⟩
      subst eq eh
      exact ⟨_, R.new hp, Stp.new R.sub hp, .tup SqD.new (dps_sub (Sub.new (R.gnone hp)) (dps_sub s (h i _ _ ex e)))⟩
  · have := List.getElem?_eq_none_iff.mp hn
    rw [List.length_map] at this
    show rows.length ≤ i
    omega
end
section
variable {X : Cx}
theorem cr_range1 : CallR X (.type "range") (fun vs H Q => ∃ i, vs = [V.int i] ∧ ∀ p, H p = none → Q (.ref p) (upd H p (.rng 0 i))) := by
  intro pins s σ H vs us Q I r h
  obtain ⟨i, rfl, q⟩ := h
  obtain ⟨u1, rfl, ri⟩ := vals1 r
  obtain ⟨t, rfl⟩ := ri
  refine call_range_1 ⟨.ref s.heap.objs.size, upd H s.heap.objs.size (.rng 0 i), I.laid (t' := s.toks + 2) (fun b o e => Heap.get?_push_of_some _ e) (Nat.le_refl _) ?_, rfl, q _ (I.hok.fresh (Nat.le_refl _))⟩
  exact ⟨_, _, _, Heap.get?_push_size _ rfl⟩
theorem cr_range2' : CallR X (.type "range") (fun vs H Q => ∃ i j, vs = [V.int i, V.int j] ∧ ∀ p, H p = none → Q (.ref p) (upd H p (.rng i j))) := by
  intro pins s σ H vs us Q I r h
  obtain ⟨i, j, rfl, q⟩ := h
  obtain ⟨u1, u2, rfl, ri, rj⟩ := Vals.two r
  obtain ⟨t, rfl⟩ := ri
  obtain ⟨u, rfl⟩ := rj
  refine call_range_2 ⟨.ref s.heap.objs.size, upd H s.heap.objs.size (.rng i j), I.laid (t' := s.toks + 1) (fun b o e => Heap.get?_push_of_some _ e) (Nat.le_refl _) ?_, rfl, q _ (I.hok.fresh (Nat.le_refl _))⟩
  exact ⟨t, u, s.toks, Heap.get?_push_size _ rfl⟩
def pmSt (n : Nat) : List Nat × List Nat := (List.range n, (List.range n).map fun i => n - i)
/-- what a walk over permutations asks -/
def iPm (ta : TA) : L2.TI := fun σ H R => ta σ H fun vs H1 => ∃ p a b L, vs = [.ref p] ∧ H1 p = some (.rng a b) ∧ RgOk a b ∧ (b - a).toNat ≤ 1000 ∧ runS (fun p : List Nat × List Nat => npStep (b - a).toNat (b - a).toNat p.1 p.2) 100000 (pmSt (b - a).toNat) = some L ∧ R (ItP (L.map fun p => pkV (rgV a b) p.1)) H1
theorem pi_pm {tg e : Expr} {ta : TA} {p pos : Pos} (hc : X.calm = true) (hg : Gl X "permutations") (hm : X.mg "permutations" = some (.type "itertools.permutations")) (ha : PA X [e] ta) (hs : starEach [e] X.env = (false, eval e X.env) :: starEach [] X.env) :
    PI X tg (.Call (.Name "permutations" p) [e] [] pos) (iPm ta) := by
  refine ⟨fun pins s σ H R I h => ?_⟩
  refine Call_ (ld_glob I hg hm (PyProof.Rows.callWith_type1 (thn (ha.run pos pins s σ H _ I h) fun us s1 ⟨vs, H1, I1, r1, q1⟩ => ?_) hs rfl))
  obtain ⟨r, a, b, L, ex, hr, ok, hn, hL, q⟩ := q1
  subst ex
  obtain ⟨u, rfl, ru⟩ := vals1 r1
  cases ru
  obtain ⟨t, u, v, hR⟩ := I1.hok _ _ hr
  obtain ⟨b1, b2, b3, b4, b5⟩ := ok
  refine call_pm_range (n := (b - a).toNat) (I1.ok.hd hc) (show IsRange s1.heap r a b 1 t u v from hR) (small_one b1 b2 b3 b4) (rangeSize_nat a b) hn fun h' tk acc hk hi => ?_
  have I2 : Inv X pins σ H1 { s1 with heap := h', toks := tk } := I1.kept hk
  have I3 : Inv X pins σ H1 { s1 with heap := (h'.push { cls := .type "tuple", data := .seq acc }).push { cls := .type "itertools.permutations", data := .fields (pmF h'.objs.size 0 (b - a).toNat .none (List.range (b - a).toNat) ((List.range (b - a).toNat).map fun i => (b - a).toNat - i)) }, toks := tk } :=
    I1.kept fun c o e => Heap.get?_push_of_some _ (Heap.get?_push_of_some _ (hk c o e))
  have hz : (h'.push { cls := .type "tuple", data := .seq acc }).objs.size = h'.objs.size + 1 := Heap.size_push ..
  have hit : IsPm ((h'.push { cls := .type "tuple", data := .seq acc }).push { cls := .type "itertools.permutations", data := .fields (pmF h'.objs.size 0 (b - a).toNat .none (List.range (b - a).toNat) ((List.range (b - a).toNat).map fun i => (b - a).toNat - i)) }) (h'.push { cls := .type "tuple", data := .seq acc }).objs.size h'.objs.size 0 (b - a).toNat .none (List.range (b - a).toNat) ((List.range (b - a).toNat).map fun i => (b - a).toNat - i) := Heap.get?_push_size _ rfl
  have hp : ((h'.push { cls := .type "tuple", data := .seq acc }).push { cls := .type "itertools.permutations", data := .fields (pmF h'.objs.size 0 (b - a).toNat .none (List.range (b - a).toNat) ((List.range (b - a).toNat).map fun i => (b - a).toNat - i)) }).IsTuple h'.objs.size acc := ⟨_, Heap.get?_push_of_some _ (Heap.get?_push_size _ rfl), rfl, _, rfl⟩
  have hne : (h'.push { cls := .type "tuple", data := .seq acc }).objs.size ≠ h'.objs.size := by rw [hz]; exact Nat.succ_ne_self _
  obtain ⟨L0, L1⟩ := runS_at hL
  have hlen := run_all (I := fun p : List Nat × List Nat => p.1.length = (b - a).toNat ∧ p.2.length = (b - a).toNat) L0 L1 ⟨by simp [pmSt], by simp [pmSt]⟩ fun p q ip e => npStep_len (Nat.le_refl _) ip.1 ip.2 (show npStep _ _ p.1 p.2 = some (q.1, q.2) from e)
  have h0 : 0 < L.length := (List.getElem?_eq_some_iff.mp L0).1
  refine iter_pm hit ⟨_, [(h'.push { cls := .type "tuple", data := .seq acc }).objs.size, h'.objs.size], _, _, H1, rfl, I3, turn_pm (n := (b - a).toNat) (L := L) (vs := rgV a b) (items := acc) hne hi.1 hn h0 L1 hlen (vals_rg hi), ⟨0, .none, pmSt (b - a).toNat, hit, hp, .inl ⟨rfl, rfl, L0⟩⟩, fun c hcm => ?_, q⟩
  have e' : c = (h'.push { cls := .type "tuple", data := .seq acc }).objs.size ∨ c = h'.objs.size := by simpa using hcm
  have hle : h'.objs.size ≤ c := by
    rcases e' with z | z
    · rw [z, hz]; omega
    · rw [z]; exact Nat.le_refl _
  exact I2.fpOk hle (I2.hok.fresh hle)
/-- what a walk over combinations asks -/
def iCb (ta : TA) : L2.TI := fun σ H R => ta σ H fun vs H1 => ∃ p a b k L, vs = [.ref p, .int ((k : Nat) : Int)] ∧ H1 p = some (.rng a b) ∧ RgOk a b ∧ (b - a).toNat ≤ 1000 ∧ k ≤ 1000 ∧ combIx (b - a).toNat k = some L ∧ R (ItP (L.map fun p => pkV (rgV a b) p)) H1
theorem pi_cb {tg e e2 : Expr} {ta : TA} {p pos : Pos} (hc : X.calm = true) (hg : Gl X "combinations") (hm : X.mg "combinations" = some (.type "itertools.combinations")) (ha : PA X [e, e2] ta) (hs : starEach [e, e2] X.env = (false, eval e X.env) :: starEach [e2] X.env)
    (hpl : (backTo pos (starEach [e2] X.env)).any (·.1) = false) : PI X tg (.Call (.Name "combinations" p) [e, e2] [] pos) (iCb ta) := by
  refine ⟨fun pins s σ H R I h => ?_⟩
  refine Call_ (ld_glob I hg hm (PyProof.Rows.callWith_type1 (thn (ha.run pos pins s σ H _ I h) fun us s1 ⟨vs, H1, I1, r1, q1⟩ => ?_) hs hpl))
  obtain ⟨r, a, b, k, L, ex, hr, ok, hn, hk1, hL, q⟩ := q1
  subst ex
  obtain ⟨u, u2, rfl, ru, ru2⟩ := Vals.two r1
  cases ru
  obtain ⟨tk0, rfl⟩ := ru2
  obtain ⟨t, u, v, hR⟩ := I1.hok _ _ hr
  obtain ⟨b1, b2, b3, b4, b5⟩ := ok
  refine call_cb_range (n := (b - a).toNat) (I1.ok.hd hc) (show IsRange s1.heap r a b 1 t u v from hR) (small_one b1 b2 b3 b4) (rangeSize_nat a b) hn hk1 fun h' tk acc hk hi => ?_
  have I2 : Inv X pins σ H1 { s1 with heap := h', toks := tk } := I1.kept hk
  generalize hO : ({ cls := .type "itertools.combinations", data := .fields (cbF h'.objs.size (cbSt (b - a).toNat k) .none (List.range k)) } : Obj) = O
  have I3 : Inv X pins σ H1 { s1 with heap := (h'.push { cls := .type "tuple", data := .seq acc }).push O, toks := tk } :=
    I1.kept fun c o e => Heap.get?_push_of_some _ (Heap.get?_push_of_some _ (hk c o e))
  have hz : (h'.push { cls := .type "tuple", data := .seq acc }).objs.size = h'.objs.size + 1 := Heap.size_push ..
  have hit : IsCb ((h'.push { cls := .type "tuple", data := .seq acc }).push O) (h'.push { cls := .type "tuple", data := .seq acc }).objs.size h'.objs.size (cbSt (b - a).toNat k) .none (List.range k) := by rw [← hO]; exact Heap.get?_push_size _ rfl
  have hp : ((h'.push { cls := .type "tuple", data := .seq acc }).push O).IsTuple h'.objs.size acc := ⟨_, Heap.get?_push_of_some _ (Heap.get?_push_size _ rfl), rfl, _, rfl⟩
  have fp : ∀ c ∈ [(h'.push { cls := .type "tuple", data := .seq acc }).objs.size, h'.objs.size], FpOk X pins H1 c := fun c hcm => by
    have e' : c = (h'.push { cls := .type "tuple", data := .seq acc }).objs.size ∨ c = h'.objs.size := by simpa using hcm
    have hle : h'.objs.size ≤ c := by
      rcases e' with z | z
      · rw [z, hz]; omega
      · rw [z]; exact Nat.le_refl _
    exact I2.fpOk hle (I2.hok.fresh hle)
  unfold combIx at hL
  by_cases hnk : (b - a).toNat < k
  · rw [if_pos hnk] at hL
    cases hL
    have e2 : cbSt (b - a).toNat k = 2 := by unfold cbSt; rw [if_pos hnk]
    rw [e2] at hit
    exact iter_cb hit ⟨_, _, _, _, H1, rfl, I3, turn_cb0, ⟨.none, _, hit, _, Heap.get?_push_of_some _ (Heap.get?_push_size _ rfl), fun v q => by cases q⟩, fp, q⟩
  · rw [if_neg hnk] at hL
    have e2 : cbSt (b - a).toNat k = 0 := by unfold cbSt; rw [if_neg hnk]
    rw [e2] at hit
    have hne : (h'.push { cls := .type "tuple", data := .seq acc }).objs.size ≠ h'.objs.size := by rw [hz]; exact Nat.succ_ne_self _
    obtain ⟨L0, L1⟩ := runS_at hL
    have hlen := run_all (I := fun p : List Nat => p.length = k) L0 L1 (by simp) fun p q ip e => by rw [ncAt_len (Nat.le_refl _) e]; exact ip
    have h0 : 0 < L.length := (List.getElem?_eq_some_iff.mp L0).1
    exact iter_cb hit ⟨_, _, _, _, H1, rfl, I3, turn_cb (n := (b - a).toNat) (m := k) (L := L) (vs := rgV a b) (items := acc) hne hi.1 hk1 h0 L1 hlen (vals_rg hi), ⟨0, .none, List.range k, hit, hp, .inl ⟨rfl, rfl, L0⟩⟩, fp, q⟩
end
section
variable {T : List (Addr × Str)} {xt : XT} {X : Cx} {a b c e : Expr} {va vb vc : Rho → Res D} {p : Pos}
theorem rg_ok1 {n : Int} {ys : List D} (e : rngD [.int n] = some ys) : RgOk 0 n ∧ ys = (List.range (n - 0).toNat).map fun (k : Nat) => PyData.int (0 + (k : Int)) := by
  obtain ⟨c, ey⟩ := ite_some (show (if -1000000 ≤ n ∧ n ≤ 1000000 then some ((List.range n.toNat).map fun (k : Nat) => PyData.int (k : Int)) else Option.none) = some ys from e)
  refine ⟨⟨by omega, by omega, by omega, by omega, by omega⟩, ?_⟩
  rw [← ey, Int.sub_zero]
  simp only [Int.zero_add]
theorem rg_ok2 {m n : Int} {ys : List D} (e : rngD [.int m, .int n] = some ys) : RgOk m n ∧ ys = (List.range (n - m).toNat).map fun (k : Nat) => PyData.int (m + (k : Int)) := by
  obtain ⟨c, ey⟩ := ite_some (show (if -1000000 ≤ m ∧ m ≤ 1000000 ∧ -1000000 ≤ n ∧ n ≤ 1000000 then some ((List.range (n - m).toNat).map fun (k : Nat) => PyData.int (m + (k : Int))) else Option.none) = some ys from e)
  exact ⟨⟨by omega, by omega, by omega, by omega, by omega⟩, ey.symm⟩
theorem rng_int1 {x : D} {ys : List D} (e : rngD [x] = some ys) : ∃ n, x = .int n := by
  cases x <;> first | exact ⟨_, rfl⟩ | cases e
theorem rng_int2 {x y : D} {ys : List D} (e : rngD [x, y] = some ys) : ∃ m n, x = .int m ∧ y = .int n := by
  cases x <;> first | (cases e; done) | skip
  cases y <;> first | (cases e; done) | exact ⟨_, _, rfl, rfl⟩
theorem boot_rng : bootBuiltins "range" = some (.type "range") := by decide +kernel
theorem QX.opt_bind {α β γ δ : Type} {K : PySem.W.Frag} {B : Bk} {W : WX} {rel1 : Hp → Wn → Hp → β → α → Prop} {rel : Hp → Wn → Hp → δ → γ → Prop} {G : Hp} {w : Wn} {σ : L2.St} {H : Hp} {o : Option α} {r : Rho} {f : α → Rho → Res γ} {Q : δ → Hp → Prop} (h : QX K T xt B W rel G w σ H ((Rf.opt o r).bind f) Q) :
    ∃ a, o = some a ∧ QX K T xt B W rel G w σ H (f a r) Q := by
  cases o with
  | none => exact h.elim
  | some a => exact ⟨a, rfl, h⟩
/-- the walk over orders of the numbers a .. b - 1, from where the range stands -/
theorem pm_core {a0 b0 : Int} {H : Hp} {σ : L2.St} {B : Bk} {G : Hp} {w : Wn} {r r' : Rho} {W : WX} {R0 : It → Hp → Prop} {l : List D} {q : Addr} (R : RR X.K T B G w r σ H) (hq : H q = none) (ok : RgOk a0 b0)
    (ed : permL (some ((List.range (b0 - a0).toNat).map fun (k : Nat) => PyData.int (a0 + (k : Int)))) = some l) (z : QX X.K T xt B W (relI X.K T B) G w σ H (.ok l r) R0) :
    ∃ p a b L, [V.ref q] = [.ref p] ∧ (upd H q (.rng a0 b0)) p = some (.rng a b) ∧ RgOk a b ∧ (b - a).toNat ≤ 1000 ∧ runS (fun p : List Nat × List Nat => npStep (b - a).toNat (b - a).toNat p.1 p.2) 100000 (pmSt (b - a).toNat) = some L ∧ R0 (ItP (L.map fun p => pkV (rgV a b) p.1)) (upd H q (.rng a0 b0)) := by
  have em : (if ((List.range (b0 - a0).toNat).map fun (k : Nat) => PyData.int (a0 + (k : Int))).length ≤ 1000 then (permIx ((List.range (b0 - a0).toNat).map fun (k : Nat) => PyData.int (a0 + (k : Int))).length).map fun l => l.map (picks ((List.range (b0 - a0).toNat).map fun (k : Nat) => PyData.int (a0 + (k : Int)))) else Option.none) = some l := ed
  rw [List.length_map, List.length_range] at em
  by_cases hn : (b0 - a0).toNat ≤ 1000
  case neg => rw [if_neg hn] at em; cases em
  rw [if_pos hn] at em
  unfold permIx at em
  cases eL : runS (fun p : List Nat × List Nat => npStep (b0 - a0).toNat (b0 - a0).toNat p.1 p.2) 100000 (List.range (b0 - a0).toNat, (List.range (b0 - a0).toNat).map fun i => (b0 - a0).toNat - i) with
  | none => rw [eL] at em; cases em
  | some L =>
    rw [eL] at em
    have em2 : (L.map (·.1)).map (picks ((List.range (b0 - a0).toNat).map fun (k : Nat) => PyData.int (a0 + (k : Int)))) = l := Option.some.inj em
    refine ⟨q, a0, b0, L, rfl, upd_same, ok, hn, eL, ?_⟩
    have R1 : RR X.K T B G w r σ (upd H q (.rng a0 b0)) := R.off hq
    have S1 : Stp G w H G w (upd H q (.rng a0 b0)) := ⟨Sub.rfl' G, fun _ h => .inl h, fun x o h _ _ => Sub.new hq _ _ h, fun _ h => h.put (by intro ps z; cases z), fun _ _ h => h⟩
    refine z _ _ _ _ R1 S1 ?_
    have e3 : l = (L.map fun p => p.1.map fun i => ((List.range (b0 - a0).toNat).map fun (k : Nat) => PyData.int (a0 + (k : Int))).getD i .none).map PyData.tuple := by
      rw [← em2, List.map_map, List.map_map]
      rfl
    rw [e3]
    refine wk_rows (by rw [List.length_map, List.length_map]) fun i vs ds hv hd => ?_
    rw [List.getElem?_map] at hv hd
    cases eL2 : L[i]? with
    | none => rw [eL2] at hv; cases hv
    | some pp =>
      rw [eL2] at hv hd
      cases hv
      cases hd
      exact dq_pk (dq_rg a0 b0) _
theorem si_perm1 {tg : Expr} {pn pr p2 : Pos} (hc : X.calm = true) (hg : Gl X "permutations") (hm : X.mg "permutations" = some (.type "itertools.permutations")) (hg2 : Gl X "range") (hm2 : X.mg "range" = none) (ha : SE T xt X a va) (hs : noStar a = true) :
    SI T xt X tg (.Call (.Name "permutations" pn) [.Call (.Name "range" pr) [a] [] p2] [] p) fun r => (va r).bind fun x r1 => opt (permL (rngD [x])) r1 := by
  intro W tk
  obtain ⟨t, p1, q1⟩ := ha W tk
  have e0 := star_one a [] X.env hs
  have pr1 := pe_callTy (pos := p2) (p := pr) cr_range1 hg2 hm2 boot_rng (pa_cons p1 pa_nil e0) (by decide) (by decide) e0 rfl
  have e1 := star_one (.Call (.Name "range" pr) [a] [] p2) [] X.env rfl
  refine ⟨_, pi_pm hc hg hm (pa_cons pr1 pa_nil e1) e1, fun B G w r σ H R0 R z => q1 _ _ _ _ _ _ _ R (z.bind fun x r1 v G1 w1 H1 _ R1 S1 d1 z1 => ?_)⟩
  obtain ⟨ys, ed, z2⟩ := z1.opt
  have d1 : Dq X.K G1 v x := d1
  cases er : rngD [x] with
  | none => rw [er] at ed; cases ed
  | some rs =>
    rw [er] at ed
    obtain ⟨n, rfl⟩ := rng_int1 er
    obtain ⟨ok, rfl⟩ := rg_ok1 er
    cases d1
    exact ⟨n, rfl, fun q hq => pm_core (xt := xt) (W := W) (r' := r1) R1 hq ok ed z2⟩
theorem si_perm2 {tg : Expr} {pn pr p2 : Pos} (hc : X.calm = true) (hg : Gl X "permutations") (hm : X.mg "permutations" = some (.type "itertools.permutations")) (hg2 : Gl X "range") (hm2 : X.mg "range" = none) (ha : SE T xt X a va) (hb : SE T xt X b vb) (hs : noStar a = true) (hs2 : noStar b = true) :
    SI T xt X tg (.Call (.Name "permutations" pn) [.Call (.Name "range" pr) [a, b] [] p2] [] p) fun r => (va r).bind fun x r1 => (vb r1).bind fun y r2 => opt (permL (rngD [x, y])) r2 := by
  intro W tk
  obtain ⟨t, p1, q1⟩ := ha W tk
  obtain ⟨u, k1, q2⟩ := hb W tk
  have e0 := star_one a [b] X.env hs
  have e2 := star_one b [] X.env hs2
  have pr1 := pe_callTy (pos := p2) (p := pr) cr_range2' hg2 hm2 boot_rng (pa_cons p1 (pa_cons k1 pa_nil e2) e0) (by decide) (by decide) e0 (by rw [e2]; rfl)
  have e1 := star_one (.Call (.Name "range" pr) [a, b] [] p2) [] X.env rfl
  refine ⟨_, pi_pm hc hg hm (pa_cons pr1 pa_nil e1) e1, fun B G w r σ H R0 R z => q1 _ _ _ _ _ _ _ R (z.bind fun x r1 v G1 w1 H1 _ R1 S1 d1 z1 => ?_)⟩
  refine q2 _ _ _ _ _ _ _ R1 (z1.bind fun y r2 v2 G2 w2 H2 _ R2 S2 d2 z2 => ?_)
  obtain ⟨ys, ed, z3⟩ := z2.opt
  have d1 : Dq X.K G1 v x := d1
  have d2 : Dq X.K G2 v2 y := d2
  cases er : rngD [x, y] with
  | none => rw [er] at ed; cases ed
  | some rs =>
    rw [er] at ed
    obtain ⟨m, n, rfl, rfl⟩ := rng_int2 er
    obtain ⟨ok, rfl⟩ := rg_ok2 er
    cases d1
    cases d2
    exact ⟨m, n, rfl, fun q hq => pm_core (xt := xt) (W := W) (r' := r2) R2 hq ok ed z3⟩
theorem si_comb {tg : Expr} {pn pr p2 : Pos} (hc : X.calm = true) (hg : Gl X "combinations") (hm : X.mg "combinations" = some (.type "itertools.combinations")) (hg2 : Gl X "range") (hm2 : X.mg "range" = none) (ha : SE T xt X a va) (hb : SE T xt X b vb) (hs : noStar a = true) (hs2 : noStar b = true) :
    SI T xt X tg (.Call (.Name "combinations" pn) [.Call (.Name "range" pr) [a] [] p2, b] [] p) fun r => (va r).bind fun x r1 => (opt (rngD [x]) r1).bind fun xs r2 => (vb r2).bind fun y r3 => opt (combL xs y) r3 := by
  intro W tk
  obtain ⟨t, p1, q1⟩ := ha W tk
  obtain ⟨u, k1, q2⟩ := hb W tk
  have e0 := star_one a [] X.env hs
  have e2 := star_one b [] X.env hs2
  have pr1 := pe_callTy (pos := p2) (p := pr) cr_range1 hg2 hm2 boot_rng (pa_cons p1 pa_nil e0) (by decide) (by decide) e0 rfl
  have e1 := star_one (.Call (.Name "range" pr) [a] [] p2) [b] X.env rfl
  refine ⟨_, pi_cb hc hg hm (pa_cons pr1 (pa_cons k1 pa_nil e2) e1) e1 (by rw [e2]; rfl), fun B G w r σ H R0 R z => q1 _ _ _ _ _ _ _ R (z.bind fun x r1 v G1 w1 H1 _ R1 S1 d1 z1 => ?_)⟩
  have d1 : Dq X.K G1 v x := d1
  obtain ⟨rs, er, z2⟩ := (QX.opt_bind (rel1 := fun _ _ _ (_ : Unit) (_ : List D) => True) z1)
  obtain ⟨n, rfl⟩ := rng_int1 er
  obtain ⟨ok, rfl⟩ := rg_ok1 er
  cases d1
  refine ⟨n, rfl, fun q hq => ?_⟩
  have R1' : RR X.K T B G1 w1 r1 σ (upd H1 q (.rng 0 n)) := R1.off hq
  have S1' : Stp G1 w1 H1 G1 w1 (upd H1 q (.rng 0 n)) := ⟨Sub.rfl' G1, fun _ h => .inl h, fun x o h _ _ => Sub.new hq _ _ h, fun _ h => h.put (by intro ps z; cases z), fun _ _ h => h⟩
  refine q2 _ _ _ _ _ _ _ R1' ((z2.after S1').bind fun y r2 v2 G2 w2 H2 _ R2 S2 d2 z3 => ?_)
  obtain ⟨l, el, z4⟩ := z3.opt
  have d2 : Dq X.K G2 v2 y := d2
  have hq2 : H2 q = some (.rng 0 n) := S2.keep q _ upd_same (by intro ps z; cases z) fun i e => by
    obtain ⟨_, _, vs, h⟩ := R1.fre i q e
    rw [hq] at h
    cases h
  cases y <;> first | (cases el; done) | skip
  rename_i k _ d2
  have em : (if ((List.range (n - 0).toNat).map fun (k : Nat) => PyData.int (0 + (k : Int))).length ≤ 1000 ∧ 0 ≤ k ∧ k ≤ 1000 then (combIx ((List.range (n - 0).toNat).map fun (k : Nat) => PyData.int (0 + (k : Int))).length k.toNat).map fun l => l.map (picks ((List.range (n - 0).toNat).map fun (k : Nat) => PyData.int (0 + (k : Int)))) else Option.none) = some l := el
  rw [List.length_map, List.length_range] at em
  by_cases hn : (n - 0).toNat ≤ 1000 ∧ 0 ≤ k ∧ k ≤ 1000
  case neg => rw [if_neg hn] at em; cases em
  rw [if_pos hn] at em
  cases d2
  cases eL : combIx (n - 0).toNat k.toNat with
  | none => rw [eL] at em; cases em
  | some L =>
    rw [eL] at em
    have em2 : L.map (picks ((List.range (n - 0).toNat).map fun (k : Nat) => PyData.int (0 + (k : Int)))) = l := Option.some.inj em
    refine ⟨q, 0, n, k.toNat, L, by rw [Int.toNat_of_nonneg hn.2.1], hq2, ok, hn.1, by omega, eL, z4 _ _ _ _ R2 (Stp.refl _ _ _) ?_⟩
    have e3 : l = (L.map fun p => p.map fun i => ((List.range (n - 0).toNat).map fun (k : Nat) => PyData.int (0 + (k : Int))).getD i .none).map PyData.tuple := by
      rw [← em2, List.map_map]
      rfl
    rw [e3]
    refine wk_rows (by rw [List.length_map, List.length_map]) fun i vs ds hv hd => ?_
    rw [List.getElem?_map] at hv hd
    cases eL2 : L[i]? with
    | none => rw [eL2] at hv; cases hv
    | some pp =>
      rw [eL2] at hv hd
      cases hv
      cases hd
      exact dq_pk (dq_rg 0 n) _
end
end Rf
set_option Elab.async false
set_option linter.all false
set_option maxRecDepth 100000
set_option maxHeartbeats 2000000
namespace Rf
open PySem PySem.Spec PyProof.Rows L2 LamX
section
variable {T : List (Addr × Str)} {xt : XT} {X : Cx} {a b c e : Expr} {va vb vc : Rho → Res D} {p : Pos}
/-! ### a < b < c -/
theorem chain_run {o1 o2 : CmpOp} {g1 g2 : D → D → Option Bool} (h1 : CmS X (compareOp o1) g1) (h2 : CmS X (compareOp o2) g2) (ha : SE T xt X a va) (hb : SE T xt X b vb) (hc : SE T xt X c vc) (hm : lastMarks [o1, o2] [b, c] = false) :
    ∀ W : WX, Takes X W → ∃ t : TE, PE X (.Compare a [o1, o2] [b, c] p) t ∧ PT X (.Compare a [o1, o2] [b, c] p) (tTest t) ∧
    ∀ B G w r σ H (Q : VK), RR X.K T B G w r σ H → QX X.K T xt B W (fun _ _ _ (v : V) (k : Bool) => v = .bl k) G w σ H ((va r).bind fun x r1 => (vb r1).bind fun y r2 => (opt (g1 x y) r2).bind fun k r3 => if k then (vc r3).bind fun z r4 => opt (g2 y z) r4 else .ok false r3) Q → t σ H Q := by
  intro W tk
  obtain ⟨ta, pa, qa⟩ := ha W tk
  obtain ⟨tb, pb, qb⟩ := hb W tk
  obtain ⟨tc, pc, qc⟩ := hc W tk
  obtain ⟨r1, k1, k2⟩ := h1
  obtain ⟨r2, j1, j2⟩ := h2
  refine ⟨tChain r1 r2 ta tb tc, pe_chain k1 j1 pa pb pc hm, pt_chain k1 j1 pa pb pc hm, fun B G w r σ H Q R q => ?_⟩
  refine qa _ _ _ _ _ _ _ R (q.bind fun x r1 v G1 w1 H1 _ R1 S1 d1 q1 => ?_)
  refine qb _ _ _ _ _ _ _ R1 (q1.bind fun y r2 u G2 w2 H2 _ R2 S2 d2 q2 => ?_)
  obtain ⟨k, ek, q3⟩ := QX.opt_bind (rel1 := fun _ _ _ (_ : Unit) (_ : Bool) => True) q2
  have d1 : Dq X.K G1 v x := d1
  have d2 : Dq X.K G2 u y := d2
  refine k2 v u x y k H2 _ (dp_sub (S2.sub.tr R2.sub) d1) (dp_sub R2.sub d2) ek ⟨k, rfl, ?_⟩
  cases k with
  | false =>
    rw [if_neg (by decide)]
    exact q3 (.bl false) G2 w2 H2 R2 (Stp.refl _ _ _) rfl
  | true =>
    rw [if_pos rfl]
    replace q3 : QX X.K T xt B W (fun _ _ _ (v : V) (k : Bool) => v = .bl k) G2 w2 σ H2 ((vc _).bind fun z r4 => opt (g2 y z) r4) Q := q3
    refine qc _ _ _ _ _ _ _ R2 (q3.bind fun z r4 t G3 w3 H3 _ R3 S3 d3 q4 => ?_)
    obtain ⟨k', ek', q5⟩ := q4.opt
    have d3 : Dq X.K G3 t z := d3
    exact j2 u t y z k' H3 Q (dp_sub (S3.sub.tr R3.sub) d2) (dp_sub R3.sub d3) ek' (q5 (.bl k') G3 w3 H3 R3 (Stp.refl _ _ _) rfl)
def chF (g1 g2 : D → D → Option Bool) (va vb vc : Rho → Res D) (r : Rho) : Res Bool := (va r).bind fun x r1 => (vb r1).bind fun y r2 => (opt (g1 x y) r2).bind fun k r3 => if k then (vc r3).bind fun z r4 => opt (g2 y z) r4 else .ok false r3
theorem st_chain {o1 o2 : CmpOp} {g1 g2 : D → D → Option Bool} (h1 : CmS X (compareOp o1) g1) (h2 : CmS X (compareOp o2) g2) (ha : SE T xt X a va) (hb : SE T xt X b vb) (hc : SE T xt X c vc) (hm : lastMarks [o1, o2] [b, c] = false) : ST T xt X (.Compare a [o1, o2] [b, c] p) (chF g1 g2 va vb vc) := by
  intro W tk
  obtain ⟨t, p1, p2, q⟩ := chain_run (p := p) h1 h2 ha hb hc hm W tk
  refine ⟨_, p2, fun B G w r σ H Q R z => q B G w r σ H _ R ?_⟩
  show QX X.K T xt B W _ G w σ H (chF g1 g2 va vb vc r) _
  revert z
  generalize chF g1 g2 va vb vc r = y
  intro z
  cases y with
  | ok k r1 =>
    intro v G' w' H' R' S' e
    subst e
    exact ⟨k, rfl, z k G' w' H' R' S' rfl⟩
  | exc x d r1 => exact z
  | bad => exact z
theorem se_chain {o1 o2 : CmpOp} {g1 g2 : D → D → Option Bool} (h1 : CmS X (compareOp o1) g1) (h2 : CmS X (compareOp o2) g2) (ha : SE T xt X a va) (hb : SE T xt X b vb) (hc : SE T xt X c vc) (hm : lastMarks [o1, o2] [b, c] = false) : SE T xt X (.Compare a [o1, o2] [b, c] p) (toV (chF g1 g2 va vb vc)) := by
  intro W tk
  obtain ⟨t, p1, p2, q⟩ := chain_run (p := p) h1 h2 ha hb hc hm W tk
  refine ⟨_, p1, fun B G w r σ H Q R z => q B G w r σ H _ R ?_⟩
  show QX X.K T xt B W _ G w σ H (chF g1 g2 va vb vc r) _
  unfold toV at z
  revert z
  generalize chF g1 g2 va vb vc r = y
  intro z
  cases y with
  | ok k r1 =>
    intro v G' w' H' R' S' e
    subst e
    exact z (.bl k) G' w' H' R' S' (.bl k)
  | exc x d r1 => exact z
  | bad => exact z
/-! ### gcd, lcm -/
def rG2 (l : Bool) : List V → Hp → VK → Prop := fun vs H Q => ∃ i j, vs = [V.int i, V.int j] ∧ Q (.int (if l then ((i.natAbs.lcm j.natAbs : Nat) : Int) else ((i.natAbs.gcd j.natAbs : Nat) : Int))) H
theorem se_g2 {x : Str} {id : String} {l : Bool} {pn : Pos} (hr : CallR X (.builtin id) (rG2 l)) (hg : Gl X x) (hd : (x == ("__debug__" : Str)) = false) (hm : X.mg x = some (.builtin id)) (ha : SE T xt X a va) (hb : SE T xt X b vb) (hs : noStar a = true) (hs2 : noStar b = true) :
    SE T xt X (.Call (.Name x pn) [a, b] [] p) fun r => (va r).bind fun x r1 => (vb r1).bind fun y r2 => opt (g2D l x y) r2 := by
  intro W tk
  obtain ⟨t, p1, q1⟩ := ha W tk
  obtain ⟨u, k1, q2⟩ := hb W tk
  have e0 := star_one a [b] X.env hs
  have e2 := star_one b [] X.env hs2
  refine ⟨_, pe_callBfun hr hg hm (pa_cons p1 (pa_cons k1 pa_nil e2) e0) hd e0 (by rw [e2]; rfl), fun B G w r σ H Q R z => q1 _ _ _ _ _ _ _ R (z.bind fun x r1 v G1 w1 H1 _ R1 S1 d1 z1 => ?_)⟩
  refine q2 _ _ _ _ _ _ _ R1 (z1.bind fun y r2 v2 G2 w2 H2 _ R2 S2 d2 z2 => ?_)
  obtain ⟨d, ed, z3⟩ := z2.opt
  have d1 : Dq X.K G1 v x := d1
  have d2 : Dq X.K G2 v2 y := d2
  cases x <;> first | (cases ed; done) | skip
  cases y <;> first | (cases ed; done) | skip
  cases ed
  cases d1
  cases d2
  exact ⟨_, _, rfl, z3 _ _ _ _ R2 (Stp.refl _ _ _) (.int _)⟩
theorem cr_g2gcd : CallR X (.builtin "math.gcd") (rG2 false) := by
  intro pins s σ H vs us Q I r h
  obtain ⟨a, b, rfl, q⟩ := h
  obtain ⟨t, u, rfl⟩ := Vals.int2 r
  exact PySem.W.mg_gcd fun _ => ⟨.int _, H, I.tok _, ⟨_, rfl⟩, q⟩
/-! ### list(range(..)), tuple(range(..)) -/
def tTupRgD (te : L2.St → Hp → (Int → Int → Hp → Prop) → Prop) : TE := fun σ H Q => te σ H fun a b H1 => RgOk a b ∧ ∀ q its, H1 q = none → Q (.ref q) (upd H1 q (tpO its (rgV a b)))
theorem pe_tupRgD {e : Expr} {te : L2.St → Hp → (Int → Int → Hp → Prop) → Prop} {p pos : Pos} (hc : X.calm = true) (hg : Gl X "tuple") (hm : X.mg "tuple" = none) (he : PRg X e te) (na : starEach [e] X.env = (false, eval e X.env) :: starEach [] X.env) : PE X (.Call (.Name "tuple" p) [e] [] pos) (tTupRgD te) := by
  refine ⟨fun pins s σ H Q I h => ?_⟩
  refine Call_ (ld_blt I hg hm boot_tuple (PyProof.Rows.callWith_type1 (args_cons (thn (he pins s σ H _ I h) fun x s1 ⟨r, a, b, t, u, v, H1, ex, hr, I1, ok, q⟩ => args_nil ?_) na) na))
  subst ex
  obtain ⟨b1, b2, b3, b4, b5⟩ := ok
  refine call_tuple_range (n := (b - a).toNat) (I1.ok.hd hc) hr (small_one b1 b2 b3 b4) (rangeSize_nat a b) b5 fun h' tk acc hk hi => ?_
  have I2 : Inv X pins σ H1 { s1 with heap := h', toks := tk } := I1.kept hk
  refine ⟨.ref h'.objs.size, upd H1 h'.objs.size (tpO acc.toList (rgV a b)), I2.laid (t' := tk) (fun c o e => Heap.get?_push_of_some _ e) (Nat.le_refl _) (ok_tp ?_ ?_ (vals_rg hi)), rfl, q _ _ (I2.hok.fresh (Nat.le_refl _))⟩
  · rw [Array.toArray_toList]; exact Heap.get?_push_size _ rfl
  · rw [rgV_length, sizeLine_eq]; omega
theorem lr_core {a0 b0 : Int} {H : Hp} {σ : L2.St} {B : Bk} {G : Hp} {w : Wn} {r r' : Rho} {W : WX} {Q : VK} {t : Bool} {d : D} {ys : List D} (R : RR X.K T B G w r σ H) (ok : RgOk a0 b0) (ey : ys = (List.range (b0 - a0).toNat).map fun (k : Nat) => PyData.int (a0 + (k : Int))) (ed : rngLD t (some ys) = some d)
    (z : ∀ b G' w' H', RR X.K T B G' w' r σ H' → Stp G w H G' w' H' → relV X.K G' w' H' b d → Q b H') :
    (t = false → ∀ q, H q = none → Q (.ref q) (upd H q (.lst (rgV a0 b0)))) ∧ (t = true → ∀ q its, H q = none → Q (.ref q) (upd H q (tpO its (rgV a0 b0)))) := by
  subst ey
  refine ⟨fun e => ?_, fun e => ?_⟩
  · subst e
    cases ed
    exact fun q hq => z _ _ _ _ (R.new hq) (Stp.new R.sub hq) (.lst upd_same (dq_rg a0 b0))
  · subst e
    cases ed
    exact fun q its hq => z _ _ _ _ (R.new hq) (Stp.new R.sub hq) (.tup SqD.new (dq_rg a0 b0))
theorem se_lrng1 {t : Bool} {x : Str} {pn pr p2 : Pos} (hc : X.calm = true) (hx : x = if t then ("tuple" : Str) else "list") (hg : Gl X x) (hm : X.mg x = none) (hg2 : Gl X "range") (hm2 : X.mg "range" = none) (ha : SE T xt X a va) (hs : noStar a = true) :
    SE T xt X (.Call (.Name x pn) [.Call (.Name "range" pr) [a] [] p2] [] p) fun r => (va r).bind fun x r1 => opt (rngLD t (rngD [x])) r1 := by
  intro W tk
  obtain ⟨ta, p1, q1⟩ := ha W tk
  have e0 := star_one a [] X.env hs
  have e1 := star_one (.Call (.Name "range" pr) [a] [] p2) [] X.env rfl
  have core : ∀ B G w r σ H (Q : VK) (P : Int → Int → Hp → Prop), RR X.K T B G w r σ H → QX X.K T xt B W (relV X.K) G w σ H ((va r).bind fun x r1 => opt (rngLD t (rngD [x])) r1) Q →
      (∀ a b H1, RgOk a b → (t = false → ∀ q, H1 q = none → Q (.ref q) (upd H1 q (.lst (rgV a b)))) → (t = true → ∀ q its, H1 q = none → Q (.ref q) (upd H1 q (tpO its (rgV a b)))) → P a b H1) → tRg1 ta σ H P := by
    intro B G w r σ H Q P R z k
    refine q1 _ _ _ _ _ _ _ R (z.bind fun x r1 v G1 w1 H1 _ R1 S1 d1 z1 => ?_)
    obtain ⟨d, ed, z2⟩ := z1.opt
    have d1 : Dq X.K G1 v x := d1
    cases er : rngD [x] with
    | none => rw [er] at ed; cases ed
    | some rs =>
      rw [er] at ed
      obtain ⟨n, rfl⟩ := rng_int1 er
      obtain ⟨ok, ey⟩ := rg_ok1 er
      cases d1
      obtain ⟨l1, l2⟩ := lr_core (W := W) (r' := r1) R1 ok ey ed z2
      exact ⟨n, rfl, k _ _ _ ok l1 l2⟩
  cases t with
  | false =>
    subst hx
    exact ⟨_, pe_listRg hc hg hm (prg_1 hg2 hm2 p1 e0) e1, fun B G w r σ H Q R z => core B G w r σ H Q _ R z fun a b H1 k1 k2 _ => ⟨k1, k2 rfl⟩⟩
  | true =>
    subst hx
    exact ⟨_, pe_tupRgD hc hg hm (prg_1 hg2 hm2 p1 e0) e1, fun B G w r σ H Q R z => core B G w r σ H Q _ R z fun a b H1 k1 _ k2 => ⟨k1, k2 rfl⟩⟩
/-! ### sorted -/
theorem vals_each : ∀ {vs : List V} {us : List Value} {ds : List D}, Vals vs us → vs.length = ds.length → PySem.W.EachIs (fun (u : Value) (p : V × D) => RelV p.1 u) us (vs.zip ds)
  | _, _, [], .nil, _ => .nil
  | _, _, _ :: _, .nil, h => by cases h
  | _, _, [], .cons _ _, h => by cases h
  | _, _, _ :: _, .cons r t, h => .cons r (vals_each t (by simpa using h))
theorem reads_each {h : Heap} : ∀ {vs : List V} {us : List Value} {ds : List D} {as : List Addr}, vs.length = ds.length → ReadsAll h us ds as → PySem.W.EachIs (fun (u : Value) (p : V × D) => ∃ bs, Reads h u p.2 bs) us (vs.zip ds)
  | [], _, [], _, _, .nil => .nil
  | _ :: _, _, _ :: _, _, hl, .cons r rs => .cons ⟨_, r⟩ (reads_each (by simpa using hl) rs)
  | [], _, _ :: _, _, hl, _ => by cases hl
  | _ :: _, _, [], _, hl, _ => by cases hl
theorem each_vals : ∀ {us : List Value} {ps : List (V × D)}, PySem.W.EachIs (fun (u : Value) (p : V × D) => RelV p.1 u) us ps → Vals (ps.map (·.1)) us
  | _, _, .nil => .nil
  | _, _, .cons r t => .cons r (each_vals t)
theorem dq_zip {K : PySem.W.Frag} {G : Hp} : ∀ {vs : List V} {ds : List D}, DqAll K G vs ds → ∀ p ∈ vs.zip ds, Dq K G p.1 p.2
  | _, _, .nil, p, h => by cases h
  | _, _, .cons a r, p, h => by
    rw [List.zip_cons_cons] at h
    rcases List.mem_cons.mp h with rfl | h
    · exact a
    · exact dq_zip r p h
theorem dq_of_zip {K : PySem.W.Frag} {G : Hp} : ∀ {ps : List (V × D)}, (∀ p ∈ ps, Dq K G p.1 p.2) → DqAll K G (ps.map (·.1)) (ps.map (·.2))
  | [], _ => .nil
  | p :: ps, h => .cons (h p List.mem_cons_self) (dq_of_zip fun q hq => h q (List.mem_cons_of_mem _ hq))
theorem zip_snd {α β : Type} : ∀ {as : List α} {bs : List β}, as.length = bs.length → (as.zip bs).map (·.2) = bs
  | [], [], _ => rfl
  | [], _ :: _, h => by cases h
  | _ :: _, [], h => by cases h
  | a :: as, b :: bs, h => by rw [List.zip_cons_cons, List.map_cons, zip_snd (by simpa using h)]
def rSortD (K : PySem.W.Frag) : List V → Hp → VK → Prop := fun vs H Q => ∃ (a : Addr) (xs : List V) (ds : List D), vs = [V.ref a] ∧ SqL K H a xs ∧ DqAll K H xs ds ∧ PySem.W.AllAlike ds ∧ PySem.W.Sortable ds ∧ PyData.canLayAll0 ds = true ∧ PyData.depthAll ds ≤ 63 ∧
  ∀ q, H q = none → Q (.ref q) (upd H q (.lst (((xs.zip ds).mergeSort (PySem.W.dataLe false Prod.snd)).map (·.1))))
theorem depth_mem : ∀ {ds : List D} {d : D}, d ∈ ds → d.depth ≤ PyData.depthAll ds
  | d0 :: ds, d, h => by
    have e : PyData.depthAll (d0 :: ds) = max d0.depth (PyData.depthAll ds) := by simp [PyData.depthAll]
    rw [e]
    rcases List.mem_cons.mp h with rfl | h
    · exact Nat.le_max_left _ _
    · exact Nat.le_trans (depth_mem h) (Nat.le_max_right _ _)
theorem cr_sorted (hc : X.calm = true) (hu : X.A.units + 65 < cLine) : CallR X (.builtin "sorted") (rSortD X.K) := by
  intro pins s σ H vs us Q I rr h
  obtain ⟨a, xs, ds, rfl, hs, hd, hal, hk, hl, hz, q⟩ := h
  rw [Vals.ref1 rr]
  obtain ⟨its, rv, hL, hlen⟩ := I.list hs
  have hxl : xs.length = ds.length := dps_len hd
  obtain ⟨as, hR⟩ := Dp.readsAll I ds xs its (dqs_dp hd hl) rv
  have hsn := zip_snd hxl
  have hsn2 : (xs.zip ds).map Prod.snd = ds := hsn
  have hbl : (xs.zip ds).length = xs.length := by rw [List.length_zip, ← hxl, Nat.min_self]
  refine PySem.W.sorted_data (vs := its) (bs := xs.zip ds) (R := fun (u : Value) (p : V × D) => RelV p.1 u) (enc := Prod.snd) hL.isList (vals_each rv hxl) (reads_each hxl hR) (by rw [hsn2]; exact hal) (by rw [hsn2]; exact hk) (by rw [hbl]; exact hlen) (fun b hb => ?_) fun out ho he => ?_
  · have hb2 : b.2 ∈ ds := by rw [← hsn2]; exact List.mem_map_of_mem hb
    have := depth_mem hb2
    omega
  · have hr : Vals (((xs.zip ds).mergeSort (PySem.W.dataLe false Prod.snd)).map (·.1)) out := each_vals he
    have hz2 : (((xs.zip ds).mergeSort (PySem.W.dataLe false Prod.snd)).map (·.1)).length ≤ sizeLine := by
      rw [List.length_map, List.length_mergeSort, hbl]; exact hlen
    obtain ⟨n, hn⟩ := sortedAll_at s.heap its out.toArray
    refine ⟨.ref (s.heap.objs.size + 1), _, I.laid (t' := s.toks) (o := .lst (((xs.zip ds).mergeSort (PySem.W.dataLe false Prod.snd)).map (·.1))) (fun b o e => sortedAll_old e) (Nat.le_succ _) ⟨hz2, out, n, hr, ?_⟩, rfl, q _ (I.hok.fresh (Nat.le_succ _))⟩
    simpa [seqObj] using hn
theorem ca_sorted (hc : X.calm = true) (hu : X.A.units + 65 < cLine) : CaS T X (.builtin "sorted") (biD .sorted) := by
  refine ⟨_, cr_sorted hc hu, fun v d z B G w ρ σ H Q R hd e q => ?_⟩
  cases d <;> first | (cases e; done) | skip
  rename_i ds
  obtain ⟨la, vs, rfl, h1, h2⟩ := hd.list R.sub
  have hvl := dps_len h2
  have key : ∀ zs : List D, PySem.W.AllAlike ds → PySem.W.Sortable ds → PyData.canLayAll0 ds = true → PyData.depthAll ds ≤ 63 → zs = ds.mergeSort (PySem.W.dataLe false id) → z = .list zs → rSortD X.K [.ref la] H Q := by
    intro zs k1 k2 k3 k4 ez e2
    refine ⟨la, vs, ds, rfl, .inl (.inl h1), dps_sub R.sub h2, k1, k2, k3, k4, fun p hp => q _ _ _ (R.new hp) (Stp.new R.sub hp) ?_⟩
    rw [e2]
    have hm : (((vs.zip ds).mergeSort (PySem.W.dataLe false Prod.snd)).map (·.2)) = zs := by
      have hh := List.map_mergeSort (l := vs.zip ds) (r := PySem.W.dataLe false Prod.snd) (s := PySem.W.dataLe false id) (f := fun p : V × D => p.2) fun a _ b _ => rfl
      rw [ez, hh, zip_snd hvl]
    rw [← hm]
    exact .lst upd_same (dps_sub (Sub.new (R.gnone hp)) (dq_of_zip fun p hp2 => dq_zip h2 p ((List.mem_mergeSort).mp hp2)))
  have e : sortD ds = some z := e
  unfold sortD at e
  cases ei : intsD ds with
  | some ns =>
    rw [ei] at e
    have em := intsD_map ei
    have e2 : PyData.list ((ns.mergeSort fun a b => decide (a ≤ b)).map .int) = z := Option.some.inj e
    refine key _ (by rw [em]; exact fun d hd d' hd' => (alike_ints ns).1 d hd d' hd') (.inr fun d hd => ?_) (by rw [em]; exact lay_ints _) (by rw [em, depth_ints]; exact Nat.zero_le _) ?_ e2.symm
    · rw [em] at hd
      obtain ⟨n, _, rfl⟩ := List.mem_map.mp hd
      exact ⟨nofun, fun xs => nofun⟩
    · rw [em, ← List.map_mergeSort (r := fun a b => decide (a ≤ b)) (s := PySem.W.dataLe false id)]
      intro a _ b _
      have := congrFun (congrFun (PySem.W.dataLe_int (β := Int) id) a) b
      exact this.symm
  | none =>
    rw [ei] at e
    obtain ⟨cc, ez⟩ := ite_some (show (if (allAlike ds && SeqAt.shaped (.list ds) && sortable ds) = true then some (PyData.list (ds.mergeSort (PySem.W.dataLe false id))) else Option.none) = some z from e)
    rw [Bool.and_eq_true, Bool.and_eq_true] at cc
    obtain ⟨⟨c1, c2⟩, c3⟩ := cc
    obtain ⟨l1, l2⟩ := shaped_list c2
    have ha := allAlike_of c1
    refine key _ ha.1 ?_ l1 l2 rfl ez.symm
    unfold sortable at c3
    rw [Bool.or_eq_true, List.all_eq_true, List.all_eq_true] at c3
    rcases c3 with c3 | c3
    · refine .inl fun d hd => ?_
      have := c3 d hd
      cases d <;> first | (cases this; done) | skip
      rename_i l
      cases l with
      | nil => cases this
      | cons x r => exact ⟨x, r, rfl⟩
    · refine .inr fun d hd => ?_
      have := c3 d hd
      cases d <;> first | (cases this; done) | exact ⟨nofun, fun xs => nofun⟩
end
end Rf
set_option Elab.async false
set_option linter.all false
set_option maxRecDepth 100000
set_option maxHeartbeats 4000000
/-! the check that a compact text is the model's -/
namespace Rf
open PySem PySem.Spec PyProof.Rows L2 LamX
structure Gm where
  sc : Scope
  N : List Str
  fn : Str → Bool
  tab : List (Str × Nat × Option Nat)
  cs : List (Str × D)
  lam : Bool
  gen : Bool
  nx : Nat
def isGl (Γ : Gm) (x : Str) : Bool := decide (Γ.sc.names.lookup x = some .globalImplicit) && !(x == ("__debug__" : Str))
def isVis (Γ : Gm) (i : Nat) (x : Str) : Bool := decide (Γ.N[i]? = some x) && (match Γ.sc.names.lookup x with
  | some .local => true
  | some .cell => true
  | some .free => true
  | _ => false) && !(x == ("__debug__" : Str)) && !(x == ("__classdict__" : Str))
def isLoc (Γ : Gm) (i : Nat) (x : Str) : Bool := decide (Γ.N[i]? = some x) && (match Γ.sc.names.lookup x with
  | some .local => true
  | some .cell => Γ.fn x
  | _ => false)
def blNames : List Str := ["range", "len", "abs", "sum", "any", "all", "max", "min", "isinstance", "int", "bool", "str", "list", "tuple", "set", "zip", "enumerate", "sorted"]
/-- names of the libraries, by number -/
def itD (k : Nat) : D := .dict [(.int (k : Int), .bool true)]
def itV : Nat → Value
  | 0 => .type "itertools.permutations"
  | 1 => .type "itertools.combinations"
  | 2 => .builtin "math.gcd"
  | _ => .builtin "math.lcm"
def isItD (k : Nat) : D → Bool
  | .dict [(.int j, .bool true)] => decide (j = (k : Int))
  | _ => false
theorem isItD_of {k : Nat} {d : D} (h : isItD k d = true) : d = itD k := by
  unfold isItD at h
  split at h
  · rw [of_decide_eq_true h]; rfl
  · cases h
theorem it_noDq {K : PySem.W.Frag} {G : Hp} {v : V} {k : Nat} (h : Dq K G v (itD k)) : False := by
  generalize e : itD k = d at h
  cases h <;> first | (cases e; done) | skip
  rename_i ns _
  unfold itD scrD at e
  cases ns with
  | nil => cases e
  | cons n r => injection e with e1; injection e1 with e2 e3; injection e2 with e4 e5; cases e5
theorem it_inj {j k : Nat} (h : itD j = itD k) : j = k := by
  unfold itD at h
  injection h with h1
  injection h1 with h2 h3
  injection h2 with h4 h5
  injection h4 with h6
  exact Int.ofNat.inj h6
/-- what is known of the defs and names about -/
structure Wd (T : List (Addr × Str)) (xt : XT) (tab : List (Str × Nat × Option Nat)) (cs : List (Str × D)) (F : Nat → Fn) (n : Nat) (P : Program) (w : World) (K : PySem.W.Frag) (mg : Str → Option Value) (base : Heap) : Prop where
  fns : ∀ (i : Nat) (x : Str) (k : Nat) (j : Option Nat), tab[i]? = some (x, k, j) → x ≠ "" → FnS T xt P w K mg base n x (F i) k j
  exs : ∀ (e : Nat) (x : Str), exNames[e]? = some x → e < xt.length → ∃ lv, lv + 1 ≤ n ∧ ExS T xt P w K mg base lv e x (F 2)
  bl : ∀ x ∈ blNames, mg x = none
  cs : ∀ p ∈ cs, (∃ v u, mg p.1 = some u ∧ RelV v u ∧ ∀ G, Dq K G v p.2) ∨ ∃ k, p.2 = itD k ∧ mg p.1 = some (itV k)
structure Con (T : List (Addr × Str)) (xt : XT) (Γ : Gm) (F : Nat → Fn) (n : Nat) (X : Cx) : Prop where
  sc : X.env.scope = Γ.sc
  N : X.N = Γ.N
  nd : Γ.N.Nodup
  fn : ∀ x, Γ.fn x = true → X.fn x = true
  calm : X.calm = true
  nx : Γ.nx ≤ xt.length
  room : Room n X.A
  wd : Wd T xt Γ.tab Γ.cs F n X.prog X.w X.K X.mg X.base
  lam : Γ.lam = true → ∃ c Pt, X.env.code = .ref c ∧ LamX.TabB X.base X.mg c Pt ∧ (Pt, X.env.qual ++ "<lambda>") ∈ T ∧ (∀ p ∈ T, p.1 = Pt → p.2 = X.env.qual ++ "<lambda>") ∧ ToldS xt X.prog X.w X.K X.mg X.base "_law_told" exNames ∧ 2 ≤ n ∧ Wd T xt Γ.tab Γ.cs (fun i => F (i + 1000)) (n - 2) X.prog X.w X.K X.mg X.base
  gen : Γ.gen = true → ∃ c Pt f, X.env.code = .ref c ∧ LamX.TabB X.base X.mg c Pt ∧ (Pt, X.env.qual ++ "<genexpr>") ∈ T ∧ (∀ p ∈ T, p.1 = Pt → p.2 = X.env.qual ++ "<genexpr>") ∧ IntFn X.K X.mg f ∧ X.mg "is_integer" = some (.ref f) ∧ PySem.W.keepIn X.K (.ref f) = true
section
variable {T : List (Addr × Str)} {xt : XT} {Γ : Gm} {F : Nat → Fn} {n : Nat} {X : Cx}
theorem Con.gl (C : Con T xt Γ F n X) {x : Str} (h : isGl Γ x = true) : Gl X x ∧ (x == ("__debug__" : Str)) = false := by
  unfold isGl at h
  simp only [Bool.and_eq_true, decide_eq_true_eq, Bool.not_eq_true'] at h
  refine ⟨?_, h.2⟩
  show X.env.scope.names.lookup x = _
  rw [C.sc]; exact h.1
theorem Con.vis (C : Con T xt Γ F n X) {i : Nat} {x : Str} (h : isVis Γ i x = true) : X.N[i]? = some x ∧ Vis X.env.scope x ∧ (x == ("__debug__" : Str)) = false ∧ (x == ("__classdict__" : Str)) = false := by
  unfold isVis at h
  simp only [Bool.and_eq_true, decide_eq_true_eq, Bool.not_eq_true'] at h
  obtain ⟨⟨⟨h1, h2⟩, h3⟩, h4⟩ := h
  refine ⟨by rw [C.N]; exact h1, ?_, h3, h4⟩
  rw [C.sc]
  split at h2
  · exact .inl (by assumption)
  · exact .inr (.inl (by assumption))
  · exact .inr (.inr (by assumption))
  · cases h2
theorem Con.loc (C : Con T xt Γ F n X) {i : Nat} {x : Str} (h : isLoc Γ i x = true) : X.N[i]? = some x ∧ Loc X.env.scope x ∧ (X.fn x = true ∨ X.env.scope.names.lookup x = some .local) := by
  unfold isLoc at h
  simp only [Bool.and_eq_true, decide_eq_true_eq] at h
  obtain ⟨h1, h2⟩ := h
  refine ⟨by rw [C.N]; exact h1, ?_⟩
  rw [C.sc]
  split at h2
  · rename_i e; exact ⟨.inl e, .inr e⟩
  · rename_i e; exact ⟨.inr e, .inl (C.fn x h2)⟩
  · cases h2
/-- a library's name -/
theorem Con.itn (C : Con T xt Γ F n X) {x : Str} {k : Nat} (h : (Γ.cs.any fun p => decide (p.1 = x) && isItD k p.2) = true) : X.mg x = some (itV k) := by
  obtain ⟨q, hq, h3⟩ := List.any_eq_true.mp h
  rw [Bool.and_eq_true] at h3
  have e1 := of_decide_eq_true h3.1
  have e2 := isItD_of h3.2
  rcases C.wd.cs q hq with ⟨v, u, c1, c2, c3⟩ | ⟨j, c1, c2⟩
  · exact (it_noDq (e2 ▸ c3 (fun _ => none))).elim
  · rw [← e1]
    rw [e2] at c1
    rw [it_inj c1]
    exact c2
/-- targets -/
def ckTs (Γ : Gm) : List Nat → List Expr → Bool
  | [], [] => true
  | i :: is, .Name x _ :: es => isLoc Γ i x && ckTs Γ is es
  | _, _ => false
def ckQ (Γ : Gm) : Tq → Expr → Bool
  | .nm i, .Name x _ => isLoc Γ i x
  | .tp is, .Tuple es _ _ => ckTs Γ is es
  | _, _ => false
def ckQs (Γ : Gm) : List Tq → List Expr → Bool
  | [], [] => true
  | q :: qs, e :: es => ckQ Γ q e && ckQs Γ qs es
  | _, _ => false
def ckT (Γ : Gm) : Tg → Expr → Bool
  | .nm i, .Name x _ => isLoc Γ i x
  | .tp is, .Tuple es _ _ => ckTs Γ is es
  | .tt qs, .Tuple es _ _ => ckQs Γ qs es
  | _, _ => false
theorem ckTs_get : ∀ (is : List Nat) (es : List Expr), ckTs Γ is es = true → es.length = is.length ∧ ∀ (k i : Nat) (e : Expr), is[k]? = some i → es[k]? = some e → ∃ x p, e = .Name x p ∧ isLoc Γ i x = true
  | [], [], _ => ⟨rfl, fun k i e h => by simp at h⟩
  | [], e :: es, h => by cases h
  | i :: is, [], h => by cases h
  | i :: is, e :: es, h => by
    cases e <;> first | (cases h; done) | skip
    rename_i x p
    have h : (isLoc Γ i x && ckTs Γ is es) = true := h
    rw [Bool.and_eq_true] at h
    obtain ⟨l, g⟩ := ckTs_get is es h.2
    refine ⟨by rw [List.length_cons, List.length_cons, l], fun k j e h1 h2 => ?_⟩
    cases k with
    | zero => cases h1; cases h2; exact ⟨x, p, rfl, h.1⟩
    | succ k => exact g k j e h1 h2
theorem ckQ_ok (C : Con T xt Γ F n X) {t : Tq} {e : Expr} (h : ckQ Γ t e = true) : PG X e (gQ X.K t) ∧ ∀ es' : List Expr, assignEach (e :: es') X.env = (false, assign e X.env) :: assignEach es' X.env := by
  have nd : X.N.Nodup := by rw [C.N]; exact C.nd
  cases t with
  | nm i =>
    cases e <;> first | (cases h; done) | skip
    obtain ⟨h1, h2, h3⟩ := C.loc h
    exact ⟨pg_name nd h1 h2 h3, fun _ => rfl⟩
  | tp is =>
    cases e <;> first | (cases h; done) | skip
    obtain ⟨l, g⟩ := ckTs_get is _ h
    obtain ⟨p1, p2, p3⟩ := pg_is nd is _ l fun k i e h1 h2 => by
      obtain ⟨x, p, e1, e2⟩ := g k i e h1 h2
      obtain ⟨a, b, c⟩ := C.loc e2
      exact ⟨x, p, e1, a, b, c⟩
    exact ⟨pg_tup C.calm p1 p2 p3, fun _ => rfl⟩
theorem ckQs_get : ∀ (qs : List Tq) (es : List Expr), ckQs Γ qs es = true → es.length = qs.length ∧ ∀ (k : Nat) (q : Tq) (e : Expr), qs[k]? = some q → es[k]? = some e → ckQ Γ q e = true
  | [], [], _ => ⟨rfl, fun k i e h => by simp at h⟩
  | [], e :: es, h => by cases h
  | i :: is, [], h => by cases h
  | i :: is, e :: es, h => by
    have h : (ckQ Γ i e && ckQs Γ is es) = true := h
    rw [Bool.and_eq_true] at h
    obtain ⟨l, g⟩ := ckQs_get is es h.2
    refine ⟨by rw [List.length_cons, List.length_cons, l], fun k j e h1 h2 => ?_⟩
    cases k with
    | zero => cases h1; cases h2; exact h.1
    | succ k => exact g k j e h1 h2
theorem ckT_ok (C : Con T xt Γ F n X) {t : Tg} {e : Expr} (h : ckT Γ t e = true) : PG X e (gOf X.K t) := by
  have nd : X.N.Nodup := by rw [C.N]; exact C.nd
  cases t with
  | nm i =>
    cases e <;> first | (cases h; done) | skip
    obtain ⟨h1, h2, h3⟩ := C.loc h
    exact pg_name nd h1 h2 h3
  | tp is =>
    cases e <;> first | (cases h; done) | skip
    obtain ⟨l, g⟩ := ckTs_get is _ h
    obtain ⟨p1, p2, p3⟩ := pg_is nd is _ l fun k i e h1 h2 => by
      obtain ⟨x, p, e1, e2⟩ := g k i e h1 h2
      obtain ⟨a, b, c⟩ := C.loc e2
      exact ⟨x, p, e1, a, b, c⟩
    exact pg_tup C.calm p1 p2 p3
  | tt qs =>
    cases e <;> first | (cases h; done) | skip
    obtain ⟨l, g⟩ := ckQs_get qs _ h
    obtain ⟨p1, p2, p3⟩ := pg_qs (X := X) qs _ l fun k q e h1 h2 => ckQ_ok C (g k q e h1 h2)
    exact pg_tup C.calm p1 p2 p3
theorem fold_no {e : Expr} {env : Env} (h : (match e with | .Set _ _ _ => false | _ => true) = true) : ∀ x, foldedSetIterable e env x = pure x := by
  intro x
  cases e <;> first | rfl | cases h
end
end Rf
set_option Elab.async false
set_option linter.all false
set_option maxRecDepth 100000
set_option maxHeartbeats 4000000
namespace Rf
open PySem PySem.Spec PyProof.Rows L2 LamX
/-- which pieces of the model's text a compact text stands for, reading by reading -/
structure Ck where
  v : Expr → Bool
  o : Expr → Bool
  t : Expr → Bool
  w : Expr → Bool
  c : List Expr → Bool
  p : Option Expr → Bool
  a : List Expr → Bool
  i : Expr → Bool
def Ck.none : Ck := { v := fun _ => false, o := fun _ => false, t := fun _ => false, w := fun _ => false, c := fun _ => false, p := fun _ => false, a := fun _ => false, i := fun _ => false }
def oneC (t : Expr → Bool) : List Expr → Bool
  | [x] => t x
  | _ => false
def someP (v : Expr → Bool) : Option Expr → Bool
  | some x => v x
  | Option.none => false
def Ck.mk1 (v t w : Expr → Bool) : Ck := { v := v, o := v, t := t, w := w, c := oneC t, p := someP v, a := fun _ => false, i := v }
def Ck.val (v : Expr → Bool) : Ck := Ck.mk1 v (fun x => v x && plainT x) fun _ => false
def cstEq : D → D → Bool
  | .none, .none => true
  | .bool a, .bool b => a == b
  | .int a, .int b => a == b
  | .str a, .str b => decide (a = b)
  | _, _ => false
theorem cstEq_eq {a b : D} (h : cstEq a b = true) : a = b := by
  cases a <;> cases b <;> first | (cases h; done) | rfl | exact congrArg _ (by simpa [cstEq] using h)
def opEq : Bop → Operator → Bool
  | .add, .Add => true
  | .sub, .Sub => true
  | .mul, .Mult => true
  | .div, .FloorDiv => true
  | .mod, .Mod => true
  | .pow, .Pow => true
  | _, _ => false
theorem opEq_eq {o : Bop} {op : Operator} (h : opEq o op = true) : op = opOf o := by
  cases o <;> cases op <;> first | (cases h; done) | rfl
def cmEq : Cop → CmpOp → Bool
  | .lt, .Lt => true
  | .le, .LtE => true
  | .gt, .Gt => true
  | .ge, .GtE => true
  | .eq, .Eq => true
  | .ne, .NotEq => true
  | .is, .Is => true
  | .isnot, .IsNot => true
  | .isin, .In => true
  | .notin, .NotIn => true
  | _, _ => false
theorem cmEq_eq {o : Cop} {op : CmpOp} (h : cmEq o op = true) : op = cmOf o := by
  cases o <;> cases op <;> first | (cases h; done) | rfl
def biNm : Bi → Option (Str × String × Bool)
  | .len => some ("len", "len", false)
  | .int => some ("int", "int", true)
  | .tuple => some ("tuple", "tuple", true)
  | .list => some ("list", "list", true)
  | .sum => some ("sum", "sum", false)
  | .max => some ("max", "max", false)
  | .min => some ("min", "min", false)
  | .abs => some ("abs", "abs", false)
  | .any => some ("any", "any", false)
  | .all => some ("all", "all", false)
  | .sorted => some ("sorted", "sorted", false)
def Gm.blk (Γ : Gm) (scope : Scope) : Gm := { Γ with sc := relS scope Γ.sc, fn := fun x => scope.names.lookup x == some .cell, lam := false, gen := false }
def Gm.lamb (Γ : Gm) (scope : Scope) : Gm := { Γ with sc := scope, fn := fun _ => false, lam := false, gen := false }
def noSet : Expr → Bool
  | .Set _ _ _ => false
  | _ => true
def isTupE : Expr → Bool
  | .Tuple _ _ _ => true
  | _ => false
/-- zip and enumerate are walked with a target of several names -/
def okTg (tg : Expr) : Expr → Bool
  | .Call (.Name y _) _ _ _ => isTupE tg || !(decide (y = "zip") || decide (y = "enumerate"))
  | _ => true
def okIt (tg ix : Expr) : Bool := noSet ix && okTg tg ix
def ownOf (N : List Str) (own : List Nat) : List (Str × Nat) := own.map fun i => (N.getD i "", i)
def subN (a b : List Nat) : Bool := a.all fun j => b.contains j
def cnt : E → Nat
  | .cons _ b => cnt b + 1
  | _ => 0
def tyOk (Γ : Gm) (t : Ty) : Expr → Bool
  | .Name y _ => decide (y = PySem.Str.ofString (tName t)) && isGl Γ y
  | _ => false
def tysOk (Γ : Gm) : List Ty → List Expr → Bool
  | [], [] => true
  | t :: ts, e :: es => tyOk Γ t e && tysOk Γ ts es
  | _, _ => false
def genOk (sc scope : Scope) (x lo hi : Str) : Bool :=
  (match scope.kind with | .function => true | _ => false) && !scope.isCoroutine && scope.names.all (fun y => !decide (y.2 = .cell)) && decide (scope.names.lookup (".0" : Str) = some .local) && decide (scope.names.lookup x = some .local) && (scope.names.all fun y => decide (scope.names.lookup y.1 = some y.2)) &&
    (scope.names.all fun y => !decide (y.2 = .free) || decide (sc.names.lookup y.1 = some .cell) || decide (sc.names.lookup y.1 = some .free)) && decide (scope.names.lookup lo = some .free) && decide (scope.names.lookup hi = some .free) && decide (scope.names.lookup ("is_integer" : Str) = some .globalImplicit)
def okNm (x : Str) : Bool := !(x == ("__debug__" : Str)) && !(x == ("__classdict__" : Str))
def ck : E → Gm → Ck
  | .var i, Γ => Ck.val fun x => match x with
    | .Name y _ => isVis Γ i y
    | _ => false
  | .cst d, Γ => Ck.val fun x => match x with
    | .Constant k _ _ => cstOk k d
    | .Name y _ => isGl Γ y && Γ.cs.any fun p => decide (p.1 = y) && cstEq p.2 d
    | _ => false
  | .nil, _ => { Ck.none with c := List.isEmpty, p := Option.isNone, a := List.isEmpty }
  | .cons a b, Γ => { Ck.none with a := fun es => match es with
    | x :: r => (ck a Γ).v x && noStar x && (ck b Γ).a r
    | [] => false }
  | .tup a, Γ => Ck.val fun x => match x with
    | .Tuple l _ _ => (ck a Γ).a l
    | _ => false
  | .lst a, Γ => Ck.val fun x => match x with
    | .List l _ => (ck a Γ).a l
    | _ => false
  | .bin o a b, Γ => Ck.val fun x => match x with
    | .BinOp l op r _ => opEq o op && (ck a Γ).v l && (ck b Γ).v r
    | _ => false
  | .neg a, Γ => Ck.val fun x => match x with
    | .UnaryOp .USub l _ => (ck a Γ).v l
    | _ => false
  | .not a, Γ => Ck.mk1 (fun x => match x with
    | .UnaryOp .Not l _ => (ck a Γ).v l
    | _ => false) (fun x => match x with
    | .UnaryOp .Not l _ => (ck a Γ).t l
    | _ => false) fun _ => false
  | .cmp o a b, Γ =>
    let f : Expr → Bool := fun x => match x with
      | .Compare l [op] [r] _ => cmEq o op && (ck a Γ).o l && (ck b Γ).o r && !(behindInMarks op r)
      | _ => false
    Ck.mk1 f f fun _ => false
  | .and a b, Γ =>
    let t : Expr → Bool := fun x => match x with
      | .BoolOp .And [l, r] _ => (ck a Γ).t l && (ck b Γ).t r
      | .BoolOp .And (l :: r :: s :: m) p => (ck a Γ).t l && (ck b Γ).w (.BoolOp .And (r :: s :: m) p)
      | _ => false
    Ck.mk1 (fun x => match x with
      | .BoolOp .And [l, r] _ => (ck a Γ).v l && (ck b Γ).v r
      | .BoolOp .And (l :: r :: s :: m) p => (ck a Γ).v l && (ck b Γ).v (.BoolOp .And (r :: s :: m) p)
      | _ => false) t t
  | .or a b, Γ =>
    let t : Expr → Bool := fun x => match x with
      | .BoolOp .Or [l, r] _ => (ck a Γ).t l && (ck b Γ).t r
      | .BoolOp .Or (l :: r :: s :: m) p => (ck a Γ).t l && (ck b Γ).w (.BoolOp .Or (r :: s :: m) p)
      | _ => false
    Ck.mk1 (fun x => match x with
      | .BoolOp .Or [l, r] _ => (ck a Γ).v l && (ck b Γ).v r
      | .BoolOp .Or (l :: r :: s :: m) p => (ck a Γ).v l && (ck b Γ).v (.BoolOp .Or (r :: s :: m) p)
      | _ => false) t t
  | .ite c a b, Γ => Ck.mk1 (fun x => match x with
    | .IfExp q l r _ => (ck c Γ).t q && (ck a Γ).v l && (ck b Γ).v r
    | _ => false) (fun _ => false) fun _ => false
  | .ix a k, Γ => Ck.val fun x => match x with
    | .Subscript l q _ => noSlice q && (ck a Γ).o l && (ck k Γ).v q
    | _ => false
  | .sl a lo hi, Γ => Ck.val fun x => match x with
    | .Subscript l (.Slice q r Option.none _) _ => (ck a Γ).o l && (ck lo Γ).p q && (ck hi Γ).p r
    | _ => false
  | .call f a, Γ => Ck.val fun x => match x with
    | .Call (.Name y _) (e :: es) [] _ => (match Γ.tab[f]? with
        | some (z, _, Option.none) => decide (z = y)
        | _ => false) && !decide (y = "") && isGl Γ y && (e :: es).all noStar && (ck a Γ).a (e :: es)
    | _ => false
  | .call0 f, Γ => Ck.val fun x => match x with
    | .Call (.Name y _) [] [] _ => (match Γ.tab[f]? with
        | some (z, _, Option.none) => decide (z = y)
        | _ => false) && !decide (y = "") && isGl Γ y
    | _ => false
  | .callio f a i b, Γ => Ck.val fun x => match x with
    | .Call (.Name y _) es [] _ => (match Γ.tab[f]?, es.drop (cnt a) with
        | some (z, _, some j), .Name u _ :: r => decide (z = y) && decide (j = cnt a) && isVis Γ i u && (ck a Γ).a (es.take (cnt a)) && (ck b Γ).a r && decide ((es.take (cnt a)).length = cnt a)
        | _, _ => false) && !decide (y = "") && isGl Γ y && es.all noStar
    | _ => false
  | .isi a ts, Γ => Ck.val fun x => match x with
    | .Call (.Name y _) [l, q] [] _ => decide (y = "isinstance") && isGl Γ y && noStar l && (ck a Γ).o l && (match ts, q with
        | [t], .Name z p => tyOk Γ t (.Name z p)
        | ts, .Tuple es _ _ => tysOk Γ ts es && decide (ts.length ≤ 100)
        | _, _ => false)
    | _ => false
  | .bi b a, Γ => Ck.val fun x => match x with
    | .Call (.Name y _) [l] [] _ => (match biNm b with
        | some (z, _, _) => decide (z = y)
        | Option.none => false) && isGl Γ y && noStar l && (ck a Γ).o l
    | _ => false
  | .bi2 b a c, Γ => Ck.val fun x => match x with
    | .Call (.Name y _) [l, r] [] _ => (match b with
        | .max => decide (y = "max")
        | .min => decide (y = "min")
        | _ => false) && isGl Γ y && noStar l && noStar r && (ck a Γ).v l && (ck c Γ).v r
    | _ => false
  | .lc e tg it c own, Γ => Ck.val fun x => match x with
    | .ListComp el [⟨tx, ix, ifs, 0⟩] scope _ => okIt tx ix && (ck it Γ).i ix && blkC Γ.N Γ.sc scope (ownOf Γ.N own) && ckT (Γ.blk scope) tg tx && (ck c (Γ.blk scope)).c ifs && (ck e (Γ.blk scope)).v el && subN (tgIx tg) own
    | _ => false
  | .lc2 e tg it c tg1 it1 c1 own own1, Γ => Ck.val fun x => match x with
    | .ListComp el [⟨tx, ix, ifs, 0⟩, ⟨tx1, ix1, ifs1, 0⟩] scope _ => okIt tx ix && okIt tx1 ix1 && (ck it Γ).i ix && blkC Γ.N Γ.sc scope (ownOf Γ.N own) && ckT (Γ.blk scope) tg tx && (ck c (Γ.blk scope)).c ifs && (ck it1 (Γ.blk scope)).i ix1 && ckT (Γ.blk scope) tg1 tx1 && (ck c1 (Γ.blk scope)).c ifs1 && (ck e (Γ.blk scope)).v el && subN (tgIx tg) own && subN (tgIx tg1) own1 && subN own1 own
    | _ => false
  | .rng1 a, Γ => { Ck.none with i := fun x => match x with
    | .Call (.Name y _) [l] [] _ => decide (y = "range") && isGl Γ y && noStar l && (ck a Γ).v l
    | _ => false }
  | .rng2 a b, Γ => { Ck.none with i := fun x => match x with
    | .Call (.Name y _) [l, r] [] _ => decide (y = "range") && isGl Γ y && noStar l && noStar r && (ck a Γ).v l && (ck b Γ).v r
    | _ => false }
  | .zip a b, Γ => { Ck.none with i := fun x => match x with
    | .Call (.Name y _) [l, r] [] _ => decide (y = "zip") && isGl Γ y && noStar l && noStar r && (ck a Γ).v l && (ck b Γ).v r
    | _ => false }
  | .enum a, Γ => { Ck.none with i := fun x => match x with
    | .Call (.Name y _) [l] [] _ => decide (y = "enumerate") && isGl Γ y && noStar l && (ck a Γ).v l
    | _ => false }
  | .allint i l h, Γ => Ck.val fun x => match x with
    | .Call (.Name y _) [.GeneratorExp (.Call (.Name z _) [.Name u _, .Name lo _, .Name hi _] [] _) [⟨.Name u2 _, .Name vn _, [], 0⟩] scope _] [] _ => Γ.gen && decide (y = "all") && isGl Γ y && decide (z = "is_integer") && decide (u = u2) && isVis Γ i vn && decide (Γ.N[l]? = some lo) && decide (Γ.N[h]? = some hi) && genOk Γ.sc scope u lo hi && okNm u && okNm lo && okNm hi
    | _ => false
  | .told _ e, Γ => Ck.val fun x => match x with
    | .Call (.Name y _) [.Lambda ⟨[], [], Option.none, [], [], Option.none, []⟩ body scope _] [] _ => Γ.lam && decide (y = "_law_told") && isGl Γ y && lamSB Γ.sc scope && (ck e (Γ.lamb scope)).v body
    | _ => false
  | .meth m o a, Γ => Ck.val fun x => match x with
    | .Call (.Attribute l nm apos) [e] [] cpos => decide (mNm m = some nm) && (ck o Γ).o l && (ck a Γ).a [e] && noStar e && notSup l && (apos.endLine == cpos.line)
    | _ => false
  | .nset a, Γ => Ck.val fun x => match x with
    | .Call (.Name y _) [.Call (.Name z _) [l] [] _] [] _ => decide (y = "len") && isGl Γ y && decide (z = "set") && isGl Γ z && noStar l && (ck a Γ).o l
    | _ => false
  | .perm1 a, Γ => { Ck.none with i := fun x => match x with
    | .Call (.Name y _) [.Call (.Name z _) [l] [] _] [] _ => decide (y = "permutations") && isGl Γ y && (Γ.cs.any fun p => decide (p.1 = y) && isItD 0 p.2) && decide (z = "range") && isGl Γ z && noStar l && (ck a Γ).v l
    | _ => false }
  | .perm2 a b, Γ => { Ck.none with i := fun x => match x with
    | .Call (.Name y _) [.Call (.Name z _) [l, r] [] _] [] _ => decide (y = "permutations") && isGl Γ y && (Γ.cs.any fun p => decide (p.1 = y) && isItD 0 p.2) && decide (z = "range") && isGl Γ z && noStar l && noStar r && (ck a Γ).v l && (ck b Γ).v r
    | _ => false }
  | .comb a b, Γ => { Ck.none with i := fun x => match x with
    | .Call (.Name y _) [.Call (.Name z _) [l] [] _, r] [] _ => decide (y = "combinations") && isGl Γ y && (Γ.cs.any fun p => decide (p.1 = y) && isItD 1 p.2) && decide (z = "range") && isGl Γ z && noStar l && noStar r && (ck a Γ).v l && (ck b Γ).v r
    | _ => false }
  | .chain o1 o2 a b c, Γ =>
    let f : Expr → Bool := fun x => match x with
      | .Compare l [p1, p2] [m, r] _ => cmEq o1 p1 && cmEq o2 p2 && (ck a Γ).v l && (ck b Γ).v m && (ck c Γ).v r && !(lastMarks [p1, p2] [m, r])
      | _ => false
    Ck.mk1 f f fun _ => false
  | .lrng1 t a, Γ => Ck.val fun x => match x with
    | .Call (.Name y _) [.Call (.Name z _) [l] [] _] [] _ => decide (y = if t then ("tuple" : Str) else "list") && isGl Γ y && decide (z = "range") && isGl Γ z && noStar l && (ck a Γ).v l
    | _ => false
  | .g2 lc a b, Γ => Ck.val fun x => match x with
    | .Call (.Name y _) [l, r] [] _ => !lc && decide (y = "gcd") && isGl Γ y && (Γ.cs.any fun p => decide (p.1 = y) && isItD 2 p.2) && noStar l && noStar r && (ck a Γ).v l && (ck b Γ).v r
    | _ => false
  | .dflt b a c, Γ => Ck.val fun x => match x with
    | .Call (.Name y _) [l] [⟨some k, e, _⟩] _ => (match b with
        | .max => decide (y = "max")
        | .min => decide (y = "min")
        | _ => false) && isGl Γ y && noStar l && decide (k = "default") && (ck a Γ).o l && (ck c Γ).v e
    | _ => false
  | .lc3 e tg it c tg1 it1 c1 tg2 it2 c2 own own1 own2, Γ => Ck.val fun x => match x with
    | .ListComp el [⟨tx, ix, ifs, 0⟩, ⟨tx1, ix1, ifs1, 0⟩, ⟨tx2, ix2, ifs2, 0⟩] scope _ => okIt tx ix && okIt tx1 ix1 && okIt tx2 ix2 && (ck it Γ).i ix && blkC Γ.N Γ.sc scope (ownOf Γ.N own) && ckT (Γ.blk scope) tg tx && (ck c (Γ.blk scope)).c ifs && (ck it1 (Γ.blk scope)).i ix1 && ckT (Γ.blk scope) tg1 tx1 && (ck c1 (Γ.blk scope)).c ifs1 && (ck it2 (Γ.blk scope)).i ix2 && ckT (Γ.blk scope) tg2 tx2 && (ck c2 (Γ.blk scope)).c ifs2 && (ck e (Γ.blk scope)).v el && subN (tgIx tg) own && subN (tgIx tg1) own1 && subN (tgIx tg2) own2 && subN own1 own && subN own2 own1
    | _ => false
end Rf
set_option Elab.async false
set_option linter.all false
set_option maxRecDepth 100000
set_option maxHeartbeats 4000000
namespace Rf
open PySem PySem.Spec PyProof.Rows L2 LamX
structure Gd (T : List (Addr × Str)) (xt : XT) (X : Cx) (k : Ck) (s : Sm) : Prop where
  v : ∀ x, k.v x = true → SE T xt X x s.v
  o : ∀ x, k.o x = true → SO T xt X x s.o s.ag
  t : ∀ x, k.t x = true → ST T xt X x s.t
  w : ∀ x, k.w x = true → SW T xt X x s.t
  c : ∀ es, k.c es = true → SC T xt X es s.c
  p : ∀ o, k.p o = true → SP' T xt X o s.p
  a : ∀ es, k.a es = true → SK T xt X es s.a
  i : ∀ x, k.i x = true → ∀ tg, okIt tg x = true → SI T xt X tg x s.i
theorem ff {p : Prop} (h : false = true) : p := nomatch h
section
variable {T : List (Addr × Str)} {xt : XT} {X : Cx}
theorem gd_mk1 {v t w : Expr → Bool} {f : Rho → Res D} {g : Rho → Res Bool} (hv : ∀ x, v x = true → SE T xt X x f) (ht : ∀ x, t x = true → ST T xt X x g) (hw : ∀ x, w x = true → SW T xt X x g) : Gd T xt X (Ck.mk1 v t w) (Sm.mk1 f g) where
  v := hv
  o := fun x h => (hv x h).so
  t := ht
  w := hw
  c := fun es h => by
    match es, h with
    | [x], h => exact sc_one (ht x h)
  p := fun o h => by
    match o, h with
    | some x, h => exact sp_some (hv x h)
  a := fun es h => ff h
  i := fun x h tg _ => si_seq (hv x h)
theorem gd_val {v : Expr → Bool} {f : Rho → Res D} (hv : ∀ x, v x = true → SE T xt X x f) : Gd T xt X (Ck.val v) (Sm.val f) :=
  gd_mk1 hv (fun x h => by
    rw [Bool.and_eq_true] at h
    exact so_test (hv x h.1).so h.2) fun x h => ff h
theorem gd_none : Gd T xt X Ck.none Sm.none := ⟨fun _ h => ff h, fun _ h => ff h, fun _ h => ff h, fun _ h => ff h, fun _ h => ff h, fun _ h => ff h, fun _ h => ff h, fun _ h => ff h⟩
theorem and2 {a b : Bool} (h : (a && b) = true) : a = true ∧ b = true := Bool.and_eq_true_iff.mp h
theorem not1 {b : Bool} (h : (!b) = true) : b = false := by cases b <;> first | rfl | cases h
variable {Γ : Gm} {F : Nat → Fn} {n : Nat}
theorem gd_var (C : Con T xt Γ F n X) (i : Nat) : Gd T xt X (ck (.var i) Γ) (ev F (.var i)) := by
  have key : ∀ x, (ck (.var i) Γ).v x = true → ∃ y p, x = .Name y p ∧ isVis Γ i y = true := fun x h => by
    have h : (match (generalizing := false) x with | .Name y _ => isVis Γ i y | _ => false) = true := h
    split at h
    · exact ⟨_, _, rfl, h⟩
    · cases h
  have hv : ∀ x, (ck (.var i) Γ).v x = true → SE T xt X x (fun r => give r i) := fun x h => by
    obtain ⟨y, p, rfl, hh⟩ := key x h
    obtain ⟨a, b, c, d⟩ := C.vis hh
    exact se_give a b c d
  have ho : ∀ x, (ck (.var i) Γ).v x = true → SO T xt X x (fun r => opt (peek r i) r) fun r _ => peek r i := fun x h => by
    obtain ⟨y, p, rfl, hh⟩ := key x h
    obtain ⟨a, b, c, d⟩ := C.vis hh
    exact so_peek a b c d
  have ht : ∀ x, (ck (.var i) Γ).t x = true → ST T xt X x (fun r => (opt (peek r i) r).bind fun x r1 => opt (truth x) r1) := fun x h => by
    have h : ((ck (.var i) Γ).v x && plainT x) = true := h
    exact so_test (ho x (and2 h).1) (and2 h).2
  refine ⟨hv, ho, ht, fun x h => ff h, fun es h => ?_, fun o h => ?_, fun es h => ff h, fun x h tg _ => si_seq (hv x h)⟩
  · match es, h with
    | [x], h => exact sc_one (ht x h)
  · match o, h with
    | some x, h => exact sp_some (hv x h)
theorem gd_cst (C : Con T xt Γ F n X) (d : D) : Gd T xt X (ck (.cst d) Γ) (ev F (.cst d)) := by
  refine gd_val fun x h => ?_
  split at h
  · exact se_cst h
  · obtain ⟨h1, h2⟩ := and2 h
    obtain ⟨q, hq, h3⟩ := List.any_eq_true.mp h2
    obtain ⟨h4, h5⟩ := and2 h3
    have e1 := of_decide_eq_true h4
    have e2 := cstEq_eq h5
    rcases C.wd.cs q hq with ⟨v, u, c1, c2, c3⟩ | ⟨j, c1, _⟩
    case inr => rw [c1] at h5; cases d <;> exact ff h5
    rw [e1] at c1
    rw [e2] at c3
    obtain ⟨g1, g2⟩ := C.gl h1
    exact fun W tk => ⟨_, pe_glob g1 c1 c2 g2, fun B G w r σ H Q R z => z v G w H R (Stp.refl _ _ _) (c3 G)⟩
  · cases h
theorem gd_nil : Gd T xt X (ck .nil Γ) (ev F .nil) := by
  refine ⟨fun _ h => ff h, fun _ h => ff h, fun _ h => ff h, fun _ h => ff h, fun es h => ?_, fun o h => ?_, fun es h => ?_, fun _ h => ff h⟩
  · have h : es.isEmpty = true := h
    rw [List.isEmpty_iff] at h
    subst h
    exact sc_nil
  · cases o with
    | none => exact sp_none
    | some _ => exact ff h
  · have h : es.isEmpty = true := h
    rw [List.isEmpty_iff] at h
    subst h
    exact sk_nil
theorem gd_cons {a b : E} (ha : Gd T xt X (ck a Γ) (ev F a)) (hb : Gd T xt X (ck b Γ) (ev F b)) : Gd T xt X (ck (.cons a b) Γ) (ev F (.cons a b)) := ⟨fun _ h => ff h, fun _ h => ff h, fun _ h => ff h, fun _ h => ff h, fun _ h => ff h, fun _ h => ff h, fun es h => by
    match es, h with
    | x :: r, h =>
      have h : ((ck a Γ).v x && noStar x && (ck b Γ).a r) = true := h
      obtain ⟨h1, h3⟩ := and2 h
      obtain ⟨h1, h2⟩ := and2 h1
      exact sk_cons (ha.v x h1) (hb.a r h3) h2, fun _ h => ff h⟩
theorem room65 (C : Con T xt Γ F n X) : X.A.units + 65 < cLine := by
  have := C.room.un
  omega
theorem ca_of (C : Con T xt Γ F n X) (b : Bi) : ∀ x id ty, biNm b = some (x, id, ty) → CaS T X (if ty then .type id else .builtin id) (biD b) ∧ bootBuiltins x = some (if ty then .type id else .builtin id) ∧ x ≠ ("__name__" : Str) ∧ x ∈ blNames := by
  have u := room65 C
  cases b <;> (intro x id ty e; first | (cases e; done) | skip) <;> (cases e)
  · exact ⟨ca_len, by decide +kernel, by decide, by decide⟩
  · exact ⟨ca_int, by decide +kernel, by decide, by decide⟩
  · exact ⟨ca_tuple, by decide +kernel, by decide, by decide⟩
  · exact ⟨ca_list, by decide +kernel, by decide, by decide⟩
  · exact ⟨ca_sum C.calm, by decide +kernel, by decide, by decide⟩
  · exact ⟨ca_max C.calm u, by decide +kernel, by decide, by decide⟩
  · exact ⟨ca_min C.calm u, by decide +kernel, by decide, by decide⟩
  · exact ⟨ca_abs, by decide +kernel, by decide, by decide⟩
  · exact ⟨ca_any C.calm, by decide +kernel, by decide, by decide⟩
  · exact ⟨ca_all C.calm, by decide +kernel, by decide, by decide⟩
  · exact ⟨ca_sorted C.calm u, by decide +kernel, by decide, by decide⟩
end
end Rf
set_option Elab.async false
set_option linter.all false
set_option maxRecDepth 100000
set_option maxHeartbeats 4000000
namespace Rf
open PySem PySem.Spec PyProof.Rows L2 LamX
section
variable {T : List (Addr × Str)} {xt : XT} {X : Cx} {Γ : Gm} {F : Nat → Fn} {n : Nat} {a b c : E}
theorem gd_tup (ha : Gd T xt X (ck a Γ) (ev F a)) : Gd T xt X (ck (.tup a) Γ) (ev F (.tup a)) := gd_val fun x h => by
  split at h
  · exact se_tup (ha.a _ h).sa
  · exact ff h
theorem gd_lst (ha : Gd T xt X (ck a Γ) (ev F a)) : Gd T xt X (ck (.lst a) Γ) (ev F (.lst a)) := gd_val fun x h => by
  split at h
  · exact se_lst (ha.a _ h).sa
  · exact ff h
theorem gd_bin (o : Bop) (ha : Gd T xt X (ck a Γ) (ev F a)) (hb : Gd T xt X (ck b Γ) (ev F b)) : Gd T xt X (ck (.bin o a b) Γ) (ev F (.bin o a b)) := gd_val fun x h => by
  split at h
  · obtain ⟨h1, h3⟩ := and2 h
    obtain ⟨h1, h2⟩ := and2 h1
    rw [opEq_eq h1]
    exact se_bin (os_bin o) (ha.v _ h2) (hb.v _ h3)
  · exact ff h
theorem gd_neg (ha : Gd T xt X (ck a Γ) (ev F a)) : Gd T xt X (ck (.neg a) Γ) (ev F (.neg a)) := gd_val fun x h => by
  split at h
  · exact se_neg (ha.v _ h)
  · exact ff h
theorem gd_not (ha : Gd T xt X (ck a Γ) (ev F a)) : Gd T xt X (ck (.not a) Γ) (ev F (.not a)) := gd_mk1 (fun x h => by
  split at h
  · exact se_not (ha.v _ h)
  · exact ff h) (fun x h => by
  split at h
  · exact st_not (ha.t _ h)
  · exact ff h) fun _ h => ff h
theorem gd_cmp (C : Con T xt Γ F n X) (o : Cop) (ha : Gd T xt X (ck a Γ) (ev F a)) (hb : Gd T xt X (ck b Γ) (ev F b)) : Gd T xt X (ck (.cmp o a b) Γ) (ev F (.cmp o a b)) := gd_mk1 (fun x h => by
  split at h
  · obtain ⟨h1, h4⟩ := and2 h
    obtain ⟨h1, h3⟩ := and2 h1
    obtain ⟨h1, h2⟩ := and2 h1
    have e := cmEq_eq h1
    subst e
    exact se_cmp (cs_all (room65 C) o) (ha.o _ h2) (hb.o _ h3) (not1 h4)
  · exact ff h) (fun x h => by
  split at h
  · obtain ⟨h1, h4⟩ := and2 h
    obtain ⟨h1, h3⟩ := and2 h1
    obtain ⟨h1, h2⟩ := and2 h1
    have e := cmEq_eq h1
    subst e
    exact st_cmp (cs_all (room65 C) o) (ha.o _ h2) (hb.o _ h3) (not1 h4)
  · exact ff h) fun _ h => ff h
theorem gd_and (ha : Gd T xt X (ck a Γ) (ev F a)) (hb : Gd T xt X (ck b Γ) (ev F b)) : Gd T xt X (ck (.and a b) Γ) (ev F (.and a b)) := by
  have hw : ∀ x, (ck (.and a b) Γ).w x = true → SW T xt X x (tAndR (ev F a) (ev F b)) := fun x h => by
    change (match (generalizing := false) x with
      | .BoolOp .And [l, r] _ => (ck a Γ).t l && (ck b Γ).t r
      | .BoolOp .And (l :: r :: s :: m) p => (ck a Γ).t l && (ck b Γ).w (.BoolOp .And (r :: s :: m) p)
      | _ => false) = true at h
    split at h
    · exact sw_and (ha.t _ (and2 h).1) (sw_and1 (hb.t _ (and2 h).2))
    · exact sw_and (ha.t _ (and2 h).1) (hb.w _ (and2 h).2)
    · exact ff h
  refine gd_mk1 (fun x h => ?_) (fun x h => (hw x h).st) hw
  split at h
  · exact se_and (ha.v _ (and2 h).1) (se_one (hb.v _ (and2 h).2))
  · exact se_and (ha.v _ (and2 h).1) (hb.v _ (and2 h).2)
  · exact ff h
theorem gd_or (ha : Gd T xt X (ck a Γ) (ev F a)) (hb : Gd T xt X (ck b Γ) (ev F b)) : Gd T xt X (ck (.or a b) Γ) (ev F (.or a b)) := by
  have hw : ∀ x, (ck (.or a b) Γ).w x = true → SW T xt X x (tOrR (ev F a) (ev F b)) := fun x h => by
    change (match (generalizing := false) x with
      | .BoolOp .Or [l, r] _ => (ck a Γ).t l && (ck b Γ).t r
      | .BoolOp .Or (l :: r :: s :: m) p => (ck a Γ).t l && (ck b Γ).w (.BoolOp .Or (r :: s :: m) p)
      | _ => false) = true at h
    split at h
    · exact sw_or (ha.t _ (and2 h).1) (sw_or1 (hb.t _ (and2 h).2))
    · exact sw_or (ha.t _ (and2 h).1) (hb.w _ (and2 h).2)
    · exact ff h
  refine gd_mk1 (fun x h => ?_) (fun x h => (hw x h).st) hw
  split at h
  · exact se_or (ha.v _ (and2 h).1) (se_one (hb.v _ (and2 h).2))
  · exact se_or (ha.v _ (and2 h).1) (hb.v _ (and2 h).2)
  · exact ff h
theorem gd_ite (hc : Gd T xt X (ck c Γ) (ev F c)) (ha : Gd T xt X (ck a Γ) (ev F a)) (hb : Gd T xt X (ck b Γ) (ev F b)) : Gd T xt X (ck (.ite c a b) Γ) (ev F (.ite c a b)) := gd_mk1 (fun x h => by
  split at h
  · obtain ⟨h1, h3⟩ := and2 h
    obtain ⟨h1, h2⟩ := and2 h1
    exact se_ite (hc.t _ h1) (ha.v _ h2) (hb.v _ h3)
  · exact ff h) (fun _ h => ff h) fun _ h => ff h
theorem gd_ix (ha : Gd T xt X (ck a Γ) (ev F a)) (hb : Gd T xt X (ck b Γ) (ev F b)) : Gd T xt X (ck (.ix a b) Γ) (ev F (.ix a b)) := gd_val fun x h => by
  split at h
  · obtain ⟨h1, h3⟩ := and2 h
    obtain ⟨h1, h2⟩ := and2 h1
    exact se_ix (ha.o _ h2) (hb.v _ h3) h1
  · exact ff h
theorem gd_sl (ha : Gd T xt X (ck a Γ) (ev F a)) (hb : Gd T xt X (ck b Γ) (ev F b)) (hc : Gd T xt X (ck c Γ) (ev F c)) : Gd T xt X (ck (.sl a b c) Γ) (ev F (.sl a b c)) := gd_val fun x h => by
  split at h
  · obtain ⟨h1, h3⟩ := and2 h
    obtain ⟨h1, h2⟩ := and2 h1
    exact se_sl (ha.o _ h1) (hb.p _ h2) (hc.p _ h3)
  · exact ff h
theorem tab_one {f : Nat} {y : Str} (h : (match Γ.tab[f]? with
        | some (z, _, Option.none) => decide (z = y)
        | _ => false) = true) : ∃ k, Γ.tab[f]? = some (y, k, Option.none) := by
  split at h
  · rename_i z k e
    exact ⟨k, by rw [e, of_decide_eq_true h]⟩
  · exact ff h
theorem gd_call (C : Con T xt Γ F n X) (f : Nat) (ha : Gd T xt X (ck a Γ) (ev F a)) : Gd T xt X (ck (.call f a) Γ) (ev F (.call f a)) := gd_val fun x h => by
  split at h
  · obtain ⟨h1, h5⟩ := and2 h
    obtain ⟨h1, h4⟩ := and2 h1
    obtain ⟨h1, h3⟩ := and2 h1
    obtain ⟨h1, h2⟩ := and2 h1
    obtain ⟨k, ek⟩ := tab_one h1
    have ne := of_decide_eq_false (not1 h2)
    obtain ⟨g1, g2⟩ := C.gl h3
    rw [List.all_cons] at h4
    exact se_call (C.wd.fns f _ k _ ek ne) C.room g1 g2 (ha.a _ h5).sa (and2 h4).1 (back_all (and2 h4).2)
  · exact ff h
theorem gd_call0 (C : Con T xt Γ F n X) (f : Nat) : Gd T xt X (ck (.call0 f) Γ) (ev F (.call0 f)) := gd_val fun x h => by
  split at h
  · obtain ⟨h1, h3⟩ := and2 h
    obtain ⟨h1, h2⟩ := and2 h1
    obtain ⟨k, ek⟩ := tab_one h1
    have ne := of_decide_eq_false (not1 h2)
    obtain ⟨g1, g2⟩ := C.gl h3
    exact se_call0 (C.wd.fns f _ k _ ek ne) C.room g1 g2
  · exact ff h
theorem cnt_len (F : Nat → Fn) : ∀ (e : E) {es : List Expr} (Γ : Gm) {r r1 : Rho} {ds : List D}, (ck e Γ).a es = true → (ev F e).a r = .ok ds r1 → ds.length = cnt e := by
  intro e
  induction e with
  | cons a b _ ihb =>
    intro es Γ r r1 ds h e
    match es, h with
    | x :: rest, h =>
      have h : ((ck a Γ).v x && noStar x && (ck b Γ).a rest) = true := h
      have e : (((ev F a).v r).bind fun x r1 => ((ev F b).a r1).bind fun ys r2 => Res.ok (x :: ys) r2) = .ok ds r1 := e
      cases e1 : (ev F a).v r with
      | bad => rw [e1] at e; cases e
      | exc _ _ _ => rw [e1] at e; cases e
      | ok y r2 =>
        rw [e1] at e
        have e : (((ev F b).a r2).bind fun ys r2 => Res.ok (y :: ys) r2) = .ok ds r1 := e
        cases e2 : (ev F b).a r2 with
        | bad => rw [e2] at e; cases e
        | exc _ _ _ => rw [e2] at e; cases e
        | ok ys r3 =>
          rw [e2] at e
          cases e
          rw [List.length_cons, ihb Γ (and2 h).2 e2]
          rfl
  | nil =>
    intro es Γ r r1 ds h e
    cases e
    rfl
  | _ => intro es Γ r r1 ds h e; exact ff h
theorem gd_callio (C : Con T xt Γ F n X) (f i : Nat) (ha : Gd T xt X (ck a Γ) (ev F a)) (hb : Gd T xt X (ck b Γ) (ev F b)) : Gd T xt X (ck (.callio f a i b) Γ) (ev F (.callio f a i b)) := gd_val fun x h => by
  split at h
  · rename_i y pn es pos
    obtain ⟨h1, h4⟩ := and2 h
    obtain ⟨h1, h3⟩ := and2 h1
    obtain ⟨h1, h2⟩ := and2 h1
    have ne := of_decide_eq_false (not1 h2)
    obtain ⟨g1, g2⟩ := C.gl h3
    split at h1
    · rename_i z k j u pu r e1 e2
      obtain ⟨h1, k6⟩ := and2 h1
      obtain ⟨h1, k5⟩ := and2 h1
      obtain ⟨h1, k4⟩ := and2 h1
      obtain ⟨h1, k3⟩ := and2 h1
      obtain ⟨h1, k2⟩ := and2 h1
      have ez := of_decide_eq_true h1
      have ej := of_decide_eq_true k2
      have el := of_decide_eq_true k6
      subst ez ej
      obtain ⟨v1, v2, v3, v4⟩ := C.vis k3
      have es_eq : es = es.take (cnt a) ++ .Name u pu :: r := by rw [← e2, List.take_append_drop]
      have hall := h4
      obtain ⟨e0, er, ee⟩ : ∃ e0 er, es.take (cnt a) ++ Expr.Name u pu :: r = e0 :: er := by
        cases q : es.take (cnt a) with
        | nil => exact ⟨_, _, rfl⟩
        | cons e0 m => exact ⟨e0, _, rfl⟩
      rw [es_eq, ee, List.all_cons] at hall
      have := se_callio (p := pos) (pn := pn) (C.wd.fns f _ k _ e1 ne) C.room g1 g2 (ha.a _ k4) (hb.a _ k5).sa el v1 v2 v3 v4 e0 er ee (and2 hall).1 (back_all (and2 hall).2) fun r ds r1 e => cnt_len F a Γ k4 e
      rw [← es_eq] at this
      exact this
    · exact ff h1
  · exact ff h
end
end Rf
set_option Elab.async false
set_option linter.all false
set_option maxRecDepth 100000
set_option maxHeartbeats 4000000
namespace Rf
open PySem PySem.Spec PyProof.Rows L2 LamX
section
variable {T : List (Addr × Str)} {xt : XT} {X : Cx} {Γ : Gm} {F : Nat → Fn} {n : Nat} {a b c : E}
theorem ty_boot (t : Ty) : bootBuiltins (PySem.Str.ofString (tName t)) = some (.type (tName t)) ∧ PySem.Str.ofString (tName t) ≠ ("__name__" : Str) ∧ PySem.Str.ofString (tName t) ∈ blNames := by
  cases t <;> exact ⟨by decide +kernel, by decide, by decide⟩
theorem ty_ok (C : Con T xt Γ F n X) {t : Ty} {e : Expr} (h : tyOk Γ t e = true) : noStar e = true ∧ PE X e (tC (.ty (tName t))) := by
  cases e <;> first | (exact ff h) | skip
  rename_i y p
  obtain ⟨h1, h2⟩ := and2 h
  have e1 := of_decide_eq_true h1
  subst e1
  obtain ⟨g1, g2⟩ := C.gl h2
  obtain ⟨b1, b2, b3⟩ := ty_boot t
  exact ⟨rfl, pe_bltn g1 (C.wd.bl _ b3) b1 rfl b2 g2⟩
theorem tys_ok (C : Con T xt Γ F n X) : ∀ (ts : List Ty) (es : List Expr), tysOk Γ ts es = true → es.length = ts.length ∧ ∀ (i : Nat) (t : Ty) (e : Expr), ts[i]? = some t → es[i]? = some e → noStar e = true ∧ PE X e (tC (.ty (tName t)))
  | [], [], _ => ⟨rfl, fun i t e h => by simp at h⟩
  | [], _ :: _, h => ff h
  | _ :: _, [], h => ff h
  | t :: ts, e :: es, h => by
    have h : (tyOk Γ t e && tysOk Γ ts es) = true := h
    obtain ⟨l, g⟩ := tys_ok C ts es (and2 h).2
    refine ⟨by rw [List.length_cons, List.length_cons, l], fun i t' e' h1 h2 => ?_⟩
    cases i with
    | zero => cases h1; cases h2; exact ty_ok C (and2 h).1
    | succ i => exact g i t' e' h1 h2
theorem gd_isi (C : Con T xt Γ F n X) (ts : List Ty) (ha : Gd T xt X (ck a Γ) (ev F a)) : Gd T xt X (ck (.isi a ts) Γ) (ev F (.isi a ts)) := gd_val fun x h => by
  split at h
  · obtain ⟨h1, h5⟩ := and2 h
    obtain ⟨h1, h4⟩ := and2 h1
    obtain ⟨h1, h3⟩ := and2 h1
    obtain ⟨h1, h2⟩ := and2 h1
    have e1 := of_decide_eq_true h1
    subst e1
    obtain ⟨g1, g2⟩ := C.gl h2
    have hm : X.mg "isinstance" = none := C.wd.bl _ (by decide)
    split at h5
    · obtain ⟨k1, k2⟩ := ty_ok C h5
      exact se_isi1 g1 hm (ha.o _ h4) h3 k1 k2
    · rename_i ts' es _ _ _
      obtain ⟨l, g⟩ := tys_ok C _ _ (and2 h5).1
      exact se_isiT g1 hm (ha.o _ h4) h3 l (of_decide_eq_true (and2 h5).2) g
    · exact ff h5
  · exact ff h
theorem gd_bi (C : Con T xt Γ F n X) (bi : Bi) (ha : Gd T xt X (ck a Γ) (ev F a)) : Gd T xt X (ck (.bi bi a) Γ) (ev F (.bi bi a)) := gd_val fun x h => by
  split at h
  · obtain ⟨h1, h4⟩ := and2 h
    obtain ⟨h1, h3⟩ := and2 h1
    obtain ⟨h1, h2⟩ := and2 h1
    obtain ⟨g1, g2⟩ := C.gl h2
    cases e : biNm bi with
    | none => simp only [e] at h1; exact ff h1
    | some q =>
      obtain ⟨z, id, ty⟩ := q
      simp only [e] at h1
      have ez := of_decide_eq_true h1
      subst ez
      obtain ⟨k1, k2, k3, k4⟩ := ca_of C bi z id ty e
      cases ty with
      | true => exact se_callT k1 g1 (C.wd.bl _ k4) k2 (ha.o _ h4) h3 k3 g2
      | false => exact se_callB k1 g1 (C.wd.bl _ k4) k2 (ha.o _ h4) h3 k3 g2
  · exact ff h
theorem gd_bi2 (C : Con T xt Γ F n X) (bi : Bi) (ha : Gd T xt X (ck a Γ) (ev F a)) (hc : Gd T xt X (ck c Γ) (ev F c)) : Gd T xt X (ck (.bi2 bi a c) Γ) (ev F (.bi2 bi a c)) := gd_val fun x h => by
  split at h
  · obtain ⟨h1, h6⟩ := and2 h
    obtain ⟨h1, h5⟩ := and2 h1
    obtain ⟨h1, h4⟩ := and2 h1
    obtain ⟨h1, h3⟩ := and2 h1
    obtain ⟨h1, h2⟩ := and2 h1
    obtain ⟨g1, g2⟩ := C.gl h2
    cases bi <;> first | (exact ff h1) | skip
    · have e := of_decide_eq_true h1
      subst e
      exact se_bi2 (ca_max2 C.calm) (fun d e z => bi2_int _ d e z) g1 (C.wd.bl _ (by decide)) (by decide +kernel) (ha.v _ h5) (hc.v _ h6) h3 h4 (by decide) g2
    · have e := of_decide_eq_true h1
      subst e
      exact se_bi2 (ca_min2 C.calm) (fun d e z => bi2_int _ d e z) g1 (C.wd.bl _ (by decide)) (by decide +kernel) (ha.v _ h5) (hc.v _ h6) h3 h4 (by decide) g2
  · exact ff h
theorem gd_rng1 (C : Con T xt Γ F n X) (ha : Gd T xt X (ck a Γ) (ev F a)) : Gd T xt X (ck (.rng1 a) Γ) (ev F (.rng1 a)) := by
  refine ⟨fun _ h => ff h, fun _ h => ff h, fun _ h => ff h, fun _ h => ff h, fun _ h => ff h, fun _ h => ff h, fun _ h => ff h, fun x h tg _ => ?_⟩
  change (match (generalizing := false) x with
    | .Call (.Name y _) [l] [] _ => decide (y = "range") && isGl Γ y && noStar l && (ck a Γ).v l
    | _ => false) = true at h
  split at h
  · obtain ⟨h1, h4⟩ := and2 h
    obtain ⟨h1, h3⟩ := and2 h1
    obtain ⟨h1, h2⟩ := and2 h1
    have e := of_decide_eq_true h1
    subst e
    exact si_rng1 (C.gl h2).1 (C.wd.bl _ (by decide)) (ha.v _ h4) h3
  · exact ff h
theorem gd_rng2 (C : Con T xt Γ F n X) (ha : Gd T xt X (ck a Γ) (ev F a)) (hb : Gd T xt X (ck b Γ) (ev F b)) : Gd T xt X (ck (.rng2 a b) Γ) (ev F (.rng2 a b)) := by
  refine ⟨fun _ h => ff h, fun _ h => ff h, fun _ h => ff h, fun _ h => ff h, fun _ h => ff h, fun _ h => ff h, fun _ h => ff h, fun x h tg _ => ?_⟩
  change (match (generalizing := false) x with
    | .Call (.Name y _) [l, r] [] _ => decide (y = "range") && isGl Γ y && noStar l && noStar r && (ck a Γ).v l && (ck b Γ).v r
    | _ => false) = true at h
  split at h
  · obtain ⟨h1, h6⟩ := and2 h
    obtain ⟨h1, h5⟩ := and2 h1
    obtain ⟨h1, h4⟩ := and2 h1
    obtain ⟨h1, h3⟩ := and2 h1
    obtain ⟨h1, h2⟩ := and2 h1
    have e := of_decide_eq_true h1
    subst e
    exact si_rng2 (C.gl h2).1 (C.wd.bl _ (by decide)) (ha.v _ h5) (hb.v _ h6) h3 h4
  · exact ff h
/-! ### blocks -/
theorem Con.blk (C : Con T xt Γ F n X) (scope : Scope) : InBlk X scope fun Y => Con T xt (Γ.blk scope) F n Y := fun s H Cc cl fp => {
  sc := by
    show relS scope X.env.scope = relS scope Γ.sc
    rw [C.sc]
  N := C.N
  nd := C.nd
  fn := fun x h => h
  calm := C.calm
  nx := C.nx
  room := C.room
  wd := C.wd
  lam := fun h => ff h
  gen := fun h => ff h }
theorem own_ix (N : List Str) (own : List Nat) : (ownOf N own).map (·.2) = own := by
  unfold ownOf
  rw [List.map_map]
  exact List.map_id _
theorem subN_ok {a b : List Nat} (h : subN a b = true) : ∀ j ∈ a, j ∈ b := fun j hj => by
  unfold subN at h
  rw [List.all_eq_true] at h
  exact List.contains_iff_mem.mp (h j hj)
theorem set_ok {tg e : Expr} {env : Env} (h : okIt tg e = true) : ∀ x, foldedSetIterable e env x = pure x := by
  intro x
  replace h := (and2 h).1
  cases e <;> first | rfl | exact ff h
theorem gd_lc (C : Con T xt Γ F n X) {e it cd : E} {tg : Tg} {own : List Nat} (hi : Gd T xt X (ck it Γ) (ev F it)) (hc : ∀ Γ' Y, Con T xt Γ' F n Y → Gd T xt Y (ck cd Γ') (ev F cd)) (he : ∀ Γ' Y, Con T xt Γ' F n Y → Gd T xt Y (ck e Γ') (ev F e)) :
    ∀ el tx ix ifs scope p, (ck (.lc e tg it cd own) Γ).v (.ListComp el [⟨tx, ix, ifs, 0⟩] scope p) = true → SF T xt X (.ListComp el [⟨tx, ix, ifs, 0⟩] scope p) ((ev F (.lc e tg it cd own)).v) ∧
      ((SI T xt X tx ix (ev F it).i) ∧ BlkOk X.N X.env.scope scope (ownOf Γ.N own) ∧ (InBlk X scope fun Y => PG Y tx (gOf X.K tg)) ∧ (InBlk X scope fun Y => SC T xt Y ifs (ev F cd).c) ∧ (InBlk X scope fun Y => SE T xt Y el (ev F e).v) ∧ (∀ j ∈ tgIx tg, j ∈ own) ∧ ∀ x, foldedSetIterable ix X.env x = pure x) := by
  intro el tx ix ifs scope p h
  have h : (okIt tx ix && (ck it Γ).i ix && blkC Γ.N Γ.sc scope (ownOf Γ.N own) && ckT (Γ.blk scope) tg tx && (ck cd (Γ.blk scope)).c ifs && (ck e (Γ.blk scope)).v el && subN (tgIx tg) own) = true := h
  obtain ⟨h1, h7⟩ := and2 h
  obtain ⟨h1, h6⟩ := and2 h1
  obtain ⟨h1, h5⟩ := and2 h1
  obtain ⟨h1, h4⟩ := and2 h1
  obtain ⟨h1, h3⟩ := and2 h1
  obtain ⟨h1, h2⟩ := and2 h1
  have p1 := hi.i ix h2 tx h1
  have p2 : BlkOk X.N X.env.scope scope (ownOf Γ.N own) := by rw [C.N, C.sc]; exact blkOk_by h3
  have p3 : InBlk X scope fun Y => PG Y tx (gOf X.K tg) := fun s H Cc cl fp => ckT_ok (C.blk scope s H Cc cl fp) h4
  have p4 : InBlk X scope fun Y => SC T xt Y ifs (ev F cd).c := fun s H Cc cl fp => (hc _ _ (C.blk scope s H Cc cl fp)).c ifs h5
  have p5 : InBlk X scope fun Y => SE T xt Y el (ev F e).v := fun s H Cc cl fp => (he _ _ (C.blk scope s H Cc cl fp)).v el h6
  have p6 := subN_ok h7
  have p7 := set_ok (env := X.env) h1
  refine ⟨?_, p1, p2, p3, p4, p5, p6, p7⟩
  have := sf_lc (p := p) (own := ownOf Γ.N own) C.calm (by rw [C.N]; exact C.nd) p1 p2 p3 p4 p5 (by rw [own_ix]; exact p6) p7
  rw [own_ix] at this
  exact this
theorem gd_lc2 (C : Con T xt Γ F n X) {e it cd it1 cd1 : E} {tg tg1 : Tg} {own own1 : List Nat} (hi : Gd T xt X (ck it Γ) (ev F it)) (hc : ∀ Γ' Y, Con T xt Γ' F n Y → Gd T xt Y (ck cd Γ') (ev F cd)) (hi1 : ∀ Γ' Y, Con T xt Γ' F n Y → Gd T xt Y (ck it1 Γ') (ev F it1)) (hc1 : ∀ Γ' Y, Con T xt Γ' F n Y → Gd T xt Y (ck cd1 Γ') (ev F cd1)) (he : ∀ Γ' Y, Con T xt Γ' F n Y → Gd T xt Y (ck e Γ') (ev F e)) :
    ∀ el tx ix ifs tx1 ix1 ifs1 scope p, (ck (.lc2 e tg it cd tg1 it1 cd1 own own1) Γ).v (.ListComp el [⟨tx, ix, ifs, 0⟩, ⟨tx1, ix1, ifs1, 0⟩] scope p) = true → SF T xt X (.ListComp el [⟨tx, ix, ifs, 0⟩, ⟨tx1, ix1, ifs1, 0⟩] scope p) ((ev F (.lc2 e tg it cd tg1 it1 cd1 own own1)).v) ∧
      ((SI T xt X tx ix (ev F it).i) ∧ BlkOk X.N X.env.scope scope (ownOf Γ.N own) ∧ (InBlk X scope fun Y => PG Y tx (gOf X.K tg)) ∧ (InBlk X scope fun Y => SC T xt Y ifs (ev F cd).c) ∧ (InBlk X scope fun Y => SI T xt Y tx1 ix1 (ev F it1).i) ∧ (InBlk X scope fun Y => PG Y tx1 (gOf X.K tg1)) ∧ (InBlk X scope fun Y => SC T xt Y ifs1 (ev F cd1).c) ∧ (InBlk X scope fun Y => SE T xt Y el (ev F e).v) ∧
        (∀ j ∈ tgIx tg, j ∈ own) ∧ (∀ j ∈ tgIx tg1, j ∈ own1) ∧ (∀ j ∈ own1, j ∈ own) ∧ (∀ x, foldedSetIterable ix X.env x = pure x) ∧ ∀ env x, foldedSetIterable ix1 env x = pure x) := by
  intro el tx ix ifs tx1 ix1 ifs1 scope p h
  have h : (okIt tx ix && okIt tx1 ix1 && (ck it Γ).i ix && blkC Γ.N Γ.sc scope (ownOf Γ.N own) && ckT (Γ.blk scope) tg tx && (ck cd (Γ.blk scope)).c ifs && (ck it1 (Γ.blk scope)).i ix1 && ckT (Γ.blk scope) tg1 tx1 && (ck cd1 (Γ.blk scope)).c ifs1 && (ck e (Γ.blk scope)).v el && subN (tgIx tg) own && subN (tgIx tg1) own1 && subN own1 own) = true := h
  obtain ⟨h1, q13⟩ := and2 h
  obtain ⟨h1, q12⟩ := and2 h1
  obtain ⟨h1, q11⟩ := and2 h1
  obtain ⟨h1, q10⟩ := and2 h1
  obtain ⟨h1, q9⟩ := and2 h1
  obtain ⟨h1, q8⟩ := and2 h1
  obtain ⟨h1, q7⟩ := and2 h1
  obtain ⟨h1, q6⟩ := and2 h1
  obtain ⟨h1, q5⟩ := and2 h1
  obtain ⟨h1, q4⟩ := and2 h1
  obtain ⟨h1, q3⟩ := and2 h1
  obtain ⟨h1, q2⟩ := and2 h1
  have p1 := hi.i ix q3 tx h1
  have p2 : BlkOk X.N X.env.scope scope (ownOf Γ.N own) := by rw [C.N, C.sc]; exact blkOk_by q4
  have p3 : InBlk X scope fun Y => PG Y tx (gOf X.K tg) := fun s H Cc cl fp => ckT_ok (C.blk scope s H Cc cl fp) q5
  have p4 : InBlk X scope fun Y => SC T xt Y ifs (ev F cd).c := fun s H Cc cl fp => (hc _ _ (C.blk scope s H Cc cl fp)).c ifs q6
  have p4b : InBlk X scope fun Y => SI T xt Y tx1 ix1 (ev F it1).i := fun s H Cc cl fp => (hi1 _ _ (C.blk scope s H Cc cl fp)).i ix1 q7 tx1 q2
  have p3b : InBlk X scope fun Y => PG Y tx1 (gOf X.K tg1) := fun s H Cc cl fp => ckT_ok (C.blk scope s H Cc cl fp) q8
  have p4c : InBlk X scope fun Y => SC T xt Y ifs1 (ev F cd1).c := fun s H Cc cl fp => (hc1 _ _ (C.blk scope s H Cc cl fp)).c ifs1 q9
  have p5 : InBlk X scope fun Y => SE T xt Y el (ev F e).v := fun s H Cc cl fp => (he _ _ (C.blk scope s H Cc cl fp)).v el q10
  have p7 := set_ok (env := X.env) h1
  refine ⟨?_, p1, p2, p3, p4, p4b, p3b, p4c, p5, subN_ok q11, subN_ok q12, subN_ok q13, p7, fun env => set_ok q2⟩
  have := sf_lc2 (p := p) (own := ownOf Γ.N own) C.calm (by rw [C.N]; exact C.nd) p1 p2 p3 p4 p4b p3b p4c p5 (by rw [own_ix]; exact subN_ok q11) (subN_ok q12) (by rw [own_ix]; exact subN_ok q13) p7 fun env => set_ok q2
  rw [own_ix] at this
  exact this
end
end Rf
set_option Elab.async false
set_option linter.all false
set_option maxRecDepth 100000
set_option maxHeartbeats 4000000
namespace Rf
open PySem PySem.Spec PyProof.Rows L2 LamX
section
variable {T : List (Addr × Str)} {xt : XT} {X : Cx} {Γ : Gm} {F : Nat → Fn} {n : Nat} {a b c : E}
theorem genOk_by {env : Env} {scope : Scope} {x lo hi : Str} (h : genOk env.scope scope x lo hi = true) : GenI env scope x lo hi := by
  unfold genOk at h
  simp only [Bool.and_eq_true, List.all_eq_true, decide_eq_true_eq, Bool.not_eq_true', decide_eq_false_iff_not, Bool.or_eq_true] at h
  obtain ⟨⟨⟨⟨⟨⟨⟨⟨⟨h1, h2⟩, h3⟩, h4⟩, h5⟩, h6⟩, h7⟩, h8⟩, h9⟩, h10⟩ := h
  refine ⟨?_, h2, h3, h4, h5, h6, fun y hy e => ?_, h8, h9, h10⟩
  · split at h1
    · assumption
    · exact ff h1
  · rcases h7 y hy with (z | z) | z
    · exact absurd e z
    · exact .inl z
    · exact .inr z
theorem tup_of {tg : Expr} {y : Str} {pn : Pos} {as : List Expr} {ks : List Keyword} {p : Pos} (h : okTg tg (.Call (.Name y pn) as ks p) = true) (hy : (decide (y = "zip") || decide (y = "enumerate")) = true) : ∃ elts kk tp, tg = .Tuple elts kk tp := by
  have h : (isTupE tg || !(decide (y = "zip") || decide (y = "enumerate"))) = true := h
  rw [hy] at h
  cases tg <;> first | (cases h; done) | exact ⟨_, _, _, rfl⟩
theorem okNm_by {x : Str} (h : okNm x = true) : (x == ("__debug__" : Str)) = false ∧ (x == ("__classdict__" : Str)) = false := ⟨not1 (and2 h).1, not1 (and2 h).2⟩
theorem gd_allint (C : Con T xt Γ F n X) (i l h : Nat) : Gd T xt X (ck (.allint i l h) Γ) (ev F (.allint i l h)) := gd_val fun x hh => by
  split at hh
  · obtain ⟨h1, k12⟩ := and2 hh
    obtain ⟨h1, k11⟩ := and2 h1
    obtain ⟨h1, k10⟩ := and2 h1
    obtain ⟨h1, k9⟩ := and2 h1
    obtain ⟨h1, k8⟩ := and2 h1
    obtain ⟨h1, k7⟩ := and2 h1
    obtain ⟨h1, k6⟩ := and2 h1
    obtain ⟨h1, k5⟩ := and2 h1
    obtain ⟨h1, k4⟩ := and2 h1
    obtain ⟨h1, k3⟩ := and2 h1
    obtain ⟨hgen, k2⟩ := and2 h1
    have e2 := of_decide_eq_true k2
    have e4 := of_decide_eq_true k4
    have e5 := of_decide_eq_true k5
    subst e2 e4 e5
    obtain ⟨c, Pt, f, g1, g2, g3, g4, g5, g6, g7⟩ := C.gen hgen
    obtain ⟨v1, v2, v3, v4⟩ := C.vis k6
    have hl := of_decide_eq_true k7
    have hh2 := of_decide_eq_true k8
    rw [← C.N] at hl hh2
    rw [← C.sc] at k9
    exact se_allint C.room (C.gl k3).1 (C.wd.bl _ (by decide)) g2 g1 g3 g4 (genOk_by k9) g5 g6 g7 v1 v2 ⟨v3, v4⟩ hl hh2 (okNm_by k10).1 (okNm_by k11) (okNm_by k12)
  · exact ff hh
theorem gd_told {e : E} {f : Nat} (C : Con T xt Γ F n X) (he : ∀ Γ' F' n' Y, Con T xt Γ' F' n' Y → Gd T xt Y (ck e Γ') (ev F' e)) : Gd T xt X (ck (.told f e) Γ) (ev F (.told f e)) := gd_val fun x h => by
  split at h
  · rename_i y pn body scope lpos pos
    obtain ⟨h1, h5⟩ := and2 h
    obtain ⟨h1, h4⟩ := and2 h1
    obtain ⟨h1, h3⟩ := and2 h1
    obtain ⟨hlam, h2⟩ := and2 h1
    have e2 := of_decide_eq_true h2
    subst e2
    obtain ⟨c, Pt, g1, g2, g3, g4, g5, g6, g7⟩ := C.lam hlam
    obtain ⟨gl1, gl2⟩ := C.gl h3
    rw [← C.sc] at h4
    have hr : Room (n - 2 + 2) X.A := by
      rw [Nat.sub_add_cancel g6]
      exact C.room
    refine se_told (k := n - 2) g5 gl1 gl2 g2 g1 g3 g4 hr (lamS_by h4) rfl (fun _ _ _ _ _ => rfl) fun A outer s H E f' c' hr' => ?_
    have C' : Con T xt (Γ.lamb scope) (fun i => F (i + 1000)) (n - 2) (lamCx X A outer s H E scope f' c') := ⟨rfl, C.N, C.nd, fun x h => ff h, rfl, C.nx, hr', g7, fun h => ff h, fun h => ff h⟩
    exact (he _ _ _ _ C').v body h5
  · exact ff h
/-- THE CHECK IS SOUND: expressions -/
theorem ck_ok : ∀ (e : E) (Γ : Gm) (F : Nat → Fn) (n : Nat) (X : Cx), Con T xt Γ F n X → Gd T xt X (ck e Γ) (ev F e) := by
  intro e
  induction e with
  | var i => exact fun Γ F n X C => gd_var C i
  | cst d => exact fun Γ F n X C => gd_cst C d
  | nil => exact fun Γ F n X C => gd_nil
  | cons a b ha hb => exact fun Γ F n X C => gd_cons (ha Γ F n X C) (hb Γ F n X C)
  | tup a ha => exact fun Γ F n X C => gd_tup (ha Γ F n X C)
  | lst a ha => exact fun Γ F n X C => gd_lst (ha Γ F n X C)
  | bin o a b ha hb => exact fun Γ F n X C => gd_bin o (ha Γ F n X C) (hb Γ F n X C)
  | neg a ha => exact fun Γ F n X C => gd_neg (ha Γ F n X C)
  | not a ha => exact fun Γ F n X C => gd_not (ha Γ F n X C)
  | cmp o a b ha hb => exact fun Γ F n X C => gd_cmp C o (ha Γ F n X C) (hb Γ F n X C)
  | and a b ha hb => exact fun Γ F n X C => gd_and (ha Γ F n X C) (hb Γ F n X C)
  | or a b ha hb => exact fun Γ F n X C => gd_or (ha Γ F n X C) (hb Γ F n X C)
  | ite c a b hc ha hb => exact fun Γ F n X C => gd_ite (hc Γ F n X C) (ha Γ F n X C) (hb Γ F n X C)
  | ix a i ha hi => exact fun Γ F n X C => gd_ix (ha Γ F n X C) (hi Γ F n X C)
  | sl a lo hi ha hl hh => exact fun Γ F n X C => gd_sl (ha Γ F n X C) (hl Γ F n X C) (hh Γ F n X C)
  | call f a ha => exact fun Γ F n X C => gd_call C f (ha Γ F n X C)
  | call0 f => exact fun Γ F n X C => gd_call0 C f
  | callio f a i b ha hb => exact fun Γ F n X C => gd_callio C f i (ha Γ F n X C) (hb Γ F n X C)
  | isi a ts ha => exact fun Γ F n X C => gd_isi C ts (ha Γ F n X C)
  | bi b a ha => exact fun Γ F n X C => gd_bi C b (ha Γ F n X C)
  | bi2 b a c ha hc => exact fun Γ F n X C => gd_bi2 C b (ha Γ F n X C) (hc Γ F n X C)
  | lc e tg it c own he hi hc =>
    intro Γ F n X C
    refine gd_val fun x h => ?_
    split at h
    · exact (gd_lc C (hi Γ F n X C) (fun Γ' Y C' => hc Γ' F n Y C') (fun Γ' Y C' => he Γ' F n Y C') _ _ _ _ _ _ h).1.se
    · exact ff h
  | lc2 e tg it c tg1 it1 c1 own own1 he hi hc hi1 hc1 =>
    intro Γ F n X C
    refine gd_val fun x h => ?_
    split at h
    · exact (gd_lc2 C (hi Γ F n X C) (fun Γ' Y C' => hc Γ' F n Y C') (fun Γ' Y C' => hi1 Γ' F n Y C') (fun Γ' Y C' => hc1 Γ' F n Y C') (fun Γ' Y C' => he Γ' F n Y C') _ _ _ _ _ _ _ _ _ h).1.se
    · exact ff h
  | rng1 a ha => exact fun Γ F n X C => gd_rng1 C (ha Γ F n X C)
  | rng2 a b ha hb => exact fun Γ F n X C => gd_rng2 C (ha Γ F n X C) (hb Γ F n X C)
  | zip a b ha hb =>
    intro Γ F n X C
    refine ⟨fun _ h => ff h, fun _ h => ff h, fun _ h => ff h, fun _ h => ff h, fun _ h => ff h, fun _ h => ff h, fun _ h => ff h, fun x h tg ht => ?_⟩
    change (match (generalizing := false) x with
      | .Call (.Name y _) [l, r] [] _ => decide (y = "zip") && isGl Γ y && noStar l && noStar r && (ck a Γ).v l && (ck b Γ).v r
      | _ => false) = true at h
    split at h
    · obtain ⟨h1, h6⟩ := and2 h
      obtain ⟨h1, h5⟩ := and2 h1
      obtain ⟨h1, h4⟩ := and2 h1
      obtain ⟨h1, h3⟩ := and2 h1
      obtain ⟨h1, h2⟩ := and2 h1
      have e := of_decide_eq_true h1
      subst e
      obtain ⟨elts, kk, tp, rfl⟩ := tup_of (and2 ht).2 (by decide)
      exact si_zip (C.gl h2).1 (C.wd.bl _ (by decide)) ((ha Γ F n X C).v _ h5) ((hb Γ F n X C).v _ h6) h3 h4
    · exact ff h
  | enum a ha =>
    intro Γ F n X C
    refine ⟨fun _ h => ff h, fun _ h => ff h, fun _ h => ff h, fun _ h => ff h, fun _ h => ff h, fun _ h => ff h, fun _ h => ff h, fun x h tg ht => ?_⟩
    change (match (generalizing := false) x with
      | .Call (.Name y _) [l] [] _ => decide (y = "enumerate") && isGl Γ y && noStar l && (ck a Γ).v l
      | _ => false) = true at h
    split at h
    · obtain ⟨h1, h4⟩ := and2 h
      obtain ⟨h1, h3⟩ := and2 h1
      obtain ⟨h1, h2⟩ := and2 h1
      have e := of_decide_eq_true h1
      subst e
      obtain ⟨elts, kk, tp, rfl⟩ := tup_of (and2 ht).2 (by decide)
      exact si_enum (C.gl h2).1 (C.wd.bl _ (by decide)) ((ha Γ F n X C).v _ h4) h3
    · exact ff h
  | allint i l h => exact fun Γ F n X C => gd_allint C i l h
  | told f e he => exact fun Γ F n X C => gd_told C he
  | meth m o a ho ha =>
    intro Γ F n X C
    refine gd_val fun x h => ?_
    split at h
    · obtain ⟨h1, h6⟩ := and2 h
      obtain ⟨h1, h5⟩ := and2 h1
      obtain ⟨h1, h4⟩ := and2 h1
      obtain ⟨h1, h3⟩ := and2 h1
      obtain ⟨h1, h2⟩ := and2 h1
      exact se_meth (room65 C) (of_decide_eq_true h1) ((ho Γ F n X C).o _ h2) ((ha Γ F n X C).a _ h3).sa h4 h5 h6
    · exact ff h
  | nset a ha =>
    intro Γ F n X C
    refine gd_val fun x h => ?_
    split at h
    · obtain ⟨h1, h6⟩ := and2 h
      obtain ⟨h1, h5⟩ := and2 h1
      obtain ⟨h1, h4⟩ := and2 h1
      obtain ⟨h1, h3⟩ := and2 h1
      obtain ⟨h1, h2⟩ := and2 h1
      have e1 := of_decide_eq_true h1
      have e3 := of_decide_eq_true h3
      subst e1 e3
      exact se_nset C.calm (C.gl h2).1 (C.wd.bl _ (by decide)) (C.gl h4).1 (C.wd.bl _ (by decide)) ((ha Γ F n X C).o _ h6) h5
    · exact ff h
  | dflt b a c ha hc =>
    intro Γ F n X C
    refine gd_val fun x h => ?_
    split at h
    · obtain ⟨g1, h6⟩ := and2 h
      obtain ⟨g2, h5⟩ := and2 g1
      obtain ⟨g3, h4⟩ := and2 g2
      obtain ⟨g4, h3⟩ := and2 g3
      obtain ⟨h1, h2⟩ := and2 g4
      have e4 := of_decide_eq_true h4
      subst e4
      cases b <;> first | (exact ff h1) | skip
      · have e := of_decide_eq_true h1
        subst e
        exact se_dflt PySem.W.maxD_ints (cr_maxDf C.calm (room65 C)) (fun d => rfl) (C.gl h2).1 (C.wd.bl _ (by decide)) (by decide +kernel) ((ha Γ F n X C).o _ h5) ((hc Γ F n X C).v _ h6) h3 (by decide) (C.gl h2).2
      · have e := of_decide_eq_true h1
        subst e
        exact se_dflt PySem.W.minD_ints (cr_minDf C.calm (room65 C)) (fun d => rfl) (C.gl h2).1 (C.wd.bl _ (by decide)) (by decide +kernel) ((ha Γ F n X C).o _ h5) ((hc Γ F n X C).v _ h6) h3 (by decide) (C.gl h2).2
    · exact ff h
  | perm1 a ha =>
    intro Γ F n X C
    refine ⟨fun _ h => ff h, fun _ h => ff h, fun _ h => ff h, fun _ h => ff h, fun _ h => ff h, fun _ h => ff h, fun _ h => ff h, fun x h tg ht => ?_⟩
    change (match (generalizing := false) x with
      | .Call (.Name y _) [.Call (.Name z _) [l] [] _] [] _ => decide (y = "permutations") && isGl Γ y && (Γ.cs.any fun p => decide (p.1 = y) && isItD 0 p.2) && decide (z = "range") && isGl Γ z && noStar l && (ck a Γ).v l
      | _ => false) = true at h
    split at h
    · obtain ⟨h, k7⟩ := and2 h
      obtain ⟨h, k6⟩ := and2 h
      obtain ⟨h, k5⟩ := and2 h
      obtain ⟨h, k4⟩ := and2 h
      obtain ⟨h, k3⟩ := and2 h
      obtain ⟨k1, k2⟩ := and2 h
      have e1 := of_decide_eq_true k1
      have e4 := of_decide_eq_true k4
      subst e1 e4
      exact si_perm1 C.calm (C.gl k2).1 (C.itn k3) (C.gl k5).1 (C.wd.bl _ (by decide)) ((ha Γ F n X C).v _ k7) k6
    · exact ff h
  | perm2 a b ha hb =>
    intro Γ F n X C
    refine ⟨fun _ h => ff h, fun _ h => ff h, fun _ h => ff h, fun _ h => ff h, fun _ h => ff h, fun _ h => ff h, fun _ h => ff h, fun x h tg ht => ?_⟩
    change (match (generalizing := false) x with
      | .Call (.Name y _) [.Call (.Name z _) [l, r] [] _] [] _ => decide (y = "permutations") && isGl Γ y && (Γ.cs.any fun p => decide (p.1 = y) && isItD 0 p.2) && decide (z = "range") && isGl Γ z && noStar l && noStar r && (ck a Γ).v l && (ck b Γ).v r
      | _ => false) = true at h
    split at h
    · obtain ⟨h, k9⟩ := and2 h
      obtain ⟨h, k8⟩ := and2 h
      obtain ⟨h, k7⟩ := and2 h
      obtain ⟨h, k6⟩ := and2 h
      obtain ⟨h, k5⟩ := and2 h
      obtain ⟨h, k4⟩ := and2 h
      obtain ⟨h, k3⟩ := and2 h
      obtain ⟨k1, k2⟩ := and2 h
      have e1 := of_decide_eq_true k1
      have e4 := of_decide_eq_true k4
      subst e1 e4
      exact si_perm2 C.calm (C.gl k2).1 (C.itn k3) (C.gl k5).1 (C.wd.bl _ (by decide)) ((ha Γ F n X C).v _ k8) ((hb Γ F n X C).v _ k9) k6 k7
    · exact ff h
  | comb a b ha hb =>
    intro Γ F n X C
    refine ⟨fun _ h => ff h, fun _ h => ff h, fun _ h => ff h, fun _ h => ff h, fun _ h => ff h, fun _ h => ff h, fun _ h => ff h, fun x h tg ht => ?_⟩
    change (match (generalizing := false) x with
      | .Call (.Name y _) [.Call (.Name z _) [l] [] _, r] [] _ => decide (y = "combinations") && isGl Γ y && (Γ.cs.any fun p => decide (p.1 = y) && isItD 1 p.2) && decide (z = "range") && isGl Γ z && noStar l && noStar r && (ck a Γ).v l && (ck b Γ).v r
      | _ => false) = true at h
    split at h
    · obtain ⟨h, k9⟩ := and2 h
      obtain ⟨h, k8⟩ := and2 h
      obtain ⟨h, k7⟩ := and2 h
      obtain ⟨h, k6⟩ := and2 h
      obtain ⟨h, k5⟩ := and2 h
      obtain ⟨h, k4⟩ := and2 h
      obtain ⟨h, k3⟩ := and2 h
      obtain ⟨k1, k2⟩ := and2 h
      have e1 := of_decide_eq_true k1
      have e4 := of_decide_eq_true k4
      subst e1 e4
      exact si_comb C.calm (C.gl k2).1 (C.itn k3) (C.gl k5).1 (C.wd.bl _ (by decide)) ((ha Γ F n X C).v _ k8) ((hb Γ F n X C).v _ k9) k6 k7
    · exact ff h
  | chain o1 o2 a b c ha hb hc =>
    intro Γ F n X C
    have key : ∀ x, (match (generalizing := false) x with
      | .Compare l [p1, p2] [m, r] _ => cmEq o1 p1 && cmEq o2 p2 && (ck a Γ).v l && (ck b Γ).v m && (ck c Γ).v r && !(lastMarks [p1, p2] [m, r])
      | _ => false) = true → SE T xt X x (toV (vChain o1 o2 (ev F a) (ev F b) (ev F c))) ∧ ST T xt X x (vChain o1 o2 (ev F a) (ev F b) (ev F c)) := fun x h => by
      split at h
      · obtain ⟨h, k6⟩ := and2 h
        obtain ⟨h, k5⟩ := and2 h
        obtain ⟨h, k4⟩ := and2 h
        obtain ⟨h, k3⟩ := and2 h
        obtain ⟨k1, k2⟩ := and2 h
        have e1 := cmEq_eq k1
        have e2 := cmEq_eq k2
        subst e1 e2
        exact ⟨se_chain (cs_all (room65 C) o1) (cs_all (room65 C) o2) ((ha Γ F n X C).v _ k3) ((hb Γ F n X C).v _ k4) ((hc Γ F n X C).v _ k5) (not1 k6), st_chain (cs_all (room65 C) o1) (cs_all (room65 C) o2) ((ha Γ F n X C).v _ k3) ((hb Γ F n X C).v _ k4) ((hc Γ F n X C).v _ k5) (not1 k6)⟩
      · exact ff h
    exact gd_mk1 (fun x h => (key x h).1) (fun x h => (key x h).2) fun x h => ff h
  | lrng1 t a ha =>
    intro Γ F n X C
    refine gd_val fun x h => ?_
    split at h
    · obtain ⟨h, k6⟩ := and2 h
      obtain ⟨h, k5⟩ := and2 h
      obtain ⟨h, k4⟩ := and2 h
      obtain ⟨h, k3⟩ := and2 h
      obtain ⟨k1, k2⟩ := and2 h
      have e1 := of_decide_eq_true k1
      have e3 := of_decide_eq_true k3
      subst e3
      refine se_lrng1 C.calm e1 (C.gl k2).1 (C.wd.bl _ ?_) (C.gl k4).1 (C.wd.bl _ (by decide)) ((ha Γ F n X C).v _ k6) k5
      rw [e1]
      cases t <;> decide
    · exact ff h
  | g2 lc a b ha hb =>
    intro Γ F n X C
    refine gd_val fun x h => ?_
    split at h
    · obtain ⟨h, k8⟩ := and2 h
      obtain ⟨h, k7⟩ := and2 h
      obtain ⟨h, k6⟩ := and2 h
      obtain ⟨h, k5⟩ := and2 h
      obtain ⟨h, k4⟩ := and2 h
      obtain ⟨h, k3⟩ := and2 h
      obtain ⟨k1, k2⟩ := and2 h
      have e1 := not1 k1
      have e2 := of_decide_eq_true k2
      subst e1 e2
      exact se_g2 cr_g2gcd (C.gl k3).1 (C.gl k3).2 (C.itn k4) ((ha Γ F n X C).v _ k7) ((hb Γ F n X C).v _ k8) k5 k6
    · exact ff h
  | lc3 e tg it c tg1 it1 c1 tg2 it2 c2 own own1 own2 he hi hc hi1 hc1 hi2 hc2 =>
    intro Γ F n X C
    refine gd_val fun x h => ?_
    split at h
    · rename_i el tx ix ifs tx1 ix1 ifs1 tx2 ix2 ifs2 scope pos
      obtain ⟨h1, k19⟩ := and2 h
      obtain ⟨h1, k18⟩ := and2 h1
      obtain ⟨h1, k17⟩ := and2 h1
      obtain ⟨h1, k16⟩ := and2 h1
      obtain ⟨h1, k15⟩ := and2 h1
      obtain ⟨h1, k14⟩ := and2 h1
      obtain ⟨h1, k13⟩ := and2 h1
      obtain ⟨h1, k12⟩ := and2 h1
      obtain ⟨h1, k11⟩ := and2 h1
      obtain ⟨h1, k10⟩ := and2 h1
      obtain ⟨h1, k9⟩ := and2 h1
      obtain ⟨h1, k8⟩ := and2 h1
      obtain ⟨h1, k7⟩ := and2 h1
      obtain ⟨h1, k6⟩ := and2 h1
      obtain ⟨h1, k5⟩ := and2 h1
      obtain ⟨h1, k4⟩ := and2 h1
      obtain ⟨h1, k3⟩ := and2 h1
      obtain ⟨h1, k2⟩ := and2 h1
      have p2 : BlkOk X.N X.env.scope scope (ownOf Γ.N own) := by rw [C.N, C.sc]; exact blkOk_by k5
      have := sf_lc3 (elt := el) (tg := tx) (tg1 := tx1) (tg2 := tx2) (ifs := ifs) (ifs1 := ifs1) (ifs2 := ifs2) (scope := scope) (own := ownOf Γ.N own) (p := pos) C.calm (by rw [C.N]; exact C.nd) ((hi Γ F n X C).i _ k4 _ h1) p2 (fun s H Cc cl fp => ckT_ok (C.blk scope s H Cc cl fp) k6) (fun s H Cc cl fp => (hc _ F n _ (C.blk scope s H Cc cl fp)).c _ k7)
        (fun s H Cc cl fp => (hi1 _ F n _ (C.blk scope s H Cc cl fp)).i _ k8 _ k2) (fun s H Cc cl fp => ckT_ok (C.blk scope s H Cc cl fp) k9) (fun s H Cc cl fp => (hc1 _ F n _ (C.blk scope s H Cc cl fp)).c _ k10)
        (fun s H Cc cl fp => (hi2 _ F n _ (C.blk scope s H Cc cl fp)).i _ k11 _ k3) (fun s H Cc cl fp => ckT_ok (C.blk scope s H Cc cl fp) k12) (fun s H Cc cl fp => (hc2 _ F n _ (C.blk scope s H Cc cl fp)).c _ k13) (fun s H Cc cl fp => (he _ F n _ (C.blk scope s H Cc cl fp)).v _ k14)
        (by rw [own_ix]; exact subN_ok k15) (subN_ok k16) (subN_ok k17) (by rw [own_ix]; exact subN_ok k18) (subN_ok k19) (set_ok h1) (fun env => set_ok k2) (fun env => set_ok k3)
      rw [own_ix] at this
      exact this.se
    · exact ff h
end
end Rf
set_option Elab.async false
set_option linter.all false
set_option maxRecDepth 100000
set_option maxHeartbeats 4000000
namespace Rf
open PySem PySem.Spec PyProof.Rows L2 LamX
def isNm : Expr → Bool
  | .Name _ _ => true
  | _ => false
/-- the comprehension's own instruction: name = [..] on one line -/
def swB (Γ : Gm) : Expr → Expr → Bool
  | .Name y py, .ListComp _ gs scope lp => decide (Γ.sc.kind = .function) && decide (Γ.sc.names.lookup y = some .local) && (py.line == lp.line) && !(scope.names.any fun (n, k) => n == y && (k == .local || k == .cell)) && decide (gs.length ≤ 2)
  | _, _ => false
/-- no such instruction -/
def swN (Γ : Gm) : Expr → Expr → Bool
  | .Name y py, .ListComp _ _ scope lp => decide (Γ.sc.kind = .function) && (decide (Γ.sc.names.lookup y = some .cell) || !(py.line == lp.line))
  | .Name _ _, e => noComp e
  | _, _ => true
def augEq (o : Bop) (op : Operator) : Bool := match o, op with
  | .add, .Add => true
  | .sub, .Sub => true
  | _, _ => false
mutual
def ckB : S → Gm → List Stmt → Bool
  | .skip, _, [] => true
  | .seq a b, Γ, st :: r => ckO a Γ st && ckB b Γ r
  | _, _, _ => false
def ckO : S → Gm → Stmt → Bool
  | .asg t e, Γ, .Assign [tg] ex _ => (swB Γ tg ex || (swN Γ tg ex && (noTup tg || noTup ex))) && ckT Γ t tg && (ck e Γ).v ex
  | .asgO i e, Γ, .Assign [.Name y py] ex _ => (swB Γ (.Name y py) ex || swN Γ (.Name y py) ex) && isLoc Γ i y && (match e with
      | .lst _ => true
      | .lc _ _ _ _ _ => true
      | .bin .mul _ _ => true
      | .bin .add _ _ => true
      | .bi .list _ => true
      | _ => false) && (ck e Γ).v ex
  | .ex e, Γ, .Expr ex _ => (ck e Γ).v ex && noComp ex
  | .app i e, Γ, .Expr (.Call (.Attribute (.Name y _) f apos) [ex] [] cpos) _ => decide (f = "append") && isVis Γ i y && noStar ex && (apos.endLine == cpos.line) && (ck e Γ).v ex
  | .setI i k e, Γ, .Assign [.Subscript (.Name y _) kx _] ex _ => isVis Γ i y && noSlice kx && (ck k Γ).v kx && (ck e Γ).v ex
  | .aug i o e, Γ, .AugAssign (.Name y _) op ex _ => augEq o op && isLoc Γ i y && (ck e Γ).v ex
  | .ret e, Γ, .Return (some ex) _ => (ck e Γ).v ex
  | .retN, _, .Return Option.none _ => true
  | .iff c a b, Γ, .If cx sa sb _ => (ck c Γ).t cx && ckB a Γ sa && ckB b Γ sb
  | .forr t it b, Γ, .For tg ix body [] _ => okIt tg ix && ckT Γ t tg && (ck it Γ).i ix && ckB b Γ body
  | .whl _ c b, Γ, .While cx body [] _ => (ck c Γ).t cx && ckB b Γ body
  | .brk, _, .Break _ => true
  | .cont, _, .Continue _ => true
  | .rais x e, Γ, .Raise (some (.Call (.Name y _) [ex] [] _)) Option.none _ => decide (exNames[x]? = some y) && decide (x < Γ.nx) && isGl Γ y && noStar ex && (ck e Γ).v ex
  | _, _, _ => false
end
section
variable {T : List (Addr × Str)} {xt : XT} {X : Cx} {Γ : Gm} {F : Nat → Fn} {n : Nat}
theorem sw_ok (C : Con T xt Γ F n X) {tg ex : Expr} {l : Nat} (h : swN Γ tg ex = true) : swapsWith ex (some tg) l X.env = pure false := by
  by_cases hn : isNm tg = true
  · cases tg <;> first | (exact ff hn) | skip
    rename_i y py
    by_cases hc : noComp ex = true
    · exact sw_no hc
    · cases ex <;> first | (exact absurd rfl hc) | skip
      · rename_i elt gs scope lp
        have h : (decide (Γ.sc.kind = .function) && (decide (Γ.sc.names.lookup y = some .cell) || !(py.line == lp.line))) = true := h
        obtain ⟨h1, h2⟩ := and2 h
        have e1 := of_decide_eq_true h1
        rw [← C.sc] at e1
        unfold swapsWith
        show (pure (X.env.blockKind == .function && X.env.kindOf y == some .local && py.line == lp.line && _) : Sem Bool) = pure false
        rcases Bool.or_eq_true_iff.mp h2 with q | q
        · have e2 := of_decide_eq_true q
          rw [← C.sc] at e2
          have : (X.env.kindOf y == some NameKind.local) = false := by
            show (X.env.scope.names.lookup y == some NameKind.local) = false
            rw [e2]; rfl
          rw [this, Bool.and_false, Bool.false_and, Bool.false_and]
        · rw [not1 q, Bool.and_false, Bool.false_and]
      · exact ff h
      · exact ff h
  · cases tg <;> first | (exact absurd rfl hn) | (cases ex <;> rfl)
theorem sw_yes (C : Con T xt Γ F n X) {elt : Expr} {gs : List Comprehension} {scope : Scope} {lp py : Pos} {y : Str} {l : Nat} (h : swB Γ (.Name y py) (.ListComp elt gs scope lp) = true) :
    swapsWith (.ListComp elt gs scope lp) (some (.Name y py)) l X.env = pure true ∧ X.env.scope.names.lookup y = some .local := by
  have h : (decide (Γ.sc.kind = .function) && decide (Γ.sc.names.lookup y = some .local) && (py.line == lp.line) && !(scope.names.any fun (n, k) => n == y && (k == .local || k == .cell)) && decide (gs.length ≤ 2)) = true := h
  obtain ⟨h1, h4⟩ := and2 (and2 h).1
  obtain ⟨h1, h3⟩ := and2 h1
  obtain ⟨h1, h2⟩ := and2 h1
  have e1 := of_decide_eq_true h1
  have e2 := of_decide_eq_true h2
  rw [← C.sc] at e1 e2
  exact ⟨sw_true e1 e2 h3 (not1 h4), e2⟩
theorem swb_two {y : Str} {py : Pos} {el : Expr} {gs : List Comprehension} {scope : Scope} {lp : Pos} (h : swB Γ (.Name y py) (.ListComp el gs scope lp) = true) : gs.length ≤ 2 := of_decide_eq_true (and2 h).2
theorem ae_one {tg : Expr} {t : Tg} (h : ckT Γ t tg = true) (env : Env) : (assignEach [tg] env).map (·.2) = [assign tg env] := by
  cases t <;> cases tg <;> first | rfl | exact ff h
theorem sub_asg {y : Str} {py sp : Pos} {k : Expr} {env : Env} (h : noSlice k = true) : ∀ v, assign (.Subscript (.Name y py) k sp) env v = (do
      let ov ← holding [v] (eval (.Name y py) env)
      let iv ← holding [v, ov] (eval k env)
      standAt sp
      holding [v, ov, iv] (setItem ov iv v)
      release [v, ov, iv] []) := by
  intro v
  cases k <;> first | rfl | exact ff h
end
end Rf
set_option Elab.async false
set_option linter.all false
set_option maxRecDepth 100000
set_option maxHeartbeats 4000000
namespace Rf
open PySem PySem.Spec PyProof.Rows L2 LamX
section
variable {T : List (Addr × Str)} {xt : XT} {X : Cx} {Γ : Gm} {F : Nat → Fn} {n : Nat}
theorem swb_lc {tg ex : Expr} (h : swB Γ tg ex = true) : ∃ y py el gs scope lp, tg = .Name y py ∧ ex = .ListComp el gs scope lp := by
  unfold swB at h
  split at h
  · exact ⟨_, _, _, _, _, _, rfl, rfl⟩
  · exact ff h
theorem ckT_nm {t : Tg} {y : Str} {py : Pos} (h : ckT Γ t (.Name y py) = true) : ∃ i, t = .nm i ∧ isLoc Γ i y = true := by
  cases t with
  | nm i => exact ⟨i, rfl, h⟩
  | tp is => exact ff h
  | tt qs => exact ff h
theorem lc_shape {e it cd : E} {tg : Tg} {own : List Nat} {el : Expr} {gs : List Comprehension} {scope : Scope} {lp : Pos} (h : (ck (.lc e tg it cd own) Γ).v (.ListComp el gs scope lp) = true) : ∃ tx ix ifs, gs = [⟨tx, ix, ifs, 0⟩] := by
  change (match (generalizing := false) (Expr.ListComp el gs scope lp) with
    | .ListComp el [⟨tx, ix, ifs, 0⟩] scope _ => okIt tx ix && (ck it Γ).i ix && blkC Γ.N Γ.sc scope (ownOf Γ.N own) && ckT (Γ.blk scope) tg tx && (ck cd (Γ.blk scope)).c ifs && (ck e (Γ.blk scope)).v el && subN (tgIx tg) own
    | _ => false) = true at h
  split at h
  · rename_i heq
    cases heq
    exact ⟨_, _, _, rfl⟩
  · exact ff h
theorem lc2_shape {e it cd it1 cd1 : E} {tg tg1 : Tg} {own own1 : List Nat} {el : Expr} {gs : List Comprehension} {scope : Scope} {lp : Pos} (h : (ck (.lc2 e tg it cd tg1 it1 cd1 own own1) Γ).v (.ListComp el gs scope lp) = true) : ∃ tx ix ifs tx1 ix1 ifs1, gs = [⟨tx, ix, ifs, 0⟩, ⟨tx1, ix1, ifs1, 0⟩] := by
  change (match (generalizing := false) (Expr.ListComp el gs scope lp) with
    | .ListComp el [⟨tx, ix, ifs, 0⟩, ⟨tx1, ix1, ifs1, 0⟩] scope _ => okIt tx ix && okIt tx1 ix1 && (ck it Γ).i ix && blkC Γ.N Γ.sc scope (ownOf Γ.N own) && ckT (Γ.blk scope) tg tx && (ck cd (Γ.blk scope)).c ifs && (ck it1 (Γ.blk scope)).i ix1 && ckT (Γ.blk scope) tg1 tx1 && (ck cd1 (Γ.blk scope)).c ifs1 && (ck e (Γ.blk scope)).v el && subN (tgIx tg) own && subN (tgIx tg1) own1 && subN own1 own
    | _ => false) = true at h
  split at h
  · rename_i heq
    cases heq
    exact ⟨_, _, _, _, _, _, rfl⟩
  · exact ff h
theorem s_asg_ok (C : Con T xt Γ F n X) {t : Tg} {e : E} {tg ex : Expr} {p : Pos} (h : ((swB Γ tg ex || (swN Γ tg ex && (noTup tg || noTup ex))) && ckT Γ t tg && (ck e Γ).v ex) = true) : S1 T xt X (.Assign [tg] ex p) (exec F (.asg t e)) := by
  obtain ⟨h1, h3⟩ := and2 h
  obtain ⟨h1, h2⟩ := and2 h1
  rcases Bool.or_eq_true_iff.mp h1 with q | q
  · obtain ⟨y, py, el, gs, scope, lp, rfl, rfl⟩ := swb_lc q
    obtain ⟨i, rfl, hl⟩ := ckT_nm h2
    obtain ⟨q1, q2⟩ := sw_yes (l := p.line) C q
    obtain ⟨l1, l2, l3⟩ := C.loc hl
    have nd : X.N.Nodup := by rw [C.N]; exact C.nd
    cases e <;> first | (exact ff h3) | skip
    · rename_i e tg1 it cd own
      obtain ⟨tx, ix, ifs, rfl⟩ := lc_shape h3
      · obtain ⟨_, p1, p2, p3, p4, p5, p6, p7⟩ := gd_lc C (ck_ok it Γ F n X C) (fun Γ' Y C' => ck_ok cd Γ' F n Y C') (fun Γ' Y C' => ck_ok e Γ' F n Y C') _ _ _ _ _ _ h3
        have := s_asgLc (p := p) (py := py) (own := ownOf Γ.N own) C.calm nd l1 q2 q1 p1 p2 p3 p4 p5 (by rw [own_ix]; exact p6) p7
        rw [own_ix] at this
        exact this
    · rename_i e tg1 it cd tg2 it1 cd1 own own1
      obtain ⟨tx, ix, ifs, tx1, ix1, ifs1, rfl⟩ := lc2_shape h3
      · obtain ⟨_, p1, p2, p3, p4, p4b, p3b, p4c, p5, p6, p6b, p6c, p7, p8⟩ := gd_lc2 C (ck_ok it Γ F n X C) (fun Γ' Y C' => ck_ok cd Γ' F n Y C') (fun Γ' Y C' => ck_ok it1 Γ' F n Y C') (fun Γ' Y C' => ck_ok cd1 Γ' F n Y C') (fun Γ' Y C' => ck_ok e Γ' F n Y C') _ _ _ _ _ _ _ _ _ h3
        have := s_asgLc2 (p := p) (py := py) (own := ownOf Γ.N own) C.calm nd l1 q2 q1 p1 p2 p3 p4 p4b p3b p4c p5 (by rw [own_ix]; exact p6) p6b (by rw [own_ix]; exact p6c) p7 p8
        rw [own_ix] at this
        exact this
    · exfalso
      have hg := swb_two q
      dsimp only [ck] at h3
      change (match (generalizing := false) (Expr.ListComp el gs scope lp) with
        | .ListComp el [⟨tx, ix, ifs, 0⟩, ⟨tx1, ix1, ifs1, 0⟩, ⟨tx2, ix2, ifs2, 0⟩] scope _ => _
        | _ => false) = true at h3
      split at h3
      · rename_i e
        cases e
        simp at hg
      · exact ff h3
  · obtain ⟨k1, k2⟩ := and2 q
    exact s_asg ((ck_ok e Γ F n X C).v ex h3) (ckT_ok C h2) (sw_ok C k1) (ss_no k2) (ae_one h2 X.env)
theorem s_asgO_ok (C : Con T xt Γ F n X) {i : Nat} {e : E} {y : Str} {py : Pos} {ex : Expr} {p : Pos} (h : ((swB Γ (.Name y py) ex || swN Γ (.Name y py) ex) && isLoc Γ i y && (match e with
      | .lst _ => true
      | .lc _ _ _ _ _ => true
      | .bin .mul _ _ => true
      | .bin .add _ _ => true
      | .bi .list _ => true
      | _ => false) && (ck e Γ).v ex) = true) : S1 T xt X (.Assign [.Name y py] ex p) (exec F (.asgO i e)) := by
  obtain ⟨h0, h4⟩ := and2 h
  obtain ⟨h0, h3⟩ := and2 h0
  obtain ⟨hsw, h2⟩ := and2 h0
  obtain ⟨l1, l2, l3⟩ := C.loc h2
  have nd : X.N.Nodup := by rw [C.N]; exact C.nd
  have hg : PG X (.Name y py) (gName i) := pg_name nd l1 l2 l3
  have norm : ∀ {f : Rho → Res D}, SF T xt X ex f → swN Γ (.Name y py) ex = true → S1 T xt X (.Assign [.Name y py] ex p) fun r => (f r).out fun d r1 => match d with
      | .list ds => if i < r1.length then .nx (r1.set i (.own ds)) else .bad
      | _ => .bad := fun hf hn => s_asgO hf hg (sw_ok C hn)
  cases e <;> first | (exact ff h3) | skip
  · rename_i a
    have hs := h4
    change (match (generalizing := false) ex with
      | .List l _ => (ck a Γ).a l
      | _ => false) = true at hs
    split at hs
    · exact norm (sf_lst ((ck_ok a Γ F n X C).a _ hs).sa) rfl
    · exact ff hs
  · rename_i o a b
    cases o <;> first | (exact ff h3) | skip
    · have hs := h4
      change (match (generalizing := false) ex with
        | .BinOp l op r _ => opEq .add op && (ck a Γ).v l && (ck b Γ).v r
        | _ => false) = true at hs
      split at hs
      · obtain ⟨k1, k3⟩ := and2 hs
        obtain ⟨k1, k2⟩ := and2 k1
        have e1 := opEq_eq k1
        subst e1
        have h5 := norm (sf_cat (p := _) ((ck_ok a Γ F n X C).v _ k2) ((ck_ok b Γ F n X C).v _ k3)) rfl
        have key : ∀ (x y : D) (r2 : Rho), ((catG x y r2).out fun d r1 => match d with
            | .list ds => if i < r1.length then .nx (r1.set i (.own ds)) else .bad
            | _ => .bad) = (opt (binD .add x y) r2).out fun d r1 => match d with
            | .list ds => if i < r1.length then .nx (r1.set i (.own ds)) else .bad
            | _ => .bad := by
          intro x y r2
          cases x <;> first | rfl | skip
          all_goals (cases y <;> first | rfl | skip)
          · rename_i s1 s2
            show Out.bad = (opt (if s1.length + s2.length ≤ big then some (PyData.str (s1 ++ s2)) else Option.none) r2).out _
            split <;> rfl
          · rename_i s1 s2
            show Out.bad = (opt (if fits (s1 ++ s2) = true then some (PyData.tuple (s1 ++ s2)) else Option.none) r2).out _
            split <;> rfl
        have e : (fun r => (((ev F a).v r).bind fun x r1 => ((ev F b).v r1).bind fun y r2 => catG x y r2).out fun d r1 => match d with
            | .list ds => if i < r1.length then .nx (r1.set i (.own ds)) else .bad
            | _ => .bad) = exec F (.asgO i (.bin .add a b)) := by
          funext r
          show _ = (((ev F a).v r).bind fun x r1 => ((ev F b).v r1).bind fun y r2 => opt (binD .add x y) r2).out fun d r1 => match d with
            | .list ds => if i < r1.length then .nx (r1.set i (.own ds)) else .bad
            | _ => .bad
          cases (ev F a).v r with
          | bad => rfl
          | exc _ _ _ => rfl
          | ok x r1 =>
            show (((ev F b).v r1).bind fun y r2 => catG x y r2).out _ = (((ev F b).v r1).bind fun y r2 => opt (binD .add x y) r2).out _
            cases (ev F b).v r1 with
            | bad => rfl
            | exc _ _ _ => rfl
            | ok y r2 => exact key x y r2
        rw [← e]
        exact h5
      · exact ff hs
    have hs := h4
    change (match (generalizing := false) ex with
      | .BinOp l op r _ => opEq .mul op && (ck a Γ).v l && (ck b Γ).v r
      | _ => false) = true at hs
    split at hs
    · obtain ⟨k1, k3⟩ := and2 hs
      obtain ⟨k1, k2⟩ := and2 k1
      have e1 := opEq_eq k1
      subst e1
      have h5 := norm (sf_rep (p := _) ((ck_ok a Γ F n X C).v _ k2) ((ck_ok b Γ F n X C).v _ k3)) rfl
      intro W tk
      obtain ⟨t, p1, q1⟩ := h5 W tk
      refine ⟨t, p1, fun B G w r σ H Dn R z => q1 B G w r σ H Dn R ?_⟩
      have key : ∀ (x y : D) (r2 : Rho), QO X.K T xt B W G w H ((opt (binD .mul x y) r2).out fun d r1 => match d with
          | .list ds => if i < r1.length then .nx (r1.set i (.own ds)) else .bad
          | _ => .bad) Dn → QO X.K T xt B W G w H ((match x with
            | .list _ => opt (binD .mul x y) r2
            | _ => .bad : Res Rf.D).out fun d r1 => match d with
          | .list ds => if i < r1.length then .nx (r1.set i (.own ds)) else .bad
          | _ => .bad) Dn := by
        intro x y r2 z
        cases x <;> first | exact z | skip
        all_goals (cases y <;> first | exact z | skip)
        · rename_i i1 j1
          have z : QO X.K T xt B W G w H ((opt (if mulOk i1 j1 then some (PyData.int (i1 * j1)) else Option.none) r2).out fun d r1 => match d with
          | .list ds => if i < r1.length then .nx (r1.set i (.own ds)) else .bad
          | _ => .bad) Dn := z
          split at z <;> exact z
        · rename_i i1 j1
          have z : QO X.K T xt B W G w H ((opt (if 2 ≤ j1 ∧ j1 ≤ 1000 ∧ i1.length ≤ 1000 ∧ i1.isEmpty = false then some (PyData.tuple (List.replicate j1.toNat i1).flatten) else Option.none) r2).out fun d r1 => match d with
          | .list ds => if i < r1.length then .nx (r1.set i (.own ds)) else .bad
          | _ => .bad) Dn := z
          split at z <;> exact z
      have z : QO X.K T xt B W G w H ((((ev F a).v r).bind fun x r1 => ((ev F b).v r1).bind fun y r2 => opt (binD .mul x y) r2).out fun d r1 => match d with
          | .list ds => if i < r1.length then .nx (r1.set i (.own ds)) else .bad
          | _ => .bad) Dn := z
      show QO X.K T xt B W G w H ((((ev F a).v r).bind fun x r1 => ((ev F b).v r1).bind fun y r2 => match x with
            | .list _ => opt (binD .mul x y) r2
            | _ => .bad).out _) Dn
      cases e1 : (ev F a).v r with
      | bad => rw [e1] at z; exact z
      | exc _ _ _ => rw [e1] at z; exact z
      | ok x r1 =>
        rw [e1] at z
        have z : QO X.K T xt B W G w H ((((ev F b).v r1).bind fun y r2 => opt (binD .mul x y) r2).out fun d r1 => match d with
          | .list ds => if i < r1.length then .nx (r1.set i (.own ds)) else .bad
          | _ => .bad) Dn := z
        show QO X.K T xt B W G w H ((((ev F b).v r1).bind fun y r2 => match x with
            | .list _ => opt (binD .mul x y) r2
            | _ => .bad).out _) Dn
        cases e2 : (ev F b).v r1 with
        | bad => rw [e2] at z; exact z
        | exc _ _ _ => rw [e2] at z; exact z
        | ok y r2 => rw [e2] at z; exact key x y r2 z
    · exact ff hs
  · rename_i b a
    cases b <;> first | (exact ff h3) | skip
    have hs := h4
    change (match (generalizing := false) ex with
      | .Call (.Name y _) [l] [] _ => (match biNm .list with
        | some (z, _, _) => decide (z = y)
        | Option.none => false) && isGl Γ y && noStar l && (ck a Γ).o l
      | _ => false) = true at hs
    split at hs
    · obtain ⟨k1, k4⟩ := and2 hs
      obtain ⟨k1, k3⟩ := and2 k1
      obtain ⟨k1, k2⟩ := and2 k1
      have e1 := of_decide_eq_true (show decide (("list" : Str) = _) = true from k1)
      subst e1
      exact norm (sf_list (C.gl k2).1 (C.wd.bl _ (by decide)) ((ck_ok a Γ F n X C).o _ k4) k3) rfl
    · exact ff hs
  · rename_i e tg1 it cd own
    have hs := h4
    change (match (generalizing := false) ex with
      | .ListComp el [⟨tx, ix, ifs, 0⟩] scope _ => okIt tx ix && (ck it Γ).i ix && blkC Γ.N Γ.sc scope (ownOf Γ.N own) && ckT (Γ.blk scope) tg1 tx && (ck cd (Γ.blk scope)).c ifs && (ck e (Γ.blk scope)).v el && subN (tgIx tg1) own
      | _ => false) = true at hs
    split at hs
    · obtain ⟨sf, p1, p2, p3, p4, p5, p6, p7⟩ := gd_lc C (ck_ok it Γ F n X C) (fun Γ' Y C' => ck_ok cd Γ' F n Y C') (fun Γ' Y C' => ck_ok e Γ' F n Y C') _ _ _ _ _ _ h4
      rcases Bool.or_eq_true_iff.mp hsw with q | q
      · obtain ⟨q1, q2⟩ := sw_yes (l := p.line) C q
        have := s_asgOLc (p := p) (py := py) (own := ownOf Γ.N own) C.calm nd l1 q2 q1 p1 p2 p3 p4 p5 (by rw [own_ix]; exact p6) p7
        rw [own_ix] at this
        exact this
      · exact norm sf q
    · exact ff hs
end
end Rf
set_option Elab.async false
set_option linter.all false
set_option maxRecDepth 100000
set_option maxHeartbeats 4000000
namespace Rf
open PySem PySem.Spec PyProof.Rows L2 LamX
section
variable {T : List (Addr × Str)} {xt : XT} {X : Cx} {Γ : Gm} {F : Nat → Fn} {n : Nat}
theorem aug_eq {o : Bop} {op : Operator} (h : augEq o op = true) : augOf o = some op := by
  cases o <;> cases op <;> first | rfl | exact ff h
theorem ckS_ok (C : Con T xt Γ F n X) (hp : PassesOwn (model X.prog X.w) X.A X.env X.xe) : ∀ s : S, (∀ st, ckO s Γ st = true → S1 T xt X st (exec F s)) ∧ (∀ sts, ckB s Γ sts = true → SS T xt X sts (exec F s)) := by
  have nd : X.N.Nodup := by rw [C.N]; exact C.nd
  have ev : ∀ e : E, Gd T xt X (ck e Γ) (ev F e) := fun e => ck_ok e Γ F n X C
  intro s
  induction s with
  | skip =>
    refine ⟨fun st h => by cases st <;> exact ff h, fun sts h => ?_⟩
    cases sts with
    | nil => exact ss_nil
    | cons _ _ => exact ff h
  | seq a b ha hb =>
    refine ⟨fun st h => by cases st <;> exact ff h, fun sts h => ?_⟩
    cases sts with
    | nil => exact ff h
    | cons st r =>
      have h : (ckO a Γ st && ckB b Γ r) = true := h
      exact ss_cons (ha.1 st (and2 h).1) (hb.2 r (and2 h).2)
  | asg t e =>
    refine ⟨fun st h => ?_, fun sts h => by cases sts <;> exact ff h⟩
    cases st <;> first | (exact ff h) | skip
    rename_i tgs ex p
    match tgs, h with
    | [tg], h => exact s_asg_ok C h
  | asgO i e =>
    refine ⟨fun st h => ?_, fun sts h => by cases sts <;> exact ff h⟩
    cases st <;> first | (exact ff h) | skip
    rename_i tgs ex p
    match tgs, h with
    | [.Name y py], h => exact s_asgO_ok C h
  | ex e =>
    refine ⟨fun st h => ?_, fun sts h => by cases sts <;> exact ff h⟩
    cases st <;> first | (exact ff h) | skip
    rename_i x p
    have h : ((ck e Γ).v x && noComp x) = true := h
    exact s_ex ((ev e).v x (and2 h).1) (sw_no (and2 h).2)
  | app i e =>
    refine ⟨fun st h => ?_, fun sts h => by cases sts <;> exact ff h⟩
    cases st <;> first | (exact ff h) | skip
    rename_i x p
    match x, h with
    | .Call (.Attribute (.Name y py) f apos) [ex] [] cpos, h =>
      have h : (decide (f = "append") && isVis Γ i y && noStar ex && (apos.endLine == cpos.line) && (ck e Γ).v ex) = true := h
      obtain ⟨h1, h5⟩ := and2 h
      obtain ⟨h1, h4⟩ := and2 h1
      obtain ⟨h1, h3⟩ := and2 h1
      obtain ⟨h1, h2⟩ := and2 h1
      have e1 := of_decide_eq_true h1
      subst e1
      obtain ⟨v1, v2, v3, v4⟩ := C.vis h2
      exact s_app ((ev e).v ex h5) v1 v2 v3 v4 h3 h4
  | setI i k e =>
    refine ⟨fun st h => ?_, fun sts h => by cases sts <;> exact ff h⟩
    cases st <;> first | (exact ff h) | skip
    rename_i tgs ex p
    match tgs, h with
    | [.Subscript (.Name y py) kx sp], h =>
      have h : (isVis Γ i y && noSlice kx && (ck k Γ).v kx && (ck e Γ).v ex) = true := h
      obtain ⟨h1, h4⟩ := and2 h
      obtain ⟨h1, h3⟩ := and2 h1
      obtain ⟨h1, h2⟩ := and2 h1
      obtain ⟨v1, v2, v3, v4⟩ := C.vis h1
      exact s_setI ((ev e).v ex h4) ((ev k).v kx h3) v1 v2 v3 v4 (sub_asg h2)
  | aug i o e =>
    refine ⟨fun st h => ?_, fun sts h => by cases sts <;> exact ff h⟩
    cases st <;> first | (exact ff h) | skip
    rename_i tg op ex p
    match tg, h with
    | .Name y py, h =>
      have h : (augEq o op && isLoc Γ i y && (ck e Γ).v ex) = true := h
      obtain ⟨h1, h3⟩ := and2 h
      obtain ⟨h1, h2⟩ := and2 h1
      obtain ⟨l1, l2, l3⟩ := C.loc h2
      exact s_aug ((ev e).v ex h3) nd l1 l2 l3 (aug_eq h1)
  | ret e =>
    refine ⟨fun st h => ?_, fun sts h => by cases sts <;> exact ff h⟩
    cases st <;> first | (exact ff h) | skip
    rename_i o p
    cases o with
    | none => exact ff h
    | some x => exact s_ret ((ev e).v x h)
  | retN =>
    refine ⟨fun st h => ?_, fun sts h => by cases sts <;> exact ff h⟩
    cases st <;> first | (exact ff h) | skip
    rename_i o p
    cases o with
    | none => exact s_retN
    | some x => exact ff h
  | iff c a b ha hb =>
    refine ⟨fun st h => ?_, fun sts h => by cases sts <;> exact ff h⟩
    cases st <;> first | (exact ff h) | skip
    rename_i cx sa sb p
    have h : ((ck c Γ).t cx && ckB a Γ sa && ckB b Γ sb) = true := h
    obtain ⟨h1, h3⟩ := and2 h
    exact s_if ((ev c).t cx (and2 h1).1) (ha.2 sa (and2 h1).2) (hb.2 sb h3)
  | forr t it b hb =>
    refine ⟨fun st h => ?_, fun sts h => by cases sts <;> exact ff h⟩
    cases st <;> first | (exact ff h) | skip
    rename_i tg ix body orelse p
    match orelse, h with
    | [], h =>
      have h : (okIt tg ix && ckT Γ t tg && (ck it Γ).i ix && ckB b Γ body) = true := h
      obtain ⟨h1, h4⟩ := and2 h
      obtain ⟨h1, h3⟩ := and2 h1
      obtain ⟨h1, h2⟩ := and2 h1
      exact s_for hp C.calm ((ev it).i ix h3 tg h1) (ckT_ok C h2) (hb.2 body h4) (set_ok h1)
  | whl m c b hb =>
    refine ⟨fun st h => ?_, fun sts h => by cases sts <;> exact ff h⟩
    cases st <;> first | (exact ff h) | skip
    rename_i cx body orelse p
    match orelse, h with
    | [], h =>
      have h : ((ck c Γ).t cx && ckB b Γ body) = true := h
      exact s_whl hp ((ev c).t cx (and2 h).1) (hb.2 body (and2 h).2)
  | brk =>
    refine ⟨fun st h => ?_, fun sts h => by cases sts <;> exact ff h⟩
    cases st <;> first | (exact ff h) | exact s_brk
  | cont =>
    refine ⟨fun st h => ?_, fun sts h => by cases sts <;> exact ff h⟩
    cases st <;> first | (exact ff h) | exact s_cont
  | rais x e =>
    refine ⟨fun st h => ?_, fun sts h => by cases sts <;> exact ff h⟩
    cases st <;> first | (exact ff h) | skip
    rename_i o c p
    match o, c, h with
    | some (.Call (.Name y pn) [ex] [] cp), none, h =>
      have h : (decide (exNames[x]? = some y) && decide (x < Γ.nx) && isGl Γ y && noStar ex && (ck e Γ).v ex) = true := h
      obtain ⟨h1, h5⟩ := and2 h
      obtain ⟨h1, h4⟩ := and2 h1
      obtain ⟨h1, h3⟩ := and2 h1
      obtain ⟨h1, h2⟩ := and2 h1
      obtain ⟨g1, g2⟩ := C.gl h3
      obtain ⟨lv, k1, k2⟩ := C.wd.exs x y (of_decide_eq_true h1) (Nat.lt_of_lt_of_le (of_decide_eq_true h2) C.nx)
      exact s_rais C.calm k2 (C.room.mono k1) g1 g2 ((ev e).v ex h5) h4
end
end Rf
set_option Elab.async false
set_option linter.all false
set_option maxRecDepth 100000
set_option maxHeartbeats 4000000
/-! a whole text of defs, by levels -/
namespace Rf
open PySem PySem.Spec PyProof.Rows L2 LamX
structure FDc where
  nm : Str
  N : List Str
  k : Nat
  j : Option Nat
  body : S
  gen : Bool := false
def badF : Fn := fun _ _ => .bad
/-- what the defs do, n levels deep -/
def Gs (fs : List FDc) : Nat → Nat → Fn
  | 0, _ => badF
  | 1, _ => badF
  | n + 2, i => match fs[i]? with
    | some d => runF (Gs fs (n + 1)) d.body d.N.length d.k d.j
    | none => badF
/-- two steps that stand for the way into an exception's __init__ -/
def vd (f : Nat) : FDc := { nm := "", N := ["value"], k := 1, j := none, body := .seq (.ret (.call f (.cons (.var 0) .nil))) .skip }
def tabOf (fs : List FDc) : List (Str × Nat × Option Nat) := fs.map fun d => (d.nm, d.k, d.j)
def gmOf (fs : List FDc) (cs : List (Str × D)) (nx : Nat) (d : FDc) (st : Stmt) : Gm := { sc := defScope st, N := d.N, fn := fun _ => true, tab := tabOf fs, cs := cs, lam := false, gen := d.gen, nx := nx }
section
variable (T : List (Addr × Str)) (xt : XT) (P : Program) (w : World) (K : PySem.W.Frag) (mg : Str → Option Value) (base : Heap)
structure GenF (fd : FuncData) (q : Str) : Prop where
  ex : ∃ c Pt f, fd.code = .ref c ∧ LamX.TabB base mg c Pt ∧ (Pt, q ++ ".<locals>." ++ "<genexpr>") ∈ T ∧ (∀ p ∈ T, p.1 = Pt → p.2 = q ++ ".<locals>." ++ "<genexpr>") ∧ IntFn K mg f ∧ mg "is_integer" = some (.ref f) ∧ PySem.W.keepIn K (.ref f) = true
/-- a def of the text and its compact form -/
structure FnI (fs : List FDc) (cs : List (Str × D)) (nx : Nat) (d : FDc) : Prop where
  ex : ∃ (qual : Str) (st : Stmt) (f : Addr) (fd : FuncData) (ps : List Str), L2.Fun K d.nm qual st f fd ∧ FnScope d.N ps (defScope st) ∧ mg d.nm = some (.ref f) ∧ L2.Binds K fd ps [] ∧ d.k = ps.length ∧ ckB d.body (gmOf fs cs nx d st) (defBody st) = true ∧ (d.gen = true → GenF T K mg base fd qual)
/-- an exception class whose __init__ is self.f = as_tuples(p) -/
structure ExI (C : Addr) (f : Str) (x : Str) : Prop where
  ex : ∃ (qual : Str) (st : Stmt) (fI : Addr) (fd : FuncData) (p : Str) (p1 p2 p3 p4 p5 p6 : Pos), mg x = some (.ref C) ∧ ExC K C f ∧ PySem.W.findIn K (.ref C) "__init__" = some (some (.ref fI)) ∧ PySem.W.typeIn K (.ref fI) = some (.type "function") ∧
    L2.Fun K "__init__" qual st fI fd ∧ FnScope ["self", p] ["self", p] (defScope st) ∧ L2.Binds K fd ["self", p] [] ∧ defBody st = [.Assign [.Attribute (.Name "self" p1) f p2] (.Call (.Name "as_tuples" p3) [.Name p p4] [] p5) p6] ∧
    okNm p = true ∧ (defScope st).names.lookup ("as_tuples" : Str) = some .globalImplicit ∧ Vis (defScope st) p ∧ Vis (defScope st) "self"
structure Stat (fs : List FDc) (cs : List (Str × D)) : Prop where
  fn : ∀ (i : Nat) (d : FDc), fs[i]? = some d → d.nm ≠ ("" : Str) → FnI T K mg base fs cs xt.length d
  as : ∃ d, fs[0]? = some d ∧ d.nm = ("as_tuples" : Str) ∧ d.k = 1 ∧ d.j = none
  v1 : fs[1]? = some (vd 0)
  v2 : fs[2]? = some (vd 1)
  exs : ∀ (e : Nat) (x : Str), exNames[e]? = some x → e < xt.length → ∃ C f, xt[e]? = some (C, f) ∧ ExI K mg C f x
  bl : ∀ x ∈ blNames, mg x = none
  cs : ∀ p ∈ cs, (∃ v u, mg p.1 = some u ∧ RelV v u ∧ ∀ G, Dq K G v p.2) ∨ ∃ k, p.2 = itD k ∧ mg p.1 = some (itV k)
end
section
variable {T : List (Addr × Str)} {xt : XT} {P : Program} {w : World} {K : PySem.W.Frag} {mg : Str → Option Value} {base : Heap} {fs : List FDc} {cs : List (Str × D)}
/-- as fnS_of, the code object told -/
theorem fnS_of' {x qual : Str} {st : Stmt} {f : Addr} {fd : FuncData} {N ps : List Str} {lv : Nat} {j : Option Nat} {F : Nat → Fn} {b : S} (Fu : L2.Fun K x qual st f fd) (Sc : FnScope N ps (defScope st)) (hm : mg x = some (.ref f)) (hb : L2.Binds K fd ps [])
    (hbody : ∀ (cdv : Value) (A : Around) (outer : List Env) (s : Shared) (H : Hp) (E : XK), cdv = fd.code → Room lv (A.deeper (envOfC qual (defScope st) s.heap.objs.size f cdv)) → SS T xt (cxOf (L2.CX P w) P w K mg base N qual (defScope st) f cdv A outer s H E) (defBody st) (exec F b)) :
    FnS T xt P w K mg base (lv + 1) x (runF F b N.length ps.length j) ps.length j := by
  have hpN : ps.length ≤ N.length := by
    have := congrArg List.length Sc.pre
    rw [List.length_take] at this
    omega
  have Fu0 := Fu
  obtain ⟨oc, od, kV, doc, pm, an, cdv, ct, osl, efd, lk, hcd⟩ := Fu.ex
  have ecd : cdv = fd.code := by rw [efd]
  rw [efd] at lk hb
  refine ⟨⟨f, fd, ps, ?_, hm, Fu.kp, by rw [efd]; exact hb⟩, fun ds cs h => ?_⟩
  · rw [efd]
    refine fn_of lk hcd Sc (fun vs H Q E h => h.1) fun A outer s H vs Q E hr hsp => ?_
    obtain ⟨t, p, q⟩ := hbody cdv A outer s H E ecd hr (fun cls d _ H => E cls d H) (takes_of rfl rfl rfl rfl)
    refine ⟨t, p, ?_⟩
    obtain ⟨hl, G, ds, cs, hs, ht, hnt, ha, hφ⟩ := hsp
    unfold runF at hφ
    by_cases hk : ds.length + (if j.isSome then 1 else 0) = ps.length
    · rw [if_pos hk] at hφ
      have key : ∀ (w : Wn), RR K T ⟨G, H, lentOf j vs⟩ G w (start0 N.length j ds cs) (L2.start N vs) H → QO K T xt ⟨G, H, lentOf j vs⟩ (fun cls d _ H => E cls d H) G w H (exec F b (start0 N.length j ds cs)) { nx := fun _ H' => Q .non H', rt := Q } := by
        intro w R
        cases eo : exec F b (start0 N.length j ds cs) with
        | nx r' =>
          simp only [eo] at hφ
          cases ei : ioAt j r' with
          | none => simp only [ei] at hφ
          | some cs' =>
            simp only [ei] at hφ
            exact fun σ' G' w' H' R' _ => hφ .non G' H' (pst_of R' ei) .non
        | rt d r' =>
          simp only [eo] at hφ
          cases ei : ioAt j r' with
          | none => simp only [ei] at hφ
          | some cs' =>
            simp only [ei] at hφ
            exact fun v σ' G' w' H' R' _ dv => hφ v G' H' (pst_of R' ei) dv
        | bk r' => simp only [eo] at hφ
        | ct r' => simp only [eo] at hφ
        | bad => simp only [eo] at hφ
        | exc x d r' =>
          simp only [eo] at hφ
          cases j with
          | some k => simp only [Option.isSome_some, if_true] at hφ
          | none =>
            simp only [Option.isSome_none, Bool.false_eq_true, if_false] at hφ
            exact fun c f dx v σ' G' w' H' hx R' _ hdx dv => hφ.2 c f dx v G' H' hx (Pst.plain (pst_of (cs' := []) R' rfl)) hdx dv
      cases j with
      | none =>
        obtain ⟨hd, rfl⟩ := ha
        have R := rr_start0 (K := K) (T := T) (N := N) (by omega) hs ht hnt hd
        exact q _ _ _ _ _ _ _ R (key _ R)
      | some k =>
        obtain ⟨a, ws, h1, h2, h3, h4, h5⟩ := ha
        have R := rr_start1 (K := K) (T := T) (N := N) (cs := cs) (by omega) hs ht hnt h1 h2 h3 h4 h5
        have el : lentOf (some k) vs = some a := by unfold lentOf; simp only [h1]
        rw [el] at key
        exact q _ _ _ _ _ _ _ R (key _ R)
    · rw [if_neg hk] at hφ
      exact hφ.elim
  · unfold runF at h
    by_cases hk : ds.length + (if j.isSome then 1 else 0) = ps.length
    · exact hk
    · rw [if_neg hk] at h; exact absurd rfl h
theorem fn_vac {k : Nat} {f : Addr} {fd : FuncData} {ps : List Str} {sp : Sp} (h : ∀ vs H Q E, ¬ sp vs H Q E) : FnOk P w K mg base (L2.CX P w) k f fd ps sp := ⟨fun vs H Q E z => absurd z (h vs H Q E), fun A outer s H args us vs Q E _ _ _ _ z => absurd z (h vs H Q E)⟩
theorem FnOk.imp {k : Nat} {f : Addr} {fd : FuncData} {ps : List Str} {sp sp' : Sp} (F : FnOk P w K mg base (L2.CX P w) k f fd ps sp) (h : ∀ vs H Q E, sp' vs H Q E → sp vs H Q E) : FnOk P w K mg base (L2.CX P w) k f fd ps sp' :=
  ⟨fun vs H Q E z => F.len vs H Q E (h vs H Q E z), fun A outer s H args us vs Q E hr e0 hb r z => F.run A outer s H args us vs Q E hr e0 hb r (h vs H Q E z)⟩
theorem tab_get {i : Nat} {x : Str} {k : Nat} {j : Option Nat} (h : (tabOf fs)[i]? = some (x, k, j)) : ∃ d, fs[i]? = some d ∧ d.nm = x ∧ d.k = k ∧ d.j = j := by
  unfold tabOf at h
  rw [List.getElem?_map] at h
  cases e : fs[i]? with
  | none => rw [e] at h; cases h
  | some d => rw [e] at h; cases h; exact ⟨d, rfl, rfl, rfl, rfl⟩
theorem vd_run {f n : Nat} {G : Nat → Fn} {d : D} : runF G (vd f).body (vd f).N.length (vd f).k (vd f).j [d] [] = (match G f [d] [] with
    | .ok d _ => .ok d []
    | .exc x d => .exc x d
    | .bad => .bad) := by
  cases e : G f [d] [] <;> simp [runF, vd, exec, ev, vCall, aCons, vVar, Sm.val, Sm.mk1, give, start0, Res.bind, Res.out, Out.then, ioAt, e]
/-- the way of an exception's argument -/
theorem two_ok (St : Stat T xt K mg base fs cs) {n : Nat} {d dd : D} {c : List D} (h : Gs fs n 2 [d] [] = .ok dd c) : ∃ m, n = m + 2 ∧ ∃ c', Gs fs m 0 [d] [] = .ok dd c' := by
  match n, h with
  | 0, h => cases h
  | 1, h => cases h
  | n + 2, h =>
    unfold Gs at h
    rw [St.v2] at h
    rw [show (match some (vd 1) with
      | some d => runF (Gs fs (n + 1)) d.body d.N.length d.k d.j
      | none => badF) = runF (Gs fs (n + 1)) (vd 1).body (vd 1).N.length (vd 1).k (vd 1).j from rfl, vd_run (n := 0)] at h
    cases e : Gs fs (n + 1) 1 [d] [] with
    | bad => rw [e] at h; cases h
    | exc _ _ => rw [e] at h; cases h
    | ok d1 c1 =>
      rw [e] at h
      cases h
      match n, e with
      | 0, e => cases e
      | n + 1, e =>
        unfold Gs at e
        rw [St.v1] at e
        rw [show (match some (vd 0) with
          | some d => runF (Gs fs (n + 1)) d.body d.N.length d.k d.j
          | none => badF) = runF (Gs fs (n + 1)) (vd 0).body (vd 0).N.length (vd 0).k (vd 0).j from rfl, vd_run (n := 0)] at e
        cases e2 : Gs fs (n + 1) 0 [d] [] with
        | bad => rw [e2] at e; cases e
        | exc _ _ => rw [e2] at e; cases e
        | ok d2 c2 =>
          rw [e2] at e
          cases e
          exact ⟨n + 1, rfl, c2, e2⟩
end
end Rf
set_option Elab.async false
set_option linter.all false
set_option maxRecDepth 100000
set_option maxHeartbeats 4000000
namespace Rf
open PySem PySem.Spec PyProof.Rows L2 LamX
section
variable {T : List (Addr × Str)} {xt : XT} {P : Program} {w : World} {K : PySem.W.Frag} {mg : Str → Option Value} {base : Heap} {fs : List FDc} {cs : List (Str × D)}
theorem exS_of (St : Stat T xt K mg base fs cs) {n : Nat} (ih : ∀ m, m ≤ n → ∀ i d, fs[i]? = some d → d.nm ≠ ("" : Str) → FnS T xt P w K mg base m d.nm (Gs fs m i) d.k d.j) {e : Nat} {x : Str} (he : exNames[e]? = some x) (hl : e < xt.length) : ExS T xt P w K mg base n e x (Gs fs (n + 1) 2) := by
  obtain ⟨C, f, hxt, Ex⟩ := St.exs e x he hl
  obtain ⟨qual, st, fI, fd, p, p1, p2, p3, p4, p5, p6, hm, ec, iC, tI, Fu, Sc, hb, hbody, okp, hg, vp, vs⟩ := Ex.ex
  obtain ⟨d0, a1, a2, a3, a4⟩ := St.as
  refine ⟨C, f, fI, fd, p, hxt, hm, ec, iC, tI, ?_, hb⟩
  cases n with
  | zero =>
    refine fn_vac fun vs H Q E z => ?_
    obtain ⟨G, d, dd, a, v, _, _, _, _, _, _, _, ⟨c, hφ⟩, _⟩ := z
    cases hφ
  | succ m =>
    have F0 := ih m (Nat.le_succ m) 0 d0 a1 (by rw [a2]; decide)
    rw [a2, a3, a4] at F0
    have := fnI_of (p0 := p1) (p1 := p1) (p2 := p2) (p3 := p3) (p4 := p4) (p5 := p5) (p6 := p6) Fu Sc ec hbody F0 (by decide) (okNm_by okp).1 (okNm_by okp).2 hg vp vs
    refine this.imp fun vs H Q E z => ?_
    obtain ⟨G, d, dd, a, v, z1, z2, z3, z4, z5, z6, z7, ⟨c, hφ⟩, z9⟩ := z
    obtain ⟨m', em, c', h'⟩ := two_ok St hφ
    have : m' = m := by omega
    subst this
    exact ⟨G, d, dd, a, v, z1, z2, z3, z4, z5, z6, z7, ⟨c', h'⟩, z9⟩
theorem wd_of (St : Stat T xt K mg base fs cs) {n : Nat} {F : Nat → Fn} (hF : ∀ i, i < fs.length ∨ i = 2 → F i = Gs fs (n + 1) i) (ih : ∀ m, m ≤ n + 1 → ∀ i d, fs[i]? = some d → d.nm ≠ ("" : Str) → FnS T xt P w K mg base m d.nm (Gs fs m i) d.k d.j) : Wd T xt (tabOf fs) cs F (n + 1) P w K mg base where
  fns := fun i x k j h ne => by
    obtain ⟨d, h1, rfl, rfl, rfl⟩ := tab_get h
    rw [hF i (.inl (List.getElem?_eq_some_iff.mp h1).1)]
    exact ih (n + 1) (Nat.le_refl _) i d h1 ne
  exs := fun e x he hl => ⟨n, Nat.le_refl _, by
    rw [hF 2 (.inr rfl)]
    exact exS_of St (fun m hm => ih m (Nat.le_succ_of_le hm)) he hl⟩
  bl := St.bl
  cs := St.cs
theorem lv_all (St : Stat T xt K mg base fs cs) : ∀ n i d, fs[i]? = some d → d.nm ≠ ("" : Str) → FnS T xt P w K mg base n d.nm (Gs fs n i) d.k d.j := by
  have vac : ∀ n i d, fs[i]? = some d → d.nm ≠ ("" : Str) → Gs fs n i = badF → FnS T xt P w K mg base n d.nm (Gs fs n i) d.k d.j := fun n i d h ne e => by
    obtain ⟨qual, st, f, fd, ps, Fu, Sc, hm, hb, hk, hck, hgen⟩ := (St.fn i d h ne).ex
    rw [e]
    refine ⟨⟨f, fd, ps, fn_vac fun vs H Q E z => ?_, hm, Fu.kp, hb⟩, fun ds cs z => absurd rfl z⟩
    obtain ⟨_, G, ds, cs, _, _, _, _, z⟩ := z
    exact z
  intro n
  induction n using Nat.strongRecOn with
  | ind n ih =>
    match n, ih with
    | 0, ih => exact fun i d h ne => vac 0 i d h ne rfl
    | 1, ih => exact fun i d h ne => vac 1 i d h ne rfl
    | n + 2, ih =>
      intro i d h ne
      obtain ⟨qual, st, f, fd, ps, Fu, Sc, hm, hb, hk, hck, hgen⟩ := (St.fn i d h ne).ex
      have eG : Gs fs (n + 2) i = runF (Gs fs (n + 1)) d.body d.N.length d.k d.j := by
        show (match fs[i]? with
          | some d => runF (Gs fs (n + 1)) d.body d.N.length d.k d.j
          | none => badF) = _
        rw [h]
      rw [eG, hk]
      refine fnS_of' Fu Sc hm hb fun cdv A outer s H E ecd hr => ?_
      refine (ckS_ok (Γ := gmOf fs cs xt.length d st) (n := n + 1) ⟨rfl, rfl, Sc.nd, fun _ _ => rfl, rfl, Nat.le_refl _, hr, ?_, fun z => ff z, fun z => ?_⟩ (passes_of rfl) d.body).2 _ hck
      · exact wd_of St (fun _ _ => rfl) fun m hm => ih m (by omega)
      · obtain ⟨c, Pt, f2, g1, g2, g3, g4, g5, g6, g7⟩ := (hgen z).ex
        refine ⟨c, Pt, f2, ?_, g2, g3, g4, g5, g6, g7⟩
        show cdv = _
        rw [ecd, g1]
/-! ### the law -/
def noT (H : Hp) : Hp := fun a => match H a with
  | some (.tbl _) => none
  | x => x
theorem noT_sub (H : Hp) : Sub (noT H) H := fun a o h => by
  unfold noT at h
  split at h
  · cases h
  · exact h
theorem noT_nt (H : Hp) : NT (noT H) := fun a o h ps e => by
  unfold noT at h
  split at h
  · cases h
  · rename_i hn
    rw [e] at h
    exact hn ps h
theorem noT_sqL {a : Addr} {xs : List V} {H : Hp} (h : SqL K H a xs) : SqL K (noT H) a xs := by
  have k : ∀ o, H a = some o → noTbl o → noT H a = some o := fun o e n => by
    unfold noT
    split
    · rename_i ps q; rw [e] at q; cases q; exact absurd rfl (n ps)
    · exact e
  rcases h with (h | ⟨o, h⟩) | h
  · exact .inl (.inl (k _ h fun ps z => nomatch z))
  · exact .inl (.inr ⟨o, k _ h fun ps z => nomatch z⟩)
  · exact .inr h
/-- the table of functions for the law: at 1000 and on those that a lambda's body calls -/
def Fl (fs : List FDc) (L : Nat) (i : Nat) : Fn := if i < 1000 then Gs fs L i else Gs fs (L - 2) (i - 1000)
def lawSp (K : PySem.W.Frag) (T : List (Addr × Str)) (m : Nat) : Sp := fun vs H Q _ => ∃ (a : Addr) (ns : List Int), vs = [.ref a] ∧ ns.length ≤ m ∧ Tabs T H ∧ SqL K H a (ns.map V.int) ∧ ∀ H', Q (.bl true) H'
structure LawI (T : List (Addr × Str)) (xt : XT) (P : Program) (w : World) (K : PySem.W.Frag) (mg : Str → Option Value) (base : Heap) (fs : List FDc) (cs : List (Str × D)) (N : List Str) (ps : List Str) (body : S) (x qual : Str) (st : Stmt) (f : Addr) (fd : FuncData) : Prop where
  Fu : L2.Fun K x qual st f fd
  Sc : FnScope N ps (defScope st)
  one : ps.length = 1
  ck : ckB body { sc := defScope st, N := N, fn := fun _ => true, tab := tabOf fs, cs := cs, lam := true, gen := false, nx := xt.length } (defBody st) = true
  lam : ∃ c Pt, fd.code = .ref c ∧ LamX.TabB base mg c Pt ∧ (Pt, qual ++ ".<locals>." ++ "<lambda>") ∈ T ∧ (∀ p ∈ T, p.1 = Pt → p.2 = qual ++ ".<locals>." ++ "<lambda>") ∧ ToldS xt P w K mg base "_law_told" exNames
  short : fs.length ≤ 1000
theorem law_ok (St : Stat T xt K mg base fs cs) {N ps : List Str} {body : S} {x qual : Str} {st : Stmt} {f : Addr} {fd : FuncData} {L m : Nat} (I : LawI T xt P w K mg base fs cs N ps body x qual st f fd)
    (hm : ∀ ns : List Int, ns.length ≤ m → ∃ r, exec (Fl fs (L + 3)) body (start0 N.length none [scrD ns] []) = .rt (.bool true) r) : FnOk P w K mg base (L2.CX P w) (L + 4) f fd ps (lawSp K T m) := by
  obtain ⟨oc, od, kV, doc, pm, an, cdv, ct, osl, efd, lk, hcd⟩ := I.Fu.ex
  have ecd : cdv = fd.code := by rw [efd]
  rw [efd] at lk ⊢
  have hpN : 1 ≤ N.length := by
    have := congrArg List.length I.Sc.pre
    rw [List.length_take, I.one] at this
    omega
  refine fn_of lk hcd I.Sc (fun vs H Q E h => ?_) fun A outer s H vs Q E hr hsp => ?_
  · obtain ⟨a, ns, rfl, _⟩ := h
    rw [I.one]; rfl
  · have all : ∀ m, ∀ i d, fs[i]? = some d → d.nm ≠ ("" : Str) → FnS T xt P w K mg base m d.nm (Gs fs m i) d.k d.j := lv_all St
    have C : Con T xt { sc := defScope st, N := N, fn := fun _ => true, tab := tabOf fs, cs := cs, lam := true, gen := false, nx := xt.length } (Fl fs (L + 3)) (L + 3) (cxOf (L2.CX P w) P w K mg base N qual (defScope st) f cdv A outer s H E) := by
      refine ⟨rfl, rfl, I.Sc.nd, fun _ _ => rfl, rfl, Nat.le_refl _, hr, ?_, fun _ => ?_, fun z => ff z⟩
      · refine wd_of St (n := L + 2) (fun i hi => ?_) fun m _ => all m
        unfold Fl
        rw [if_pos]
        rcases hi with h | h
        · exact Nat.lt_of_lt_of_le h I.short
        · omega
      · obtain ⟨c, Pt, g1, g2, g3, g4, g5⟩ := I.lam
        refine ⟨c, Pt, ?_, g2, g3, g4, g5, by omega, ?_⟩
        · show cdv = _
          rw [ecd, g1]
        · refine wd_of St (n := L) (fun i _ => ?_) fun m _ => all m
          show Fl fs (L + 3) (i + 1000) = _
          unfold Fl
          rw [if_neg (by omega), Nat.add_sub_cancel]
          rfl
    obtain ⟨t, p, q⟩ := (ckS_ok C (passes_of rfl) body).2 _ I.ck _ (takes_of rfl rfl rfl rfl)
    refine ⟨t, p, ?_⟩
    obtain ⟨a, ns, rfl, hl, hT, hq, fin⟩ := hsp
    obtain ⟨r, er⟩ := hm ns hl
    have R := rr_start0 (K := K) (T := T) (N := N) (vs := [.ref a]) (ds := [scrD ns]) hpN (noT_sub H) hT (noT_nt H) (.cons (.scr (noT_sqL hq)) .nil)
    refine q _ _ _ _ _ _ _ R ?_
    rw [er]
    intro v σ' G' w' H' R' S' dv
    have dv : Dq K G' v (.bool true) := dv
    cases dv
    exact fin H'
end
end Rf
set_option Elab.async false
set_option linter.all false
set_option maxRecDepth 100000
set_option maxHeartbeats 4000000
/-! the end: a text's facts gathered -/
namespace Rf
open PySem PySem.Spec PyProof.Rows L2 LamX
section
variable {T : List (Addr × Str)} {K : PySem.W.Frag} {mg : Str → Option Value} {base h : Heap} {fs : List FDc} {cs : List (Str × D)} {nx : Nat}
/-- a def that stands behind the top -/
theorem def_mk (X : K.In h) (G : h.Ns mainGlobals mg) (nm : Str) (st : Stmt) {f : Addr} {oc : Value} {od an : Option Addr} {osl : Array (Option Value)} {kV doc pm cdv ct : Value}
    (a : PySem.W.nsIn K mainGlobals nm = some (some (.ref f))) (l : K.lookup f = some ⟨oc, od, .func (PySem.W.fnOf nm nm (defArgs st) (defBody st) (defScope st) .none kV doc pm an cdv ct), osl⟩) (c : PySem.W.codeIn K cdv nm = true) (k : PySem.W.keepIn K (.ref f) = true) :
    ∃ fd, L2.Fun K nm nm st f fd ∧ mg nm = some (.ref f) ∧ fd.code = cdv := ⟨_, fun_mk l c k, PySem.W.mg_of X G a, rfl⟩
theorem fnI_mk (d : FDc) {nm : Str} {st : Stmt} {ps : List Str} {f : Addr} {fd : FuncData} (hn : d.nm = nm) (Fu : L2.Fun K nm nm st f fd) (hm : mg nm = some (.ref f)) (sc : FnScope d.N ps (defScope st)) (hb : L2.Binds K fd ps []) (hk : d.k = ps.length) (ck : ckB d.body (gmOf fs cs nx d st) (defBody st) = true) (hg : d.gen = true → GenF T K mg base fd nm) : FnI T K mg base fs cs nx d := by
  subst hn
  exact ⟨_, st, f, fd, ps, Fu, sc, hm, hb, hk, ck, hg⟩
def isH (x n f nm : Str) (h : ExceptHandler) : Prop := ∃ (np p1 p2 p3 p4 p5 hp : Pos) (j m : Nat), h = .ExceptHandler (some (.Name x np)) (some n) [.Return (some (.Tuple [.Constant (.str nm) j p1, .Attribute (.Name n p2) f p3] m p4)) p5] hp
/-- the body of _law_told -/
def told8 (b : List Stmt) : Prop := ∃ (p1 p2 p3 p4 p5 p6 : Pos) (j m : Nat) (h0 h1 h2 h3 h4 h5 h6 h7 : ExceptHandler), b = [.Try [.Return (some (.Tuple [.Constant (.str "value") j p1, .Call (.Name "deed" p2) [] [] p3] m p4)) p5] [h0, h1, h2, h3, h4, h5, h6, h7] [] [] p6] ∧
  isH "BadValue" "why" "at" "BadValue" h0 ∧ isH "BadText" "why" "at" "BadText" h1 ∧ isH "Ring" "why" "numbers" "Ring" h2 ∧ isH "Closed" "why" "day" "Closed" h3 ∧ isH "TakenDay" "why" "day" "TakenDay" h4 ∧ isH "TakenSeat" "why" "seat" "TakenSeat" h5 ∧ isH "FreeSeat" "why" "seat" "FreeSeat" h6 ∧ isH "NoRevision" "why" "number" "NoRevision" h7
theorem never_of {X : Cx} {x n f nm : Str} {h : ExceptHandler} {C : Addr} {hds : List ExceptHandler} {l : List (Value × Suite)} (k : isH x n f nm h) (hg : Gl X x) (hx : (x == ("__debug__" : Str)) = false) (hm : X.mg x = some (.ref C)) (r : ClsOk X n hds l) : ClsOk X n (h :: hds) ((.ref C, fun _ _ _ => tNever) :: l) := by
  obtain ⟨np, p1, p2, p3, p4, p5, hp, j, m, rfl⟩ := k
  exact cl_never (i := 0) ⟨hg, hx, .inl hm⟩ r
theorem first_of {X : Cx} {i : Nat} {x n f nm : Str} {h : ExceptHandler} {C : Addr} {hds : List ExceptHandler} {rest : List (Value × Suite)} (k : isH x n f nm h) (hg : Gl X x) (hx : (x == ("__debug__" : Str)) = false) (hm : X.mg x = some (.ref C)) (xf : XfC X.K C) (hno : PySem.W.findIn X.K (.ref C) f = some none) (hN : X.N[i]? = some n) (hv : Vis X.env.scope n) (hd : (n == ("__debug__" : Str)) = false) (hcd : (n == ("__classdict__" : Str)) = false) (r : ClsOk X n hds (clsOf X.K i [] ++ rest)) :
    ClsOk X n (h :: hds) (clsOf X.K i [⟨C, f, nm⟩] ++ rest) := by
  obtain ⟨np, p1, p2, p3, p4, p5, hp, j, m, rfl⟩ := k
  exact cl_next (k := ⟨C, f, nm⟩) ⟨hg, hx, .inl hm⟩ xf hno hN hv hd hcd r
/-- only BadValue is let out of a deed -/
theorem toldS_mk {P : Program} {w : World} {st : Stmt} {g C0 C1 C2 C3 C4 C5 C6 C7 : Addr} {fd : FuncData} (Fu : L2.Fun K "_law_told" "_law_told" st g fd) (hm : mg "_law_told" = some (.ref g)) (sc : FnScope ["deed", "why"] ["deed"] (defScope st)) (hb : L2.Binds K fd ["deed"] []) (body : told8 (defBody st)) (vd : Vis (defScope st) "deed") (lw : (defScope st).names.lookup ("why" : Str) = some .local)
    (m0 : mg "BadValue" = some (.ref C0)) (m1 : mg "BadText" = some (.ref C1)) (m2 : mg "Ring" = some (.ref C2)) (m3 : mg "Closed" = some (.ref C3)) (m4 : mg "TakenDay" = some (.ref C4)) (m5 : mg "TakenSeat" = some (.ref C5)) (m6 : mg "FreeSeat" = some (.ref C6)) (m7 : mg "NoRevision" = some (.ref C7))
    (g8 : ∀ x ∈ exNames, (defScope st).names.lookup x = some .globalImplicit) (xf : XfC K C0) (no : PySem.W.findIn K (.ref C0) "at" = some none) (em : PySem.W.exmOne K (.ref C0) (.ref C0) = some true) : ToldS [(C0, "at")] P w K mg base "_law_told" exNames := by
  obtain ⟨oc, od, kV, doc, pm, an, cdv, ct, osl, rfl, lk, hcd⟩ := Fu.ex
  refine ⟨g, defArgs st, defBody st, defScope st, .none, kV, doc, pm, cdv, ct, oc, an, od, osl, ["deed", "why"], "deed", hm, Fu.kp, lk, hcd, hb, sc, rfl, vd, by decide, by decide, fun X q eP ew eK em' eb => ?_⟩
  subst eP ew eK em' eb
  obtain ⟨p1, p2, p3, p4, p5, p6, j, m, h0, h1, h2, h3, h4, h5, h6, h7, ebody, k0, k1, k2, k3, k4, k5, k6, k7⟩ := body
  rw [ebody]
  have gl : ∀ (A : Around) (outer : List Env) (s : Shared) (H : Hp) (x : Str), x ∈ exNames → Gl (cxOf C8.CX0 X.prog X.w X.K X.mg X.base ["deed", "why"] "_law_told" (defScope st) g cdv A outer s H C8.E0).nox x := fun A outer s H x hx => g8 x hx
  refine told_gives (l := [⟨C0, "at", "BadValue"⟩]) (rest := [(.ref C1, fun _ _ _ => tNever), (.ref C2, fun _ _ _ => tNever), (.ref C3, fun _ _ _ => tNever), (.ref C4, fun _ _ _ => tNever), (.ref C5, fun _ _ _ => tNever), (.ref C6, fun _ _ _ => tNever), (.ref C7, fun _ _ _ => tNever)]) rfl (by decide) lw (fun x k e => ?_) rfl (fun x k e => ?_) (fun x y k k' e1 e2 hle => ?_) fun A outer s H => ?_
  · cases x with
    | zero => cases e; rfl
    | succ x => simp at e
  · cases x with
    | zero => cases e; rfl
    | succ x => simp at e
  · cases x with
    | zero =>
      cases e1
      have : y = 0 := by omega
      subst this
      cases e2
      exact em
    | succ x => simp at e1
  · refine first_of k0 (gl A outer s H _ (by decide)) (by decide) m0 xf no rfl (.inl lw) (by decide) (by decide) ?_
    exact never_of k1 (gl A outer s H _ (by decide)) (by decide) m1 (never_of k2 (gl A outer s H _ (by decide)) (by decide) m2 (never_of k3 (gl A outer s H _ (by decide)) (by decide) m3 (never_of k4 (gl A outer s H _ (by decide)) (by decide) m4
      (never_of k5 (gl A outer s H _ (by decide)) (by decide) m5 (never_of k6 (gl A outer s H _ (by decide)) (by decide) m6 (never_of k7 (gl A outer s H _ (by decide)) (by decide) m7 .last))))))
end
end Rf
set_option Elab.async false
set_option linter.all false
set_option maxRecDepth 100000
set_option maxHeartbeats 4000000
namespace Rf
open PySem PySem.Spec PyProof.Rows L2 LamX
section
variable {K : PySem.W.Frag} {mg : Str → Option Value} {h : Heap}
structure DefAt (K : PySem.W.Frag) (mg : Str → Option Value) (nm : Str) (st : Stmt) : Prop where
  ex : ∃ (f : Addr) (fd : FuncData), L2.Fun K nm nm st f fd ∧ mg nm = some (.ref f)
theorem def_at (X : K.In h) (G : h.Ns mainGlobals mg) (nm : Str) (st : Stmt) {f : Addr} {oc : Value} {od an : Option Addr} {osl : Array (Option Value)} {kV doc pm cdv ct : Value}
    (a : PySem.W.nsIn K mainGlobals nm = some (some (.ref f))) (l : K.lookup f = some ⟨oc, od, .func (PySem.W.fnOf nm nm (defArgs st) (defBody st) (defScope st) .none kV doc pm an cdv ct), osl⟩) (c : PySem.W.codeIn K cdv nm = true) (k : PySem.W.keepIn K (.ref f) = true) : DefAt K mg nm st :=
  ⟨f, _, fun_mk l c k, PySem.W.mg_of X G a⟩
/-- two defs whose tables of code objects are watched -/
structure Def2At (K : PySem.W.Frag) (mg : Str → Option Value) (h : Heap) (n1 : Str) (s1 : Stmt) (n2 : Str) (s2 : Stmt) : Prop where
  ex : ∃ (f1 : Addr) (fd1 : FuncData) (c1 P1 : Addr) (f2 : Addr) (fd2 : FuncData) (c2 P2 : Addr), (L2.Fun K n1 n1 s1 f1 fd1 ∧ mg n1 = some (.ref f1) ∧ fd1.code = .ref c1 ∧ PySem.W.codeHdIn K c1 P1 = true ∧ K.lookup P1 = none ∧ h.get? P1 = some { cls := .none, data := .fields #[] }) ∧
    (L2.Fun K n2 n2 s2 f2 fd2 ∧ mg n2 = some (.ref f2) ∧ fd2.code = .ref c2 ∧ PySem.W.codeHdIn K c2 P2 = true ∧ K.lookup P2 = none ∧ h.get? P2 = some { cls := .none, data := .fields #[] }) ∧ P1 ≠ P2
theorem def2_at (X : K.In h) (G : h.Ns mainGlobals mg) (n1 : Str) (s1 : Stmt) (n2 : Str) (s2 : Stmt) (Y1 : ∀ f, mg n1 = some (.ref f) → OwnTab K f h) (Y2 : ∀ f, mg n2 = some (.ref f) → OwnTab K f h) {f1 c1 P1 f2 c2 P2 : Addr} {oc oc2 : Value} {od an od2 an2 : Option Addr} {osl osl2 : Array (Option Value)} {kV doc pm ct kV2 doc2 pm2 ct2 q1 q2 : Value} {r1 r2 : Option Addr} {vs1 vs2 : Array Value} {sl1 sl2 : Array (Option Value)}
    (a1 : PySem.W.nsIn K mainGlobals n1 = some (some (.ref f1))) (l1 : K.lookup f1 = some ⟨oc, od, .func (PySem.W.fnOf n1 n1 (defArgs s1) (defBody s1) (defScope s1) .none kV doc pm an (.ref c1) ct), osl⟩) (d1 : PySem.W.codeIn K (.ref c1) n1 = true) (k1 : PySem.W.keepIn K (.ref f1) = true)
    (a2 : PySem.W.nsIn K mainGlobals n2 = some (some (.ref f2))) (l2 : K.lookup f2 = some ⟨oc2, od2, .func (PySem.W.fnOf n2 n2 (defArgs s2) (defBody s2) (defScope s2) .none kV2 doc2 pm2 an2 (.ref c2) ct2), osl2⟩) (d2 : PySem.W.codeIn K (.ref c2) n2 = true) (k2 : PySem.W.keepIn K (.ref f2) = true)
    (o1 : K.lookup c1 = some ⟨q1, r1, .fields vs1, sl1⟩) (o2 : K.lookup c2 = some ⟨q2, r2, .fields vs2, sl2⟩) (p1 : vs1[11]? = some (.ref P1)) (p2 : vs2[11]? = some (.ref P2))
    (e1 : PySem.W.codeHdIn K c1 P1 = true) (e2 : PySem.W.codeHdIn K c2 P2 = true) (t1 : K.lookup P1 = none) (t2 : K.lookup P2 = none) (ne : P1 ≠ P2) : Def2At K mg h n1 s1 n2 s2 :=
  ⟨f1, _, c1, P1, f2, _, c2, P2, ⟨fun_mk l1 d1 k1, PySem.W.mg_of X G a1, rfl, e1, t1, Y1 f1 (PySem.W.mg_of X G a1) _ _ _ _ _ _ _ _ l1 rfl rfl o1 p1⟩, ⟨fun_mk l2 d2 k2, PySem.W.mg_of X G a2, rfl, e2, t2, Y2 f2 (PySem.W.mg_of X G a2) _ _ _ _ _ _ _ _ l2 rfl rfl o2 p2⟩, ne⟩
/-- an exception class with its own __init__ -/
structure ClsAt (K : PySem.W.Frag) (mg : Str → Option Value) (x f : Str) (st : Stmt) : Prop where
  ex : ∃ (C fI : Addr) (fd : FuncData) (qual : Str), mg x = some (.ref C) ∧ ExC K C f ∧ PySem.W.findIn K (.ref C) "__init__" = some (some (.ref fI)) ∧ PySem.W.typeIn K (.ref fI) = some (.type "function") ∧ L2.Fun K "__init__" qual st fI fd ∧ XfC K C ∧ PySem.W.exmOne K (.ref C) (.ref C) = some true
theorem exm_own {C : Addr} (h1 : PySem.W.subIn K (.ref C) (.type "BaseException") = some true) (h2 : PySem.W.isClsIn K C = true) (h3 : PySem.W.typeIn K (.ref C) = some (.type "type")) (h4 : PySem.W.subIn K (.ref C) (.ref C) = some true) : PySem.W.exmOne K (.ref C) (.ref C) = some true := by
  have e1 : (PySem.W.subIn K (.ref C) (.type "BaseException") == some true) = true := by rw [h1] <;> rfl
  have e2 : ((PySem.W.clsIn K C).isSome && PySem.W.typeIn K (.ref C) == some (.type "type")) = true := by
    have z : (PySem.W.clsIn K C).isSome = true := h2
    rw [z, h3] <;> rfl
  show (if (PySem.W.subIn K (.ref C) (.type "BaseException") == some true) = true then (if ((PySem.W.clsIn K C).isSome && PySem.W.typeIn K (.ref C) == some (.type "type")) = true then PySem.W.subIn K (.ref C) (.ref C) else none) else none) = _
  rw [if_pos e1, if_pos e2]
  exact h4
theorem cls_at (X : K.In h) (G : h.Ns mainGlobals mg) (x f qual : Str) (st : Stmt) {C S fI : Addr} {nm q : Str} {N : Addr} {bs : List Value} {sn : List Str} {sub : List Value} {ab : Bool} {col : Option Bool} {dd : Option Addr} {k0 k1 k2 k3 k5 : Option Value} {oc : Value} {od an : Option Addr} {osl : Array (Option Value)} {kV doc pm cdv ct : Value}
    (a : PySem.W.nsIn K mainGlobals x = some (some (.ref C))) (xC : K.lookup C = some (excClassObj nm q C N bs [.ref S, .type "Exception", .type "BaseException", .type "object"] true sn sub ab col dd k0 k1 k2 k3 k5 "Exception.__new__"))
    (sa : PySem.W.findIn K (.ref C) "__setattr__" = some (some (.builtin "object.__setattr__"))) (ga : PySem.W.findIn K (.ref C) "__getattribute__" = some (some (.builtin "BaseException.__getattribute__"))) (gg : PySem.W.findIn K (.ref C) "__getattr__" = some none) (no : PySem.W.findIn K (.ref C) f = some none)
    (iC : PySem.W.findIn K (.ref C) "__init__" = some (some (.ref fI))) (tI : PySem.W.typeIn K (.ref fI) = some (.type "function")) (l : K.lookup fI = some ⟨oc, od, .func (PySem.W.fnOf "__init__" qual (defArgs st) (defBody st) (defScope st) .none kV doc pm an cdv ct), osl⟩) (c : PySem.W.codeIn K cdv qual = true) (kI : PySem.W.keepIn K (.ref fI) = true)
    (kC : PySem.W.keepIn K (.ref C) = true) (eC : PySem.W.subIn K (.ref C) (.type "BaseException") = some true) (tC : PySem.W.typeIn K (.ref C) = some (.type "type")) (hC : PySem.W.hasDictIn K C = true) (isC : PySem.W.isClsIn K C = true) (sC : PySem.W.subIn K (.ref C) (.ref C) = some true) : ClsAt K mg x f st :=
  ⟨C, fI, _, qual, PySem.W.mg_of X G a, ⟨⟨nm, q, N, bs, _, sn, sub, ab, col, dd, k0, k1, k2, k3, k5, xC, rfl⟩, sa, no, eC, tC, kC⟩, iC, tI, fun_mk l c kI, ⟨ga, gg, eC, hC⟩, exm_own eC isC tC sC⟩
structure NameAt (mg : Str → Option Value) (x : Str) : Prop where
  ex : ∃ C : Addr, mg x = some (.ref C)
theorem name_at (X : K.In h) (G : h.Ns mainGlobals mg) (x : Str) {C : Addr} (a : PySem.W.nsIn K mainGlobals x = some (some (.ref C))) : NameAt mg x := ⟨C, PySem.W.mg_of X G a⟩
theorem free_at (X : K.In h) (G : h.Ns mainGlobals mg) (x : Str) (a : PySem.W.nsIn K mainGlobals x = some none) : mg x = none := PySem.W.mg_none_of X G a
end
/-- the end, the tables of every def without defaults told -/
theorem walk_tabs {l : PySem.W.OpenLaw} {n k : Nat} {q : Program} {loose : List Str} {XP : (Str → Option Value) → Heap → Prop} {YP : World → Heap → Prop} {d : DefRec} {K : Params → PySem.W.Frag} {CX : World → CXT} {x : Str}
    (hn : l.most = some n) (hn2 : n ≤ sizeLine) (hdf : d.params.defaults = []) (hr : Room k callerA) (hY : ∀ (w : World) (h : Heap), YP w h → (K w.params).In h)
    (F : ∀ (w : World) (mg : Str → Option Value) (fa : Addr) (h : Heap), YP w h → (K w.params).In h → h.Ns mainGlobals mg → mg d.name = some (.ref fa) → (∀ nm f, ((recsOf q).any fun e => e.name == nm) = true → mg nm = some (.ref f) → OwnTab (K w.params) f h) → LawAtS l w (K w.params) (CX w) k n x mg fa h)
    (hCX : ∀ (w : World) (H : Hp) (s : Shared) (e : Value) (s' : Shared), CX w [] H s (fun _ _ _ => False) e s' → False) :
    PySem.W.WalkO q loose XP YP l.row.toRowW d [] (fun f vs => PySem.call f vs) := by
  refine Att.attach_callB hn hdf fun w s₀ s₁ mg mb fa o pm cd doc a vs ns G Y ho hd hcd hmg hobj hints hlen hbits hg => ?_
  have KX := hY w _ Y
  have tabs : ∀ nm f, ((recsOf q).any fun e => e.name == nm) = true → mg nm = some (.ref f) → OwnTab (K w.params) f s₁.heap := fun nm f hrec hf c P o1 fd1 e dd vs1 sl k1 k2 k3 k4 k5 => by
    obtain ⟨dL, hm, hn1⟩ := List.any_eq_true.mp hrec
    have hnm : dL.name = nm := beq_iff_eq.mp hn1
    obtain ⟨a2, o2, fd2, c2, P2, h1, h2, h3, h4, h5, h6⟩ := G.T.tab dL hm
    rw [hnm, hf] at h1
    cases h1
    have g1 := KX _ _ k1
    rw [g1] at h2
    cases h2
    rw [k2] at h3
    cases h3
    rw [k3] at h4
    cases h4
    obtain ⟨⟨oc, vc, e1, _, e3, e4⟩, hP⟩ := h6
    have g2 := KX _ _ k4
    rw [g2] at e1
    cases e1
    cases e3
    rw [k5] at e4
    cases e4
    exact hP
  obtain ⟨fd, cs, sp, hT, nT, C, hb, hsp, hF⟩ := F w mg fa _ Y KX G.T.g hmg tabs
  exact law_callTs KX G.T.g G.T.b G.T.builtins G.T.nolimit hg hT nT C G.T.bmain hobj hints (Nat.le_trans hlen hn2) hr hF hb (fun H hH hS => hsp H a ns hlen hbits hH hS) fun H e s' => hCX w H s₁ e s'
end Rf
set_option Elab.async false
set_option linter.all false
set_option maxRecDepth 100000
set_option maxHeartbeats 4000000
namespace Rf
open PySem PySem.Spec PyProof.Rows L2 LamX
section
variable {K : PySem.W.Frag} {mg : Str → Option Value} {h : Heap}
/-- one def whose table of code objects is watched -/
structure Def1At (K : PySem.W.Frag) (mg : Str → Option Value) (h : Heap) (n1 : Str) (s1 : Stmt) : Prop where
  ex : ∃ (f1 : Addr) (fd1 : FuncData) (c1 P1 : Addr), L2.Fun K n1 n1 s1 f1 fd1 ∧ mg n1 = some (.ref f1) ∧ fd1.code = .ref c1 ∧ PySem.W.codeHdIn K c1 P1 = true ∧ K.lookup P1 = none ∧ h.get? P1 = some { cls := .none, data := .fields #[] }
theorem def1_at (X : K.In h) (G : h.Ns mainGlobals mg) (n1 : Str) (s1 : Stmt) (Y1 : ∀ f, mg n1 = some (.ref f) → OwnTab K f h) {f1 c1 P1 : Addr} {oc : Value} {od an : Option Addr} {osl : Array (Option Value)} {kV doc pm ct q1 : Value} {r1 : Option Addr} {vs1 : Array Value} {sl1 : Array (Option Value)}
    (a1 : PySem.W.nsIn K mainGlobals n1 = some (some (.ref f1))) (l1 : K.lookup f1 = some ⟨oc, od, .func (PySem.W.fnOf n1 n1 (defArgs s1) (defBody s1) (defScope s1) .none kV doc pm an (.ref c1) ct), osl⟩) (d1 : PySem.W.codeIn K (.ref c1) n1 = true) (k1 : PySem.W.keepIn K (.ref f1) = true)
    (o1 : K.lookup c1 = some ⟨q1, r1, .fields vs1, sl1⟩) (p1 : vs1[11]? = some (.ref P1)) (e1 : PySem.W.codeHdIn K c1 P1 = true) (t1 : K.lookup P1 = none) : Def1At K mg h n1 s1 :=
  ⟨f1, _, c1, P1, fun_mk l1 d1 k1, PySem.W.mg_of X G a1, rfl, e1, t1, Y1 f1 (PySem.W.mg_of X G a1) _ _ _ _ _ _ _ _ l1 rfl rfl o1 p1⟩
/-- a whole number of the module -/
structure IntAt (mg : Str → Option Value) (x : Str) (i : Int) : Prop where
  ex : ∃ t : Tok, mg x = some (.int i t)
/-- a text of the module -/
structure StrAt (mg : Str → Option Value) (x : Str) (i : Str) : Prop where
  ex : ∃ t : Tok, mg x = some (.str i t)
theorem str_at (X : K.In h) (G : h.Ns mainGlobals mg) (x : Str) (i : Str) {t : Tok} (a : PySem.W.nsIn K mainGlobals x = some (some (.str i t))) : StrAt mg x i := ⟨t, PySem.W.mg_of X G a⟩
/-- a library's name -/
structure ItAt (mg : Str → Option Value) (x : Str) (v : Value) : Prop where
  ex : mg x = some v
theorem it_at (X : K.In h) (G : h.Ns mainGlobals mg) (x : Str) (v : Value) (a : PySem.W.nsIn K mainGlobals x = some (some v)) : ItAt mg x v := ⟨PySem.W.mg_of X G a⟩
theorem int_at (X : K.In h) (G : h.Ns mainGlobals mg) (x : Str) (i : Int) {t : Tok} (a : PySem.W.nsIn K mainGlobals x = some (some (.int i t))) : IntAt mg x i := ⟨t, PySem.W.mg_of X G a⟩
end
end Rf
set_option Elab.async false
set_option linter.all false
set_option maxRecDepth 100000
set_option maxHeartbeats 4000000
/-! how a compact text is run by rewriting: each rule opens one construct, and a congruence keeps what comes after it closed until its turn -/
namespace Rf.X
open PySem L2
section
variable {F : Nat → Fn} {a b c e : E} {r r1 r2 : Rho} {x y z d : D}
theorem nr {α : Sort _} {a b : α} (h : a = b) : a = b := h
theorem bind_okR {α β : Type} {v : α} {f : α → Rho → Res β} : (Res.ok v r).bind f = f v r := nr rfl
theorem bind_excR {α β : Type} {n : Nat} {f : α → Rho → Res β} : (Res.exc n d r : Res α).bind f = .exc n d r := nr rfl
theorem calm_okR {α β : Type} {v : α} {f : α → Rho → Res β} : (Res.ok v r).calm f = f v r := nr rfl
theorem out_okR {α : Type} {v : α} {f : α → Rho → Out} : (Res.ok v r).out f = f v r := nr rfl
theorem out_excR {α : Type} {n : Nat} {f : α → Rho → Out} : (Res.exc n d r : Res α).out f = .exc n d r := nr rfl
theorem then_nxR {f : Rho → Out} : (Out.nx r).then f = f r := nr rfl
theorem then_rtR {f : Rho → Out} : (Out.rt d r).then f = .rt d r := nr rfl
theorem then_bkR {f : Rho → Out} : (Out.bk r).then f = .bk r := nr rfl
theorem then_ctR {f : Rho → Out} : (Out.ct r).then f = .ct r := nr rfl
theorem then_excR {n : Nat} {f : Rho → Out} : (Out.exc n d r).then f = .exc n d r := nr rfl
theorem opt_sm {α : Type} {v : α} : Rf.opt (some v) r = .ok v r := nr rfl
theorem obind_sm {α β : Type} {v : α} {f : α → Option β} : (some v).bind f = f v := nr rfl
/-- what a slot gives -/
def giveS (s : Option Slot) (r : Rho) (i : Nat) : Res D := match s with
  | some (.val d) => .ok d r
  | some (.own ds) => .ok (.list ds) (r.set i (.val (.list ds)))
  | _ => .bad
def peekS (s : Option Slot) : Option D := match s with
  | some (.val d) => some d
  | some (.own ds) => some (.list ds)
  | some (.io ds) => some (.list ds)
  | _ => none
theorem giveS_val {i : Nat} : giveS (some (.val d)) r i = .ok d r := nr rfl
theorem giveS_own {i : Nat} {ds : List D} : giveS (some (.own ds)) r i = .ok (.list ds) (r.set i (.val (.list ds))) := nr rfl
theorem peekS_val : peekS (some (.val d)) = some d := nr rfl
theorem peekS_own {ds : List D} : peekS (some (.own ds)) = some (.list ds) := nr rfl
theorem peekS_io {ds : List D} : peekS (some (.io ds)) = some (.list ds) := nr rfl
theorem at0 {α : Type} {u : α} {us : List α} : (u :: us)[0]? = some u := nr rfl
theorem atS {α : Type} {u : α} {us : List α} {n : Nat} : (u :: us)[n + 1]? = us[n]? := by simp
theorem set0 {α : Type} {u v : α} {us : List α} : (u :: us).set 0 v = v :: us := nr rfl
theorem setS {α : Type} {u v : α} {us : List α} {n : Nat} : (u :: us).set (n + 1) v = u :: us.set n v := nr rfl
theorem getD0 {α : Type} {u v : α} {us : List α} : (u :: us).getD 0 v = u := nr rfl
theorem getDS {α : Type} {u v : α} {us : List α} {n : Nat} : (u :: us).getD (n + 1) v = us.getD n v := by simp [List.getD]
theorem var_v {i : Nat} : (ev F (.var i)).v r = giveS r[i]? r i := by
  show give r i = _
  unfold give giveS
  rcases r[i]? with _ | s
  · rfl
  · cases s <;> rfl
theorem peek_S {i : Nat} : peek r i = peekS r[i]? := by
  unfold peek peekS
  rcases r[i]? with _ | s
  · rfl
  · cases s <;> rfl
theorem var_o {i : Nat} : (ev F (.var i)).o r = Rf.opt (peekS r[i]?) r := by
  show Rf.opt (peek r i) r = _
  rw [peek_S]
theorem var_ag {i : Nat} : (ev F (.var i)).ag r x = peekS r[i]? := by
  show peek r i = _
  rw [peek_S]
def kTr  (x : D) (r : Rho) : Res Bool := Rf.opt (truth x) r
theorem kTr_x {x : D} {r : Rho} : kTr x r = Rf.opt (truth x) r := nr rfl
def kIt  (x : D) (r : Rho) : Res (List D) := Rf.opt (items x) r
theorem kIt_x {x : D} {r : Rho} : kIt x r = Rf.opt (items x) r := nr rfl
def kCons2 (x : D) (ys : List D) (r : Rho) : Res (List D) := .ok (x :: ys) r
theorem kCons2_x {x : D} {ys : List D} {r : Rho} : kCons2 x ys r = .ok (x :: ys) r := nr rfl
def kCons (F : Nat → Fn) (b : E) (x : D) (r : Rho) : Res (List D) := ((ev F b).a r).bind (kCons2 x)
theorem kCons_x {F : Nat → Fn} {b : E} {x : D} {r : Rho} : kCons F b x r = ((ev F b).a r).bind (kCons2 x) := nr rfl
theorem var_t {i : Nat} : (ev F (.var i)).t r = (Rf.opt (peekS r[i]?) r).bind kTr := by
  rw [← peek_S]
  rfl
theorem var_c {i : Nat} : (ev F (.var i)).c r = (Rf.opt (peekS r[i]?) r).bind kTr := by
  rw [← peek_S]
  rfl
/-- a part of a slice -/
def ptOf (x : D) (r : Rho) : Res (Option Int) := match x with
  | .int i => .ok (some i) r
  | _ => .bad
theorem ptOf_int {i : Int} : ptOf (.int i) r = .ok (some i) r := nr rfl
theorem var_p {i : Nat} : (ev F (.var i)).p r = ((ev F (.var i)).v r).bind ptOf := nr rfl
theorem var_i {i : Nat} : (ev F (.var i)).i r = ((ev F (.var i)).v r).bind kIt := nr rfl
theorem nil_c : (ev F .nil).c r = .ok true r := nr rfl
theorem nil_p : (ev F .nil).p r = .ok none r := nr rfl
theorem nil_a : (ev F .nil).a r = .ok [] r := nr rfl
theorem cons_a : (ev F (.cons a b)).a r = ((ev F a).v r).bind (kCons F b) := nr rfl

def negR (x : D) (r : Rho) : Res D := match x with
  | .int i => .ok (.int (-i)) r
  | _ => .bad
def notR (x : D) (r : Rho) : Res D := match x with
  | .bool b => .ok (.bool (!b)) r
  | _ => .bad
def kAnd (F : Nat → Fn) (b : E) (x : D) (r : Rho) : Res D := match x with
  | .bool true => (ev F b).v r
  | .bool false => .ok (.bool false) r
  | _ => .bad
def kOr (F : Nat → Fn) (b : E) (x : D) (r : Rho) : Res D := match x with
  | .bool true => .ok (.bool true) r
  | .bool false => (ev F b).v r
  | _ => .bad
theorem kAnd_bool {k : Bool} : kAnd F b (.bool k) r = if k = true then (ev F b).v r else .ok (.bool false) r := by cases k <;> rfl
theorem kOr_bool {k : Bool} : kOr F b (.bool k) r = if k = true then .ok (.bool true) r else (ev F b).v r := by cases k <;> rfl
def callR (x : FRes) (r : Rho) : Res D := match x with
  | .ok d _ => .ok d r
  | .exc x d => .exc x d r
  | .bad => .bad
def call0R (x : FRes) (r : Rho) : Res D := match x with
  | .ok d _ => .ok d r
  | _ => .bad
def ioE (f : Fn) (i : Nat) (ds : List D) (r2 : Rho) : Res D := ioEnd f i ds r2
def ioS (f : Fn) (i : Nat) (ds : List D) (s : Option Slot) (r2 : Rho) : Res D := match s with
  | some (.own cs) => (match f ds cs with
      | .ok d cs' => .ok d (r2.set i (.own cs'))
      | _ => .bad)
  | some (.io cs) => (match f ds cs with
      | .ok d cs' => .ok d (r2.set i (.io cs'))
      | _ => .bad)
  | _ => .bad
theorem ioE_S {f : Fn} {i : Nat} {ds : List D} : ioE f i ds r = ioS f i ds r[i]? r := by
  unfold ioE ioEnd ioS
  rcases r[i]? with _ | s
  · rfl
  · cases s <;> rfl
def ioO (x : FRes) (i : Nat) (r : Rho) : Res D := match x with
  | .ok d cs => .ok d (r.set i (.own cs))
  | _ => .bad
def ioI (x : FRes) (i : Nat) (r : Rho) : Res D := match x with
  | .ok d cs => .ok d (r.set i (.io cs))
  | _ => .bad
theorem ioS_own {f : Fn} {i : Nat} {ds cs : List D} : ioS f i ds (some (.own cs)) r = ioO (f ds cs) i r := nr rfl
theorem ioS_io {f : Fn} {i : Nat} {ds cs : List D} : ioS f i ds (some (.io cs)) r = ioI (f ds cs) i r := nr rfl
theorem ioO_ok {i : Nat} {cs : List D} : ioO (.ok d cs) i r = .ok d (r.set i (.own cs)) := nr rfl
theorem ioI_ok {i : Nat} {cs : List D} : ioI (.ok d cs) i r = .ok d (r.set i (.io cs)) := nr rfl
def isiR (ts : List Ty) (x : D) (r : Rho) : Res Bool := match x with
  | .dict _ => .bad
  | _ => .ok (ts.any fun t => isTy t x) r
theorem isiR_none {ts : List Ty} : isiR ts .none r = .ok (ts.any fun t => isTy t .none) r := nr rfl
theorem isiR_bool {ts : List Ty} {b : Bool} : isiR ts (.bool b) r = .ok (ts.any fun t => isTy t (.bool b)) r := nr rfl
theorem isiR_int {ts : List Ty} {i : Int} : isiR ts (.int i) r = .ok (ts.any fun t => isTy t (.int i)) r := nr rfl
theorem isiR_str {ts : List Ty} {u : Str} : isiR ts (.str u) r = .ok (ts.any fun t => isTy t (.str u)) r := nr rfl
theorem isiR_list {ts : List Ty} {us : List D} : isiR ts (.list us) r = .ok (ts.any fun t => isTy t (.list us)) r := nr rfl
theorem isiR_tuple {ts : List Ty} {us : List D} : isiR ts (.tuple us) r = .ok (ts.any fun t => isTy t (.tuple us)) r := nr rfl
def toldR (x : Res D) : Res D := match x with
  | .ok d r1 => .ok (.tuple [.str "value", d]) r1
  | .exc x d r1 => .ok (.tuple [.str (exNames.getD x ""), d]) r1
  | .bad => .bad
theorem toldR_ok : toldR (.ok d r) = .ok (.tuple [.str "value", d]) r := nr rfl
theorem toldR_exc0 : toldR (.exc 0 d r) = .ok (.tuple [.str "BadValue", d]) r := nr rfl
theorem negR_int {i : Int} : negR (.int i) r = .ok (.int (-i)) r := nr rfl
theorem notR_bool {k : Bool} : notR (.bool k) r = .ok (.bool (!k)) r := nr rfl
theorem callR_ok {cs : List D} : callR (.ok d cs) r = .ok d r := nr rfl
theorem callR_exc {n : Nat} : callR (.exc n d) r = .exc n d r := nr rfl
theorem call0R_ok {cs : List D} : call0R (.ok d cs) r = .ok d r := nr rfl
theorem isL_own {ds : List D} {i : Nat} (h : r[i]? = some (.own ds)) : isL r i = true := by unfold isL; rw [h]
def isLS (s : Option Slot) : Bool := match s with
  | some (.own _) => true
  | some (.io _) => true
  | _ => false
theorem isL_S {i : Nat} : isL r i = isLS r[i]? := by
  unfold isL isLS
  rcases r[i]? with _ | s
  · rfl
  · cases s <;> rfl
theorem isLS_own {ds : List D} : isLS (some (.own ds)) = true := nr rfl
theorem isLS_io {ds : List D} : isLS (some (.io ds)) = true := nr rfl
def kTup  (ds : List D) (r : Rho) : Res D := if fits ds = true then .ok (.tuple ds) r else .bad
theorem kTup_x {ds : List D} {r : Rho} : kTup ds r = if fits ds = true then .ok (.tuple ds) r else .bad := nr rfl
def kLst  (ds : List D) (r : Rho) : Res D := if fits ds = true then .ok (.list ds) r else .bad
theorem kLst_x {ds : List D} {r : Rho} : kLst ds r = if fits ds = true then .ok (.list ds) r else .bad := nr rfl
def kBin2 (o : Bop) (x : D) (y : D) (r : Rho) : Res D := Rf.opt (binD o x y) r
theorem kBin2_x {o : Bop} {x : D} {y : D} {r : Rho} : kBin2 o x y r = Rf.opt (binD o x y) r := nr rfl
def kBin (F : Nat → Fn) (o : Bop) (b : E) (x : D) (r : Rho) : Res D := ((ev F b).v r).bind (kBin2 o x)
theorem kBin_x {F : Nat → Fn} {o : Bop} {b : E} {x : D} {r : Rho} : kBin F o b x r = ((ev F b).v r).bind (kBin2 o x) := nr rfl
def kNot  (k : Bool) (r : Rho) : Res Bool := .ok (!k) r
theorem kNot_x {k : Bool} {r : Rho} : kNot k r = .ok (!k) r := nr rfl
def kB  (k : Bool) (r : Rho) : Res D := .ok (.bool k) r
theorem kB_x {k : Bool} {r : Rho} : kB k r = .ok (.bool k) r := nr rfl
def kCmp3 (o : Cop) (y : D) (z : D) : Option Bool := cmpD o z y
theorem kCmp3_x {o : Cop} {y : D} {z : D} : kCmp3 o y z = cmpD o z y := nr rfl
def kCmp2 (F : Nat → Fn) (o : Cop) (a : E) (x : D) (y : D) (r : Rho) : Res Bool := Rf.opt (((ev F a).ag r x).bind (kCmp3 o y)) r
theorem kCmp2_x {F : Nat → Fn} {o : Cop} {a : E} {x : D} {y : D} {r : Rho} : kCmp2 F o a x y r = Rf.opt (((ev F a).ag r x).bind (kCmp3 o y)) r := nr rfl
def kCmp (F : Nat → Fn) (o : Cop) (a b : E) (x : D) (r : Rho) : Res Bool := ((ev F b).o r).bind (kCmp2 F o a x)
theorem kCmp_x {F : Nat → Fn} {o : Cop} {a b : E} {x : D} {r : Rho} : kCmp F o a b x r = ((ev F b).o r).bind (kCmp2 F o a x) := nr rfl
def kAndT (F : Nat → Fn) (b : E) (k : Bool) (r : Rho) : Res Bool := if k = true then (ev F b).t r else .ok false r
theorem kAndT_x {F : Nat → Fn} {b : E} {k : Bool} {r : Rho} : kAndT F b k r = if k = true then (ev F b).t r else .ok false r := nr rfl
def kOrT (F : Nat → Fn) (b : E) (k : Bool) (r : Rho) : Res Bool := if k = true then .ok true r else (ev F b).t r
theorem kOrT_x {F : Nat → Fn} {b : E} {k : Bool} {r : Rho} : kOrT F b k r = if k = true then .ok true r else (ev F b).t r := nr rfl
def kIte (F : Nat → Fn) (a b : E) (k : Bool) (r : Rho) : Res D := if k = true then (ev F a).v r else (ev F b).v r
theorem kIte_x {F : Nat → Fn} {a b : E} {k : Bool} {r : Rho} : kIte F a b k r = if k = true then (ev F a).v r else (ev F b).v r := nr rfl
def kIx3 (k : D) (z : D) : Option D := ixD z k
theorem kIx3_x {k : D} {z : D} : kIx3 k z = ixD z k := nr rfl
def kIx2 (F : Nat → Fn) (a : E) (x : D) (k : D) (r : Rho) : Res D := Rf.opt (((ev F a).ag r x).bind (kIx3 k)) r
theorem kIx2_x {F : Nat → Fn} {a : E} {x : D} {k : D} {r : Rho} : kIx2 F a x k r = Rf.opt (((ev F a).ag r x).bind (kIx3 k)) r := nr rfl
def kIx (F : Nat → Fn) (a b : E) (x : D) (r : Rho) : Res D := ((ev F b).v r).bind (kIx2 F a x)
theorem kIx_x {F : Nat → Fn} {a b : E} {x : D} {r : Rho} : kIx F a b x r = ((ev F b).v r).bind (kIx2 F a x) := nr rfl
def kSl4 (l h : Option Int) (z : D) : Option D := slD z l h
theorem kSl4_x {l h : Option Int} {z : D} : kSl4 l h z = slD z l h := nr rfl
def kSl3 (F : Nat → Fn) (a : E) (x : D) (l : Option Int) (h : Option Int) (r : Rho) : Res D := Rf.opt (((ev F a).ag r x).bind (kSl4 l h)) r
theorem kSl3_x {F : Nat → Fn} {a : E} {x : D} {l : Option Int} {h : Option Int} {r : Rho} : kSl3 F a x l h r = Rf.opt (((ev F a).ag r x).bind (kSl4 l h)) r := nr rfl
def kSl2 (F : Nat → Fn) (a c : E) (x : D) (l : Option Int) (r : Rho) : Res D := ((ev F c).p r).bind (kSl3 F a x l)
theorem kSl2_x {F : Nat → Fn} {a c : E} {x : D} {l : Option Int} {r : Rho} : kSl2 F a c x l r = ((ev F c).p r).bind (kSl3 F a x l) := nr rfl
def kSl (F : Nat → Fn) (a b c : E) (x : D) (r : Rho) : Res D := ((ev F b).p r).bind (kSl2 F a c x)
theorem kSl_x {F : Nat → Fn} {a b c : E} {x : D} {r : Rho} : kSl F a b c x r = ((ev F b).p r).bind (kSl2 F a c x) := nr rfl
def kCall (F : Nat → Fn) (f : Nat) (ds : List D) (r : Rho) : Res D := callR (F f ds []) r
theorem kCall_x {F : Nat → Fn} {f : Nat} {ds : List D} {r : Rho} : kCall F f ds r = callR (F f ds []) r := nr rfl
def kIo2 (F : Nat → Fn) (f i : Nat) (ds : List D) (es : List D) (r : Rho) : Res D := ioE (F f) i (ds ++ es) r
theorem kIo2_x {F : Nat → Fn} {f i : Nat} {ds : List D} {es : List D} {r : Rho} : kIo2 F f i ds es r = ioE (F f) i (ds ++ es) r := nr rfl
def kIo (F : Nat → Fn) (f i : Nat) (b : E) (ds : List D) (r : Rho) : Res D := if isL r i = true then ((ev F b).a r).bind (kIo2 F f i ds) else .bad
theorem kIo_x {F : Nat → Fn} {f i : Nat} {b : E} {ds : List D} {r : Rho} : kIo F f i b ds r = if isL r i = true then ((ev F b).a r).bind (kIo2 F f i ds) else .bad := nr rfl
def kIsi (ts : List Ty) (x : D) (r : Rho) : Res D := (isiR ts x r).bind kB
theorem kIsi_x {ts : List Ty} {x : D} {r : Rho} : kIsi ts x r = (isiR ts x r).bind kB := nr rfl
def kBi (o : Bi) (x : D) (r : Rho) : Res D := Rf.opt (biD o x) r
theorem kBi_x {o : Bi} {x : D} {r : Rho} : kBi o x r = Rf.opt (biD o x) r := nr rfl
def kBi22 (o : Bi) (x : D) (y : D) (r : Rho) : Res D := Rf.opt (bi2D o x y) r
theorem kBi22_x {o : Bi} {x : D} {y : D} {r : Rho} : kBi22 o x y r = Rf.opt (bi2D o x y) r := nr rfl
def kBi2 (F : Nat → Fn) (o : Bi) (b : E) (x : D) (r : Rho) : Res D := ((ev F b).v r).bind (kBi22 o x)
theorem kBi2_x {F : Nat → Fn} {o : Bi} {b : E} {x : D} {r : Rho} : kBi2 F o b x r = ((ev F b).v r).bind (kBi22 o x) := nr rfl
def kLcE (own : List Nat) (r1 : Rho) (ys : List D) (r6 : Rho) : Res D := if fits ys = true then .ok (.list ys) (backR r1 r6 own) else .bad
theorem kLcE_x {own : List Nat} {r1 : Rho} {ys : List D} {r6 : Rho} : kLcE own r1 ys r6 = if fits ys = true then .ok (.list ys) (backR r1 r6 own) else .bad := nr rfl
def kLc (F : Nat → Fn) (e : E) (tg : Tg) (c : E) (own : List Nat) (xs : List D) (r1 : Rho) : Res D := (lcLoop (lcBody (ev F e) tg (ev F c) own) xs (wipeR r1 own)).calm (kLcE own r1)
theorem kLc_x {F : Nat → Fn} {e : E} {tg : Tg} {c : E} {own : List Nat} {xs : List D} {r1 : Rho} : kLc F e tg c own xs r1 = (lcLoop (lcBody (ev F e) tg (ev F c) own) xs (wipeR r1 own)).calm (kLcE own r1) := nr rfl
def kLc2 (F : Nat → Fn) (e : E) (tg : Tg) (c : E) (tg1 : Tg) (b z : E) (own own1 : List Nat) (xs : List D) (r1 : Rho) : Res D := (lcLoop2 (lcBody2 (ev F e) tg (ev F c) tg1 (ev F b) (ev F z) own own1) xs (wipeR r1 own)).calm (kLcE own r1)
theorem kLc2_x {F : Nat → Fn} {e : E} {tg : Tg} {c : E} {tg1 : Tg} {b z : E} {own own1 : List Nat} {xs : List D} {r1 : Rho} : kLc2 F e tg c tg1 b z own own1 xs r1 = (lcLoop2 (lcBody2 (ev F e) tg (ev F c) tg1 (ev F b) (ev F z) own own1) xs (wipeR r1 own)).calm (kLcE own r1) := nr rfl
def kMe3 (m : Nat) (x : D) (ys : List D) (z : D) : Option D := methK m x z ys
theorem kMe3_x {m : Nat} {x : D} {ys : List D} {z : D} : kMe3 m x ys z = methK m x z ys := nr rfl
theorem methK_ll {m : Nat} {xs zs : List D} {ys : List D} : methK m (.list xs) (.list zs) ys = methD m (.list zs) ys := nr rfl
theorem methK_tt {m : Nat} {xs zs : List D} {ys : List D} : methK m (.tuple xs) (.tuple zs) ys = methD m (.tuple zs) ys := nr rfl
def kMe2 (F : Nat → Fn) (m : Nat) (a : E) (x : D) (ys : List D) (r : Rho) : Res D := Rf.opt (((ev F a).ag r x).bind (kMe3 m x ys)) r
theorem kMe2_x {F : Nat → Fn} {m : Nat} {a : E} {x : D} {ys : List D} {r : Rho} : kMe2 F m a x ys r = Rf.opt (((ev F a).ag r x).bind (kMe3 m x ys)) r := nr rfl
def kMe (F : Nat → Fn) (m : Nat) (a b : E) (x : D) (r : Rho) : Res D := if isLst x = true then ((ev F b).a r).bind (kMe2 F m a x) else .bad
theorem kMe_x {F : Nat → Fn} {m : Nat} {a b : E} {x : D} {r : Rho} : kMe F m a b x r = if isLst x = true then ((ev F b).a r).bind (kMe2 F m a x) else .bad := nr rfl
def kDf3 (q : Bi) (y : D) (z : D) : Option D := dfltD q z y
theorem kDf3_x {q : Bi} {y z : D} : kDf3 q y z = dfltD q z y := nr rfl
def kDf2 (F : Nat → Fn) (q : Bi) (a : E) (x : D) (y : D) (r : Rho) : Res D := Rf.opt (((ev F a).ag r x).bind (kDf3 q y)) r
theorem kDf2_x {F : Nat → Fn} {q : Bi} {a : E} {x y : D} {r : Rho} : kDf2 F q a x y r = Rf.opt (((ev F a).ag r x).bind (kDf3 q y)) r := nr rfl
def kDf (F : Nat → Fn) (q : Bi) (a c : E) (x : D) (r : Rho) : Res D := ((ev F c).v r).bind (kDf2 F q a x)
theorem kDf_x {F : Nat → Fn} {q : Bi} {a c : E} {x : D} {r : Rho} : kDf F q a c x r = ((ev F c).v r).bind (kDf2 F q a x) := nr rfl
def kZip2 (x : D) (y : D) (r : Rho) : Res (List D) := zipI x y r
theorem kZip2_x {x y : D} {r : Rho} : kZip2 x y r = zipI x y r := nr rfl
def kZip (F : Nat → Fn) (b : E) (x : D) (r : Rho) : Res (List D) := ((ev F b).v r).bind (kZip2 x)
theorem kZip_x {F : Nat → Fn} {b : E} {x : D} {r : Rho} : kZip F b x r = ((ev F b).v r).bind (kZip2 x) := nr rfl
theorem zipI_l {xs ys : List D} {r : Rho} : zipI (.list xs) (.list ys) r = .ok (zipD xs ys) r := nr rfl
theorem zipI_t {xs ys : List D} {r : Rho} : zipI (.tuple xs) (.tuple ys) r = .ok (zipD xs ys) r := nr rfl
theorem zipI_lt {xs ys : List D} {r : Rho} : zipI (.list xs) (.tuple ys) r = .ok (zipD xs ys) r := nr rfl
theorem zipI_tl {xs ys : List D} {r : Rho} : zipI (.tuple xs) (.list ys) r = .ok (zipD xs ys) r := nr rfl
def kNs (x : D) (r : Rho) : Res D := Rf.opt (nsetD x) r
theorem kNs_x {x : D} {r : Rho} : kNs x r = Rf.opt (nsetD x) r := nr rfl
theorem isLst_l {xs : List D} : isLst (.list xs) = true := nr rfl
theorem isLst_t {xs : List D} : isLst (.tuple xs) = true := nr rfl
def kCh4 (p : Cop) (y : D) (z : D) (r : Rho) : Res Bool := Rf.opt (cmpD p y z) r
theorem kCh4_x {p : Cop} {y z : D} {r : Rho} : kCh4 p y z r = Rf.opt (cmpD p y z) r := nr rfl
def kCh3 (F : Nat → Fn) (p : Cop) (c : E) (y : D) (k : Bool) (r : Rho) : Res Bool := if k = true then ((ev F c).v r).bind (kCh4 p y) else .ok false r
theorem kCh3_x {F : Nat → Fn} {p : Cop} {c : E} {y : D} {k : Bool} {r : Rho} : kCh3 F p c y k r = if k = true then ((ev F c).v r).bind (kCh4 p y) else .ok false r := nr rfl
def kCh2 (F : Nat → Fn) (o p : Cop) (c : E) (x : D) (y : D) (r : Rho) : Res Bool := (Rf.opt (cmpD o x y) r).bind (kCh3 F p c y)
theorem kCh2_x {F : Nat → Fn} {o p : Cop} {c : E} {x y : D} {r : Rho} : kCh2 F o p c x y r = (Rf.opt (cmpD o x y) r).bind (kCh3 F p c y) := nr rfl
def kCh (F : Nat → Fn) (o p : Cop) (b c : E) (x : D) (r : Rho) : Res Bool := ((ev F b).v r).bind (kCh2 F o p c x)
theorem kCh_x {F : Nat → Fn} {o p : Cop} {b c : E} {x : D} {r : Rho} : kCh F o p b c x r = ((ev F b).v r).bind (kCh2 F o p c x) := nr rfl
def kLr (t : Bool) (x : D) (r : Rho) : Res D := Rf.opt (rngLD t (rngD [x])) r
theorem kLr_x {t : Bool} {x : D} {r : Rho} : kLr t x r = Rf.opt (rngLD t (rngD [x])) r := nr rfl
theorem rngLD_f {ds : List D} : rngLD false (some ds) = some (.list ds) := nr rfl
theorem rngLD_t {ds : List D} : rngLD true (some ds) = some (.tuple ds) := nr rfl
def kG22 (l : Bool) (x : D) (y : D) (r : Rho) : Res D := Rf.opt (g2D l x y) r
theorem kG22_x {l : Bool} {x y : D} {r : Rho} : kG22 l x y r = Rf.opt (g2D l x y) r := nr rfl
def kG2 (F : Nat → Fn) (l : Bool) (b : E) (x : D) (r : Rho) : Res D := ((ev F b).v r).bind (kG22 l x)
theorem kG2_x {F : Nat → Fn} {l : Bool} {b : E} {x : D} {r : Rho} : kG2 F l b x r = ((ev F b).v r).bind (kG22 l x) := nr rfl
theorem g2D_gcd {i j : Int} : g2D false (.int i) (.int j) = some (.int ((i.natAbs.gcd j.natAbs : Nat) : Int)) := nr rfl
def kPm (x : D) (r : Rho) : Res (List D) := Rf.opt (permL (rngD [x])) r
theorem kPm_x {x : D} {r : Rho} : kPm x r = Rf.opt (permL (rngD [x])) r := nr rfl
def kPm3 (x : D) (y : D) (r : Rho) : Res (List D) := Rf.opt (permL (rngD [x, y])) r
theorem kPm3_x {x y : D} {r : Rho} : kPm3 x y r = Rf.opt (permL (rngD [x, y])) r := nr rfl
def kPm2 (F : Nat → Fn) (b : E) (x : D) (r : Rho) : Res (List D) := ((ev F b).v r).bind (kPm3 x)
theorem kPm2_x {F : Nat → Fn} {b : E} {x : D} {r : Rho} : kPm2 F b x r = ((ev F b).v r).bind (kPm3 x) := nr rfl
def kCb3 (xs : List D) (y : D) (r : Rho) : Res (List D) := Rf.opt (combL xs y) r
theorem kCb3_x {xs : List D} {y : D} {r : Rho} : kCb3 xs y r = Rf.opt (combL xs y) r := nr rfl
def kCb2 (F : Nat → Fn) (b : E) (xs : List D) (r : Rho) : Res (List D) := ((ev F b).v r).bind (kCb3 xs)
theorem kCb2_x {F : Nat → Fn} {b : E} {xs : List D} {r : Rho} : kCb2 F b xs r = ((ev F b).v r).bind (kCb3 xs) := nr rfl
def kCb (F : Nat → Fn) (b : E) (x : D) (r : Rho) : Res (List D) := (Rf.opt (rngD [x]) r).bind (kCb2 F b)
theorem kCb_x {F : Nat → Fn} {b : E} {x : D} {r : Rho} : kCb F b x r = (Rf.opt (rngD [x]) r).bind (kCb2 F b) := nr rfl
def kLc3 (F : Nat → Fn) (e : E) (tg : Tg) (c : E) (tg1 : Tg) (b z : E) (tg2 : Tg) (u v : E) (own own1 own2 : List Nat) (xs : List D) (r1 : Rho) : Res D := (lcLoop2 (lcBody3 (ev F e) tg (ev F c) tg1 (ev F b) (ev F z) tg2 (ev F u) (ev F v) own own1 own2) xs (wipeR r1 own)).calm (kLcE own r1)
theorem kLc3_x {F : Nat → Fn} {e : E} {tg : Tg} {c : E} {tg1 : Tg} {b z : E} {tg2 : Tg} {u v : E} {own own1 own2 : List Nat} {xs : List D} {r1 : Rho} : kLc3 F e tg c tg1 b z tg2 u v own own1 own2 xs r1 = (lcLoop2 (lcBody3 (ev F e) tg (ev F c) tg1 (ev F b) (ev F z) tg2 (ev F u) (ev F v) own own1 own2) xs (wipeR r1 own)).calm (kLcE own r1) := nr rfl
def kRng  (x : D) (r : Rho) : Res (List D) := Rf.opt (rngD [x]) r
theorem kRng_x {x : D} {r : Rho} : kRng x r = Rf.opt (rngD [x]) r := nr rfl
def kRng3 (x : D) (y : D) (r : Rho) : Res (List D) := Rf.opt (rngD [x, y]) r
theorem kRng3_x {x : D} {y : D} {r : Rho} : kRng3 x y r = Rf.opt (rngD [x, y]) r := nr rfl
def kRng2 (F : Nat → Fn) (b : E) (x : D) (r : Rho) : Res (List D) := ((ev F b).v r).bind (kRng3 x)
theorem kRng2_x {F : Nat → Fn} {b : E} {x : D} {r : Rho} : kRng2 F b x r = ((ev F b).v r).bind (kRng3 x) := nr rfl

theorem cst_v  : (ev F (.cst d)).v r = .ok d r := nr rfl
theorem cst_o  : (ev F (.cst d)).o r = (ev F (.cst d)).v r := nr rfl
theorem cst_ag  : (ev F (.cst d)).ag r x = some x := nr rfl
theorem cst_t  : (ev F (.cst d)).t r = ((ev F (.cst d)).v r).bind kTr := nr rfl
theorem cst_c  : (ev F (.cst d)).c r = (ev F (.cst d)).t r := nr rfl
theorem cst_p  : (ev F (.cst d)).p r = ((ev F (.cst d)).v r).bind ptOf := nr rfl
theorem cst_i  : (ev F (.cst d)).i r = ((ev F (.cst d)).v r).bind kIt := nr rfl
theorem tup_v  : (ev F (.tup a)).v r = ((ev F a).a r).bind kTup := nr rfl
theorem tup_o  : (ev F (.tup a)).o r = (ev F (.tup a)).v r := nr rfl
theorem tup_ag  : (ev F (.tup a)).ag r x = some x := nr rfl
theorem tup_t  : (ev F (.tup a)).t r = ((ev F (.tup a)).v r).bind kTr := nr rfl
theorem tup_c  : (ev F (.tup a)).c r = (ev F (.tup a)).t r := nr rfl
theorem tup_p  : (ev F (.tup a)).p r = ((ev F (.tup a)).v r).bind ptOf := nr rfl
theorem tup_i  : (ev F (.tup a)).i r = ((ev F (.tup a)).v r).bind kIt := nr rfl
theorem lst_v  : (ev F (.lst a)).v r = ((ev F a).a r).bind kLst := nr rfl
theorem lst_o  : (ev F (.lst a)).o r = (ev F (.lst a)).v r := nr rfl
theorem lst_ag  : (ev F (.lst a)).ag r x = some x := nr rfl
theorem lst_t  : (ev F (.lst a)).t r = ((ev F (.lst a)).v r).bind kTr := nr rfl
theorem lst_c  : (ev F (.lst a)).c r = (ev F (.lst a)).t r := nr rfl
theorem lst_p  : (ev F (.lst a)).p r = ((ev F (.lst a)).v r).bind ptOf := nr rfl
theorem lst_i  : (ev F (.lst a)).i r = ((ev F (.lst a)).v r).bind kIt := nr rfl
theorem bin_v {o : Bop} : (ev F (.bin o a b)).v r = ((ev F a).v r).bind (kBin F o b) := nr rfl
theorem bin_o {o : Bop} : (ev F (.bin o a b)).o r = (ev F (.bin o a b)).v r := nr rfl
theorem bin_ag {o : Bop} : (ev F (.bin o a b)).ag r x = some x := nr rfl
theorem bin_t {o : Bop} : (ev F (.bin o a b)).t r = ((ev F (.bin o a b)).v r).bind kTr := nr rfl
theorem bin_c {o : Bop} : (ev F (.bin o a b)).c r = (ev F (.bin o a b)).t r := nr rfl
theorem bin_p {o : Bop} : (ev F (.bin o a b)).p r = ((ev F (.bin o a b)).v r).bind ptOf := nr rfl
theorem bin_i {o : Bop} : (ev F (.bin o a b)).i r = ((ev F (.bin o a b)).v r).bind kIt := nr rfl
theorem neg_v  : (ev F (.neg a)).v r = ((ev F a).v r).bind negR := nr rfl
theorem neg_o  : (ev F (.neg a)).o r = (ev F (.neg a)).v r := nr rfl
theorem neg_ag  : (ev F (.neg a)).ag r x = some x := nr rfl
theorem neg_t  : (ev F (.neg a)).t r = ((ev F (.neg a)).v r).bind kTr := nr rfl
theorem neg_c  : (ev F (.neg a)).c r = (ev F (.neg a)).t r := nr rfl
theorem neg_p  : (ev F (.neg a)).p r = ((ev F (.neg a)).v r).bind ptOf := nr rfl
theorem neg_i  : (ev F (.neg a)).i r = ((ev F (.neg a)).v r).bind kIt := nr rfl
theorem not_v  : (ev F (.not a)).v r = ((ev F a).v r).bind notR := nr rfl
theorem not_o  : (ev F (.not a)).o r = (ev F (.not a)).v r := nr rfl
theorem not_ag  : (ev F (.not a)).ag r x = some x := nr rfl
theorem not_t  : (ev F (.not a)).t r = ((ev F a).t r).bind kNot := nr rfl
theorem not_c  : (ev F (.not a)).c r = (ev F (.not a)).t r := nr rfl
theorem not_p  : (ev F (.not a)).p r = ((ev F (.not a)).v r).bind ptOf := nr rfl
theorem not_i  : (ev F (.not a)).i r = ((ev F (.not a)).v r).bind kIt := nr rfl
theorem cmp_v {o : Cop} : (ev F (.cmp o a b)).v r = ((ev F (.cmp o a b)).t r).bind kB := nr rfl
theorem cmp_o {o : Cop} : (ev F (.cmp o a b)).o r = (ev F (.cmp o a b)).v r := nr rfl
theorem cmp_ag {o : Cop} : (ev F (.cmp o a b)).ag r x = some x := nr rfl
theorem cmp_t {o : Cop} : (ev F (.cmp o a b)).t r = ((ev F a).o r).bind (kCmp F o a b) := nr rfl
theorem cmp_c {o : Cop} : (ev F (.cmp o a b)).c r = (ev F (.cmp o a b)).t r := nr rfl
theorem cmp_p {o : Cop} : (ev F (.cmp o a b)).p r = ((ev F (.cmp o a b)).v r).bind ptOf := nr rfl
theorem cmp_i {o : Cop} : (ev F (.cmp o a b)).i r = ((ev F (.cmp o a b)).v r).bind kIt := nr rfl
theorem and_v  : (ev F (.and a b)).v r = ((ev F a).v r).bind (kAnd F b) := nr rfl
theorem and_o  : (ev F (.and a b)).o r = (ev F (.and a b)).v r := nr rfl
theorem and_ag  : (ev F (.and a b)).ag r x = some x := nr rfl
theorem and_t  : (ev F (.and a b)).t r = ((ev F a).t r).bind (kAndT F b) := nr rfl
theorem and_c  : (ev F (.and a b)).c r = (ev F (.and a b)).t r := nr rfl
theorem and_p  : (ev F (.and a b)).p r = ((ev F (.and a b)).v r).bind ptOf := nr rfl
theorem and_i  : (ev F (.and a b)).i r = ((ev F (.and a b)).v r).bind kIt := nr rfl
theorem or_v  : (ev F (.or a b)).v r = ((ev F a).v r).bind (kOr F b) := nr rfl
theorem or_o  : (ev F (.or a b)).o r = (ev F (.or a b)).v r := nr rfl
theorem or_ag  : (ev F (.or a b)).ag r x = some x := nr rfl
theorem or_t  : (ev F (.or a b)).t r = ((ev F a).t r).bind (kOrT F b) := nr rfl
theorem or_c  : (ev F (.or a b)).c r = (ev F (.or a b)).t r := nr rfl
theorem or_p  : (ev F (.or a b)).p r = ((ev F (.or a b)).v r).bind ptOf := nr rfl
theorem or_i  : (ev F (.or a b)).i r = ((ev F (.or a b)).v r).bind kIt := nr rfl
theorem ite_v  : (ev F (.ite c a b)).v r = ((ev F c).t r).bind (kIte F a b) := nr rfl
theorem ite_o  : (ev F (.ite c a b)).o r = (ev F (.ite c a b)).v r := nr rfl
theorem ite_ag  : (ev F (.ite c a b)).ag r x = some x := nr rfl
theorem ite_t  : (ev F (.ite c a b)).t r = .bad := nr rfl
theorem ite_c  : (ev F (.ite c a b)).c r = (ev F (.ite c a b)).t r := nr rfl
theorem ite_p  : (ev F (.ite c a b)).p r = ((ev F (.ite c a b)).v r).bind ptOf := nr rfl
theorem ite_i  : (ev F (.ite c a b)).i r = ((ev F (.ite c a b)).v r).bind kIt := nr rfl
theorem ix_v  : (ev F (.ix a b)).v r = ((ev F a).o r).bind (kIx F a b) := nr rfl
theorem ix_o  : (ev F (.ix a b)).o r = (ev F (.ix a b)).v r := nr rfl
theorem ix_ag  : (ev F (.ix a b)).ag r x = some x := nr rfl
theorem ix_t  : (ev F (.ix a b)).t r = ((ev F (.ix a b)).v r).bind kTr := nr rfl
theorem ix_c  : (ev F (.ix a b)).c r = (ev F (.ix a b)).t r := nr rfl
theorem ix_p  : (ev F (.ix a b)).p r = ((ev F (.ix a b)).v r).bind ptOf := nr rfl
theorem ix_i  : (ev F (.ix a b)).i r = ((ev F (.ix a b)).v r).bind kIt := nr rfl
theorem sl_v  : (ev F (.sl a b c)).v r = ((ev F a).o r).bind (kSl F a b c) := nr rfl
theorem sl_o  : (ev F (.sl a b c)).o r = (ev F (.sl a b c)).v r := nr rfl
theorem sl_ag  : (ev F (.sl a b c)).ag r x = some x := nr rfl
theorem sl_t  : (ev F (.sl a b c)).t r = ((ev F (.sl a b c)).v r).bind kTr := nr rfl
theorem sl_c  : (ev F (.sl a b c)).c r = (ev F (.sl a b c)).t r := nr rfl
theorem sl_p  : (ev F (.sl a b c)).p r = ((ev F (.sl a b c)).v r).bind ptOf := nr rfl
theorem sl_i  : (ev F (.sl a b c)).i r = ((ev F (.sl a b c)).v r).bind kIt := nr rfl
theorem call_v {f : Nat} : (ev F (.call f a)).v r = ((ev F a).a r).bind (kCall F f) := nr rfl
theorem call_o {f : Nat} : (ev F (.call f a)).o r = (ev F (.call f a)).v r := nr rfl
theorem call_ag {f : Nat} : (ev F (.call f a)).ag r x = some x := nr rfl
theorem call_t {f : Nat} : (ev F (.call f a)).t r = ((ev F (.call f a)).v r).bind kTr := nr rfl
theorem call_c {f : Nat} : (ev F (.call f a)).c r = (ev F (.call f a)).t r := nr rfl
theorem call_p {f : Nat} : (ev F (.call f a)).p r = ((ev F (.call f a)).v r).bind ptOf := nr rfl
theorem call_i {f : Nat} : (ev F (.call f a)).i r = ((ev F (.call f a)).v r).bind kIt := nr rfl
theorem call0_v {f : Nat} : (ev F (.call0 f)).v r = call0R (F f [] []) r := nr rfl
theorem call0_o {f : Nat} : (ev F (.call0 f)).o r = (ev F (.call0 f)).v r := nr rfl
theorem call0_ag {f : Nat} : (ev F (.call0 f)).ag r x = some x := nr rfl
theorem call0_t {f : Nat} : (ev F (.call0 f)).t r = ((ev F (.call0 f)).v r).bind kTr := nr rfl
theorem call0_c {f : Nat} : (ev F (.call0 f)).c r = (ev F (.call0 f)).t r := nr rfl
theorem call0_p {f : Nat} : (ev F (.call0 f)).p r = ((ev F (.call0 f)).v r).bind ptOf := nr rfl
theorem call0_i {f : Nat} : (ev F (.call0 f)).i r = ((ev F (.call0 f)).v r).bind kIt := nr rfl
theorem callio_v {f i : Nat} : (ev F (.callio f a i b)).v r = ((ev F a).a r).bind (kIo F f i b) := nr rfl
theorem callio_o {f i : Nat} : (ev F (.callio f a i b)).o r = (ev F (.callio f a i b)).v r := nr rfl
theorem callio_ag {f i : Nat} : (ev F (.callio f a i b)).ag r x = some x := nr rfl
theorem callio_t {f i : Nat} : (ev F (.callio f a i b)).t r = ((ev F (.callio f a i b)).v r).bind kTr := nr rfl
theorem callio_c {f i : Nat} : (ev F (.callio f a i b)).c r = (ev F (.callio f a i b)).t r := nr rfl
theorem callio_p {f i : Nat} : (ev F (.callio f a i b)).p r = ((ev F (.callio f a i b)).v r).bind ptOf := nr rfl
theorem callio_i {f i : Nat} : (ev F (.callio f a i b)).i r = ((ev F (.callio f a i b)).v r).bind kIt := nr rfl
theorem isi_v {ts : List Ty} : (ev F (.isi a ts)).v r = ((ev F a).o r).bind (kIsi ts) := by
  show toV (vIsi (ev F a) ts) r = _
  unfold toV vIsi
  cases (ev F a).o r with
  | ok x r1 => cases x <;> rfl
  | _ => rfl
theorem isi_o {ts : List Ty} : (ev F (.isi a ts)).o r = (ev F (.isi a ts)).v r := nr rfl
theorem isi_ag {ts : List Ty} : (ev F (.isi a ts)).ag r x = some x := nr rfl
theorem isi_t {ts : List Ty} : (ev F (.isi a ts)).t r = ((ev F (.isi a ts)).v r).bind kTr := nr rfl
theorem isi_c {ts : List Ty} : (ev F (.isi a ts)).c r = (ev F (.isi a ts)).t r := nr rfl
theorem isi_p {ts : List Ty} : (ev F (.isi a ts)).p r = ((ev F (.isi a ts)).v r).bind ptOf := nr rfl
theorem isi_i {ts : List Ty} : (ev F (.isi a ts)).i r = ((ev F (.isi a ts)).v r).bind kIt := nr rfl
theorem bi_v {o : Bi} : (ev F (.bi o a)).v r = ((ev F a).o r).bind (kBi o) := nr rfl
theorem bi_o {o : Bi} : (ev F (.bi o a)).o r = (ev F (.bi o a)).v r := nr rfl
theorem bi_ag {o : Bi} : (ev F (.bi o a)).ag r x = some x := nr rfl
theorem bi_t {o : Bi} : (ev F (.bi o a)).t r = ((ev F (.bi o a)).v r).bind kTr := nr rfl
theorem bi_c {o : Bi} : (ev F (.bi o a)).c r = (ev F (.bi o a)).t r := nr rfl
theorem bi_p {o : Bi} : (ev F (.bi o a)).p r = ((ev F (.bi o a)).v r).bind ptOf := nr rfl
theorem bi_i {o : Bi} : (ev F (.bi o a)).i r = ((ev F (.bi o a)).v r).bind kIt := nr rfl
theorem bi2_v {o : Bi} : (ev F (.bi2 o a b)).v r = ((ev F a).v r).bind (kBi2 F o b) := nr rfl
theorem bi2_o {o : Bi} : (ev F (.bi2 o a b)).o r = (ev F (.bi2 o a b)).v r := nr rfl
theorem bi2_ag {o : Bi} : (ev F (.bi2 o a b)).ag r x = some x := nr rfl
theorem bi2_t {o : Bi} : (ev F (.bi2 o a b)).t r = ((ev F (.bi2 o a b)).v r).bind kTr := nr rfl
theorem bi2_c {o : Bi} : (ev F (.bi2 o a b)).c r = (ev F (.bi2 o a b)).t r := nr rfl
theorem bi2_p {o : Bi} : (ev F (.bi2 o a b)).p r = ((ev F (.bi2 o a b)).v r).bind ptOf := nr rfl
theorem bi2_i {o : Bi} : (ev F (.bi2 o a b)).i r = ((ev F (.bi2 o a b)).v r).bind kIt := nr rfl
theorem lc_v {tg : Tg} {own : List Nat} : (ev F (.lc e tg a c own)).v r = ((ev F a).i r).bind (kLc F e tg c own) := nr rfl
theorem lc_o {tg : Tg} {own : List Nat} : (ev F (.lc e tg a c own)).o r = (ev F (.lc e tg a c own)).v r := nr rfl
theorem lc_ag {tg : Tg} {own : List Nat} : (ev F (.lc e tg a c own)).ag r x = some x := nr rfl
theorem lc_t {tg : Tg} {own : List Nat} : (ev F (.lc e tg a c own)).t r = ((ev F (.lc e tg a c own)).v r).bind kTr := nr rfl
theorem lc_c {tg : Tg} {own : List Nat} : (ev F (.lc e tg a c own)).c r = (ev F (.lc e tg a c own)).t r := nr rfl
theorem lc_p {tg : Tg} {own : List Nat} : (ev F (.lc e tg a c own)).p r = ((ev F (.lc e tg a c own)).v r).bind ptOf := nr rfl
theorem lc_i {tg : Tg} {own : List Nat} : (ev F (.lc e tg a c own)).i r = ((ev F (.lc e tg a c own)).v r).bind kIt := nr rfl
theorem lc2_v {tg tg1 : Tg} {own own1 : List Nat} {z : E} : (ev F (.lc2 e tg a c tg1 b z own own1)).v r = ((ev F a).i r).bind (kLc2 F e tg c tg1 b z own own1) := nr rfl
theorem lc2_o {tg tg1 : Tg} {own own1 : List Nat} {z : E} : (ev F (.lc2 e tg a c tg1 b z own own1)).o r = (ev F (.lc2 e tg a c tg1 b z own own1)).v r := nr rfl
theorem lc2_ag {tg tg1 : Tg} {own own1 : List Nat} {z : E} : (ev F (.lc2 e tg a c tg1 b z own own1)).ag r x = some x := nr rfl
theorem lc2_t {tg tg1 : Tg} {own own1 : List Nat} {z : E} : (ev F (.lc2 e tg a c tg1 b z own own1)).t r = ((ev F (.lc2 e tg a c tg1 b z own own1)).v r).bind kTr := nr rfl
theorem lc2_c {tg tg1 : Tg} {own own1 : List Nat} {z : E} : (ev F (.lc2 e tg a c tg1 b z own own1)).c r = (ev F (.lc2 e tg a c tg1 b z own own1)).t r := nr rfl
theorem lc2_p {tg tg1 : Tg} {own own1 : List Nat} {z : E} : (ev F (.lc2 e tg a c tg1 b z own own1)).p r = ((ev F (.lc2 e tg a c tg1 b z own own1)).v r).bind ptOf := nr rfl
theorem lc2_i {tg tg1 : Tg} {own own1 : List Nat} {z : E} : (ev F (.lc2 e tg a c tg1 b z own own1)).i r = ((ev F (.lc2 e tg a c tg1 b z own own1)).v r).bind kIt := nr rfl
theorem allint_v {i l h : Nat} : (ev F (.allint i l h)).v r = (vAll i l h r).bind kB := nr rfl
theorem allint_o {i l h : Nat} : (ev F (.allint i l h)).o r = (ev F (.allint i l h)).v r := nr rfl
theorem allint_ag {i l h : Nat} : (ev F (.allint i l h)).ag r x = some x := nr rfl
theorem allint_t {i l h : Nat} : (ev F (.allint i l h)).t r = ((ev F (.allint i l h)).v r).bind kTr := nr rfl
theorem allint_c {i l h : Nat} : (ev F (.allint i l h)).c r = (ev F (.allint i l h)).t r := nr rfl
theorem allint_p {i l h : Nat} : (ev F (.allint i l h)).p r = ((ev F (.allint i l h)).v r).bind ptOf := nr rfl
theorem allint_i {i l h : Nat} : (ev F (.allint i l h)).i r = ((ev F (.allint i l h)).v r).bind kIt := nr rfl
theorem told_v {f : Nat} : (ev F (.told f a)).v r = toldR ((ev (fun i => F (i + 1000)) a).v r) := nr rfl
theorem told_o {f : Nat} : (ev F (.told f a)).o r = (ev F (.told f a)).v r := nr rfl
theorem told_ag {f : Nat} : (ev F (.told f a)).ag r x = some x := nr rfl
theorem told_t {f : Nat} : (ev F (.told f a)).t r = ((ev F (.told f a)).v r).bind kTr := nr rfl
theorem told_c {f : Nat} : (ev F (.told f a)).c r = (ev F (.told f a)).t r := nr rfl
theorem told_p {f : Nat} : (ev F (.told f a)).p r = ((ev F (.told f a)).v r).bind ptOf := nr rfl
theorem told_i {f : Nat} : (ev F (.told f a)).i r = ((ev F (.told f a)).v r).bind kIt := nr rfl
theorem dflt_v {q : Bi} : (ev F (.dflt q a c)).v r = ((ev F a).o r).bind (kDf F q a c) := nr rfl
theorem dflt_o {q : Bi} : (ev F (.dflt q a c)).o r = (ev F (.dflt q a c)).v r := nr rfl
theorem dflt_ag {q : Bi} : (ev F (.dflt q a c)).ag r x = some x := nr rfl
theorem dflt_t {q : Bi} : (ev F (.dflt q a c)).t r = ((ev F (.dflt q a c)).v r).bind kTr := nr rfl
theorem dflt_c {q : Bi} : (ev F (.dflt q a c)).c r = (ev F (.dflt q a c)).t r := nr rfl
theorem dflt_p {q : Bi} : (ev F (.dflt q a c)).p r = ((ev F (.dflt q a c)).v r).bind ptOf := nr rfl
theorem dflt_i {q : Bi} : (ev F (.dflt q a c)).i r = ((ev F (.dflt q a c)).v r).bind kIt := nr rfl
theorem nset_v  : (ev F (.nset a)).v r = ((ev F a).o r).bind kNs := nr rfl
theorem nset_o  : (ev F (.nset a)).o r = (ev F (.nset a)).v r := nr rfl
theorem nset_ag  : (ev F (.nset a)).ag r x = some x := nr rfl
theorem nset_t  : (ev F (.nset a)).t r = ((ev F (.nset a)).v r).bind kTr := nr rfl
theorem nset_c  : (ev F (.nset a)).c r = (ev F (.nset a)).t r := nr rfl
theorem nset_p  : (ev F (.nset a)).p r = ((ev F (.nset a)).v r).bind ptOf := nr rfl
theorem nset_i  : (ev F (.nset a)).i r = ((ev F (.nset a)).v r).bind kIt := nr rfl
theorem lc3_v {tg tg1 tg2 : Tg} {own own1 own2 : List Nat} {z u v : E} : (ev F (.lc3 e tg a c tg1 b z tg2 u v own own1 own2)).v r = ((ev F a).i r).bind (kLc3 F e tg c tg1 b z tg2 u v own own1 own2) := nr rfl
theorem lc3_o {tg tg1 tg2 : Tg} {own own1 own2 : List Nat} {z u v : E} : (ev F (.lc3 e tg a c tg1 b z tg2 u v own own1 own2)).o r = (ev F (.lc3 e tg a c tg1 b z tg2 u v own own1 own2)).v r := nr rfl
theorem lc3_ag {tg tg1 tg2 : Tg} {own own1 own2 : List Nat} {z u v : E} : (ev F (.lc3 e tg a c tg1 b z tg2 u v own own1 own2)).ag r x = some x := nr rfl
theorem lc3_t {tg tg1 tg2 : Tg} {own own1 own2 : List Nat} {z u v : E} : (ev F (.lc3 e tg a c tg1 b z tg2 u v own own1 own2)).t r = ((ev F (.lc3 e tg a c tg1 b z tg2 u v own own1 own2)).v r).bind kTr := nr rfl
theorem lc3_c {tg tg1 tg2 : Tg} {own own1 own2 : List Nat} {z u v : E} : (ev F (.lc3 e tg a c tg1 b z tg2 u v own own1 own2)).c r = (ev F (.lc3 e tg a c tg1 b z tg2 u v own own1 own2)).t r := nr rfl
theorem lc3_p {tg tg1 tg2 : Tg} {own own1 own2 : List Nat} {z u v : E} : (ev F (.lc3 e tg a c tg1 b z tg2 u v own own1 own2)).p r = ((ev F (.lc3 e tg a c tg1 b z tg2 u v own own1 own2)).v r).bind ptOf := nr rfl
theorem lc3_i {tg tg1 tg2 : Tg} {own own1 own2 : List Nat} {z u v : E} : (ev F (.lc3 e tg a c tg1 b z tg2 u v own own1 own2)).i r = ((ev F (.lc3 e tg a c tg1 b z tg2 u v own own1 own2)).v r).bind kIt := nr rfl
theorem chain_v {o p : Cop} : (ev F (.chain o p a b c)).v r = ((ev F (.chain o p a b c)).t r).bind kB := nr rfl
theorem chain_o {o p : Cop} : (ev F (.chain o p a b c)).o r = (ev F (.chain o p a b c)).v r := nr rfl
theorem chain_ag {o p : Cop} : (ev F (.chain o p a b c)).ag r x = some x := nr rfl
theorem chain_t {o p : Cop} : (ev F (.chain o p a b c)).t r = ((ev F a).v r).bind (kCh F o p b c) := nr rfl
theorem chain_c {o p : Cop} : (ev F (.chain o p a b c)).c r = (ev F (.chain o p a b c)).t r := nr rfl
theorem chain_p {o p : Cop} : (ev F (.chain o p a b c)).p r = ((ev F (.chain o p a b c)).v r).bind ptOf := nr rfl
theorem chain_i {o p : Cop} : (ev F (.chain o p a b c)).i r = ((ev F (.chain o p a b c)).v r).bind kIt := nr rfl
theorem lrng1_v {t : Bool} : (ev F (.lrng1 t a)).v r = ((ev F a).v r).bind (kLr t) := nr rfl
theorem lrng1_o {t : Bool} : (ev F (.lrng1 t a)).o r = (ev F (.lrng1 t a)).v r := nr rfl
theorem lrng1_ag {t : Bool} : (ev F (.lrng1 t a)).ag r x = some x := nr rfl
theorem lrng1_t {t : Bool} : (ev F (.lrng1 t a)).t r = ((ev F (.lrng1 t a)).v r).bind kTr := nr rfl
theorem lrng1_c {t : Bool} : (ev F (.lrng1 t a)).c r = (ev F (.lrng1 t a)).t r := nr rfl
theorem lrng1_p {t : Bool} : (ev F (.lrng1 t a)).p r = ((ev F (.lrng1 t a)).v r).bind ptOf := nr rfl
theorem lrng1_i {t : Bool} : (ev F (.lrng1 t a)).i r = ((ev F (.lrng1 t a)).v r).bind kIt := nr rfl
theorem g2_v {l : Bool} : (ev F (.g2 l a b)).v r = ((ev F a).v r).bind (kG2 F l b) := nr rfl
theorem g2_o {l : Bool} : (ev F (.g2 l a b)).o r = (ev F (.g2 l a b)).v r := nr rfl
theorem g2_ag {l : Bool} : (ev F (.g2 l a b)).ag r x = some x := nr rfl
theorem g2_t {l : Bool} : (ev F (.g2 l a b)).t r = ((ev F (.g2 l a b)).v r).bind kTr := nr rfl
theorem g2_c {l : Bool} : (ev F (.g2 l a b)).c r = (ev F (.g2 l a b)).t r := nr rfl
theorem g2_p {l : Bool} : (ev F (.g2 l a b)).p r = ((ev F (.g2 l a b)).v r).bind ptOf := nr rfl
theorem g2_i {l : Bool} : (ev F (.g2 l a b)).i r = ((ev F (.g2 l a b)).v r).bind kIt := nr rfl
theorem meth_v {m : Nat} : (ev F (.meth m a b)).v r = ((ev F a).o r).bind (kMe F m a b) := nr rfl
theorem meth_o {m : Nat} : (ev F (.meth m a b)).o r = (ev F (.meth m a b)).v r := nr rfl
theorem meth_ag {m : Nat} : (ev F (.meth m a b)).ag r x = some x := nr rfl
theorem meth_t {m : Nat} : (ev F (.meth m a b)).t r = ((ev F (.meth m a b)).v r).bind kTr := nr rfl
theorem meth_c {m : Nat} : (ev F (.meth m a b)).c r = (ev F (.meth m a b)).t r := nr rfl
theorem meth_p {m : Nat} : (ev F (.meth m a b)).p r = ((ev F (.meth m a b)).v r).bind ptOf := nr rfl
theorem meth_i {m : Nat} : (ev F (.meth m a b)).i r = ((ev F (.meth m a b)).v r).bind kIt := nr rfl
theorem rng1_i : (ev F (.rng1 a)).i r = ((ev F a).v r).bind kRng := nr rfl
theorem rng2_i : (ev F (.rng2 a b)).i r = ((ev F a).v r).bind (kRng2 F b) := nr rfl
theorem zip_i : (ev F (.zip a b)).i r = ((ev F a).v r).bind (kZip F b) := nr rfl
theorem enum_i : (ev F (.enum a)).i r = ((ev F a).v r).bind enumI := nr rfl
theorem enumI_l {xs : List D} : enumI (.list xs) r = .ok (enumFrom 0 xs) r := nr rfl
theorem enumI_t {xs : List D} : enumI (.tuple xs) r = .ok (enumFrom 0 xs) r := nr rfl
theorem perm1_i : (ev F (.perm1 a)).i r = ((ev F a).v r).bind kPm := nr rfl
theorem perm2_i : (ev F (.perm2 a b)).i r = ((ev F a).v r).bind (kPm2 F b) := nr rfl
theorem comb_i : (ev F (.comb a b)).i r = ((ev F a).v r).bind (kCb F b) := nr rfl
def asgR (t : Tg) (d : D) (r : Rho) : Out := match asgT t d r with
  | some r2 => .nx r2
  | none => .bad
theorem asgR_nm {i : Nat} : asgR (.nm i) d r = .nx (r.set i (.val d)) := nr rfl
def asgOR (i : Nat) (d : D) (r1 : Rho) : Out := match d with
  | .list ds => if i < r1.length then .nx (r1.set i (.own ds)) else .bad
  | _ => .bad
theorem asgOR_list {i : Nat} {ds : List D} : asgOR i (.list ds) r = if i < r.length then .nx (r.set i (.own ds)) else .bad := nr rfl
def kEx  (d : D) (r : Rho) : Out := .nx r
theorem kEx_x {d : D} {r : Rho} : kEx d r = .nx r := nr rfl
def kRet  (d : D) (r : Rho) : Out := .rt d r
theorem kRet_x {d : D} {r : Rho} : kRet d r = .rt d r := nr rfl
def kSet (F : Nat → Fn) (i : Nat) (k : E) (d : D) (r : Rho) : Out := if isL r i = true then ((ev F k).v r).out (setR i d) else .bad
theorem kSet_x {F : Nat → Fn} {i : Nat} {k : E} {d : D} {r : Rho} : kSet F i k d r = if isL r i = true then ((ev F k).v r).out (setR i d) else .bad := nr rfl
def kIf (F : Nat → Fn) (a b : S) (k : Bool) (r : Rho) : Out := if k = true then exec F a r else exec F b r
theorem kIf_x {F : Nat → Fn} {a b : S} {k : Bool} {r : Rho} : kIf F a b k r = if k = true then exec F a r else exec F b r := nr rfl
def kFor (F : Nat → Fn) (t : Tg) (b : S) (xs : List D) (r : Rho) : Out := forLoop (forB t (exec F b)) xs r
theorem kFor_x {F : Nat → Fn} {t : Tg} {b : S} {xs : List D} {r : Rho} : kFor F t b xs r = forLoop (forB t (exec F b)) xs r := nr rfl
theorem skip_x : exec F .skip r = .nx r := nr rfl
theorem seq_x {a b : S} : exec F (.seq a b) r = (exec F a r).then (exec F b) := nr rfl
theorem asg_x {t : Tg} : exec F (.asg t e) r = ((ev F e).v r).out (asgR t) := nr rfl
theorem asgO_x {i : Nat} : exec F (.asgO i e) r = ((ev F e).v r).out (asgOR i) := nr rfl
theorem ex_x : exec F (.ex e) r = ((ev F e).v r).out kEx := nr rfl
theorem app_x {i : Nat} : exec F (.app i e) r = if isL r i = true then ((ev F e).v r).out (appR i) else .bad := nr rfl
def appS (i : Nat) (d : D) (s : Option Slot) (r1 : Rho) : Out := match s with
  | some (.own ds) => if ds.length ≤ big then .nx (r1.set i (.own (ds ++ [d]))) else .bad
  | some (.io ds) => if ds.length ≤ big then .nx (r1.set i (.io (ds ++ [d]))) else .bad
  | _ => .bad
theorem appR_S {i : Nat} : appR i d r = appS i d r[i]? r := by
  unfold appR appS
  rcases r[i]? with _ | s
  · rfl
  · cases s <;> rfl
theorem appS_own {i : Nat} {ds : List D} : appS i d (some (.own ds)) r = if ds.length ≤ big then .nx (r.set i (.own (ds ++ [d]))) else .bad := nr rfl
theorem appS_io {i : Nat} {ds : List D} : appS i d (some (.io ds)) r = if ds.length ≤ big then .nx (r.set i (.io (ds ++ [d]))) else .bad := nr rfl
theorem setI_x {i : Nat} {k : E} : exec F (.setI i k e) r = ((ev F e).v r).out (kSet F i k) := nr rfl
def setRS (i : Nat) (d : D) (z : Int) (s : Option Slot) (r2 : Rho) : Out := match s with
  | some (.own ds) => (match ixN ds.length z with
      | some n => .nx (r2.set i (.own (ds.set n d)))
      | none => .bad)
  | some (.io ds) => (match ixN ds.length z with
      | some n => .nx (r2.set i (.io (ds.set n d)))
      | none => .bad)
  | _ => .bad
theorem setR_int {i : Nat} {k : Int} : setR i d (.int k) r = setRS i d k r[i]? r := by
  unfold setR setRS
  try dsimp only
  all_goals (rcases r[i]? with _ | s <;> first | rfl | (cases s <;> rfl))
def setN (o : Option Nat) (f : List D → Slot) (ds : List D) (i : Nat) (d : D) (r2 : Rho) : Out := match o with
  | some n => .nx (r2.set i (f (ds.set n d)))
  | none => .bad
theorem setRS_own {i : Nat} {k : Int} {ds : List D} : setRS i d k (some (.own ds)) r = setN (ixN ds.length k) .own ds i d r := nr rfl
theorem setRS_io {i : Nat} {k : Int} {ds : List D} : setRS i d k (some (.io ds)) r = setN (ixN ds.length k) .io ds i d r := nr rfl
theorem setN_some {n i : Nat} {f : List D → Slot} {ds : List D} : setN (some n) f ds i d r = .nx (r.set i (f (ds.set n d))) := nr rfl
theorem ret_x : exec F (.ret e) r = ((ev F e).v r).out kRet := nr rfl
theorem retN_x : exec F .retN r = .rt .none r := nr rfl
theorem if_x {a b : S} : exec F (.iff c a b) r = ((ev F c).t r).out (kIf F a b) := nr rfl
theorem for_x {t : Tg} {b : S} : exec F (.forr t e b) r = ((ev F e).i r).out (kFor F t b) := nr rfl
theorem brk_x : exec F .brk r = .bk r := nr rfl
theorem cont_x : exec F .cont r = .ct r := nr rfl
def raiR (n : Nat) (x : FRes) (r : Rho) : Out := match x with
  | .ok dd _ => .exc n dd r
  | _ => .bad
def kRais (F : Nat → Fn) (n : Nat) (d : D) (r : Rho) : Out := raiR n (F 2 [d] []) r
theorem kRais_x {F : Nat → Fn} {n : Nat} {d : D} {r : Rho} : kRais F n d r = raiR n (F 2 [d] []) r := nr rfl
theorem rais_x {n : Nat} : exec F (.rais n e) r = ((ev F e).v r).out (kRais F n) := nr rfl
theorem raiR_ok {n : Nat} {cs : List D} : raiR n (.ok d cs) r = .exc n d r := nr rfl
def augS (F : Nat → Fn) (i : Nat) (o : Bop) (e : E) (r : Rho) (s : Option Slot) : Out := match s with
  | some (.val (.int x)) => ((ev F e).v r).out (augR i o x)
  | _ => .bad
theorem aug_x {i : Nat} {o : Bop} : exec F (.aug i o e) r = augS F i o e r r[i]? := by
  show xAug i o (ev F e) r = _
  unfold xAug augS
  rcases r[i]? with _ | s
  · rfl
  · cases s with
    | val d => cases d <;> rfl
    | _ => rfl
theorem augS_int {i : Nat} {o : Bop} {n : Int} : augS F i o e r (some (.val (.int n))) = ((ev F e).v r).out (augR i o n) := nr rfl
theorem augR_add {i : Nat} {n m : Int} : augR i .add n (.int m) r = .nx (r.set i (.val (.int (n + m)))) := nr rfl
theorem augR_sub {i : Nat} {n m : Int} : augR i .sub n (.int m) r = .nx (r.set i (.val (.int (n - m)))) := nr rfl
theorem wipe0 : wipeR r [] = r := nr rfl
theorem wipeS {v : Nat} {vs : List Nat} : wipeR r (v :: vs) = (wipeR r vs).set v .un := nr rfl
theorem back0 : backR r r1 [] = r1 := nr rfl
theorem backS {v : Nat} {vs : List Nat} : backR r r1 (v :: vs) = (backR r r1 vs).set v (r.getD v .un) := nr rfl
def forN (o : Out) (k : Rho → Out) : Out := match o with
  | .nx r1 => k r1
  | .ct r1 => k r1
  | .bk r1 => .nx r1
  | o => o
theorem for0 {f : D → Rho → Out} : forLoop f [] r = .nx r := nr rfl
theorem forS {f : D → Rho → Out} {xs : List D} : forLoop f (x :: xs) r = forN (f x r) (forLoop f xs) := by
  conv => lhs; unfold forLoop
  unfold forN
  cases f x r <;> rfl
theorem forN_nx {k : Rho → Out} : forN (.nx r) k = k r := nr rfl
theorem forN_ct {k : Rho → Out} : forN (.ct r) k = k r := nr rfl
theorem forN_bk {k : Rho → Out} : forN (.bk r) k = .nx r := nr rfl
theorem forN_rt {k : Rho → Out} : forN (.rt d r) k = .rt d r := nr rfl
theorem forB_nm {i : Nat} {f : Rho → Out} : forB (.nm i) f x r = f (r.set i (.val x)) := nr rfl
def kLcB2 (own : List Nat) (y : D) (r : Rho) : Res (Option D) := .ok (some y) (wipeR r own)
theorem kLcB2_x {own : List Nat} {y : D} {r : Rho} : kLcB2 own y r = .ok (some y) (wipeR r own) := nr rfl
def kLcB (u : Sm) (own : List Nat) (k : Bool) (r : Rho) : Res (Option D) := if k = true then (u.v r).calm (kLcB2 own) else .ok none (wipeR r own)
theorem kLcB_x {u : Sm} {own : List Nat} {k : Bool} {r : Rho} : kLcB u own k r = if k = true then (u.v r).calm (kLcB2 own) else .ok none (wipeR r own) := nr rfl
theorem lcBody_nm {u w : Sm} {i : Nat} {own : List Nat} : lcBody u (.nm i) w own x r = (w.c (r.set i (.val x))).calm (kLcB u own) := nr rfl
def forO (o : Option Rho) (f : Rho → Out) : Out := match o with
  | some r => f r
  | none => .bad
theorem forO_sm {f : Rho → Out} : forO (some r) f = f r := nr rfl
theorem forB_tp {is : List Nat} {f : Rho → Out} {ds : List D} : forB (.tp is) f (.tuple ds) r = forO (asgs is ds r) f := nr rfl
theorem forB_tt {qs : List Tq} {f : Rho → Out} {ds : List D} : forB (.tt qs) f (.tuple ds) r = forO (asgqs qs ds r) f := nr rfl
theorem asgs0 : asgs [] [] r = some r := nr rfl
theorem asgsS {i : Nat} {is : List Nat} {ds : List D} : asgs (i :: is) (x :: ds) r = asgs is ds (r.set i (.val x)) := nr rfl
theorem asgqs0 : asgqs [] [] r = some r := nr rfl
theorem asgqsS {q : Tq} {qs : List Tq} {ds : List D} : asgqs (q :: qs) (x :: ds) r = (asgQ q x r).bind (asgqs qs ds) := nr rfl
theorem asgQ_nm {i : Nat} : asgQ (.nm i) x r = some (r.set i (.val x)) := nr rfl
theorem asgQ_tp {is : List Nat} {ds : List D} : asgQ (.tp is) (.tuple ds) r = asgs is ds r := nr rfl
def lcO (o : Option Rho) (f : Rho → Res (Option D)) : Res (Option D) := match o with
  | some r => f r
  | none => .bad
theorem lcO_sm {f : Rho → Res (Option D)} : lcO (some r) f = f r := nr rfl
def lcBT (u w : Sm) (own : List Nat) (r : Rho) : Res (Option D) := (w.c r).calm (kLcB u own)
theorem lcBT_x {u w : Sm} {own : List Nat} : lcBT u w own r = (w.c r).calm (kLcB u own) := nr rfl
theorem lcBody_tp {u w : Sm} {is own : List Nat} {ds : List D} : lcBody u (.tp is) w own (.tuple ds) r = lcO (asgs is ds r) (lcBT u w own) := nr rfl
theorem lcBody_tt {u w : Sm} {qs : List Tq} {own : List Nat} {ds : List D} : lcBody u (.tt qs) w own (.tuple ds) r = lcO (asgqs qs ds r) (lcBT u w own) := nr rfl
def asgO' (o : Option Rho) : Out := match o with
  | some r => .nx r
  | none => .bad
theorem asgO_sm : asgO' (some r) = .nx r := nr rfl
theorem asg_tp2 {is : List Nat} {ds : List D} : asgR (.tp is) (.tuple ds) r = asgO' (asgs is ds r) := nr rfl
theorem asg_tt {qs : List Tq} {ds : List D} : asgR (.tt qs) (.tuple ds) r = asgO' (asgqs qs ds r) := nr rfl
theorem lc0 {f : D → Rho → Res (Option D)} : lcLoop f [] r = .ok [] r := nr rfl
def kLs2 (o : Option D) (ys : List D) (r : Rho) : Res (List D) := .ok (o.toList ++ ys) r
theorem kLs2_x {o : Option D} {ys : List D} {r : Rho} : kLs2 o ys r = .ok (o.toList ++ ys) r := nr rfl
def kLs (f : D → Rho → Res (Option D)) (xs : List D) (o : Option D) (r : Rho) : Res (List D) := (lcLoop f xs r).calm (kLs2 o)
theorem kLs_x {f : D → Rho → Res (Option D)} {xs : List D} {o : Option D} {r : Rho} : kLs f xs o r = (lcLoop f xs r).calm (kLs2 o) := nr rfl
theorem lcS {f : D → Rho → Res (Option D)} {xs : List D} : lcLoop f (x :: xs) r = (f x r).calm (kLs f xs) := nr rfl
theorem tl_some {α : Type} {v : α} {vs : List α} : (some v).toList ++ vs = v :: vs := nr rfl
theorem tl_none {α : Type} {vs : List α} : (none : Option α).toList ++ vs = vs := nr rfl
/-- the end of a def -/
def finN (o : Out) : FRes := match o with
  | .nx _ => .ok .none []
  | .rt d _ => .ok d []
  | .exc x d _ => .exc x d
  | _ => .bad
def finJ (k : Nat) (o : Out) : FRes := match o with
  | .nx r => (match ioAt (some k) r with | some cs' => .ok .none cs' | none => .bad)
  | .rt d r => (match ioAt (some k) r with | some cs' => .ok d cs' | none => .bad)
  | _ => .bad
theorem finN_nx : finN (.nx r) = .ok .none [] := nr rfl
theorem finN_rt : finN (.rt d r) = .ok d [] := nr rfl
theorem finN_exc {n : Nat} : finN (.exc n d r) = .exc n d := nr rfl
def ioF (s : Option Slot) (d : D) : FRes := match s with
  | some (.io cs) => .ok d cs
  | _ => .bad
theorem finJ_rt {k : Nat} : finJ k (.rt d r) = ioF r[k]? d := by
  unfold finJ ioAt ioF
  try dsimp only
  all_goals (rcases r[k]? with _ | s <;> first | rfl | (cases s <;> rfl))
theorem ioF_io {cs : List D} : ioF (some (.io cs)) d = .ok d cs := nr rfl
theorem run_N {b : S} {n k : Nat} {ds cs : List D} (h : ds.length = k) : runF F b n k none ds cs = finN (exec F b (start0 n none ds cs)) := by
  unfold runF
  rw [if_pos (by simpa using h)]
  unfold finN
  cases exec F b (start0 n none ds cs) <;> rfl
theorem run_J {b : S} {n k j : Nat} {ds cs : List D} (h : ds.length + 1 = k) : runF F b n k (some j) ds cs = finJ j (exec F b (start0 n (some j) ds cs)) := by
  unfold runF
  rw [if_pos (by simpa using h)]
  unfold finJ
  cases exec F b (start0 n (some j) ds cs) <;> rfl
/-! the plain operations -/
theorem add_ii {i j : Int} : binD .add (.int i) (.int j) = some (.int (i + j)) := nr rfl
theorem sub_ii {i j : Int} : binD .sub (.int i) (.int j) = some (.int (i - j)) := nr rfl
theorem add_ll {xs ys : List D} : binD .add (.list xs) (.list ys) = if fits (xs ++ ys) = true then some (.list (xs ++ ys)) else none := nr rfl
theorem add_tt {xs ys : List D} : binD .add (.tuple xs) (.tuple ys) = if fits (xs ++ ys) = true then some (.tuple (xs ++ ys)) else none := nr rfl
theorem mulOk_r {i j : Int} (h1 : -18446744073709551616 < j) (h2 : j < 18446744073709551616) : mulOk i j = true := by
  have e : (2 : Int) ^ 64 = 18446744073709551616 := by decide
  unfold mulOk
  rw [e]
  exact decide_eq_true (.inr ⟨h1, h2⟩)
theorem mulOk_l {i j : Int} (h1 : -18446744073709551616 < i) (h2 : i < 18446744073709551616) : mulOk i j = true := by
  have e : (2 : Int) ^ 64 = 18446744073709551616 := by decide
  unfold mulOk
  rw [e]
  exact decide_eq_true (.inl ⟨h1, h2⟩)
theorem mul_ii {i j : Int} (h : mulOk i j = true) : binD .mul (.int i) (.int j) = some (.int (i * j)) := if_pos h
theorem mod_ii {i j : Int} (h : 0 < j) : binD .mod (.int i) (.int j) = some (.int (i % j)) := if_pos h
theorem div_ii {i j : Int} (h : 0 < j) (h2 : j < 1073741824) : binD .div (.int i) (.int j) = some (.int (i / j)) := if_pos ⟨h, h2⟩
theorem lt_ii {i j : Int} : cmpD .lt (.int i) (.int j) = some (decide (i < j)) := nr rfl
theorem gt_ii {i j : Int} : cmpD .gt (.int i) (.int j) = some (decide (j < i)) := nr rfl
theorem le_ii {i j : Int} : cmpD .le (.int i) (.int j) = some (decide (i ≤ j)) := nr rfl
theorem ge_ii {i j : Int} : cmpD .ge (.int i) (.int j) = some (decide (j ≤ i)) := nr rfl
theorem shaped_int {i : Int} : SeqAt.shaped (.int i) = true := nr rfl
theorem shaped_bool {i : Bool} : SeqAt.shaped (.bool i) = true := nr rfl
theorem shaped_none : SeqAt.shaped (.none) = true := nr rfl
theorem eqv_ii {i j : Int} : PyData.eqv (.int i) (.int j) = decide (i = j) := by
  unfold PyData.eqv
  by_cases h : i = j <;> simp [h]
theorem eq_ii {i j : Int} : cmpD .eq (.int i) (.int j) = some (decide (i = j)) := by
  show some _ = _
  rw [eqv_ii]
theorem ne_ii {i j : Int} : cmpD .ne (.int i) (.int j) = some (!decide (i = j)) := by
  show some _ = _
  rw [eqv_ii]
theorem is_n : cmpD .is x .none = some (isNone x) := by cases x <;> rfl
theorem isnot_n : cmpD .isnot x .none = some (!isNone x) := by cases x <;> rfl
theorem isNone_none : isNone .none = true := nr rfl
theorem isNone_int {i : Int} : isNone (.int i) = false := nr rfl
theorem isNone_bool {i : Bool} : isNone (.bool i) = false := nr rfl
theorem isNone_str {i : Str} : isNone (.str i) = false := nr rfl
theorem isNone_list {i : List D} : isNone (.list i) = false := nr rfl
theorem isNone_tuple {i : List D} : isNone (.tuple i) = false := nr rfl
theorem len_l {xs : List D} : biD .len (.list xs) = some (.int xs.length) := nr rfl
theorem len_t {xs : List D} : biD .len (.tuple xs) = some (.int xs.length) := nr rfl
theorem int_i {i : Int} : biD .int (.int i) = some (.int i) := nr rfl
theorem sorted_l {xs : List D} : biD .sorted (.list xs) = sortD xs := nr rfl
theorem tuple_l {xs : List D} : biD .tuple (.list xs) = some (.tuple xs) := nr rfl
theorem tuple_t {xs : List D} : biD .tuple (.tuple xs) = some (.tuple xs) := nr rfl
theorem list_l {xs : List D} : biD .list (.list xs) = some (.list xs) := nr rfl
theorem list_t {xs : List D} : biD .list (.tuple xs) = some (.list xs) := nr rfl
theorem sum_l {xs : List D} : biD .sum (.list xs) = (intsD xs).map fun ns => .int ns.sum := nr rfl
theorem sum_t {xs : List D} : biD .sum (.tuple xs) = (intsD xs).map fun ns => .int ns.sum := nr rfl
theorem omap_sm {α β : Type} {f : α → β} {v : α} : (some v).map f = some (f v) := nr rfl
theorem intsD_map {ns : List Int} : intsD (ns.map .int) = some ns := by
  induction ns with
  | nil => rfl
  | cons n r ih => show (intsD (r.map .int)).map _ = _; rw [ih]; rfl
theorem sort_ints {ns : List Int} : sortD (ns.map .int) = some (.list ((ns.mergeSort fun a b => decide (a ≤ b)).map .int)) := by
  unfold sortD
  rw [intsD_map]
theorem max2_i {i j : Int} : bi2D .max (.int i) (.int j) = some (.int (if j > i then j else i)) := nr rfl
theorem min2_i {i j : Int} : bi2D .min (.int i) (.int j) = some (.int (if j < i then j else i)) := nr rfl
theorem items_l {xs : List D} : items (.list xs) = some xs := nr rfl
theorem items_t {xs : List D} : items (.tuple xs) = some xs := nr rfl
theorem truth_bool {k : Bool} : truth (.bool k) = some k := nr rfl
theorem truth_none : truth .none = some false := nr rfl
theorem truth_int {i : Int} : truth (.int i) = some (i != 0) := nr rfl
theorem fits_le {ds : List D} (h : ds.length ≤ 1000000) : fits ds = true := decide_eq_true h
theorem at_l {xs : List D} {i : Int} : ixD (.list xs) (.int i) = atI xs i := nr rfl
theorem at_t {xs : List D} {i : Int} : ixD (.tuple xs) (.int i) = atI xs i := nr rfl
theorem cut_l {xs : List D} {l h : Option Int} : slD (.list xs) l h = some (.list (cut xs l h)) := nr rfl
theorem cut_t {xs : List D} {l h : Option Int} : slD (.tuple xs) l h = some (.tuple (cut xs l h)) := nr rfl
theorem rng1_ok {n : Nat} (h : n ≤ 1000000) : rngD [.int (n : Int)] = some ((List.range n).map fun (k : Nat) => .int (k : Int)) := by
  unfold rngD
  dsimp only
  rw [if_pos (by omega)]
  rfl
theorem rng2_ok {a b : Nat} (ha : a ≤ 1000000) (hb : b ≤ 1000000) : rngD [.int (a : Int), .int (b : Int)] = some ((List.range (b - a)).map fun (k : Nat) => .int ((a + k : Nat) : Int)) := by
  unfold rngD
  dsimp only
  rw [if_pos (by omega)]
  have e : ((b : Int) - (a : Int)).toNat = b - a := by omega
  rw [e]
  simp
end
end Rf.X
set_option Elab.async false
set_option linter.all false
set_option maxRecDepth 100000
set_option maxHeartbeats 4000000
/-! the helpers of the laws: what they return -/
namespace Rf.X
open PySem L2
local macro_rules
  | `(tactic| simp_arith [$ts,*]) => `(tactic| simp only [bind_okR, bind_excR, calm_okR, out_okR, out_excR, then_nxR, then_rtR, then_bkR, then_ctR, then_excR, opt_sm, obind_sm, giveS_val, giveS_own, peekS_val, peekS_own, peekS_io, at0, atS, set0, setS, getD0, getDS, var_v, var_o, var_ag, var_t, var_c, ptOf_int, var_p, var_i, nil_c, nil_p, nil_a, cons_a, ioE_S, ioS_own, ioS_io, ioO_ok, ioI_ok, isiR_none, isiR_bool, isiR_int, isiR_str, isiR_list, isiR_tuple, toldR_ok, toldR_exc0, negR_int, notR_bool, kAnd_bool, kOr_bool, callR_ok, callR_exc, call0R_ok, isL_S, isLS_own, isLS_io, cst_v, cst_o, cst_ag, cst_t, cst_c, cst_p, cst_i, tup_v, tup_o, tup_ag, tup_t, tup_c, tup_p, tup_i, lst_v, lst_o, lst_ag, lst_t, lst_c, lst_p, lst_i, bin_v, bin_o, bin_ag, bin_t, bin_c, bin_p, bin_i, neg_v, neg_o, neg_ag, neg_t, neg_c, neg_p, neg_i, not_v, not_o, not_ag, not_t, not_c, not_p, not_i, cmp_v, cmp_o, cmp_ag, cmp_t, cmp_c, cmp_p, cmp_i, and_v, and_o, and_ag, and_t, and_c, and_p, and_i, or_v, or_o, or_ag, or_t, or_c, or_p, or_i, ite_v, ite_o, ite_ag, ite_t, ite_c, ite_p, ite_i, ix_v, ix_o, ix_ag, ix_t, ix_c, ix_p, ix_i, sl_v, sl_o, sl_ag, sl_t, sl_c, sl_p, sl_i, call_v, call_o, call_ag, call_t, call_c, call_p, call_i, call0_v, call0_o, call0_ag, call0_t, call0_c, call0_p, call0_i, callio_v, callio_o, callio_ag, callio_t, callio_c, callio_p, callio_i, isi_v, isi_o, isi_ag, isi_t, isi_c, isi_p, isi_i, bi_v, bi_o, bi_ag, bi_t, bi_c, bi_p, bi_i, bi2_v, bi2_o, bi2_ag, bi2_t, bi2_c, bi2_p, bi2_i, lc_v, lc_o, lc_ag, lc_t, lc_c, lc_p, lc_i, lc2_v, lc2_o, lc2_ag, lc2_t, lc2_c, lc2_p, lc2_i, allint_v, allint_o, allint_ag, allint_t, allint_c, allint_p, allint_i, told_v, told_o, told_ag, told_t, told_c, told_p, told_i, dflt_v, dflt_o, dflt_ag, dflt_t, dflt_c, dflt_p, dflt_i, nset_v, nset_o, nset_ag, nset_t, nset_c, nset_p, nset_i, lc3_v, lc3_o, lc3_ag, lc3_t, lc3_c, lc3_p, lc3_i, chain_v, chain_o, chain_ag, chain_t, chain_c, chain_p, chain_i, lrng1_v, lrng1_o, lrng1_ag, lrng1_t, lrng1_c, lrng1_p, lrng1_i, g2_v, g2_o, g2_ag, g2_t, g2_c, g2_p, g2_i, meth_v, meth_o, meth_ag, meth_t, meth_c, meth_p, meth_i, rng1_i, rng2_i, enum_i, asgR_nm, asgOR_list, skip_x, seq_x, asg_x, asgO_x, ex_x, app_x, appR_S, appS_own, appS_io, setI_x, setR_int, setRS_own, setRS_io, setN_some, ret_x, retN_x, if_x, for_x, brk_x, cont_x, rais_x, raiR_ok, aug_x, augS_int, augR_add, augR_sub, wipe0, wipeS, back0, backS, for0, forN_nx, forN_ct, forN_bk, forN_rt, forB_nm, lcBody_nm, forB_tp, lcBody_tp, asg_tp2, zip_i, enumI_l, zipI_l, zipI_t, zipI_lt, zipI_tl, tl_some, tl_none, finN_nx, finN_rt, finN_exc, finJ_rt, ioF_io, add_ii, sub_ii, add_ll, add_tt, lt_ii, gt_ii, le_ii, ge_ii, eq_ii, ne_ii, is_n, isnot_n, isNone_none, isNone_int, isNone_bool, isNone_str, isNone_list, isNone_tuple, len_l, len_t, int_i, tuple_l, tuple_t, list_l, list_t, sum_l, sum_t, omap_sm, intsD_map, max2_i, min2_i, items_l, items_t, truth_bool, truth_none, truth_int, at_l, at_t, cut_l, cut_t, shaped_int, shaped_bool, shaped_none, eqv_ii, methK_ll, methK_tt, isLst_t, kCh4_x, kCh3_x, kCh2_x, kCh_x, kLr_x, rngLD_f, rngLD_t, kG22_x, kG2_x, g2D_gcd, kPm_x, kPm3_x, kPm2_x, kCb3_x, kCb2_x, kCb_x, enumI_t, perm1_i, perm2_i, comb_i, forO_sm, forB_tt, asgs0, asgsS, asgqs0, asgqsS, asgQ_nm, asgQ_tp, lcO_sm, lcBT_x, lcBody_tt, asgO_sm, asg_tt, sorted_l, kTup_x, kLst_x, kBin2_x, kBin_x, kNot_x, kB_x, kCmp3_x, kCmp2_x, kCmp_x, kAndT_x, kOrT_x, kIte_x, kIx3_x, kIx2_x, kIx_x, kSl4_x, kSl3_x, kSl2_x, kSl_x, kCall_x, kIo2_x, kIo_x, kIsi_x, kBi_x, kBi22_x, kBi2_x, kLcE_x, kLc_x, kLc2_x, kMe3_x, kMe2_x, kMe_x, kNs_x, kDf_x, kDf2_x, kDf3_x, kZip_x, kZip2_x, isLst_l, kLc3_x, kTr_x, kIt_x, kCons2_x, kCons_x, kRng_x, kRng3_x, kRng2_x, kLcB2_x, kLcB_x, kLs2_x, kLs_x, kEx_x, kRet_x, kSet_x, kIf_x, kFor_x, kRais_x, Bool.not_true, Bool.not_false, Bool.not_not, ↓reduceIte, Bool.false_eq_true, Bool.true_eq_false, decide_eq_true_eq, decide_eq_false_iff_not, List.any_cons, List.any_nil, isTy, Bool.or_false, Bool.or_true, Bool.false_or, Bool.true_or, Bool.and_true, Bool.true_and, Bool.and_false, Bool.false_and, List.length_cons, List.length_nil, List.length_map, List.length_append, List.length_set, List.length_replicate, List.length_range, List.cons_append, List.nil_append, List.map_cons, List.map_nil, Nat.reduceAdd, Nat.reduceSub, Nat.reduceLeDiff, Nat.reduceLT, Nat.zero_lt_succ, decide_true, decide_false, Int.reduceLT, Int.reduceLE, Int.reduceAdd, Int.reduceSub, Int.reduceMul, Int.reduceNeg, Int.reduceEq, not_true_eq_false, not_false_eq_true, ne_eq, Nat.zero_add, Int.cast_ofNat_Int, $ts,*])
abbrev LI (ns : List Int) : D := .list (ns.map .int)
abbrev TI (ns : List Int) : D := .tuple (ns.map .int)
theorem isL_list : List.length ([] : List D) = 0 := rfl
/-! loops that end -/
theorem for_inv {body : D → Rho → Out} (I : Nat → Rho → Prop) : ∀ (xs : List D) (m : Nat), (∀ n r x, x ∈ xs → m ≤ n → n < m + xs.length → I n r → (∃ r', body x r = .nx r' ∧ I (n + 1) r') ∨ (∃ r', body x r = .bk r' ∧ I (m + xs.length) r')) → ∀ r, I m r → ∃ r', forLoop body xs r = .nx r' ∧ I (m + xs.length) r'
  | [], m, _, r, h0 => ⟨r, rfl, h0⟩
  | x :: xs, m, h, r, h0 => by
    rcases h m r x List.mem_cons_self (Nat.le_refl _) (by simp) h0 with ⟨r', e, h1⟩ | ⟨r', e, h1⟩
    · obtain ⟨r2, e2, h2⟩ := for_inv I xs (m + 1) (fun n r y hy h3 h4 h5 => by
        have := h n r y (List.mem_cons_of_mem _ hy) (by omega) (by simp; omega) h5
        rw [show m + (x :: xs).length = m + 1 + xs.length by simp; omega] at this
        exact this) r' h1
      refine ⟨r2, ?_, by rw [show m + (x :: xs).length = m + 1 + xs.length by simp; omega]; exact h2⟩
      rw [forS, e]
      exact e2
    · exact ⟨r', by rw [forS, e]; rfl, h1⟩
/-- a loop that carries a state through -/
theorem for_fold {σ : Type} {body : D → Rho → Out} (st : σ → Rho) (f : σ → D → σ) (P : σ → Prop) : ∀ (xs : List D) (s : σ), (∀ s x, x ∈ xs → P s → body x (st s) = .nx (st (f s x)) ∧ P (f s x)) → P s → forLoop body xs (st s) = .nx (st (xs.foldl f s)) ∧ P (xs.foldl f s)
  | [], s, _, h0 => ⟨rfl, h0⟩
  | x :: xs, s, h, h0 => by
    obtain ⟨e, h1⟩ := h s x List.mem_cons_self h0
    obtain ⟨e2, h2⟩ := for_fold st f P xs (f s x) (fun s y hy => h s y (List.mem_cons_of_mem _ hy)) h1
    exact ⟨by rw [forS, e]; exact e2, h2⟩
/-- a comprehension that leaves the slots as they are -/
theorem lc_map {f : D → Rho → Res (Option D)} {r : Rho} (g : D → D) : ∀ (xs : List D), (∀ x ∈ xs, f x r = .ok (some (g x)) r) → lcLoop f xs r = .ok (xs.map g) r
  | [], _ => rfl
  | x :: xs, h => by
    rw [lcS, h x List.mem_cons_self, calm_okR, kLs_x, lc_map g xs (fun y hy => h y (List.mem_cons_of_mem _ hy)), calm_okR, kLs2_x]
    rfl
theorem lc_filter {f : D → Rho → Res (Option D)} {r : Rho} (p : D → Bool) (g : D → D) : ∀ (xs : List D), (∀ x ∈ xs, f x r = .ok (if p x = true then some (g x) else none) r) → lcLoop f xs r = .ok ((xs.filter p).map g) r
  | [], _ => rfl
  | x :: xs, h => by
    rw [lcS, h x List.mem_cons_self, calm_okR, kLs_x, lc_filter p g xs (fun y hy => h y (List.mem_cons_of_mem _ hy)), calm_okR, kLs2_x]
    by_cases hp : p x = true
    · rw [if_pos hp, List.filter_cons_of_pos hp]
      rfl
    · rw [if_neg hp, List.filter_cons_of_neg hp]
      rfl
/-! require, is_integer, is_sequence, are_integers -/
def hAsT (f : Nat) : S := (.seq (.iff (.isi (.var 0) [.list, .tuple])
  (.seq (.ret (.bi .tuple (.lc (.call f (.cons (.var 1) .nil)) (.nm 1) (.var 0) .nil [1])))
  .skip)
  .skip)
  (.seq (.ret (.var 0))
  .skip))
def hReq : S := (.seq (.iff (.not (.var 0))
  (.seq (.rais 0 (.var 1))
  .skip)
  .skip)
  .skip)
def hInt : S := (.seq (.iff (.or (.not (.isi (.var 0) [.int])) (.isi (.var 0) [.bool]))
  (.seq (.ret (.cst (.bool false)))
  .skip)
  .skip)
  (.seq (.ret (.and (.or (.cmp .is (.var 1) (.cst .none)) (.cmp .le (.var 1) (.var 0))) (.or (.cmp .is (.var 2) (.cst .none)) (.cmp .le (.var 0) (.var 2)))))
  .skip))
def hSeq : S := (.seq (.iff (.not (.isi (.var 0) [.list, .tuple]))
  (.seq (.ret (.cst (.bool false)))
  .skip)
  .skip)
  (.seq (.ret (.and (.cmp .le (.var 1) (.bi .len (.var 0))) (.or (.cmp .is (.var 2) (.cst .none)) (.cmp .le (.bi .len (.var 0)) (.var 2)))))
  .skip))
def hInts (f : Nat) : S := (.seq (.ret (.and (.call f (.cons (.var 0) (.cons (.var 1) (.cons (.var 2) .nil)))) (.allint 0 3 4)))
  .skip)
theorem asT_int (F : Nat → Fn) (f : Nat) (i : Int) : runF F (hAsT f) 2 1 none [.int i] [] = .ok (.int i) [] := by
  refine (run_N (by rfl)).trans ?_
  show finN (exec F (hAsT f) [.val (.int i), .un]) = _
  unfold hAsT
  simp_arith []
theorem req_ok (F : Nat → Fn) (x : D) : runF F hReq 2 2 none [.bool true, x] [] = .ok .none [] := by
  refine (run_N (by rfl)).trans ?_
  show finN (exec F hReq [.val (.bool true), .val x]) = _
  unfold hReq
  simp_arith []
theorem req_bad (F : Nat → Fn) (x dd : D) (c : List D) (h : F 2 [x] [] = .ok dd c) : runF F hReq 2 2 none [.bool false, x] [] = .exc 0 dd := by
  refine (run_N (by rfl)).trans ?_
  show finN (exec F hReq [.val (.bool false), .val x]) = _
  unfold hReq
  simp_arith [h]
theorem int_int (F : Nat → Fn) (i a b : Int) : runF F hInt 3 3 none [.int i, .int a, .int b] [] = .ok (.bool (decide (a ≤ i) && decide (i ≤ b))) [] := by
  refine (run_N (by rfl)).trans ?_
  show finN (exec F hInt [.val (.int i), .val (.int a), .val (.int b)]) = _
  unfold hInt
  simp_arith []
  by_cases h1 : a ≤ i <;> by_cases h2 : i ≤ b <;> simp_arith [h1, h2]
theorem seq_of {x : D} {ds : List D} (hx : items x = some ds) (F : Nat → Fn) (a b : Int) : runF F hSeq 3 3 none [x, .int a, .int b] [] = .ok (.bool (decide (a ≤ ds.length) && decide (ds.length ≤ b))) [] := by
  refine (run_N (by rfl)).trans ?_
  show finN (exec F hSeq [.val x, .val (.int a), .val (.int b)]) = _
  unfold hSeq
  cases x <;> first | (simp only [items, reduceCtorEq] at hx; done) | skip
  all_goals
    cases hx
    simp_arith []
    by_cases h1 : a ≤ ds.length <;> by_cases h2 : (ds.length : Int) ≤ b <;> simp_arith [h1, h2]
end Rf.X
set_option Elab.async false
set_option linter.all false
set_option maxRecDepth 100000
set_option maxHeartbeats 4000000
namespace Rf.X
open PySem L2
local macro_rules
  | `(tactic| simp_arith [$ts,*]) => `(tactic| simp only [bind_okR, bind_excR, calm_okR, out_okR, out_excR, then_nxR, then_rtR, then_bkR, then_ctR, then_excR, opt_sm, obind_sm, giveS_val, giveS_own, peekS_val, peekS_own, peekS_io, at0, atS, set0, setS, getD0, getDS, var_v, var_o, var_ag, var_t, var_c, ptOf_int, var_p, var_i, nil_c, nil_p, nil_a, cons_a, ioE_S, ioS_own, ioS_io, ioO_ok, ioI_ok, isiR_none, isiR_bool, isiR_int, isiR_str, isiR_list, isiR_tuple, toldR_ok, toldR_exc0, negR_int, notR_bool, kAnd_bool, kOr_bool, callR_ok, callR_exc, call0R_ok, isL_S, isLS_own, isLS_io, cst_v, cst_o, cst_ag, cst_t, cst_c, cst_p, cst_i, tup_v, tup_o, tup_ag, tup_t, tup_c, tup_p, tup_i, lst_v, lst_o, lst_ag, lst_t, lst_c, lst_p, lst_i, bin_v, bin_o, bin_ag, bin_t, bin_c, bin_p, bin_i, neg_v, neg_o, neg_ag, neg_t, neg_c, neg_p, neg_i, not_v, not_o, not_ag, not_t, not_c, not_p, not_i, cmp_v, cmp_o, cmp_ag, cmp_t, cmp_c, cmp_p, cmp_i, and_v, and_o, and_ag, and_t, and_c, and_p, and_i, or_v, or_o, or_ag, or_t, or_c, or_p, or_i, ite_v, ite_o, ite_ag, ite_t, ite_c, ite_p, ite_i, ix_v, ix_o, ix_ag, ix_t, ix_c, ix_p, ix_i, sl_v, sl_o, sl_ag, sl_t, sl_c, sl_p, sl_i, call_v, call_o, call_ag, call_t, call_c, call_p, call_i, call0_v, call0_o, call0_ag, call0_t, call0_c, call0_p, call0_i, callio_v, callio_o, callio_ag, callio_t, callio_c, callio_p, callio_i, isi_v, isi_o, isi_ag, isi_t, isi_c, isi_p, isi_i, bi_v, bi_o, bi_ag, bi_t, bi_c, bi_p, bi_i, bi2_v, bi2_o, bi2_ag, bi2_t, bi2_c, bi2_p, bi2_i, lc_v, lc_o, lc_ag, lc_t, lc_c, lc_p, lc_i, lc2_v, lc2_o, lc2_ag, lc2_t, lc2_c, lc2_p, lc2_i, allint_v, allint_o, allint_ag, allint_t, allint_c, allint_p, allint_i, told_v, told_o, told_ag, told_t, told_c, told_p, told_i, dflt_v, dflt_o, dflt_ag, dflt_t, dflt_c, dflt_p, dflt_i, nset_v, nset_o, nset_ag, nset_t, nset_c, nset_p, nset_i, lc3_v, lc3_o, lc3_ag, lc3_t, lc3_c, lc3_p, lc3_i, chain_v, chain_o, chain_ag, chain_t, chain_c, chain_p, chain_i, lrng1_v, lrng1_o, lrng1_ag, lrng1_t, lrng1_c, lrng1_p, lrng1_i, g2_v, g2_o, g2_ag, g2_t, g2_c, g2_p, g2_i, meth_v, meth_o, meth_ag, meth_t, meth_c, meth_p, meth_i, rng1_i, rng2_i, enum_i, asgR_nm, asgOR_list, skip_x, seq_x, asg_x, asgO_x, ex_x, app_x, appR_S, appS_own, appS_io, setI_x, setR_int, setRS_own, setRS_io, setN_some, ret_x, retN_x, if_x, for_x, brk_x, cont_x, rais_x, raiR_ok, aug_x, augS_int, augR_add, augR_sub, wipe0, wipeS, back0, backS, for0, forN_nx, forN_ct, forN_bk, forN_rt, forB_nm, lcBody_nm, forB_tp, lcBody_tp, asg_tp2, zip_i, enumI_l, zipI_l, zipI_t, zipI_lt, zipI_tl, tl_some, tl_none, finN_nx, finN_rt, finN_exc, finJ_rt, ioF_io, add_ii, sub_ii, add_ll, add_tt, lt_ii, gt_ii, le_ii, ge_ii, eq_ii, ne_ii, is_n, isnot_n, isNone_none, isNone_int, isNone_bool, isNone_str, isNone_list, isNone_tuple, len_l, len_t, int_i, tuple_l, tuple_t, list_l, list_t, sum_l, sum_t, omap_sm, intsD_map, max2_i, min2_i, items_l, items_t, truth_bool, truth_none, truth_int, at_l, at_t, cut_l, cut_t, shaped_int, shaped_bool, shaped_none, eqv_ii, methK_ll, methK_tt, isLst_t, kCh4_x, kCh3_x, kCh2_x, kCh_x, kLr_x, rngLD_f, rngLD_t, kG22_x, kG2_x, g2D_gcd, kPm_x, kPm3_x, kPm2_x, kCb3_x, kCb2_x, kCb_x, enumI_t, perm1_i, perm2_i, comb_i, forO_sm, forB_tt, asgs0, asgsS, asgqs0, asgqsS, asgQ_nm, asgQ_tp, lcO_sm, lcBT_x, lcBody_tt, asgO_sm, asg_tt, sorted_l, kTup_x, kLst_x, kBin2_x, kBin_x, kNot_x, kB_x, kCmp3_x, kCmp2_x, kCmp_x, kAndT_x, kOrT_x, kIte_x, kIx3_x, kIx2_x, kIx_x, kSl4_x, kSl3_x, kSl2_x, kSl_x, kCall_x, kIo2_x, kIo_x, kIsi_x, kBi_x, kBi22_x, kBi2_x, kLcE_x, kLc_x, kLc2_x, kMe3_x, kMe2_x, kMe_x, kNs_x, kDf_x, kDf2_x, kDf3_x, kZip_x, kZip2_x, isLst_l, kLc3_x, kTr_x, kIt_x, kCons2_x, kCons_x, kRng_x, kRng3_x, kRng2_x, kLcB2_x, kLcB_x, kLs2_x, kLs_x, kEx_x, kRet_x, kSet_x, kIf_x, kFor_x, kRais_x, Bool.not_true, Bool.not_false, Bool.not_not, ↓reduceIte, Bool.false_eq_true, Bool.true_eq_false, decide_eq_true_eq, decide_eq_false_iff_not, List.any_cons, List.any_nil, isTy, Bool.or_false, Bool.or_true, Bool.false_or, Bool.true_or, Bool.and_true, Bool.true_and, Bool.and_false, Bool.false_and, List.length_cons, List.length_nil, List.length_map, List.length_append, List.length_set, List.length_replicate, List.length_range, List.cons_append, List.nil_append, List.map_cons, List.map_nil, Nat.reduceAdd, Nat.reduceSub, Nat.reduceLeDiff, Nat.reduceLT, Nat.zero_lt_succ, decide_true, decide_false, Int.reduceLT, Int.reduceLE, Int.reduceAdd, Int.reduceSub, Int.reduceMul, Int.reduceNeg, Int.reduceEq, not_true_eq_false, not_false_eq_true, ne_eq, Nat.zero_add, Int.cast_ofNat_Int, $ts,*])
/-! the numbers of the script -/
def hNumI : S := (.seq (.iff (.cmp .eq (.var 3) (.cst (.int 0)))
  (.seq .brk
  .skip)
  .skip)
  (.seq (.app 1 (.bin .mod (.bi .int (.var 3)) (.cst (.int 997))))
  (.seq (.asg (.nm 3) (.bin .div (.var 3) (.cst (.int 997))))
  .skip)))
def hNumJ (c1 c2 c3 c4 c5 c6 : Int) : S := (.seq (.asg (.nm 5) (.bin .mod (.bi .int (.bin .add (.bin .add (.bin .mul (.var 2) (.cst (.int c1))) (.bin .mul (.var 4) (.cst (.int c2)))) (.cst (.int c3)))) (.cst (.int c4))))
  (.seq (.app 1 (.bin .mod (.bi .int (.bin .add (.bin .mul (.var 5) (.cst (.int c5))) (.var 4))) (.cst (.int c6))))
  .skip))
def hNumB (c1 c2 c3 c4 c5 c6 : Int) : S := (.seq (.iff (.cmp .ge (.var 2) (.bin .pow (.cst (.int 10)) (.cst (.int 18))))
  (.seq (.asg (.nm 3) (.var 2))
  (.seq (.forr (.nm 4) (.rng1 (.cst (.int 60))) hNumI)
  .skip))
  (.seq (.forr (.nm 4) (.rng1 (.cst (.int 4))) (hNumJ c1 c2 c3 c4 c5 c6))
  .skip))
  .skip)
def hNumP (c1 c2 c3 c4 c5 c6 : Int) : S := (.seq (.asgO 1 (.lst .nil))
  (.seq (.forr (.nm 2) (.sl (.var 0) .nil (.cst (.int 63))) (hNumB c1 c2 c3 c4 c5 c6))
  (.seq (.iff (.cmp .eq (.bi .len (.var 1)) (.cst (.int 0)))
  (.seq (.app 1 (.cst (.int 0)))
  .skip)
  .skip)
  (.seq (.ret (.var 1))
  .skip))))
def hNum : S := hNumP 48271 69621 11 2147483647 16807 2147483629
theorem pow_10 : binD .pow (.int 10) (.int 18) = some (.int 1000000000000000000) := rfl
theorem rng60 : rngD [.int 60] = some ((List.range 60).map fun (k : Nat) => .int (k : Int)) := rng1_ok (n := 60) (by decide)
theorem rng4 : rngD [.int 4] = some ((List.range 4).map fun (k : Nat) => .int (k : Int)) := rng1_ok (n := 4) (by decide)
/-- the slots while the numbers are read -/
def NumI (N : Nat) (n : Nat) (r : Rho) : Prop := ∃ (s : D) (row : List Int) (x k c : Int) (d e : Slot), r = [.val s, .own (row.map .int), .val (.int x), d, .val (.int k), e] ∧ row.length ≤ N + n
theorem numI_loop (F : Nat → Fn) (N : Nat) (hN : N ≤ 10000) (row : List Int) (hr : row.length ≤ N) (s : D) (x y : Int) (d4 d5 : Slot) : ∃ row' : List Int, ∃ a b c, row'.length ≤ N + 60 ∧ forLoop (forB (.nm 4) (exec F hNumI)) ((List.range 60).map fun (k : Nat) => PyData.int (k : Int)) [.val s, .own (row.map .int), .val (.int x), .val (.int y), d4, d5] = .nx [.val s, .own (row'.map .int), .val (.int x), a, b, c] := by
  obtain ⟨r', e, row', y', b, c, hr', hl⟩ := for_inv (body := forB (.nm 4) (exec F hNumI)) (fun n r => ∃ (row' : List Int) (y' : Int) (b c : Slot), r = [.val s, .own (row'.map .int), .val (.int x), .val (.int y'), b, c] ∧ row'.length ≤ N + n) ((List.range 60).map fun (k : Nat) => PyData.int (k : Int)) 0 (by
    rintro n r z hz _ hn ⟨row', y', b, c, rfl, hl⟩
    simp only [List.mem_map, List.mem_range] at hz
    obtain ⟨k, hk, rfl⟩ := hz
    simp only [List.length_map, List.length_range, Nat.zero_add] at hn
    by_cases h0 : y' = 0
    · refine .inr ⟨_, ?_, row', y', .val (.int (k : Int)), c, rfl, by simp; omega⟩
      simp_arith [forB_nm]
      unfold hNumI
      simp_arith [h0]
    · refine .inl ⟨_, ?_, row' ++ [y' % 997], y' / 997, .val (.int (k : Int)), c, rfl, by simp; omega⟩
      simp_arith [forB_nm]
      unfold hNumI
      have hb : row'.length ≤ big := by unfold big; omega
      simp_arith [h0, hb, mod_ii, div_ii, List.map_append]) [.val s, .own (row.map .int), .val (.int x), .val (.int y), d4, d5] ⟨row, y, d4, d5, rfl, by omega⟩
  subst hr'
  exact ⟨row', _, _, _, by simpa using hl, e⟩
theorem numJ_loop (F : Nat → Fn) (N : Nat) (hN : N ≤ 10000) (row : List Int) (hr : row.length ≤ N) (s : D) (x : Int) (d3 d4 d5 : Slot) (c1 c2 c3 c4 c5 c6 : Int) (h1 : ∀ i, mulOk i c1 = true) (h2 : ∀ i, mulOk i c2 = true) (h5 : ∀ i, mulOk i c5 = true) (h4 : 0 < c4) (h6 : 0 < c6) : ∃ row' : List Int, ∃ a b c, row'.length ≤ N + 4 ∧ forLoop (forB (.nm 4) (exec F (hNumJ c1 c2 c3 c4 c5 c6))) ((List.range 4).map fun (k : Nat) => PyData.int (k : Int)) [.val s, .own (row.map .int), .val (.int x), d3, d4, d5] = .nx [.val s, .own (row'.map .int), .val (.int x), a, b, c] := by
  obtain ⟨r', e, row', b, c, hr', hl⟩ := for_inv (body := forB (.nm 4) (exec F (hNumJ c1 c2 c3 c4 c5 c6))) (fun n r => ∃ (row' : List Int) (b c : Slot), r = [.val s, .own (row'.map .int), .val (.int x), d3, b, c] ∧ row'.length ≤ N + n) ((List.range 4).map fun (k : Nat) => PyData.int (k : Int)) 0 (by
    rintro n r z hz _ hn ⟨row', b, c, rfl, hl⟩
    simp only [List.mem_map, List.mem_range] at hz
    obtain ⟨k, hk, rfl⟩ := hz
    simp only [List.length_map, List.length_range, Nat.zero_add] at hn
    refine .inl ⟨_, ?_, row' ++ [((x * c1 + k * c2 + c3) % c4 * c5 + k) % c6], .val (.int (k : Int)), .val (.int ((x * c1 + k * c2 + c3) % c4)), rfl, by simp; omega⟩
    simp_arith [forB_nm]
    unfold hNumJ
    have hb : row'.length ≤ big := by unfold big; omega
    simp_arith [hb, mod_ii, h4, h6, mul_ii, h1, h2, h5, List.map_append]) [.val s, .own (row.map .int), .val (.int x), d3, d4, d5] ⟨row, d4, d5, rfl, by omega⟩
  subst hr'
  exact ⟨row', _, _, _, by simpa using hl, e⟩
theorem num_gen (F : Nat → Fn) (ns : List Int) (h63 : ns.length ≤ 63) (c1 c2 c3 c4 c5 c6 : Int) (h1 : ∀ i, mulOk i c1 = true) (h2 : ∀ i, mulOk i c2 = true) (h5 : ∀ i, mulOk i c5 = true) (h4 : 0 < c4) (h6 : 0 < c6) : ∃ row : List Int, row ≠ [] ∧ row.length ≤ 4000 ∧ runF F (hNumP c1 c2 c3 c4 c5 c6) 6 1 none [.dict (ns.map fun n => (.int n, .none))] [] = .ok (LI row) [] := by
  have hcut : cut (ns.map PyData.int) none (some 63) = ns.map PyData.int := by
    unfold cut
    rw [show HT.sIx (ns.map PyData.int).length 0 none = 0 from rfl, show HT.sIx (ns.map PyData.int).length (ns.map PyData.int).length (some 63) = min 63 (ns.map PyData.int).length from HT.sIx_nat _ _ 63]
    rw [List.drop_zero, Nat.sub_zero, List.take_of_length_le (by simp; omega)]
  obtain ⟨r', e, row, a, b, c, d, hr', hl⟩ := for_inv (body := forB (.nm 2) (exec F (hNumB c1 c2 c3 c4 c5 c6))) (fun n r => ∃ (row' : List Int) (a b c d : Slot), r = [.val (.dict (ns.map fun n => (.int n, .none))), .own (row'.map .int), a, b, c, d] ∧ row'.length ≤ 60 * n) (ns.map PyData.int) 0 (by
    rintro n r z hz _ hn ⟨row', a, b, c, d, rfl, hl⟩
    simp only [List.mem_map] at hz
    obtain ⟨x, hx, rfl⟩ := hz
    simp only [List.length_map, Nat.zero_add] at hn
    simp_arith [forB_nm]
    unfold hNumB
    by_cases hx : (1000000000000000000 : Int) ≤ x
    · simp_arith [pow_10, hx, rng60]
      obtain ⟨row2, a2, b2, c2, hl2, e2⟩ := numI_loop F (60 * n) (by omega) row' hl (.dict (ns.map fun n => (.int n, .none))) x x c d
      rw [e2]
      simp_arith []
      exact .inl ⟨_, rfl, row2, _, _, _, _, rfl, by omega⟩
    · simp_arith [pow_10, hx, rng4]
      obtain ⟨row2, a2, b2, c2, hl2, e2⟩ := numJ_loop F (60 * n) (by omega) row' hl (.dict (ns.map fun n => (.int n, .none))) x b c d c1 c2 c3 c4 c5 c6 h1 h2 h5 h4 h6
      rw [e2]
      simp_arith []
      exact .inl ⟨_, rfl, row2, _, _, _, _, rfl, by omega⟩) [.val (.dict (ns.map fun n => (.int n, .none))), .own [], .un, .un, .un, .un] ⟨[], .un, .un, .un, .un, rfl, by simp⟩
  subst hr'
  simp only [List.length_map, Nat.zero_add] at hl
  have hm : (ns.map fun n => (PyData.int n, PyData.none)).map (·.1) = ns.map PyData.int := by simp
  have hb : row.length ≤ big := by unfold big; omega
  by_cases h0 : row = []
  · subst h0
    refine ⟨[0], by simp, by simp, (run_N (by rfl)).trans ?_⟩
    show finN (exec F _ [.val (.dict (ns.map fun n => (.int n, .none))), .un, .un, .un, .un, .un]) = _
    unfold hNumP
    simp_arith [slD, hm, hcut, e, fits_le, Nat.zero_le]
    rfl
  · refine ⟨row, h0, by omega, (run_N (by rfl)).trans ?_⟩
    show finN (exec F _ [.val (.dict (ns.map fun n => (.int n, .none))), .un, .un, .un, .un, .un]) = _
    unfold hNumP
    have hne : ¬ (row.length : Int) = 0 := by
      have := List.length_pos_iff.mpr h0
      omega
    simp_arith [slD, hm, hcut, e, fits_le, hne]
theorem num_ok (F : Nat → Fn) (ns : List Int) (h63 : ns.length ≤ 63) : ∃ row : List Int, row ≠ [] ∧ row.length ≤ 4000 ∧ runF F hNum 6 1 none [.dict (ns.map fun n => (.int n, .none))] [] = .ok (LI row) [] :=
  num_gen F ns h63 _ _ _ _ _ _ (fun _ => mulOk_r (by decide) (by decide)) (fun _ => mulOk_r (by decide) (by decide)) (fun _ => mulOk_r (by decide) (by decide)) (by decide) (by decide)
/-! a draw -/
def hDrawP (c1 c2 c3 c4 c5 c6 : Int) : S := (.seq (.iff (.cmp .lt (.var 1) (.bi .len (.var 0)))
  (.seq (.ret (.bin .mod (.bi .int (.ix (.var 0) (.var 1))) (.var 2)))
  .skip)
  .skip)
  (.seq (.asg (.nm 3) (.bin .mod (.bi .int (.bin .add (.bin .add (.bin .mul (.ix (.var 0) (.bin .mod (.bi .int (.var 1)) (.bi .len (.var 0)))) (.cst (.int c1))) (.bin .mul (.var 1) (.cst (.int c2)))) (.cst (.int c3)))) (.cst (.int c4))))
  (.seq (.ret (.bin .mod (.bi .int (.bin .mod (.bi .int (.bin .add (.bin .mul (.var 3) (.cst (.int c5))) (.var 1))) (.cst (.int c6)))) (.var 2)))
  .skip)))
def hDraw : S := hDrawP 40692 7919 3 2147483399 48271 2147483647
def drP (c1 c2 c3 c4 c5 c6 : Int) (row : List Int) (k : Nat) (lim : Int) : Int := if k < row.length then row.getD k 0 % lim else ((row.getD (k % row.length) 0 * c1 + k * c2 + c3) % c4 * c5 + k) % c6 % lim
def dr (row : List Int) (k : Nat) (lim : Int) : Int := drP 40692 7919 3 2147483399 48271 2147483647 row k lim
theorem atI_map {row : List Int} {k : Nat} (h : k < row.length) : atI (row.map PyData.int) (k : Int) = some (.int (row.getD k 0)) := by
  unfold atI ixN
  simp [h, List.getD]
theorem draw_gen (F : Nat → Fn) (row : List Int) (hr : row ≠ []) (k : Nat) (lim : Int) (hl : 0 < lim) (c1 c2 c3 c4 c5 c6 : Int) (h1 : ∀ i, mulOk i c1 = true) (h2 : ∀ i, mulOk i c2 = true) (h5 : ∀ i, mulOk i c5 = true) (h4 : 0 < c4) (h6 : 0 < c6) : runF F (hDrawP c1 c2 c3 c4 c5 c6) 4 3 none [LI row, .int k, .int lim] [] = .ok (.int (drP c1 c2 c3 c4 c5 c6 row k lim)) [] := by
  refine (run_N (by rfl)).trans ?_
  show finN (exec F _ [.val (LI row), .val (.int k), .val (.int lim), .un]) = _
  unfold hDrawP drP
  have hp : 0 < row.length := List.length_pos_iff.mpr hr
  have hp' : (0 : Int) < row.length := by omega
  by_cases h : k < row.length
  · simp_arith [Int.ofNat_lt, h, atI_map, mod_ii, hl]
  · have hm : k % row.length < row.length := Nat.mod_lt _ hp
    have e : (k : Int) % (row.length : Int) = ((k % row.length : Nat) : Int) := rfl
    simp_arith [Int.ofNat_lt, h, atI_map, mod_ii, hl, hp', e, hm, mul_ii, h1, h2, h5, h4, h6]
theorem draw_ok (F : Nat → Fn) (row : List Int) (hr : row ≠ []) (k : Nat) (lim : Int) (hl : 0 < lim) : runF F hDraw 4 3 none [LI row, .int k, .int lim] [] = .ok (.int (dr row k lim)) [] :=
  draw_gen F row hr k lim hl _ _ _ _ _ _ (fun _ => mulOk_r (by decide) (by decide)) (fun _ => mulOk_r (by decide) (by decide)) (fun _ => mulOk_r (by decide) (by decide)) (by decide) (by decide)
theorem dr_gen (row : List Int) (k : Nat) (lim : Int) (hl : 0 < lim) (c1 c2 c3 c4 c5 c6 : Int) : 0 ≤ drP c1 c2 c3 c4 c5 c6 row k lim ∧ drP c1 c2 c3 c4 c5 c6 row k lim < lim := by
  unfold drP
  split
  · exact ⟨Int.emod_nonneg _ (by omega), Int.emod_lt_of_pos _ hl⟩
  · exact ⟨Int.emod_nonneg _ (by omega), Int.emod_lt_of_pos _ hl⟩
theorem dr_lt (row : List Int) (k : Nat) (lim : Int) (hl : 0 < lim) : 0 ≤ dr row k lim ∧ dr row k lim < lim := dr_gen row k lim hl _ _ _ _ _ _
/-! the reader of draws -/
def hTake (f : Nat) : S := (.seq (.setI 1 (.cst (.int 0)) (.bin .add (.ix (.var 1) (.cst (.int 0))) (.cst (.int 1))))
  (.seq (.ret (.call f (.cons (.var 0) (.cons (.bin .sub (.ix (.var 1) (.cst (.int 0))) (.cst (.int 1))) (.cons (.var 2) .nil)))))
  .skip))
theorem atI_0 {x : D} {xs : List D} : atI (x :: xs) 0 = some x := by
  unfold atI ixN
  simp
theorem ixN_0 : ixN 1 0 = some 0 := rfl
theorem take_ok (F : Nat → Fn) (f : Nat) (row : List Int) (k : Nat) (lim : Int) (h : F f [LI row, .int k, .int lim] [] = .ok (.int (dr row k lim)) []) : runF F (hTake f) 3 3 (some 1) [LI row, .int lim] [.int (k : Int)] = .ok (.int (dr row k lim)) [.int ((k + 1 : Nat) : Int)] := by
  refine (run_J (by rfl)).trans ?_
  show finJ 1 (exec F _ [.val (LI row), .io [.int (k : Int)], .val (.int lim)]) = _
  unfold hTake
  simp_arith [atI_0, ixN_0, Int.add_sub_cancel, h, Int.natCast_add]
def hPick (f : Nat) : S := (.seq (.ret (.ix (.var 2) (.callio f (.cons (.var 0) .nil) 1 (.cons (.bi .len (.var 2)) .nil))))
  .skip)
theorem pick_ok (F : Nat → Fn) (f : Nat) (row : List Int) (k : Nat) (xs : List D) (x : D) (k' : Nat) (n : Nat) (h : F f [LI row, .int xs.length] [.int (k : Int)] = .ok (.int n) [.int (k' : Int)]) (hx : atI xs n = some x) : runF F (hPick f) 3 3 (some 1) [LI row, .list xs] [.int (k : Int)] = .ok x [.int (k' : Int)] := by
  refine (run_J (by rfl)).trans ?_
  show finJ 1 (exec F _ [.val (LI row), .io [.int (k : Int)], .val (.list xs)]) = _
  unfold hPick
  simp_arith [h, hx]
def hListed (f : Nat) : S := (.seq (.iff (.isi (.var 0) [.tuple])
  (.seq (.ret (.lc (.call f (.cons (.var 1) .nil)) (.nm 1) (.var 0) .nil [1]))
  .skip)
  .skip)
  (.seq (.ret (.var 0))
  .skip))
theorem listed_int (F : Nat → Fn) (f : Nat) (i : Int) : runF F (hListed f) 2 1 none [.int i] [] = .ok (.int i) [] := by
  refine (run_N (by rfl)).trans ?_
  show finN (exec F _ [.val (.int i), .un]) = _
  unfold hListed
  simp_arith []
/-- of a row whose parts are told -/
theorem listed_tup (F : Nat → Fn) (f : Nat) (xs : List D) (g : D → D) (hf : xs.length ≤ 1000000) (h : ∀ x ∈ xs, F f [x] [] = .ok (g x) []) : runF F (hListed f) 2 1 none [.tuple xs] [] = .ok (.list (xs.map g)) [] := by
  refine (run_N (by rfl)).trans ?_
  show finN (exec F _ [.val (.tuple xs), .un]) = _
  unfold hListed
  simp_arith []
  rw [lc_map g xs (fun x hx => by simp_arith [h x hx])]
  simp_arith [fits_le, hf]
def hHanded (f g : Nat) : S := (.seq (.ret (.ite (.cmp .eq (.callio f (.cons (.var 0) .nil) 1 (.cons (.cst (.int 2)) .nil)) (.cst (.int 0))) (.call g (.cons (.var 2) .nil)) (.var 2)))
  .skip)
theorem handed_ok (F : Nat → Fn) (f g : Nat) (row : List Int) (k k' : Nat) (x y : D) (b : Int) (h : F f [LI row, .int 2] [.int (k : Int)] = .ok (.int b) [.int (k' : Int)]) (hy : F g [x] [] = .ok y []) : runF F (hHanded f g) 3 3 (some 1) [LI row, x] [.int (k : Int)] = .ok (if b = 0 then y else x) [.int (k' : Int)] := by
  refine (run_J (by rfl)).trans ?_
  show finJ 1 (exec F _ [.val (LI row), .io [.int (k : Int)], .val x]) = _
  unfold hHanded
  by_cases hb : b = 0
  · simp_arith [h, hy, hb]
  · simp_arith [h, hy, hb]
end Rf.X
set_option Elab.async false
set_option linter.all false
set_option maxRecDepth 100000
set_option maxHeartbeats 4000000
namespace Rf.X
open PySem L2
local macro_rules
  | `(tactic| simp_arith [$ts,*]) => `(tactic| simp only [bind_okR, bind_excR, calm_okR, out_okR, out_excR, then_nxR, then_rtR, then_bkR, then_ctR, then_excR, opt_sm, obind_sm, giveS_val, giveS_own, peekS_val, peekS_own, peekS_io, at0, atS, set0, setS, getD0, getDS, var_v, var_o, var_ag, var_t, var_c, ptOf_int, var_p, var_i, nil_c, nil_p, nil_a, cons_a, ioE_S, ioS_own, ioS_io, ioO_ok, ioI_ok, isiR_none, isiR_bool, isiR_int, isiR_str, isiR_list, isiR_tuple, toldR_ok, toldR_exc0, negR_int, notR_bool, kAnd_bool, kOr_bool, callR_ok, callR_exc, call0R_ok, isL_S, isLS_own, isLS_io, cst_v, cst_o, cst_ag, cst_t, cst_c, cst_p, cst_i, tup_v, tup_o, tup_ag, tup_t, tup_c, tup_p, tup_i, lst_v, lst_o, lst_ag, lst_t, lst_c, lst_p, lst_i, bin_v, bin_o, bin_ag, bin_t, bin_c, bin_p, bin_i, neg_v, neg_o, neg_ag, neg_t, neg_c, neg_p, neg_i, not_v, not_o, not_ag, not_t, not_c, not_p, not_i, cmp_v, cmp_o, cmp_ag, cmp_t, cmp_c, cmp_p, cmp_i, and_v, and_o, and_ag, and_t, and_c, and_p, and_i, or_v, or_o, or_ag, or_t, or_c, or_p, or_i, ite_v, ite_o, ite_ag, ite_t, ite_c, ite_p, ite_i, ix_v, ix_o, ix_ag, ix_t, ix_c, ix_p, ix_i, sl_v, sl_o, sl_ag, sl_t, sl_c, sl_p, sl_i, call_v, call_o, call_ag, call_t, call_c, call_p, call_i, call0_v, call0_o, call0_ag, call0_t, call0_c, call0_p, call0_i, callio_v, callio_o, callio_ag, callio_t, callio_c, callio_p, callio_i, isi_v, isi_o, isi_ag, isi_t, isi_c, isi_p, isi_i, bi_v, bi_o, bi_ag, bi_t, bi_c, bi_p, bi_i, bi2_v, bi2_o, bi2_ag, bi2_t, bi2_c, bi2_p, bi2_i, lc_v, lc_o, lc_ag, lc_t, lc_c, lc_p, lc_i, lc2_v, lc2_o, lc2_ag, lc2_t, lc2_c, lc2_p, lc2_i, allint_v, allint_o, allint_ag, allint_t, allint_c, allint_p, allint_i, told_v, told_o, told_ag, told_t, told_c, told_p, told_i, dflt_v, dflt_o, dflt_ag, dflt_t, dflt_c, dflt_p, dflt_i, nset_v, nset_o, nset_ag, nset_t, nset_c, nset_p, nset_i, lc3_v, lc3_o, lc3_ag, lc3_t, lc3_c, lc3_p, lc3_i, chain_v, chain_o, chain_ag, chain_t, chain_c, chain_p, chain_i, lrng1_v, lrng1_o, lrng1_ag, lrng1_t, lrng1_c, lrng1_p, lrng1_i, g2_v, g2_o, g2_ag, g2_t, g2_c, g2_p, g2_i, meth_v, meth_o, meth_ag, meth_t, meth_c, meth_p, meth_i, rng1_i, rng2_i, enum_i, asgR_nm, asgOR_list, skip_x, seq_x, asg_x, asgO_x, ex_x, app_x, appR_S, appS_own, appS_io, setI_x, setR_int, setRS_own, setRS_io, setN_some, ret_x, retN_x, if_x, for_x, brk_x, cont_x, rais_x, raiR_ok, aug_x, augS_int, augR_add, augR_sub, wipe0, wipeS, back0, backS, for0, forN_nx, forN_ct, forN_bk, forN_rt, forB_nm, lcBody_nm, forB_tp, lcBody_tp, asg_tp2, zip_i, enumI_l, zipI_l, zipI_t, zipI_lt, zipI_tl, tl_some, tl_none, finN_nx, finN_rt, finN_exc, finJ_rt, ioF_io, add_ii, sub_ii, add_ll, add_tt, lt_ii, gt_ii, le_ii, ge_ii, eq_ii, ne_ii, is_n, isnot_n, isNone_none, isNone_int, isNone_bool, isNone_str, isNone_list, isNone_tuple, len_l, len_t, int_i, tuple_l, tuple_t, list_l, list_t, sum_l, sum_t, omap_sm, intsD_map, max2_i, min2_i, items_l, items_t, truth_bool, truth_none, truth_int, at_l, at_t, cut_l, cut_t, shaped_int, shaped_bool, shaped_none, eqv_ii, methK_ll, methK_tt, isLst_t, kCh4_x, kCh3_x, kCh2_x, kCh_x, kLr_x, rngLD_f, rngLD_t, kG22_x, kG2_x, g2D_gcd, kPm_x, kPm3_x, kPm2_x, kCb3_x, kCb2_x, kCb_x, enumI_t, perm1_i, perm2_i, comb_i, forO_sm, forB_tt, asgs0, asgsS, asgqs0, asgqsS, asgQ_nm, asgQ_tp, lcO_sm, lcBT_x, lcBody_tt, asgO_sm, asg_tt, sorted_l, kTup_x, kLst_x, kBin2_x, kBin_x, kNot_x, kB_x, kCmp3_x, kCmp2_x, kCmp_x, kAndT_x, kOrT_x, kIte_x, kIx3_x, kIx2_x, kIx_x, kSl4_x, kSl3_x, kSl2_x, kSl_x, kCall_x, kIo2_x, kIo_x, kIsi_x, kBi_x, kBi22_x, kBi2_x, kLcE_x, kLc_x, kLc2_x, kMe3_x, kMe2_x, kMe_x, kNs_x, kDf_x, kDf2_x, kDf3_x, kZip_x, kZip2_x, isLst_l, kLc3_x, kTr_x, kIt_x, kCons2_x, kCons_x, kRng_x, kRng3_x, kRng2_x, kLcB2_x, kLcB_x, kLs2_x, kLs_x, kEx_x, kRet_x, kSet_x, kIf_x, kFor_x, kRais_x, Bool.not_true, Bool.not_false, Bool.not_not, ↓reduceIte, Bool.false_eq_true, Bool.true_eq_false, decide_eq_true_eq, decide_eq_false_iff_not, List.any_cons, List.any_nil, isTy, Bool.or_false, Bool.or_true, Bool.false_or, Bool.true_or, Bool.and_true, Bool.true_and, Bool.and_false, Bool.false_and, List.length_cons, List.length_nil, List.length_map, List.length_append, List.length_set, List.length_replicate, List.length_range, List.cons_append, List.nil_append, List.map_cons, List.map_nil, Nat.reduceAdd, Nat.reduceSub, Nat.reduceLeDiff, Nat.reduceLT, Nat.zero_lt_succ, decide_true, decide_false, Int.reduceLT, Int.reduceLE, Int.reduceAdd, Int.reduceSub, Int.reduceMul, Int.reduceNeg, Int.reduceEq, not_true_eq_false, not_false_eq_true, ne_eq, Nat.zero_add, Int.cast_ofNat_Int, $ts,*])
/-! are_integers -/
def allR (x l h : Option D) (r : Rho) : Res Bool := match x, l, h with
  | some x, some l, some h => (match items x, inB l h .none with
      | some ds, some _ => .ok (ds.all fun d => inB l h d == some true) r
      | _, _ => .bad)
  | _, _, _ => .bad
theorem vAll_R {i l h : Nat} {r : Rho} : vAll i l h r = allR (peekS r[i]?) (peekS r[l]?) (peekS r[h]?) r := by
  unfold vAll allR
  rw [peek_S, peek_S, peek_S]
  all_goals rcases peekS r[i]? with _ | x <;> rcases peekS r[l]? with _ | y <;> rcases peekS r[h]? with _ | z <;> first | rfl | (dsimp only; cases items x <;> cases inB y z .none <;> rfl)
theorem allR_ints {x : D} {ns : List Int} {a b : Int} {r : Rho} (hx : items x = some (ns.map .int)) : allR (some x) (some (.int a)) (some (.int b)) r = .ok (ns.all fun i => decide (a ≤ i) && decide (i ≤ b)) r := by
  unfold allR
  dsimp only
  rw [hx]
  dsimp only [inB]
  congr 1
  rw [List.all_map]
  congr 1
  funext i
  show ((some (decide (a ≤ i) && decide (i ≤ b))) == some true) = _
  cases (decide (a ≤ i) && decide (i ≤ b)) <;> rfl
theorem ints_ok (F : Nat → Fn) (f : Nat) (x : D) (ns : List Int) (a b lo hi : Int) (k : Bool) (hx : items x = some (ns.map .int)) (h : F f [x, .int a, .int b] [] = .ok (.bool k) []) : runF F (hInts f) 6 5 none [x, .int a, .int b, .int lo, .int hi] [] = .ok (.bool (k && ns.all fun i => decide (lo ≤ i) && decide (i ≤ hi))) [] := by
  refine (run_N (by rfl)).trans ?_
  show finN (exec F _ [.val x, .val (.int a), .val (.int b), .val (.int lo), .val (.int hi), .un]) = _
  unfold hInts
  simp_arith [h, vAll_R, allR_ints hx]
  cases k <;> simp_arith []
/-! _law_so -/
def hSoB (f : Nat) : S := (.seq (.iff (.not (.call f (.cons (.ix (.var 0) (.var 2)) (.cons (.ix (.var 1) (.var 2)) .nil))))
  (.seq (.ret (.cst (.bool false)))
  .skip)
  .skip)
  .skip)
def hSo (f : Nat) : S := (.seq (.iff (.cmp .is (.var 1) (.cst .none))
  (.seq (.ret (.cmp .is (.var 0) (.cst .none)))
  .skip)
  .skip)
  (.seq (.iff (.isi (.var 1) [.tuple])
  (.seq (.iff (.or (.not (.isi (.var 0) [.tuple])) (.cmp .ne (.bi .len (.var 0)) (.bi .len (.var 1))))
  (.seq (.ret (.cst (.bool false)))
  .skip)
  .skip)
  (.seq (.forr (.nm 2) (.rng1 (.bi .len (.var 1))) (hSoB f))
  (.seq (.ret (.cst (.bool true)))
  .skip)))
  .skip)
  (.seq (.iff (.or (.isi (.var 1) [.bool]) (.isi (.var 0) [.bool]))
  (.seq (.ret (.and (.isi (.var 1) [.bool]) (.and (.isi (.var 0) [.bool]) (.cmp .eq (.var 0) (.var 1)))))
  .skip)
  .skip)
  (.seq (.iff (.isi (.var 1) [.int])
  (.seq (.ret (.and (.isi (.var 0) [.int]) (.cmp .eq (.var 0) (.var 1))))
  .skip)
  .skip)
  (.seq (.ret (.and (.isi (.var 1) [.str]) (.and (.isi (.var 0) [.str]) (.cmp .eq (.var 0) (.var 1)))))
  .skip)))))
theorem atI_get {xs : List D} {k : Nat} (h : k < xs.length) : atI xs (k : Int) = some (xs[k]) := by
  unfold atI ixN
  simp [h]
theorem so_tup (F : Nat → Fn) (f : Nat) (ds : List D) (hl : ds.length ≤ 1000000) (h : ∀ x ∈ ds, F f [x, x] [] = .ok (.bool true) []) : runF F (hSo f) 3 2 none [.tuple ds, .tuple ds] [] = .ok (.bool true) [] := by
  refine (run_N (by rfl)).trans ?_
  show finN (exec F _ [.val (.tuple ds), .val (.tuple ds), .un]) = _
  unfold hSo
  obtain ⟨r', e, a, hr'⟩ := for_inv (body := forB (.nm 2) (exec F (hSoB f))) (fun n r => ∃ a, r = [.val (.tuple ds), .val (.tuple ds), a]) ((List.range ds.length).map fun (k : Nat) => PyData.int (k : Int)) 0 (by
    rintro n r z hz _ hn ⟨a, rfl⟩
    simp only [List.mem_map, List.mem_range] at hz
    obtain ⟨k, hk, rfl⟩ := hz
    refine .inl ⟨_, ?_, .val (.int k), rfl⟩
    simp_arith []
    unfold hSoB
    simp_arith [atI_get hk, h _ (List.getElem_mem hk)]) [.val (.tuple ds), .val (.tuple ds), .un] ⟨_, rfl⟩
  subst hr'
  simp_arith [rng1_ok hl, e]
theorem so_none (F : Nat → Fn) (f : Nat) : runF F (hSo f) 3 2 none [.none, .none] [] = .ok (.bool true) [] := by
  refine (run_N (by rfl)).trans ?_
  show finN (exec F _ [.val .none, .val .none, .un]) = _
  unfold hSo
  simp_arith []
theorem so_int (F : Nat → Fn) (f : Nat) (i : Int) : runF F (hSo f) 3 2 none [.int i, .int i] [] = .ok (.bool true) [] := by
  refine (run_N (by rfl)).trans ?_
  show finN (exec F _ [.val (.int i), .val (.int i), .un]) = _
  unfold hSo
  simp_arith []
theorem so_bool (F : Nat → Fn) (f : Nat) (i : Bool) : runF F (hSo f) 3 2 none [.bool i, .bool i] [] = .ok (.bool true) [] := by
  cases i <;> rfl
/-- data that _law_so finds alike with itself, m levels deep -/
inductive SoD : Nat → D → Prop where
  | none {m : Nat} : SoD m .none
  | bool {m : Nat} (b : Bool) : SoD m (.bool b)
  | int {m : Nat} (i : Int) : SoD m (.int i)
  | tup {m : Nat} (ds : List D) (hl : ds.length ≤ 1000000) (h : ∀ x ∈ ds, SoD m x) : SoD (m + 1) (.tuple ds)
theorem Gs_run {fs : List FDc} {i : Nat} {d : FDc} (h : fs[i]? = some d) (n : Nat) : Gs fs (n + 2) i = runF (Gs fs (n + 1)) d.body d.N.length d.k d.j := by
  show (match fs[i]? with | some d => runF (Gs fs (n + 1)) d.body d.N.length d.k d.j | none => badF) = _
  rw [h]
theorem so_ok {fs : List FDc} {f : Nat} (h : ∃ d, fs[f]? = some d ∧ d.body = hSo f ∧ d.N.length = 3 ∧ d.k = 2 ∧ d.j = none) : ∀ (m : Nat) (x : D), SoD m x → ∀ n, m + 2 ≤ n → Gs fs n f [x, x] [] = .ok (.bool true) [] := by
  obtain ⟨d, hd, hb, hN, hk, hj⟩ := h
  have run : ∀ n, Gs fs (n + 2) f = runF (Gs fs (n + 1)) (hSo f) 3 2 none := fun n => by rw [Gs_run hd, hb, hN, hk, hj]
  intro m
  induction m with
  | zero =>
    intro x hx n hn
    obtain ⟨n, rfl⟩ : ∃ k, n = k + 2 := ⟨n - 2, by omega⟩
    rw [run]
    cases hx
    · exact so_none _ _
    · exact so_bool _ _ _
    · exact so_int _ _ _
  | succ m ih =>
    intro x hx n hn
    obtain ⟨n, rfl⟩ : ∃ k, n = k + 2 := ⟨n - 2, by omega⟩
    rw [run]
    cases hx with
    | none => exact so_none _ _
    | bool b => exact so_bool _ _ _
    | int i => exact so_int _ _ _
    | tup ds hl hs => exact so_tup _ _ _ hl fun y hy => ih y (hs y hy) (n + 1) (by omega)
theorem soD_ints {m : Nat} (ns : List Int) (h : ns.length ≤ 1000000) : SoD (m + 1) (TI ns) := .tup _ (by simpa using h) (by
  intro x hx
  obtain ⟨i, _, rfl⟩ := List.mem_map.mp hx
  exact .int i)
/-! all sets of a row, in the order of the laws -/
def setsF {α : Type} (m : List (List α)) : List α → List (List α)
  | [] => m
  | y :: ys => setsF (m ++ m.map (· ++ [y])) ys
theorem setsF_map {α β : Type} (f : α → β) : ∀ (ys : List α) (m : List (List α)), setsF (m.map (List.map f)) (ys.map f) = (setsF m ys).map (List.map f)
  | [], m => rfl
  | y :: ys, m => by
    show setsF (m.map (List.map f) ++ (m.map (List.map f)).map (· ++ [f y])) (ys.map f) = (setsF (m ++ m.map (· ++ [y])) ys).map (List.map f)
    rw [← setsF_map f ys]
    congr 1
    simp [List.map_append, Function.comp_def]
def hSetsB : S := (.seq (.asg (.nm 1) (.bin .add (.var 1) (.lc (.bin .add (.var 3) (.lst (.cons (.var 2) .nil))) (.nm 3) (.var 1) .nil [3])))
  .skip)
def hSets : S := (.seq (.asg (.nm 1) (.lst (.cons (.lst .nil) .nil)))
  (.seq (.forr (.nm 2) (.var 0) hSetsB)
  (.seq (.ret (.var 1))
  .skip)))
def pushL (y : D) : D → D
  | .list u => .list (u ++ [y])
  | d => d
theorem pushL_l {y : D} {u : List D} : pushL y (.list u) = .list (u ++ [y]) := rfl
theorem sets_loop (F : Nat → Fn) (x : D) : ∀ (ys : List D) (m : List (List D)) (s : Slot) (q : Nat), m.length * 2 ^ ys.length ≤ 1000000 → (∀ u ∈ m, u.length ≤ q) → q + ys.length ≤ 1000000 → ∃ s', forLoop (forB (.nm 2) (exec F hSetsB)) ys [.val x, .val (.list (m.map .list)), s, .un] = .nx [.val x, .val (.list ((setsF m ys).map .list)), s', .un]
  | [], m, s, q, _, _, _ => ⟨s, rfl⟩
  | y :: ys, m, s, q, hm, hq, hl => by
    have h2 : 2 ^ (ys.length + 1) = 2 * 2 ^ ys.length := by rw [Nat.pow_succ]; omega
    have h1 : 1 ≤ 2 ^ ys.length := Nat.one_le_two_pow
    have hm' : m.length + m.length ≤ 1000000 := by
      have : m.length * 2 ≤ m.length * 2 ^ (ys.length + 1) := Nat.mul_le_mul_left _ (by omega)
      simp only [List.length_cons] at hm
      omega
    simp only [List.length_cons] at hm hl
    have hm2 : (m ++ m.map (· ++ [y])).length * 2 ^ ys.length ≤ 1000000 := by
      rw [h2] at hm
      rw [List.length_append, List.length_map]
      have : m.length * (2 * 2 ^ ys.length) = (m.length + m.length) * 2 ^ ys.length := by rw [← Nat.mul_assoc, Nat.mul_two]
      omega
    obtain ⟨s', e⟩ := sets_loop F x ys (m ++ m.map (· ++ [y])) (.val y) (q + 1) hm2 (by
      intro u hu
      rcases List.mem_append.mp hu with h | h
      · have := hq u h; omega
      · obtain ⟨w, hw, rfl⟩ := List.mem_map.mp h
        have := hq w hw
        simp; omega) (by omega)
    refine ⟨s', ?_⟩
    rw [forS]
    simp_arith []
    unfold hSetsB
    simp_arith []
    rw [lc_map (pushL y) (m.map .list) (by
      intro z hz
      obtain ⟨u, hu, rfl⟩ := List.mem_map.mp hz
      have := hq u hu
      simp_arith [fits_le, pushL_l, show u.length + 1 ≤ 1000000 by omega])]
    simp_arith [fits_le, show m.length ≤ 1000000 by omega, hm']
    have eq : m.map PyData.list ++ (m.map PyData.list).map (pushL y) = (m ++ m.map (· ++ [y])).map PyData.list := by simp [Function.comp_def, pushL]
    rw [eq]
    exact e
theorem sets_ok (F : Nat → Fn) (x : D) (ys : List D) (hx : items x = some ys) (h : ys.length ≤ 18) : runF F hSets 4 1 none [x] [] = .ok (.list ((setsF [[]] ys).map .list)) [] := by
  refine (run_N (by rfl)).trans ?_
  show finN (exec F _ [.val x, .un, .un, .un]) = _
  unfold hSets
  have h2 : 2 ^ ys.length ≤ 2 ^ 18 := Nat.pow_le_pow_right (by decide) h
  obtain ⟨s', e⟩ := sets_loop F x ys [[]] .un 0 (by simp; omega) (by simp) (by omega)
  have e' : forLoop (forB (.nm 2) (exec F hSetsB)) ys [.val x, .val (.list [.list []]), .un, .un] = _ := e
  simp_arith [hx, fits_le, Nat.zero_le, e']
end Rf.X
set_option Elab.async false
set_option linter.all false
set_option maxRecDepth 100000
set_option maxHeartbeats 4000000
/-! what the mathematics of several laws needs -/
namespace Rf.X
open PySem L2
local macro_rules
  | `(tactic| simp_arith [$ts,*]) => `(tactic| simp only [bind_okR, bind_excR, calm_okR, out_okR, out_excR, then_nxR, then_rtR, then_bkR, then_ctR, then_excR, opt_sm, obind_sm, giveS_val, giveS_own, peekS_val, peekS_own, peekS_io, at0, atS, set0, setS, getD0, getDS, var_v, var_o, var_ag, var_t, var_c, ptOf_int, var_p, var_i, nil_c, nil_p, nil_a, cons_a, ioE_S, ioS_own, ioS_io, ioO_ok, ioI_ok, isiR_none, isiR_bool, isiR_int, isiR_str, isiR_list, isiR_tuple, toldR_ok, toldR_exc0, negR_int, notR_bool, kAnd_bool, kOr_bool, callR_ok, callR_exc, call0R_ok, isL_S, isLS_own, isLS_io, cst_v, cst_o, cst_ag, cst_t, cst_c, cst_p, cst_i, tup_v, tup_o, tup_ag, tup_t, tup_c, tup_p, tup_i, lst_v, lst_o, lst_ag, lst_t, lst_c, lst_p, lst_i, bin_v, bin_o, bin_ag, bin_t, bin_c, bin_p, bin_i, neg_v, neg_o, neg_ag, neg_t, neg_c, neg_p, neg_i, not_v, not_o, not_ag, not_t, not_c, not_p, not_i, cmp_v, cmp_o, cmp_ag, cmp_t, cmp_c, cmp_p, cmp_i, and_v, and_o, and_ag, and_t, and_c, and_p, and_i, or_v, or_o, or_ag, or_t, or_c, or_p, or_i, ite_v, ite_o, ite_ag, ite_t, ite_c, ite_p, ite_i, ix_v, ix_o, ix_ag, ix_t, ix_c, ix_p, ix_i, sl_v, sl_o, sl_ag, sl_t, sl_c, sl_p, sl_i, call_v, call_o, call_ag, call_t, call_c, call_p, call_i, call0_v, call0_o, call0_ag, call0_t, call0_c, call0_p, call0_i, callio_v, callio_o, callio_ag, callio_t, callio_c, callio_p, callio_i, isi_v, isi_o, isi_ag, isi_t, isi_c, isi_p, isi_i, bi_v, bi_o, bi_ag, bi_t, bi_c, bi_p, bi_i, bi2_v, bi2_o, bi2_ag, bi2_t, bi2_c, bi2_p, bi2_i, lc_v, lc_o, lc_ag, lc_t, lc_c, lc_p, lc_i, lc2_v, lc2_o, lc2_ag, lc2_t, lc2_c, lc2_p, lc2_i, allint_v, allint_o, allint_ag, allint_t, allint_c, allint_p, allint_i, told_v, told_o, told_ag, told_t, told_c, told_p, told_i, dflt_v, dflt_o, dflt_ag, dflt_t, dflt_c, dflt_p, dflt_i, nset_v, nset_o, nset_ag, nset_t, nset_c, nset_p, nset_i, lc3_v, lc3_o, lc3_ag, lc3_t, lc3_c, lc3_p, lc3_i, chain_v, chain_o, chain_ag, chain_t, chain_c, chain_p, chain_i, lrng1_v, lrng1_o, lrng1_ag, lrng1_t, lrng1_c, lrng1_p, lrng1_i, g2_v, g2_o, g2_ag, g2_t, g2_c, g2_p, g2_i, meth_v, meth_o, meth_ag, meth_t, meth_c, meth_p, meth_i, rng1_i, rng2_i, enum_i, asgR_nm, asgOR_list, skip_x, seq_x, asg_x, asgO_x, ex_x, app_x, appR_S, appS_own, appS_io, setI_x, setR_int, setRS_own, setRS_io, setN_some, ret_x, retN_x, if_x, for_x, brk_x, cont_x, rais_x, raiR_ok, aug_x, augS_int, augR_add, augR_sub, wipe0, wipeS, back0, backS, for0, forN_nx, forN_ct, forN_bk, forN_rt, forB_nm, lcBody_nm, forB_tp, lcBody_tp, asg_tp2, zip_i, enumI_l, zipI_l, zipI_t, zipI_lt, zipI_tl, tl_some, tl_none, finN_nx, finN_rt, finN_exc, finJ_rt, ioF_io, add_ii, sub_ii, add_ll, add_tt, lt_ii, gt_ii, le_ii, ge_ii, eq_ii, ne_ii, is_n, isnot_n, isNone_none, isNone_int, isNone_bool, isNone_str, isNone_list, isNone_tuple, len_l, len_t, int_i, tuple_l, tuple_t, list_l, list_t, sum_l, sum_t, omap_sm, intsD_map, max2_i, min2_i, items_l, items_t, truth_bool, truth_none, truth_int, at_l, at_t, cut_l, cut_t, shaped_int, shaped_bool, shaped_none, eqv_ii, methK_ll, methK_tt, isLst_t, kCh4_x, kCh3_x, kCh2_x, kCh_x, kLr_x, rngLD_f, rngLD_t, kG22_x, kG2_x, g2D_gcd, kPm_x, kPm3_x, kPm2_x, kCb3_x, kCb2_x, kCb_x, enumI_t, perm1_i, perm2_i, comb_i, forO_sm, forB_tt, asgs0, asgsS, asgqs0, asgqsS, asgQ_nm, asgQ_tp, lcO_sm, lcBT_x, lcBody_tt, asgO_sm, asg_tt, sorted_l, kTup_x, kLst_x, kBin2_x, kBin_x, kNot_x, kB_x, kCmp3_x, kCmp2_x, kCmp_x, kAndT_x, kOrT_x, kIte_x, kIx3_x, kIx2_x, kIx_x, kSl4_x, kSl3_x, kSl2_x, kSl_x, kCall_x, kIo2_x, kIo_x, kIsi_x, kBi_x, kBi22_x, kBi2_x, kLcE_x, kLc_x, kLc2_x, kMe3_x, kMe2_x, kMe_x, kNs_x, kDf_x, kDf2_x, kDf3_x, kZip_x, kZip2_x, isLst_l, kLc3_x, kTr_x, kIt_x, kCons2_x, kCons_x, kRng_x, kRng3_x, kRng2_x, kLcB2_x, kLcB_x, kLs2_x, kLs_x, kEx_x, kRet_x, kSet_x, kIf_x, kFor_x, kRais_x, Bool.not_true, Bool.not_false, Bool.not_not, ↓reduceIte, Bool.false_eq_true, Bool.true_eq_false, decide_eq_true_eq, decide_eq_false_iff_not, List.any_cons, List.any_nil, isTy, Bool.or_false, Bool.or_true, Bool.false_or, Bool.true_or, Bool.and_true, Bool.true_and, Bool.and_false, Bool.false_and, List.length_cons, List.length_nil, List.length_map, List.length_append, List.length_set, List.length_replicate, List.length_range, List.cons_append, List.nil_append, List.map_cons, List.map_nil, Nat.reduceAdd, Nat.reduceSub, Nat.reduceLeDiff, Nat.reduceLT, Nat.zero_lt_succ, decide_true, decide_false, Int.reduceLT, Int.reduceLE, Int.reduceAdd, Int.reduceSub, Int.reduceMul, Int.reduceNeg, Int.reduceEq, not_true_eq_false, not_false_eq_true, ne_eq, Nat.zero_add, Int.cast_ofNat_Int, $ts,*])
/-! functions of a text, by levels -/
def HasF (fs : List FDc) (f : Nat) (b : S) (N k : Nat) (j : Option Nat) : Prop := ∃ d, fs[f]? = some d ∧ d.body = b ∧ d.N.length = N ∧ d.k = k ∧ d.j = j
theorem HasF.run {fs : List FDc} {f : Nat} {b : S} {N k : Nat} {j : Option Nat} (h : HasF fs f b N k j) (n : Nat) : Gs fs (n + 2) f = runF (Gs fs (n + 1)) b N k j := by
  obtain ⟨d, hd, hb, hN, hk, hj⟩ := h
  rw [Gs_run hd, hb, hN, hk, hj]
theorem lv {n m : Nat} (h : m + 2 ≤ n) : ∃ k, n = k + 2 ∧ m ≤ k := ⟨n - 2, by omega, by omega⟩
theorem Fl_lt {fs : List FDc} {L i : Nat} (h : i < 1000) : Fl fs L i = Gs fs L i := if_pos h
section
variable {fs : List FDc} {f f2 n : Nat}
theorem hv_req (H : HasF fs f hReq 2 2 none) (h : 2 ≤ n) (d : D) : Gs fs n f [.bool true, d] [] = .ok .none [] := by
  obtain ⟨k, rfl, hk⟩ := lv (m := 0) h
  rw [H.run]
  exact req_ok _ d
theorem hv_int (H : HasF fs f hInt 3 3 none) (h : 2 ≤ n) (i a b : Int) : Gs fs n f [.int i, .int a, .int b] [] = .ok (.bool (decide (a ≤ i) && decide (i ≤ b))) [] := by
  obtain ⟨k, rfl, hk⟩ := lv (m := 0) h
  rw [H.run]
  exact int_int _ i a b
theorem hv_intT (H : HasF fs f hInt 3 3 none) (h : 2 ≤ n) {i a b : Int} (h1 : a ≤ i) (h2 : i ≤ b) : Gs fs n f [.int i, .int a, .int b] [] = .ok (.bool true) [] := by
  rw [hv_int H h]
  simp [h1, h2]
theorem hv_seq (H : HasF fs f hSeq 3 3 none) (h : 2 ≤ n) {x : D} {ds : List D} (hx : items x = some ds) (a b : Int) : Gs fs n f [x, .int a, .int b] [] = .ok (.bool (decide (a ≤ ds.length) && decide (ds.length ≤ b))) [] := by
  obtain ⟨k, rfl, hk⟩ := lv (m := 0) h
  rw [H.run]
  exact seq_of hx _ a b
theorem hv_seqT (H : HasF fs f hSeq 3 3 none) (h : 2 ≤ n) {x : D} {ds : List D} (hx : items x = some ds) {a b : Int} (h1 : a ≤ ds.length) (h2 : (ds.length : Int) ≤ b) : Gs fs n f [x, .int a, .int b] [] = .ok (.bool true) [] := by
  rw [hv_seq H h hx]
  simp [h1, h2]
/-- a row with no upper bound to its length -/
theorem seq_N {x : D} {ds : List D} (hx : items x = some ds) (F : Nat → Fn) (a : Int) : runF F hSeq 3 3 none [x, .int a, .none] [] = .ok (.bool (decide (a ≤ ds.length))) [] := by
  refine (run_N (by rfl)).trans ?_
  show finN (exec F hSeq [.val x, .val (.int a), .val .none]) = _
  unfold hSeq
  cases x <;> first | (simp only [items, reduceCtorEq] at hx; done) | skip
  all_goals
    cases hx
    simp_arith []
    by_cases h1 : a ≤ ds.length <;> simp_arith [h1]
theorem hv_seqN (H : HasF fs f hSeq 3 3 none) (h : 2 ≤ n) {x : D} {ds : List D} (hx : items x = some ds) {a : Int} (h1 : a ≤ ds.length) : Gs fs n f [x, .int a, .none] [] = .ok (.bool true) [] := by
  obtain ⟨k, rfl, hk⟩ := lv (m := 0) h
  rw [H.run, seq_N hx]
  simp [h1]
theorem ints_N (F : Nat → Fn) (f : Nat) (x : D) (ns : List Int) (a lo hi : Int) (b : D) (k : Bool) (hx : items x = some (ns.map .int)) (h : F f [x, .int a, b] [] = .ok (.bool k) []) : runF F (hInts f) 6 5 none [x, .int a, b, .int lo, .int hi] [] = .ok (.bool (k && ns.all fun i => decide (lo ≤ i) && decide (i ≤ hi))) [] := by
  refine (run_N (by rfl)).trans ?_
  show finN (exec F _ [.val x, .val (.int a), .val b, .val (.int lo), .val (.int hi), .un]) = _
  unfold hInts
  simp_arith [h, vAll_R, allR_ints hx]
  cases k <;> simp_arith []
theorem allB {ns : List Int} {lo hi : Int} (h : ∀ i ∈ ns, lo ≤ i ∧ i ≤ hi) : (ns.all fun i => decide (lo ≤ i) && decide (i ≤ hi)) = true := List.all_eq_true.mpr fun i hi => by
  have := h i hi
  simp [this.1, this.2]
theorem hv_ints (H : HasF fs f (hInts f2) 6 5 none) (H2 : HasF fs f2 hSeq 3 3 none) (h : 3 ≤ n) {x : D} {ns : List Int} (hx : items x = some (ns.map .int)) {a b lo hi : Int} (h1 : a ≤ ns.length) (h2 : (ns.length : Int) ≤ b) (h3 : ∀ i ∈ ns, lo ≤ i ∧ i ≤ hi) : Gs fs n f [x, .int a, .int b, .int lo, .int hi] [] = .ok (.bool true) [] := by
  obtain ⟨k, rfl, hk⟩ := lv (m := 1) h
  rw [H.run, ints_N _ f2 x ns a lo hi (.int b) true hx (hv_seqT H2 (by omega) hx (by simpa using h1) (by simpa using h2)), allB h3]
  rfl
theorem hv_intsN (H : HasF fs f (hInts f2) 6 5 none) (H2 : HasF fs f2 hSeq 3 3 none) (h : 3 ≤ n) {x : D} {ns : List Int} (hx : items x = some (ns.map .int)) {a lo hi : Int} (h1 : a ≤ ns.length) (h3 : ∀ i ∈ ns, lo ≤ i ∧ i ≤ hi) : Gs fs n f [x, .int a, .none, .int lo, .int hi] [] = .ok (.bool true) [] := by
  obtain ⟨k, rfl, hk⟩ := lv (m := 1) h
  rw [H.run, ints_N _ f2 x ns a lo hi .none true hx (hv_seqN H2 (by omega) hx (by simpa using h1)), allB h3]
  rfl
theorem hv_so (H : HasF fs f (hSo f) 3 2 none) (m : Nat) {x : D} (hx : SoD m x) (h : m + 2 ≤ n) : Gs fs n f [x, x] [] = .ok (.bool true) [] := so_ok H m x hx n h
theorem hv_num (H : HasF fs f hNum 6 1 none) (h : 2 ≤ n) (ns : List Int) (h63 : ns.length ≤ 63) : ∃ row : List Int, row ≠ [] ∧ row.length ≤ 4000 ∧ Gs fs n f [scrD ns] [] = .ok (LI row) [] := by
  obtain ⟨k, rfl, hk⟩ := lv (m := 0) h
  rw [H.run]
  exact num_ok _ ns h63
theorem hv_draw (H : HasF fs f hDraw 4 3 none) (h : 2 ≤ n) {row : List Int} (hr : row ≠ []) (k : Nat) (lim : Int) (hl : 0 < lim) : Gs fs n f [LI row, .int k, .int lim] [] = .ok (.int (dr row k lim)) [] := by
  obtain ⟨j, rfl, hj⟩ := lv (m := 0) h
  rw [H.run]
  exact draw_ok _ row hr k lim hl
theorem hv_take (H : HasF fs f (hTake f2) 3 3 (some 1)) (H2 : HasF fs f2 hDraw 4 3 none) (h : 3 ≤ n) {row : List Int} (hr : row ≠ []) (k : Nat) (lim : Int) (hl : 0 < lim) : Gs fs n f [LI row, .int lim] [.int (k : Int)] = .ok (.int (dr row k lim)) [.int ((k + 1 : Nat) : Int)] := by
  obtain ⟨j, rfl, hj⟩ := lv (m := 1) h
  rw [H.run]
  exact take_ok _ f2 row k lim (hv_draw H2 (by omega) hr k lim hl)
theorem dr_nat (row : List Int) (k : Nat) (lim : Int) (hl : 0 < lim) : ∃ q : Nat, dr row k lim = (q : Int) ∧ (q : Int) < lim := by
  have := dr_lt row k lim hl
  exact ⟨(dr row k lim).toNat, by omega, by omega⟩
/-- a draw, as a whole number -/
theorem hv_takeN (H : HasF fs f (hTake f2) 3 3 (some 1)) (H2 : HasF fs f2 hDraw 4 3 none) (h : 3 ≤ n) {row : List Int} (hr : row ≠ []) (k : Nat) (lim : Int) (hl : 0 < lim) : ∃ q : Nat, (q : Int) < lim ∧ Gs fs n f [LI row, .int lim] [.int (k : Int)] = .ok (.int q) [.int ((k + 1 : Nat) : Int)] := by
  obtain ⟨q, e, hq⟩ := dr_nat row k lim hl
  exact ⟨q, hq, by rw [hv_take H H2 h hr k lim hl, e]⟩
theorem hv_pick {f3 : Nat} (H : HasF fs f (hPick f2) 3 3 (some 1)) (H2 : HasF fs f2 (hTake f3) 3 3 (some 1)) (H3 : HasF fs f3 hDraw 4 3 none) (h : 4 ≤ n) {row : List Int} (hr : row ≠ []) (k : Nat) (xs : List D) (h0 : xs ≠ []) : ∃ q, ∃ hq : q < xs.length, Gs fs n f [LI row, .list xs] [.int (k : Int)] = .ok xs[q] [.int ((k + 1 : Nat) : Int)] := by
  obtain ⟨j, rfl, hj⟩ := lv (m := 2) h
  have hp : (0 : Int) < (xs.length : Int) := by have := List.length_pos_iff.mpr h0; omega
  obtain ⟨q, e, hq⟩ := dr_nat row k xs.length hp
  have hq' : q < xs.length := by omega
  refine ⟨q, hq', ?_⟩
  rw [H.run]
  refine pick_ok _ f2 row k xs _ (k + 1) q ?_ (atI_get hq')
  rw [hv_take H2 H3 (by omega) hr k _ hp, e]
/-- listed, at one level -/
theorem hv_listedI (H : HasF fs f (hListed f) 2 1 none) (h : 2 ≤ n) (i : Int) : Gs fs n f [.int i] [] = .ok (.int i) [] := by
  obtain ⟨k, rfl, hk⟩ := lv (m := 0) h
  rw [H.run]
  exact listed_int _ f i
theorem hv_listedT (H : HasF fs f (hListed f) 2 1 none) (m : Nat) (h : m + 1 ≤ n) (h2 : 2 ≤ n) {xs : List D} (g : D → D) (hf : xs.length ≤ 1000000) (hx : ∀ n, m ≤ n → ∀ x ∈ xs, Gs fs n f [x] [] = .ok (g x) []) : Gs fs n f [.tuple xs] [] = .ok (.list (xs.map g)) [] := by
  obtain ⟨k, rfl, hk⟩ := lv (m := 0) h2
  rw [H.run]
  exact listed_tup _ f xs g hf (hx (k + 1) (by omega))
theorem hv_handed {f3 fd : Nat} (H : HasF fs f (hHanded f2 f3) 3 3 (some 1)) (H2 : HasF fs f2 (hTake fd) 3 3 (some 1)) (Hd : HasF fs fd hDraw 4 3 none) (h : 4 ≤ n) {row : List Int} (hr : row ≠ []) (k : Nat) (x y : D) (hy : Gs fs (n - 1) f3 [x] [] = .ok y []) : ∃ z, (z = y ∨ z = x) ∧ Gs fs n f [LI row, x] [.int (k : Int)] = .ok z [.int ((k + 1 : Nat) : Int)] := by
  obtain ⟨j, rfl, hj⟩ := lv (m := 2) h
  refine ⟨if dr row k 2 = 0 then y else x, ?_, ?_⟩
  · split
    · exact .inl rfl
    · exact .inr rfl
  · rw [H.run]
    exact handed_ok _ f2 f3 row k (k + 1) x y _ (hv_take H2 Hd (by omega) hr k 2 (by omega)) hy
/-- as_tuples, at one level -/
theorem asT_row (F : Nat → Fn) (f : Nat) (x : D) (xs : List D) (hx : items x = some xs) (g : D → D) (hf : xs.length ≤ 1000000) (h : ∀ x ∈ xs, F f [x] [] = .ok (g x) []) : runF F (hAsT f) 2 1 none [x] [] = .ok (.tuple (xs.map g)) [] := by
  refine (run_N (by rfl)).trans ?_
  show finN (exec F _ [.val x, .un]) = _
  unfold hAsT
  cases x <;> first | (simp only [items, reduceCtorEq] at hx; done) | skip
  all_goals
    cases hx
    simp_arith []
    rw [lc_map g xs (fun x hx => by simp_arith [h x hx])]
    simp_arith [fits_le, hf]
theorem hv_asTI (H : HasF fs f (hAsT f) 2 1 none) (h : 2 ≤ n) (i : Int) : Gs fs n f [.int i] [] = .ok (.int i) [] := by
  obtain ⟨k, rfl, hk⟩ := lv (m := 0) h
  rw [H.run]
  exact asT_int _ f i
theorem hv_asT (H : HasF fs f (hAsT f) 2 1 none) (m : Nat) (h : m + 1 ≤ n) (h2 : 2 ≤ n) {x : D} {xs : List D} (hx : items x = some xs) (g : D → D) (hf : xs.length ≤ 1000000) (hg : ∀ n, m ≤ n → ∀ x ∈ xs, Gs fs n f [x] [] = .ok (g x) []) : Gs fs n f [x] [] = .ok (.tuple (xs.map g)) [] := by
  obtain ⟨k, rfl, hk⟩ := lv (m := 0) h2
  rw [H.run]
  exact asT_row _ f x xs hx g hf (hg (k + 1) (by omega))
end
/-! comprehensions -/
theorem lc_mapM {α : Type} {f : D → Rho → Res (Option D)} {r : Rho} (e g : α → D) : ∀ (xs : List α), (∀ a ∈ xs, f (e a) r = .ok (some (g a)) r) → lcLoop f (xs.map e) r = .ok (xs.map g) r
  | [], _ => rfl
  | a :: xs, h => by
    rw [List.map_cons, lcS, h a List.mem_cons_self, calm_okR, kLs_x, lc_mapM e g xs (fun y hy => h y (List.mem_cons_of_mem _ hy)), calm_okR, kLs2_x]
    rfl
theorem lc_filterM {α : Type} {f : D → Rho → Res (Option D)} {r : Rho} (e : α → D) (p : α → Bool) (g : α → D) : ∀ (xs : List α), (∀ a ∈ xs, f (e a) r = .ok (if p a = true then some (g a) else none) r) → lcLoop f (xs.map e) r = .ok ((xs.filter p).map g) r
  | [], _ => rfl
  | a :: xs, h => by
    rw [List.map_cons, lcS, h a List.mem_cons_self, calm_okR, kLs_x, lc_filterM e p g xs (fun y hy => h y (List.mem_cons_of_mem _ hy)), calm_okR, kLs2_x]
    by_cases hp : p a = true
    · rw [if_pos hp, List.filter_cons_of_pos hp]
      rfl
    · rw [if_neg hp, List.filter_cons_of_neg hp]
      rfl
theorem lc_ints {α : Type} {f : D → Rho → Res (Option D)} {r : Rho} (e : α → D) (g : α → Int) (xs : List α) (h : ∀ a ∈ xs, f (e a) r = .ok (some (.int (g a))) r) : lcLoop f (xs.map e) r = .ok ((xs.map g).map PyData.int) r := by
  rw [lc_mapM e (fun a => .int (g a)) xs h, List.map_map]
  rfl
theorem lc_fints {α : Type} {f : D → Rho → Res (Option D)} {r : Rho} (e : α → D) (p : α → Bool) (g : α → Int) (xs : List α) (h : ∀ a ∈ xs, f (e a) r = .ok (if p a = true then some (.int (g a)) else none) r) : lcLoop f (xs.map e) r = .ok (((xs.filter p).map g).map PyData.int) r := by
  rw [lc_filterM e p (fun a => .int (g a)) xs h, List.map_map]
  rfl
/-- one that carries a counter through, its values of one kind -/
theorem lc_exA {α : Type} {f : D → Rho → Res (Option D)} (st : Nat → Rho) (e : α → D) {β : Type} (v : β → D) (P : β → Prop) : ∀ (xs : List α) (k : Nat), (∀ a ∈ xs, ∀ k, ∃ b k', f (e a) (st k) = .ok (some (v b)) (st k') ∧ P b) → ∃ (ys : List β) (k' : Nat), lcLoop f (xs.map e) (st k) = .ok (ys.map v) (st k') ∧ ys.length = xs.length ∧ ∀ y ∈ ys, P y
  | [], k, _ => ⟨[], k, rfl, rfl, by simp⟩
  | a :: xs, k, h => by
    obtain ⟨b, k1, e1, hb⟩ := h a List.mem_cons_self k
    obtain ⟨ys, k2, e2, hl, hP⟩ := lc_exA st e v P xs k1 (fun z hz => h z (List.mem_cons_of_mem _ hz))
    refine ⟨b :: ys, k2, ?_, by simp [hl], by simpa [hb] using hP⟩
    rw [List.map_cons, lcS, e1, calm_okR, kLs_x, e2, calm_okR, kLs2_x, tl_some]
    rfl
/-- one that keeps some of a row, by draws -/
theorem lc_some {α : Type} {f : D → Rho → Res (Option D)} (st : Nat → Rho) (e : α → D) : ∀ (xs : List α) (k : Nat), (∀ a ∈ xs, ∀ k, ∃ (b : Bool) (k' : Nat), f (e a) (st k) = .ok (if b = true then some (e a) else none) (st k')) → ∃ (ys : List α) (k' : Nat), lcLoop f (xs.map e) (st k) = .ok (ys.map e) (st k') ∧ ys.Sublist xs
  | [], k, _ => ⟨[], k, rfl, .slnil⟩
  | a :: xs, k, h => by
    obtain ⟨b, k1, e1⟩ := h a List.mem_cons_self k
    obtain ⟨ys, k2, e2, hs⟩ := lc_some st e xs k1 (fun z hz => h z (List.mem_cons_of_mem _ hz))
    cases b
    · refine ⟨ys, k2, ?_, hs.cons _⟩
      rw [List.map_cons, lcS, e1, calm_okR, kLs_x, e2, calm_okR, kLs2_x]
      rfl
    · refine ⟨a :: ys, k2, ?_, hs.cons_cons _⟩
      rw [List.map_cons, lcS, e1, calm_okR, kLs_x, e2, calm_okR, kLs2_x]
      rfl
/-! data -/
theorem ixD_of {x : D} {ds : List D} (hx : items x = some ds) (i : Int) : ixD x (.int i) = atI ds i := by
  cases x <;> first | (simp only [items, reduceCtorEq] at hx; done) | (cases hx; rfl)
theorem len_of {x : D} {ds : List D} (hx : items x = some ds) : biD .len x = some (.int ds.length) := by
  cases x <;> first | (simp only [items, reduceCtorEq] at hx; done) | (cases hx; rfl)
theorem atI_1 {x y : D} {xs : List D} : atI (x :: y :: xs) 1 = some y := by
  unfold atI ixN
  simp [show (1 : Int) < (xs.length : Int) + 1 + 1 by omega]
theorem atI_2 {x y z : D} {xs : List D} : atI (x :: y :: z :: xs) 2 = some z := by
  unfold atI ixN
  simp [show (2 : Int) < (xs.length : Int) + 1 + 1 + 1 by omega]
theorem canLay_ints : ∀ (ns : List Int), PyData.canLayAll0 (ns.map PyData.int) = true
  | [] => rfl
  | n :: ns => by
    rw [List.map_cons]
    show (PyData.canLay0 (.int n) && PyData.canLayAll0 (ns.map PyData.int)) = true
    rw [canLay_ints ns]
    rfl
theorem depth_ints : ∀ (ns : List Int), PyData.depthAll (ns.map PyData.int) ≤ 1
  | [] => by decide
  | n :: ns => by
    rw [List.map_cons]
    show max (PyData.depth (.int n)) (PyData.depthAll (ns.map PyData.int)) ≤ 1
    exact Nat.max_le.mpr ⟨by show (0 : Nat) ≤ 1; omega, depth_ints ns⟩
theorem shaped_li (ns : List Int) : SeqAt.shaped (.list (ns.map PyData.int)) = true := by
  unfold SeqAt.shaped
  rw [show PyData.canLay0 (LI ns) = PyData.canLayAll0 (ns.map PyData.int) from rfl, canLay_ints, Bool.true_and]
  refine decide_eq_true ?_
  show PyData.depthAll (ns.map PyData.int) + 1 ≤ 64
  have := depth_ints ns
  omega
theorem shaped_ti (ns : List Int) : SeqAt.shaped (.tuple (ns.map PyData.int)) = true := by
  unfold SeqAt.shaped
  rw [show PyData.canLay0 (TI ns) = PyData.canLayAll0 (ns.map PyData.int) from rfl, canLay_ints, Bool.true_and]
  refine decide_eq_true ?_
  show PyData.depthAll (ns.map PyData.int) + 1 ≤ 64
  have := depth_ints ns
  omega
theorem inD_ints (i : Int) : ∀ ns : List Int, inD (.int i) (ns.map PyData.int) = ns.any (· == i)
  | [] => rfl
  | n :: ns => by
    show (PyData.eqv (.int n) (.int i) || inD (.int i) (ns.map PyData.int)) = ((n == i) || ns.any (· == i))
    rw [inD_ints i ns, eqv_ii]
    rfl
theorem in_ti (i : Int) (ns : List Int) : cmpD .isin (.int i) (.tuple (ns.map PyData.int)) = some (ns.any (· == i)) := by
  show (if (SeqAt.shaped (.int i) && SeqAt.shaped (.tuple (ns.map PyData.int))) = true then some (inD (.int i) (ns.map PyData.int)) else none) = _
  rw [shaped_ti, shaped_int, inD_ints]
  rfl
theorem in_li (i : Int) (ns : List Int) : cmpD .isin (.int i) (.list (ns.map PyData.int)) = some (ns.any (· == i)) := by
  show (if (SeqAt.shaped (.int i) && SeqAt.shaped (.list (ns.map PyData.int))) = true then some (inD (.int i) (ns.map PyData.int)) else none) = _
  rw [shaped_li, shaped_int, inD_ints]
  rfl
theorem eqv_ints : ∀ (ns : List Int), PyData.eqvAll (ns.map PyData.int) (ns.map PyData.int) = true
  | [] => by simp [PyData.eqvAll]
  | n :: ns => by
    rw [List.map_cons, PyData.eqvAll, eqv_ints ns, eqv_ii]
    simp
theorem ne_li (ns : List Int) : cmpD .ne (.list (ns.map PyData.int)) (.list (ns.map PyData.int)) = some false := by
  show (if (SeqAt.shaped (LI ns) && SeqAt.shaped (LI ns)) = true then some (!PyData.eqvAll (ns.map PyData.int) (ns.map PyData.int)) else none) = _
  rw [shaped_li, eqv_ints]
  rfl
/-! different numbers -/
theorem distI_acc : ∀ (ns acc : List Int), ns.Nodup → (∀ x ∈ ns, x ∉ acc) → ns.foldl (fun acc x => if acc.any (· == x) then acc else acc ++ [x]) acc = acc ++ ns
  | [], acc, _, _ => by simp
  | n :: ns, acc, h, ha => by
    have h1 : acc.any (· == n) = false := by
      rw [List.any_eq_false]
      intro y hy e
      exact ha n List.mem_cons_self (by rw [← eq_of_beq e]; exact hy)
    rw [List.foldl_cons, h1]
    obtain ⟨hn, hd⟩ := List.nodup_cons.mp h
    rw [if_neg (by simp), distI_acc ns (acc ++ [n]) hd (by
      intro x hx hm
      rcases List.mem_append.mp hm with k | k
      · exact ha x (List.mem_cons_of_mem _ hx) k
      · have : x = n := by simpa using k
        subst this
        exact hn hx)]
    simp
theorem distI_nodup {ns : List Int} (h : ns.Nodup) : distI ns = ns := by
  have := distI_acc ns [] h (by simp)
  simpa [distI] using this
theorem nset_nodup {x : D} {ns : List Int} (hx : items x = some (ns.map PyData.int)) (hl : ns.length ≤ 4000) (h : ns.Nodup) : nsetD x = some (.int ns.length) := by
  unfold nsetD
  rw [hx, obind_sm, intsD_map, obind_sm, if_pos hl, distI_nodup h]
/-! greatest and least -/
def mxL : List Int → Int
  | [] => 0
  | n :: ns => ns.foldl max n
theorem pick_ints (ns : List Int) (n : Int) : pickOf PySem.W.maxD max ((n :: ns).map PyData.int) = some (.int (ns.foldl max n)) := by
  rw [List.map_cons]
  show (match intsD (ns.map PyData.int) with | some ns => some (PyData.int (ns.foldl max n)) | none => _) = _
  rw [intsD_map]
theorem max_ints {x : D} {ns : List Int} (hx : items x = some (ns.map PyData.int)) (h : ns ≠ []) : biD .max x = some (.int (mxL ns)) := by
  cases ns with
  | nil => exact absurd rfl h
  | cons n ns =>
    have : biD .max x = (items x).bind (pickOf PySem.W.maxD max) := by
      cases x <;> rfl
    rw [this, hx, obind_sm, pick_ints]
    rfl
theorem max_li {ns : List Int} (h : ns ≠ []) : biD .max (.list (ns.map PyData.int)) = some (.int (mxL ns)) := max_ints rfl h
theorem max_ti {ns : List Int} (h : ns ≠ []) : biD .max (.tuple (ns.map PyData.int)) = some (.int (mxL ns)) := max_ints rfl h
theorem foldl_max_le : ∀ (ns : List Int) (n b : Int), ns.foldl max n ≤ b ↔ n ≤ b ∧ ∀ x ∈ ns, x ≤ b
  | [], n, b => by simp
  | m :: ns, n, b => by
    rw [List.foldl_cons, foldl_max_le ns (max n m) b]
    simp only [List.forall_mem_cons]
    constructor
    · rintro ⟨h1, h2⟩
      exact ⟨by omega, by omega, h2⟩
    · rintro ⟨h1, h2, h3⟩
      exact ⟨by omega, h3⟩
theorem mxL_le_iff {ns : List Int} (h : ns ≠ []) {b : Int} : mxL ns ≤ b ↔ ∀ x ∈ ns, x ≤ b := by
  cases ns with
  | nil => exact absurd rfl h
  | cons n ns =>
    show ns.foldl max n ≤ b ↔ _
    rw [foldl_max_le]
    simp
theorem le_mxL {ns : List Int} {x : Int} (h : x ∈ ns) : x ≤ mxL ns := (mxL_le_iff (List.ne_nil_of_mem h)).mp (Int.le_refl _) x h
theorem foldl_max_mem : ∀ (ns : List Int) (n : Int), ns.foldl max n = n ∨ ns.foldl max n ∈ ns
  | [], n => .inl rfl
  | m :: ns, n => by
    rw [List.foldl_cons]
    rcases foldl_max_mem ns (max n m) with h | h
    · rw [h]
      by_cases hm : n ≤ m
      · right
        have : max n m = m := by omega
        rw [this]
        exact List.mem_cons_self
      · left
        omega
    · right
      exact List.mem_cons_of_mem _ h
theorem mxL_mem {ns : List Int} (h : ns ≠ []) : mxL ns ∈ ns := by
  cases ns with
  | nil => exact absurd rfl h
  | cons n ns =>
    show ns.foldl max n ∈ _
    rcases foldl_max_mem ns n with e | e
    · rw [e]; exact List.mem_cons_self
    · exact List.mem_cons_of_mem _ e
/-! rows of places -/
abbrev rI (m : Nat) : List Int := (List.range m).map fun (k : Nat) => (k : Int)
theorem rI_len (m : Nat) : (rI m).length = m := by simp
theorem mem_rI {m : Nat} {i : Int} : i ∈ rI m ↔ 0 ≤ i ∧ i < m := by
  constructor
  · intro h
    obtain ⟨k, hk, rfl⟩ := List.mem_map.mp h
    rw [List.mem_range] at hk
    exact ⟨by omega, by omega⟩
  · intro h
    exact List.mem_map.mpr ⟨i.toNat, List.mem_range.mpr (by omega), by omega⟩
theorem rI_lt (m : Nat) : (rI m).Pairwise (· < ·) := by
  rw [List.pairwise_map]
  exact (List.pairwise_lt_range (n := m)).imp (by intro a b h; omega)
theorem rI_nodup (m : Nat) : (rI m).Nodup := (rI_lt m).imp (by intro a b h; omega)
theorem rng_rI {m : Nat} (h : m ≤ 1000000) : rngD [.int (m : Int)] = some ((rI m).map PyData.int) := by
  rw [rng1_ok h, List.map_map]
  rfl
/-! loops, place by place -/
theorem for_at {body : D → Rho → Out} (I : Nat → Rho → Prop) : ∀ (xs : List D) (m : Nat), (∀ n r x, xs[n]? = some x → I (m + n) r → ∃ r', body x r = .nx r' ∧ I (m + n + 1) r') → ∀ r, I m r → ∃ r', forLoop body xs r = .nx r' ∧ I (m + xs.length) r'
  | [], m, _, r, h0 => ⟨r, rfl, h0⟩
  | x :: xs, m, h, r, h0 => by
    obtain ⟨r', e, h1⟩ := h 0 r x rfl h0
    obtain ⟨r2, e2, h2⟩ := for_at I xs (m + 1) (fun n r y hy hi => by
      have := h (n + 1) r y (by simpa using hy) (by rw [show m + (n + 1) = m + 1 + n by omega]; exact hi)
      rw [show m + (n + 1) + 1 = m + 1 + n + 1 by omega] at this
      exact this) r' h1
    refine ⟨r2, ?_, by rw [show m + (x :: xs).length = m + 1 + xs.length by simp; omega]; exact h2⟩
    rw [forS, e]
    exact e2
/-- a loop that folds, whatever some slots become -/
theorem for_foldE {σ α : Type} {body : D → Rho → Out} (e : α → D) (I : σ → Rho → Prop) (g : σ → α → σ) : ∀ (xs : List α) (s : σ), (∀ a ∈ xs, ∀ s r, I s r → ∃ r', body (e a) r = .nx r' ∧ I (g s a) r') → ∀ r, I s r → ∃ r', forLoop body (xs.map e) r = .nx r' ∧ I (xs.foldl g s) r'
  | [], s, _, r, h0 => ⟨r, rfl, h0⟩
  | a :: xs, s, h, r, h0 => by
    obtain ⟨r', e1, h1⟩ := h a List.mem_cons_self s r h0
    obtain ⟨r2, e2, h2⟩ := for_foldE e I g xs (g s a) (fun b hb => h b (List.mem_cons_of_mem _ hb)) r' h1
    refine ⟨r2, ?_, h2⟩
    rw [List.map_cons, forS, e1]
    exact e2
/-! wrong arguments -/
def isExc (x : FRes) (n : Nat) (k : Int) : Bool := match x with
  | .exc m (.int i) => m == n && decide (i = k)
  | _ => false
theorem isExc_eq {x : FRes} {n : Nat} {k : Int} (h : isExc x n k = true) : x = .exc n (.int k) := by
  unfold isExc at h
  split at h
  · simp only [Bool.and_eq_true, beq_iff_eq, decide_eq_true_eq] at h
    rw [h.1, h.2]
  · cases h
theorem ne_bv (i : Int) : cmpD .ne (.tuple [.str "BadValue", .int i]) (.tuple [.str "BadValue", .int i]) = some false := by
  show (if (SeqAt.shaped (.tuple [.str "BadValue", .int i]) && SeqAt.shaped (.tuple [.str "BadValue", .int i])) = true then some (!(PyData.eqv (.str "BadValue") (.str "BadValue") && (PyData.eqv (.int i) (.int i) && true))) else none) = _
  rw [eqv_ii, show SeqAt.shaped (.tuple [.str "BadValue", .int i]) = SeqAt.shaped (.tuple [.str "BadValue", .int 0]) from rfl, show SeqAt.shaped (.tuple [.str "BadValue", .int 0]) = true by decide +kernel, show PyData.eqv (.str "BadValue") (.str "BadValue") = true by decide +kernel]
  simp
def hBadI : S := (.seq (.ret (.lst (.cons (.cst (.bool true)) (.cons (.cst .none) (.cons (.cst (.str "1")) (.cons (.tup (.cons (.cst (.int 1)) .nil)) (.cons (.tup (.cons (.cst (.int 1)) (.cons (.cst (.int 1)) .nil))) .nil)))))))
  .skip)
def badI : List D := [.bool true, .none, .str "1", .tuple [.int 1], .tuple [.int 1, .int 1]]
theorem hv_badI {fs : List FDc} {f n : Nat} (H : HasF fs f hBadI 0 0 none) (h : 2 ≤ n) : Gs fs n f [] [] = .ok (.list badI) [] := by
  obtain ⟨k, rfl, hk⟩ := lv (m := 0) h
  rw [H.run]
  refine (run_N (by rfl)).trans ?_
  show finN (exec _ hBadI []) = _
  unfold hBadI badI
  simp_arith [fits_le]
end Rf.X
set_option Elab.async false
set_option linter.all false
set_option maxRecDepth 100000
set_option maxHeartbeats 4000000
namespace Lw
open PySem PySem.Spec PyProof.Rows L2 LamX Rf
abbrev top (i : Nat) : Stmt := PySem.Challenge.pw_stagewright_k21_whole_revolves.main.body.getD i (.Pass ⟨0, 0, 0, 0⟩)
def b_as_tuples : S := (.seq (.iff (.isi (.var 0) [.list, .tuple])
  (.seq (.ret (.bi .tuple (.lc (.call 0 (.cons (.var 1) .nil)) (.nm 1) (.var 0) .nil [1])))
  .skip)
  .skip)
  (.seq (.ret (.var 0))
  .skip))
def d_as_tuples : FDc := { nm := "as_tuples", N := ["value", "item"], k := 1, j := none, body := b_as_tuples, gen := false }
def b_require : S := (.seq (.iff (.not (.var 0))
  (.seq (.rais 0 (.var 1))
  .skip)
  .skip)
  .skip)
def d_require : FDc := { nm := "require", N := ["fine", "at"], k := 2, j := none, body := b_require, gen := false }
def b_is_integer : S := (.seq (.iff (.or (.not (.isi (.var 0) [.int])) (.isi (.var 0) [.bool]))
  (.seq (.ret (.cst (.bool false)))
  .skip)
  .skip)
  (.seq (.ret (.and (.or (.cmp .is (.var 1) (.cst .none)) (.cmp .le (.var 1) (.var 0))) (.or (.cmp .is (.var 2) (.cst .none)) (.cmp .le (.var 0) (.var 2)))))
  .skip))
def d_is_integer : FDc := { nm := "is_integer", N := ["value", "low", "high"], k := 3, j := none, body := b_is_integer, gen := false }
def b_is_sequence : S := (.seq (.iff (.not (.isi (.var 0) [.list, .tuple]))
  (.seq (.ret (.cst (.bool false)))
  .skip)
  .skip)
  (.seq (.ret (.and (.cmp .le (.var 1) (.bi .len (.var 0))) (.or (.cmp .is (.var 2) (.cst .none)) (.cmp .le (.bi .len (.var 0)) (.var 2)))))
  .skip))
def d_is_sequence : FDc := { nm := "is_sequence", N := ["value", "least", "most"], k := 3, j := none, body := b_is_sequence, gen := false }
def b_all_different : S := (.seq (.ret (.cmp .eq (.nset (.var 0)) (.bi .len (.var 0))))
  .skip)
def d_all_different : FDc := { nm := "all_different", N := ["items"], k := 1, j := none, body := b_all_different, gen := false }
def b_are_integers : S := (.seq (.ret (.and (.call 5 (.cons (.var 0) (.cons (.var 1) (.cons (.var 2) .nil)))) (.allint 0 3 4)))
  .skip)
def d_are_integers : FDc := { nm := "are_integers", N := ["value", "least", "most", "low", "high", "item"], k := 5, j := none, body := b_are_integers, gen := true }
def b_is_order : S := (.seq (.ret (.and (.call 7 (.cons (.var 0) (.cons (.var 1) (.cons (.var 1) (.cons (.cst (.int 0)) (.cons (.bin .sub (.var 1) (.cst (.int 1))) .nil)))))) (.call 6 (.cons (.var 0) .nil))))
  .skip)
def d_is_order : FDc := { nm := "is_order", N := ["value", "many"], k := 2, j := none, body := b_is_order, gen := false }
def b_is_arrangement : S := (.seq (.ret (.and (.call 5 (.cons (.var 0) (.cons (.cst (.int 1)) (.cons (.cst (.int 6)) .nil)))) (.call 8 (.cons (.var 0) (.cons (.bi .len (.var 0)) .nil)))))
  .skip)
def d_is_arrangement : FDc := { nm := "is_arrangement", N := ["value"], k := 1, j := none, body := b_is_arrangement, gen := false }
def b_are_shows : S := (.seq (.ret (.call 7 (.cons (.var 0) (.cons (.cst (.int 1)) (.cons (.cst (.int 12)) (.cons (.cst (.int 0)) (.cons (.cst .none) .nil)))))))
  .skip)
def d_are_shows : FDc := { nm := "are_shows", N := ["value"], k := 1, j := none, body := b_are_shows, gen := false }
def b_steps_between : S := (.seq (.asg (.nm 3) (.bi .abs (.bin .sub (.var 2) (.var 1))))
  (.seq (.ret (.bi2 .min (.var 3) (.bin .sub (.var 0) (.var 3))))
  .skip))
def d_steps_between : FDc := { nm := "steps_between", N := ["many", "here", "there", "apart"], k := 3, j := none, body := b_steps_between, gen := false }
def b_steps_of : S := (.seq (.asg (.nm 2) (.bi .len (.var 0)))
  (.seq (.asg (.nm 3) (.lc (.meth 0 (.var 0) (.cons (.var 4) .nil)) (.nm 4) (.var 1) .nil [4]))
  (.seq (.ret (.bi .sum (.lc (.call 11 (.cons (.var 2) (.cons (.ix (.var 3) (.var 5)) (.cons (.ix (.var 3) (.bin .add (.var 5) (.cst (.int 1)))) .nil)))) (.nm 5) (.rng1 (.bin .sub (.bi .len (.var 3)) (.cst (.int 1)))) .nil [5])))
  .skip)))
def d_steps_of : FDc := { nm := "steps_of", N := ["arrangement", "shows", "many", "places", "show", "at"], k := 2, j := none, body := b_steps_of, gen := false }
def b_turning : S := (.seq (.ex (.call 3 (.cons (.call 9 (.cons (.var 0) .nil)) (.cons (.cst (.int 0)) .nil))))
  (.seq (.ex (.call 3 (.cons (.call 10 (.cons (.var 1) .nil)) (.cons (.cst (.int 1)) .nil))))
  (.seq (.ex (.call 3 (.cons (.cmp .lt (.bi .max (.var 1)) (.bi .len (.var 0))) (.cons (.cst (.int 1)) .nil))))
  (.seq (.ret (.call 12 (.cons (.call 0 (.cons (.var 0) .nil)) (.cons (.call 0 (.cons (.var 1) .nil)) .nil))))
  .skip))))
def d_turning : FDc := { nm := "turning", N := ["arrangement", "shows"], k := 2, j := none, body := b_turning, gen := false }
def b_best_ring : S := (.seq (.ex (.call 3 (.cons (.call 4 (.cons (.var 0) (.cons (.cst (.int 1)) (.cons (.cst (.int 6)) .nil)))) (.cons (.cst (.int 0)) .nil))))
  (.seq (.ex (.call 3 (.cons (.call 10 (.cons (.var 1) .nil)) (.cons (.cst (.int 1)) .nil))))
  (.seq (.ex (.call 3 (.cons (.cmp .lt (.bi .max (.var 1)) (.var 0)) (.cons (.cst (.int 1)) .nil))))
  (.seq (.asg (.nm 2) (.cst .none))
  (.seq (.forr (.nm 3) (.perm2 (.cst (.int 1)) (.var 0))
  (.seq (.asg (.nm 4) (.bin .add (.tup (.cons (.cst (.int 0)) .nil)) (.var 3)))
  (.seq (.asg (.nm 5) (.tup (.cons (.call 12 (.cons (.var 4) (.cons (.var 1) .nil))) (.cons (.var 4) .nil))))
  (.seq (.iff (.or (.cmp .is (.var 2) (.cst .none)) (.cmp .lt (.var 5) (.var 2)))
  (.seq (.asg (.nm 2) (.var 5))
  .skip)
  .skip)
  .skip))))
  (.seq (.ret (.var 2))
  .skip))))))
def d_best_ring : FDc := { nm := "best_ring", N := ["many", "shows", "best", "others", "arrangement", "found"], k := 2, j := none, body := b_best_ring, gen := false }
def b__law_so : S := (.seq (.iff (.cmp .is (.var 1) (.cst .none))
  (.seq (.ret (.cmp .is (.var 0) (.cst .none)))
  .skip)
  .skip)
  (.seq (.iff (.isi (.var 1) [.tuple])
  (.seq (.iff (.or (.not (.isi (.var 0) [.tuple])) (.cmp .ne (.bi .len (.var 0)) (.bi .len (.var 1))))
  (.seq (.ret (.cst (.bool false)))
  .skip)
  .skip)
  (.seq (.forr (.nm 2) (.rng1 (.bi .len (.var 1)))
  (.seq (.iff (.not (.call 15 (.cons (.ix (.var 0) (.var 2)) (.cons (.ix (.var 1) (.var 2)) .nil))))
  (.seq (.ret (.cst (.bool false)))
  .skip)
  .skip)
  .skip))
  (.seq (.ret (.cst (.bool true)))
  .skip)))
  .skip)
  (.seq (.iff (.or (.isi (.var 1) [.bool]) (.isi (.var 0) [.bool]))
  (.seq (.ret (.and (.isi (.var 1) [.bool]) (.and (.isi (.var 0) [.bool]) (.cmp .eq (.var 0) (.var 1)))))
  .skip)
  .skip)
  (.seq (.iff (.isi (.var 1) [.int])
  (.seq (.ret (.and (.isi (.var 0) [.int]) (.cmp .eq (.var 0) (.var 1))))
  .skip)
  .skip)
  (.seq (.ret (.and (.isi (.var 1) [.str]) (.and (.isi (.var 0) [.str]) (.cmp .eq (.var 0) (.var 1)))))
  .skip)))))
def d__law_so : FDc := { nm := "_law_so", N := ["found", "meant", "k"], k := 2, j := none, body := b__law_so, gen := false }
def b__law_numbers : S := (.seq (.asgO 1 (.lst .nil))
  (.seq (.forr (.nm 2) (.sl (.var 0) .nil (.cst (.int 63)))
  (.seq (.iff (.cmp .ge (.var 2) (.bin .pow (.cst (.int 10)) (.cst (.int 18))))
  (.seq (.asg (.nm 3) (.var 2))
  (.seq (.forr (.nm 4) (.rng1 (.cst (.int 60)))
  (.seq (.iff (.cmp .eq (.var 3) (.cst (.int 0)))
  (.seq .brk
  .skip)
  .skip)
  (.seq (.app 1 (.bin .mod (.bi .int (.var 3)) (.cst (.int 997))))
  (.seq (.asg (.nm 3) (.bin .div (.var 3) (.cst (.int 997))))
  .skip))))
  .skip))
  (.seq (.forr (.nm 4) (.rng1 (.cst (.int 4)))
  (.seq (.asg (.nm 5) (.bin .mod (.bi .int (.bin .add (.bin .add (.bin .mul (.var 2) (.cst (.int 48271))) (.bin .mul (.var 4) (.cst (.int 69621)))) (.cst (.int 11)))) (.cst (.int 2147483647))))
  (.seq (.app 1 (.bin .mod (.bi .int (.bin .add (.bin .mul (.var 5) (.cst (.int 16807))) (.var 4))) (.cst (.int 2147483629))))
  .skip)))
  .skip))
  .skip))
  (.seq (.iff (.cmp .eq (.bi .len (.var 1)) (.cst (.int 0)))
  (.seq (.app 1 (.cst (.int 0)))
  .skip)
  .skip)
  (.seq (.ret (.var 1))
  .skip))))
def d__law_numbers : FDc := { nm := "_law_numbers", N := ["script", "row", "single", "left", "k", "mixed"], k := 1, j := none, body := b__law_numbers, gen := false }
def b__law_draw : S := (.seq (.iff (.cmp .lt (.var 1) (.bi .len (.var 0)))
  (.seq (.ret (.bin .mod (.bi .int (.ix (.var 0) (.var 1))) (.var 2)))
  .skip)
  .skip)
  (.seq (.asg (.nm 3) (.bin .mod (.bi .int (.bin .add (.bin .add (.bin .mul (.ix (.var 0) (.bin .mod (.bi .int (.var 1)) (.bi .len (.var 0)))) (.cst (.int 40692))) (.bin .mul (.var 1) (.cst (.int 7919)))) (.cst (.int 3)))) (.cst (.int 2147483399))))
  (.seq (.ret (.bin .mod (.bi .int (.bin .mod (.bi .int (.bin .add (.bin .mul (.var 3) (.cst (.int 48271))) (.var 1))) (.cst (.int 2147483647)))) (.var 2)))
  .skip)))
def d__law_draw : FDc := { nm := "_law_draw", N := ["row", "at", "limit", "mixed"], k := 3, j := none, body := b__law_draw, gen := false }
def b__law_take : S := (.seq (.setI 1 (.cst (.int 0)) (.bin .add (.ix (.var 1) (.cst (.int 0))) (.cst (.int 1))))
  (.seq (.ret (.call 17 (.cons (.var 0) (.cons (.bin .sub (.ix (.var 1) (.cst (.int 0))) (.cst (.int 1))) (.cons (.var 2) .nil)))))
  .skip))
def d__law_take : FDc := { nm := "_law_take", N := ["row", "spot", "limit"], k := 3, j := (some 1), body := b__law_take, gen := false }
def b__law_listed : S := (.seq (.iff (.isi (.var 0) [.tuple])
  (.seq (.ret (.lc (.call 19 (.cons (.var 1) .nil)) (.nm 1) (.var 0) .nil [1]))
  .skip)
  .skip)
  (.seq (.ret (.var 0))
  .skip))
def d__law_listed : FDc := { nm := "_law_listed", N := ["value", "one"], k := 1, j := none, body := b__law_listed, gen := false }
def b__law_handed : S := (.seq (.ret (.ite (.cmp .eq (.callio 18 (.cons (.var 0) .nil) 1 (.cons (.cst (.int 2)) .nil)) (.cst (.int 0))) (.call 19 (.cons (.var 2) .nil)) (.var 2)))
  .skip)
def d__law_handed : FDc := { nm := "_law_handed", N := ["row", "spot", "value"], k := 3, j := (some 1), body := b__law_handed, gen := false }
def b__law_bad_integers : S := (.seq (.ret (.lst (.cons (.cst (.bool true)) (.cons (.cst .none) (.cons (.cst (.str "1")) (.cons (.tup (.cons (.cst (.int 1)) .nil)) (.cons (.tup (.cons (.cst (.int 1)) (.cons (.cst (.int 1)) .nil))) .nil)))))))
  .skip)
def d__law_bad_integers : FDc := { nm := "_law_bad_integers", N := [], k := 0, j := none, body := b__law_bad_integers, gen := false }
def b__law_perms : S := (.seq (.asg (.nm 1) (.lst (.cons (.tup .nil) .nil)))
  (.seq (.forr (.nm 2) (.rng1 (.var 0))
  (.seq (.asg (.nm 3) (.lst .nil))
  (.seq (.forr (.nm 4) (.var 1)
  (.seq (.asg (.nm 3) (.bin .add (.var 3) (.lc (.bin .add (.var 4) (.tup (.cons (.var 5) .nil))) (.nm 5) (.rng1 (.var 0)) (.cmp .notin (.var 5) (.var 4)) [5])))
  .skip))
  (.seq (.asg (.nm 1) (.var 3))
  .skip))))
  (.seq (.ret (.var 1))
  .skip)))
def d__law_perms : FDc := { nm := "_law_perms", N := ["many", "made", "k", "longer", "one", "j"], k := 1, j := none, body := b__law_perms, gen := false }
def b__law_turning : S := (.seq (.asg (.nm 2) (.bi .len (.var 0)))
  (.seq (.asg (.nm 3) (.cst (.int 0)))
  (.seq (.forr (.nm 4) (.rng2 (.cst (.int 1)) (.bi .len (.var 1)))
  (.seq (.asg (.nm 5) (.bin .sub (.meth 0 (.var 0) (.cons (.ix (.var 1) (.var 4)) .nil)) (.meth 0 (.var 0) (.cons (.ix (.var 1) (.bin .sub (.var 4) (.cst (.int 1)))) .nil))))
  (.seq (.asg (.nm 5) (.bi2 .max (.var 5) (.neg (.var 5))))
  (.seq (.asg (.nm 3) (.bin .add (.var 3) (.bi2 .min (.var 5) (.bin .sub (.var 2) (.var 5)))))
  .skip))))
  (.seq (.ret (.var 3))
  .skip))))
def d__law_turning : FDc := { nm := "_law_turning", N := ["arrangement", "shows", "many", "total", "k", "gap"], k := 2, j := none, body := b__law_turning, gen := false }
def b_law : S := (.seq (.asg (.nm 1) (.call 16 (.cons (.var 0) .nil)))
  (.seq (.asgO 2 (.lst (.cons (.cst (.int 0)) .nil)))
  (.seq (.asg (.nm 3) (.bin .add (.cst (.int 1)) (.callio 18 (.cons (.var 1) .nil) 2 (.cons (.cst (.int 5)) .nil))))
  (.seq (.asg (.nm 4) (.bi .tuple (.lc (.callio 18 (.cons (.var 1) .nil) 2 (.cons (.var 3) .nil)) (.nm 9) (.rng1 (.bin .add (.cst (.int 1)) (.callio 18 (.cons (.var 1) .nil) 2 (.cons (.cst (.int 12)) .nil)))) .nil [9])))
  (.seq (.asg (.nm 5) (.cst .none))
  (.seq (.forr (.nm 6) (.call 22 (.cons (.var 3) .nil))
  (.seq (.asg (.nm 8) (.call 23 (.cons (.var 6) (.cons (.var 4) .nil))))
  (.seq (.iff (.and (.cmp .eq (.ix (.var 6) (.cst (.int 0))) (.cst (.int 0))) (.or (.cmp .is (.var 5) (.cst .none)) (.cmp .lt (.tup (.cons (.var 8) (.cons (.var 6) .nil))) (.var 5))))
  (.seq (.asg (.nm 5) (.tup (.cons (.var 8) (.cons (.var 6) .nil))))
  .skip)
  .skip)
  (.seq (.iff (.and (.cmp .eq (.callio 18 (.cons (.var 1) .nil) 2 (.cons (.cst (.int 20)) .nil)) (.cst (.int 0))) (.not (.call 15 (.cons (.call 13 (.cons (.callio 20 (.cons (.var 1) .nil) 2 (.cons (.var 6) .nil)) (.cons (.callio 20 (.cons (.var 1) .nil) 2 (.cons (.var 4) .nil)) .nil))) (.cons (.var 8) .nil)))))
  (.seq (.ret (.cst (.bool false)))
  .skip)
  .skip)
  .skip))))
  (.seq (.iff (.or (.not (.call 15 (.cons (.call 14 (.cons (.var 3) (.cons (.callio 20 (.cons (.var 1) .nil) 2 (.cons (.var 4) .nil)) .nil))) (.cons (.var 5) .nil)))) (.not (.call 15 (.cons (.call 13 (.cons (.ix (.var 5) (.cst (.int 1))) (.cons (.var 4) .nil))) (.cons (.ix (.var 5) (.cst (.int 0))) .nil)))))
  (.seq (.ret (.cst (.bool false)))
  .skip)
  .skip)
  (.seq (.forr (.nm 7) (.lst (.cons (.tup .nil) (.cons (.tup (.cons (.cst (.int 1)) .nil)) (.cons (.tup (.cons (.cst (.int 0)) (.cons (.cst (.int 0)) .nil))) (.cons (.tup (.cons (.cst (.int 0)) (.cons (.cst (.int 2)) .nil))) (.cons (.tup (.cons (.cst (.bool true)) .nil)) (.cons (.cst .none) (.cons (.cst (.int 0)) (.cons (.tup (.cons (.cst (.int 0)) (.cons (.cst (.int 1)) (.cons (.cst (.int 2)) (.cons (.cst (.int 3)) (.cons (.cst (.int 4)) (.cons (.cst (.int 5)) (.cons (.cst (.int 6)) .nil)))))))) .nil)))))))))
  (.seq (.iff (.cmp .ne (.told 0 (.call 13 (.cons (.var 7) (.cons (.tup (.cons (.cst (.int 0)) .nil)) .nil)))) (.tup (.cons (.cst (.str "BadValue")) (.cons (.cst (.int 0)) .nil))))
  (.seq (.ret (.cst (.bool false)))
  .skip)
  .skip)
  .skip))
  (.seq (.forr (.nm 7) (.lst (.cons (.tup .nil) (.cons (.tup (.cons (.cst (.int 1)) .nil)) (.cons (.tup (.cons (.neg (.cst (.int 1))) .nil)) (.cons (.tup (.cons (.cst (.bool true)) .nil)) (.cons (.cst .none) (.cons (.cst (.int 0)) (.cons (.bin .mul (.tup (.cons (.cst (.int 0)) .nil)) (.cst (.int 13))) .nil))))))))
  (.seq (.iff (.or (.cmp .ne (.told 0 (.call 13 (.cons (.tup (.cons (.cst (.int 0)) .nil)) (.cons (.var 7) .nil)))) (.tup (.cons (.cst (.str "BadValue")) (.cons (.cst (.int 1)) .nil)))) (.cmp .ne (.told 0 (.call 14 (.cons (.cst (.int 1)) (.cons (.var 7) .nil)))) (.tup (.cons (.cst (.str "BadValue")) (.cons (.cst (.int 1)) .nil)))))
  (.seq (.ret (.cst (.bool false)))
  .skip)
  .skip)
  .skip))
  (.seq (.forr (.nm 7) (.bin .add (.call0 21) (.lst (.cons (.cst (.int 0)) (.cons (.cst (.int 7)) .nil))))
  (.seq (.iff (.cmp .ne (.told 0 (.call 14 (.cons (.var 7) (.cons (.tup (.cons (.cst (.int 0)) .nil)) .nil)))) (.tup (.cons (.cst (.str "BadValue")) (.cons (.cst (.int 0)) .nil))))
  (.seq (.ret (.cst (.bool false)))
  .skip)
  .skip)
  .skip))
  (.seq (.ret (.and (.call 15 (.cons (.call 14 (.cons (.cst (.int 6)) (.cons (.bin .mul (.tup (.cons (.cst (.int 0)) (.cons (.cst (.int 5)) .nil))) (.cst (.int 6))) .nil))) (.cons (.tup (.cons (.cst (.int 11)) (.cons (.tup (.cons (.cst (.int 0)) (.cons (.cst (.int 1)) (.cons (.cst (.int 2)) (.cons (.cst (.int 3)) (.cons (.cst (.int 4)) (.cons (.cst (.int 5)) .nil))))))) .nil))) .nil))) (.and (.call 15 (.cons (.call 13 (.cons (.tup (.cons (.cst (.int 0)) (.cons (.cst (.int 1)) (.cons (.cst (.int 2)) (.cons (.cst (.int 3)) (.cons (.cst (.int 4)) (.cons (.cst (.int 5)) .nil))))))) (.cons (.tup (.cons (.cst (.int 0)) (.cons (.cst (.int 3)) .nil))) .nil))) (.cons (.cst (.int 3)) .nil))) (.call 15 (.cons (.call 14 (.cons (.cst (.int 1)) (.cons (.bin .mul (.tup (.cons (.cst (.int 0)) .nil)) (.cst (.int 12))) .nil))) (.cons (.tup (.cons (.cst (.int 0)) (.cons (.tup (.cons (.cst (.int 0)) .nil)) .nil))) .nil))))))
  .skip)))))))))))
def N_law : List Str := ["script", "row", "spot", "many", "shows", "best", "order", "bad", "total", "k"]
def fs : List FDc := [d_as_tuples, vd 0, vd 1, d_require, d_is_integer, d_is_sequence, d_all_different, d_are_integers, d_is_order, d_is_arrangement, d_are_shows, d_steps_between, d_steps_of, d_turning, d_best_ring, d__law_so, d__law_numbers, d__law_draw, d__law_take, d__law_listed, d__law_handed, d__law_bad_integers, d__law_perms, d__law_turning]
def cs : List (Str × Rf.D) := [("permutations", itD 0)]
theorem s_as_tuples : FnScope d_as_tuples.N ["value"] (defScope (top 2)) := C8.fnScope_by (by decide +kernel)
theorem c_as_tuples : ckB d_as_tuples.body (gmOf fs cs 1 d_as_tuples (top 2)) (defBody (top 2)) = true := by decide +kernel
theorem s_require : FnScope d_require.N ["fine", "at"] (defScope (top 14)) := C8.fnScope_by (by decide +kernel)
theorem c_require : ckB d_require.body (gmOf fs cs 1 d_require (top 14)) (defBody (top 14)) = true := by decide +kernel
theorem s_is_integer : FnScope d_is_integer.N ["value", "low", "high"] (defScope (top 15)) := C8.fnScope_by (by decide +kernel)
theorem c_is_integer : ckB d_is_integer.body (gmOf fs cs 1 d_is_integer (top 15)) (defBody (top 15)) = true := by decide +kernel
theorem s_is_sequence : FnScope d_is_sequence.N ["value", "least", "most"] (defScope (top 16)) := C8.fnScope_by (by decide +kernel)
theorem c_is_sequence : ckB d_is_sequence.body (gmOf fs cs 1 d_is_sequence (top 16)) (defBody (top 16)) = true := by decide +kernel
theorem s_all_different : FnScope d_all_different.N ["items"] (defScope (top 17)) := C8.fnScope_by (by decide +kernel)
theorem c_all_different : ckB d_all_different.body (gmOf fs cs 1 d_all_different (top 17)) (defBody (top 17)) = true := by decide +kernel
theorem s_are_integers : FnScope d_are_integers.N ["value", "least", "most", "low", "high"] (defScope (top 18)) := C8.fnScope_by (by decide +kernel)
theorem c_are_integers : ckB d_are_integers.body (gmOf fs cs 1 d_are_integers (top 18)) (defBody (top 18)) = true := by decide +kernel
theorem s_is_order : FnScope d_is_order.N ["value", "many"] (defScope (top 19)) := C8.fnScope_by (by decide +kernel)
theorem c_is_order : ckB d_is_order.body (gmOf fs cs 1 d_is_order (top 19)) (defBody (top 19)) = true := by decide +kernel
theorem s_is_arrangement : FnScope d_is_arrangement.N ["value"] (defScope (top 21)) := C8.fnScope_by (by decide +kernel)
theorem c_is_arrangement : ckB d_is_arrangement.body (gmOf fs cs 1 d_is_arrangement (top 21)) (defBody (top 21)) = true := by decide +kernel
theorem s_are_shows : FnScope d_are_shows.N ["value"] (defScope (top 22)) := C8.fnScope_by (by decide +kernel)
theorem c_are_shows : ckB d_are_shows.body (gmOf fs cs 1 d_are_shows (top 22)) (defBody (top 22)) = true := by decide +kernel
theorem s_steps_between : FnScope d_steps_between.N ["many", "here", "there"] (defScope (top 23)) := C8.fnScope_by (by decide +kernel)
theorem c_steps_between : ckB d_steps_between.body (gmOf fs cs 1 d_steps_between (top 23)) (defBody (top 23)) = true := by decide +kernel
theorem s_steps_of : FnScope d_steps_of.N ["arrangement", "shows"] (defScope (top 24)) := C8.fnScope_by (by decide +kernel)
theorem c_steps_of : ckB d_steps_of.body (gmOf fs cs 1 d_steps_of (top 24)) (defBody (top 24)) = true := by decide +kernel
theorem s_turning : FnScope d_turning.N ["arrangement", "shows"] (defScope (top 25)) := C8.fnScope_by (by decide +kernel)
theorem c_turning : ckB d_turning.body (gmOf fs cs 1 d_turning (top 25)) (defBody (top 25)) = true := by decide +kernel
theorem s_best_ring : FnScope d_best_ring.N ["many", "shows"] (defScope (top 26)) := C8.fnScope_by (by decide +kernel)
theorem c_best_ring : ckB d_best_ring.body (gmOf fs cs 1 d_best_ring (top 26)) (defBody (top 26)) = true := by decide +kernel
theorem s__law_so : FnScope d__law_so.N ["found", "meant"] (defScope (top 28)) := C8.fnScope_by (by decide +kernel)
theorem c__law_so : ckB d__law_so.body (gmOf fs cs 1 d__law_so (top 28)) (defBody (top 28)) = true := by decide +kernel
theorem s__law_numbers : FnScope d__law_numbers.N ["script"] (defScope (top 29)) := C8.fnScope_by (by decide +kernel)
theorem c__law_numbers : ckB d__law_numbers.body (gmOf fs cs 1 d__law_numbers (top 29)) (defBody (top 29)) = true := by decide +kernel
theorem s__law_draw : FnScope d__law_draw.N ["row", "at", "limit"] (defScope (top 30)) := C8.fnScope_by (by decide +kernel)
theorem c__law_draw : ckB d__law_draw.body (gmOf fs cs 1 d__law_draw (top 30)) (defBody (top 30)) = true := by decide +kernel
theorem s__law_take : FnScope d__law_take.N ["row", "spot", "limit"] (defScope (top 31)) := C8.fnScope_by (by decide +kernel)
theorem c__law_take : ckB d__law_take.body (gmOf fs cs 1 d__law_take (top 31)) (defBody (top 31)) = true := by decide +kernel
theorem s__law_listed : FnScope d__law_listed.N ["value"] (defScope (top 32)) := C8.fnScope_by (by decide +kernel)
theorem c__law_listed : ckB d__law_listed.body (gmOf fs cs 1 d__law_listed (top 32)) (defBody (top 32)) = true := by decide +kernel
theorem s__law_handed : FnScope d__law_handed.N ["row", "spot", "value"] (defScope (top 33)) := C8.fnScope_by (by decide +kernel)
theorem c__law_handed : ckB d__law_handed.body (gmOf fs cs 1 d__law_handed (top 33)) (defBody (top 33)) = true := by decide +kernel
theorem s__law_bad_integers : FnScope d__law_bad_integers.N [] (defScope (top 34)) := C8.fnScope_by (by decide +kernel)
theorem c__law_bad_integers : ckB d__law_bad_integers.body (gmOf fs cs 1 d__law_bad_integers (top 34)) (defBody (top 34)) = true := by decide +kernel
theorem s__law_perms : FnScope d__law_perms.N ["many"] (defScope (top 35)) := C8.fnScope_by (by decide +kernel)
theorem c__law_perms : ckB d__law_perms.body (gmOf fs cs 1 d__law_perms (top 35)) (defBody (top 35)) = true := by decide +kernel
theorem s__law_turning : FnScope d__law_turning.N ["arrangement", "shows"] (defScope (top 37)) := C8.fnScope_by (by decide +kernel)
theorem c__law_turning : ckB d__law_turning.body (gmOf fs cs 1 d__law_turning (top 37)) (defBody (top 37)) = true := by decide +kernel
theorem s_law : FnScope N_law ["script"] (defScope (top 38)) := C8.fnScope_by (by decide +kernel)
theorem c_law : ckB b_law { sc := defScope (top 38), N := N_law, fn := fun _ => true, tab := tabOf fs, cs := cs, lam := true, gen := false, nx := 1 } (defBody (top 38)) = true := by decide +kernel
end Lw
set_option Elab.async false
set_option linter.all false
set_option maxRecDepth 100000
set_option maxHeartbeats 4000000
/-! more of what several laws need -/
namespace Rf.X
open PySem L2
local macro_rules
  | `(tactic| simp_arith [$ts,*]) => `(tactic| simp only [bind_okR, bind_excR, calm_okR, out_okR, out_excR, then_nxR, then_rtR, then_bkR, then_ctR, then_excR, opt_sm, obind_sm, giveS_val, giveS_own, peekS_val, peekS_own, peekS_io, at0, atS, set0, setS, getD0, getDS, var_v, var_o, var_ag, var_t, var_c, ptOf_int, var_p, var_i, nil_c, nil_p, nil_a, cons_a, ioE_S, ioS_own, ioS_io, ioO_ok, ioI_ok, isiR_none, isiR_bool, isiR_int, isiR_str, isiR_list, isiR_tuple, toldR_ok, toldR_exc0, negR_int, notR_bool, kAnd_bool, kOr_bool, callR_ok, callR_exc, call0R_ok, isL_S, isLS_own, isLS_io, cst_v, cst_o, cst_ag, cst_t, cst_c, cst_p, cst_i, tup_v, tup_o, tup_ag, tup_t, tup_c, tup_p, tup_i, lst_v, lst_o, lst_ag, lst_t, lst_c, lst_p, lst_i, bin_v, bin_o, bin_ag, bin_t, bin_c, bin_p, bin_i, neg_v, neg_o, neg_ag, neg_t, neg_c, neg_p, neg_i, not_v, not_o, not_ag, not_t, not_c, not_p, not_i, cmp_v, cmp_o, cmp_ag, cmp_t, cmp_c, cmp_p, cmp_i, and_v, and_o, and_ag, and_t, and_c, and_p, and_i, or_v, or_o, or_ag, or_t, or_c, or_p, or_i, ite_v, ite_o, ite_ag, ite_t, ite_c, ite_p, ite_i, ix_v, ix_o, ix_ag, ix_t, ix_c, ix_p, ix_i, sl_v, sl_o, sl_ag, sl_t, sl_c, sl_p, sl_i, call_v, call_o, call_ag, call_t, call_c, call_p, call_i, call0_v, call0_o, call0_ag, call0_t, call0_c, call0_p, call0_i, callio_v, callio_o, callio_ag, callio_t, callio_c, callio_p, callio_i, isi_v, isi_o, isi_ag, isi_t, isi_c, isi_p, isi_i, bi_v, bi_o, bi_ag, bi_t, bi_c, bi_p, bi_i, bi2_v, bi2_o, bi2_ag, bi2_t, bi2_c, bi2_p, bi2_i, lc_v, lc_o, lc_ag, lc_t, lc_c, lc_p, lc_i, lc2_v, lc2_o, lc2_ag, lc2_t, lc2_c, lc2_p, lc2_i, allint_v, allint_o, allint_ag, allint_t, allint_c, allint_p, allint_i, told_v, told_o, told_ag, told_t, told_c, told_p, told_i, dflt_v, dflt_o, dflt_ag, dflt_t, dflt_c, dflt_p, dflt_i, nset_v, nset_o, nset_ag, nset_t, nset_c, nset_p, nset_i, lc3_v, lc3_o, lc3_ag, lc3_t, lc3_c, lc3_p, lc3_i, chain_v, chain_o, chain_ag, chain_t, chain_c, chain_p, chain_i, lrng1_v, lrng1_o, lrng1_ag, lrng1_t, lrng1_c, lrng1_p, lrng1_i, g2_v, g2_o, g2_ag, g2_t, g2_c, g2_p, g2_i, meth_v, meth_o, meth_ag, meth_t, meth_c, meth_p, meth_i, rng1_i, rng2_i, enum_i, asgR_nm, asgOR_list, skip_x, seq_x, asg_x, asgO_x, ex_x, app_x, appR_S, appS_own, appS_io, setI_x, setR_int, setRS_own, setRS_io, setN_some, ret_x, retN_x, if_x, for_x, brk_x, cont_x, rais_x, raiR_ok, aug_x, augS_int, augR_add, augR_sub, wipe0, wipeS, back0, backS, for0, forN_nx, forN_ct, forN_bk, forN_rt, forB_nm, lcBody_nm, forB_tp, lcBody_tp, asg_tp2, zip_i, enumI_l, zipI_l, zipI_t, zipI_lt, zipI_tl, tl_some, tl_none, finN_nx, finN_rt, finN_exc, finJ_rt, ioF_io, add_ii, sub_ii, add_ll, add_tt, lt_ii, gt_ii, le_ii, ge_ii, eq_ii, ne_ii, is_n, isnot_n, isNone_none, isNone_int, isNone_bool, isNone_str, isNone_list, isNone_tuple, len_l, len_t, int_i, tuple_l, tuple_t, list_l, list_t, sum_l, sum_t, omap_sm, intsD_map, max2_i, min2_i, items_l, items_t, truth_bool, truth_none, truth_int, at_l, at_t, cut_l, cut_t, shaped_int, shaped_bool, shaped_none, eqv_ii, methK_ll, methK_tt, isLst_t, kCh4_x, kCh3_x, kCh2_x, kCh_x, kLr_x, rngLD_f, rngLD_t, kG22_x, kG2_x, g2D_gcd, kPm_x, kPm3_x, kPm2_x, kCb3_x, kCb2_x, kCb_x, enumI_t, perm1_i, perm2_i, comb_i, forO_sm, forB_tt, asgs0, asgsS, asgqs0, asgqsS, asgQ_nm, asgQ_tp, lcO_sm, lcBT_x, lcBody_tt, asgO_sm, asg_tt, sorted_l, kTup_x, kLst_x, kBin2_x, kBin_x, kNot_x, kB_x, kCmp3_x, kCmp2_x, kCmp_x, kAndT_x, kOrT_x, kIte_x, kIx3_x, kIx2_x, kIx_x, kSl4_x, kSl3_x, kSl2_x, kSl_x, kCall_x, kIo2_x, kIo_x, kIsi_x, kBi_x, kBi22_x, kBi2_x, kLcE_x, kLc_x, kLc2_x, kMe3_x, kMe2_x, kMe_x, kNs_x, kDf_x, kDf2_x, kDf3_x, kZip_x, kZip2_x, isLst_l, kLc3_x, kTr_x, kIt_x, kCons2_x, kCons_x, kRng_x, kRng3_x, kRng2_x, kLcB2_x, kLcB_x, kLs2_x, kLs_x, kEx_x, kRet_x, kSet_x, kIf_x, kFor_x, kRais_x, Bool.not_true, Bool.not_false, Bool.not_not, ↓reduceIte, Bool.false_eq_true, Bool.true_eq_false, decide_eq_true_eq, decide_eq_false_iff_not, List.any_cons, List.any_nil, isTy, Bool.or_false, Bool.or_true, Bool.false_or, Bool.true_or, Bool.and_true, Bool.true_and, Bool.and_false, Bool.false_and, List.length_cons, List.length_nil, List.length_map, List.length_append, List.length_set, List.length_replicate, List.length_range, List.cons_append, List.nil_append, List.map_cons, List.map_nil, Nat.reduceAdd, Nat.reduceSub, Nat.reduceLeDiff, Nat.reduceLT, Nat.zero_lt_succ, decide_true, decide_false, Int.reduceLT, Int.reduceLE, Int.reduceAdd, Int.reduceSub, Int.reduceMul, Int.reduceNeg, Int.reduceEq, not_true_eq_false, not_false_eq_true, ne_eq, Nat.zero_add, Int.cast_ofNat_Int, $ts,*])
mutual
def eqD : D → D → Bool
  | .none, .none => true
  | .int i, .int j => decide (i = j)
  | .bool i, .bool j => decide (i = j)
  | .str i, .str j => decide (i = j)
  | .tuple xs, .tuple ys => eqDs xs ys
  | .list xs, .list ys => eqDs xs ys
  | _, _ => false
def eqDs : List D → List D → Bool
  | [], [] => true
  | x :: xs, y :: ys => eqD x y && eqDs xs ys
  | _, _ => false
end
mutual
theorem eqD_eq : ∀ (x y : D), eqD x y = true → x = y
  | .none, .none, _ => rfl
  | .int i, .int j, h => by rw [of_decide_eq_true (show decide (i = j) = true by simpa [eqD] using h)]
  | .bool i, .bool j, h => by rw [of_decide_eq_true (show decide (i = j) = true by simpa [eqD] using h)]
  | .str i, .str j, h => by rw [of_decide_eq_true (show decide (i = j) = true by simpa [eqD] using h)]
  | .tuple xs, .tuple ys, h => by rw [eqDs_eq xs ys (by simpa [eqD] using h)]
  | .list xs, .list ys, h => by rw [eqDs_eq xs ys (by simpa [eqD] using h)]
  | .none, .int _, h | .none, .bool _, h | .none, .tuple _, h | .none, .list _, h | .none, .str _, h | .none, .dict _, h => by simp [eqD] at h
  | .int _, .none, h | .int _, .bool _, h | .int _, .tuple _, h | .int _, .list _, h | .int _, .str _, h | .int _, .dict _, h => by simp [eqD] at h
  | .bool _, .none, h | .bool _, .int _, h | .bool _, .tuple _, h | .bool _, .list _, h | .bool _, .str _, h | .bool _, .dict _, h => by simp [eqD] at h
  | .tuple _, .none, h | .tuple _, .int _, h | .tuple _, .bool _, h | .tuple _, .list _, h | .tuple _, .str _, h | .tuple _, .dict _, h => by simp [eqD] at h
  | .list _, .none, h | .list _, .int _, h | .list _, .bool _, h | .list _, .tuple _, h | .list _, .str _, h | .list _, .dict _, h => by simp [eqD] at h
  | .str _, .none, h | .str _, .bool _, h | .str _, .int _, h | .str _, .tuple _, h | .str _, .list _, h | .str _, .dict _, h => by simp [eqD] at h
  | .dict _, _, h => by simp [eqD] at h
theorem eqDs_eq : ∀ (xs ys : List D), eqDs xs ys = true → xs = ys
  | [], [], _ => rfl
  | x :: xs, y :: ys, h => by
    rw [eqDs, Bool.and_eq_true] at h
    rw [eqD_eq x y h.1, eqDs_eq xs ys h.2]
  | [], _ :: _, h => by simp [eqDs] at h
  | _ :: _, [], h => by simp [eqDs] at h
end
def isOk (x : FRes) (d : D) : Bool := match x with
  | .ok e [] => eqD e d
  | _ => false
theorem isOk_eq {x : FRes} {d : D} (h : isOk x d = true) : x = .ok d [] := by
  unfold isOk at h
  split at h
  · rw [eqD_eq _ _ h]
  · cases h

/-! a row of the laws, handed as it is or as lists -/
mutual
def listD : D → D
  | .tuple ds => .list (listDs ds)
  | d => d
def listDs : List D → List D
  | [] => []
  | d :: ds => listD d :: listDs ds
end
theorem listDs_map : ∀ ds : List D, listDs ds = ds.map listD
  | [] => rfl
  | d :: ds => by rw [listDs, listDs_map ds]; rfl
theorem listD_t (ds : List D) : listD (.tuple ds) = .list (ds.map listD) := by rw [listD, listDs_map]
theorem listD_i (i : Int) : listD (.int i) = .int i := rfl
theorem listD_ti (ns : List Int) : listD (TI ns) = LI ns := by
  show listD (.tuple (ns.map .int)) = _
  rw [listD_t, List.map_map]
  rfl
/-- data of the laws: no lists, m levels of tuples -/
inductive TuD : Nat → D → Prop where
  | none {m : Nat} : TuD m .none
  | bool {m : Nat} (b : Bool) : TuD m (.bool b)
  | int {m : Nat} (i : Int) : TuD m (.int i)
  | str {m : Nat} (s : Str) : TuD m (.str s)
  | tup {m : Nat} (ds : List D) (hl : ds.length ≤ 1000000) (h : ∀ x ∈ ds, TuD m x) : TuD (m + 1) (.tuple ds)
theorem tuD_ti {m : Nat} (ns : List Int) (h : ns.length ≤ 1000000) : TuD (m + 1) (TI ns) := .tup _ (by simpa using h) fun x hx => by
  obtain ⟨i, _, rfl⟩ := List.mem_map.mp hx
  exact .int i
theorem TuD.up {m : Nat} {d : D} (h : TuD m d) : TuD (m + 1) d := by
  induction h with
  | none => exact .none
  | bool b => exact .bool b
  | int i => exact .int i
  | str s => exact .str s
  | tup ds hl _ ih => exact .tup ds hl ih
def Hd (x d : D) : Prop := x = d ∨ x = listD d
theorem Hd.ti {x : D} {ns : List Int} (h : Hd x (TI ns)) : items x = some (ns.map PyData.int) := by
  rcases h with rfl | rfl
  · rfl
  · rw [listD_ti]; rfl
section
variable {fs : List FDc} {f f2 n : Nat}
theorem listed_row (F : Nat → Fn) (f : Nat) (ds : List D) (hf : ds.length ≤ 1000000) (h : ∀ x ∈ ds, F f [x] [] = .ok (listD x) []) : runF F (hListed f) 2 1 none [.tuple ds] [] = .ok (listD (.tuple ds)) [] := by
  rw [listD_t]
  exact listed_tup F f ds listD hf h
theorem hv_listed (H : HasF fs f (hListed f) 2 1 none) : ∀ (m : Nat) (d : D), TuD m d → ∀ n, m + 2 ≤ n → Gs fs n f [d] [] = .ok (listD d) [] := by
  intro m
  have base : ∀ (d : D) (n : Nat), 2 ≤ n → (∀ ds, d ≠ .tuple ds) → (∀ k, d ≠ .dict k) → listD d = d → Gs fs n f [d] [] = .ok (listD d) [] := fun d n hn h1 h3 h2 => by
    obtain ⟨k, rfl, hk⟩ := lv (m := 0) hn
    rw [H.run, h2]
    refine (run_N (by rfl)).trans ?_
    show finN (exec _ (hListed f) [.val d, .un]) = _
    unfold hListed
    cases d with
    | tuple ds => exact absurd rfl (h1 ds)
    | dict ds => exact absurd rfl (h3 ds)
    | _ => simp_arith []
  induction m with
  | zero =>
    intro d hd n hn
    cases hd <;> exact base _ n (by omega) (fun _ e => by cases e) (fun _ e => by cases e) rfl
  | succ m ih =>
    intro d hd n hn
    cases hd with
    | tup ds hl h =>
      obtain ⟨k, rfl, hk⟩ := lv (m := m + 1) (by omega : m + 1 + 2 ≤ n)
      rw [H.run]
      exact listed_row _ f ds hl fun x hx => ih x (h x hx) (k + 1) (by omega)
    | _ => exact base _ n (by omega) (fun _ e => by cases e) (fun _ e => by cases e) rfl
theorem hv_hd {f3 fd : Nat} (H : HasF fs f (hHanded f2 f3) 3 3 (some 1)) (H2 : HasF fs f2 (hTake fd) 3 3 (some 1)) (Hd' : HasF fs fd hDraw 4 3 none) (H3 : HasF fs f3 (hListed f3) 2 1 none) {m : Nat} {d : D} (hd : TuD m d) (h : m + 4 ≤ n) {row : List Int} (hr : row ≠ []) (k : Nat) :
    ∃ z, Hd z d ∧ Gs fs n f [LI row, d] [.int (k : Int)] = .ok z [.int ((k + 1 : Nat) : Int)] := by
  obtain ⟨z, hz, e⟩ := hv_handed H H2 Hd' (by omega) hr k d (listD d) (hv_listed H3 m d hd (n - 1) (by omega))
  exact ⟨z, hz.symm, e⟩
theorem asT_rowM {α : Type} (F : Nat → Fn) (f : Nat) (x : D) (e g : α → D) (as : List α) (hx : items x = some (as.map e)) (hf : as.length ≤ 1000000) (h : ∀ a ∈ as, F f [e a] [] = .ok (g a) []) : runF F (hAsT f) 2 1 none [x] [] = .ok (.tuple (as.map g)) [] := by
  refine (run_N (by rfl)).trans ?_
  show finN (exec F _ [.val x, .un]) = _
  unfold hAsT
  cases x <;> first | (simp only [items, reduceCtorEq] at hx; done) | skip
  all_goals
    cases hx
    simp_arith []
    rw [lc_mapM e g as (fun x hx => by simp_arith [h x hx])]
    simp_arith [fits_le, hf]
theorem hv_asD (H : HasF fs f (hAsT f) 2 1 none) : ∀ (m : Nat) (d : D), TuD m d → ∀ x, Hd x d → ∀ n, m + 2 ≤ n → Gs fs n f [x] [] = .ok d [] := by
  intro m
  have base : ∀ (d x : D) (n : Nat), 2 ≤ n → (∀ ds, d ≠ .tuple ds) → (∀ ds, d ≠ .list ds) → (∀ k, d ≠ .dict k) → listD d = d → Hd x d → Gs fs n f [x] [] = .ok d [] := fun d x n hn h1 h2 h3 h4 hx => by
    have e : x = d := by
      rcases hx with rfl | rfl
      · rfl
      · exact h4
    subst e
    obtain ⟨k, rfl, hk⟩ := lv (m := 0) hn
    rw [H.run]
    refine (run_N (by rfl)).trans ?_
    show finN (exec _ (hAsT f) [.val x, .un]) = _
    unfold hAsT
    cases x with
    | tuple ds => exact absurd rfl (h1 ds)
    | list ds => exact absurd rfl (h2 ds)
    | dict ds => exact absurd rfl (h3 ds)
    | _ => simp_arith []
  induction m with
  | zero =>
    intro d hd x hx n hn
    cases hd <;> exact base _ x n (by omega) (fun _ e => by cases e) (fun _ e => by cases e) (fun _ e => by cases e) rfl hx
  | succ m ih =>
    intro d hd x hx n hn
    cases hd with
    | tup ds hl h =>
      obtain ⟨k, rfl, hk⟩ := lv (m := m + 1) (by omega : m + 1 + 2 ≤ n)
      rw [H.run]
      rcases hx with rfl | rfl
      · have := asT_rowM (Gs fs (k + 1)) f (.tuple ds) id id ds (by rw [List.map_id]; rfl) hl fun a ha => ih a (h a ha) a (.inl rfl) (k + 1) (by omega)
        rw [List.map_id] at this
        exact this
      · have := asT_rowM (Gs fs (k + 1)) f (listD (.tuple ds)) listD id ds (by rw [listD_t]; rfl) hl fun a ha => ih a (h a ha) _ (.inr rfl) (k + 1) (by omega)
        rw [List.map_id] at this
        exact this
    | _ => exact base _ x n (by omega) (fun _ e => by cases e) (fun _ e => by cases e) (fun _ e => by cases e) rfl hx
theorem hv_picks {f3 : Nat} (H : HasF fs f (hPick f2) 3 3 (some 1)) (H2 : HasF fs f2 (hTake f3) 3 3 (some 1)) (H3 : HasF fs f3 hDraw 4 3 none) (h : 4 ≤ n) {row : List Int} (hr : row ≠ []) (k : Nat) (xs : List D) (h0 : xs ≠ []) : ∃ x ∈ xs, Gs fs n f [LI row, .list xs] [.int (k : Int)] = .ok x [.int ((k + 1 : Nat) : Int)] := by
  obtain ⟨q, hq, e⟩ := hv_pick H H2 H3 h hr k xs h0
  exact ⟨xs[q], List.getElem_mem hq, e⟩
end
/-! all orders, as the laws and as the library go through them -/
def hPerms : S := (.seq (.asg (.nm 1) (.lst (.cons (.tup .nil) .nil)))
  (.seq (.forr (.nm 2) (.rng1 (.var 0)) (.seq (.asg (.nm 3) (.lst .nil))
  (.seq (.forr (.nm 4) (.var 1) (.seq (.asg (.nm 3) (.bin .add (.var 3) (.lc (.bin .add (.var 4) (.tup (.cons (.var 5) .nil))) (.nm 5) (.rng1 (.var 0)) (.cmp .notin (.var 5) (.var 4)) [5])))
  .skip))
  (.seq (.asg (.nm 1) (.var 3))
  .skip))))
  (.seq (.ret (.var 1))
  .skip)))
def prm (m : Nat) : List (List Nat) := (List.range m).foldl (fun made _ => made.flatMap fun one => ((List.range m).filter fun j => !one.contains j).map fun j => one ++ [j]) [[]]
abbrev nI (l : List Nat) : List Int := l.map fun (k : Nat) => (k : Int)
abbrev TN (l : List Nat) : D := TI (nI l)
theorem perms5 (F : Nat → Fn) : ∀ m : Nat, m ≤ 5 → runF F hPerms 6 1 none [.int (m : Int)] [] = .ok (.list ((prm m).map TN)) []
  | 0, _ => by kernel_rfl
  | 1, _ => by kernel_rfl
  | 2, _ => by kernel_rfl
  | 3, _ => by kernel_rfl
  | 4, _ => by kernel_rfl
  | 5, _ => by kernel_rfl
  | n + 6, h => absurd h (by omega)
theorem hv_perms {fs : List FDc} {f n : Nat} (H : HasF fs f hPerms 6 1 none) (h : 2 ≤ n) (m : Nat) (hm : m ≤ 5) : Gs fs n f [.int (m : Int)] [] = .ok (.list ((prm m).map TN)) [] := by
  obtain ⟨k, rfl, hk⟩ := lv (m := 0) h
  rw [H.run]
  exact perms5 _ m hm
theorem permIx_prm : ∀ m, m ≤ 6 → permIx m = some (prm m)
  | 0, _ => by decide +kernel
  | 1, _ => by decide +kernel
  | 2, _ => by decide +kernel
  | 3, _ => by decide +kernel
  | 4, _ => by decide +kernel
  | 5, _ => by decide +kernel
  | 6, _ => by decide +kernel
  | n + 7, h => absurd h (by omega)
def prmOk (m : Nat) (l : List Nat) : Bool := l.length == m && l.all (· < m) && decide l.Nodup
theorem prm_ok : ∀ m, m ≤ 6 → (prm m).all (prmOk m) = true
  | 0, _ => by decide +kernel
  | 1, _ => by decide +kernel
  | 2, _ => by decide +kernel
  | 3, _ => by decide +kernel
  | 4, _ => by decide +kernel
  | 5, _ => by decide +kernel
  | 6, _ => by decide +kernel
  | n + 7, h => absurd h (by omega)
theorem prm_mem {m : Nat} (hm : m ≤ 6) {l : List Nat} (h : l ∈ prm m) : l.length = m ∧ (∀ k ∈ l, k < m) ∧ l.Nodup := by
  have := List.all_eq_true.mp (prm_ok m hm) l h
  unfold prmOk at this
  simp only [Bool.and_eq_true, beq_iff_eq, List.all_eq_true, decide_eq_true_eq] at this
  exact ⟨this.1.1, this.1.2, this.2⟩
theorem prm_ne : ∀ m, m ≤ 6 → prm m ≠ []
  | 0, _ => by decide +kernel
  | 1, _ => by decide +kernel
  | 2, _ => by decide +kernel
  | 3, _ => by decide +kernel
  | 4, _ => by decide +kernel
  | 5, _ => by decide +kernel
  | 6, _ => by decide +kernel
  | n + 7, h => absurd h (by omega)
theorem map_getD (a n : Nat) (l : List Nat) (h : ∀ k ∈ l, k < n) : l.map (fun i => ((List.range n).map fun (k : Nat) => PyData.int ((a : Int) + (k : Int))).getD i .none) = (nI (l.map (a + ·))).map PyData.int := by
  unfold nI
  rw [List.map_map, List.map_map]
  apply List.map_congr_left
  intro k hk
  have := h k hk
  simp [List.getD_eq_getElem?_getD, this]
theorem permL_1 (m : Nat) (hm : m ≤ 6) : permL (rngD [.int (m : Int)]) = some ((prm m).map TN) := by
  rw [rng1_ok (by omega)]
  show (if ((List.range m).map fun (k : Nat) => PyData.int (k : Int)).length ≤ 1000 then (permIx ((List.range m).map fun (k : Nat) => PyData.int (k : Int)).length).map fun l => l.map (picks ((List.range m).map fun (k : Nat) => PyData.int (k : Int))) else none) = _
  rw [List.length_map, List.length_range, if_pos (by omega), permIx_prm m hm]
  show some _ = some _
  congr 1
  apply List.map_congr_left
  intro l hl
  have := map_getD 0 m l (prm_mem hm hl).2.1
  simp only [Int.natCast_zero, Int.zero_add, Nat.zero_add, List.map_id'] at this
  unfold picks
  exact congrArg PyData.tuple this
theorem permL_2 (a m : Nat) (ha : a ≤ 1000) (hm : m - a ≤ 6) (hm2 : m ≤ 1000) : permL (rngD [.int (a : Int), .int (m : Int)]) = some ((prm (m - a)).map fun l => TN (l.map (a + ·))) := by
  rw [rng2_ok (by omega) (by omega)]
  show (if ((List.range (m - a)).map fun (k : Nat) => PyData.int ((a + k : Nat) : Int)).length ≤ 1000 then (permIx ((List.range (m - a)).map fun (k : Nat) => PyData.int ((a + k : Nat) : Int)).length).map fun l => l.map (picks ((List.range (m - a)).map fun (k : Nat) => PyData.int ((a + k : Nat) : Int))) else none) = _
  rw [List.length_map, List.length_range, if_pos (by omega), permIx_prm _ hm]
  show some _ = some _
  congr 1
  apply List.map_congr_left
  intro l hl
  have := map_getD a (m - a) l (prm_mem hm hl).2.1
  unfold picks
  simp only [Int.natCast_add]
  exact congrArg PyData.tuple this
/-! the place of a number -/
theorem findIdx_idxOf : ∀ (ns : List Int) (i : Int), i ∈ ns → (ns.map PyData.int).findIdx? (fun x => PyData.eqv x (.int i)) = some (ns.idxOf i)
  | [], i, h => by cases h
  | n :: ns, i, h => by
    rw [List.map_cons, List.findIdx?_cons, eqv_ii]
    by_cases e : n = i
    · subst e
      simp
    · have hm : i ∈ ns := by
        rcases List.mem_cons.mp h with h | h
        · exact absurd h.symm e
        · exact h
      rw [if_neg (by simpa using e), findIdx_idxOf ns i hm, List.idxOf_cons]
      have : (n == i) = false := by simpa using e
      rw [this]
      rfl
theorem idx_li {ns : List Int} {i : Int} (h : i ∈ ns) : methD 0 (.list (ns.map PyData.int)) [.int i] = some (.int (ns.idxOf i : Nat)) := by
  show (if (SeqAt.shaped (.int i) && SeqAt.shaped (LI ns)) = true then ((ns.map PyData.int).findIdx? fun x => PyData.eqv x (.int i)).map fun (j : Nat) => PyData.int (j : Int) else none) = _
  rw [shaped_li, shaped_int, findIdx_idxOf ns i h]
  rfl
theorem idx_ti {ns : List Int} {i : Int} (h : i ∈ ns) : methD 0 (.tuple (ns.map PyData.int)) [.int i] = some (.int (ns.idxOf i : Nat)) := by
  show (if (SeqAt.shaped (.int i) && SeqAt.shaped (TI ns)) = true then ((ns.map PyData.int).findIdx? fun x => PyData.eqv x (.int i)).map fun (j : Nat) => PyData.int (j : Int) else none) = _
  rw [shaped_ti, shaped_int, findIdx_idxOf ns i h]
  rfl
theorem idx_of {x : D} {ns : List Int} (hx : items x = some (ns.map PyData.int)) {i : Int} (h : i ∈ ns) : methK 0 x x [.int i] = some (.int (ns.idxOf i : Nat)) := by
  cases x <;> first | (simp only [items, reduceCtorEq] at hx; done) | skip
  · cases hx
    exact idx_li h
  · cases hx
    exact idx_ti h
theorem isLst_of {x : D} {ds : List D} (hx : items x = some ds) : isLst x = true := by
  cases x <;> first | (simp only [items, reduceCtorEq] at hx; done) | rfl
theorem nI_mem {m : Nat} {l : List Nat} (h : ∀ k ∈ l, k < m) : ∀ i ∈ nI l, 0 ≤ i ∧ i < (m : Int) := fun i hi => by
  obtain ⟨k, hk, rfl⟩ := List.mem_map.mp hi
  have := h k hk
  omega
theorem nI_nodup {l : List Nat} (h : l.Nodup) : (nI l).Nodup := by
  unfold nI List.Nodup
  rw [List.pairwise_map]
  exact h.imp fun {a b} hab e => hab (by omega)
/-- a list of m different numbers below m holds them all -/
theorem nodup_full {m : Nat} {l : List Nat} (hl : l.length = m) (h1 : ∀ k ∈ l, k < m) (h2 : l.Nodup) : ∀ k, k < m → k ∈ l := by
  intro k hk
  by_cases h : k ∈ l
  · exact h
  · exfalso
    have hs : l ⊆ (List.range m).erase k := fun x hx => by
      have hne : x ≠ k := fun e => h (e ▸ hx)
      exact (List.mem_erase_of_ne hne).mpr (List.mem_range.mpr (h1 x hx))
    have := h2.length_le_of_subset hs
    rw [List.length_erase_of_mem (List.mem_range.mpr hk), List.length_range] at this
    omega
/-! different, whole numbers with no upper bound, built-ins -/
def hAllD : S := (.seq (.ret (.cmp .eq (.nset (.var 0)) (.bi .len (.var 0))))
  .skip)
theorem abs_i {i : Int} : biD .abs (.int i) = some (.int (if i < 0 then -i else i)) := nr rfl
theorem alld_of (F : Nat → Fn) {x : D} {ns : List Int} (hx : items x = some (ns.map PyData.int)) (hl : ns.length ≤ 4000) (hn : ns.Nodup) : runF F hAllD 1 1 none [x] [] = .ok (.bool true) [] := by
  refine (run_N (by rfl)).trans ?_
  show finN (exec F hAllD [.val x]) = _
  unfold hAllD
  simp_arith [nset_nodup hx hl hn, len_of hx]
theorem allR_intsN {x : D} {ns : List Int} {a : Int} {r : Rho} (hx : items x = some (ns.map .int)) : allR (some x) (some (.int a)) (some .none) r = .ok (ns.all fun i => decide (a ≤ i)) r := by
  unfold allR
  dsimp only
  rw [hx]
  dsimp only [inB]
  congr 1
  rw [List.all_map]
  congr 1
  funext i
  show ((some (decide (a ≤ i))) == some true) = _
  cases (decide (a ≤ i)) <;> rfl
theorem ints_hN (F : Nat → Fn) (f : Nat) (x : D) (ns : List Int) (a b : D) (lo : Int) (k : Bool) (hx : items x = some (ns.map .int)) (h : F f [x, a, b] [] = .ok (.bool k) []) : runF F (hInts f) 6 5 none [x, a, b, .int lo, .none] [] = .ok (.bool (k && ns.all fun i => decide (lo ≤ i))) [] := by
  refine (run_N (by rfl)).trans ?_
  show finN (exec F _ [.val x, .val a, .val b, .val (.int lo), .val .none, .un]) = _
  unfold hInts
  simp_arith [h, vAll_R, allR_intsN hx]
  cases k <;> simp_arith []
theorem allR_intsF {x : D} {ns : List Int} {r : Rho} (hx : items x = some (ns.map .int)) : allR (some x) (some .none) (some .none) r = .ok true r := by
  unfold allR
  dsimp only
  rw [hx]
  dsimp only [inB]
  congr 1
  rw [List.all_map, List.all_eq_true]
  intro i _
  rfl
theorem ints_FN (F : Nat → Fn) (f : Nat) (x : D) (ns : List Int) (a b : D) (k : Bool) (hx : items x = some (ns.map .int)) (h : F f [x, a, b] [] = .ok (.bool k) []) : runF F (hInts f) 6 5 none [x, a, b, .none, .none] [] = .ok (.bool k) [] := by
  refine (run_N (by rfl)).trans ?_
  show finN (exec F _ [.val x, .val a, .val b, .val .none, .val .none, .un]) = _
  unfold hInts
  simp_arith [h, vAll_R, allR_intsF hx]
  cases k <;> simp_arith []
section
variable {fs : List FDc} {f f2 n : Nat}
theorem hv_alld (H : HasF fs f hAllD 1 1 none) (h : 2 ≤ n) {x : D} {ns : List Int} (hx : items x = some (ns.map PyData.int)) (hl : ns.length ≤ 4000) (hn : ns.Nodup) : Gs fs n f [x] [] = .ok (.bool true) [] := by
  obtain ⟨k, rfl, hk⟩ := lv (m := 0) h
  rw [H.run]
  exact alld_of _ hx hl hn
theorem hv_intsU (H : HasF fs f (hInts f2) 6 5 none) (H2 : HasF fs f2 hSeq 3 3 none) (h : 3 ≤ n) {x : D} {ns : List Int} (hx : items x = some (ns.map .int)) {a b lo : Int} (h1 : a ≤ ns.length) (h2 : (ns.length : Int) ≤ b) (h3 : ∀ i ∈ ns, lo ≤ i) : Gs fs n f [x, .int a, .int b, .int lo, .none] [] = .ok (.bool true) [] := by
  obtain ⟨k, rfl, hk⟩ := lv (m := 1) h
  rw [H.run, ints_hN _ f2 x ns (.int a) (.int b) lo true hx (hv_seqT H2 (by omega) hx (by simpa using h1) (by simpa using h2)), List.all_eq_true.mpr fun i hi => decide_eq_true (h3 i hi)]
  rfl
theorem hv_intsF (H : HasF fs f (hInts f2) 6 5 none) (H2 : HasF fs f2 hSeq 3 3 none) (h : 3 ≤ n) {x : D} {ns : List Int} (hx : items x = some (ns.map .int)) {a : Int} (h1 : a ≤ ns.length) : Gs fs n f [x, .int a, .none, .none, .none] [] = .ok (.bool true) [] := by
  obtain ⟨k, rfl, hk⟩ := lv (m := 1) h
  rw [H.run, ints_FN _ f2 x ns (.int a) .none true hx (hv_seqN H2 (by omega) hx (by simpa using h1))]
end
/-! a number and a row, compared -/
def kD (t : Int) (o : List Int) : D := .tuple [.int t, TI o]
theorem alike_rows : ∀ (xs ys : List Int), PySem.W.alikeAll (xs.map PyData.int) (ys.map PyData.int) = true
  | [], ys => by simp [PySem.W.alikeAll]
  | x :: xs, [] => by simp [PySem.W.alikeAll]
  | x :: xs, y :: ys => by
    rw [List.map_cons, List.map_cons, PySem.W.alikeAll, alike_rows xs ys]
    simp [PySem.W.alike]
theorem shaped_kD (t : Int) (o : List Int) : SeqAt.shaped (kD t o) = true := by
  unfold SeqAt.shaped kD
  have e : PyData.canLay0 (.tuple [.int t, TI o]) = true := by
    show (PyData.canLay0 (.int t) && (PyData.canLayAll0 (o.map PyData.int) && true)) = true
    rw [canLay_ints]
    rfl
  rw [e, Bool.true_and]
  refine decide_eq_true ?_
  show max 0 (max (PyData.depthAll (o.map PyData.int) + 1) 0) + 1 ≤ 64
  have := depth_ints o
  omega
theorem lt_kD (t : Int) (o : List Int) (t' : Int) (o' : List Int) : cmpD .lt (kD t o) (kD t' o') = some (PySem.W.dataLt (kD t o) (kD t' o')) := by
  show (if ordOk (kD t o) (kD t' o') = true then some (PySem.W.dataLt (kD t o) (kD t' o')) else none) = _
  have ho : ordOk (kD t o) (kD t' o') = true := by
    unfold ordOk
    rw [shaped_kD, shaped_kD, Bool.and_true, Bool.and_true]
    show (true && (PySem.W.alikeAll (o.map PyData.int) (o'.map PyData.int) && true)) = true
    rw [alike_rows]
    rfl
  rw [if_pos ho]
/-- the first of the least, one after the other -/
def bstK (b : Option (Int × List Int)) (k : Int × List Int) : Option (Int × List Int) := match b with
  | none => some k
  | some c => if PySem.W.dataLt (kD k.1 k.2) (kD c.1 c.2) = true then some k else some c
def bK : Option (Int × List Int) → D
  | none => .none
  | some k => kD k.1 k.2
theorem bstK_mem {ks : List (Int × List Int)} : ∀ {b : Option (Int × List Int)} {r : Int × List Int}, ks.foldl bstK b = some r → r ∈ ks ∨ b = some r := by
  induction ks with
  | nil => intro b r h; exact .inr h
  | cons k ks ih =>
    intro b r h
    rw [List.foldl_cons] at h
    rcases ih h with h | h
    · exact .inl (List.mem_cons_of_mem _ h)
    · unfold bstK at h
      cases b with
      | none => cases h; exact .inl List.mem_cons_self
      | some c =>
        dsimp only at h
        split at h
        · cases h; exact .inl List.mem_cons_self
        · exact .inr h
theorem bstK_some {ks : List (Int × List Int)} : ∀ {b : Option (Int × List Int)}, (ks ≠ [] ∨ b ≠ none) → ∃ r, ks.foldl bstK b = some r := by
  induction ks with
  | nil =>
    intro b h
    rcases h with h | h
    · exact absurd rfl h
    · exact Option.ne_none_iff_exists'.mp h
  | cons k ks ih =>
    intro b _
    rw [List.foldl_cons]
    refine ih (.inr ?_)
    unfold bstK
    cases b with
    | none => simp
    | some c => dsimp only; split <;> simp
theorem foldl_filter {α β : Type} (f : β → α → β) (p : α → Bool) : ∀ (xs : List α) (b : β), xs.foldl (fun b x => if p x = true then f b x else b) b = (xs.filter p).foldl f b
  | [], b => rfl
  | x :: xs, b => by
    rw [List.foldl_cons, foldl_filter f p xs]
    by_cases h : p x = true
    · rw [if_pos h, List.filter_cons_of_pos h, List.foldl_cons]
    · rw [if_neg h, List.filter_cons_of_neg h]
theorem ti_at0 {i : Int} {ns : List Int} : ixD (TI (i :: ns)) (.int 0) = some (.int i) := by
  show atI (PyData.int i :: ns.map PyData.int) ((0 : Nat) : Int) = _
  rw [atI_get (by simp)]
  rfl
theorem kD_at0 {t : Int} {o : List Int} : ixD (kD t o) (.int 0) = some (.int t) := nr rfl
theorem kD_at1 {t : Int} {o : List Int} : ixD (kD t o) (.int 1) = some (TI o) := nr rfl
theorem soD_kD (t : Int) (o : List Int) (h : o.length ≤ 1000000) : SoD 2 (kD t o) := .tup _ (by simp) fun x hx => by
  simp only [List.mem_cons, List.not_mem_nil, or_false] at hx
  rcases hx with rfl | rfl
  · exact .int _
  · exact soD_ints o h
end Rf.X
set_option Elab.async false
set_option linter.all false
set_option maxRecDepth 100000
namespace Rf.X
open PySem L2
def m_is_order : S := (.seq (.ret (.and (.call 7 (.cons (.var 0) (.cons (.var 1) (.cons (.var 1) (.cons (.cst (.int 0)) (.cons (.bin .sub (.var 1) (.cst (.int 1))) .nil)))))) (.call 6 (.cons (.var 0) .nil))))
  .skip)
theorem m_is_order_eq : Lw.b_is_order = m_is_order := rfl
theorem h_is_order : HasF Lw.fs 8 m_is_order 2 2 none := ⟨Lw.d_is_order, rfl, rfl, rfl, rfl, rfl⟩
def m_is_arrangement : S := (.seq (.ret (.and (.call 5 (.cons (.var 0) (.cons (.cst (.int 1)) (.cons (.cst (.int 6)) .nil)))) (.call 8 (.cons (.var 0) (.cons (.bi .len (.var 0)) .nil)))))
  .skip)
theorem m_is_arrangement_eq : Lw.b_is_arrangement = m_is_arrangement := rfl
theorem h_is_arrangement : HasF Lw.fs 9 m_is_arrangement 1 1 none := ⟨Lw.d_is_arrangement, rfl, rfl, rfl, rfl, rfl⟩
def m_are_shows : S := (.seq (.ret (.call 7 (.cons (.var 0) (.cons (.cst (.int 1)) (.cons (.cst (.int 12)) (.cons (.cst (.int 0)) (.cons (.cst .none) .nil)))))))
  .skip)
theorem m_are_shows_eq : Lw.b_are_shows = m_are_shows := rfl
theorem h_are_shows : HasF Lw.fs 10 m_are_shows 1 1 none := ⟨Lw.d_are_shows, rfl, rfl, rfl, rfl, rfl⟩
def m_steps_between : S := (.seq (.asg (.nm 3) (.bi .abs (.bin .sub (.var 2) (.var 1))))
  (.seq (.ret (.bi2 .min (.var 3) (.bin .sub (.var 0) (.var 3))))
  .skip))
theorem m_steps_between_eq : Lw.b_steps_between = m_steps_between := rfl
theorem h_steps_between : HasF Lw.fs 11 m_steps_between 4 3 none := ⟨Lw.d_steps_between, rfl, rfl, rfl, rfl, rfl⟩
def c_steps_of_0 : E := (.lc (.meth 0 (.var 0) (.cons (.var 4) .nil)) (.nm 4) (.var 1) .nil [4])
def c_steps_of_1 : E := (.lc (.call 11 (.cons (.var 2) (.cons (.ix (.var 3) (.var 5)) (.cons (.ix (.var 3) (.bin .add (.var 5) (.cst (.int 1)))) .nil)))) (.nm 5) (.rng1 (.bin .sub (.bi .len (.var 3)) (.cst (.int 1)))) .nil [5])
def m_steps_of : S := (.seq (.asg (.nm 2) (.bi .len (.var 0)))
  (.seq (.asg (.nm 3) c_steps_of_0)
  (.seq (.ret (.bi .sum c_steps_of_1))
  .skip)))
theorem m_steps_of_eq : Lw.b_steps_of = m_steps_of := rfl
theorem h_steps_of : HasF Lw.fs 12 m_steps_of 6 2 none := ⟨Lw.d_steps_of, rfl, rfl, rfl, rfl, rfl⟩
def m_turning : S := (.seq (.ex (.call 3 (.cons (.call 9 (.cons (.var 0) .nil)) (.cons (.cst (.int 0)) .nil))))
  (.seq (.ex (.call 3 (.cons (.call 10 (.cons (.var 1) .nil)) (.cons (.cst (.int 1)) .nil))))
  (.seq (.ex (.call 3 (.cons (.cmp .lt (.bi .max (.var 1)) (.bi .len (.var 0))) (.cons (.cst (.int 1)) .nil))))
  (.seq (.ret (.call 12 (.cons (.call 0 (.cons (.var 0) .nil)) (.cons (.call 0 (.cons (.var 1) .nil)) .nil))))
  .skip))))
theorem m_turning_eq : Lw.b_turning = m_turning := rfl
theorem h_turning : HasF Lw.fs 13 m_turning 2 2 none := ⟨Lw.d_turning, rfl, rfl, rfl, rfl, rfl⟩
def i_best_ring_0 : S := (.iff (.or (.cmp .is (.var 2) (.cst .none)) (.cmp .lt (.var 5) (.var 2)))
  (.seq (.asg (.nm 2) (.var 5))
  .skip)
  .skip)
def f_best_ring_0 : S := (.seq (.asg (.nm 4) (.bin .add (.tup (.cons (.cst (.int 0)) .nil)) (.var 3)))
  (.seq (.asg (.nm 5) (.tup (.cons (.call 12 (.cons (.var 4) (.cons (.var 1) .nil))) (.cons (.var 4) .nil))))
  (.seq i_best_ring_0
  .skip)))
def m_best_ring : S := (.seq (.ex (.call 3 (.cons (.call 4 (.cons (.var 0) (.cons (.cst (.int 1)) (.cons (.cst (.int 6)) .nil)))) (.cons (.cst (.int 0)) .nil))))
  (.seq (.ex (.call 3 (.cons (.call 10 (.cons (.var 1) .nil)) (.cons (.cst (.int 1)) .nil))))
  (.seq (.ex (.call 3 (.cons (.cmp .lt (.bi .max (.var 1)) (.var 0)) (.cons (.cst (.int 1)) .nil))))
  (.seq (.asg (.nm 2) (.cst .none))
  (.seq (.forr (.nm 3) (.perm2 (.cst (.int 1)) (.var 0)) f_best_ring_0)
  (.seq (.ret (.var 2))
  .skip))))))
theorem m_best_ring_eq : Lw.b_best_ring = m_best_ring := rfl
theorem h_best_ring : HasF Lw.fs 14 m_best_ring 6 2 none := ⟨Lw.d_best_ring, rfl, rfl, rfl, rfl, rfl⟩
def c__law_perms_0 : E := (.lc (.bin .add (.var 4) (.tup (.cons (.var 5) .nil))) (.nm 5) (.rng1 (.var 0)) (.cmp .notin (.var 5) (.var 4)) [5])
def f__law_perms_0 : S := (.seq (.asg (.nm 3) (.bin .add (.var 3) c__law_perms_0))
  .skip)
def f__law_perms_1 : S := (.seq (.asg (.nm 3) (.lst .nil))
  (.seq (.forr (.nm 4) (.var 1) f__law_perms_0)
  (.seq (.asg (.nm 1) (.var 3))
  .skip)))
def m__law_perms : S := (.seq (.asg (.nm 1) (.lst (.cons (.tup .nil) .nil)))
  (.seq (.forr (.nm 2) (.rng1 (.var 0)) f__law_perms_1)
  (.seq (.ret (.var 1))
  .skip)))
theorem m__law_perms_eq : Lw.b__law_perms = m__law_perms := rfl
theorem h__law_perms : HasF Lw.fs 22 m__law_perms 6 1 none := ⟨Lw.d__law_perms, rfl, rfl, rfl, rfl, rfl⟩
def f__law_turning_0 : S := (.seq (.asg (.nm 5) (.bin .sub (.meth 0 (.var 0) (.cons (.ix (.var 1) (.var 4)) .nil)) (.meth 0 (.var 0) (.cons (.ix (.var 1) (.bin .sub (.var 4) (.cst (.int 1)))) .nil))))
  (.seq (.asg (.nm 5) (.bi2 .max (.var 5) (.neg (.var 5))))
  (.seq (.asg (.nm 3) (.bin .add (.var 3) (.bi2 .min (.var 5) (.bin .sub (.var 2) (.var 5)))))
  .skip)))
def m__law_turning : S := (.seq (.asg (.nm 2) (.bi .len (.var 0)))
  (.seq (.asg (.nm 3) (.cst (.int 0)))
  (.seq (.forr (.nm 4) (.rng2 (.cst (.int 1)) (.bi .len (.var 1))) f__law_turning_0)
  (.seq (.ret (.var 3))
  .skip))))
theorem m__law_turning_eq : Lw.b__law_turning = m__law_turning := rfl
theorem h__law_turning : HasF Lw.fs 23 m__law_turning 6 2 none := ⟨Lw.d__law_turning, rfl, rfl, rfl, rfl, rfl⟩
def c_law_0 : E := (.lc (.callio 18 (.cons (.var 1) .nil) 2 (.cons (.var 3) .nil)) (.nm 9) (.rng1 (.bin .add (.cst (.int 1)) (.callio 18 (.cons (.var 1) .nil) 2 (.cons (.cst (.int 12)) .nil)))) .nil [9])
def i_law_0 : S := (.iff (.and (.cmp .eq (.ix (.var 6) (.cst (.int 0))) (.cst (.int 0))) (.or (.cmp .is (.var 5) (.cst .none)) (.cmp .lt (.tup (.cons (.var 8) (.cons (.var 6) .nil))) (.var 5))))
  (.seq (.asg (.nm 5) (.tup (.cons (.var 8) (.cons (.var 6) .nil))))
  .skip)
  .skip)
def i_law_1 : S := (.iff (.and (.cmp .eq (.callio 18 (.cons (.var 1) .nil) 2 (.cons (.cst (.int 20)) .nil)) (.cst (.int 0))) (.not (.call 15 (.cons (.call 13 (.cons (.callio 20 (.cons (.var 1) .nil) 2 (.cons (.var 6) .nil)) (.cons (.callio 20 (.cons (.var 1) .nil) 2 (.cons (.var 4) .nil)) .nil))) (.cons (.var 8) .nil)))))
  (.seq (.ret (.cst (.bool false)))
  .skip)
  .skip)
def f_law_0 : S := (.seq (.asg (.nm 8) (.call 23 (.cons (.var 6) (.cons (.var 4) .nil))))
  (.seq i_law_0
  (.seq i_law_1
  .skip)))
def i_law_2 : S := (.iff (.or (.not (.call 15 (.cons (.call 14 (.cons (.var 3) (.cons (.callio 20 (.cons (.var 1) .nil) 2 (.cons (.var 4) .nil)) .nil))) (.cons (.var 5) .nil)))) (.not (.call 15 (.cons (.call 13 (.cons (.ix (.var 5) (.cst (.int 1))) (.cons (.var 4) .nil))) (.cons (.ix (.var 5) (.cst (.int 0))) .nil)))))
  (.seq (.ret (.cst (.bool false)))
  .skip)
  .skip)
def i_law_3 : S := (.iff (.cmp .ne (.told 0 (.call 13 (.cons (.var 7) (.cons (.tup (.cons (.cst (.int 0)) .nil)) .nil)))) (.tup (.cons (.cst (.str "BadValue")) (.cons (.cst (.int 0)) .nil))))
  (.seq (.ret (.cst (.bool false)))
  .skip)
  .skip)
def f_law_1 : S := (.seq i_law_3
  .skip)
def i_law_4 : S := (.iff (.or (.cmp .ne (.told 0 (.call 13 (.cons (.tup (.cons (.cst (.int 0)) .nil)) (.cons (.var 7) .nil)))) (.tup (.cons (.cst (.str "BadValue")) (.cons (.cst (.int 1)) .nil)))) (.cmp .ne (.told 0 (.call 14 (.cons (.cst (.int 1)) (.cons (.var 7) .nil)))) (.tup (.cons (.cst (.str "BadValue")) (.cons (.cst (.int 1)) .nil)))))
  (.seq (.ret (.cst (.bool false)))
  .skip)
  .skip)
def f_law_2 : S := (.seq i_law_4
  .skip)
def i_law_5 : S := (.iff (.cmp .ne (.told 0 (.call 14 (.cons (.var 7) (.cons (.tup (.cons (.cst (.int 0)) .nil)) .nil)))) (.tup (.cons (.cst (.str "BadValue")) (.cons (.cst (.int 0)) .nil))))
  (.seq (.ret (.cst (.bool false)))
  .skip)
  .skip)
def f_law_3 : S := (.seq i_law_5
  .skip)
def s_law_0 : S := (.asg (.nm 1) (.call 16 (.cons (.var 0) .nil)))
def s_law_1 : S := (.asgO 2 (.lst (.cons (.cst (.int 0)) .nil)))
def s_law_2 : S := (.asg (.nm 3) (.bin .add (.cst (.int 1)) (.callio 18 (.cons (.var 1) .nil) 2 (.cons (.cst (.int 5)) .nil))))
def s_law_3 : S := (.asg (.nm 4) (.bi .tuple c_law_0))
def s_law_4 : S := (.asg (.nm 5) (.cst .none))
def s_law_5 : S := (.forr (.nm 6) (.call 22 (.cons (.var 3) .nil)) f_law_0)
def s_law_6 : S := i_law_2
def s_law_7 : S := (.forr (.nm 7) (.lst (.cons (.tup .nil) (.cons (.tup (.cons (.cst (.int 1)) .nil)) (.cons (.tup (.cons (.cst (.int 0)) (.cons (.cst (.int 0)) .nil))) (.cons (.tup (.cons (.cst (.int 0)) (.cons (.cst (.int 2)) .nil))) (.cons (.tup (.cons (.cst (.bool true)) .nil)) (.cons (.cst .none) (.cons (.cst (.int 0)) (.cons (.tup (.cons (.cst (.int 0)) (.cons (.cst (.int 1)) (.cons (.cst (.int 2)) (.cons (.cst (.int 3)) (.cons (.cst (.int 4)) (.cons (.cst (.int 5)) (.cons (.cst (.int 6)) .nil)))))))) .nil))))))))) f_law_1)
def s_law_8 : S := (.forr (.nm 7) (.lst (.cons (.tup .nil) (.cons (.tup (.cons (.cst (.int 1)) .nil)) (.cons (.tup (.cons (.neg (.cst (.int 1))) .nil)) (.cons (.tup (.cons (.cst (.bool true)) .nil)) (.cons (.cst .none) (.cons (.cst (.int 0)) (.cons (.bin .mul (.tup (.cons (.cst (.int 0)) .nil)) (.cst (.int 13))) .nil)))))))) f_law_2)
def s_law_9 : S := (.forr (.nm 7) (.bin .add (.call0 21) (.lst (.cons (.cst (.int 0)) (.cons (.cst (.int 7)) .nil)))) f_law_3)
def s_law_10 : S := (.ret (.and (.call 15 (.cons (.call 14 (.cons (.cst (.int 6)) (.cons (.bin .mul (.tup (.cons (.cst (.int 0)) (.cons (.cst (.int 5)) .nil))) (.cst (.int 6))) .nil))) (.cons (.tup (.cons (.cst (.int 11)) (.cons (.tup (.cons (.cst (.int 0)) (.cons (.cst (.int 1)) (.cons (.cst (.int 2)) (.cons (.cst (.int 3)) (.cons (.cst (.int 4)) (.cons (.cst (.int 5)) .nil))))))) .nil))) .nil))) (.and (.call 15 (.cons (.call 13 (.cons (.tup (.cons (.cst (.int 0)) (.cons (.cst (.int 1)) (.cons (.cst (.int 2)) (.cons (.cst (.int 3)) (.cons (.cst (.int 4)) (.cons (.cst (.int 5)) .nil))))))) (.cons (.tup (.cons (.cst (.int 0)) (.cons (.cst (.int 3)) .nil))) .nil))) (.cons (.cst (.int 3)) .nil))) (.call 15 (.cons (.call 14 (.cons (.cst (.int 1)) (.cons (.bin .mul (.tup (.cons (.cst (.int 0)) .nil)) (.cst (.int 12))) .nil))) (.cons (.tup (.cons (.cst (.int 0)) (.cons (.tup (.cons (.cst (.int 0)) .nil)) .nil))) .nil))))))
def t_law_11 : S := .skip
def t_law_10 : S := .seq s_law_10 t_law_11
def t_law_9 : S := .seq s_law_9 t_law_10
def t_law_8 : S := .seq s_law_8 t_law_9
def t_law_7 : S := .seq s_law_7 t_law_8
def t_law_6 : S := .seq s_law_6 t_law_7
def t_law_5 : S := .seq s_law_5 t_law_6
def t_law_4 : S := .seq s_law_4 t_law_5
def t_law_3 : S := .seq s_law_3 t_law_4
def t_law_2 : S := .seq s_law_2 t_law_3
def t_law_1 : S := .seq s_law_1 t_law_2
def t_law_0 : S := .seq s_law_0 t_law_1
theorem law_eq : Lw.b_law = t_law_0 := rfl
def nLaw : Nat := 10
theorem h__law_handed : HasF Lw.fs 20 (hHanded 18 19) 3 3 (some 1) := ⟨Lw.d__law_handed, rfl, rfl, rfl, rfl, rfl⟩
theorem h_perms : HasF Lw.fs 22 hPerms 6 1 none := ⟨Lw.d__law_perms, rfl, rfl, rfl, rfl, rfl⟩
theorem h_as_tuples : HasF Lw.fs 0 (hAsT 0) 2 1 none := ⟨Lw.d_as_tuples, rfl, rfl, rfl, rfl, rfl⟩
theorem h_require : HasF Lw.fs 3 hReq 2 2 none := ⟨Lw.d_require, rfl, rfl, rfl, rfl, rfl⟩
theorem h_is_integer : HasF Lw.fs 4 hInt 3 3 none := ⟨Lw.d_is_integer, rfl, rfl, rfl, rfl, rfl⟩
theorem h_is_sequence : HasF Lw.fs 5 hSeq 3 3 none := ⟨Lw.d_is_sequence, rfl, rfl, rfl, rfl, rfl⟩
theorem h_all_different : HasF Lw.fs 6 hAllD 1 1 none := ⟨Lw.d_all_different, rfl, rfl, rfl, rfl, rfl⟩
theorem h_are_integers : HasF Lw.fs 7 (hInts 5) 6 5 none := ⟨Lw.d_are_integers, rfl, rfl, rfl, rfl, rfl⟩
theorem h__law_so : HasF Lw.fs 15 (hSo 15) 3 2 none := ⟨Lw.d__law_so, rfl, rfl, rfl, rfl, rfl⟩
theorem h__law_numbers : HasF Lw.fs 16 hNum 6 1 none := ⟨Lw.d__law_numbers, rfl, rfl, rfl, rfl, rfl⟩
theorem h__law_draw : HasF Lw.fs 17 hDraw 4 3 none := ⟨Lw.d__law_draw, rfl, rfl, rfl, rfl, rfl⟩
theorem h__law_take : HasF Lw.fs 18 (hTake 17) 3 3 (some 1) := ⟨Lw.d__law_take, rfl, rfl, rfl, rfl, rfl⟩
theorem h__law_listed : HasF Lw.fs 19 (hListed 19) 2 1 none := ⟨Lw.d__law_listed, rfl, rfl, rfl, rfl, rfl⟩
theorem h__law_bad_integers : HasF Lw.fs 21 hBadI 0 0 none := ⟨Lw.d__law_bad_integers, rfl, rfl, rfl, rfl, rfl⟩
end Rf.X
set_option Elab.async false
set_option linter.all false
set_option maxRecDepth 100000
set_option maxHeartbeats 4000000
namespace Rf.X
open PySem L2
local macro_rules
  | `(tactic| simp_arith [$ts,*]) => `(tactic| simp only [bind_okR, bind_excR, calm_okR, out_okR, out_excR, then_nxR, then_rtR, then_bkR, then_ctR, then_excR, opt_sm, obind_sm, giveS_val, giveS_own, peekS_val, peekS_own, peekS_io, at0, atS, set0, setS, getD0, getDS, var_v, var_o, var_ag, var_t, var_c, ptOf_int, var_p, var_i, nil_c, nil_p, nil_a, cons_a, ioE_S, ioS_own, ioS_io, ioO_ok, ioI_ok, isiR_none, isiR_bool, isiR_int, isiR_str, isiR_list, isiR_tuple, toldR_ok, toldR_exc0, negR_int, notR_bool, kAnd_bool, kOr_bool, callR_ok, callR_exc, call0R_ok, isL_S, isLS_own, isLS_io, cst_v, cst_o, cst_ag, cst_t, cst_c, cst_p, cst_i, tup_v, tup_o, tup_ag, tup_t, tup_c, tup_p, tup_i, lst_v, lst_o, lst_ag, lst_t, lst_c, lst_p, lst_i, bin_v, bin_o, bin_ag, bin_t, bin_c, bin_p, bin_i, neg_v, neg_o, neg_ag, neg_t, neg_c, neg_p, neg_i, not_v, not_o, not_ag, not_t, not_c, not_p, not_i, cmp_v, cmp_o, cmp_ag, cmp_t, cmp_c, cmp_p, cmp_i, and_v, and_o, and_ag, and_t, and_c, and_p, and_i, or_v, or_o, or_ag, or_t, or_c, or_p, or_i, ite_v, ite_o, ite_ag, ite_t, ite_c, ite_p, ite_i, ix_v, ix_o, ix_ag, ix_t, ix_c, ix_p, ix_i, sl_v, sl_o, sl_ag, sl_t, sl_c, sl_p, sl_i, call_v, call_o, call_ag, call_t, call_c, call_p, call_i, call0_v, call0_o, call0_ag, call0_t, call0_c, call0_p, call0_i, callio_v, callio_o, callio_ag, callio_t, callio_c, callio_p, callio_i, isi_v, isi_o, isi_ag, isi_t, isi_c, isi_p, isi_i, bi_v, bi_o, bi_ag, bi_t, bi_c, bi_p, bi_i, bi2_v, bi2_o, bi2_ag, bi2_t, bi2_c, bi2_p, bi2_i, lc_v, lc_o, lc_ag, lc_t, lc_c, lc_p, lc_i, lc2_v, lc2_o, lc2_ag, lc2_t, lc2_c, lc2_p, lc2_i, allint_v, allint_o, allint_ag, allint_t, allint_c, allint_p, allint_i, told_v, told_o, told_ag, told_t, told_c, told_p, told_i, dflt_v, dflt_o, dflt_ag, dflt_t, dflt_c, dflt_p, dflt_i, nset_v, nset_o, nset_ag, nset_t, nset_c, nset_p, nset_i, lc3_v, lc3_o, lc3_ag, lc3_t, lc3_c, lc3_p, lc3_i, chain_v, chain_o, chain_ag, chain_t, chain_c, chain_p, chain_i, lrng1_v, lrng1_o, lrng1_ag, lrng1_t, lrng1_c, lrng1_p, lrng1_i, g2_v, g2_o, g2_ag, g2_t, g2_c, g2_p, g2_i, meth_v, meth_o, meth_ag, meth_t, meth_c, meth_p, meth_i, rng1_i, rng2_i, enum_i, asgR_nm, asgOR_list, skip_x, seq_x, asg_x, asgO_x, ex_x, app_x, appR_S, appS_own, appS_io, setI_x, setR_int, setRS_own, setRS_io, setN_some, ret_x, retN_x, if_x, for_x, brk_x, cont_x, rais_x, raiR_ok, aug_x, augS_int, augR_add, augR_sub, wipe0, wipeS, back0, backS, for0, forN_nx, forN_ct, forN_bk, forN_rt, forB_nm, lcBody_nm, forB_tp, lcBody_tp, asg_tp2, zip_i, enumI_l, zipI_l, zipI_t, zipI_lt, zipI_tl, tl_some, tl_none, finN_nx, finN_rt, finN_exc, finJ_rt, ioF_io, add_ii, sub_ii, add_ll, add_tt, lt_ii, gt_ii, le_ii, ge_ii, eq_ii, ne_ii, is_n, isnot_n, isNone_none, isNone_int, isNone_bool, isNone_str, isNone_list, isNone_tuple, len_l, len_t, int_i, tuple_l, tuple_t, list_l, list_t, sum_l, sum_t, omap_sm, intsD_map, max2_i, min2_i, items_l, items_t, truth_bool, truth_none, truth_int, at_l, at_t, cut_l, cut_t, shaped_int, shaped_bool, shaped_none, eqv_ii, methK_ll, methK_tt, isLst_t, kCh4_x, kCh3_x, kCh2_x, kCh_x, kLr_x, rngLD_f, rngLD_t, kG22_x, kG2_x, g2D_gcd, kPm_x, kPm3_x, kPm2_x, kCb3_x, kCb2_x, kCb_x, enumI_t, perm1_i, perm2_i, comb_i, forO_sm, forB_tt, asgs0, asgsS, asgqs0, asgqsS, asgQ_nm, asgQ_tp, lcO_sm, lcBT_x, lcBody_tt, asgO_sm, asg_tt, sorted_l, kTup_x, kLst_x, kBin2_x, kBin_x, kNot_x, kB_x, kCmp3_x, kCmp2_x, kCmp_x, kAndT_x, kOrT_x, kIte_x, kIx3_x, kIx2_x, kIx_x, kSl4_x, kSl3_x, kSl2_x, kSl_x, kCall_x, kIo2_x, kIo_x, kIsi_x, kBi_x, kBi22_x, kBi2_x, kLcE_x, kLc_x, kLc2_x, kMe3_x, kMe2_x, kMe_x, kNs_x, kDf_x, kDf2_x, kDf3_x, kZip_x, kZip2_x, isLst_l, kLc3_x, kTr_x, kIt_x, kCons2_x, kCons_x, kRng_x, kRng3_x, kRng2_x, kLcB2_x, kLcB_x, kLs2_x, kLs_x, kEx_x, kRet_x, kSet_x, kIf_x, kFor_x, kRais_x, Bool.not_true, Bool.not_false, Bool.not_not, ↓reduceIte, Bool.false_eq_true, Bool.true_eq_false, decide_eq_true_eq, decide_eq_false_iff_not, List.any_cons, List.any_nil, isTy, Bool.or_false, Bool.or_true, Bool.false_or, Bool.true_or, Bool.and_true, Bool.true_and, Bool.and_false, Bool.false_and, List.length_cons, List.length_nil, List.length_map, List.length_append, List.length_set, List.length_replicate, List.length_range, List.cons_append, List.nil_append, List.map_cons, List.map_nil, Nat.reduceAdd, Nat.reduceSub, Nat.reduceLeDiff, Nat.reduceLT, Nat.zero_lt_succ, decide_true, decide_false, Int.reduceLT, Int.reduceLE, Int.reduceAdd, Int.reduceSub, Int.reduceMul, Int.reduceNeg, Int.reduceEq, not_true_eq_false, not_false_eq_true, ne_eq, Nat.zero_add, Int.cast_ofNat_Int, $ts,*])
/-! k21's program -/
def sb (m x y : Int) : Int :=
  let g := if y - x < 0 then -(y - x) else y - x
  if m - g < g then m - g else g
def psI (a ss : List Int) : List Int := ss.map fun s => ((a.idxOf s : Nat) : Int)
def stI (m : Int) (ps : List Int) (k : Int) : Int := sb m (ps.getD k.toNat 0) (ps.getD (k + 1).toNat 0)
def totI (m : Int) (ps : List Int) : Int := ((rI (ps.length - 1)).map (stI m ps)).sum
/-- an arrangement of m sets -/
structure Arr (m : Nat) (a : List Int) : Prop where
  len : a.length = m
  m6 : m ≤ 6
  m1 : 1 ≤ m
  nd : a.Nodup
  bd : ∀ i ∈ a, 0 ≤ i ∧ i ≤ (m : Int) - 1
  all : ∀ i : Int, 0 ≤ i → i < m → i ∈ a
structure Sho (m : Nat) (ss : List Int) : Prop where
  l1 : 1 ≤ ss.length
  l2 : ss.length ≤ 12
  bd : ∀ i ∈ ss, 0 ≤ i ∧ i < (m : Int)
theorem getD_at {xs : List Int} {k : Nat} (h : k < xs.length) : atI (xs.map PyData.int) (k : Int) = some (.int (xs.getD k 0)) := atI_map h
section
variable {n : Nat}
theorem v11 (h : 2 ≤ n) (m x y : Int) : Gs Lw.fs n 11 [.int m, .int x, .int y] [] = .ok (.int (sb m x y)) [] := by
  obtain ⟨k, rfl, hk⟩ := lv (m := 0) h
  rw [h_steps_between.run]
  refine (run_N (by rfl)).trans ?_
  show finN (exec _ m_steps_between [.val (.int m), .val (.int x), .val (.int y), .un]) = _
  unfold m_steps_between
  simp_arith [abs_i]
  rfl
theorem v12 (h : 3 ≤ n) {m : Nat} {a ss : List Int} {x y : D} (A : Arr m a) (hs : Sho m ss) (hx : items x = some (a.map PyData.int)) (hy : items y = some (ss.map PyData.int)) : Gs Lw.fs n 12 [x, y] [] = .ok (.int (totI m (psI a ss))) [] := by
  obtain ⟨k, rfl, hk⟩ := lv (m := 1) h
  rw [h_steps_of.run]
  refine (run_N (by rfl)).trans ?_
  show finN (exec _ m_steps_of [.val x, .val y, .un, .un, .un, .un]) = _
  have hl := hs.l2
  have hl1 := hs.l1
  have hpl : (psI a ss).length = ss.length := by simp [psI]
  have h1 : ∀ (s2 : Slot), (ev (Gs Lw.fs (k + 1)) c_steps_of_0).v [.val x, .val y, s2, .un, .un, .un] = .ok (.list ((psI a ss).map PyData.int)) [.val x, .val y, s2, .un, .un, .un] := by
    intro s2
    unfold c_steps_of_0
    simp_arith [hy]
    rw [lc_ints PyData.int (fun s => ((a.idxOf s : Nat) : Int)) ss (by
      intro s hs'
      have hm := A.all s (hs.bd s hs').1 (hs.bd s hs').2
      simp_arith [isLst_of hx, idx_of hx hm])]
    simp_arith [fits_le, show ss.length ≤ 1000000 by omega]
    rfl
  have h2 : (ev (Gs Lw.fs (k + 1)) c_steps_of_1).o [.val x, .val y, .val (.int m), .val (.list ((psI a ss).map PyData.int)), .un, .un] = .ok (.list (((rI ((psI a ss).length - 1)).map (stI m (psI a ss))).map PyData.int)) [.val x, .val y, .val (.int m), .val (.list ((psI a ss).map PyData.int)), .un, .un] := by
    have e : ((psI a ss).length : Int) - 1 = (((psI a ss).length - 1 : Nat) : Int) := by omega
    unfold c_steps_of_1
    simp_arith [e, rng_rI (m := (psI a ss).length - 1) (by omega)]
    rw [lc_ints PyData.int (stI m (psI a ss)) (rI ((psI a ss).length - 1)) (by
      intro i hi
      obtain ⟨j, hj, rfl⟩ := List.mem_map.mp hi
      rw [List.mem_range] at hj
      have e1 : (j : Int) + 1 = ((j + 1 : Nat) : Int) := by omega
      simp_arith [getD_at (xs := psI a ss) (k := j) (by omega), e1, getD_at (xs := psI a ss) (k := j + 1) (by omega), v11 (n := k + 1) (by omega)]
      rfl)]
    simp_arith [fits_le, show (psI a ss).length - 1 ≤ 1000000 by omega]
  unfold m_steps_of
  simp_arith [len_of hx, A.len, h1, h2, intsD_map]
  rfl
theorem v6 (h : 2 ≤ n) {m : Nat} {a : List Int} {x : D} (A : Arr m a) (hx : items x = some (a.map PyData.int)) : Gs Lw.fs n 6 [x] [] = .ok (.bool true) [] := hv_alld h_all_different h hx (by have := A.len; have := A.m6; omega) A.nd
theorem v8 (h : 4 ≤ n) {m : Nat} {a : List Int} {x : D} (A : Arr m a) (hx : items x = some (a.map PyData.int)) : Gs Lw.fs n 8 [x, .int m] [] = .ok (.bool true) [] := by
  obtain ⟨k, rfl, hk⟩ := lv (m := 2) h
  rw [h_is_order.run]
  refine (run_N (by rfl)).trans ?_
  show finN (exec _ m_is_order [.val x, .val (.int m)]) = _
  unfold m_is_order
  have e := hv_ints (fs := Lw.fs) (n := k + 1) (lo := 0) (hi := (m : Int) - 1) (a := m) (b := m) h_are_integers h_is_sequence (by omega) hx (by rw [A.len]; exact Int.le_refl _) (by rw [A.len]; exact Int.le_refl _) A.bd
  simp_arith [e, v6 (n := k + 1) (by omega) A hx]
theorem v9 (h : 5 ≤ n) {m : Nat} {a : List Int} {x : D} (A : Arr m a) (hx : items x = some (a.map PyData.int)) : Gs Lw.fs n 9 [x] [] = .ok (.bool true) [] := by
  obtain ⟨k, rfl, hk⟩ := lv (m := 3) h
  rw [h_is_arrangement.run]
  refine (run_N (by rfl)).trans ?_
  show finN (exec _ m_is_arrangement [.val x]) = _
  unfold m_is_arrangement
  have e := hv_seqT (fs := Lw.fs) (n := k + 1) (a := 1) (b := 6) h_is_sequence (by omega) hx (by rw [List.length_map, A.len]; have := A.m1; omega) (by rw [List.length_map, A.len]; have := A.m6; omega)
  simp_arith [e, len_of hx, A.len, v8 (n := k + 1) (by omega) A hx]
theorem v10 (h : 4 ≤ n) {m : Nat} {ss : List Int} {x : D} (S : Sho m ss) (hx : items x = some (ss.map PyData.int)) : Gs Lw.fs n 10 [x] [] = .ok (.bool true) [] := by
  obtain ⟨k, rfl, hk⟩ := lv (m := 2) h
  rw [h_are_shows.run]
  refine (run_N (by rfl)).trans ?_
  show finN (exec _ m_are_shows [.val x]) = _
  unfold m_are_shows
  have e := hv_intsU (fs := Lw.fs) (n := k + 1) (lo := 0) (a := 1) (b := 12) h_are_integers h_is_sequence (by omega) hx (by have := S.l1; omega) (by have := S.l2; omega) fun i hi => (S.bd i hi).1
  simp_arith [e]
theorem v3 (h : 2 ≤ n) (d : D) : Gs Lw.fs n 3 [.bool true, d] [] = .ok .none [] := hv_req h_require h d
theorem mx_sho {m : Nat} {ss : List Int} (S : Sho m ss) : mxL ss < (m : Int) := by
  have hne : ss ≠ [] := by have := S.l1; intro e; subst e; simp at this
  exact (S.bd _ (mxL_mem hne)).2
theorem sho_ne {m : Nat} {ss : List Int} (S : Sho m ss) : ss ≠ [] := by have := S.l1; intro e; subst e; simp at this
theorem v13 (h : 6 ≤ n) {m : Nat} {a ss : List Int} {x y : D} (A : Arr m a) (S : Sho m ss) (hx : Hd x (TI a)) (hy : Hd y (TI ss)) : Gs Lw.fs n 13 [x, y] [] = .ok (.int (totI m (psI a ss))) [] := by
  obtain ⟨k, rfl, hk⟩ := lv (m := 4) h
  rw [h_turning.run]
  refine (run_N (by rfl)).trans ?_
  show finN (exec _ m_turning [.val x, .val y]) = _
  unfold m_turning
  have a0 := hv_asD (fs := Lw.fs) h_as_tuples 1 (TI a) (tuD_ti a (by have := A.len; have := A.m6; omega)) x hx (k + 1) (by omega)
  have a1 := hv_asD (fs := Lw.fs) h_as_tuples 1 (TI ss) (tuD_ti ss (by have := S.l2; omega)) y hy (k + 1) (by omega)
  simp_arith [v9 (n := k + 1) (by omega) A hx.ti, v10 (n := k + 1) (by omega) S hy.ti, max_ints hy.ti (sho_ne S), len_of hx.ti, A.len, mx_sho S, v3 (n := k + 1) (by omega), a0, a1, v12 (n := k + 1) (x := TI a) (y := TI ss) (by omega) A S rfl rfl]
end
/-! the ring that turns least -/
def arrs (m : Nat) : List (List Int) := (prm (m - 1)).map fun l => (0 : Int) :: nI (l.map (1 + ·))
def keyI (m : Nat) (ss a : List Int) : Int × List Int := (totI m (psI a ss), a)
def ringB (m : Nat) (ss : List Int) : Option (Int × List Int) := (arrs m).foldl (fun b a => bstK b (keyI m ss a)) none
def arrOk (m : Nat) (a : List Int) : Bool := a.length == m && a.all (fun i => decide (0 ≤ i) && decide (i ≤ (m : Int) - 1)) && decide a.Nodup && (rI m).all fun i => a.contains i
theorem arr_by {m : Nat} {a : List Int} (h1 : 1 ≤ m) (h6 : m ≤ 6) (h : arrOk m a = true) : Arr m a := by
  unfold arrOk at h
  simp only [Bool.and_eq_true, beq_iff_eq, List.all_eq_true, decide_eq_true_eq] at h
  obtain ⟨⟨⟨k1, k2⟩, k3⟩, k4⟩ := h
  exact ⟨k1, h6, h1, k3, k2, fun i h0 hm => by simpa using k4 i (mem_rI.mpr ⟨h0, hm⟩)⟩
theorem arrs_ok : ∀ m, 1 ≤ m → m ≤ 6 → (arrs m).all (arrOk m) = true
  | 0, h, _ => absurd h (by omega)
  | 1, _, _ => by decide +kernel
  | 2, _, _ => by decide +kernel
  | 3, _, _ => by decide +kernel
  | 4, _, _ => by decide +kernel
  | 5, _, _ => by decide +kernel
  | 6, _, _ => by decide +kernel
  | n + 7, _, h => absurd h (by omega)
theorem arrs_arr {m : Nat} (h1 : 1 ≤ m) (h6 : m ≤ 6) {a : List Int} (h : a ∈ arrs m) : Arr m a := arr_by h1 h6 (List.all_eq_true.mp (arrs_ok m h1 h6) a h)
section
variable {n : Nat}
theorem ring_loop (h : 3 ≤ n) {m : Nat} {ss : List Int} {y : D} (S : Sho m ss) (hy : items y = some (ss.map PyData.int)) (r0 : Slot) : ∀ (ls : List (List Nat)) (b : Option (Int × List Int)) (r3 r4 r5 : Slot), (∀ l ∈ ls, Arr m ((0 : Int) :: nI (l.map (1 + ·)))) →
    ∃ s3 s4 s5, forLoop (forB (.nm 3) (exec (Gs Lw.fs n) f_best_ring_0)) (ls.map fun l => TN (l.map (1 + ·))) [r0, .val y, .val (bK b), r3, r4, r5] = .nx [r0, .val y, .val (bK ((ls.map fun l => (0 : Int) :: nI (l.map (1 + ·))).foldl (fun b a => bstK b (keyI m ss a)) b)), s3, s4, s5]
  | [], b, r3, r4, r5, _ => ⟨r3, r4, r5, rfl⟩
  | l :: ls, b, r3, r4, r5, hA => by
    have A := hA l List.mem_cons_self
    have hk : kD (totI m (psI ((0 : Int) :: nI (l.map (1 + ·))) ss)) ((0 : Int) :: nI (l.map (1 + ·))) = bK (some (keyI m ss ((0 : Int) :: nI (l.map (1 + ·))))) := rfl
    obtain ⟨s3, s4, s5, e⟩ := ring_loop h S hy r0 ls (bstK b (keyI m ss ((0 : Int) :: nI (l.map (1 + ·))))) (.val (TN (l.map (1 + ·)))) (.val (TI ((0 : Int) :: nI (l.map (1 + ·))))) (.val (kD (totI m (psI ((0 : Int) :: nI (l.map (1 + ·))) ss)) ((0 : Int) :: nI (l.map (1 + ·))))) fun l' hl' => hA l' (List.mem_cons_of_mem _ hl')
    refine ⟨s3, s4, s5, ?_⟩
    rw [List.map_cons, forS, List.map_cons, List.foldl_cons]
    have h12 := v12 (n := n) (x := TI ((0 : Int) :: nI (l.map (1 + ·)))) (y := y) h A S rfl hy
    have hl : l.length + 1 ≤ 1000000 := by have h1 := A.len; have := A.m6; simp at h1; omega
    have body : forB (.nm 3) (exec (Gs Lw.fs n) f_best_ring_0) (TN (l.map (1 + ·))) [r0, .val y, .val (bK b), r3, r4, r5] = .nx [r0, .val y, .val (bK (bstK b (keyI m ss ((0 : Int) :: nI (l.map (1 + ·)))))), .val (TN (l.map (1 + ·))), .val (TI ((0 : Int) :: nI (l.map (1 + ·)))), .val (kD (totI m (psI ((0 : Int) :: nI (l.map (1 + ·))) ss)) ((0 : Int) :: nI (l.map (1 + ·))))] := by
      have hcat : PyData.tuple (PyData.int 0 :: (nI (l.map (1 + ·))).map PyData.int) = TI ((0 : Int) :: nI (l.map (1 + ·))) := rfl
      generalize (0 : Int) :: nI (l.map (1 + ·)) = a at *
      generalize hT : totI m (psI a ss) = t at *
      unfold f_best_ring_0 i_best_ring_0
      simp_arith [fits_le, hl, hcat, h12]
      have hkd : PyData.tuple [.int t, TI a] = kD t a := rfl
      cases b with
      | none =>
        have hb : bK none = .none := rfl
        have hr : bK (bstK none (keyI m ss a)) = kD t a := by rw [← hT]; rfl
        simp_arith [hb, hr, hkd]
      | some c =>
        have hb : bK (some c) = kD c.1 c.2 := rfl
        have hn : isNone (kD c.1 c.2) = false := rfl
        have hs : bstK (some c) (keyI m ss a) = if PySem.W.dataLt (kD t a) (kD c.1 c.2) = true then some (keyI m ss a) else some c := by rw [← hT]; rfl
        have hr : bK (some (keyI m ss a)) = kD t a := by rw [← hT]; rfl
        by_cases hlt : PySem.W.dataLt (kD t a) (kD c.1 c.2) = true
        · rw [hs, if_pos hlt, hr]
          simp_arith [hb, hn, hkd, lt_kD, hlt]
        · rw [hs, if_neg hlt]
          simp_arith [hb, hn, hkd, lt_kD, hlt]
    rw [body]
    exact e
theorem v14 (h : 6 ≤ n) {m : Nat} (m1 : 1 ≤ m) (m6 : m ≤ 6) {ss : List Int} {y : D} (S : Sho m ss) (hy : Hd y (TI ss)) : Gs Lw.fs n 14 [.int m, y] [] = .ok (bK (ringB m ss)) [] := by
  obtain ⟨k, rfl, hk⟩ := lv (m := 4) h
  rw [h_best_ring.run]
  refine (run_N (by rfl)).trans ?_
  show finN (exec _ m_best_ring [.val (.int m), .val y, .un, .un, .un, .un]) = _
  have hp : permL (rngD [.int 1, .int m]) = some ((prm (m - 1)).map fun l => TN (l.map (1 + ·))) := permL_2 1 m (by omega) (by omega) (by omega)
  obtain ⟨s3, s4, s5, e⟩ := ring_loop (n := k + 1) (by omega) S hy.ti (.val (.int m)) (prm (m - 1)) none .un .un .un fun l hl => arrs_arr m1 m6 (List.mem_map_of_mem hl)
  have e' : forLoop (forB (.nm 3) (exec (Gs Lw.fs (k + 1)) f_best_ring_0)) ((prm (m - 1)).map fun l => TN (l.map (1 + ·))) [.val (.int m), .val y, .val .none, .un, .un, .un] = _ := e
  have i4 := hv_intT (fs := Lw.fs) (n := k + 1) (i := m) (a := 1) (b := 6) h_is_integer (by omega) (by omega) (by omega)
  unfold m_best_ring
  simp_arith [i4, v10 (n := k + 1) (by omega) S hy.ti, max_ints hy.ti (sho_ne S), mx_sho S, v3 (n := k + 1) (by omega), hp, e']
  rfl
end
/-! the law's own count -/
def lg (m x y : Int) : Int :=
  let g := y - x
  let g2 := if -g > g then -g else g
  if m - g2 < g2 then m - g2 else g2
theorem lg_sb (m x y : Int) : lg m x y = sb m x y := by
  unfold lg sb
  dsimp only
  by_cases h : y - x < 0
  · rw [if_pos (show -(y - x) > y - x by omega), if_pos h]
  · by_cases h2 : -(y - x) > y - x
    · omega
    · rw [if_neg h2, if_neg h]
theorem sum_range' (f : Nat → Int) : ∀ (k : Nat) (s : Int), ((List.range k).foldl (fun t j => t + f j) s) = s + ((List.range k).map f).sum
  | 0, s => by simp
  | k + 1, s => by
    rw [List.range_succ, List.foldl_append, sum_range' f k s, List.map_append, List.sum_append]
    simp
    omega
section
variable {n : Nat}
theorem v23 (h : 2 ≤ n) {m : Nat} {a ss : List Int} (A : Arr m a) (S : Sho m ss) : Gs Lw.fs n 23 [TI a, TI ss] [] = .ok (.int (totI m (psI a ss))) [] := by
  obtain ⟨k, rfl, hk⟩ := lv (m := 0) h
  rw [h__law_turning.run]
  refine (run_N (by rfl)).trans ?_
  show finN (exec _ m__law_turning [.val (TI a), .val (TI ss), .un, .un, .un, .un]) = _
  have hl := S.l2
  have hl1 := S.l1
  have hpl : (psI a ss).length = ss.length := by simp [psI]
  have hps : ∀ j, j < ss.length → (psI a ss).getD j 0 = ((a.idxOf (ss.getD j 0) : Nat) : Int) := fun j hj => by
    simp [psI, List.getD_eq_getElem?_getD, hj]
  obtain ⟨r', e, s4, s5, hr⟩ := for_foldE (body := forB (.nm 4) (exec (Gs Lw.fs (k + 1)) f__law_turning_0)) (fun j : Nat => PyData.int ((1 + j : Nat) : Int)) (fun (t : Int) r => ∃ s4 s5, r = [.val (TI a), .val (TI ss), .val (.int m), .val (.int t), s4, s5]) (fun t j => t + stI m (psI a ss) (j : Int)) (List.range (ss.length - 1)) 0 (by
    rintro j hj t r ⟨s4, s5, rfl⟩
    rw [List.mem_range] at hj
    refine ⟨_, ?_, .val (.int ((1 + j : Nat) : Int)), .val (.int (let g := ((a.idxOf (ss.getD (1 + j) 0) : Nat) : Int) - ((a.idxOf (ss.getD j 0) : Nat) : Int); if -g > g then -g else g)), rfl⟩
    have e1 : ((1 + j : Nat) : Int) - 1 = (j : Int) := by omega
    have m1 : ss.getD (1 + j) 0 ∈ a := by
      have hm : ss.getD (1 + j) 0 ∈ ss := by
        rw [List.getD_eq_getElem?_getD, List.getElem?_eq_getElem (by omega)]
        exact List.getElem_mem _
      exact A.all _ (S.bd _ hm).1 (S.bd _ hm).2
    have m0 : ss.getD j 0 ∈ a := by
      have hm : ss.getD j 0 ∈ ss := by
        rw [List.getD_eq_getElem?_getD, List.getElem?_eq_getElem (by omega)]
        exact List.getElem_mem _
      exact A.all _ (S.bd _ hm).1 (S.bd _ hm).2
    have hst : stI m (psI a ss) (j : Int) = lg m ((a.idxOf (ss.getD j 0) : Nat) : Int) ((a.idxOf (ss.getD (1 + j) 0) : Nat) : Int) := by
      rw [lg_sb]
      unfold stI
      have q1 : (j : Int).toNat = j := by omega
      have q2 : ((j : Int) + 1).toNat = 1 + j := by omega
      rw [q1, q2, hps j (by omega), hps (1 + j) (by omega)]
    rw [hst]
    unfold f__law_turning_0
    simp_arith [getD_at (xs := ss) (k := 1 + j) (by omega), e1, getD_at (xs := ss) (k := j) (by omega), idx_ti m1, idx_ti m0]
    rfl) [.val (TI a), .val (TI ss), .val (.int m), .val (.int 0), .un, .un] ⟨_, _, rfl⟩
  subst hr
  have hr2 : rngD [.int 1, .int (ss.length : Int)] = some ((List.range (ss.length - 1)).map fun (j : Nat) => PyData.int ((1 + j : Nat) : Int)) := rng2_ok (a := 1) (b := ss.length) (by omega) (by omega)
  unfold m__law_turning
  simp_arith [A.len, hr2, e]
  rw [sum_range']
  unfold totI
  rw [hpl, Int.zero_add]
  unfold rI
  rw [List.map_map]
  rfl
end
end Rf.X
set_option Elab.async false
set_option linter.all false
set_option maxRecDepth 100000
set_option maxHeartbeats 4000000
namespace Rf.X
open PySem L2
local macro_rules
  | `(tactic| simp_arith [$ts,*]) => `(tactic| simp only [bind_okR, bind_excR, calm_okR, out_okR, out_excR, then_nxR, then_rtR, then_bkR, then_ctR, then_excR, opt_sm, obind_sm, giveS_val, giveS_own, peekS_val, peekS_own, peekS_io, at0, atS, set0, setS, getD0, getDS, var_v, var_o, var_ag, var_t, var_c, ptOf_int, var_p, var_i, nil_c, nil_p, nil_a, cons_a, ioE_S, ioS_own, ioS_io, ioO_ok, ioI_ok, isiR_none, isiR_bool, isiR_int, isiR_str, isiR_list, isiR_tuple, toldR_ok, toldR_exc0, negR_int, notR_bool, kAnd_bool, kOr_bool, callR_ok, callR_exc, call0R_ok, isL_S, isLS_own, isLS_io, cst_v, cst_o, cst_ag, cst_t, cst_c, cst_p, cst_i, tup_v, tup_o, tup_ag, tup_t, tup_c, tup_p, tup_i, lst_v, lst_o, lst_ag, lst_t, lst_c, lst_p, lst_i, bin_v, bin_o, bin_ag, bin_t, bin_c, bin_p, bin_i, neg_v, neg_o, neg_ag, neg_t, neg_c, neg_p, neg_i, not_v, not_o, not_ag, not_t, not_c, not_p, not_i, cmp_v, cmp_o, cmp_ag, cmp_t, cmp_c, cmp_p, cmp_i, and_v, and_o, and_ag, and_t, and_c, and_p, and_i, or_v, or_o, or_ag, or_t, or_c, or_p, or_i, ite_v, ite_o, ite_ag, ite_t, ite_c, ite_p, ite_i, ix_v, ix_o, ix_ag, ix_t, ix_c, ix_p, ix_i, sl_v, sl_o, sl_ag, sl_t, sl_c, sl_p, sl_i, call_v, call_o, call_ag, call_t, call_c, call_p, call_i, call0_v, call0_o, call0_ag, call0_t, call0_c, call0_p, call0_i, callio_v, callio_o, callio_ag, callio_t, callio_c, callio_p, callio_i, isi_v, isi_o, isi_ag, isi_t, isi_c, isi_p, isi_i, bi_v, bi_o, bi_ag, bi_t, bi_c, bi_p, bi_i, bi2_v, bi2_o, bi2_ag, bi2_t, bi2_c, bi2_p, bi2_i, lc_v, lc_o, lc_ag, lc_t, lc_c, lc_p, lc_i, lc2_v, lc2_o, lc2_ag, lc2_t, lc2_c, lc2_p, lc2_i, allint_v, allint_o, allint_ag, allint_t, allint_c, allint_p, allint_i, told_v, told_o, told_ag, told_t, told_c, told_p, told_i, dflt_v, dflt_o, dflt_ag, dflt_t, dflt_c, dflt_p, dflt_i, nset_v, nset_o, nset_ag, nset_t, nset_c, nset_p, nset_i, lc3_v, lc3_o, lc3_ag, lc3_t, lc3_c, lc3_p, lc3_i, chain_v, chain_o, chain_ag, chain_t, chain_c, chain_p, chain_i, lrng1_v, lrng1_o, lrng1_ag, lrng1_t, lrng1_c, lrng1_p, lrng1_i, g2_v, g2_o, g2_ag, g2_t, g2_c, g2_p, g2_i, meth_v, meth_o, meth_ag, meth_t, meth_c, meth_p, meth_i, rng1_i, rng2_i, enum_i, asgR_nm, asgOR_list, skip_x, seq_x, asg_x, asgO_x, ex_x, app_x, appR_S, appS_own, appS_io, setI_x, setR_int, setRS_own, setRS_io, setN_some, ret_x, retN_x, if_x, for_x, brk_x, cont_x, rais_x, raiR_ok, aug_x, augS_int, augR_add, augR_sub, wipe0, wipeS, back0, backS, for0, forN_nx, forN_ct, forN_bk, forN_rt, forB_nm, lcBody_nm, forB_tp, lcBody_tp, asg_tp2, zip_i, enumI_l, zipI_l, zipI_t, zipI_lt, zipI_tl, tl_some, tl_none, finN_nx, finN_rt, finN_exc, finJ_rt, ioF_io, add_ii, sub_ii, add_ll, add_tt, lt_ii, gt_ii, le_ii, ge_ii, eq_ii, ne_ii, is_n, isnot_n, isNone_none, isNone_int, isNone_bool, isNone_str, isNone_list, isNone_tuple, len_l, len_t, int_i, tuple_l, tuple_t, list_l, list_t, sum_l, sum_t, omap_sm, intsD_map, max2_i, min2_i, items_l, items_t, truth_bool, truth_none, truth_int, at_l, at_t, cut_l, cut_t, shaped_int, shaped_bool, shaped_none, eqv_ii, methK_ll, methK_tt, isLst_t, kCh4_x, kCh3_x, kCh2_x, kCh_x, kLr_x, rngLD_f, rngLD_t, kG22_x, kG2_x, g2D_gcd, kPm_x, kPm3_x, kPm2_x, kCb3_x, kCb2_x, kCb_x, enumI_t, perm1_i, perm2_i, comb_i, forO_sm, forB_tt, asgs0, asgsS, asgqs0, asgqsS, asgQ_nm, asgQ_tp, lcO_sm, lcBT_x, lcBody_tt, asgO_sm, asg_tt, sorted_l, kTup_x, kLst_x, kBin2_x, kBin_x, kNot_x, kB_x, kCmp3_x, kCmp2_x, kCmp_x, kAndT_x, kOrT_x, kIte_x, kIx3_x, kIx2_x, kIx_x, kSl4_x, kSl3_x, kSl2_x, kSl_x, kCall_x, kIo2_x, kIo_x, kIsi_x, kBi_x, kBi22_x, kBi2_x, kLcE_x, kLc_x, kLc2_x, kMe3_x, kMe2_x, kMe_x, kNs_x, kDf_x, kDf2_x, kDf3_x, kZip_x, kZip2_x, isLst_l, kLc3_x, kTr_x, kIt_x, kCons2_x, kCons_x, kRng_x, kRng3_x, kRng2_x, kLcB2_x, kLcB_x, kLs2_x, kLs_x, kEx_x, kRet_x, kSet_x, kIf_x, kFor_x, kRais_x, Bool.not_true, Bool.not_false, Bool.not_not, ↓reduceIte, Bool.false_eq_true, Bool.true_eq_false, decide_eq_true_eq, decide_eq_false_iff_not, List.any_cons, List.any_nil, isTy, Bool.or_false, Bool.or_true, Bool.false_or, Bool.true_or, Bool.and_true, Bool.true_and, Bool.and_false, Bool.false_and, List.length_cons, List.length_nil, List.length_map, List.length_append, List.length_set, List.length_replicate, List.length_range, List.cons_append, List.nil_append, List.map_cons, List.map_nil, Nat.reduceAdd, Nat.reduceSub, Nat.reduceLeDiff, Nat.reduceLT, Nat.zero_lt_succ, decide_true, decide_false, Int.reduceLT, Int.reduceLE, Int.reduceAdd, Int.reduceSub, Int.reduceMul, Int.reduceNeg, Int.reduceEq, not_true_eq_false, not_false_eq_true, ne_eq, Nat.zero_add, Int.cast_ofNat_Int, $ts,*])
/-! k21's law -/
theorem tail7 (r0 r1 r2 r3 r4 r5 r6 r7 r8 r9 : Slot) : exec (Fl Lw.fs 63) t_law_7 [r0, r1, r2, r3, r4, r5, r6, r7, r8, r9] = .rt (.bool true) [r0, r1, r2, r3, r4, r5, r6, .val (.int 7), r8, r9] := by kernel_rfl
theorem Fl_S {i : Nat} (h : i < 1000) : Fl Lw.fs 63 i = Gs Lw.fs 63 i := if_pos h
theorem prm_arr {m : Nat} (h1 : 1 ≤ m) (h6 : m ≤ 6) {l : List Nat} (h : l ∈ prm m) : Arr m (nI l) := by
  obtain ⟨k1, k2, k3⟩ := prm_mem h6 h
  refine ⟨by simpa [nI] using k1, h6, h1, nI_nodup k3, fun i hi => by have := nI_mem k2 i hi; omega, fun i h0 hm => ?_⟩
  have := nodup_full k1 k2 k3 i.toNat (by omega)
  exact List.mem_map.mpr ⟨_, this, by omega⟩
theorem arrs_prm : ∀ m, 1 ≤ m → m ≤ 5 → ((prm m).map nI).filter (fun a => a.head? == some 0) = arrs m
  | 0, h, _ => absurd h (by omega)
  | 1, _, _ => by decide +kernel
  | 2, _, _ => by decide +kernel
  | 3, _, _ => by decide +kernel
  | 4, _, _ => by decide +kernel
  | 5, _, _ => by decide +kernel
  | n + 6, _, h => absurd h (by omega)
theorem arrs_ne : ∀ m, 1 ≤ m → m ≤ 5 → arrs m ≠ []
  | 0, h, _ => absurd h (by omega)
  | 1, _, _ => by decide +kernel
  | 2, _, _ => by decide +kernel
  | 3, _, _ => by decide +kernel
  | 4, _, _ => by decide +kernel
  | 5, _, _ => by decide +kernel
  | n + 6, _, h => absurd h (by omega)
def stepL (m : Nat) (ss : List Int) (b : Option (Int × List Int)) (l : List Nat) : Option (Int × List Int) := if ((nI l).head? == some 0) = true then bstK b (keyI m ss (nI l)) else b
theorem best_step (F : Nat → Fn) (a : List Int) {i : Int} {t : List Int} (ha : a = i :: t) (tt : Int) (b : Option (Int × List Int)) (r0 r1 r2 r3 r4 r7 r9 : Slot) :
    exec F i_law_0 [r0, r1, r2, r3, r4, .val (bK b), .val (TI a), r7, .val (.int tt), r9] = .nx [r0, r1, r2, r3, r4, .val (bK (if i = 0 then bstK b (tt, a) else b)), .val (TI a), r7, .val (.int tt), r9] := by
  have hat : ixD (TI a) (.int 0) = some (.int i) := by rw [ha]; exact ti_at0
  have hkd : PyData.tuple [.int tt, TI a] = kD tt a := rfl
  unfold i_law_0
  by_cases h0 : i = 0
  · rw [if_pos h0]
    cases b with
    | none =>
      have hb : bK none = .none := rfl
      have hr : bK (bstK none (tt, a)) = kD tt a := rfl
      simp_arith [hat, h0, hb, hr, hkd, fits_le]
    | some c =>
      have hb : bK (some c) = kD c.1 c.2 := rfl
      have hn : isNone (kD c.1 c.2) = false := rfl
      have hs : bstK (some c) (tt, a) = if PySem.W.dataLt (kD tt a) (kD c.1 c.2) = true then some (tt, a) else some c := rfl
      have hr : bK (some (tt, a)) = kD tt a := rfl
      by_cases hlt : PySem.W.dataLt (kD tt a) (kD c.1 c.2) = true
      · rw [hs, if_pos hlt, hr]
        simp_arith [hat, h0, hb, hn, hkd, lt_kD, hlt, fits_le]
      · rw [hs, if_neg hlt]
        simp_arith [hat, h0, hb, hn, hkd, lt_kD, hlt, fits_le]
  · rw [if_neg h0]
    simp_arith [hat, h0]
section
variable {row : List Int} (hr : row ≠ [])
include hr
theorem check_step (r0 r5 r7 r9 : Slot) {m : Nat} {ss a : List Int} (A : Arr m a) (S : Sho m ss) (k : Nat) :
    ∃ k' : Nat, exec (Fl Lw.fs 63) i_law_1 [r0, .val (LI row), .own [.int (k : Int)], .val (.int m), .val (TI ss), r5, .val (TI a), r7, .val (.int (totI m (psI a ss))), r9] = .nx [r0, .val (LI row), .own [.int (k' : Int)], .val (.int m), .val (TI ss), r5, .val (TI a), r7, .val (.int (totI m (psI a ss))), r9] := by
  obtain ⟨q, hq, e18⟩ := hv_takeN (fs := Lw.fs) (n := 63) h__law_take h__law_draw (by omega) hr k 20 (by omega)
  have hal := A.len
  have hm6 := A.m6
  obtain ⟨x1, X1, e20⟩ := hv_hd (fs := Lw.fs) (n := 63) h__law_handed h__law_take h__law_draw h__law_listed (m := 1) (tuD_ti a (by omega)) (by omega) hr (k + 1)
  obtain ⟨x2, X2, e20'⟩ := hv_hd (fs := Lw.fs) (n := 63) h__law_handed h__law_take h__law_draw h__law_listed (m := 1) (tuD_ti ss (by have := S.l2; omega)) (by omega) hr (k + 1 + 1)
  have e13 := v13 (n := 63) (by omega) A S X1 X2
  generalize hT : totI m (psI a ss) = tt at *
  have e15 := hv_so (fs := Lw.fs) (n := 63) h__law_so 0 (x := .int tt) (.int tt) (by omega)
  unfold i_law_1
  by_cases hq0 : (q : Int) = 0
  · refine ⟨k + 1 + 1 + 1, ?_⟩
    simp_arith [Fl_S, e18, hq0, e20, e20', e13, e15]
  · refine ⟨k + 1, ?_⟩
    simp_arith [Fl_S, e18, hq0]
theorem order_step (r0 r7 r9 : Slot) {m : Nat} (m1 : 1 ≤ m) (m5 : m ≤ 5) {ss : List Int} (S : Sho m ss) {l : List Nat} (hl : l ∈ prm m) (b : Option (Int × List Int)) (k : Nat) (s6 s8 : Slot) :
    ∃ (k' : Nat) (s6' s8' : Slot), forB (.nm 6) (exec (Fl Lw.fs 63) f_law_0) (TN l) [r0, .val (LI row), .own [.int (k : Int)], .val (.int m), .val (TI ss), .val (bK b), s6, r7, s8, r9] = .nx [r0, .val (LI row), .own [.int (k' : Int)], .val (.int m), .val (TI ss), .val (bK (stepL m ss b l)), s6', r7, s8', r9] := by
  have A := prm_arr m1 (by omega) hl
  unfold stepL
  show ∃ (k' : Nat) (s6' s8' : Slot), forB (.nm 6) (exec (Fl Lw.fs 63) f_law_0) (TI (nI l)) _ = _
  generalize nI l = a at *
  have e23 := v23 (n := 63) (by omega) A S
  obtain ⟨i, t, ha⟩ : ∃ i t, a = i :: t := by
    cases a with
    | nil => have := A.len; simp at this; omega
    | cons i t => exact ⟨i, t, rfl⟩
  have hhd : (if (a.head? == some 0) = true then bstK b (keyI m ss a) else b) = if i = 0 then bstK b (totI m (psI a ss), a) else b := by
    rw [ha]
    show (if (some i == some 0) = true then _ else b) = _
    by_cases h : i = 0
    · rw [if_pos h, if_pos (by simp [h])]; rfl
    · rw [if_neg h, if_neg (by simpa using h)]
  rw [hhd]
  obtain ⟨k', e2⟩ := check_step hr r0 (.val (bK (if i = 0 then bstK b (totI m (psI a ss), a) else b))) r7 r9 A S k
  have e1 := best_step (Fl Lw.fs 63) a ha (totI m (psI a ss)) b r0 (.val (LI row)) (.own [.int (k : Int)]) (.val (.int m)) (.val (TI ss)) r7 r9
  refine ⟨k', .val (TI a), .val (.int (totI m (psI a ss))), ?_⟩
  unfold f_law_0
  simp_arith [Fl_S, e23]
  rw [e1]
  simp_arith []
  rw [e2]
  simp_arith []
theorem order_loop (r0 r7 r9 : Slot) {m : Nat} (m1 : 1 ≤ m) (m5 : m ≤ 5) {ss : List Int} (S : Sho m ss) (k : Nat) :
    ∃ (k' : Nat) (s6 s8 : Slot), forLoop (forB (.nm 6) (exec (Fl Lw.fs 63) f_law_0)) ((prm m).map TN) [r0, .val (LI row), .own [.int (k : Int)], .val (.int m), .val (TI ss), .val .none, .un, r7, .un, r9] = .nx [r0, .val (LI row), .own [.int (k' : Int)], .val (.int m), .val (TI ss), .val (bK (ringB m ss)), s6, r7, s8, r9] := by
  obtain ⟨r', e, k', s6, s8, hr'⟩ := for_foldE (body := forB (.nm 6) (exec (Fl Lw.fs 63) f_law_0)) TN (fun b r => ∃ (k : Nat) (s6 s8 : Slot), r = [r0, .val (LI row), .own [.int (k : Int)], .val (.int m), .val (TI ss), .val (bK b), s6, r7, s8, r9]) (stepL m ss) (prm m) none (by
    rintro l hl b r ⟨k, s6, s8, rfl⟩
    obtain ⟨k', s6', s8', e⟩ := order_step hr r0 r7 r9 m1 m5 S hl b k s6 s8
    exact ⟨_, e, k', s6', s8', rfl⟩) [r0, .val (LI row), .own [.int (k : Int)], .val (.int m), .val (TI ss), .val .none, .un, r7, .un, r9] ⟨k, .un, .un, rfl⟩
  subst hr'
  have hf : (prm m).foldl (stepL m ss) none = ringB m ss := by
    unfold ringB
    rw [← arrs_prm m m1 m5, ← foldl_filter, List.foldl_map]
    rfl
  rw [hf] at e
  exact ⟨k', s6, s8, e⟩
theorem shows_v (r0 r5 r6 r7 r8 : Slot) {m : Nat} (m1 : 1 ≤ m) (k : Nat) :
    ∃ (ss : List Int) (k' : Nat), Sho m ss ∧ (ev (Fl Lw.fs 63) c_law_0).o [r0, .val (LI row), .own [.int (k : Int)], .val (.int m), .un, r5, r6, r7, r8, .un] = .ok (.list (ss.map PyData.int)) [r0, .val (LI row), .own [.int (k' : Int)], .val (.int m), .un, r5, r6, r7, r8, .un] := by
  obtain ⟨q, hq, e18⟩ := hv_takeN (fs := Lw.fs) (n := 63) h__law_take h__law_draw (by omega) hr k 12 (by omega)
  obtain ⟨ss, k', e, hl, hP⟩ := lc_exA (f := lcBody (ev (Fl Lw.fs 63) (.callio 18 (.cons (.var 1) .nil) 2 (.cons (.var 3) .nil))) (.nm 9) (ev (Fl Lw.fs 63) .nil) [9]) (fun k => [r0, .val (LI row), .own [.int (k : Int)], .val (.int m), .un, r5, r6, r7, r8, .un]) PyData.int PyData.int (fun i => 0 ≤ i ∧ i < (m : Int)) (rI (1 + q)) (k + 1) (by
    intro a _ k
    obtain ⟨q, hq, e⟩ := hv_takeN (fs := Lw.fs) (n := 63) h__law_take h__law_draw (by omega) hr k m (by omega)
    exact ⟨(q : Int), k + 1, by simp_arith [Fl_S, e], by omega, by omega⟩)
  rw [rI_len] at hl
  refine ⟨ss, k', ⟨by omega, by omega, hP⟩, ?_⟩
  have e1 : 1 + (q : Int) = ((1 + q : Nat) : Int) := by omega
  unfold c_law_0
  simp_arith [Fl_S, e18, e1, rng_rI (m := 1 + q) (by omega)]
  rw [e]
  simp_arith [fits_le, show ss.length ≤ 1000000 by omega]
end
theorem law_math : ∀ ns : List Int, ns.length ≤ 63 → ∃ r, exec (Fl Lw.fs 63) Lw.b_law (start0 Lw.N_law.length none [scrD ns] []) = .rt (.bool true) r := by
  intro ns h63
  rw [law_eq]
  show ∃ r, exec (Fl Lw.fs 63) t_law_0 [.val (scrD ns), .un, .un, .un, .un, .un, .un, .un, .un, .un] = .rt (.bool true) r
  obtain ⟨row, hr, _, e16⟩ := hv_num (fs := Lw.fs) (n := 63) h__law_numbers (by omega) ns h63
  obtain ⟨q, hq, e18⟩ := hv_takeN (fs := Lw.fs) (n := 63) h__law_take h__law_draw (by omega) hr 0 5 (by omega)
  have em : 1 + (q : Int) = ((1 + q : Nat) : Int) := by omega
  generalize hm : 1 + q = m at *
  have m1 : 1 ≤ m := by omega
  have m5 : m ≤ 5 := by omega
  obtain ⟨ss, k2, S, e3⟩ := shows_v hr (.val (scrD ns)) .un .un .un .un m1 1
  obtain ⟨k3, s6, s8, eL⟩ := order_loop hr (.val (scrD ns)) .un .un m1 m5 S k2
  have e22 := hv_perms (fs := Lw.fs) (n := 63) h_perms (by omega) m m5
  have hss : PyData.tuple (ss.map PyData.int) = TI ss := rfl
  obtain ⟨x, X, e20⟩ := hv_hd (fs := Lw.fs) (n := 63) h__law_handed h__law_take h__law_draw h__law_listed (m := 1) (tuD_ti ss (by have := S.l2; omega)) (by omega) hr k3
  have e14 := v14 (n := 63) (by omega) m1 (by omega) S X
  obtain ⟨⟨t, a⟩, hB⟩ : ∃ r, ringB m ss = some r := by
    have : ringB m ss = ((arrs m).map (keyI m ss)).foldl bstK none := by unfold ringB; rw [List.foldl_map]
    rw [this]
    exact bstK_some (.inl (by simpa using arrs_ne m m1 m5))
  have hmem : (t, a) ∈ (arrs m).map (keyI m ss) := by
    have h : ((arrs m).map (keyI m ss)).foldl bstK none = some (t, a) := by rw [← hB]; unfold ringB; rw [List.foldl_map]
    rcases bstK_mem h with h | h
    · exact h
    · cases h
  obtain ⟨a', ha', hk⟩ := List.mem_map.mp hmem
  have hk1 : totI m (psI a' ss) = t ∧ a' = a := by
    unfold keyI at hk
    exact ⟨congrArg Prod.fst hk, congrArg Prod.snd hk⟩
  obtain ⟨ht, rfl⟩ := hk1
  have A := arrs_arr m1 (by omega) ha'
  have e13 := v13 (n := 63) (by omega) A S (.inl rfl) (.inl rfl)
  rw [ht] at e13
  have s1 := hv_so (fs := Lw.fs) (n := 63) h__law_so 2 (x := kD t a') (soD_kD t a' (by have := A.len; omega)) (by omega)
  have s2 := hv_so (fs := Lw.fs) (n := 63) h__law_so 0 (x := .int t) (.int t) (by omega)
  rw [hB] at e14 eL
  have hbk : bK (some (t, a')) = kD t a' := rfl
  rw [hbk] at e14 eL
  have eT := tail7 (.val (scrD ns)) (.val (LI row)) (.own [.int ((k3 + 1 : Nat) : Int)]) (.val (.int m)) (.val (TI ss)) (.val (kD t a')) s6 .un s8 .un
  refine ⟨[.val (scrD ns), .val (LI row), .own [.int ((k3 + 1 : Nat) : Int)], .val (.int m), .val (TI ss), .val (kD t a'), s6, .val (.int 7), s8, .un], ?_⟩
  unfold t_law_0 t_law_1 t_law_2 t_law_3 t_law_4 t_law_5 t_law_6 s_law_0 s_law_1 s_law_2 s_law_3 s_law_4 s_law_5 s_law_6 i_law_2
  have e18' : Gs Lw.fs 63 18 [LI row, .int 5] [.int 0] = .ok (.int q) [.int 1] := e18
  have e3' : (ev (Fl Lw.fs 63) c_law_0).o [.val (scrD ns), .val (LI row), .own [.int 1], .val (.int m), .un, .un, .un, .un, .un, .un] = _ := e3
  simp_arith [Fl_S, e16, fits_le, e18', em, e3', hss, e22]
  rw [eL]
  simp_arith [Fl_S, e20, e14, s1, kD_at1, kD_at0, e13, s2]
  exact eT
end Rf.X
set_option Elab.async false
set_option linter.all false
set_option maxRecDepth 100000
set_option maxHeartbeats 8000000
namespace Lw
open PySem PySem.Spec PyProof.Rows L2 LamX Rf
def meth (i : Nat) : Stmt := match top i with
  | .ClassDef _ _ _ (b :: _) _ _ _ _ _ _ _ => b
  | _ => .Pass ⟨0, 0, 0, 0⟩
theorem told_text : told8 (defBody (top 36)) := ⟨_, _, _, _, _, _, _, _, _, _, _, _, _, _, _, _, rfl, ⟨_, _, _, _, _, _, _, _, _, rfl⟩, ⟨_, _, _, _, _, _, _, _, _, rfl⟩, ⟨_, _, _, _, _, _, _, _, _, rfl⟩, ⟨_, _, _, _, _, _, _, _, _, rfl⟩, ⟨_, _, _, _, _, _, _, _, _, rfl⟩, ⟨_, _, _, _, _, _, _, _, _, rfl⟩, ⟨_, _, _, _, _, _, _, _, _, rfl⟩, ⟨_, _, _, _, _, _, _, _, _, rfl⟩⟩
theorem int_text : isIntText (defBody (top 15)) := ⟨_, _, _, _, _, _, _, _, _, _, _, _, _, _, _, _, _, _, _, _, _, _, _, _, _, _, _, _, _, ⟨0, 0, 0, 0⟩, _, _, _, rfl⟩
theorem s_told : FnScope ["deed", "why"] ["deed"] (defScope (top 36)) := C8.fnScope_by (by decide +kernel)
theorem s_init : FnScope ["self", "at"] ["self", "at"] (defScope (meth 5)) := C8.fnScope_by (by decide +kernel)
theorem at_end {w : World} {K : PySem.W.Frag} {mg : Str → Option Value} {h : Heap} {fa : Addr} (X : K.In h) (hfa : mg "law" = some (.ref fa))
    (q_as_tuples : DefAt K mg "as_tuples" (top 2))
    (q_require : DefAt K mg "require" (top 14))
    (q_is_integer : DefAt K mg "is_integer" (top 15))
    (q_is_sequence : DefAt K mg "is_sequence" (top 16))
    (q_all_different : DefAt K mg "all_different" (top 17))
    (q_is_order : DefAt K mg "is_order" (top 19))
    (q_is_arrangement : DefAt K mg "is_arrangement" (top 21))
    (q_are_shows : DefAt K mg "are_shows" (top 22))
    (q_steps_between : DefAt K mg "steps_between" (top 23))
    (q_steps_of : DefAt K mg "steps_of" (top 24))
    (q_turning : DefAt K mg "turning" (top 25))
    (q_best_ring : DefAt K mg "best_ring" (top 26))
    (q__law_so : DefAt K mg "_law_so" (top 28))
    (q__law_numbers : DefAt K mg "_law_numbers" (top 29))
    (q__law_draw : DefAt K mg "_law_draw" (top 30))
    (q__law_take : DefAt K mg "_law_take" (top 31))
    (q__law_listed : DefAt K mg "_law_listed" (top 32))
    (q__law_handed : DefAt K mg "_law_handed" (top 33))
    (q__law_bad_integers : DefAt K mg "_law_bad_integers" (top 34))
    (q__law_perms : DefAt K mg "_law_perms" (top 35))
    (q__law_turning : DefAt K mg "_law_turning" (top 37))
    (q_told : DefAt K mg "_law_told" (top 36))
    (i_permutations : ItAt mg "permutations" (.type "itertools.permutations"))
    (q2 : Def2At K mg h "law" (top 38) "are_integers" (top 18))
    (qc : ClsAt K mg "BadValue" "at" (meth 5))
    (n_BadText : NameAt mg "BadText")
    (n_Ring : NameAt mg "Ring")
    (n_Closed : NameAt mg "Closed")
    (n_TakenDay : NameAt mg "TakenDay")
    (n_TakenSeat : NameAt mg "TakenSeat")
    (n_FreeSeat : NameAt mg "FreeSeat")
    (n_NoRevision : NameAt mg "NoRevision")
    (z_range : mg "range" = none)
    (z_len : mg "len" = none)
    (z_abs : mg "abs" = none)
    (z_sum : mg "sum" = none)
    (z_any : mg "any" = none)
    (z_all : mg "all" = none)
    (z_max : mg "max" = none)
    (z_min : mg "min" = none)
    (z_isinstance : mg "isinstance" = none)
    (z_int : mg "int" = none)
    (z_bool : mg "bool" = none)
    (z_str : mg "str" = none)
    (z_list : mg "list" = none)
    (z_tuple : mg "tuple" = none)
    (z_set : mg "set" = none)
    (z_zip : mg "zip" = none)
    (z_enumerate : mg "enumerate" = none)
    (z_sorted : mg "sorted" = none)
    (math : ∀ ns : List Int, ns.length ≤ 63 → ∃ r, exec (Fl fs 63) b_law (start0 N_law.length none [scrD ns] []) = .rt (.bool true) r) : LawAtS PySem.Challenge.rw_stagewright_k21_whole_revolves w K (L2.CX PySem.Challenge.pw_stagewright_k21_whole_revolves w) 64 63 "script" mg fa h := by
  obtain ⟨f1, fd1, c1, P1, f2, fd2, c2, P2, ⟨F1, m1, e1, hd1, t1, g1⟩, ⟨F2, m2, e2, hd2, t2, g2⟩, ne⟩ := q2.ex
  obtain rfl : fa = f1 := by rw [m1] at hfa; cases hfa; rfl
  have F1c := F1
  obtain ⟨oc, od, kV, doc, pm, an, cdv, ct, osl, rfl, lk, hcd⟩ := F1c.ex
  have lawq : ("law" : Str) ++ ".<locals>." ++ "<lambda>" = ("law" : Str) ++ ".<locals>." ++ "<lambda>" := rfl
  generalize hT : [(P1, ("law" : Str) ++ ".<locals>." ++ "<lambda>"), (P2, ("are_integers" : Str) ++ ".<locals>." ++ "<genexpr>")] = T
  have hu1 : ∀ p ∈ T, p.1 = P1 → p.2 = ("law" : Str) ++ ".<locals>." ++ "<lambda>" := fun p hp he => by
    rw [← hT] at hp
    rcases List.mem_cons.mp hp with rfl | hp
    · rfl
    · rcases List.mem_cons.mp hp with rfl | hp
      · exact absurd he.symm ne
      · cases hp
  have hu2 : ∀ p ∈ T, p.1 = P2 → p.2 = ("are_integers" : Str) ++ ".<locals>." ++ "<genexpr>" := fun p hp he => by
    rw [← hT] at hp
    rcases List.mem_cons.mp hp with rfl | hp
    · exact absurd he ne
    · rcases List.mem_cons.mp hp with rfl | hp
      · rfl
      · cases hp
  refine ⟨PySem.W.fnOf "law" "law" (defArgs (top 38)) (defBody (top 38)) (defScope (top 38)) .none kV doc pm an cdv ct, [(c1, P1), (c2, P2)], lawSp K T 63, fun p hp => ?_, fun p hp => ?_, fun p hp => ?_, fun s u => .of_eq rfl, fun H a ns hl _ ht hS => ⟨a, ns, rfl, hl, ?_, hS, fun _ => rfl⟩, fun base KB GB TB => ?_⟩
  · rcases List.mem_cons.mp hp with rfl | hp
    · exact g1
    · rcases List.mem_cons.mp hp with rfl | hp
      · exact g2
      · cases hp
  · rcases List.mem_cons.mp hp with rfl | hp
    · exact t1
    · rcases List.mem_cons.mp hp with rfl | hp
      · exact t2
      · cases hp
  · rcases List.mem_cons.mp hp with rfl | hp
    · exact PySem.W.codeHd_of_K X hd1
    · rcases List.mem_cons.mp hp with rfl | hp
      · exact PySem.W.codeHd_of_K X hd2
      · cases hp
  · intro p hp
    rw [← hT] at hp
    rcases List.mem_cons.mp hp with rfl | hp
    · exact TabS.nil (ht (c1, P1) List.mem_cons_self)
    · rcases List.mem_cons.mp hp with rfl | hp
      · exact TabS.nil (ht (c2, P2) (List.mem_cons_of_mem _ List.mem_cons_self))
      · cases hp
  · have tb1 : LamX.TabB base mg c1 P1 := TB (c1, P1) List.mem_cons_self
    have tb2 : LamX.TabB base mg c2 P2 := TB (c2, P2) (List.mem_cons_of_mem _ List.mem_cons_self)
    obtain ⟨C0, fI, fdI, qI, cm, cE, ci, ct2, cF, cX, cem⟩ := qc.ex
    obtain ⟨f_as_tuples, fd_as_tuples, F_as_tuples, m_as_tuples⟩ := q_as_tuples.ex
    obtain ⟨f_require, fd_require, F_require, m_require⟩ := q_require.ex
    obtain ⟨f_is_integer, fd_is_integer, F_is_integer, m_is_integer⟩ := q_is_integer.ex
    obtain ⟨f_is_sequence, fd_is_sequence, F_is_sequence, m_is_sequence⟩ := q_is_sequence.ex
    obtain ⟨f_all_different, fd_all_different, F_all_different, m_all_different⟩ := q_all_different.ex
    obtain ⟨f_is_order, fd_is_order, F_is_order, m_is_order⟩ := q_is_order.ex
    obtain ⟨f_is_arrangement, fd_is_arrangement, F_is_arrangement, m_is_arrangement⟩ := q_is_arrangement.ex
    obtain ⟨f_are_shows, fd_are_shows, F_are_shows, m_are_shows⟩ := q_are_shows.ex
    obtain ⟨f_steps_between, fd_steps_between, F_steps_between, m_steps_between⟩ := q_steps_between.ex
    obtain ⟨f_steps_of, fd_steps_of, F_steps_of, m_steps_of⟩ := q_steps_of.ex
    obtain ⟨f_turning, fd_turning, F_turning, m_turning⟩ := q_turning.ex
    obtain ⟨f_best_ring, fd_best_ring, F_best_ring, m_best_ring⟩ := q_best_ring.ex
    obtain ⟨f__law_so, fd__law_so, F__law_so, m__law_so⟩ := q__law_so.ex
    obtain ⟨f__law_numbers, fd__law_numbers, F__law_numbers, m__law_numbers⟩ := q__law_numbers.ex
    obtain ⟨f__law_draw, fd__law_draw, F__law_draw, m__law_draw⟩ := q__law_draw.ex
    obtain ⟨f__law_take, fd__law_take, F__law_take, m__law_take⟩ := q__law_take.ex
    obtain ⟨f__law_listed, fd__law_listed, F__law_listed, m__law_listed⟩ := q__law_listed.ex
    obtain ⟨f__law_handed, fd__law_handed, F__law_handed, m__law_handed⟩ := q__law_handed.ex
    obtain ⟨f__law_bad_integers, fd__law_bad_integers, F__law_bad_integers, m__law_bad_integers⟩ := q__law_bad_integers.ex
    obtain ⟨f__law_perms, fd__law_perms, F__law_perms, m__law_perms⟩ := q__law_perms.ex
    obtain ⟨f__law_turning, fd__law_turning, F__law_turning, m__law_turning⟩ := q__law_turning.ex
    obtain ⟨f_told, fd_told, F_told, m_told⟩ := q_told.ex
    obtain ⟨C_BadText, m_BadText⟩ := n_BadText.ex
    obtain ⟨C_Ring, m_Ring⟩ := n_Ring.ex
    obtain ⟨C_Closed, m_Closed⟩ := n_Closed.ex
    obtain ⟨C_TakenDay, m_TakenDay⟩ := n_TakenDay.ex
    obtain ⟨C_TakenSeat, m_TakenSeat⟩ := n_TakenSeat.ex
    obtain ⟨C_FreeSeat, m_FreeSeat⟩ := n_FreeSeat.ex
    obtain ⟨C_NoRevision, m_NoRevision⟩ := n_NoRevision.ex
    have bl : ∀ x ∈ blNames, mg x = none := by
      intro x hx
      simp only [blNames, List.mem_cons, List.not_mem_nil, or_false] at hx
      rcases hx with rfl | rfl | rfl | rfl | rfl | rfl | rfl | rfl | rfl | rfl | rfl | rfl | rfl | rfl | rfl | rfl | rfl | rfl <;> assumption
    have iF : IntFn K mg f_is_integer := ⟨⟨_, _, _, F_is_integer, s_is_integer, int_text, F_is_integer.binds (fun _ _ _ _ _ _ us hl => match us, hl with | [_, _, _], _ => rfl), by decide +kernel, by decide +kernel, by decide +kernel, by decide +kernel, by decide +kernel, by decide +kernel⟩, z_isinstance, z_int, z_bool⟩
    have I_as_tuples : FnI T K mg base fs cs 1 d_as_tuples := fnI_mk d_as_tuples rfl F_as_tuples m_as_tuples s_as_tuples (F_as_tuples.binds (fun _ _ _ _ _ _ us hl => match us, hl with | [_], _ => rfl)) rfl c_as_tuples fun z => by cases z
    have I_require : FnI T K mg base fs cs 1 d_require := fnI_mk d_require rfl F_require m_require s_require (F_require.binds (fun _ _ _ _ _ _ us hl => match us, hl with | [_, _], _ => rfl)) rfl c_require fun z => by cases z
    have I_is_integer : FnI T K mg base fs cs 1 d_is_integer := fnI_mk d_is_integer rfl F_is_integer m_is_integer s_is_integer (F_is_integer.binds (fun _ _ _ _ _ _ us hl => match us, hl with | [_, _, _], _ => rfl)) rfl c_is_integer fun z => by cases z
    have I_is_sequence : FnI T K mg base fs cs 1 d_is_sequence := fnI_mk d_is_sequence rfl F_is_sequence m_is_sequence s_is_sequence (F_is_sequence.binds (fun _ _ _ _ _ _ us hl => match us, hl with | [_, _, _], _ => rfl)) rfl c_is_sequence fun z => by cases z
    have I_all_different : FnI T K mg base fs cs 1 d_all_different := fnI_mk d_all_different rfl F_all_different m_all_different s_all_different (F_all_different.binds (fun _ _ _ _ _ _ us hl => match us, hl with | [_], _ => rfl)) rfl c_all_different fun z => by cases z
    have I_is_order : FnI T K mg base fs cs 1 d_is_order := fnI_mk d_is_order rfl F_is_order m_is_order s_is_order (F_is_order.binds (fun _ _ _ _ _ _ us hl => match us, hl with | [_, _], _ => rfl)) rfl c_is_order fun z => by cases z
    have I_is_arrangement : FnI T K mg base fs cs 1 d_is_arrangement := fnI_mk d_is_arrangement rfl F_is_arrangement m_is_arrangement s_is_arrangement (F_is_arrangement.binds (fun _ _ _ _ _ _ us hl => match us, hl with | [_], _ => rfl)) rfl c_is_arrangement fun z => by cases z
    have I_are_shows : FnI T K mg base fs cs 1 d_are_shows := fnI_mk d_are_shows rfl F_are_shows m_are_shows s_are_shows (F_are_shows.binds (fun _ _ _ _ _ _ us hl => match us, hl with | [_], _ => rfl)) rfl c_are_shows fun z => by cases z
    have I_steps_between : FnI T K mg base fs cs 1 d_steps_between := fnI_mk d_steps_between rfl F_steps_between m_steps_between s_steps_between (F_steps_between.binds (fun _ _ _ _ _ _ us hl => match us, hl with | [_, _, _], _ => rfl)) rfl c_steps_between fun z => by cases z
    have I_steps_of : FnI T K mg base fs cs 1 d_steps_of := fnI_mk d_steps_of rfl F_steps_of m_steps_of s_steps_of (F_steps_of.binds (fun _ _ _ _ _ _ us hl => match us, hl with | [_, _], _ => rfl)) rfl c_steps_of fun z => by cases z
    have I_turning : FnI T K mg base fs cs 1 d_turning := fnI_mk d_turning rfl F_turning m_turning s_turning (F_turning.binds (fun _ _ _ _ _ _ us hl => match us, hl with | [_, _], _ => rfl)) rfl c_turning fun z => by cases z
    have I_best_ring : FnI T K mg base fs cs 1 d_best_ring := fnI_mk d_best_ring rfl F_best_ring m_best_ring s_best_ring (F_best_ring.binds (fun _ _ _ _ _ _ us hl => match us, hl with | [_, _], _ => rfl)) rfl c_best_ring fun z => by cases z
    have I__law_so : FnI T K mg base fs cs 1 d__law_so := fnI_mk d__law_so rfl F__law_so m__law_so s__law_so (F__law_so.binds (fun _ _ _ _ _ _ us hl => match us, hl with | [_, _], _ => rfl)) rfl c__law_so fun z => by cases z
    have I__law_numbers : FnI T K mg base fs cs 1 d__law_numbers := fnI_mk d__law_numbers rfl F__law_numbers m__law_numbers s__law_numbers (F__law_numbers.binds (fun _ _ _ _ _ _ us hl => match us, hl with | [_], _ => rfl)) rfl c__law_numbers fun z => by cases z
    have I__law_draw : FnI T K mg base fs cs 1 d__law_draw := fnI_mk d__law_draw rfl F__law_draw m__law_draw s__law_draw (F__law_draw.binds (fun _ _ _ _ _ _ us hl => match us, hl with | [_, _, _], _ => rfl)) rfl c__law_draw fun z => by cases z
    have I__law_take : FnI T K mg base fs cs 1 d__law_take := fnI_mk d__law_take rfl F__law_take m__law_take s__law_take (F__law_take.binds (fun _ _ _ _ _ _ us hl => match us, hl with | [_, _, _], _ => rfl)) rfl c__law_take fun z => by cases z
    have I__law_listed : FnI T K mg base fs cs 1 d__law_listed := fnI_mk d__law_listed rfl F__law_listed m__law_listed s__law_listed (F__law_listed.binds (fun _ _ _ _ _ _ us hl => match us, hl with | [_], _ => rfl)) rfl c__law_listed fun z => by cases z
    have I__law_handed : FnI T K mg base fs cs 1 d__law_handed := fnI_mk d__law_handed rfl F__law_handed m__law_handed s__law_handed (F__law_handed.binds (fun _ _ _ _ _ _ us hl => match us, hl with | [_, _, _], _ => rfl)) rfl c__law_handed fun z => by cases z
    have I__law_bad_integers : FnI T K mg base fs cs 1 d__law_bad_integers := fnI_mk d__law_bad_integers rfl F__law_bad_integers m__law_bad_integers s__law_bad_integers (F__law_bad_integers.binds (fun _ _ _ _ _ _ us hl => match us, hl with | [], _ => rfl)) rfl c__law_bad_integers fun z => by cases z
    have I__law_perms : FnI T K mg base fs cs 1 d__law_perms := fnI_mk d__law_perms rfl F__law_perms m__law_perms s__law_perms (F__law_perms.binds (fun _ _ _ _ _ _ us hl => match us, hl with | [_], _ => rfl)) rfl c__law_perms fun z => by cases z
    have I__law_turning : FnI T K mg base fs cs 1 d__law_turning := fnI_mk d__law_turning rfl F__law_turning m__law_turning s__law_turning (F__law_turning.binds (fun _ _ _ _ _ _ us hl => match us, hl with | [_, _], _ => rfl)) rfl c__law_turning fun z => by cases z
    have I_are_integers : FnI T K mg base fs cs 1 d_are_integers := fnI_mk d_are_integers rfl F2 m2 s_are_integers (F2.binds (fun _ _ _ _ _ _ us hl => match us, hl with | [_, _, _, _, _], _ => rfl)) rfl c_are_integers fun _ => ⟨c2, P2, f_is_integer, e2, tb2, by rw [← hT]; exact List.mem_cons_of_mem _ List.mem_cons_self, hu2, iF, m_is_integer, F_is_integer.kp⟩
    have St : Stat T [(C0, "at")] K mg base fs cs := by
      refine ⟨fun i d h ne => ?_, ⟨d_as_tuples, rfl, rfl, rfl, rfl⟩, rfl, rfl, fun e x he hl => ?_, bl, fun p hp => ?_⟩
      · match i, h, ne with
        | 0, h, ne => cases h; exact I_as_tuples
        | 1, h, ne => cases h; exact absurd rfl ne
        | 2, h, ne => cases h; exact absurd rfl ne
        | 3, h, ne => cases h; exact I_require
        | 4, h, ne => cases h; exact I_is_integer
        | 5, h, ne => cases h; exact I_is_sequence
        | 6, h, ne => cases h; exact I_all_different
        | 7, h, ne => cases h; exact I_are_integers
        | 8, h, ne => cases h; exact I_is_order
        | 9, h, ne => cases h; exact I_is_arrangement
        | 10, h, ne => cases h; exact I_are_shows
        | 11, h, ne => cases h; exact I_steps_between
        | 12, h, ne => cases h; exact I_steps_of
        | 13, h, ne => cases h; exact I_turning
        | 14, h, ne => cases h; exact I_best_ring
        | 15, h, ne => cases h; exact I__law_so
        | 16, h, ne => cases h; exact I__law_numbers
        | 17, h, ne => cases h; exact I__law_draw
        | 18, h, ne => cases h; exact I__law_take
        | 19, h, ne => cases h; exact I__law_listed
        | 20, h, ne => cases h; exact I__law_handed
        | 21, h, ne => cases h; exact I__law_bad_integers
        | 22, h, ne => cases h; exact I__law_perms
        | 23, h, ne => cases h; exact I__law_turning
        | n + 24, h, ne => simp [fs] at h
      · cases e with
        | zero =>
          cases he
          exact ⟨C0, "at", rfl, ⟨qI, _, fI, fdI, "at", _, _, _, _, _, _, cm, cE, ci, ct2, cF, s_init, cF.binds (fun _ _ _ _ _ _ us hl => match us, hl with | [_, _], _ => rfl), rfl, by decide, by decide +kernel, .inl (by decide +kernel), .inl (by decide +kernel)⟩⟩
        | succ e => exact absurd hl (by simp)
      · simp only [cs, List.mem_cons, List.not_mem_nil, or_false] at hp
        rcases hp with rfl
        · exact .inr ⟨0, rfl, i_permutations.ex⟩
    have To : ToldS [(C0, "at")] PySem.Challenge.pw_stagewright_k21_whole_revolves w K mg base "_law_told" exNames := toldS_mk F_told m_told s_told (F_told.binds (fun _ _ _ _ _ _ us hl => match us, hl with | [_], _ => rfl)) told_text (.inl (by decide +kernel)) (by decide +kernel) cm m_BadText m_Ring m_Closed m_TakenDay m_TakenSeat m_FreeSeat m_NoRevision (by decide +kernel) cX cE.no cem
    exact law_ok (L := 60) (m := 63) St ⟨F1, s_law, rfl, c_law, ⟨c1, P1, e1, tb1, by rw [← hT]; exact List.mem_cons_self, hu1, To⟩, by decide⟩ math
end Lw
set_option Elab.async false
set_option linter.all false
theorem Lw.math : ∀ ns : List Int, ns.length ≤ 63 → ∃ r, Rf.exec (Rf.Fl Lw.fs 63) Lw.b_law (Rf.start0 Lw.N_law.length none [Rf.scrD ns] []) = .rt (.bool true) r := Rf.X.law_math
open PySem PySem.W PyProof.Rows
set_option maxRecDepth 100000 in
set_option maxHeartbeats 0 in
theorem PySem.Challenge.cw_stagewright_k21_whole_revolves_holds : PySem.Challenge.rw_stagewright_k21_whole_revolves.Holds := by
  w_on; o_law; k_head; (case hw => w_witness2)
  k_fill
  refine Rf.walk_tabs (l := PySem.Challenge.rw_stagewright_k21_whole_revolves) (n := 63) (k := 64) (x := "script") (CX := fun w => L2.CX PySem.Challenge.pw_stagewright_k21_whole_revolves w) rfl (by decide) rfl ⟨rfl, by decide, by decide⟩ (fun w h Y => PySem.W.km_in_of Y) ?F (fun w H s e s' z => by obtain ⟨_, _, _, _, _, _, _, _, _, _, _, _, z⟩ := z; exact z.elim)
  case F =>
    intro w mg fa h Y KX G hmg tabs
    refine' Lw.at_end KX hmg ?q_as_tuples ?q_require ?q_is_integer ?q_is_sequence ?q_all_different ?q_is_order ?q_is_arrangement ?q_are_shows ?q_steps_between ?q_steps_of ?q_turning ?q_best_ring ?q__law_so ?q__law_numbers ?q__law_draw ?q__law_take ?q__law_listed ?q__law_handed ?q__law_bad_integers ?q__law_perms ?q__law_turning ?q_told ?i_permutations ?q2 ?qc ?n_BadText ?n_Ring ?n_Closed ?n_TakenDay ?n_TakenSeat ?n_FreeSeat ?n_NoRevision ?z_range ?z_len ?z_abs ?z_sum ?z_any ?z_all ?z_max ?z_min ?z_isinstance ?z_int ?z_bool ?z_str ?z_list ?z_tuple ?z_set ?z_zip ?z_enumerate ?z_sorted Lw.math
    case q_as_tuples =>
      refine' Rf.def_at KX G "as_tuples" (Lw.top 2) ?a ?l ?c ?k
      (case a => k_is); (case l => k_is); (case c => k_is); (case k => k_is)
    case q_require =>
      refine' Rf.def_at KX G "require" (Lw.top 14) ?a ?l ?c ?k
      (case a => k_is); (case l => k_is); (case c => k_is); (case k => k_is)
    case q_is_integer =>
      refine' Rf.def_at KX G "is_integer" (Lw.top 15) ?a ?l ?c ?k
      (case a => k_is); (case l => k_is); (case c => k_is); (case k => k_is)
    case q_is_sequence =>
      refine' Rf.def_at KX G "is_sequence" (Lw.top 16) ?a ?l ?c ?k
      (case a => k_is); (case l => k_is); (case c => k_is); (case k => k_is)
    case q_all_different =>
      refine' Rf.def_at KX G "all_different" (Lw.top 17) ?a ?l ?c ?k
      (case a => k_is); (case l => k_is); (case c => k_is); (case k => k_is)
    case q_is_order =>
      refine' Rf.def_at KX G "is_order" (Lw.top 19) ?a ?l ?c ?k
      (case a => k_is); (case l => k_is); (case c => k_is); (case k => k_is)
    case q_is_arrangement =>
      refine' Rf.def_at KX G "is_arrangement" (Lw.top 21) ?a ?l ?c ?k
      (case a => k_is); (case l => k_is); (case c => k_is); (case k => k_is)
    case q_are_shows =>
      refine' Rf.def_at KX G "are_shows" (Lw.top 22) ?a ?l ?c ?k
      (case a => k_is); (case l => k_is); (case c => k_is); (case k => k_is)
    case q_steps_between =>
      refine' Rf.def_at KX G "steps_between" (Lw.top 23) ?a ?l ?c ?k
      (case a => k_is); (case l => k_is); (case c => k_is); (case k => k_is)
    case q_steps_of =>
      refine' Rf.def_at KX G "steps_of" (Lw.top 24) ?a ?l ?c ?k
      (case a => k_is); (case l => k_is); (case c => k_is); (case k => k_is)
    case q_turning =>
      refine' Rf.def_at KX G "turning" (Lw.top 25) ?a ?l ?c ?k
      (case a => k_is); (case l => k_is); (case c => k_is); (case k => k_is)
    case q_best_ring =>
      refine' Rf.def_at KX G "best_ring" (Lw.top 26) ?a ?l ?c ?k
      (case a => k_is); (case l => k_is); (case c => k_is); (case k => k_is)
    case q__law_so =>
      refine' Rf.def_at KX G "_law_so" (Lw.top 28) ?a ?l ?c ?k
      (case a => k_is); (case l => k_is); (case c => k_is); (case k => k_is)
    case q__law_numbers =>
      refine' Rf.def_at KX G "_law_numbers" (Lw.top 29) ?a ?l ?c ?k
      (case a => k_is); (case l => k_is); (case c => k_is); (case k => k_is)
    case q__law_draw =>
      refine' Rf.def_at KX G "_law_draw" (Lw.top 30) ?a ?l ?c ?k
      (case a => k_is); (case l => k_is); (case c => k_is); (case k => k_is)
    case q__law_take =>
      refine' Rf.def_at KX G "_law_take" (Lw.top 31) ?a ?l ?c ?k
      (case a => k_is); (case l => k_is); (case c => k_is); (case k => k_is)
    case q__law_listed =>
      refine' Rf.def_at KX G "_law_listed" (Lw.top 32) ?a ?l ?c ?k
      (case a => k_is); (case l => k_is); (case c => k_is); (case k => k_is)
    case q__law_handed =>
      refine' Rf.def_at KX G "_law_handed" (Lw.top 33) ?a ?l ?c ?k
      (case a => k_is); (case l => k_is); (case c => k_is); (case k => k_is)
    case q__law_bad_integers =>
      refine' Rf.def_at KX G "_law_bad_integers" (Lw.top 34) ?a ?l ?c ?k
      (case a => k_is); (case l => k_is); (case c => k_is); (case k => k_is)
    case q__law_perms =>
      refine' Rf.def_at KX G "_law_perms" (Lw.top 35) ?a ?l ?c ?k
      (case a => k_is); (case l => k_is); (case c => k_is); (case k => k_is)
    case q__law_turning =>
      refine' Rf.def_at KX G "_law_turning" (Lw.top 37) ?a ?l ?c ?k
      (case a => k_is); (case l => k_is); (case c => k_is); (case k => k_is)
    case q_told =>
      refine' Rf.def_at KX G "_law_told" (Lw.top 36) ?a ?l ?c ?k
      (case a => k_is); (case l => k_is); (case c => k_is); (case k => k_is)
    case q2 =>
      refine' Rf.def2_at KX G "law" (Lw.top 38) "are_integers" (Lw.top 18) (fun f hf => tabs _ f (by decide +kernel) hf) (fun f hf => tabs _ f (by decide +kernel) hf) ?a1 ?l1 ?d1 ?k1 ?a2 ?l2 ?d2 ?k2 ?o1 ?o2 ?p1 ?p2 ?e1 ?e2 ?t1 ?t2 ?ne
      (case a1 => k_is); (case l1 => k_is); (case d1 => k_is); (case k1 => k_is); (case a2 => k_is); (case l2 => k_is); (case d2 => k_is); (case k2 => k_is)
      (case o1 => k_is); (case o2 => k_is); (case p1 => rfl); (case p2 => rfl); (case e1 => first | k_is | rfl | decide +kernel); (case e2 => first | k_is | rfl | decide +kernel); (case t1 => first | k_is | rfl); (case t2 => first | k_is | rfl); (case ne => decide)
    case i_permutations =>
      refine' Rf.it_at KX G "permutations" (.type "itertools.permutations") ?a
      (case a => k_is)
    case qc =>
      refine' Rf.cls_at KX G "BadValue" "at" "BadValue.__init__" (Lw.meth 5) ?a ?xC ?sa ?ga ?gg ?no ?iC ?tI ?l ?c ?kI ?kC ?eC ?tC ?hC ?isC ?sC
      (case a => k_is); (case xC => k_is); (case sa => k_is); (case ga => k_is); (case gg => k_is); (case no => k_is); (case iC => k_is); (case tI => k_is); (case l => k_is); (case c => k_is); (case kI => k_is)
      (case kC => k_is); (case eC => k_is); (case tC => k_is); (case hC => k_is); (case isC => k_is); (case sC => first | rfl | k_is)
    case n_BadText =>
      refine' Rf.name_at KX G "BadText" ?a
      (case a => k_is)
    case n_Ring =>
      refine' Rf.name_at KX G "Ring" ?a
      (case a => k_is)
    case n_Closed =>
      refine' Rf.name_at KX G "Closed" ?a
      (case a => k_is)
    case n_TakenDay =>
      refine' Rf.name_at KX G "TakenDay" ?a
      (case a => k_is)
    case n_TakenSeat =>
      refine' Rf.name_at KX G "TakenSeat" ?a
      (case a => k_is)
    case n_FreeSeat =>
      refine' Rf.name_at KX G "FreeSeat" ?a
      (case a => k_is)
    case n_NoRevision =>
      refine' Rf.name_at KX G "NoRevision" ?a
      (case a => k_is)
    case z_range =>
      refine' Rf.free_at KX G "range" ?a
      (case a => k_is)
    case z_len =>
      refine' Rf.free_at KX G "len" ?a
      (case a => k_is)
    case z_abs =>
      refine' Rf.free_at KX G "abs" ?a
      (case a => k_is)
    case z_sum =>
      refine' Rf.free_at KX G "sum" ?a
      (case a => k_is)
    case z_any =>
      refine' Rf.free_at KX G "any" ?a
      (case a => k_is)
    case z_all =>
      refine' Rf.free_at KX G "all" ?a
      (case a => k_is)
    case z_max =>
      refine' Rf.free_at KX G "max" ?a
      (case a => k_is)
    case z_min =>
      refine' Rf.free_at KX G "min" ?a
      (case a => k_is)
    case z_isinstance =>
      refine' Rf.free_at KX G "isinstance" ?a
      (case a => k_is)
    case z_int =>
      refine' Rf.free_at KX G "int" ?a
      (case a => k_is)
    case z_bool =>
      refine' Rf.free_at KX G "bool" ?a
      (case a => k_is)
    case z_str =>
      refine' Rf.free_at KX G "str" ?a
      (case a => k_is)
    case z_list =>
      refine' Rf.free_at KX G "list" ?a
      (case a => k_is)
    case z_tuple =>
      refine' Rf.free_at KX G "tuple" ?a
      (case a => k_is)
    case z_set =>
      refine' Rf.free_at KX G "set" ?a
      (case a => k_is)
    case z_zip =>
      refine' Rf.free_at KX G "zip" ?a
      (case a => k_is)
    case z_enumerate =>
      refine' Rf.free_at KX G "enumerate" ?a
      (case a => k_is)
    case z_sorted =>
      refine' Rf.free_at KX G "sorted" ?a
      (case a => k_is)
