import PyProof.Rows.All
import Wide.All
import OpenK.AllK
import Wide.FinOn
import HandS.Base
import HandS.Call
import HandS.List
import HandS.Comp
import HandS.Ends
import HandS.Dict
import HandS.More
import HandS.Conv
import HandS.Small
import HandS.Deep
import HandS.TupAny
import HandS.IsInst
import HandS.Iter
import HandS.WordsDict
import KE.KStateDown
import HandS.Exc
import HandS.ExcOwn
import HandS.Property
import HandS.Nested
import HandS.Words
import HandS.Defaults
import HandS.Head0
import HandS.Head1
import HandS.Head2
import HandS.HeadEnd
import HandS.Style
import HandS.HeadHook1
import HandS.HeadHook2
import HandS.HeadHook3
import PyProof.DictUpdate
import KE.KDictCopyH
import HandS.TupMul
import HandS.ClsMeth
import KE.KSuper
import KE.KSuperObj
import KE.KOpsOwn
import HandS.MakeKw
import HandS.MakeKwOnly
import HandS.DictEq
import HandS.HeadNt
import HandS.SortKw
import KE.KExcIs
import HandS.ExcIs
import HandS.ExcInit
import HandS.ExcField
import HandS.TryMany
import KE.KExcSuper
import KE.KMinBuiltin
import PyProof.WalkInts
import PyProof.WalksMore
import KE.KSortKeyAny
import PyProof.TupleOfSeq
import PySem.Challenge.RW_epochrooms_k42_spans_and_faults
section
set_option Elab.async false
set_option linter.all false
set_option maxRecDepth 100000
set_option maxHeartbeats 4000000
/-! Merging one dict into another, as a display with ** and a call with ** do it. -/
namespace MB
open PySem

section
variable {prog : Program} {w : World} {K : Type} [DecidableEq K] {kk : KeyKind prog w K} {A : Around} {E : Value → Shared → Prop} {s : Shared}

theorem put_one {d : Addr} {old : List (K × Value)} {k : K} {key v : Value} {Q : Unit → Shared → Prop} (ik : kk.is k key = true) (D : s.heap.DictOf kk d old) (few : old.length ≤ sizeLine)
    (q : ∀ h', h'.DictOf kk d (stored old k v) → Heap.SameBut d s.heap h' → Q () { s with heap := h' }) : wpAny (model prog w) A (dictPut d (kk.hash k) key v) Q E s := by
  obtain ⟨ob, ents, ep, e1, e2, e3, e4, e5, e6⟩ := D
  have len : ents.size ≤ sizeLine := by
    have a1 := e5.length
    have a2 : ents.toList.length = ents.size := by simp
    omega
  unfold dictPut
  refine wpAny_bind (wpAny_dictFind_of ik e1 e3 e4 ?_)
  have same : (ents.findIdx? fun x => kk.is k x.key) = old.findIdx? fun y => decide (y.1 = k) := by
    have := e5.findIdx k
    obtain ⟨l⟩ := ents
    simpa using this
  cases z : ents.findIdx? fun x => kk.is k x.key with
  | none =>
    have out : k ∉ old.map (·.1) := not_mem_of_findIdx_none (same ▸ z)
    have no : ¬ (old.any fun y => decide (y.1 = k)) = true := fun t => by
      obtain ⟨y, hy, hk⟩ := List.any_eq_true.mp t
      exact out (List.mem_map.mpr ⟨y, hy, of_decide_eq_true hk⟩)
    refine wpAny_updateDictKeys (hz := len) e1 e3 (q _ ⟨_, _, ep + 1, Heap.get?_update_self _ e1 (Obj.isFreed_of_dict (Obj.data_mapDictKeys e3 _)), e2.mapDictKeys _, Obj.data_mapDictKeys e3 _, e4.push ik _, ?_, ?_⟩ (Heap.SameBut.update ..))
    · have t := e5.append ik (kk.hash k) v
      rw [stored, if_neg no]
      obtain ⟨l⟩ := ents
      simpa using t
    · rw [stored, if_neg no, List.map_append, List.nodup_append]
      refine ⟨e6, by simp, fun x hx y hy => ?_⟩
      have ey : y = k := by simpa using hy
      subst ey
      exact fun e => out (e ▸ hx)
  | some i =>
    have yes := any_of_findIdx_some (same ▸ z)
    refine wpAny_updateDict e1 e3 (q _ ⟨_, _, ep, Heap.get?_update_self _ e1 (Obj.isFreed_of_dict (Obj.data_mapDict e3 _)), e2.mapDict _, Obj.data_mapDict e3 _, e4.modify _ _, ?_, ?_⟩ (Heap.SameBut.update ..))
    · have l1 : (ents.toList.findIdx? fun x => kk.is k x.key) = some i := by
        rw [← z]
        obtain ⟨l⟩ := ents
        simp
      have t := e5.modify e6 l1 v
      rw [stored, if_pos yes]
      obtain ⟨l⟩ := ents
      simpa using t
    · rw [stored, if_pos yes, keys_map_store]
      exact e6

theorem find_no {d : Addr} {old : List (K × Value)} {k : K} {key : Value} {Q : Option Nat → Shared → Prop} (ik : kk.is k key = true) (D : s.heap.DictOf kk d old) (out : k ∉ old.map (·.1)) (q : Q none s) : wpAny (model prog w) A (dictFind d key (kk.hash k)) Q E s := by
  obtain ⟨ob, ents, ep, e1, e2, e3, e4, e5, e6⟩ := D
  refine wpAny_dictFind_of ik e1 e3 e4 ?_
  have same : (ents.findIdx? fun x => kk.is k x.key) = old.findIdx? fun y => decide (y.1 = k) := by
    have := e5.findIdx k
    obtain ⟨l⟩ := ents
    simpa using this
  rw [same]
  have : (old.findIdx? fun y => decide (y.1 = k)) = none := by
    rw [List.findIdx?_eq_none_iff]
    intro y hy
    exact decide_eq_false fun t => out (List.mem_map.mpr ⟨y, hy, t⟩)
  rw [this]
  exact q

theorem merge_two {d o : Addr} {old new : List (K × Value)} {unique : Bool} {Q : Unit → Shared → Prop} (ne : d ≠ o) (low : (o == sysModules) = false) (nr : ∀ k key, kk.is k key = true → ∀ a, key ≠ .ref a)
    (D : s.heap.DictOf kk d old) (O : s.heap.DictOf kk o new) (few : old.length + new.length ≤ sizeLine) (un : unique = true → ((old ++ new).map (·.1)).Nodup)
    (q : ∀ h', h'.DictOf kk d (merged old new) → Heap.SameBut d s.heap h' → Q () { s with heap := h' }) : wpAny (model prog w) A (mergeMapping d (.ref o) unique) Q E s := by
  obtain ⟨od, esd, epd, d1, d2, d3, d4, d5, d6⟩ := id D
  obtain ⟨oo, eso, epo, o1, o2, o3, o4, o5, o6⟩ := id O
  have ty : s.TypeIs (.ref o) "dict" := ⟨oo, o1, o2.1⟩
  have sz : new.length = eso.size := by rw [← o5.length]; simp
  unfold mergeMapping
  have sub : isSubtype (.type "dict") (.type "dict") = pure true := by rw [isSubtype_type]; kernel_rfl
  refine wpAny_bind (wpAny_isInstance ty sub ?_)
  rw [if_pos rfl]
  refine wpAny_bind (wpAny_specialOf ty F.slot_dict_iter.lookup (wpAny_bind (wpAny_pure ?_)))
  show wpAny _ _ (if (o == sysModules) = true then _ else _) _ _ _
  rw [if_neg (by rw [low]; exact Bool.false_ne_true)]
  refine wpAny_bind (wpAny_dictEntries d1 d3 ?_)
  -- the walk over the new pairs
  have walk : wpAny (model prog w) A (do
      let l0 ← dictEntries o
      let ep0 ← dictEpoch o
      forIn (List.range l0.size) PUnit.unit fun i (_ : PUnit) => (do
        let l1 ← dictEntries o
        match l1[i]? with
        | some x => do
          holding [x.key, x.val] (if unique = true then (do
              let r ← dictFind d x.key x.hash
              if r.isSome = true then (do
                rule "dict.merge.duplicate-key"
                let y ← newExc (.type "KeyError") [x.key]
                let _ ← (raiseNew y : Sem PUnit)
                dictPut d x.hash x.key x.val)
              else dictPut d x.hash x.key x.val)
            else dictPut d x.hash x.key x.val)
          let ep1 ← dictEpoch o
          if (ep1 != ep0) = true then (do
            (unsupported "dict.changed-during-merge" : Sem PUnit)
            pure (ForInStep.yield PUnit.unit))
          else pure (ForInStep.yield PUnit.unit)
        | _ => do
          (unsupported "dict.changed-during-merge" : Sem PUnit)
          pure (ForInStep.yield PUnit.unit) : Sem (ForInStep PUnit))
      pure ()) Q E s := by
    refine wpAny_bind (wpAny_dictEntries o1 o3 (wpAny_bind (wpAny_dictEpoch o1 o3 (wpAny_bind ?_))))
    rw [List.range_eq_range']
    refine wpAny_forIn_list _ (fun rest _ s' => ∃ h' i, s' = { s with heap := h' } ∧ rest = List.range' i (eso.size - i) ∧ i ≤ eso.size ∧ h'.DictOf kk d (merged old (new.take i)) ∧ h'.get? o = some oo ∧ Heap.SameBut d s.heap h') _ ?_ ?_ _ _
      ⟨s.heap, 0, rfl, by simp, Nat.zero_le _, by simpa [merged] using D, o1, Heap.SameBut.refl _ _⟩
    · rintro i0 rest _ _ ⟨h', i, rfl, er, le, D', o1', sb⟩
      have lt : i < eso.size := Nat.lt_of_not_le fun z => by
        rw [Nat.sub_eq_zero_of_le z] at er
        cases er
      have e0 : eso.size - i = (eso.size - (i + 1)) + 1 := by omega
      rw [e0, List.range'_succ] at er
      injection er with t1 t2
      subst t1
      refine wpAny_bind (wpAny_dictEntries o1' o3 ?_)
      rw [Array.getElem?_eq_getElem lt]
      have lt2 : i0 < new.length := by rw [sz]; exact lt
      obtain ⟨⟨k, v⟩, kv⟩ : ∃ y, new[i0]? = some y := ⟨_, List.getElem?_eq_getElem lt2⟩
      obtain ⟨ik, iv⟩ := o5.get? (e := eso[i0]) (by simp [lt]) kv
      obtain ⟨k', ik', ih⟩ := o4 eso[i0] (Array.getElem_mem lt)
      have ek : k' = k := kk.inj _ _ _ ik' ik
      subst ek
      have m1 : (merged old (new.take i0)).length ≤ sizeLine := by
        have a1 := merged_length_le old (new.take i0)
        have a2 : (new.take i0).length ≤ new.length := by rw [List.length_take]; omega
        omega
      dsimp only
      rw [ih, iv]
      have put : wpAny (model prog w) A (dictPut d (kk.hash k') eso[i0].key v) (fun _ s' => wpAny (model prog w) A (do
          let ep1 ← dictEpoch o
          if (ep1 != epo) = true then (do
            (unsupported "dict.changed-during-merge" : Sem PUnit)
            pure (ForInStep.yield PUnit.unit))
          else pure (ForInStep.yield PUnit.unit) : Sem (ForInStep PUnit)) (fun r s' => match r with
            | .yield _ => ∃ h' i, s' = { s with heap := h' } ∧ rest = List.range' i (eso.size - i) ∧ i ≤ eso.size ∧ h'.DictOf kk d (merged old (new.take i)) ∧ h'.get? o = some oo ∧ Heap.SameBut d s.heap h'
            | .done _ => False) E s') E { s with heap := h' } :=
        put_one ik' D' m1 fun h2 D2 sb2 => by
          have o2' : h2.get? o = some oo := (sb2.2 o ne.symm).trans o1'
          refine wpAny_bind (wpAny_dictEpoch o2' o3 ?_)
          rw [if_neg (by simp)]
          exact wpAny_pure ⟨h2, i0 + 1, rfl, t2, lt, by rw [merged_take_succ old new i0 (k', v) kv]; exact D2, o2', sb.trans sb2⟩
      cases unique with
      | false =>
        rw [if_neg Bool.false_ne_true]
        refine wpAny_bind (wpAny_holding (wpAny_mono put (fun _ _ z => wpAny_mono z (fun r s2 y => ?_) fun _ _ z => z) fun _ _ z => z))
        cases r with
        | yield _ => exact y
        | done _ => exact y.elim
      | true =>
        rw [if_pos rfl]
        refine wpAny_bind (wpAny_holding (wpAny_bind (find_no ik' D' ?_ ?_)))
        · have nd := un rfl
          rw [merged_append_of_fresh old (new.take i0) ?_]
          · have hsub : ((old ++ new.take i0).map (·.1)) ++ [k'] = (old ++ new.take (i0 + 1)).map (·.1) := by
              rw [List.take_add_one, kv]
              simp
            have nd2 : ((old ++ new.take (i0 + 1)).map (·.1)).Nodup := by
              refine List.Nodup.sublist ?_ nd
              exact ((List.Sublist.refl old).append (List.take_sublist ..)).map _
            rw [← hsub, List.nodup_append] at nd2
            exact fun z => nd2.2.2 _ z k' (by simp) rfl
          · refine List.Nodup.sublist ?_ nd
            exact ((List.Sublist.refl old).append (List.take_sublist ..)).map _
        · rw [if_neg (by simp)]
          refine wpAny_mono put (fun _ _ z => wpAny_mono z (fun r s2 y => ?_) fun _ _ z => z) fun _ _ z => z
          cases r with
          | yield _ => exact y
          | done _ => exact y.elim
    · rintro _ _ ⟨h', i, rfl, er, le, D', o1', sb⟩
      have e : i = eso.size := by
        rcases Nat.lt_or_ge i eso.size with z | z
        · have e0 : eso.size - i = (eso.size - (i + 1)) + 1 := by omega
          rw [e0, List.range'_succ] at er
          cases er
        · exact Nat.le_antisymm le z
      rw [e, ← sz, List.take_length] at D'
      exact wpAny_pure (q h' D' sb)
  have walk2 := walk
  cases hz : esd.isEmpty with
  | false =>
    rw [if_neg Bool.false_ne_true]
    exact walk2
  | true =>
    rw [if_pos rfl]
    refine wpAny_bind (wpAny_dictEntries o1 o3 (wpAny_bind ?_))
    obtain ⟨l⟩ := eso
    rw [List.forIn_toArray]
    refine wpAny_forIn_list _ (fun rest _ s' => s' = s ∧ ∀ x ∈ rest, x ∈ l) _ ?_ ?_ _ _ ⟨rfl, fun _ h => h⟩
    · rintro x rest b s' ⟨rfl, sub⟩
      have hx : x ∈ l := sub x (by simp)
      obtain ⟨k, ik, _⟩ := o4 x (by simpa using hx)
      have := nr k x.key ik
      cases hk : x.key with
      | ref a => exact absurd hk (this a)
      | _ => exact wpAny_pure ⟨rfl, fun y hy => sub y (List.mem_cons_of_mem _ hy)⟩
    · rintro b s' ⟨rfl, _⟩
      exact walk2
end
end MB
end

section
set_option Elab.async false
set_option linter.all false
set_option maxRecDepth 100000
set_option maxHeartbeats 4000000
/-! The M layer, part 0: values and objects of a pure heap, and what they stand for. -/
namespace ML
open PySem L2

abbrev S := List Nat
def toStr (s : S) : Str := ⟨s.toArray⟩
theorem toStr_inj {a b : S} (h : toStr a = toStr b) : a = b := by
  unfold toStr at h
  injection h with h
  have := congrArg Array.toList h
  simpa using this
/-- a value: None, a bool, an int, a text (its codes), a def of the module, a mutable object by its number, a tuple as a tree -/
inductive VI where
  | non | bl (b : Bool) | int (i : Int) | str (s : S) | glo (g : S) | ref (n : Nat) | tup (xs : List VI)
/-- an object that may change (scr: the script, read only; xd: an exception's fields) -/
inductive OI where
  | lst (xs : List VI) | dic (kvs : List (VI × VI)) | ins (c : Nat) (fs : List (S × VI)) | xd (fs : List (S × VI)) | scr (xs : List VI)
abbrev Hi := List OI
inductive Res (α : Type) where
  | ok (a : α) (h : Hi) | ex (c n : Nat) (h : Hi) | err

/-- where classes stand (by my numbers), what the module's names hold -/
structure Gx where
  K : PySem.W.Frag
  mg : Str → Option Value
  ct : Nat → Option Addr

mutual
inductive RV (G : Gx) (ρ : List Addr) (H : Hp) : VI → V → Prop
  | non : RV G ρ H .non .non
  | bl (b : Bool) : RV G ρ H (.bl b) (.bl b)
  | int (i : Int) : RV G ρ H (.int i) (.int i)
  | str {s : S} {x : Str} (e : x = toStr s) : RV G ρ H (.str s) (.str x)
  | glo {g : S} {a : Addr} (e : G.mg (toStr g) = some (.ref a)) : RV G ρ H (.glo g) (.ref a)
  | ref {n : Nat} {a : Addr} (e : ρ[n]? = some a) : RV G ρ H (.ref n) (.ref a)
  | tup {xs : List VI} {ys : List V} {a : Addr} (t : SqT G.K H a ys) (r : RVs G ρ H xs ys) : RV G ρ H (.tup xs) (.ref a)
inductive RVs (G : Gx) (ρ : List Addr) (H : Hp) : List VI → List V → Prop
  | nil : RVs G ρ H [] []
  | cons {v : VI} {x : V} {vs : List VI} {xs : List V} (h : RV G ρ H v x) (t : RVs G ρ H vs xs) : RVs G ρ H (v :: vs) (x :: xs)
end

/-- a later state: more objects are known, the tuples stand -/
structure Stp (G : Gx) (ρ : List Addr) (H : Hp) (ρ' : List Addr) (H' : Hp) : Prop where
  pre : ∀ (n : Nat) (a : Addr), ρ[n]? = some a → ρ'[n]? = some a
  tup : ∀ a xs, SqT G.K H a xs → SqT G.K H' a xs
theorem Stp.refl {G : Gx} {ρ : List Addr} {H : Hp} : Stp G ρ H ρ H := ⟨fun _ _ h => h, fun _ _ h => h⟩
theorem Stp.trans {G : Gx} {ρ ρ1 ρ2 : List Addr} {H H1 H2 : Hp} (a : Stp G ρ H ρ1 H1) (b : Stp G ρ1 H1 ρ2 H2) : Stp G ρ H ρ2 H2 :=
  ⟨fun n x h => b.pre n x (a.pre n x h), fun x xs h => b.tup x xs (a.tup x xs h)⟩

section
variable {G : Gx} {ρ ρ' : List Addr} {H H' : Hp}
mutual
theorem RV.mono (st : Stp G ρ H ρ' H') : ∀ {v : VI} {x : V}, RV G ρ H v x → RV G ρ' H' v x
  | _, _, .non => .non
  | _, _, .bl b => .bl b
  | _, _, .int i => .int i
  | _, _, .str e => .str e
  | _, _, .glo e => .glo e
  | _, _, .ref e => .ref (st.pre _ _ e)
  | _, _, .tup t r => .tup (st.tup _ _ t) (RVs.mono st r)
theorem RVs.mono (st : Stp G ρ H ρ' H') : ∀ {v : List VI} {x : List V}, RVs G ρ H v x → RVs G ρ' H' v x
  | _, _, .nil => .nil
  | _, _, .cons h t => .cons (RV.mono st h) (RVs.mono st t)
end
theorem RVs.length : ∀ {v : List VI} {x : List V}, RVs G ρ H v x → v.length = x.length
  | _, _, .nil => rfl
  | _, _, .cons _ t => by rw [List.length_cons, List.length_cons, t.length]
theorem RVs.get : ∀ {v : List VI} {x : List V} {i : Nat} {a : VI}, RVs G ρ H v x → v[i]? = some a → ∃ b, x[i]? = some b ∧ RV G ρ H a b
  | _, _, _, _, .nil, e => by simp at e
  | _, _, 0, _, .cons h _, e => by simp at e; subst e; exact ⟨_, rfl, h⟩
  | _, _, i + 1, _, .cons _ t, e => by
    obtain ⟨b, h1, h2⟩ := RVs.get (i := i) t (by simpa using e)
    exact ⟨b, by simpa using h1, h2⟩
theorem RVs.get' : ∀ {v : List VI} {x : List V} {i : Nat} {b : V}, RVs G ρ H v x → x[i]? = some b → ∃ a, v[i]? = some a ∧ RV G ρ H a b
  | _, _, _, _, .nil, e => by simp at e
  | _, _, 0, _, .cons h _, e => by simp at e; subst e; exact ⟨_, rfl, h⟩
  | _, _, i + 1, _, .cons _ t, e => by
    obtain ⟨b, h1, h2⟩ := RVs.get' (i := i) t (by simpa using e)
    exact ⟨b, by simpa using h1, h2⟩
theorem RVs.append : ∀ {v w : List VI} {x y : List V}, RVs G ρ H v x → RVs G ρ H w y → RVs G ρ H (v ++ w) (x ++ y)
  | _, _, _, _, .nil, h => h
  | _, _, _, _, .cons h t, k => .cons h (RVs.append t k)
theorem RVs.set : ∀ {v : List VI} {x : List V} {a : VI} {b : V} (i : Nat), RVs G ρ H v x → RV G ρ H a b → RVs G ρ H (v.set i a) (x.set i b)
  | _, _, _, _, _, .nil, _ => .nil
  | _, _, _, _, 0, .cons _ t, r => .cons r t
  | _, _, _, _, i + 1, .cons h t, r => .cons h (RVs.set i t r)
theorem RVs.take : ∀ {v : List VI} {x : List V} (n : Nat), RVs G ρ H v x → RVs G ρ H (v.take n) (x.take n)
  | _, _, 0, _ => .nil
  | _, _, _ + 1, .nil => .nil
  | _, _, n + 1, .cons h t => .cons h (RVs.take n t)
theorem RVs.drop : ∀ {v : List VI} {x : List V} (n : Nat), RVs G ρ H v x → RVs G ρ H (v.drop n) (x.drop n)
  | _, _, 0, r => r
  | _, _, _ + 1, .nil => .nil
  | _, _, n + 1, .cons _ t => RVs.drop n t
end

/-- fields by name -/
inductive RFs (G : Gx) (ρ : List Addr) (H : Hp) : List (S × VI) → List (Str × V) → Prop
  | nil : RFs G ρ H [] []
  | cons {f : S} {g : Str} {v : VI} {x : V} {fs : List (S × VI)} {gs : List (Str × V)} (e : g = toStr f) (h : RV G ρ H v x) (t : RFs G ρ H fs gs) : RFs G ρ H ((f, v) :: fs) ((g, x) :: gs)
/-- a dict's key -/
def RK : VI → Key → Prop
  | .int i, k => k = .inl i
  | .str s, k => k = .inr (toStr s)
  | _, _ => False
inductive RKs (G : Gx) (ρ : List Addr) (H : Hp) : List (VI × VI) → List (Key × V) → Prop
  | nil : RKs G ρ H [] []
  | cons {a : VI} {k : Key} {v : VI} {x : V} {as : List (VI × VI)} {ks : List (Key × V)} (e : RK a k) (h : RV G ρ H v x) (t : RKs G ρ H as ks) : RKs G ρ H ((a, v) :: as) ((k, x) :: ks)
section
variable {G : Gx} {ρ ρ' : List Addr} {H H' : Hp}
theorem RFs.mono (st : Stp G ρ H ρ' H') : ∀ {v : List (S × VI)} {x : List (Str × V)}, RFs G ρ H v x → RFs G ρ' H' v x
  | _, _, .nil => .nil
  | _, _, .cons e h t => .cons e (h.mono st) (RFs.mono st t)
theorem RKs.mono (st : Stp G ρ H ρ' H') : ∀ {v : List (VI × VI)} {x : List (Key × V)}, RKs G ρ H v x → RKs G ρ' H' v x
  | _, _, .nil => .nil
  | _, _, .cons e h t => .cons e (h.mono st) (RKs.mono st t)
theorem RFs.length : ∀ {v : List (S × VI)} {x : List (Str × V)}, RFs G ρ H v x → v.length = x.length
  | _, _, .nil => rfl
  | _, _, .cons _ _ t => by rw [List.length_cons, List.length_cons, t.length]
theorem RKs.length : ∀ {v : List (VI × VI)} {x : List (Key × V)}, RKs G ρ H v x → v.length = x.length
  | _, _, .nil => rfl
  | _, _, .cons _ _ t => by rw [List.length_cons, List.length_cons, t.length]
end

def OR (G : Gx) (ρ : List Addr) (H : Hp) (a : Addr) : OI → Prop
  | .lst xs => ∃ ys, H a = some (.lst ys) ∧ RVs G ρ H xs ys
  | .dic kvs => ∃ ks, H a = some (.dK ks) ∧ RKs G ρ H kvs ks
  | .ins c fs => ∃ C dx gs, G.ct c = some C ∧ H a = some (.ins C dx gs) ∧ RFs G ρ H fs gs
  | .xd fs => ∃ gs, H a = some (.xd gs) ∧ RFs G ρ H fs gs
  | .scr xs => ∃ o ys, H a = some (.frz o (.lst ys)) ∧ RVs G ρ H xs ys
theorem OR.mono {G : Gx} {ρ ρ' : List Addr} {H H' : Hp} {a : Addr} (st : Stp G ρ H ρ' H') (e : H' a = H a) : ∀ {o : OI}, OR G ρ H a o → OR G ρ' H' a o
  | .lst _, ⟨ys, h, r⟩ => ⟨ys, e.trans h, r.mono st⟩
  | .dic _, ⟨ks, h, r⟩ => ⟨ks, e.trans h, r.mono st⟩
  | .ins _ _, ⟨C, dx, gs, c, h, r⟩ => ⟨C, dx, gs, c, e.trans h, r.mono st⟩
  | .xd _, ⟨gs, h, r⟩ => ⟨gs, e.trans h, r.mono st⟩
  | .scr _, ⟨o, ys, h, r⟩ => ⟨o, ys, e.trans h, r.mono st⟩
theorem OR.some {G : Gx} {ρ : List Addr} {H : Hp} {a : Addr} : ∀ {o : OI}, OR G ρ H a o → ∃ u, H a = some u ∧ (∀ xs, u ≠ .tup xs) ∧ ∀ ob xs, u ≠ .frz ob (.tup xs)
  | .lst _, ⟨ys, h, _⟩ => ⟨_, h, (fun _ z => by cases z), (fun _ _ z => by cases z)⟩
  | .dic _, ⟨ks, h, _⟩ => ⟨_, h, (fun _ z => by cases z), (fun _ _ z => by cases z)⟩
  | .ins _ _, ⟨C, dx, gs, _, h, _⟩ => ⟨_, h, (fun _ z => by cases z), (fun _ _ z => by cases z)⟩
  | .xd _, ⟨gs, h, _⟩ => ⟨_, h, (fun _ z => by cases z), (fun _ _ z => by cases z)⟩
  | .scr _, ⟨o, ys, h, _⟩ => ⟨_, h, (fun _ z => by cases z), (fun _ _ z => by cases z)⟩

/-- the pure heap h stands in H, object n at ρ[n] -/
structure Ag (G : Gx) (ρ : List Addr) (h : Hi) (H : Hp) : Prop where
  nd : ρ.Nodup
  len : ρ.length = h.length
  ob : ∀ (n : Nat) (o : OI), h[n]? = some o → ∃ a, ρ[n]? = some a ∧ OR G ρ H a o
/-- the frame's slots (what stands for none is not told) -/
structure AgS (G : Gx) (ρ : List Addr) (H : Hp) (σi : List (Option VI)) (σ : St) : Prop where
  len : σi.length = σ.length
  at_ : ∀ (i : Nat) (v : VI), σi[i]? = some (some v) → ∃ x, σ[i]? = some (some x) ∧ RV G ρ H v x
section
variable {G : Gx} {ρ ρ' : List Addr} {H H' : Hp} {h : Hi} {σi : List (Option VI)} {σ : St}
theorem AgS.mono (st : Stp G ρ H ρ' H') (a : AgS G ρ H σi σ) : AgS G ρ' H' σi σ := ⟨a.len, fun i v e => let ⟨x, h1, h2⟩ := a.at_ i v e; ⟨x, h1, h2.mono st⟩⟩
theorem AgS.set (a : AgS G ρ H σi σ) {v : VI} {x : V} (r : RV G ρ H v x) (i : Nat) : AgS G ρ H (σi.set i (some v)) (σ.set i (some x)) := by
  refine ⟨by simp [a.len], fun j w e => ?_⟩
  rw [List.getElem?_set] at e ⊢
  by_cases hj : i = j
  · subst hj
    rw [if_pos rfl] at e ⊢
    by_cases hl : i < σi.length
    · rw [if_pos hl] at e
      rw [if_pos (by rw [← a.len]; exact hl)]
      cases e
      exact ⟨x, rfl, r⟩
    · rw [if_neg hl] at e
      cases e
  · rw [if_neg hj] at e ⊢
    exact a.at_ j w e
/-- a slot of which no more is told -/
theorem AgS.lose (a : AgS G ρ H σi σ) (i : Nat) (y : Option V) : AgS G ρ H (σi.set i none) (σ.set i y) := by
  refine ⟨by simp [a.len], fun j w e => ?_⟩
  rw [List.getElem?_set] at e ⊢
  by_cases hj : i = j
  · subst hj
    rw [if_pos rfl] at e
    by_cases hl : i < σi.length
    · rw [if_pos hl] at e; cases e
    · rw [if_neg hl] at e; cases e
  · rw [if_neg hj] at e ⊢
    exact a.at_ j w e
theorem sqt_ne {K : PySem.W.Frag} {H : Hp} {p : Addr} {o : HO} (hp : H p = none ∨ ∃ u, H p = some u ∧ (∀ xs, u ≠ .tup xs) ∧ ∀ ob xs, u ≠ .frz ob (.tup xs)) : ∀ a xs, SqT K H a xs → SqT K (upd H p o) a xs := by
  intro a xs q
  have hne : ∀ u, H a = some u → ((∃ xs, u = .tup xs) ∨ ∃ ob xs, u = .frz ob (.tup xs)) → a ≠ p := by
    intro u hu k z
    subst z
    rcases hp with hp | ⟨u', hp, n1, n2⟩
    · rw [hu] at hp; cases hp
    · rw [hu] at hp; cases hp
      rcases k with ⟨xs, rfl⟩ | ⟨ob, xs, rfl⟩
      · exact n1 _ rfl
      · exact n2 _ _ rfl
  rcases q with (q | ⟨ob, q⟩) | q
  · exact .inl (.inl (by rw [upd_ne (hne _ q (.inl ⟨_, rfl⟩))]; exact q))
  · exact .inl (.inr ⟨ob, by rw [upd_ne (hne _ q (.inr ⟨_, _, rfl⟩))]; exact q⟩)
  · exact .inr q
/-- object n of the pure heap -/
theorem Ag.at_ (ag : Ag G ρ h H) {n : Nat} {a : Addr} {o : OI} (e : h[n]? = some o) (p : ρ[n]? = some a) : OR G ρ H a o := by
  obtain ⟨b, hb, r⟩ := ag.ob n o e
  rw [p] at hb
  cases hb
  exact r
/-- a new object's address is none of ρ -/
theorem Ag.fresh (a : Ag G ρ h H) {p : Addr} (hp : H p = none) : p ∉ ρ := by
  intro hm
  obtain ⟨n, hn, e⟩ := List.mem_iff_getElem.mp hm
  have hl : n < h.length := by rw [← a.len]; exact hn
  obtain ⟨b, hb, r⟩ := a.ob n h[n] (by simp [hl])
  obtain ⟨u, hu, _⟩ := r.some
  have : b = p := by
    have : ρ[n]? = some ρ[n] := by simp [hn]
    rw [this] at hb
    cases hb
    exact e
  subst this
  rw [hp] at hu
  cases hu
theorem Stp.new {p : Addr} {o : HO} (hp : H p = none) : Stp G ρ H (ρ ++ [p]) (upd H p o) :=
  ⟨fun n a e => by rw [List.getElem?_append_left (List.getElem?_eq_some_iff.mp e).1]; exact e, sqt_ne (.inl hp)⟩
/-- a tuple is made: no number of its own -/
theorem Stp.more {p : Addr} {o : HO} (hp : H p = none) : Stp G ρ H ρ (upd H p o) := ⟨fun _ _ e => e, sqt_ne (.inl hp)⟩
theorem Ag.more (a : Ag G ρ h H) {p : Addr} {o : HO} (hp : H p = none) : Ag G ρ h (upd H p o) :=
  ⟨a.nd, a.len, fun n u e => by
    obtain ⟨b, hb, r⟩ := a.ob n u e
    obtain ⟨_, hu, _⟩ := r.some
    exact ⟨b, hb, r.mono (Stp.more hp) (upd_ne (ne_of_none hu hp))⟩⟩
theorem Ag.new (a : Ag G ρ h H) {p : Addr} {o : HO} {u : OI} (hp : H p = none) (r : OR G (ρ ++ [p]) (upd H p o) p u) : Ag G (ρ ++ [p]) (h ++ [u]) (upd H p o) := by
  refine ⟨?_, by simp [a.len], fun n v e => ?_⟩
  · rw [List.nodup_append]
    refine ⟨a.nd, by simp, fun x hx y hy => ?_⟩
    rw [List.mem_singleton] at hy
    subst hy
    intro z
    subst z
    exact a.fresh hp hx
  · by_cases hn : n < h.length
    · rw [List.getElem?_append_left hn] at e
      obtain ⟨b, hb, q⟩ := a.ob n v e
      obtain ⟨_, hu, _⟩ := q.some
      exact ⟨b, (Stp.new (G := G) (o := o) hp).pre n b hb, q.mono (Stp.new hp) (upd_ne (ne_of_none hu hp))⟩
    · have hle : h.length ≤ n := Nat.le_of_not_lt hn
      rw [List.getElem?_append_right hle] at e
      have hz : n - h.length = 0 := by
        have := (List.getElem?_eq_some_iff.mp e).1
        simp at this
        omega
      rw [hz] at e
      simp at e
      subst e
      have : n = ρ.length := by rw [a.len]; omega
      exact ⟨p, by rw [this]; simp, r⟩
/-- object n is changed -/
theorem Stp.wr {p : Addr} {o : HO} {n : Nat} {u : OI} (a : Ag G ρ h H) (hn : h[n]? = some u) (hp : ρ[n]? = some p) : Stp G ρ H ρ (upd H p o) :=
  ⟨fun _ _ e => e, by
    obtain ⟨b, hb, r⟩ := a.ob n u hn
    rw [hp] at hb
    cases hb
    exact sqt_ne (.inr r.some)⟩
theorem Ag.wr (a : Ag G ρ h H) {p : Addr} {o : HO} {n : Nat} {u u' : OI} (hn : h[n]? = some u) (hp : ρ[n]? = some p) (r : OR G ρ (upd H p o) p u') : Ag G ρ (h.set n u') (upd H p o) := by
  refine ⟨a.nd, by simp [a.len], fun m v e => ?_⟩
  rw [List.getElem?_set] at e
  by_cases hm : n = m
  · subst hm
    rw [if_pos rfl, if_pos (List.getElem?_eq_some_iff.mp hn).1] at e
    cases e
    exact ⟨p, hp, r⟩
  · rw [if_neg hm] at e
    obtain ⟨b, hb, q⟩ := a.ob m v e
    have hne : b ≠ p := by
      intro z
      subst z
      obtain ⟨h1, e1⟩ := List.getElem?_eq_some_iff.mp hp
      obtain ⟨h2, e2⟩ := List.getElem?_eq_some_iff.mp hb
      have pw := List.pairwise_iff_getElem.mp a.nd
      rcases Nat.lt_trichotomy n m with l | l | l
      · exact pw n m h1 h2 l (e1.trans e2.symm)
      · exact hm l
      · exact pw m n h2 h1 l (e2.trans e1.symm)
    exact ⟨b, hb, q.mono (Stp.wr a hn hp) (upd_ne hne)⟩
end
end ML
end

section
set_option Elab.async false
set_option linter.all false
set_option maxRecDepth 100000
set_option maxHeartbeats 4000000
/-! The M layer, part 1: what runs, and the readings that it gives. -/
namespace ML
open PySem L2

abbrev Sg := List (Option VI)
abbrev ME := Sg → Hi → Res VI
abbrev MT := Sg → Hi → Res Bool
abbrev MA := Sg → Hi → Res (List VI)
def Res.bind {α β : Type} (r : Res α) (f : α → Hi → Res β) : Res β := match r with
  | .ok a h => f a h
  | .ex c n h => .ex c n h
  | .err => .err
/-- the end of a run stands for what is wanted -/
def FinG {α β : Type} (G : Gx) (ρ : List Addr) (H : Hp) (R : List Addr → Hp → α → β → Prop) (Q : β → Hp → Prop) (W : Value → Option Addr → Hp → Prop) : Res α → Prop
  | .ok v h' => ∀ ρ' H' x, Stp G ρ H ρ' H' → Ag G ρ' h' H' → R ρ' H' v x → Q x H'
  | .ex c n h' => ∀ ρ' H' d C, Stp G ρ H ρ' H' → Ag G ρ' h' H' → ρ'[n]? = some d → G.ct c = some C → W (.ref C) (some d) H'
  | .err => False
def rdG {α β : Type} (G : Gx) (R : List Addr → Hp → α → β → Prop) (W : WX) (m : Sg → Hi → Res α) : St → Hp → (β → Hp → Prop) → Prop := fun σ H Q =>
  ∃ ρ σi h, AgS G ρ H σi σ ∧ Ag G ρ h H ∧ FinG G ρ H R Q (fun c d H' => W c d σ H') (m σi h)
abbrev rdE (G : Gx) (W : WX) (m : ME) : TE := rdG G (RV G) W m
abbrev rdT (G : Gx) (W : WX) (m : MT) : TT := rdG G (fun _ _ (b c : Bool) => b = c) W m
abbrev rdA (G : Gx) (W : WX) (m : MA) : TA := rdG G (RVs G) W m
section
variable {G : Gx} {ρ ρ1 : List Addr} {H H1 : Hp} {α β γ δ : Type} {W : WX} {σ : St}
theorem FinG.later {R : List Addr → Hp → α → β → Prop} {Q : β → Hp → Prop} {W : Value → Option Addr → Hp → Prop} (st : Stp G ρ H ρ1 H1) : ∀ {r : Res α}, FinG G ρ H R Q W r → FinG G ρ1 H1 R Q W r
  | .ok _ _, f => fun ρ' H' x s a r => f ρ' H' x (st.trans s) a r
  | .ex _ _ _, f => fun ρ' H' d C s a e c => f ρ' H' d C (st.trans s) a e c
  | .err, f => f
/-- two parts in a row -/
theorem rdG_go {R : List Addr → Hp → α → β → Prop} {R' : List Addr → Hp → γ → δ → Prop} {m : Sg → Hi → Res α} {k : α → Hi → Res γ} {Q : δ → Hp → Prop} {N : β → Hp → Prop} {σi : Sg} {h : Hi}
    (as : AgS G ρ H σi σ) (a : Ag G ρ h H) (f : FinG G ρ H R' Q (fun c d H' => W c d σ H') ((m σi h).bind k))
    (nx : ∀ ρ1 H1 h1 x y, Stp G ρ H ρ1 H1 → AgS G ρ1 H1 σi σ → Ag G ρ1 h1 H1 → R ρ1 H1 x y → FinG G ρ1 H1 R' Q (fun c d H' => W c d σ H') (k x h1) → N y H1) : rdG G R W m σ H N := by
  refine ⟨ρ, σi, h, as, a, ?_⟩
  cases e : m σi h with
  | err => rw [e] at f; exact f
  | ex c n h' => rw [e] at f; exact f
  | ok v h' =>
    rw [e] at f
    exact fun ρ' H' x st a' r => nx ρ' H' h' v x st (as.mono st) a' r (FinG.later st f)
theorem rdG_mk {R : List Addr → Hp → α → β → Prop} {m : Sg → Hi → Res α} {Q : β → Hp → Prop} {ρ : List Addr} {σi : Sg} {h : Hi} (as : AgS G ρ H σi σ) (a : Ag G ρ h H) (f : FinG G ρ H R Q (fun c d H' => W c d σ H') (m σi h)) : rdG G R W m σ H Q := ⟨ρ, σi, h, as, a, f⟩
theorem FinG.ok {R : List Addr → Hp → α → β → Prop} {Q : β → Hp → Prop} {W : Value → Option Addr → Hp → Prop} {v : α} {h : Hi} {x : β} (f : FinG G ρ H R Q W (.ok v h)) (a : Ag G ρ h H) (r : R ρ H v x) : Q x H := f ρ H x .refl a r
end

section
variable {X : Cx} {e a b : Expr} {pos : Pos}
theorem PE.imp' {t t' : TE} (h : PE X e t) (i : ∀ σ H Q, t' σ H Q → t σ H Q) : PE X e t' := ⟨fun pins s σ H Q I q => h.run pins s σ H Q I (i σ H Q q)⟩
theorem PT.imp' {t t' : TT} (h : PT X e t) (i : ∀ σ H Q, t' σ H Q → t σ H Q) : PT X e t' := ⟨fun pins s σ H Q I q => h.run pins s σ H Q I (i σ H Q q)⟩
theorem PW.imp' {t t' : TT} (h : PW X e t) (i : ∀ σ H Q, t' σ H Q → t σ H Q) : PW X e t' := ⟨fun wh pins s σ H Q I q => h.run wh pins s σ H Q I (i σ H Q q)⟩
theorem PA.imp' {es : List Expr} {t t' : TA} (h : PA X es t) (i : ∀ σ H Q, t' σ H Q → t σ H Q) : PA X es t' := ⟨fun p pins s σ H Q I q => h.run p pins s σ H Q I (i σ H Q q)⟩
theorem PS.imp' {st : Stmt} {t t' : TS} (h : PS X st t) (i : ∀ D σ H, t' D σ H → t D σ H) : PS X st t' := ⟨fun pins s σ H D I q => h.run pins s σ H D I (i D σ H q)⟩
theorem PSs.imp' {st : List Stmt} {t t' : TS} (h : PSs X st t) (i : ∀ D σ H, t' D σ H → t D σ H) : PSs X st t' := ⟨fun pins s σ H D I q => h.run pins s σ H D I (i D σ H q)⟩
end

/-! ### names, constants, displays -/
def eV (i : Nat) : ME := fun σ h => match σ[i]? with
  | some (some v) => .ok v h
  | _ => .err
def eC (v : VI) : ME := fun _ h => .ok v h
def aNil : MA := fun _ h => .ok [] h
def aCons (a : ME) (r : MA) : MA := fun σ h => (a σ h).bind fun x h1 => (r σ h1).bind fun xs h2 => .ok (x :: xs) h2
def small (n : Nat) : Bool := Nat.ble n 100000
theorem small_ok {n : Nat} (h : small n = true) : n ≤ sizeLine := Nat.le_trans (Nat.le_of_ble_eq_true h) (by decide)
def eTup (a : MA) : ME := fun σ h => (a σ h).bind fun xs h1 => match small xs.length with
  | true => .ok (.tup xs) h1
  | false => .err
def eLst (a : MA) : ME := fun σ h => (a σ h).bind fun xs h1 => match small xs.length with
  | true => .ok (.ref h1.length) (h1 ++ [.lst xs])
  | false => .err
section
variable {G : Gx} {W : WX} {X : Cx} {e a b : Expr} {es : List Expr} {pos : Pos} {me ma mb : ME} {mr : MA}
theorem me_var {i : Nat} {x : Str} (hN : X.N[i]? = some x) (hv : Vis X.env.scope x) (hd : (x == ("__debug__" : Str)) = false := by decide) (hcd : (x == ("__classdict__" : Str)) = false := by decide) : PE X (.Name x pos) (rdE G W (eV i)) :=
  PE.imp' (pe_var hN hv hd hcd) fun σ H Q ⟨ρ, σi, h, as, ag, f⟩ => by
    unfold eV at f
    cases e : σi[i]? with
    | none => rw [e] at f; exact f.elim
    | some o =>
      rw [e] at f
      cases o with
      | none => exact f.elim
      | some v =>
        obtain ⟨x, h1, r⟩ := as.at_ i v e
        exact ⟨x, h1, f.ok ag r⟩
theorem me_c {v : VI} {x : V} (he : PE X e (tC x)) (r : ∀ ρ H, RV G ρ H v x) : PE X e (rdE G W (eC v)) :=
  PE.imp' he fun σ H Q ⟨ρ, σi, h, as, ag, f⟩ => f.ok ag (r ρ H)
theorem me_int {i : Int} {j} : PE X (.Constant (.int i) j pos) (rdE G W (eC (.int i))) := me_c pe_int fun _ _ => .int i
theorem me_bl {i : Bool} {j} : PE X (.Constant (.bool i) j pos) (rdE G W (eC (.bl i))) := me_c pe_bl fun _ _ => .bl i
theorem me_non {j} : PE X (.Constant .none j pos) (rdE G W (eC .non)) := me_c pe_non fun _ _ => .non
theorem me_str {s : S} {x : Str} {j} (h : x = toStr s) : PE X (.Constant (.str x) j pos) (rdE G W (eC (.str s))) := me_c pe_str fun _ _ => .str h
theorem ma_nil : PA X [] (rdA G W aNil) := PA.imp' pa_nil fun σ H Q ⟨ρ, σi, h, as, ag, f⟩ => f.ok ag .nil
theorem ma_cons (ha : PE X e (rdE G W me)) (hr : PA X es (rdA G W mr)) (hs : starEach (e :: es) X.env = (false, eval e X.env) :: starEach es X.env := by rfl) : PA X (e :: es) (rdA G W (aCons me mr)) :=
  PA.imp' (pa_cons ha hr hs) fun σ H Q ⟨ρ, σi, h, as, ag, f⟩ => rdG_go as ag f fun ρ1 H1 h1 x y st as ag r f => rdG_go as ag f fun ρ2 H2 h2 xs ys st2 as ag rs f => f.ok ag (.cons (r.mono st2) rs)
theorem me_tup {x1} (h : PA X es (rdA G W mr)) : PE X (.Tuple es x1 pos) (rdE G W (eTup mr)) :=
  PE.imp' (pe_tup h) fun σ H Q ⟨ρ, σi, h, as, ag, f⟩ => rdG_go as ag f fun ρ1 H1 h1 xs ys st as ag rs f => by
    cases e : small xs.length with
    | false => rw [e] at f; exact f.elim
    | true =>
      rw [e] at f
      refine ⟨by rw [← rs.length]; exact small_ok e, fun p hp => ?_⟩
      exact f ρ1 _ _ (Stp.more hp) (ag.more hp) (.tup (.inl (.inl upd_same)) (rs.mono (Stp.more hp)))
theorem me_lst (h : PA X es (rdA G W mr)) : PE X (.List es pos) (rdE G W (eLst mr)) :=
  PE.imp' (pe_lst h) fun σ H Q ⟨ρ, σi, h, as, ag, f⟩ => rdG_go as ag f fun ρ1 H1 h1 xs ys st as ag rs f => by
    cases e : small xs.length with
    | false => rw [e] at f; exact f.elim
    | true =>
      rw [e] at f
      refine ⟨by rw [← rs.length]; exact small_ok e, fun p hp => ?_⟩
      exact f (ρ1 ++ [p]) _ _ (Stp.new hp) (ag.new hp ⟨ys, upd_same, rs.mono (Stp.new hp)⟩) (.ref (by rw [← ag.len]; simp))
end
end ML
end

section
set_option Elab.async false
set_option linter.all false
set_option maxRecDepth 100000
set_option maxHeartbeats 4000000
/-! The M layer, part 2: operators. -/
namespace ML
open PySem L2

/-! ### data of a value -/
def datL (f : VI → Option PyData) : List VI → Option (List PyData)
  | [] => some []
  | x :: xs => match f x with
    | some d => match datL f xs with
      | some ds => some (d :: ds)
      | none => none
    | none => none
def dat : Nat → Hi → VI → Option PyData
  | 0, _, _ => none
  | n + 1, h, v => match v with
    | .non => some .none
    | .bl b => some (.bool b)
    | .int i => some (.int i)
    | .str s => some (.str (toStr s))
    | .glo _ => none
    | .tup xs => (datL (dat n h) xs).map .tuple
    | .ref a => match h[a]? with
      | some (.lst xs) => (datL (dat n h) xs).map .list
      | some (.scr xs) => (datL (dat n h) xs).map .list
      | _ => none
section
variable {G : Gx} {ρ : List Addr} {h : Hi} {H : Hp}
theorem datL_ok {f : VI → Option PyData} (ih : ∀ v x d, RV G ρ H v x → f v = some d → Dp G.K H x d) : ∀ {vs xs ds}, RVs G ρ H vs xs → datL f vs = some ds → DpAll G.K H xs ds
  | _, _, _, .nil, e => by cases e; exact .nil
  | _, _, _, .cons (v := v) (vs := vs) r t, e => by
    unfold datL at e
    cases e1 : f v with
    | none => rw [e1] at e; cases e
    | some d =>
      rw [e1] at e
      cases e2 : datL f vs with
      | none => rw [e2] at e; cases e
      | some ds =>
        rw [e2] at e
        cases e
        exact .cons (ih _ _ _ r e1) (datL_ok ih t e2)
theorem dat_ok (ag : Ag G ρ h H) : ∀ (n : Nat) (v : VI) (x : V) (d : PyData), RV G ρ H v x → dat n h v = some d → Dp G.K H x d
  | 0, _, _, _, _, e => by cases e
  | n + 1, v, x, d, r, e => by
    cases r with
    | non => cases e; exact .non
    | bl b => cases e; exact .bl b
    | int i => cases e; exact .int i
    | str q => cases e; subst q; exact .str _
    | glo q => cases e
    | @tup xs ys a t rs =>
      have e' : (datL (dat n h) xs).map PyData.tuple = some d := e
      cases e1 : datL (dat n h) xs with
      | none => rw [e1] at e'; cases e'
      | some ds =>
        rw [e1] at e'
        cases e'
        exact .tup t (datL_ok (fun v x d => dat_ok ag n v x d) rs e1)
    | @ref k a q =>
      cases e0 : h[k]? with
      | none => unfold dat at e; dsimp only at e; rw [e0] at e; cases e
      | some o =>
        obtain ⟨b, hb, ob⟩ := ag.ob k o e0
        rw [q] at hb
        cases hb
        unfold dat at e
        dsimp only at e
        rw [e0] at e
        cases o with
        | lst xs =>
          obtain ⟨ys, hy, rs⟩ := ob
          have e' : (datL (dat n h) xs).map PyData.list = some d := e
          cases e1 : datL (dat n h) xs with
          | none => rw [e1] at e'; cases e'
          | some ds =>
            rw [e1] at e'
            cases e'
            exact .lst (.inl (.inl hy)) (datL_ok (fun v x d => dat_ok ag n v x d) rs e1)
        | scr xs =>
          obtain ⟨ob, ys, hy, rs⟩ := ob
          have e' : (datL (dat n h) xs).map PyData.list = some d := e
          cases e1 : datL (dat n h) xs with
          | none => rw [e1] at e'; cases e'
          | some ds =>
            rw [e1] at e'
            cases e'
            exact .lst (.inl (.inr ⟨_, hy⟩)) (datL_ok (fun v x d => dat_ok ag n v x d) rs e1)
        | dic kvs => cases e
        | ins c fs => cases e
        | xd fs => cases e
end

/-! ### two-place operations -/
abbrev Op2 := VI → VI → Hi → Option (VI × Hi)
def ofO {α : Type} : Option (α × Hi) → Res α
  | some (a, h) => .ok a h
  | none => .err
def eBin (f : Op2) (a b : ME) : ME := fun σ h => (a σ h).bind fun x h1 => (b σ h1).bind fun y h2 => ofO (f x y h2)
/-- what f gives is what is wanted -/
def FinO {α β : Type} (G : Gx) (ρ : List Addr) (H : Hp) (R : List Addr → Hp → α → β → Prop) (Q : β → Hp → Prop) : Option (α × Hi) → Prop
  | some (v, h') => ∀ ρ' H' x, Stp G ρ H ρ' H' → Ag G ρ' h' H' → R ρ' H' v x → Q x H'
  | none => False
def rd2 (G : Gx) (f : Op2) : R2 := fun x y H Q => ∃ ρ h xi yi, Ag G ρ h H ∧ RV G ρ H xi x ∧ RV G ρ H yi y ∧ FinO G ρ H (RV G) Q (f xi yi h)
section
variable {G : Gx} {ρ : List Addr} {h : Hi} {H : Hp} {W : WX} {X : Cx} {e a b c : Expr} {pos : Pos} {ma mb mc : ME} {f : Op2}
theorem FinO.of {α β : Type} {R : List Addr → Hp → α → β → Prop} {Q : β → Hp → Prop} {W : Value → Option Addr → Hp → Prop} {r : Option (α × Hi)} (f : FinG G ρ H R Q W (ofO r)) : FinO G ρ H R Q r := by
  cases r with
  | none => exact f
  | some p => exact f
theorem FinO.ok {α β : Type} {R : List Addr → Hp → α → β → Prop} {Q : β → Hp → Prop} {v : α} {x : β} (f : FinO G ρ H R Q (some (v, h))) (a : Ag G ρ h H) (r : R ρ H v x) : Q x H := f ρ H x .refl a r
theorem me_bin {op : Operator} (ho : OpR X (binaryOp op) (rd2 G f)) (ha : PE X a (rdE G W ma)) (hb : PE X b (rdE G W mb)) : PE X (.BinOp a op b pos) (rdE G W (eBin f ma mb)) :=
  PE.imp' (pe_op ho ha hb) fun σ H Q ⟨ρ, σi, h, as, ag, f⟩ => rdG_go as ag f fun ρ1 H1 h1 x x' st as ag r f => rdG_go as ag f fun ρ2 H2 h2 y y' st2 as ag rs f => ⟨ρ2, h2, x, y, ag, r.mono st2, rs, FinO.of f⟩
theorem me_cmp {op : CmpOp} (ho : OpR X (compareOp op) (rd2 G f)) (ha : PE X a (rdE G W ma)) (hb : PE X b (rdE G W mb)) (hm : behindInMarks op b = false) : PE X (.Compare a [op] [b] pos) (rdE G W (eBin f ma mb)) :=
  PE.imp' (pe_cmpR ho ha hb hm) fun σ H Q ⟨ρ, σi, h, as, ag, f⟩ => rdG_go as ag f fun ρ1 H1 h1 x x' st as ag r f => rdG_go as ag f fun ρ2 H2 h2 y y' st2 as ag rs f => ⟨ρ2, h2, x, y, ag, r.mono st2, rs, FinO.of f⟩
/-- a rule made of another -/
theorem OpR.imp' {g : Value → Value → Sem Value} {r r' : R2} (h : OpR X g r) (i : ∀ x y H Q, r' x y H Q → r x y H Q) : OpR X g r' := fun pins s σ H x y v u Q I r1 r2 q => h pins s σ H x y v u Q I r1 r2 (i x y H Q q)
/-- a rule for each kind of values -/
theorem opR_at {g : Value → Value → Sem Value} (h : ∀ ρ h H xi yi x y Q, Ag G ρ h H → RV G ρ H xi x → RV G ρ H yi y → FinO G ρ H (RV G) Q (f xi yi h) → ∃ r : R2, OpR X g r ∧ r x y H Q) : OpR X g (rd2 G f) :=
  fun pins s σ H x y v u Q I r1 r2 ⟨ρ, hi, xi, yi, ag, a1, a2, q⟩ => by
    obtain ⟨r, ho, hr⟩ := h ρ hi H xi yi x y Q ag a1 a2 q
    exact ho pins s σ H x y v u Q I r1 r2 hr
end

/-! ### ints, texts, lists, tuples -/
def fAdd : Op2 := fun x y h => match x, y with
  | .int i, .int j => some (.int (i + j), h)
  | .str s, .str t => match small (s.length + t.length) with
    | true => some (.str (s ++ t), h)
    | false => none
  | .tup xs, .tup ys => match small (xs.length + ys.length) with
    | true => some (.tup (xs ++ ys), h)
    | false => none
  | .ref a, .ref b => match h[a]?, h[b]? with
    | some (.lst xs), some (.lst ys) => match small (xs.length + ys.length) with
      | true => some (.ref h.length, h ++ [.lst (xs ++ ys)])
      | false => none
    | _, _ => none
  | _, _ => none
def fSub : Op2 := fun x y h => match x, y with
  | .int i, .int j => some (.int (i - j), h)
  | _, _ => none
def bnd (i : Int) : Bool := decide (-(2 ^ 64) < i) && decide (i < 2 ^ 64)
def repL (xs : List VI) : Nat → List VI
  | 0 => []
  | n + 1 => xs ++ repL xs n
def fMul : Op2 := fun x y h => match x, y with
  | .int i, .int j => match bnd i || bnd j with
    | true => some (.int (i * j), h)
    | false => none
  | .ref a, .int k => match h[a]? with
    | some (.lst xs) => match (decide (0 ≤ k) && decide (k ≤ 1000)) && small (xs.length * k.toNat) with
      | true => some (.ref h.length, h ++ [.lst (repL xs k.toNat)])
      | false => none
    | _ => none
  | .tup xs, .int k => match (decide (2 ≤ k) && decide (k ≤ 1000)) && (Nat.ble xs.length 1000 && !xs.isEmpty) with
    | true => some (.tup (repL xs k.toNat), h)
    | false => none
  | _, _ => none
def fMod : Op2 := fun x y h => match x, y with
  | .int i, .int j => match decide (0 < j) with
    | true => some (.int (i % j), h)
    | false => none
  | _, _ => none
def fFdiv : Op2 := fun x y h => match x, y with
  | .int i, .int j => match decide (0 < j) && decide (j < 1073741824) with
    | true => some (.int (i / j), h)
    | false => none
  | _, _ => none
def fPow : Op2 := fun x y h => match x, y with
  | .int i, .int j => match decide (0 ≤ j) && (decide (j ≤ 1000) && decide (i.natAbs < 2 ^ 64)) with
    | true => some (.int (i ^ j.toNat), h)
    | false => none
  | _, _ => none
theorem repL_eq (xs : List VI) (n : Nat) : repL xs n = (List.replicate n xs).flatten := by
  induction n with
  | zero => rfl
  | succ n ih => rw [repL, ih, List.replicate_succ, List.flatten_cons]
theorem toStr_append (s t : S) : toStr s ++ toStr t = toStr (s ++ t) := by
  show PySem.Str.append (toStr s) (toStr t) = _
  unfold PySem.Str.append toStr
  simp
theorem toStr_length (s : S) : (toStr s).length = s.length := by
  show (toStr s).cps.size = _
  unfold toStr
  simp
section
variable {G : Gx} {ρ : List Addr} {H : Hp}
theorem RVs.rep {xs : List VI} {ys : List V} (r : RVs G ρ H xs ys) : ∀ n, RVs G ρ H (repL xs n) (List.replicate n ys).flatten
  | 0 => .nil
  | n + 1 => by
    rw [List.replicate_succ, List.flatten_cons]
    exact RVs.append r (RVs.rep r n)
variable {X : Cx}
theorem RVs.nil_iff {xs : List VI} {ys : List V} (r : RVs G ρ H xs ys) : xs = [] ↔ ys = [] := by
  cases r with
  | nil => exact ⟨fun _ => rfl, fun _ => rfl⟩
  | cons _ _ => exact ⟨fun z => (by cases z), fun z => (by cases z)⟩
theorem FinO.new {h : Hi} {Q : VK} {p : Addr} {o : HO} {u : OI} (f : FinO G ρ H (RV G) Q (some (.ref h.length, h ++ [u]))) (ag : Ag G ρ h H) (hp : H p = none) (r : OR G (ρ ++ [p]) (upd H p o) p u) : Q (.ref p) (upd H p o) :=
  f (ρ ++ [p]) _ _ (Stp.new hp) (ag.new hp r) (.ref (by rw [← ag.len]; simp))
theorem mo_add (hG : G.K = X.K) : OpR X (binaryOp .Add) (rd2 G fAdd) := opR_at fun ρ h H xi yi x y Q ag r1 r2 f => by
  unfold fAdd at f
  cases r1 with
  | int i =>
    cases r2 with
    | int j => exact ⟨_, op_add, i, j, rfl, rfl, f.ok ag (.int _)⟩
    | _ => exact f.elim
  | @str s _ e =>
    cases r2 with
    | @str t _ e' =>
      subst e e'
      dsimp only at f
      cases q : small (s.length + t.length) with
      | false => rw [q] at f; exact f.elim
      | true =>
        rw [q] at f
        exact ⟨_, op_add_str, _, _, rfl, rfl, by rw [toStr_length, toStr_length]; exact small_ok q, f.ok ag (.str (toStr_append s t))⟩
    | _ => exact f.elim
  | @tup xs ys a t1 s1 =>
    cases r2 with
    | @tup xs2 ys2 b t2 s2 =>
      dsimp only at f
      cases q : small (xs.length + xs2.length) with
      | false => rw [q] at f; exact f.elim
      | true =>
        rw [q] at f
        refine ⟨_, op_catA, a, b, ys, ys2, rfl, rfl, hG ▸ t1, hG ▸ t2, by rw [← s1.length, ← s2.length]; exact small_ok q, fun z => ?_, fun z1 z2 => ?_, fun z1 z2 p hp => ?_⟩
        · have e := s1.nil_iff.mpr z
          subst e
          exact f.ok ag (.tup t2 s2)
        · have e := s2.nil_iff.mpr z2
          subst e
          rw [List.append_nil] at f
          exact f.ok ag (.tup t1 s1)
        · exact f ρ _ _ (Stp.more hp) (ag.more hp) (.tup (.inl (.inl upd_same)) ((s1.append s2).mono (Stp.more hp)))
    | _ => exact f.elim
  | @ref n a e =>
    cases r2 with
    | @ref m b e' =>
      dsimp only at f
      cases q : h[n]? with
      | none => rw [q] at f; exact f.elim
      | some o =>
        rw [q] at f
        cases o with
        | lst xs =>
          cases q2 : h[m]? with
          | none => rw [q2] at f; exact f.elim
          | some o2 =>
            rw [q2] at f
            cases o2 with
            | lst ys =>
              dsimp only at f
              obtain ⟨xv, hx, rx⟩ := ag.at_ q e
              obtain ⟨yv, hy, ry⟩ := ag.at_ q2 e'
              cases z : small (xs.length + ys.length) with
              | false => rw [z] at f; exact f.elim
              | true =>
                rw [z] at f
                exact ⟨_, op_cat, a, b, xv, yv, rfl, rfl, hx, hy, by rw [← rx.length, ← ry.length]; exact small_ok z, fun p hp => FinO.new f ag hp ⟨_, upd_same, (rx.append ry).mono (Stp.new hp)⟩⟩
            | _ => exact f.elim
        | _ => exact f.elim
    | _ => exact f.elim
  | _ => exact f.elim
theorem mo_sub : OpR X (binaryOp .Sub) (rd2 G fSub) := opR_at fun ρ h H xi yi x y Q ag r1 r2 f => by
  unfold fSub at f
  cases r1 with
  | int i =>
    cases r2 with
    | int j => exact ⟨_, op_sub, i, j, rfl, rfl, f.ok ag (.int _)⟩
    | _ => exact f.elim
  | _ => exact f.elim
theorem bnd_ok {i : Int} (h : bnd i = true) : -(2 ^ 64) < i ∧ i < 2 ^ 64 := by
  unfold bnd at h
  obtain ⟨h1, h2⟩ := Bool.and_eq_true_iff.mp h
  exact ⟨of_decide_eq_true h1, of_decide_eq_true h2⟩
theorem mo_mul (hG : G.K = X.K) : OpR X (binaryOp .Mult) (rd2 G fMul) := opR_at fun ρ h H xi yi x y Q ag r1 r2 f => by
  unfold fMul at f
  cases r1 with
  | int i =>
    cases r2 with
    | int j =>
      dsimp only at f
      cases q : bnd i || bnd j with
      | false => rw [q] at f; exact f.elim
      | true =>
        rw [q] at f
        exact ⟨_, op_mul, i, j, rfl, rfl, (Bool.or_eq_true_iff.mp q).elim (fun z => .inl (bnd_ok z)) (fun z => .inr (bnd_ok z)), f.ok ag (.int _)⟩
    | _ => exact f.elim
  | @tup xs ys a t1 s1 =>
    cases r2 with
    | int k =>
      dsimp only at f
      cases q : (decide (2 ≤ k) && decide (k ≤ 1000)) && (Nat.ble xs.length 1000 && !xs.isEmpty) with
      | false => rw [q] at f; exact f.elim
      | true =>
        rw [q] at f
        obtain ⟨q1, q2⟩ := Bool.and_eq_true_iff.mp q
        obtain ⟨k1, k2⟩ := Bool.and_eq_true_iff.mp q1
        obtain ⟨l1, l2⟩ := Bool.and_eq_true_iff.mp q2
        refine ⟨_, op_repT, a, k, ys, rfl, rfl, hG ▸ t1, fun z => ?_, of_decide_eq_true k1, of_decide_eq_true k2, by rw [← s1.length]; exact Nat.le_of_ble_eq_true l1, fun p hp => ?_⟩
        · have e := s1.nil_iff.mpr z
          subst e
          cases l2
        · exact f ρ _ _ (Stp.more hp) (ag.more hp) (.tup (.inl (.inl upd_same)) ((s1.rep _).mono (Stp.more hp)))
    | _ => exact f.elim
  | @ref n a e =>
    cases r2 with
    | int k =>
      dsimp only at f
      cases q : h[n]? with
      | none => rw [q] at f; exact f.elim
      | some o =>
        rw [q] at f
        cases o with
        | lst xs =>
          dsimp only at f
          obtain ⟨xv, hx, rx⟩ := ag.at_ q e
          cases z : (decide (0 ≤ k) && decide (k ≤ 1000)) && small (xs.length * k.toNat) with
          | false => rw [z] at f; exact f.elim
          | true =>
            rw [z] at f
            obtain ⟨q1, q2⟩ := Bool.and_eq_true_iff.mp z
            obtain ⟨k1, k2⟩ := Bool.and_eq_true_iff.mp q1
            have k1 := of_decide_eq_true k1
            have k2 := of_decide_eq_true k2
            exact ⟨_, op_rep, a, k, xv, rfl, rfl, hx, by omega, by omega, by rw [← rx.length]; exact small_ok q2, fun p hp => FinO.new f ag hp ⟨_, upd_same, (rx.rep _).mono (Stp.new hp)⟩⟩
        | _ => exact f.elim
    | _ => cases q : h[n]? <;> exact f.elim
  | _ => exact f.elim
theorem mo_mod : OpR X (binaryOp .Mod) (rd2 G fMod) := opR_at fun ρ h H xi yi x y Q ag r1 r2 f => by
  unfold fMod at f
  cases r1 with
  | int i =>
    cases r2 with
    | int j =>
      dsimp only at f
      cases q : decide (0 < j) with
      | false => rw [q] at f; exact f.elim
      | true => rw [q] at f; exact ⟨_, op_mod, i, j, rfl, rfl, of_decide_eq_true q, f.ok ag (.int _)⟩
    | _ => exact f.elim
  | _ => exact f.elim
theorem mo_fdiv : OpR X (binaryOp .FloorDiv) (rd2 G fFdiv) := opR_at fun ρ h H xi yi x y Q ag r1 r2 f => by
  unfold fFdiv at f
  cases r1 with
  | int i =>
    cases r2 with
    | int j =>
      dsimp only at f
      cases q : decide (0 < j) && decide (j < 1073741824) with
      | false => rw [q] at f; exact f.elim
      | true =>
        rw [q] at f
        obtain ⟨q1, q2⟩ := Bool.and_eq_true_iff.mp q
        exact ⟨_, op_fdiv, i, j, rfl, rfl, ⟨of_decide_eq_true q1, of_decide_eq_true q2⟩, f.ok ag (.int _)⟩
    | _ => exact f.elim
  | _ => exact f.elim
theorem mo_pow : OpR X (binaryOp .Pow) (rd2 G fPow) := opR_at fun ρ h H xi yi x y Q ag r1 r2 f => by
  unfold fPow at f
  cases r1 with
  | int i =>
    cases r2 with
    | int j =>
      dsimp only at f
      cases q : decide (0 ≤ j) && (decide (j ≤ 1000) && decide (i.natAbs < 2 ^ 64)) with
      | false => rw [q] at f; exact f.elim
      | true =>
        rw [q] at f
        obtain ⟨q1, q2⟩ := Bool.and_eq_true_iff.mp q
        obtain ⟨q2, q3⟩ := Bool.and_eq_true_iff.mp q2
        have q2 := of_decide_eq_true q2
        exact ⟨_, op_pow, i, j, rfl, rfl, ⟨of_decide_eq_true q1, by omega, of_decide_eq_true q3⟩, f.ok ag (.int _)⟩
    | _ => exact f.elim
  | _ => exact f.elim

/-! ### comparisons -/
def eqD (h : Hi) (x y : VI) : Option Bool := match dat 66 h x, dat 66 h y with
  | some d, some e => match SeqAt.shaped d && SeqAt.shaped e with
    | true => some (PyData.eqv d e)
    | false => none
  | _, _ => none
def fEq : Op2 := fun x y h => match eqD h x y with
  | some b => some (.bl b, h)
  | none => none
def fNe : Op2 := fun x y h => match eqD h x y with
  | some b => some (.bl (!b), h)
  | none => none
def fInt (p : Int → Int → Bool) : Op2 := fun x y h => match x, y with
  | .int i, .int j => some (.bl (p i j), h)
  | _, _ => none
def fLt : Op2 := fInt fun i j => decide (i < j)
def fLe : Op2 := fInt fun i j => decide (i ≤ j)
def fGt : Op2 := fInt fun i j => decide (j < i)
def fGe : Op2 := fInt fun i j => decide (j ≤ i)
def fIsN : Op2 := fun x y h => match y with
  | .non => some (.bl (match x with | .non => true | _ => false), h)
  | _ => none
def fNotN : Op2 := fun x y h => match y with
  | .non => some (.bl (match x with | .non => false | _ => true), h)
  | _ => none
theorem eqD_ok {h : Hi} {xi yi : VI} {x y : V} {b : Bool} (ag : Ag G ρ h H) (r1 : RV G ρ H xi x) (r2 : RV G ρ H yi y) (e : eqD h xi yi = some b) : ∃ d d', Dp G.K H x d ∧ Dp G.K H y d' ∧ SeqAt.shaped d = true ∧ SeqAt.shaped d' = true ∧ b = PyData.eqv d d' := by
  unfold eqD at e
  cases e1 : dat 66 h xi with
  | none => rw [e1] at e; cases e
  | some d =>
    cases e2 : dat 66 h yi with
    | none => rw [e1, e2] at e; cases e
    | some d' =>
      rw [e1, e2] at e
      dsimp only at e
      cases q : SeqAt.shaped d && SeqAt.shaped d' with
      | false => rw [q] at e; cases e
      | true =>
        rw [q] at e
        cases e
        obtain ⟨q1, q2⟩ := Bool.and_eq_true_iff.mp q
        exact ⟨d, d', dat_ok ag _ _ _ _ r1 e1, dat_ok ag _ _ _ _ r2 e2, q1, q2, rfl⟩
theorem mo_eq (hG : G.K = X.K) (hu : X.A.units + 64 < cLine) : OpR X (compareOp .Eq) (rd2 G fEq) := opR_at fun ρ h H xi yi x y Q ag r1 r2 f => by
  unfold fEq at f
  cases e : eqD h xi yi with
  | none => rw [e] at f; exact f.elim
  | some b =>
    rw [e] at f
    obtain ⟨d, d', p1, p2, s1, s2, rfl⟩ := eqD_ok ag r1 r2 e
    exact ⟨_, op_eqD hu, d, d', hG ▸ p1, hG ▸ p2, s1, s2, f.ok ag (.bl _)⟩
theorem mo_ne (hG : G.K = X.K) (hu : X.A.units + 64 < cLine) : OpR X (compareOp .NotEq) (rd2 G fNe) := opR_at fun ρ h H xi yi x y Q ag r1 r2 f => by
  unfold fNe at f
  cases e : eqD h xi yi with
  | none => rw [e] at f; exact f.elim
  | some b =>
    rw [e] at f
    obtain ⟨d, d', p1, p2, s1, s2, rfl⟩ := eqD_ok ag r1 r2 e
    exact ⟨_, op_neD hu, d, d', hG ▸ p1, hG ▸ p2, s1, s2, f.ok ag (.bl _)⟩
theorem mo_int {g : Value → Value → Sem Value} {p : Int → Int → Bool} (ho : OpR X g (rI0 fun i j => .bl (p i j))) : OpR X g (rd2 G (fInt p)) := opR_at fun ρ h H xi yi x y Q ag r1 r2 f => by
  unfold fInt at f
  cases r1 with
  | int i =>
    cases r2 with
    | int j => exact ⟨_, ho, i, j, rfl, rfl, f.ok ag (.bl _)⟩
    | _ => exact f.elim
  | _ => exact f.elim
theorem mo_lt : OpR X (compareOp .Lt) (rd2 G fLt) := mo_int op_lt
theorem mo_le : OpR X (compareOp .LtE) (rd2 G fLe) := mo_int op_le
theorem mo_gt : OpR X (compareOp .Gt) (rd2 G fGt) := mo_int op_gt
theorem mo_ge : OpR X (compareOp .GtE) (rd2 G fGe) := mo_int op_ge
theorem mo_isN : OpR X (compareOp .Is) (rd2 G fIsN) := opR_at fun ρ h H xi yi x y Q ag r1 r2 f => by
  unfold fIsN at f
  cases r2 with
  | non => cases r1 <;> exact ⟨_, op_isN, rfl, f.ok ag (.bl _)⟩
  | _ => exact f.elim
theorem mo_notN : OpR X (compareOp .IsNot) (rd2 G fNotN) := opR_at fun ρ h H xi yi x y Q ag r1 r2 f => by
  unfold fNotN at f
  cases r2 with
  | non => cases r1 <;> exact ⟨_, op_notN, rfl, f.ok ag (.bl _)⟩
  | _ => exact f.elim

/-! ### in -/
def fInB (neg : Bool) : Op2 := fun x y h => match y with
  | .tup ys => match dat 1 h x, datL (dat 1 h) ys with
    | some d, some ds => some (.bl (if neg then !(ds.any fun z => PyData.eqv z d) else ds.any fun z => PyData.eqv z d), h)
    | _, _ => none
  | .ref a => match h[a]? with
    | some (.lst ys) => match dat 66 h x, datL (dat 65 h) ys with
      | some d, some ds => match SeqAt.shaped d && SeqAt.shaped (.list ds) with
        | true => some (.bl (if neg then !(ds.any fun z => PyData.eqv z d) else ds.any fun z => PyData.eqv z d), h)
        | false => none
      | _, _ => none
    | _ => none
  | _ => none
end
end ML
end

section
set_option Elab.async false
set_option linter.all false
set_option maxRecDepth 100000
set_option maxHeartbeats 4000000
/-! The M layer, part 3: tests, statements, loops. -/
namespace ML
open PySem L2

/-! ### tests -/
def tOf (e : ME) : MT := fun σ h => (e σ h).bind fun v h1 => match v with
  | .bl b => .ok b h1
  | _ => .err
def tAndM (a b : MT) : MT := fun σ h => (a σ h).bind fun c h1 => match c with
  | true => b σ h1
  | false => .ok false h1
def tOrM (a b : MT) : MT := fun σ h => (a σ h).bind fun c h1 => match c with
  | true => .ok true h1
  | false => b σ h1
def tNotM (a : MT) : MT := fun σ h => (a σ h).bind fun c h1 => .ok (!c) h1
def eOf (t : MT) : ME := fun σ h => (t σ h).bind fun b h1 => .ok (.bl b) h1
def eAnd (a b : ME) : ME := fun σ h => (a σ h).bind fun v h1 => match v with
  | .bl true => b σ h1
  | .bl false => .ok (.bl false) h1
  | _ => .err
def eOr (a b : ME) : ME := fun σ h => (a σ h).bind fun v h1 => match v with
  | .bl true => .ok (.bl true) h1
  | .bl false => b σ h1
  | _ => .err
def eNot (a : ME) : ME := fun σ h => (a σ h).bind fun v h1 => match v with
  | .bl b => .ok (.bl (!b)) h1
  | _ => .err
def eIf (t : MT) (a b : ME) : ME := fun σ h => (t σ h).bind fun c h1 => match c with
  | true => a σ h1
  | false => b σ h1
section
variable {G : Gx} {W : WX} {X : Cx} {e a b c : Expr} {rest : List Expr} {pos : Pos} {me ma mb : ME} {ta tb : MT}
theorem rdG_at {α β : Type} {R : List Addr → Hp → α → β → Prop} {m : Sg → Hi → Res α} {Q : β → Hp → Prop} {ρ : List Addr} {σi : Sg} {h : Hi} {H : Hp} {σ : St} (as : AgS G ρ H σi σ) (a : Ag G ρ h H) (f : FinG G ρ H R Q (fun c d H' => W c d σ H') (m σi h)) : rdG G R W m σ H Q := ⟨ρ, σi, h, as, a, f⟩
theorem mt_val (h : PE X e (rdE G W me)) (he : ∀ whole, isTrue e X.env whole = (do let v ← whole; standAt e.pos; holding [v] (truthy v)) := by intro _; rfl) : PT X e (rdT G W (tOf me)) :=
  PT.imp' (pt_val h he) fun σ H Q ⟨ρ, σi, h, as, ag, f⟩ => rdG_go as ag f fun ρ1 H1 h1 x x' st as ag r f => by
    cases r with
    | bl b => exact ⟨b, rfl, f.ok ag rfl⟩
    | _ => exact f.elim
theorem mt_cmp {op : CmpOp} (h : PE X (.Compare a [op] [b] pos) (rdE G W me)) (h2 : ∀ whole, isTrue (.Compare a [op] [b] pos) X.env whole = (do let v ← whole; standAt pos; holding [v] (truthy v))) : PT X (.Compare a [op] [b] pos) (rdT G W (tOf me)) := mt_val h h2
theorem mw_and1 (ha : PT X a (rdT G W ta)) : PW X (.BoolOp .And [a] pos) (rdT G W ta) := pw_and1 ha
theorem mw_or1 (ha : PT X a (rdT G W ta)) : PW X (.BoolOp .Or [a] pos) (rdT G W ta) := pw_or1 ha
theorem mw_and (ha : PT X a (rdT G W ta)) (hb : PW X (.BoolOp .And (b :: rest) pos) (rdT G W tb)) : PW X (.BoolOp .And (a :: b :: rest) pos) (rdT G W (tAndM ta tb)) :=
  PW.imp' (pw_and ha hb) fun σ H Q ⟨ρ, σi, h, as, ag, f⟩ => rdG_go as ag f fun ρ1 H1 h1 x x' st as ag r f => by
    subst r
    cases x with
    | true => rw [if_pos rfl]; exact rdG_at as ag f
    | false => rw [if_neg Bool.false_ne_true]; exact f.ok ag rfl
theorem mw_or (ha : PT X a (rdT G W ta)) (hb : PW X (.BoolOp .Or (b :: rest) pos) (rdT G W tb)) : PW X (.BoolOp .Or (a :: b :: rest) pos) (rdT G W (tOrM ta tb)) :=
  PW.imp' (pw_or ha hb) fun σ H Q ⟨ρ, σi, h, as, ag, f⟩ => rdG_go as ag f fun ρ1 H1 h1 x x' st as ag r f => by
    subst r
    cases x with
    | true => rw [if_pos rfl]; exact f.ok ag rfl
    | false => rw [if_neg Bool.false_ne_true]; exact rdG_at as ag f
theorem mt_not (ha : PT X a (rdT G W ta)) : PT X (.UnaryOp .Not a pos) (rdT G W (tNotM ta)) :=
  PT.imp' (pt_not ha) fun σ H Q ⟨ρ, σi, h, as, ag, f⟩ => rdG_go as ag f fun ρ1 H1 h1 x x' st as ag r f => by
    subst r
    exact f.ok ag rfl
theorem me_one {op} (h : PE X a (rdE G W me)) : PE X (.BoolOp op [a] pos) (rdE G W me) := pe_one h
theorem me_and (ha : PE X a (rdE G W ma)) (hb : PE X (.BoolOp .And (b :: rest) pos) (rdE G W mb)) : PE X (.BoolOp .And (a :: b :: rest) pos) (rdE G W (eAnd ma mb)) :=
  PE.imp' (pe_and ha hb) fun σ H Q ⟨ρ, σi, h, as, ag, f⟩ => rdG_go as ag f fun ρ1 H1 h1 x x' st as ag r f => by
    cases r with
    | bl b =>
      refine ⟨b, rfl, ?_⟩
      cases b with
      | true => rw [if_pos rfl]; exact rdG_at as ag f
      | false => rw [if_neg Bool.false_ne_true]; exact f.ok ag (.bl _)
    | _ => exact f.elim
theorem me_or (ha : PE X a (rdE G W ma)) (hb : PE X (.BoolOp .Or (b :: rest) pos) (rdE G W mb)) : PE X (.BoolOp .Or (a :: b :: rest) pos) (rdE G W (eOr ma mb)) :=
  PE.imp' (pe_or ha hb) fun σ H Q ⟨ρ, σi, h, as, ag, f⟩ => rdG_go as ag f fun ρ1 H1 h1 x x' st as ag r f => by
    cases r with
    | bl b =>
      refine ⟨b, rfl, ?_⟩
      cases b with
      | true => rw [if_pos rfl]; exact f.ok ag (.bl _)
      | false => rw [if_neg Bool.false_ne_true]; exact rdG_at as ag f
    | _ => exact f.elim
theorem me_not (ha : PE X a (rdE G W ma)) : PE X (.UnaryOp .Not a pos) (rdE G W (eNot ma)) :=
  PE.imp' (pe_not ha) fun σ H Q ⟨ρ, σi, h, as, ag, f⟩ => rdG_go as ag f fun ρ1 H1 h1 x x' st as ag r f => by
    cases r with
    | bl b => exact ⟨b, rfl, f.ok ag (.bl _)⟩
    | _ => exact f.elim
theorem me_if (hc : PT X c (rdT G W ta)) (ha : PE X a (rdE G W ma)) (hb : PE X b (rdE G W mb)) : PE X (.IfExp c a b pos) (rdE G W (eIf ta ma mb)) :=
  PE.imp' (pe_ifExp hc ha hb) fun σ H Q ⟨ρ, σi, h, as, ag, f⟩ => rdG_go as ag f fun ρ1 H1 h1 x x' st as ag r f => by
    subst r
    cases x with
    | true => rw [if_pos rfl]; exact rdG_at as ag f
    | false => rw [if_neg Bool.false_ne_true]; exact rdG_at as ag f
end

/-! ### statements -/
inductive RS where
  | nx (σ : Sg) (h : Hi) | rt (v : VI) (h : Hi) | bk (σ : Sg) (h : Hi) | ct (σ : Sg) (h : Hi) | ex (c n : Nat) (σ : Sg) (h : Hi) | err
abbrev MS := Sg → Hi → RS
def Res.bindS {α : Type} (r : Res α) (σ : Sg) (f : α → Hi → RS) : RS := match r with
  | .ok a h => f a h
  | .ex c n h => .ex c n σ h
  | .err => .err
def RS.andThen (r : RS) (f : MS) : RS := match r with
  | .nx σ h => f σ h
  | o => o
def FinS (G : Gx) (ρ : List Addr) (H : Hp) (D : Ends) (W : WX) : RS → Prop
  | .nx σ' h' => ∀ ρ' H' σ, Stp G ρ H ρ' H' → Ag G ρ' h' H' → AgS G ρ' H' σ' σ → D.nx σ H'
  | .bk σ' h' => ∀ ρ' H' σ, Stp G ρ H ρ' H' → Ag G ρ' h' H' → AgS G ρ' H' σ' σ → D.bk σ H'
  | .ct σ' h' => ∀ ρ' H' σ, Stp G ρ H ρ' H' → Ag G ρ' h' H' → AgS G ρ' H' σ' σ → D.ct σ H'
  | .rt v h' => ∀ ρ' H' x, Stp G ρ H ρ' H' → Ag G ρ' h' H' → RV G ρ' H' v x → D.rt x H'
  | .ex c n σ' h' => ∀ ρ' H' d C σ, Stp G ρ H ρ' H' → Ag G ρ' h' H' → AgS G ρ' H' σ' σ → ρ'[n]? = some d → G.ct c = some C → W (.ref C) (some d) σ H'
  | .err => False
def rdS (G : Gx) (W : WX) (m : MS) : TS := fun D σ H => ∃ ρ σi h, AgS G ρ H σi σ ∧ Ag G ρ h H ∧ FinS G ρ H D W (m σi h)
def sNx : MS := fun σ h => .nx σ h
def sSeq (a b : MS) : MS := fun σ h => (a σ h).andThen b
def sBk : MS := fun σ h => .bk σ h
def sCt : MS := fun σ h => .ct σ h
def sRet (e : ME) : MS := fun σ h => (e σ h).bindS σ fun v h1 => .rt v h1
def sRetN : MS := fun σ h => .rt .non h
def sDrop (e : ME) : MS := fun σ h => (e σ h).bindS σ fun _ h1 => .nx σ h1
def sIf (t : MT) (a b : MS) : MS := fun σ h => (t σ h).bindS σ fun c h1 => match c with
  | true => a σ h1
  | false => b σ h1
/-- a target: what becomes of slots and heap when a value is stored -/
abbrev MG := VI → Sg → Hi → RS
def gNm (i : Nat) : MG := fun v σ h => .nx (σ.set i (some v)) h
def sAsg (e : ME) (g : MG) : MS := fun σ h => (e σ h).bindS σ fun v h1 => g v σ h1
section
variable {G : Gx} {W : WX} {X : Cx} {ρ ρ1 : List Addr} {H H1 : Hp} {σ : St} {σi : Sg} {h : Hi} {D : Ends} {e : Expr} {st : Stmt} {pos : Pos} {me : ME} {ms mr : MS} {mt : MT} {rest : List Stmt}
theorem FinS.later (st : Stp G ρ H ρ1 H1) : ∀ {r : RS}, FinS G ρ H D W r → FinS G ρ1 H1 D W r
  | .nx _ _, f => fun ρ' H' x s => f ρ' H' x (st.trans s)
  | .bk _ _, f => fun ρ' H' x s => f ρ' H' x (st.trans s)
  | .ct _ _, f => fun ρ' H' x s => f ρ' H' x (st.trans s)
  | .rt _ _, f => fun ρ' H' x s => f ρ' H' x (st.trans s)
  | .ex _ _ _ _, f => fun ρ' H' d C x s => f ρ' H' d C x (st.trans s)
  | .err, f => f
theorem rdS_at (as : AgS G ρ H σi σ) (a : Ag G ρ h H) {m : MS} (f : FinS G ρ H D W (m σi h)) : rdS G W m D σ H := ⟨ρ, σi, h, as, a, f⟩
/-- an expression (a test, arguments) at a statement's head -/
theorem rdS_go {α β : Type} {R : List Addr → Hp → α → β → Prop} {m : Sg → Hi → Res α} {k : α → Hi → RS} {N : β → Hp → Prop}
    (as : AgS G ρ H σi σ) (a : Ag G ρ h H) (f : FinS G ρ H D W ((m σi h).bindS σi k))
    (nx : ∀ ρ1 H1 h1 x y, Stp G ρ H ρ1 H1 → AgS G ρ1 H1 σi σ → Ag G ρ1 h1 H1 → R ρ1 H1 x y → FinS G ρ1 H1 D W (k x h1) → N y H1) : rdG G R W m σ H N := by
  refine ⟨ρ, σi, h, as, a, ?_⟩
  cases e : m σi h with
  | err => rw [e] at f; exact f
  | ex c n h' =>
    rw [e] at f
    exact fun ρ' H' d C st a' hn hc => f ρ' H' d C σ st a' (as.mono st) hn hc
  | ok v h' =>
    rw [e] at f
    exact fun ρ' H' x st a' r => nx ρ' H' h' v x st (as.mono st) a' r (FinS.later st f)
theorem FinS.nx (f : FinS G ρ H D W (.nx σi h)) (a : Ag G ρ h H) (as : AgS G ρ H σi σ) : D.nx σ H := f ρ H σ .refl a as
theorem ms_nil : PSs X [] (rdS G W sNx) := PSs.imp' pss_nil fun D σ H ⟨ρ, σi, h, as, ag, f⟩ => f.nx ag as
theorem ms_cons (h1 : PS X st (rdS G W ms)) (h2 : PSs X rest (rdS G W mr)) : PSs X (st :: rest) (rdS G W (sSeq ms mr)) :=
  PSs.imp' (pss_cons h1 h2) fun D σ H ⟨ρ, σi, h, as, ag, f⟩ => by
    refine ⟨ρ, σi, h, as, ag, ?_⟩
    have f' : FinS G ρ H D W ((ms σi h).andThen mr) := f
    cases e : ms σi h with
    | nx σ' h' =>
      rw [e] at f'
      exact fun ρ' H' σ2 st ag2 as2 => ⟨ρ', σ', h', as2, ag2, FinS.later st f'⟩
    | bk σ' h' => rw [e] at f'; exact f'
    | ct σ' h' => rw [e] at f'; exact f'
    | rt v h' => rw [e] at f'; exact f'
    | ex c n σ' h' => rw [e] at f'; exact f'
    | err => rw [e] at f'; exact f'
theorem ms_one (h1 : PS X st (rdS G W ms)) : PSs X [st] (rdS G W ms) := pss_one h1
theorem ms_pass : PS X (.Pass pos) (rdS G W sNx) := PS.imp' ps_pass fun D σ H ⟨ρ, σi, h, as, ag, f⟩ => f.nx ag as
theorem ms_break : PS X (.Break pos) (rdS G W sBk) := PS.imp' ps_break fun D σ H ⟨ρ, σi, h, as, ag, f⟩ => f ρ H σ .refl ag as
theorem ms_continue : PS X (.Continue pos) (rdS G W sCt) := PS.imp' ps_continue fun D σ H ⟨ρ, σi, h, as, ag, f⟩ => f ρ H σ .refl ag as
theorem ms_doc {x j pos'} : PS X (.Expr (.Constant (.str x) j pos) pos') (rdS G W sNx) := PS.imp' ps_doc fun D σ H ⟨ρ, σi, h, as, ag, f⟩ => f.nx ag as
theorem ms_expr (he : PE X e (rdE G W me)) (hs : swapsWith e none pos.line X.env = pure false := by rfl) : PS X (.Expr e pos) (rdS G W (sDrop me)) :=
  PS.imp' (ps_expr he hs) fun D σ H ⟨ρ, σi, h, as, ag, f⟩ => rdS_go as ag f fun ρ1 H1 h1 x x' st as ag r f => f.nx ag as
theorem ms_ret (he : PE X e (rdE G W me)) : PS X (.Return (some e) pos) (rdS G W (sRet me)) :=
  PS.imp' (ps_ret he) fun D σ H ⟨ρ, σi, h, as, ag, f⟩ => rdS_go as ag f fun ρ1 H1 h1 x x' st as ag r f => f ρ1 H1 x' .refl ag r
theorem ms_retN : PS X (.Return none pos) (rdS G W sRetN) := PS.imp' ps_retN fun D σ H ⟨ρ, σi, h, as, ag, f⟩ => f ρ H .non .refl ag .non
theorem ms_if {c : Expr} {a b : List Stmt} {ma mb : MS} (hc : PT X c (rdT G W mt)) (ha : PSs X a (rdS G W ma)) (hb : PSs X b (rdS G W mb)) : PS X (.If c a b pos) (rdS G W (sIf mt ma mb)) :=
  PS.imp' (ps_if hc ha hb) fun D σ H ⟨ρ, σi, h, as, ag, f⟩ => rdS_go as ag f fun ρ1 H1 h1 x x' st as ag r f => by
    subst r
    cases x with
    | true => rw [if_pos rfl]; exact ⟨ρ1, _, h1, as, ag, f⟩
    | false => rw [if_neg Bool.false_ne_true]; exact ⟨ρ1, _, h1, as, ag, f⟩

/-! ### targets -/
def rdGt (G : Gx) (W : WX) (g : MG) : TG := fun v σ H Q => ∃ ρ σi h vi, AgS G ρ H σi σ ∧ Ag G ρ h H ∧ RV G ρ H vi v ∧ FinS G ρ H { nx := Q, rt := fun _ _ => False } W (g vi σi h)
theorem mg_name {i : Nat} {x : Str} (hN : X.N.Nodup) (hi : X.N[i]? = some x) (hx : Loc X.env.scope x) (hf : X.fn x = true ∨ X.env.scope.names.lookup x = some .local := by first | exact .inl rfl | exact .inr rfl | assumption) : PG X (.Name x pos) (rdGt G W (gNm i)) :=
  ⟨fun pins s σ H v u Q I r ⟨ρ, σi, h, vi, as, ag, rv, f⟩ => (pg_name hN hi hx hf).run pins s σ H v u Q I r (f.nx ag (as.set rv i))⟩
/-- a store gives no other end than the next -/
def OnlyNx (g : MG) : Prop := ∀ v σ h, (∃ σ' h', g v σ h = .nx σ' h') ∨ (∃ c n σ' h', g v σ h = .ex c n σ' h') ∨ g v σ h = .err
theorem FinS.ends {D' : Ends} {r : RS} (hn : (∃ σ' h', r = .nx σ' h') ∨ (∃ c n σ' h', r = .ex c n σ' h') ∨ r = .err) (f : FinS G ρ H D W r) (e : D'.nx = D.nx) : FinS G ρ H D' W r := by
  rcases hn with ⟨σ', h', q⟩ | ⟨c, n, σ', h', q⟩ | q
  · rw [q] at f ⊢; exact fun ρ' H' σ s a as => by rw [e]; exact f ρ' H' σ s a as
  · rw [q] at f ⊢; exact f
  · rw [q] at f ⊢; exact f
theorem onlyNx_name (i : Nat) : OnlyNx (gNm i) := fun _ _ _ => .inl ⟨_, _, rfl⟩
theorem ms_asg {tg : Expr} {mg : MG} (he : PE X e (rdE G W me)) (hg : PG X tg (rdGt G W mg)) (on : OnlyNx mg) (hs : swapsWithSole [tg] e pos.line X.env = pure false := by rfl) (hw : swappedStores [tg] e X.env = pure none := by rfl)
    (h1 : (assignEach [tg] X.env).map (·.2) = [assign tg X.env] := by rfl) : PS X (.Assign [tg] e pos) (rdS G W (sAsg me mg)) :=
  PS.imp' (ps_asg he hg hs hw h1) fun D σ H ⟨ρ, σi, h, as, ag, f⟩ => rdS_go as ag f fun ρ1 H1 h1 x x' st as ag r f => ⟨ρ1, _, h1, x, as, ag, r, FinS.ends (on _ _ _) f rfl⟩
theorem ms_set {i : Nat} {x : Str} {pos' : Pos} (hN : X.N.Nodup) (hi : X.N[i]? = some x) (hx : Loc X.env.scope x) (he : PE X e (rdE G W me)) (hs : swapsWith e (some (.Name x pos')) pos.line X.env = pure false := by rfl) (hf : X.fn x = true ∨ X.env.scope.names.lookup x = some .local := by first | exact .inl rfl | exact .inr rfl | assumption) :
    PS X (.Assign [.Name x pos'] e pos) (rdS G W (sAsg me (gNm i))) :=
  PS.imp' (ps_set hN hi hx he hs hf) fun D σ H ⟨ρ, σi, h, as, ag, f⟩ => rdS_go as ag f fun ρ1 H1 h1 x x' st as ag r f => f.nx ag (as.set r i)
end
end ML
end

section
set_option Elab.async false
set_option linter.all false
set_option maxRecDepth 100000
set_option maxHeartbeats 4000000
/-! The M layer, part 4: defs, calls, instances. -/
namespace ML
open PySem L2 PyProof.Rows

abbrev MF := List VI → Hi → Res VI
/-- a def's body run on its np arguments; n: how many other local names it has -/
def endB : RS → Res VI
  | .nx _ h' => .ok .non h'
  | .rt v h' => .ok v h'
  | .ex c k _ h' => .ex c k h'
  | _ => .err
def runB (np n : Nat) (body : MS) : MF := fun vs h => match Nat.beq vs.length np with
  | true => endB (body (vs.map some ++ List.replicate n none) h)
  | false => .err
/-- the promise: it does what f does -/
def spM (G : Gx) (np : Nat) (f : MF) : Sp := fun vs H Q E => ∃ ρ h args, args.length = np ∧ Ag G ρ h H ∧ RVs G ρ H args vs ∧ FinG G ρ H (RV G) Q (fun c d H' => E c d H') (f args h)
/-- a value that, called, does what f does -/
def CallM (X : Cx) (G : Gx) (W : WX) (fv : Value) (f : MF) : Prop :=
  ∀ (pins : List (Addr × Obj)) (s : Shared) (σ : L2.St) (H : Hp) (us : List Value) (vs : List V) (args : List VI) (ρ : List Addr) (h : Hi) (Q : VK), Inv X pins σ H s → Vals vs us → RVs G ρ H args vs → Ag G ρ h H →
    FinG G ρ H (RV G) Q (fun c d H' => W c d σ H') (f args h) → wpAny (model X.prog X.w) X.A (call fv us) (EP X pins σ Q) X.xe s
section
variable {G : Gx} {W : WX} {X : Cx} {ρ : List Addr} {h : Hi} {H : Hp} {σ : L2.St} {k np : Nat} {f C : Addr} {fd : FuncData} {ps : List Str} {g : MF}
theorem spM_len {vs : List V} {Q : VK} {E : XK} (h : spM G np g vs H Q E) : vs.length = np := by
  obtain ⟨_, _, args, l, _, r, _⟩ := h
  rw [← r.length, l]
theorem RVs.some_all : ∀ {vs : List VI} {xs : List V}, RVs G ρ H vs xs → ∀ (i : Nat) (v : VI), (vs.map some)[i]? = some (some v) → ∃ x, (xs.map some)[i]? = some (some x) ∧ RV G ρ H v x := fun {vs xs} r i v e => by
  rw [List.getElem?_map] at e
  cases q : vs[i]? with
  | none => rw [q] at e; cases e
  | some w =>
    rw [q] at e
    cases e
    obtain ⟨b, hb, rb⟩ := r.get q
    exact ⟨b, by rw [List.getElem?_map, hb] <;> rfl, rb⟩
theorem ags_start {N : List Str} {n : Nat} {args : List VI} {vs : List V} (r : RVs G ρ H args vs) (hn : N.length = vs.length + n) : AgS G ρ H (args.map some ++ List.replicate n none) (L2.start N vs) := by
  have hz : N.length - vs.length = n := by omega
  have hl : (args.map (some : VI → Option VI)).length = (vs.map (some : V → Option V)).length := by simp [r.length]
  unfold L2.start
  rw [hz]
  refine ⟨by simp [r.length], fun i v e => ?_⟩
  by_cases q : i < (args.map (some : VI → Option VI)).length
  · rw [List.getElem?_append_left q] at e
    rw [List.getElem?_append_left (by rw [← hl]; exact q)]
    exact r.some_all i v e
  · rw [List.getElem?_append_right (Nat.le_of_not_lt q)] at e
    have := List.mem_of_getElem? e
    rw [List.mem_replicate] at this
    cases this.2
/-- THE RULE of a def: its body read so, it does what the body does -/
theorem fn_M {P : Program} {w : World} {K : PySem.W.Frag} {mg : Str → Option Value} {base : Heap} {x qual : Str} {params : Arguments} {body : List Stmt} {scope : Scope} {dvs : List V} {kws : List (Str × V)} {N : List Str} {n : Nat} {mb : MS}
    (F : FunD K x qual params body scope dvs kws f fd) (S : FnScope N ps scope) (hn : N.length = ps.length + n)
    (hb : ∀ (cdv : Value) (A : Around) (outer : List Env) (s : Shared) (H : Hp) (E : XK), Room k (cxOf (L2.CX P w) P w K mg base N qual scope f cdv A outer s H E).A →
      Takes (cxOf (L2.CX P w) P w K mg base N qual scope f cdv A outer s H E) (fun c d _ H => E c d H) →
      PassesOwn (model P w) (cxOf (L2.CX P w) P w K mg base N qual scope f cdv A outer s H E).A (cxOf (L2.CX P w) P w K mg base N qual scope f cdv A outer s H E).env (cxOf (L2.CX P w) P w K mg base N qual scope f cdv A outer s H E).xe →
      PSs (cxOf (L2.CX P w) P w K mg base N qual scope f cdv A outer s H E) body (rdS G (fun c d _ H => E c d H) mb)) : FnOk P w K mg base (L2.CX P w) (k + 1) f fd ps (spM G ps.length (runB ps.length n mb)) := by
  refine F.ok S (fun vs H Q E h => spM_len h) (fun cdv A outer s H vs Q E hr hsp => ?_)
  obtain ⟨ρ, h, args, l, ag, r, fin⟩ := hsp
  refine ⟨_, hb cdv A outer s H E hr (takes_of rfl rfl rfl rfl) (passes_of rfl), ?_⟩
  refine ⟨ρ, _, h, ags_start r (by rw [← r.length, l]; exact hn), ag, ?_⟩
  unfold runB at fin
  rw [show Nat.beq args.length ps.length = true from by rw [l]; exact Nat.beq_refl _] at fin
  dsimp only at fin
  cases e : mb (args.map some ++ List.replicate n none) h with
  | nx σ' h' => rw [e] at fin; exact fun ρ' H' σ2 st a' as' => fin ρ' H' .non st a' .non
  | rt v h' => rw [e] at fin; exact fin
  | bk σ' h' => rw [e] at fin; exact fin.elim
  | ct σ' h' => rw [e] at fin; exact fin.elim
  | ex c n σ' h' => rw [e] at fin; exact fun ρ' H' d C σ2 st a' as' hn hc => fin ρ' H' d C st a' hn hc
  | err => rw [e] at fin; exact fin
/-- arguments of another number end nowhere -/
def Arity (np : Nat) (g : MF) : Prop := ∀ vs h, vs.length ≠ np → g vs h = .err
theorem arity_runB {n : Nat} {mb : MS} : Arity np (runB np n mb) := fun vs h hl => by
  unfold runB
  rw [show Nat.beq vs.length np = false from Bool.eq_false_iff.mpr fun z => hl (Nat.eq_of_beq_eq_true z)]
/-- a def called: no exception passes that W does not take -/
theorem callM_fn (F : FnOk X.prog X.w X.K X.mg X.base (L2.CX X.prog X.w) k f fd ps (spM G ps.length g)) (ar : Arity ps.length g) (hr : Room k X.A) (hb : Binds X.K fd ps []) (tk : Takes X W) : CallM X G W (.ref f) g := by
  intro pins s σ H us vs args ρ h Q I r ra ag fin
  by_cases hl : args.length = ps.length
  · have hsp : spM G ps.length g vs H Q (WE W σ) := ⟨ρ, h, args, hl, ag, ra, fin⟩
    have lu : us.length = ps.length := by rw [← r.length, ← ra.length]; exact hl
    have b := hb s us I.kIn (by rw [List.append_nil]; exact lu)
    rw [List.append_nil] at b
    refine wpAny_call (codeAny_mono (F.run _ _ s H ⟨us, []⟩ us vs Q (WE W σ) hr I.env0 b r hsp) fun res s' hq => ?_)
    match res, hq with
    | .error e, hq => exact passAt tk σ pins H s e s' I hq
    | .ok (.ret u), hq => exact I.after hq
  · rw [ar args h hl] at fin
    exact fin.elim
end
end ML
end

section
set_option Elab.async false
set_option linter.all false
set_option maxRecDepth 100000
set_option maxHeartbeats 4000000
/-! The M layer, part 5: call expressions, fields, methods, new instances. -/
namespace ML
open PySem L2 PyProof.Rows

def eCall (g : MF) (ma : MA) : ME := fun σ h => (ma σ h).bind fun vs h1 => g vs h1
/-- the fields by name -/
def getF (f : S) : List (S × VI) → Option VI
  | [] => none
  | (g, v) :: r => match decide (g = f) with
    | true => some v
    | false => getF f r
def setF (f : S) (v : VI) : List (S × VI) → List (S × VI)
  | [] => [(f, v)]
  | (g, x) :: r => match decide (g = f) with
    | true => (g, v) :: r
    | false => (g, x) :: setF f v r
section
variable {G : Gx} {ρ : List Addr} {H : Hp}
theorem RFs.getF : ∀ {fs : List (S × VI)} {gs : List (Str × V)} (f : S), RFs G ρ H fs gs → match ML.getF f fs with
    | some v => ∃ x, gs.lookup (toStr f) = some x ∧ RV G ρ H v x
    | none => gs.lookup (toStr f) = none
  | _, _, f, .nil => rfl
  | _, _, f, .cons (f := k) (g := g) (fs := fs) (gs := gs) e h t => by
    subst e
    unfold ML.getF
    by_cases q : k = f
    · subst q
      rw [decide_eq_true rfl]
      exact ⟨_, by simp [List.lookup], h⟩
    · rw [decide_eq_false q]
      have hb : (toStr f == toStr k) = false := beq_eq_false_iff_ne.mpr fun z => q (toStr_inj z).symm
      dsimp only
      have ih := RFs.getF f t
      simp only [List.lookup, hb]
      exact ih
theorem RFs.setF : ∀ {fs : List (S × VI)} {gs : List (Str × V)} {v : VI} {x : V} (f : S), RFs G ρ H fs gs → RV G ρ H v x → RFs G ρ H (ML.setF f v fs) (putF (toStr f) x gs)
  | _, _, _, _, f, .nil, r => .cons rfl r .nil
  | _, _, v, x, f, .cons (f := k) (g := g) (fs := fs) (gs := gs) e h t, r => by
    subst e
    unfold ML.setF
    by_cases q : k = f
    · subst q
      rw [decide_eq_true rfl]
      show RFs G ρ H _ (if toStr k = toStr k then _ else _)
      rw [if_pos rfl]
      exact .cons rfl r t
    · rw [decide_eq_false q]
      show RFs G ρ H _ (if toStr k = toStr f then _ else _)
      rw [if_neg fun z => q (toStr_inj z)]
      exact .cons rfl h (RFs.setF f t r)
end
/-- e.f, a field of an instance of one of the classes cs -/
def eFld (cs : List Nat) (f : S) (e : ME) : ME := fun σ h => (e σ h).bind fun x h1 => match x with
  | .ref n => match h1[n]? with
    | some (.ins c fs) => match cs.contains c, getF f fs with
      | true, some v => .ok v h1
      | _, _ => .err
    | _ => .err
  | _ => .err
/-- what is asked of the classes cs for their field f -/
def FldOk (K : PySem.W.Frag) (G : Gx) (cs : List Nat) (f : S) : Prop := ∀ c C, cs.contains c = true → G.ct c = some C → Cls K C ∧ NoAttr K C (toStr f)
/-- e.f, a constant of the class: its value by the class's number -/
def eCon (tbl : Nat → Option VI) (f : S) (e : ME) : ME := fun σ h => (e σ h).bind fun x h1 => match x with
  | .ref n => match h1[n]? with
    | some (.ins c fs) => match tbl c, getF f fs with
      | some v, none => .ok v h1
      | _, _ => .err
    | _ => .err
  | _ => .err
def ConOk (K : PySem.W.Frag) (G : Gx) (tbl : Nat → Option VI) (f : S) : Prop := ∀ c C v, tbl c = some v → G.ct c = some C → Cls K C ∧ ∃ x u, Con K C (toStr f) x u ∧ ∀ ρ H, RV G ρ H v x
/-- o.f = value -/
def sFldM (cs : List Nat) (f : S) (o v : ME) : MS := fun σ h => (v σ h).bindS σ fun y h1 => (o σ h1).bindS σ fun x h2 => match x with
  | .ref n => match h2[n]? with
    | some (.ins c fs) => match cs.contains c && Nat.blt fs.length 1000 with
      | true => .nx σ (h2.set n (.ins c (setF f y fs)))
      | false => .err
    | _ => .err
  | _ => .err
/-- o.m(..) by the class of o -/
def eMeth (tbl : Nat → Option MF) (m : S) (o : ME) (ma : MA) : ME := fun σ h => (o σ h).bind fun x h1 => match x with
  | .ref n => match h1[n]? with
    | some (.ins c fs) => match tbl c, getF m fs with
      | some g, none => (ma σ h1).bind fun vs h2 => g (.ref n :: vs) h2
      | _, _ => .err
    | _ => .err
  | _ => .err
def MethOk (X : Cx) (G : Gx) (W : WX) (tbl : Nat → Option MF) (m : S) : Prop := ∀ c C g, tbl c = some g → G.ct c = some C → Cls X.K C ∧ ∃ f, Meth X.K C (toStr m) f ∧ CallM X G W (.ref f) g
/-- C(..): a new instance, then its __init__ -/
def eMake (c : Nat) (g : MF) (ma : MA) : ME := fun σ h => (ma σ h).bind fun vs h1 => match g (.ref h1.length :: vs) (h1 ++ [.ins c []]) with
  | .ok .non h2 => .ok (.ref h1.length) h2
  | .ex c n h2 => .ex c n h2
  | _ => .err
section
variable {G : Gx} {W : WX} {X : Cx} {ρ : List Addr} {h : Hi} {H : Hp} {σ : L2.St} {k : Nat} {f C : Addr} {fd : FuncData} {ps : List Str} {g : MF} {x : Str} {p pos apos pos' : Pos} {e o v : Expr} {es : List Expr} {ma : MA} {me mo mv : ME}
theorem me_call (c : CallM X G W (.ref f) g) (hg : Gl X x) (hm : X.mg x = some (.ref f)) (hk : PySem.W.keepIn X.K (.ref f) = true) (ha : PA X (e :: es) (rdA G W ma)) (hdb : (x == ("__debug__" : Str)) = false := by decide)
    (he : starEach (e :: es) X.env = (false, eval e X.env) :: starEach es X.env := by rfl) (hpl : (backTo pos (starEach es X.env)).any (·.1) = false := by rfl) : PE X (.Call (.Name x p) (e :: es) [] pos) (rdE G W (eCall g ma)) := by
  refine ⟨fun pins s σ H Q I ⟨ρ, σi, h, as, ag, fin⟩ => ?_⟩
  refine wpAny_Call_Name_kw (ld_glob I hg hm ?_ hdb)
  have A : rdA G W ma σ H fun vs H1 => ∃ ρ1 h1 args, RVs G ρ1 H1 args vs ∧ Ag G ρ1 h1 H1 ∧ FinG G ρ1 H1 (RV G) Q (fun c d H' => W c d σ H') (g args h1) :=
    rdG_go as ag fin fun ρ1 H1 h1 xs ys st as ag r f => ⟨ρ1, h1, xs, r, ag, f⟩
  refine PySem.W.callWith_K (h₀ := X.base) I.ok.mod.kin hk (thn (ha.run pos pins s σ H _ I A) fun us s1 ⟨vs, H1, I1, r, q⟩ => ⟨I1.kIn, ?_⟩) he hpl
  obtain ⟨ρ1, h1, args, ra, ag1, f1⟩ := q
  exact c pins s1 σ H1 us vs args ρ1 h1 Q I1 r ra ag1 f1
theorem me_call0 (c : CallM X G W (.ref f) g) (hg : Gl X x) (hm : X.mg x = some (.ref f)) (hk : PySem.W.keepIn X.K (.ref f) = true) (hdb : (x == ("__debug__" : Str)) = false := by decide) : PE X (.Call (.Name x p) [] [] pos) (rdE G W (eCall g aNil)) := by
  refine ⟨fun pins s σ H Q I ⟨ρ, σi, h, as, ag, fin⟩ => ?_⟩
  refine wpAny_Call_Name_kw (ld_glob I hg hm ?_ hdb)
  exact PySem.W.callWith_K0 I.kIn hk (c pins s σ H [] [] [] ρ h Q I .nil .nil ag fin)
/-- an instance at a reference -/
theorem insAt (ag : Ag G ρ h H) {n : Nat} {a : Addr} {c : Nat} {fl : List (S × VI)} (q : h[n]? = some (.ins c fl)) (e : ρ[n]? = some a) : ∃ C dx gs, G.ct c = some C ∧ H a = some (.ins C dx gs) ∧ RFs G ρ H fl gs := ag.at_ q e
theorem me_fld {cs : List Nat} {fn : S} {fs : Str} (ef : fs = toStr fn) (hF : FldOk X.K G cs fn) (he : PE X e (rdE G W me)) (hb : attributeBase e fs X.env (eval e X.env) = eval e X.env) : PE X (.Attribute e fs pos) (rdE G W (eFld cs fn me)) := by
  subst ef
  refine PE.imp' (pe_fld he hb) fun σ H Q ⟨ρ, σi, h, as, ag, fin⟩ => rdG_go as ag fin fun ρ1 H1 h1 x y st as ag r fi => ?_
  cases r with
  | @ref n a e =>
    dsimp only at fi
    cases q : h1[n]? with
    | none => rw [q] at fi; exact fi.elim
    | some ob =>
      rw [q] at fi
      cases ob with
      | ins c fl =>
        dsimp only at fi
        obtain ⟨C, dx, gs, hc, hH, rf⟩ := insAt ag q e
        have gf := RFs.getF fn rf
        cases q1 : cs.contains c with
        | false => rw [q1] at fi; exact fi.elim
        | true =>
          cases q2 : getF fn fl with
          | none => rw [q1, q2] at fi; exact fi.elim
          | some w =>
            rw [q2] at gf
            obtain ⟨z, hz, rz⟩ := gf
            rw [q1, q2] at fi
            obtain ⟨k1, k2⟩ := hF c C q1 hc
            exact ⟨a, C, dx, gs, z, rfl, hH, k1, k2, hz, fi.ok ag rz⟩
      | _ => exact fi.elim
  | _ => exact fi.elim
theorem me_con {tbl : Nat → Option VI} {fn : S} {fs : Str} (ef : fs = toStr fn) (hF : ConOk X.K G tbl fn) (he : PE X e (rdE G W me)) (hb : attributeBase e fs X.env (eval e X.env) = eval e X.env) : PE X (.Attribute e fs pos) (rdE G W (eCon tbl fn me)) := by
  subst ef
  refine PE.imp' (pe_con he hb) fun σ H Q ⟨ρ, σi, h, as, ag, fin⟩ => rdG_go as ag fin fun ρ1 H1 h1 x y st as ag r fi => ?_
  cases r with
  | @ref n a e =>
    dsimp only at fi
    cases q : h1[n]? with
    | none => rw [q] at fi; exact fi.elim
    | some ob =>
      rw [q] at fi
      cases ob with
      | ins c fl =>
        dsimp only at fi
        obtain ⟨C, dx, gs, hc, hH, rf⟩ := insAt ag q e
        have gf := RFs.getF fn rf
        cases q1 : tbl c with
        | none => rw [q1] at fi; exact fi.elim
        | some v =>
          cases q2 : getF fn fl with
          | some w => rw [q1, q2] at fi; exact fi.elim
          | none =>
            rw [q2] at gf
            rw [q1, q2] at fi
            obtain ⟨k1, z, u, k2, k3⟩ := hF c C v q1 hc
            exact ⟨a, C, dx, gs, z, u, rfl, hH, k1, k2, gf, fi.ok ag (k3 _ _)⟩
      | _ => exact fi.elim
  | _ => exact fi.elim
theorem ms_fld {cs : List Nat} {fn : S} {fs : Str} (ef : fs = toStr fn) (hF : FldOk X.K G cs fn) (ho : PE X o (rdE G W mo)) (hv : PE X v (rdE G W mv)) (hs : swapsWith v (some (.Attribute o fs pos')) pos.line X.env = pure false) : PS X (.Assign [.Attribute o fs pos'] v pos) (rdS G W (sFldM cs fn mo mv)) := by
  subst ef
  refine PS.imp' (ps_fld ho hv hs) fun D σ H ⟨ρ, σi, h, as, ag, fin⟩ => rdS_go as ag fin fun ρ1 H1 h1 y y' st as ag ry fin => rdS_go as ag fin fun ρ2 H2 h2 x x' st2 as ag r fi => ?_
  cases r with
  | @ref n a e =>
    dsimp only at fi
    cases q : h2[n]? with
    | none => rw [q] at fi; exact fi.elim
    | some ob =>
      rw [q] at fi
      cases ob with
      | ins c fl =>
        dsimp only at fi
        obtain ⟨C, dx, gs, hc, hH, rf⟩ := insAt ag q e
        cases q1 : cs.contains c && Nat.blt fl.length 1000 with
        | false => rw [q1] at fi; exact fi.elim
        | true =>
          rw [q1] at fi
          obtain ⟨q2, q3⟩ := Bool.and_eq_true_iff.mp q1
          obtain ⟨k1, k2⟩ := hF c C q2 hc
          have st3 : Stp G ρ2 H2 ρ2 (upd H2 a (.ins C dx (putF (toStr fn) y' gs))) := Stp.wr ag q e
          exact ⟨a, C, dx, gs, rfl, hH, k1, k2, by rw [← rf.length]; exact Nat.le_of_ble_eq_true q3,
            fi ρ2 _ σ st3 (ag.wr q e ⟨C, dx, _, hc, upd_same, RFs.setF fn (rf.mono st3) (ry.mono (st2.trans st3))⟩) (as.mono st3)⟩
      | _ => exact fi.elim
  | _ => exact fi.elim
theorem me_meth {tbl : Nat → Option MF} {m : S} {mm : Str} (em : mm = toStr m) (hM : MethOk X G W tbl m) (ho : PE X o (rdE G W mo)) (ha : PA X (e :: es) (rdA G W ma)) {pl : Sem Bool}
    (hst : starEach (e :: es) X.env = (false, eval e X.env) :: starEach es X.env := by rfl) (hpl : (backTo pos (starEach es X.env)).any (·.1) = false := by rfl)
    (ht : eval (.Call (.Attribute o mm apos) (e :: es) [] pos) X.env = (do
      let ov ← eval o X.env
      standAt apos.atName
      let (f, first) ← holding [ov] (getMethod ov mm pl)
      callWith pos f first (backTo pos (starEach (e :: es) X.env)) (backToKw pos (keywordEach [] X.env))) := by rfl) :
    PE X (.Call (.Attribute o mm apos) (e :: es) [] pos) (rdE G W (eMeth tbl m mo ma)) := by
  subst em
  refine ⟨fun pins s σ H Q I ⟨ρ, σi, h, as, ag, fin⟩ => ?_⟩
  have A : rdE G W mo σ H fun x H1 => ∃ ρ1 h1 n a c fl g, x = .ref a ∧ AgS G ρ1 H1 σi σ ∧ Ag G ρ1 h1 H1 ∧ ρ1[n]? = some a ∧ h1[n]? = some (.ins c fl) ∧ tbl c = some g ∧ getF m fl = none ∧
      FinG G ρ1 H1 (RV G) Q (fun c d H' => W c d σ H') ((ma σi h1).bind fun vs h2 => g (.ref n :: vs) h2) :=
    rdG_go as ag fin fun ρ1 H1 h1 x y st as ag r fi => by
      cases r with
      | @ref n a e =>
        dsimp only at fi
        cases q : h1[n]? with
        | none => rw [q] at fi; exact fi.elim
        | some ob =>
          rw [q] at fi
          cases ob with
          | ins c fl =>
            dsimp only at fi
            cases q1 : tbl c with
            | none => rw [q1] at fi; exact fi.elim
            | some g =>
              cases q2 : getF m fl with
              | some w => rw [q1, q2] at fi; exact fi.elim
              | none =>
                rw [q1, q2] at fi
                exact ⟨ρ1, h1, n, a, c, fl, g, rfl, as, ag, e, q, q1, q2, fi⟩
          | _ => exact fi.elim
      | _ => exact fi.elim
  refine PySem.W.methodCall_KW (pl := pl) (thn (ho.run pins s σ H _ I A) fun u s1 ⟨x, H1, I1, rx, ρ1, h1, n, a, c, fl, g, ex, as1, ag1, hn, hh, ht, hl, f1⟩ => ?_) ht
  subst ex
  obtain rfl : u = Value.ref a := rx
  obtain ⟨C, dx, gs, hc, hH, rf⟩ := insAt ag1 hh hn
  have gf := RFs.getF m rf
  rw [hl] at gf
  obtain ⟨k1, fa, k2, k3⟩ := hM c C g ht hc
  refine getmeth_ok I1 hH k1 k2 gf ?_
  have B : rdA G W ma σ H1 fun vs H2 => ∃ ρ2 h2 args, RVs G ρ2 H2 (.ref n :: args) (.ref a :: vs) ∧ Ag G ρ2 h2 H2 ∧ FinG G ρ2 H2 (RV G) Q (fun c d H' => W c d σ H') (g (.ref n :: args) h2) :=
    rdG_go as1 ag1 f1 fun ρ2 H2 h2 xs ys st as ag r f => ⟨ρ2, h2, xs, .cons (.ref (st.pre _ _ hn)) r, ag, f⟩
  refine PySem.W.callWith_K (first := [.ref a]) (h₀ := X.base) I.ok.mod.kin k2.kp (thn (ha.run pos pins s1 σ H1 _ I1 B) fun us s2 ⟨vs, H2, I2, r, q⟩ => ⟨I2.kIn, ?_⟩) hst hpl
  obtain ⟨ρ2, h2, args, ra, ag2, f2⟩ := q
  exact k3 pins s2 σ H2 (.ref a :: us) (.ref a :: vs) _ ρ2 h2 Q I2 (.cons rfl r) ra ag2 f2
theorem me_meth0 {tbl : Nat → Option MF} {m : S} {mm : Str} (em : mm = toStr m) (hM : MethOk X G W tbl m) (ho : PE X o (rdE G W mo)) {pl : Sem Bool}
    (ht : eval (.Call (.Attribute o mm apos) [] [] pos) X.env = (do
      let ov ← eval o X.env
      standAt apos.atName
      let (f, first) ← holding [ov] (getMethod ov mm pl)
      callWith pos f first (backTo pos (starEach [] X.env)) (backToKw pos (keywordEach [] X.env))) := by rfl) :
    PE X (.Call (.Attribute o mm apos) [] [] pos) (rdE G W (eMeth tbl m mo aNil)) := by
  subst em
  refine ⟨fun pins s σ H Q I ⟨ρ, σi, h, as, ag, fin⟩ => ?_⟩
  have A : rdE G W mo σ H fun x H1 => ∃ ρ1 h1 n a c fl g, x = .ref a ∧ Ag G ρ1 h1 H1 ∧ ρ1[n]? = some a ∧ h1[n]? = some (.ins c fl) ∧ tbl c = some g ∧ getF m fl = none ∧
      FinG G ρ1 H1 (RV G) Q (fun c d H' => W c d σ H') (g [.ref n] h1) :=
    rdG_go as ag fin fun ρ1 H1 h1 x y st as ag r fi => by
      cases r with
      | @ref n a e =>
        dsimp only at fi
        cases q : h1[n]? with
        | none => rw [q] at fi; exact fi.elim
        | some ob =>
          rw [q] at fi
          cases ob with
          | ins c fl =>
            dsimp only at fi
            cases q1 : tbl c with
            | none => rw [q1] at fi; exact fi.elim
            | some g =>
              cases q2 : getF m fl with
              | some w => rw [q1, q2] at fi; exact fi.elim
              | none =>
                rw [q1, q2] at fi
                exact ⟨ρ1, h1, n, a, c, fl, g, rfl, ag, e, q, q1, q2, fi⟩
          | _ => exact fi.elim
      | _ => exact fi.elim
  refine PySem.W.methodCall_KW (pl := pl) (thn (ho.run pins s σ H _ I A) fun u s1 ⟨x, H1, I1, rx, ρ1, h1, n, a, c, fl, g, ex, ag1, hn, hh, ht, hl, f1⟩ => ?_) ht
  subst ex
  obtain rfl : u = Value.ref a := rx
  obtain ⟨C, dx, gs, hc, hH, rf⟩ := insAt ag1 hh hn
  have gf := RFs.getF m rf
  rw [hl] at gf
  obtain ⟨k1, fa, k2, k3⟩ := hM c C g ht hc
  refine getmeth_ok I1 hH k1 k2 gf ?_
  exact PySem.W.callWith_K0 (first := [.ref a]) I1.kIn k2.kp (k3 pins s1 σ H1 [.ref a] [.ref a] [.ref n] ρ1 h1 Q I1 (.cons rfl .nil) (.cons (.ref hn) .nil) ag1 f1)
end
end ML
end

section
set_option Elab.async false
set_option linter.all false
set_option maxRecDepth 100000
set_option maxHeartbeats 4000000
/-! The M layer, part 6: new instances, properties, loops. -/
namespace ML
open PySem L2 PyProof.Rows
section
variable {G : Gx} {W : WX} {X : Cx} {ρ : List Addr} {h : Hi} {H : Hp} {σ : L2.St} {k : Nat} {f C : Addr} {fd : FuncData} {ps : List Str} {g : MF} {x : Str} {p pos apos pos' : Pos} {e o v : Expr} {es : List Expr} {ma : MA} {me mo mv : ME}
/-- C called as a value: what a new instance's __init__ does -/
def mkM (c : Nat) (g : MF) : MF := fun vs h => match g (.ref h.length :: vs) (h ++ [.ins c []]) with
  | .ok .non h2 => .ok (.ref h.length) h2
  | .ex c n h2 => .ex c n h2
  | _ => .err
theorem callM_make {c : Nat} (M : Mk X.K C f) (hc : G.ct c = some C) (F : FnOk X.prog X.w X.K X.mg X.base (L2.CX X.prog X.w) k f fd ps (spM G ps.length g)) (ar : Arity ps.length g) (hr : Room (k + 1) X.A) (hb : Binds X.K fd ps []) (tk : Takes X W) :
    CallM X G W (.ref C) (mkM c g) := by
  intro pins s σ H us vs args ρ h Q I r ra ag fin
  have n0 : H (s.heap.objs.size + 1) = none := I.hok.fresh (Nat.le_succ _)
  have n1 : H s.heap.objs.size = none := I.hok.fresh (Nat.le_refl _)
  have ne : s.heap.objs.size ≠ s.heap.objs.size + 1 := Nat.ne_of_lt (Nat.lt_succ_self _)
  have I2 := L2.Inv.made (C := C) I
  have st1 : Stp G ρ H ρ (upd H s.heap.objs.size (.own (s.heap.objs.size + 1))) := Stp.more n1
  have a1 : Ag G ρ h (upd H s.heap.objs.size (.own (s.heap.objs.size + 1))) := ag.more n1
  have n2 : upd H s.heap.objs.size (.own (s.heap.objs.size + 1)) (s.heap.objs.size + 1) = none := by rw [upd_ne ne.symm]; exact n0
  have st2 := Stp.new (G := G) (ρ := ρ) (o := .ins C s.heap.objs.size []) n2
  have a2 := a1.new (o := .ins C s.heap.objs.size []) (u := .ins c []) n2 ⟨C, s.heap.objs.size, [], hc, upd_same, .nil⟩
  have st := st1.trans st2
  have hx : (ρ ++ [s.heap.objs.size + 1])[h.length]? = some (s.heap.objs.size + 1) := by rw [← ag.len]; simp
  by_cases hl : (VI.ref h.length :: args).length = ps.length
  · have hsp : spM G ps.length g (.ref (s.heap.objs.size + 1) :: vs) (upd (upd H s.heap.objs.size (.own (s.heap.objs.size + 1))) (s.heap.objs.size + 1) (.ins C s.heap.objs.size [])) (fun v H2 => v = .non ∧ Q (.ref (s.heap.objs.size + 1)) H2) (WE W σ) := by
      refine ⟨_, _, _, hl, a2, .cons (.ref hx) (ra.mono st), ?_⟩
      unfold mkM at fin
      cases q : g (.ref h.length :: args) (h ++ [.ins c []]) with
      | err => rw [q] at fin; exact fin.elim
      | ex c' n h2 => rw [q] at fin; exact fun ρ' H' d C' s a hn hc => fin ρ' H' d C' (st.trans s) a hn hc
      | ok v h2 =>
        rw [q] at fin
        cases v with
        | non =>
          exact fun ρ' H' x s a rx => by
            cases rx
            exact ⟨rfl, fin ρ' H' _ (st.trans s) a (.ref (s.pre _ _ hx))⟩
        | _ => exact fin.elim
    have r2 : Vals (V.ref (s.heap.objs.size + 1) :: vs) (Value.ref (s.heap.objs.size + 1) :: us) := .cons rfl r
    have lu : ((Value.ref (s.heap.objs.size + 1) :: us) ++ []).length = ps.length := by rw [List.append_nil, ← r2.length, List.length_cons, ← ra.length]; exact hl
    have b := hb _ (Value.ref (s.heap.objs.size + 1) :: us) I2.kIn lu
    rw [List.append_nil] at b
    refine wpAny_call (make_map (f := f) I.kIn M.makes M.init (beq_iff_eq.mp M.fn) (codeAny_mono (F.run _ _ _ _ ⟨Value.ref (s.heap.objs.size + 1) :: us, []⟩ _ _ _ (WE W σ) (hr.make C us []) (I2.env0.make C us []) b r2 hsp) fun res s' hq => ?_))
    match res, hq with
    | .error e, hq => exact passAt tk σ pins _ _ e s' I2 hq
    | .ok (.ret u), hq =>
      obtain ⟨v, H', I3, rv, ev, q3⟩ := I2.after hq
      subst ev
      exact ⟨rv, ⟨V.ref (s.heap.objs.size + 1), H', I3, rfl, q3⟩⟩
  · unfold mkM at fin
    rw [ar _ _ hl] at fin
    exact fin.elim
/-- what ends well -/
def okM : Res VI → Res VI
  | .ok v h => .ok v h
  | _ => .err
/-- e.f, a property of the class of e -/
def eProp (tbl : Nat → Option MF) (e : ME) : ME := fun σ h => (e σ h).bind fun x h1 => match x with
  | .ref n => match h1[n]? with
    | some (.ins c fs) => match tbl c with
      | some g => okM (g [.ref n] h1)
      | none => .err
    | _ => .err
  | _ => .err
/-- each class's getter: a def -/
def PropOk (X : Cx) (G : Gx) (tbl : Nat → Option MF) (f : S) : Prop := ∀ c C g, tbl c = some g → G.ct c = some C → Cls X.K C ∧ ∃ (p ga : Addr) (fd : FuncData) (ps : List Str) (k : Nat), PropOf X.K C (toStr f) p ga ∧ Arity ps.length g ∧
  FnOk X.prog X.w X.K X.mg X.base (L2.CX X.prog X.w) k ga fd ps (spM G ps.length g) ∧ Room (k + 1) X.A ∧ Binds X.K fd ps []
theorem me_prop {tbl : Nat → Option MF} {fn : S} {fs : Str} (ef : fs = toStr fn) (hP : PropOk X G tbl fn) (he : PE X e (rdE G W me)) (hb : attributeBase e fs X.env (eval e X.env) = eval e X.env) : PE X (.Attribute e fs pos) (rdE G W (eProp tbl me)) := by
  subst ef
  refine ⟨fun pins s σ H Q I ⟨ρ, σi, h, as, ag, fin⟩ => ?_⟩
  have A : rdE G W me σ H fun x H1 => ∃ ρ1 h1 n a c fl g, x = .ref a ∧ Ag G ρ1 h1 H1 ∧ ρ1[n]? = some a ∧ h1[n]? = some (.ins c fl) ∧ tbl c = some g ∧
      FinG G ρ1 H1 (RV G) Q (fun c d H' => W c d σ H') (okM (g [.ref n] h1)) :=
    rdG_go as ag fin fun ρ1 H1 h1 x y st as ag r fi => by
      cases r with
      | @ref n a e =>
        dsimp only at fi
        cases q : h1[n]? with
        | none => rw [q] at fi; exact fi.elim
        | some ob =>
          rw [q] at fi
          cases ob with
          | ins c fl =>
            dsimp only at fi
            cases q1 : tbl c with
            | none => rw [q1] at fi; exact fi.elim
            | some g =>
              rw [q1] at fi
              exact ⟨ρ1, h1, n, a, c, fl, g, rfl, ag, e, q, q1, fi⟩
          | _ => exact fi.elim
      | _ => exact fi.elim
  refine attr_of hb (thn (he.run pins s σ H _ I A) fun u s1 ⟨x, H1, I1, rx, ρ1, h1, n, a, c, fl, g, ex, ag1, hn, hh, ht, f1⟩ => ?_)
  subst ex
  obtain rfl : u = Value.ref a := rx
  obtain ⟨C, dx, gs, hc, hH, rf⟩ := insAt ag1 hh hn
  obtain ⟨k1, p, ga, fd, ps, k, k2, k3, k4, k5, k6⟩ := hP c C g ht hc
  have one : ([VI.ref n] : List VI).length = ps.length := by
    by_cases z : ([VI.ref n] : List VI).length = ps.length
    · exact z
    · rw [k3 _ _ z] at f1
      exact f1.elim
  refine getprop_ok I1 hH k1 k2 k4 k5 k6 (dvs := []) .nil (E := fun _ _ _ => False) (fun _ _ _ _ _ _ _ hx => ?_) ?_
  · obtain ⟨_, _, _, _, _, _, _, _, _, _, _, _, z⟩ := hx
    exact z.elim
  · refine ⟨ρ1, h1, [.ref n], one, ag1, .cons (.ref hn) .nil, ?_⟩
    cases q : g [.ref n] h1 with
    | err => rw [q] at f1; exact f1.elim
    | ex c n h2 => rw [q] at f1; exact f1.elim
    | ok v h2 => rw [q] at f1; exact f1
end
end ML
end

section
set_option Elab.async false
set_option linter.all false
set_option maxRecDepth 100000
set_option maxHeartbeats 4000000
/-! The M layer, part 7: built-ins by values, subscripts, dicts, list methods. -/
namespace ML
open PySem L2

theorem PE.dispatch {X : Cx} {e : Expr} {t : TE} (h : ∀ σ H Q, t σ H Q → ∃ t', PE X e t' ∧ t' σ H Q) : PE X e t := ⟨fun pins s σ H Q I q => let ⟨_, p, q'⟩ := h σ H Q q; p.run pins s σ H Q I q'⟩
theorem PS.dispatch {X : Cx} {e : Stmt} {t : TS} (h : ∀ D σ H, t D σ H → ∃ t', PS X e t' ∧ t' D σ H) : PS X e t := ⟨fun pins s σ H D I q => let ⟨_, p, q'⟩ := h D σ H q; p.run pins s σ H D I q'⟩

abbrev OpC := List VI → Hi → Option (VI × Hi)
def rdC (G : Gx) (f : OpC) : List V → Hp → VK → Prop := fun xs H Q => ∃ ρ h args, Ag G ρ h H ∧ RVs G ρ H args xs ∧ FinO G ρ H (RV G) Q (f args h)
def eCB (f : OpC) (ma : MA) : ME := fun σ h => (ma σ h).bind fun vs h1 => ofO (f vs h1)
section
variable {G : Gx} {ρ : List Addr} {h : Hi} {H : Hp} {W : WX} {X : Cx} {e a b c o i : Expr} {es : List Expr} {pos p pos' apos : Pos} {me mi mo ma mb mv : ME} {mr : MA} {f : OpC} {x : Str} {id T : String}
theorem callR_at {fv : Value} (h : ∀ ρ h H args xs Q, Ag G ρ h H → RVs G ρ H args xs → FinO G ρ H (RV G) Q (f args h) → ∃ r, CallR X fv r ∧ r xs H Q) : CallR X fv (rdC G f) :=
  fun pins s σ H xs us Q I r ⟨ρ, hi, args, ag, ra, q⟩ => by
    obtain ⟨r', ho, hr⟩ := h ρ hi H args xs Q ag ra q
    exact ho pins s σ H xs us Q I r hr
theorem me_cb (hc : CallR X (.builtin id) (rdC G f)) (hg : Gl X x) (hm : X.mg x = none) (hv : bootBuiltins x = some (.builtin id)) (ha : PA X (e :: es) (rdA G W mr)) (hn : x ≠ "__name__" := by decide) (hdb : (x == ("__debug__" : Str)) = false := by decide)
    (he : starEach (e :: es) X.env = (false, eval e X.env) :: starEach es X.env := by rfl) (hpl : (backTo pos (starEach es X.env)).any (·.1) = false := by rfl) : PE X (.Call (.Name x p) (e :: es) [] pos) (rdE G W (eCB f mr)) :=
  PE.imp' (pe_callB hc hg hm hv ha hn hdb he hpl) fun σ H Q ⟨ρ, σi, h, as, ag, fin⟩ => rdG_go as ag fin fun ρ1 H1 h1 vs ys st as ag r fi => ⟨ρ1, h1, vs, ag, r, FinO.of fi⟩
theorem me_cty (hc : CallR X (.type T) (rdC G f)) (hg : Gl X x) (hm : X.mg x = none) (hv : bootBuiltins x = some (.type T)) (ha : PA X (e :: es) (rdA G W mr)) (hn : x ≠ "__name__" := by decide) (hdb : (x == ("__debug__" : Str)) = false := by decide)
    (he : starEach (e :: es) X.env = (false, eval e X.env) :: starEach es X.env := by rfl) (hpl : (backTo pos (starEach es X.env)).any (·.1) = false := by rfl) : PE X (.Call (.Name x p) (e :: es) [] pos) (rdE G W (eCB f mr)) :=
  PE.imp' (pe_callTy hc hg hm hv ha hn hdb he hpl) fun σ H Q ⟨ρ, σi, h, as, ag, fin⟩ => rdG_go as ag fin fun ρ1 H1 h1 vs ys st as ag r fi => ⟨ρ1, h1, vs, ag, r, FinO.of fi⟩

/-! ### len, int, max, min, list, tuple, dict -/
def cLen : OpC := fun vs h => match vs with
  | [.tup xs] => some (.int xs.length, h)
  | [.str s] => match small s.length with
    | true => some (.int s.length, h)
    | false => none
  | [.ref n] => match h[n]? with
    | some (.lst xs) => some (.int xs.length, h)
    | some (.scr xs) => some (.int xs.length, h)
    | some (.dic kvs) => some (.int kvs.length, h)
    | _ => none
  | _ => none
theorem mc_len (hG : G.K = X.K) : CallR X (.builtin "len") (rdC G cLen) := callR_at fun ρ h H args xs Q ag ra fi => by
  unfold cLen at fi
  cases ra with
  | nil => exact fi.elim
  | cons r t =>
    cases t with
    | cons _ _ => cases r <;> exact fi.elim
    | nil =>
      cases r with
      | @tup xs ys a t1 s1 => exact ⟨_, call_len_seq, a, ys, rfl, .inr (hG ▸ t1), by rw [← s1.length]; exact fi.ok ag (.int _)⟩
      | @str s z q =>
        subst q
        dsimp only at fi
        cases q : small s.length with
        | false => rw [q] at fi; exact fi.elim
        | true =>
          rw [q] at fi
          exact ⟨_, call_len_str, _, rfl, by rw [toStr_length]; exact small_ok q, by rw [toStr_length]; exact fi.ok ag (.int _)⟩
      | @ref n a q =>
        dsimp only at fi
        cases q1 : h[n]? with
        | none => rw [q1] at fi; exact fi.elim
        | some ob =>
          rw [q1] at fi
          cases ob with
          | lst xs =>
            obtain ⟨ys, hy, rs⟩ := ag.at_ q1 q
            exact ⟨_, call_len_seq, a, ys, rfl, .inl (.inl (.inl hy)), by rw [← rs.length]; exact fi.ok ag (.int _)⟩
          | scr xs =>
            obtain ⟨ob, ys, hy, rs⟩ := ag.at_ q1 q
            exact ⟨_, call_len_seq, a, ys, rfl, .inl (.inl (.inr ⟨_, hy⟩)), by rw [← rs.length]; exact fi.ok ag (.int _)⟩
          | dic kvs =>
            obtain ⟨ks, hy, rs⟩ := ag.at_ q1 q
            exact ⟨_, call_lenD, a, ks, rfl, hy, by rw [← rs.length]; exact fi.ok ag (.int _)⟩
          | _ => exact fi.elim
      | _ => exact fi.elim
def cInt : OpC := fun vs h => match vs with
  | [.int i] => some (.int i, h)
  | [.bl b] => some (.int (if b then 1 else 0), h)
  | _ => none
theorem mc_int : CallR X (.type "int") (rdC G cInt) := callR_at fun ρ h H args xs Q ag ra fi => by
  unfold cInt at fi
  cases ra with
  | nil => exact fi.elim
  | cons r t =>
    cases t with
    | cons _ _ => cases r <;> exact fi.elim
    | nil =>
      cases r with
      | int i => exact ⟨_, call_int1, .inl ⟨i, rfl, fi.ok ag (.int _)⟩⟩
      | bl k => exact ⟨_, call_int1, .inr ⟨k, rfl, fi.ok ag (.int _)⟩⟩
      | _ => exact fi.elim
def cMax : OpC := fun vs h => match vs with
  | [.int i, .int j] => some (.int (if j > i then j else i), h)
  | _ => none
def cMin : OpC := fun vs h => match vs with
  | [.int i, .int j] => some (.int (if j < i then j else i), h)
  | _ => none
theorem mc_max (hc : X.calm = true) : CallR X (.builtin "max") (rdC G cMax) := callR_at fun ρ h H args xs Q ag ra fi => by
  unfold cMax at fi
  cases ra with
  | nil => exact fi.elim
  | cons r t =>
    cases r with
    | int i =>
      cases t with
      | nil => exact fi.elim
      | cons r2 t2 =>
        cases r2 with
        | int j =>
          cases t2 with
          | nil => exact ⟨_, call_max2 hc, i, j, rfl, fi.ok ag (.int _)⟩
          | cons _ _ => exact fi.elim
        | _ => exact fi.elim
    | _ => exact fi.elim
theorem mc_min (hc : X.calm = true) : CallR X (.builtin "min") (rdC G cMin) := callR_at fun ρ h H args xs Q ag ra fi => by
  unfold cMin at fi
  cases ra with
  | nil => exact fi.elim
  | cons r t =>
    cases r with
    | int i =>
      cases t with
      | nil => exact fi.elim
      | cons r2 t2 =>
        cases r2 with
        | int j =>
          cases t2 with
          | nil => exact ⟨_, call_min2 hc, i, j, rfl, fi.ok ag (.int _)⟩
          | cons _ _ => exact fi.elim
        | _ => exact fi.elim
    | _ => exact fi.elim
/-- a dict's keys are ints or texts -/
def cList : OpC := fun vs h => match vs with
  | [.tup xs] => some (.ref h.length, h ++ [.lst xs])
  | [.ref n] => match h[n]? with
    | some (.lst xs) => some (.ref h.length, h ++ [.lst xs])
    | some (.scr xs) => some (.ref h.length, h ++ [.lst xs])
    | some (.dic kvs) => some (.ref h.length, h ++ [.lst (kvs.map (·.1))])
    | _ => none
  | _ => none
theorem RK.rv {a : VI} {k : Key} (r : RK a k) {H : Hp} {ρ : List Addr} : RV G ρ H a (kV k) := by
  cases a with
  | int i => cases r; exact .int i
  | str s => cases r; exact .str rfl
  | _ => exact r.elim
theorem RKs.keys {ρ : List Addr} {H : Hp} : ∀ {kvs : List (VI × VI)} {ks : List (Key × V)}, RKs G ρ H kvs ks → RVs G ρ H (kvs.map (·.1)) (ks.map fun kv => kV kv.1)
  | _, _, .nil => .nil
  | _, _, .cons e _ t => .cons (RK.rv e) (RKs.keys t)
theorem mc_list (hG : G.K = X.K) (hc : X.calm = true) : CallR X (.type "list") (rdC G cList) := callR_at fun ρ h H args xs Q ag ra fi => by
  unfold cList at fi
  cases ra with
  | nil => exact fi.elim
  | cons r t =>
    cases t with
    | cons _ _ => cases r <;> exact fi.elim
    | nil =>
      cases r with
      | @tup xs ys a t1 s1 => exact ⟨_, call_list_of, a, ys, rfl, .inr (hG ▸ t1), fun l hl => FinO.new fi ag hl ⟨_, upd_same, s1.mono (Stp.new hl)⟩⟩
      | @ref n a q =>
        dsimp only at fi
        cases q1 : h[n]? with
        | none => rw [q1] at fi; exact fi.elim
        | some ob =>
          rw [q1] at fi
          cases ob with
          | lst xs =>
            obtain ⟨ys, hy, rs⟩ := ag.at_ q1 q
            exact ⟨_, call_list_of, a, ys, rfl, .inl (.inl (.inl hy)), fun l hl => FinO.new fi ag hl ⟨_, upd_same, rs.mono (Stp.new hl)⟩⟩
          | scr xs =>
            obtain ⟨ob, ys, hy, rs⟩ := ag.at_ q1 q
            exact ⟨_, call_list_of, a, ys, rfl, .inl (.inl (.inr ⟨_, hy⟩)), fun l hl => FinO.new fi ag hl ⟨_, upd_same, rs.mono (Stp.new hl)⟩⟩
          | dic kvs =>
            obtain ⟨ks, hy, rs⟩ := ag.at_ q1 q
            exact ⟨_, call_list_dK hc, a, ks, rfl, hy, fun l hl => FinO.new fi ag hl ⟨_, upd_same, rs.keys.mono (Stp.new hl)⟩⟩
          | _ => exact fi.elim
      | _ => exact fi.elim
def cTuple : OpC := fun vs h => match vs with
  | [.tup xs] => some (.tup xs, h)
  | [.ref n] => match h[n]? with
    | some (.lst xs) => some (.tup xs, h)
    | some (.scr xs) => some (.tup xs, h)
    | _ => none
  | _ => none
theorem mc_tuple (hG : G.K = X.K) : CallR X (.type "tuple") (rdC G cTuple) := callR_at fun ρ h H args xs Q ag ra fi => by
  unfold cTuple at fi
  cases ra with
  | nil => exact fi.elim
  | cons r t =>
    cases t with
    | cons _ _ => cases r <;> exact fi.elim
    | nil =>
      cases r with
      | @tup xs ys a t1 s1 => exact ⟨_, call_tuple_of, a, ys, rfl, .inr ⟨hG ▸ t1, fi.ok ag (.tup t1 s1)⟩⟩
      | @ref n a q =>
        dsimp only at fi
        cases q1 : h[n]? with
        | none => rw [q1] at fi; exact fi.elim
        | some ob =>
          rw [q1] at fi
          cases ob with
          | lst xs =>
            obtain ⟨ys, hy, rs⟩ := ag.at_ q1 q
            exact ⟨_, call_tuple_of, a, ys, rfl, .inl ⟨.inl (.inl hy), fun l hl => fi ρ _ _ (Stp.more hl) (ag.more hl) (.tup (.inl (.inl upd_same)) (rs.mono (Stp.more hl)))⟩⟩
          | scr xs =>
            obtain ⟨ob, ys, hy, rs⟩ := ag.at_ q1 q
            exact ⟨_, call_tuple_of, a, ys, rfl, .inl ⟨.inl (.inr ⟨_, hy⟩), fun l hl => fi ρ _ _ (Stp.more hl) (ag.more hl) (.tup (.inl (.inl upd_same)) (rs.mono (Stp.more hl)))⟩⟩
          | _ => exact fi.elim
      | _ => exact fi.elim
def cDict : OpC := fun vs h => match vs with
  | [.ref n] => match h[n]? with
    | some (.dic kvs) => some (.ref h.length, h ++ [.dic kvs])
    | _ => none
  | _ => none
theorem mc_dict : CallR X (.type "dict") (rdC G cDict) := callR_at fun ρ h H args xs Q ag ra fi => by
  unfold cDict at fi
  cases ra with
  | nil => exact fi.elim
  | cons r t =>
    cases t with
    | cons _ _ => cases r <;> exact fi.elim
    | nil =>
      cases r with
      | @ref n a q =>
        dsimp only at fi
        cases q1 : h[n]? with
        | none => rw [q1] at fi; exact fi.elim
        | some ob =>
          rw [q1] at fi
          cases ob with
          | dic kvs =>
            obtain ⟨ks, hy, rs⟩ := ag.at_ q1 q
            exact ⟨_, call_dictD, a, ks, rfl, .inl hy, fun l hl => FinO.new fi ag hl ⟨_, upd_same, rs.mono (Stp.new hl)⟩⟩
          | _ => exact fi.elim
      | _ => exact fi.elim
end
end ML
end

section
set_option Elab.async false
set_option linter.all false
set_option maxRecDepth 100000
set_option maxHeartbeats 4000000
/-! The M layer, part 8: subscripts, dicts, list methods, targets. -/
namespace ML
open PySem L2

/-! ### keys -/
def keyEq : VI → VI → Bool
  | .int i, .int j => decide (i = j)
  | .str s, .str t => decide (s = t)
  | _, _ => false
def isKey : VI → Bool
  | .int _ => true
  | .str _ => true
  | _ => false
def getD (k : VI) : List (VI × VI) → Option VI
  | [] => none
  | (a, v) :: r => match keyEq a k with
    | true => some v
    | false => getD k r
def hasD (k : VI) : List (VI × VI) → Bool
  | [] => false
  | (a, _) :: r => match keyEq a k with
    | true => true
    | false => hasD k r
def repD (k v : VI) : List (VI × VI) → List (VI × VI)
  | [] => []
  | (a, x) :: r => match keyEq a k with
    | true => (a, v) :: repD k v r
    | false => (a, x) :: repD k v r
def putD (k v : VI) (d : List (VI × VI)) : List (VI × VI) := match hasD k d with
  | true => repD k v d
  | false => d ++ [(k, v)]
theorem keyEq_ok {a b : VI} {k l : Key} (ra : RK a k) (rb : RK b l) : keyEq a b = decide (k = l) := by
  cases a with
  | int i =>
    cases ra
    cases b with
    | int j => cases rb; simp [keyEq]
    | str t => cases rb; simp [keyEq]
    | _ => exact rb.elim
  | str s =>
    cases ra
    cases b with
    | int j => cases rb; simp [keyEq]
    | str t =>
      cases rb
      unfold keyEq
      by_cases e : s = t
      · subst e; simp
      · have : ¬ toStr s = toStr t := fun z => e (toStr_inj z)
        simp [e, this]
    | _ => exact rb.elim
  | _ => exact ra.elim
section
variable {G : Gx} {ρ : List Addr} {H : Hp}
theorem RKs.getD {b : VI} {l : Key} (rb : RK b l) : ∀ {kvs : List (VI × VI)} {ks : List (Key × V)}, RKs G ρ H kvs ks → match ML.getD b kvs with
    | some v => ∃ x, valV ks l = some x ∧ RV G ρ H v x
    | none => valV ks l = none
  | _, _, .nil => rfl
  | _, _, .cons (a := a) (k := k) (as := as) (ks := ks) e h t => by
    unfold ML.getD
    rw [keyEq_ok e rb]
    by_cases q : k = l
    · rw [decide_eq_true q]
      exact ⟨_, valV_pos q, h⟩
    · rw [decide_eq_false q]
      have ih := RKs.getD rb t
      rw [valV_neg q]
      exact ih
theorem RKs.hasD {b : VI} {l : Key} (rb : RK b l) : ∀ {kvs : List (VI × VI)} {ks : List (Key × V)}, RKs G ρ H kvs ks → ML.hasD b kvs = ks.any fun kv => decide (kv.1 = l)
  | _, _, .nil => rfl
  | _, _, .cons (a := a) (k := k) (as := as) (ks := ks) e h t => by
    unfold ML.hasD
    rw [keyEq_ok e rb, List.any_cons]
    by_cases q : k = l
    · rw [decide_eq_true q]
      rfl
    · rw [decide_eq_false q, Bool.false_or]
      exact RKs.hasD rb t
theorem RKs.repD {b v : VI} {x : V} {l : Key} (rb : RK b l) (rv : RV G ρ H v x) : ∀ {kvs : List (VI × VI)} {ks : List (Key × V)}, RKs G ρ H kvs ks → RKs G ρ H (ML.repD b v kvs) (ks.map fun kv => if kv.1 = l then (kv.1, x) else kv)
  | _, _, .nil => .nil
  | _, _, .cons (a := a) (k := k) (as := as) (ks := ks) e h t => by
    unfold ML.repD
    rw [keyEq_ok e rb, List.map_cons]
    by_cases q : k = l
    · rw [decide_eq_true q, if_pos q]
      exact .cons e rv (RKs.repD rb rv t)
    · rw [decide_eq_false q, if_neg q]
      exact .cons e h (RKs.repD rb rv t)
theorem RKs.snoc {b v : VI} {x : V} {l : Key} (rb : RK b l) (rv : RV G ρ H v x) : ∀ {kvs : List (VI × VI)} {ks : List (Key × V)}, RKs G ρ H kvs ks → RKs G ρ H (kvs ++ [(b, v)]) (ks ++ [(l, x)])
  | _, _, .nil => .cons rb rv .nil
  | _, _, .cons e h t => .cons e h (RKs.snoc rb rv t)
theorem RKs.putD {b v : VI} {x : V} {l : Key} (rb : RK b l) (rv : RV G ρ H v x) {kvs : List (VI × VI)} {ks : List (Key × V)} (r : RKs G ρ H kvs ks) : RKs G ρ H (ML.putD b v kvs) (putK ks l x) := by
  unfold ML.putD putK
  rw [r.hasD rb]
  cases ks.any fun kv => decide (kv.1 = l) with
  | true => rw [if_pos rfl]; exact r.repD rb rv
  | false => rw [if_neg Bool.false_ne_true]; exact r.snoc rb rv
/-- a key is one of a text or an int -/
theorem RV.key {b : VI} {y : V} (r : RV G ρ H b y) (hk : isKey b = true) : ∃ k, RK b k ∧ y = kV k := by
  cases r with
  | int i => exact ⟨.inl i, rfl, rfl⟩
  | str e => exact ⟨.inr _, rfl, by rw [e]; rfl⟩
  | _ => cases hk
end

/-! ### a[b] -/
def ixI (n : Nat) (i : Int) : Option Nat := if 0 ≤ i then (if i < n then some i.toNat else none) else if -(n : Int) ≤ i then some (i + n).toNat else none
def ixL (xs : List VI) (i : Int) : Option VI := match ixI xs.length i with
  | some j => xs[j]?
  | none => none
def fIx : Op2 := fun x y h => match x with
  | .tup xs => match y with
    | .int i => match ixL xs i with
      | some v => some (v, h)
      | none => none
    | _ => none
  | .ref n => match h[n]? with
    | some (.lst xs) => match y with
      | .int i => match ixL xs i with
        | some v => some (v, h)
        | none => none
      | _ => none
    | some (.scr xs) => match y with
      | .int i => match ixL xs i with
        | some v => some (v, h)
        | none => none
      | _ => none
    | some (.dic kvs) => match isKey y, getD y kvs with
      | true, some v => some (v, h)
      | _, _ => none
    | _ => none
  | _ => none
section
variable {G : Gx} {ρ : List Addr} {h : Hi} {H : Hp} {W : WX} {X : Cx} {e a b c o i v : Expr} {es : List Expr} {pos p pos' apos : Pos} {me mi mo ma mb mv : ME} {mr : MA}
theorem ixI_eq (n : Nat) (i : Int) : ixI n i = ixN n i := rfl
theorem RVs.ixL {xs : List VI} {ys : List V} {i : Int} {v : VI} (r : RVs G ρ H xs ys) (e : ML.ixL xs i = some v) : ∃ y, atI ys i = some y ∧ RV G ρ H v y := by
  unfold ML.ixL at e
  rw [ixI_eq, r.length] at e
  cases q : ixN ys.length i with
  | none => rw [q] at e; cases e
  | some j =>
    rw [q] at e
    obtain ⟨y, hy, ry⟩ := r.get e
    exact ⟨y, by unfold atI; rw [q]; exact hy, ry⟩
/-- what a two-place operation at the slots and heap gives -/
theorem bin_go {f : Op2} {σ : L2.St} {Q : VK} {ρ : List Addr} {σi : Sg} (as : AgS G ρ H σi σ) (ag : Ag G ρ h H) (fin : FinG G ρ H (RV G) Q (fun c d H' => W c d σ H') (eBin f ma mb σi h)) :
    rdE G W ma σ H fun x H1 => rdE G W mb σ H1 fun y H2 => ∃ ρ2 h2 xi yi, Ag G ρ2 h2 H2 ∧ RV G ρ2 H2 xi x ∧ RV G ρ2 H2 yi y ∧ FinO G ρ2 H2 (RV G) Q (f xi yi h2) :=
  rdG_go as ag fin fun ρ1 H1 h1 x x' st as ag r f => rdG_go as ag f fun ρ2 H2 h2 y y' st2 as ag rs f => ⟨ρ2, h2, x, y, ag, r.mono st2, rs, FinO.of f⟩
/-- by the kind of the thing subscripted -/
inductive IxK (X : Cx) (H : Hp) (x y : V) (Q : VK) : Prop
  | ix (r : R2) (h : IxR X r) (q : r x y H Q)
  | dict (a : Addr) (v : V) (e : x = .ref a) (g : DGet H a y (some v)) (q : Q v H)
theorem ix_kind (hG : G.K = X.K) {xi yi : VI} {x y : V} {Q : VK} (ag : Ag G ρ h H) (r1 : RV G ρ H xi x) (r2 : RV G ρ H yi y) (fi : FinO G ρ H (RV G) Q (fIx xi yi h)) : IxK X H x y Q := by
  unfold fIx at fi
  cases r1 with
  | @tup xs ys a t1 s1 =>
    cases r2 with
    | int j =>
      dsimp only at fi
      cases q : ixL xs j with
      | none => rw [q] at fi; exact fi.elim
      | some v =>
        rw [q] at fi
        obtain ⟨z, hz, rz⟩ := s1.ixL q
        exact .ix _ ix_tup ⟨a, ys, j, z, rfl, rfl, hG ▸ t1, hz, fi.ok ag rz⟩
    | _ => exact fi.elim
  | @ref n a e =>
    dsimp only at fi
    cases q1 : h[n]? with
    | none => rw [q1] at fi; exact fi.elim
    | some ob =>
      rw [q1] at fi
      cases ob with
      | lst xs =>
        obtain ⟨ys, hy, rs⟩ := ag.at_ q1 e
        cases r2 with
        | int j =>
          dsimp only at fi
          cases q : ixL xs j with
          | none => rw [q] at fi; exact fi.elim
          | some v =>
            rw [q] at fi
            obtain ⟨z, hz, rz⟩ := rs.ixL q
            exact .ix _ ix_list ⟨a, ys, j, z, rfl, rfl, .inl (.inl hy), hz, fi.ok ag rz⟩
        | _ => exact fi.elim
      | scr xs =>
        obtain ⟨ob, ys, hy, rs⟩ := ag.at_ q1 e
        cases r2 with
        | int j =>
          dsimp only at fi
          cases q : ixL xs j with
          | none => rw [q] at fi; exact fi.elim
          | some v =>
            rw [q] at fi
            obtain ⟨z, hz, rz⟩ := rs.ixL q
            exact .ix _ ix_list ⟨a, ys, j, z, rfl, rfl, .inl (.inr ⟨_, hy⟩), hz, fi.ok ag rz⟩
        | _ => exact fi.elim
      | dic kvs =>
        obtain ⟨ks, hy, rs⟩ := ag.at_ q1 e
        dsimp only at fi
        cases q2 : isKey yi with
        | false => rw [q2] at fi; exact fi.elim
        | true =>
          obtain ⟨k, rk, ey⟩ := r2.key q2
          have gd := rs.getD rk
          cases q3 : getD yi kvs with
          | none => rw [q2, q3] at fi; exact fi.elim
          | some v =>
            rw [q3] at gd
            rw [q2, q3] at fi
            obtain ⟨z, hz, rz⟩ := gd
            subst ey
            exact .dict a z rfl (by rw [← hz]; exact DGet.k hy) (fi.ok ag rz)
      | _ => exact fi.elim
  | _ => exact fi.elim
theorem me_ix (hG : G.K = X.K) (hu : X.A.units + 1 < cLine) (ha : PE X a (rdE G W ma)) (hb : PE X b (rdE G W mb)) (hs : PlainIx b) : PE X (.Subscript a b pos) (rdE G W (eBin fIx ma mb)) := by
  refine ⟨fun pins s σ H Q I ⟨ρ, σi, h, as, ag, fin⟩ => ?_⟩
  refine PyProof.Rows.Subscript_ (binT ha hb I (R := fun x y H2 => IxK X H2 x y Q) ?_ fun v u s2 x y H2 I2 rx ry q => ?_)
  · exact rdG_go as ag fin fun ρ1 H1 h1 x x' st as ag r f => rdG_go as ag f fun ρ2 H2 h2 y y' st2 as ag rs f => ix_kind hG ag (r.mono st2) rs (FinO.of f)
  · cases q with
    | ix r hr q => exact hr a b pins s2 σ H2 x y v u Q I2 rx ry q (hs _ _)
    | dict d w e g q =>
      subst e
      obtain rfl : v = Value.ref d := rx
      exact PyProof.Rows.tail_any (dict_typeIs I2 g) PySem.F.slot_dict_getitem.lookup (d_getItem hu I2 g ry fun w' s3 I3 rw' => ⟨w, H2, I3, rw', q⟩) (hs _ _)
end
end ML
end

section
set_option Elab.async false
set_option linter.all false
set_option maxRecDepth 100000
set_option maxHeartbeats 4000000
/-! The M layer, part 9: stores, dict methods, displays, list methods. -/
namespace ML
open PySem L2

/-! ### o[i] = v -/
/-- the heap behind o[i] = v -/
def putIx (o i v : VI) (h : Hi) : Option Hi := match o with
  | .ref n => match h[n]? with
    | some (.lst xs) => match i with
      | .int k => match ixI xs.length k with
        | some j => some (h.set n (.lst (xs.set j v)))
        | none => none
      | _ => none
    | some (.dic kvs) => match isKey i && small (kvs.length + 1) with
      | true => some (h.set n (.dic (putD i v kvs)))
      | false => none
    | _ => none
  | _ => none
def nxO (σ : Sg) : Option Hi → RS
  | some h => .nx σ h
  | none => .err
def gIx (o i : ME) : MG := fun v σ h => (o σ h).bindS σ fun x h1 => (i σ h1).bindS σ fun y h2 => nxO σ (putIx x y v h2)
def rdSet (G : Gx) : TSet := fun o i v H Q => ∃ ρ h oi ii vi, Ag G ρ h H ∧ RV G ρ H oi o ∧ RV G ρ H ii i ∧ RV G ρ H vi v ∧ match putIx oi ii vi h with
  | some h' => ∀ ρ' H', Stp G ρ H ρ' H' → Ag G ρ' h' H' → Q H'
  | none => False
section
variable {G : Gx} {ρ : List Addr} {h : Hi} {H : Hp} {W : WX} {X : Cx} {e a b c o i v : Expr} {es : List Expr} {pos p pos' apos cpos : Pos} {me mi mo ma mb mv : ME} {mr : MA}
theorem small_lt {n : Nat} (h : small (n + 1) = true) : n < sizeLine := small_ok h
theorem set_M (hu : X.A.units + 1 < cLine) : PSet X (rdSet G) := by
  intro pins s σ H o i v ov iv u Q I ro ri rv ⟨ρ, h, oi, ii, vi, ag, r1, r2, r3, q⟩
  unfold putIx at q
  cases r1 with
  | @ref n a e =>
    dsimp only at q
    cases q1 : h[n]? with
    | none => rw [q1] at q; exact q.elim
    | some ob =>
      rw [q1] at q
      cases ob with
      | lst xs =>
        obtain ⟨ys, hy, rs⟩ := ag.at_ q1 e
        cases r2 with
        | int k =>
          dsimp only at q
          cases q2 : ixI xs.length k with
          | none => rw [q2] at q; exact q.elim
          | some j =>
            rw [q2] at q
            have st : Stp G ρ H ρ (upd H a (.lst (ys.set j v))) := Stp.wr ag q1 e
            refine set_list pins s σ H _ _ _ ov iv u Q I ro ri rv ⟨a, ys, k, j, rfl, rfl, hy, by rw [← rs.length]; exact q2, ?_⟩
            exact q ρ _ st (ag.wr q1 e ⟨_, upd_same, (rs.mono st).set j (r3.mono st)⟩)
        | _ => exact q.elim
      | dic kvs =>
        obtain ⟨ks, hy, rs⟩ := ag.at_ q1 e
        dsimp only at q
        cases q2 : isKey ii && small (kvs.length + 1) with
        | false => rw [q2] at q; exact q.elim
        | true =>
          rw [q2] at q
          obtain ⟨q3, q4⟩ := Bool.and_eq_true_iff.mp q2
          obtain ⟨k, rk, ey⟩ := r2.key q3
          subst ey
          have st : Stp G ρ H ρ (upd H a (.dK (putK ks k v))) := Stp.wr ag q1 e
          refine set_dict hu pins s σ H _ _ _ ov iv u Q I ro ri rv ⟨a, _, rfl, DPut.k hy (by rw [← rs.length]; exact small_lt q4), ?_⟩
          exact q ρ _ st (ag.wr q1 e ⟨_, upd_same, RKs.putD rk (r3.mono st) (rs.mono st)⟩)
      | _ => exact q.elim
  | _ => exact q.elim
theorem mg_ix (hu : X.A.units + 1 < cLine) (ho : PE X o (rdE G W mo)) (hi : PE X i (rdE G W mi))
    (ha : ∀ v, assign (.Subscript o i pos) X.env v = (do
      let ov ← holding [v] (eval o X.env)
      let iv ← holding [v, ov] (eval i X.env)
      standAt pos
      holding [v, ov, iv] (setItem ov iv v)
      release [v, ov, iv] []) := by intro _; rfl) : PG X (.Subscript o i pos) (rdGt G W (gIx mo mi)) :=
  ⟨fun pins s σ H v u Q I r ⟨ρ, σi, h, vi, as, ag, rv, f⟩ => (pg_sub ho hi (set_M (G := G) hu) ha).run pins s σ H v u Q I r
    (rdS_go as ag f fun ρ1 H1 h1 x x' st as ag r1 f => rdS_go as ag f fun ρ2 H2 h2 y y' st2 as ag r2 f => ⟨ρ2, h2, x, y, vi, ag, r1.mono st2, r2, rv.mono (st.trans st2), by
      cases q : putIx x y vi h2 with
      | none => rw [q] at f; exact f
      | some h' => rw [q] at f; exact fun ρ' H' s a => f ρ' H' σ s a (as.mono s)⟩)⟩
theorem onlyNx_bindS {α : Type} {r : Res α} {σ : Sg} {k : α → Hi → RS} (hk : ∀ x h, (∃ σ' h', k x h = .nx σ' h') ∨ (∃ c n σ' h', k x h = .ex c n σ' h') ∨ k x h = .err) : (∃ σ' h', r.bindS σ k = .nx σ' h') ∨ (∃ c n σ' h', r.bindS σ k = .ex c n σ' h') ∨ r.bindS σ k = .err := by
  cases r with
  | ok a h => exact hk a h
  | ex c n h => exact .inr (.inl ⟨c, n, σ, h, rfl⟩)
  | err => exact .inr (.inr rfl)
theorem onlyNx_ix (o i : ME) : OnlyNx (gIx o i) := fun v σ h => onlyNx_bindS fun x h1 => onlyNx_bindS fun y h2 => by
  cases putIx x y v h2 with
  | none => exact .inr (.inr rfl)
  | some h' => exact .inl ⟨σ, h', rfl⟩
/-- a field as a target -/
def gFld (cs : List Nat) (f : S) (o : ME) : MG := fun y σ h => (o σ h).bindS σ fun x h2 => match x with
  | .ref n => match h2[n]? with
    | some (.ins c fs) => match cs.contains c && Nat.blt fs.length 1000 with
      | true => .nx σ (h2.set n (.ins c (setF f y fs)))
      | false => .err
    | _ => .err
  | _ => .err

/-! ### d[k] = v as a statement -/
def sPut (o i v : ME) : MS := fun σ h => (v σ h).bindS σ fun z h1 => (o σ h1).bindS σ fun x h2 => (i σ h2).bindS σ fun y h3 => nxO σ (putIx x y z h3)

/-! ### d.get(k), d.get(k, x); in -/
def eGet2 (d k x : ME) : ME := fun σ h => (d σ h).bind fun a h1 => match a with
  | .ref n => match h1[n]? with
    | some (.dic _) => (k σ h1).bind fun y h2 => (x σ h2).bind fun z h3 => match h3[n]?, isKey y with
      | some (.dic kvs), true => .ok (match getD y kvs with | some v => v | none => z) h3
      | _, _ => .err
    | _ => .err
  | _ => .err
theorem me_get2 (hu : X.A.units + 1 < cLine) {f : Expr} {mx : ME} (ho : PE X o (rdE G W mo)) (he : PE X e (rdE G W me)) (hf : PE X f (rdE G W mx)) (m : M2 X o "get" apos e f cpos) : PE X (.Call (.Attribute o "get" apos) [e, f] [] cpos) (rdE G W (eGet2 mo me mx)) :=
  PE.imp' (pe_dget2 hu ho he hf m) fun σ H Q ⟨ρ, σi, h, as, ag, fin⟩ => rdG_go as ag fin fun ρ1 H1 h1 x y st as ag r fi => by
    cases r with
    | @ref n a q =>
      dsimp only at fi
      cases q1 : h1[n]? with
      | none => rw [q1] at fi; exact fi.elim
      | some ob =>
        rw [q1] at fi
        cases ob with
        | dic kvs =>
          obtain ⟨ks, hy, rs⟩ := ag.at_ q1 q
          refine ⟨a, rfl, .inl ⟨ks, .inl hy⟩, ?_⟩
          exact rdG_go as ag fi fun ρ2 H2 h2 y y' st2 as ag r2 fi => rdG_go as ag fi fun ρ3 H3 h3 z z' st3 as ag r3 fi => by
            cases q3 : h3[n]? with
            | none => rw [q3] at fi; exact fi.elim
            | some ob3 =>
              rw [q3] at fi
              cases ob3 with
              | dic kv3 =>
                cases q4 : isKey y with
                | false => rw [q4] at fi; exact fi.elim
                | true =>
                  rw [q4] at fi
                  obtain ⟨k, rk, ey⟩ := r2.key q4
                  obtain ⟨ks3, hy3, rs3⟩ := ag.at_ q3 ((st2.trans st3).pre _ _ q)
                  subst ey
                  refine ⟨_, DGet.k hy3, ?_⟩
                  have gd := rs3.getD rk
                  dsimp only at fi
                  cases q5 : getD y kv3 with
                  | none =>
                    rw [q5] at gd fi
                    rw [show valV ks3 k = none from gd]
                    exact fi.ok ag r3
                  | some w =>
                    rw [q5] at gd fi
                    obtain ⟨x, hx, rx⟩ := gd
                    rw [hx]
                    exact fi.ok ag rx
              | _ => exact fi.elim
        | _ => exact fi.elim
    | _ => exact fi.elim
/-- k in d -/
def fInD (neg : Bool) : Op2 := fun y x h => match x with
  | .ref n => match h[n]? with
    | some (.dic kvs) => match isKey y with
      | true => some (.bl (if neg then !hasD y kvs else hasD y kvs), h)
      | false => none
    | _ => none
  | _ => none

/-! ### {k: v, ..} -/
def aPairs : List (ME × ME) → Sg → Hi → Res (List (VI × VI))
  | [], _, h => .ok [] h
  | (k, v) :: r, σ, h => (k σ h).bind fun x h1 => (v σ h1).bind fun y h2 => (aPairs r σ h2).bind fun ps h3 => .ok ((x, y) :: ps) h3
def putAll (ps : List (VI × VI)) (d : List (VI × VI)) : List (VI × VI) := match ps with
  | [] => d
  | (k, v) :: r => putAll r (putD k v d)
def keysOk : List (VI × VI) → Bool
  | [] => true
  | (k, _) :: r => isKey k && keysOk r
def eDisp (ps : List (ME × ME)) : ME := fun σ h => (aPairs ps σ (h ++ [.dic []])).bind fun kvs h1 => match h1[h.length]? with
  | some (.dic []) => match keysOk kvs && Nat.ble kvs.length 15 with
    | true => .ok (.ref h.length) (h1.set h.length (.dic (putAll kvs [])))
    | false => .err
  | _ => .err
inductive RPs (G : Gx) (ρ : List Addr) (H : Hp) : List (VI × VI) → List (V × V) → Prop
  | nil : RPs G ρ H [] []
  | cons {a b : VI} {x y : V} {as : List (VI × VI)} {xs : List (V × V)} (h1 : RV G ρ H a x) (h2 : RV G ρ H b y) (t : RPs G ρ H as xs) : RPs G ρ H ((a, b) :: as) ((x, y) :: xs)
theorem RPs.mono {ρ' : List Addr} {H' : Hp} (st : Stp G ρ H ρ' H') : ∀ {as : List (VI × VI)} {xs : List (V × V)}, RPs G ρ H as xs → RPs G ρ' H' as xs
  | _, _, .nil => .nil
  | _, _, .cons h1 h2 t => .cons (h1.mono st) (h2.mono st) (RPs.mono st t)
theorem RPs.keys : ∀ {as : List (VI × VI)} {xs : List (V × V)}, RPs G ρ H as xs → keysOk as = true → ∃ kvs : List (Key × V), xs = kvs.map (fun kv => (kV kv.1, kv.2)) ∧ RKs G ρ H as kvs
  | _, _, .nil, _ => ⟨[], rfl, .nil⟩
  | _, _, .cons h1 h2 t, k => by
    obtain ⟨k1, k2⟩ := Bool.and_eq_true_iff.mp k
    obtain ⟨l, rk, e⟩ := h1.key k1
    obtain ⟨kvs, e2, r⟩ := RPs.keys t k2
    subst e e2
    exact ⟨(l, _) :: kvs, rfl, .cons rk h2 r⟩
theorem RKs.putAll : ∀ {as : List (VI × VI)} {kvs : List (Key × V)} {d : List (VI × VI)} {ks : List (Key × V)}, RKs G ρ H as kvs → RKs G ρ H d ks → RKs G ρ H (ML.putAll as d) (mergeK ks kvs)
  | _, _, _, _, .nil, r => r
  | _, _, _, _, .cons (k := k) (x := x) e h t, r => by
    unfold ML.putAll
    have q := RKs.putAll t (RKs.putD e h r)
    exact q
theorem pairs_go {σ : L2.St} {σi : Sg} : ∀ {ps : List (ME × ME)} {trs : List (TE × TE)} (_ : trs = ps.map fun p => (rdE G W p.1, rdE G W p.2)) {γ δ : Type} {R' : List Addr → Hp → γ → δ → Prop} {Q : δ → Hp → Prop} {k : List (VI × VI) → Hi → Res γ} {N : List (V × V) → Hp → Prop} {ρ : List Addr} {h : Hi} {H : Hp},
    AgS G ρ H σi σ → Ag G ρ h H → FinG G ρ H R' Q (fun c d H' => W c d σ H') ((aPairs ps σi h).bind k) →
    (∀ ρ1 H1 h1 xs ys, Stp G ρ H ρ1 H1 → AgS G ρ1 H1 σi σ → Ag G ρ1 h1 H1 → RPs G ρ1 H1 xs ys → FinG G ρ1 H1 R' Q (fun c d H' => W c d σ H') (k xs h1) → N ys H1) → tPairs trs σ H N
  | [], _, rfl, _, _, _, _, _, _, ρ, h, H, as, ag, f, nx => nx ρ H h [] [] .refl as ag .nil f
  | (mk, mv) :: r, _, rfl, _, _, _, Q, k, N, ρ, h, H, as, ag, f, nx => by
    have e : (aPairs ((mk, mv) :: r) σi h).bind k = (mk σi h).bind fun x h1 => (mv σi h1).bind fun y h2 => (aPairs r σi h2).bind fun ps h3 => k ((x, y) :: ps) h3 := by
      show ((mk σi h).bind fun x h1 => (mv σi h1).bind fun y h2 => (aPairs r σi h2).bind fun ps h3 => .ok ((x, y) :: ps) h3).bind k = _
      cases mk σi h with
      | err => rfl
      | ex c n h1 => rfl
      | ok x h1 =>
        show ((mv σi h1).bind fun y h2 => (aPairs r σi h2).bind fun ps h3 => .ok ((x, y) :: ps) h3).bind k = _
        show _ = (mv σi h1).bind fun y h2 => (aPairs r σi h2).bind fun ps h3 => k ((x, y) :: ps) h3
        cases mv σi h1 with
        | err => rfl
        | ex c n h2 => rfl
        | ok y h2 =>
          show ((aPairs r σi h2).bind fun ps h3 => .ok ((x, y) :: ps) h3).bind k = (aPairs r σi h2).bind fun ps h3 => k ((x, y) :: ps) h3
          cases aPairs r σi h2 <;> rfl
    rw [e] at f
    exact rdG_go as ag f fun ρ1 H1 h1 x x' st as ag r1 f => rdG_go as ag f fun ρ2 H2 h2 y y' st2 as ag r2 f =>
      pairs_go rfl as ag f fun ρ3 H3 h3 xs ys st3 as ag rs f => nx ρ3 H3 h3 _ _ ((st.trans st2).trans st3) as ag (.cons (r1.mono (st2.trans st3)) (r2.mono st3) rs) f
theorem me_disp {keys : List (Option Expr)} {values : List Expr} {ps : List (ME × ME)} (h : PPs X pos keys values (ps.map fun p => (rdE G W p.1, rdE G W p.2))) (hall : keys.all (·.isSome) = true) (hl : keys.length = values.length) (h0 : keys ≠ []) (h15 : keys.length ≤ 15) :
    PE X (.Dict keys values pos) (rdE G W (eDisp ps)) :=
  PE.imp' (pe_disp h hall hl h0 h15) fun σ H Q ⟨ρ, σi, h, as, ag, fin⟩ p hp => by
    have st0 : Stp G ρ H (ρ ++ [p]) (upd H p (.dK [])) := Stp.new hp
    have ag0 : Ag G (ρ ++ [p]) (h ++ [.dic []]) (upd H p (.dK [])) := ag.new hp ⟨[], upd_same, .nil⟩
    have hx : (ρ ++ [p])[h.length]? = some p := by rw [← ag.len]; simp
    refine pairs_go rfl (as.mono st0) ag0 (FinG.later st0 fin) fun ρ1 H1 h1 xs ys st as ag rs fi => ?_
    cases q : h1[h.length]? with
    | none => rw [q] at fi; exact fi.elim
    | some ob =>
      rw [q] at fi
      cases ob with
      | dic kvs =>
        cases kvs with
        | cons _ _ => exact fi.elim
        | nil =>
          dsimp only at fi
          have hp1 := st.pre _ _ hx
          obtain ⟨ks, hy, rk⟩ := ag.at_ q hp1
          cases rk
          cases q2 : keysOk xs && Nat.ble xs.length 15 with
          | false => rw [q2] at fi; exact fi.elim
          | true =>
            rw [q2] at fi
            obtain ⟨q3, q4⟩ := Bool.and_eq_true_iff.mp q2
            obtain ⟨kvs, e, rk⟩ := rs.keys q3
            have st2 : Stp G ρ1 H1 ρ1 (upd H1 p (.dK (mergeK [] kvs))) := Stp.wr ag q hp1
            refine ⟨hy, kvs, e, by rw [← rk.length]; exact Nat.le_of_ble_eq_true q4, ?_⟩
            exact fi ρ1 _ _ st2 (ag.wr q hp1 ⟨_, upd_same, RKs.putAll (rk.mono st2) .nil⟩) (.ref hp1)
      | _ => exact fi.elim
theorem mp_nil : PPs X pos [] [] (([] : List (ME × ME)).map fun p => (rdE G W p.1, rdE G W p.2)) := pps_nil
theorem mp_cons {k v : Expr} {ks : List (Option Expr)} {vs : List Expr} {mk mv : ME} {ps : List (ME × ME)} (hk : PE X k (rdE G W mk)) (hv : PE X v (rdE G W mv)) (hr : PPs X pos ks vs (ps.map fun p => (rdE G W p.1, rdE G W p.2))) :
    PPs X pos (some k :: ks) (v :: vs) (((mk, mv) :: ps).map fun p => (rdE G W p.1, rdE G W p.2)) := pps_cons hk hv hr
def eDisp0 : ME := fun _ h => .ok (.ref h.length) (h ++ [.dic []])
theorem me_disp0 : PE X (.Dict [] [] pos) (rdE G W eDisp0) := PE.imp' pe_dnewK fun σ H Q ⟨ρ, σi, h, as, ag, fin⟩ p hp =>
  fin (ρ ++ [p]) _ _ (Stp.new hp) (ag.new hp ⟨[], upd_same, .nil⟩) (.ref (by rw [← ag.len]; simp))
end
end ML
end

section
set_option Elab.async false
set_option linter.all false
set_option maxRecDepth 100000
set_option maxHeartbeats 4000000
/-! The M layer, part 10: loops. -/
namespace ML
open PySem L2

/-- what is walked: a tuple, a list that is read anew at each turn, a range, pairs of both -/
inductive Itm where
  | tup (xs : List VI) | lst (n : Nat) | rng (lo : Int) (k : Nat) | enl (n : Nat) | zip (a b : Nat)
def listAt (n : Nat) (h : Hi) : Option (List VI) := match h[n]? with
  | some (.lst xs) => some xs
  | some (.scr xs) => some xs
  | _ => none
/-- the i-th item, none behind the last -/
def Itm.nxt (it : Itm) (i : Nat) (h : Hi) : Option (Option VI) := match it with
  | .tup xs => some xs[i]?
  | .lst n => match listAt n h with
    | some xs => some xs[i]?
    | none => none
  | .rng lo k => some (match Nat.blt i k with
    | true => some (.int (lo + i))
    | false => none)
  | .enl n => match listAt n h with
    | some xs => some (match xs[i]? with
      | some x => some (.tup [.int i, x])
      | none => none)
    | none => none
  | .zip a b => match listAt a h, listAt b h with
    | some xs, some ys => some (match xs[i]?, ys[i]? with
      | some x, some y => some (.tup [x, y])
      | _, _ => none)
    | _, _ => none
def Itm.fuel (it : Itm) (h : Hi) : Nat := match it with
  | .tup xs => xs.length
  | .lst n => match listAt n h with
    | some xs => xs.length
    | none => 0
  | .rng _ k => k
  | .enl n => match listAt n h with
    | some xs => xs.length
    | none => 0
  | .zip a _ => match listAt a h with
    | some xs => xs.length
    | none => 0
abbrev MI := Sg → Hi → Res Itm
/-- the turns of a loop: k more at most, the next one's number i -/
def turns (it : Itm) (g : MG) (body : MS) : Nat → Nat → MS
  | 0, i, σ, h => match it.nxt i h with
    | some none => .nx σ h
    | _ => .err
  | k + 1, i, σ, h => match it.nxt i h with
    | some none => .nx σ h
    | some (some x) => (g x σ h).andThen fun σ1 h1 => match body σ1 h1 with
      | .nx σ2 h2 => turns it g body k (i + 1) σ2 h2
      | .ct σ2 h2 => turns it g body k (i + 1) σ2 h2
      | .bk σ2 h2 => .nx σ2 h2
      | r => r
    | none => .err
def sFor (mi : MI) (g : MG) (body : MS) : MS := fun σ h => (mi σ h).bindS σ fun it h1 => turns it g body (it.fuel h1) 0 σ h1
/-- the walk J goes as it tells, from the state ρ, H on -/
def ItOk (G : Gx) (ρ : List Addr) (H : Hp) (J : It) (it : Itm) : Prop := ∀ (i : Nat) (ρ1 : List Addr) (h1 : Hi) (H1 : Hp), Stp G ρ H ρ1 H1 → Ag G ρ1 h1 H1 → match it.nxt i h1 with
  | none => True
  | some none => J.stop i H1
  | some (some v) => J.go i H1 ∧ ∀ x H2, J.yld i H1 x H2 → Stp G ρ1 H1 ρ1 H2 ∧ Ag G ρ1 h1 H2 ∧ RV G ρ1 H2 v x
def rdI (G : Gx) (W : WX) (mi : MI) : TI := fun σ H R => ∃ ρ σi h, AgS G ρ H σi σ ∧ Ag G ρ h H ∧ match mi σi h with
  | .ok it h1 => ∀ ρ1 H1 J, Stp G ρ H ρ1 H1 → Ag G ρ1 h1 H1 → ItOk G ρ1 H1 J it → R J H1
  | .ex c n h1 => ∀ ρ' H' d C, Stp G ρ H ρ' H' → Ag G ρ' h1 H' → ρ'[n]? = some d → G.ct c = some C → W (.ref C) (some d) σ H'
  | .err => False
section
variable {G : Gx} {W : WX} {X : Cx} {ρ ρ1 : List Addr} {H H1 : Hp} {σ : L2.St} {σi : Sg} {h : Hi} {D : Ends} {tg iter e : Expr} {body : List Stmt} {pos p : Pos} {me : ME} {mi : MI} {mg : MG} {mb : MS} {ma : MA}
theorem rdI_go {k : Itm → Hi → RS} {N : It → Hp → Prop} (as : AgS G ρ H σi σ) (a : Ag G ρ h H) (f : FinS G ρ H D W ((mi σi h).bindS σi k))
    (nx : ∀ ρ1 H1 h1 it J, Stp G ρ H ρ1 H1 → AgS G ρ1 H1 σi σ → Ag G ρ1 h1 H1 → ItOk G ρ1 H1 J it → FinS G ρ1 H1 D W (k it h1) → N J H1) : rdI G W mi σ H N := by
  refine ⟨ρ, σi, h, as, a, ?_⟩
  cases e : mi σi h with
  | err => rw [e] at f; exact f
  | ex c n h' =>
    rw [e] at f
    exact fun ρ' H' d C st a' hn hc => f ρ' H' d C σ st a' (as.mono st) hn hc
  | ok it h' =>
    rw [e] at f
    exact fun ρ' H' J st a' io => nx ρ' H' h' it J st (as.mono st) a' io (FinS.later st f)
theorem ItOk.later {J : It} {it : Itm} (st : Stp G ρ H ρ1 H1) (o : ItOk G ρ H J it) : ItOk G ρ1 H1 J it := fun i ρ2 h2 H2 s a => o i ρ2 h2 H2 (st.trans s) a
theorem ms_for (hp : PassesOwn (model X.prog X.w) X.A X.env X.xe) (hc : X.calm = true) (hi : PI X tg iter (rdI G W mi)) (hg : PG X tg (rdGt G W mg)) (on : OnlyNx mg) (hb : PSs X body (rdS G W mb))
    (hs : ∀ x, foldedSetIterable iter X.env x = pure x := by intro _; rfl) : PS X (.For tg iter body [] pos) (rdS G W (sFor mi mg mb)) :=
  PS.imp' (ps_for hp hc hi hg hb hs) fun D σ H ⟨ρ, σi, h, as, ag, fin⟩ => rdI_go as ag fin fun ρ1 H1 h1 it J st as1 ag1 io fi => by
    refine ⟨fun i m σ2 H2 => ∃ ρ2 σi2 h2, Stp G ρ1 H1 ρ2 H2 ∧ AgS G ρ2 H2 σi2 σ2 ∧ Ag G ρ2 h2 H2 ∧ FinS G ρ2 H2 D W (turns it mg mb m i σi2 h2), ⟨_, ρ1, σi, h1, .refl, as1, ag1, fi⟩, ?_⟩
    rintro i m σ2 H2 ⟨ρ2, σi2, h2, st2, as2, ag2, f2⟩
    have ok := io i ρ2 h2 H2 st2 ag2
    cases q : it.nxt i h2 with
    | none =>
      cases m with
      | zero => unfold turns at f2; rw [q] at f2; exact f2.elim
      | succ k => unfold turns at f2; rw [q] at f2; exact f2.elim
    | some o =>
      rw [q] at ok
      cases o with
      | none =>
        refine .inl ⟨ok, ?_⟩
        cases m with
        | zero => unfold turns at f2; rw [q] at f2; exact f2.nx ag2 as2
        | succ k => unfold turns at f2; rw [q] at f2; exact f2.nx ag2 as2
      | some v =>
        cases m with
        | zero => unfold turns at f2; rw [q] at f2; exact f2.elim
        | succ k =>
          unfold turns at f2
          rw [q] at f2
          dsimp only at f2
          obtain ⟨go, yl⟩ := ok
          refine .inr ⟨go, fun σ' H' => ∃ ρ2 σi2 h2, Stp G ρ1 H1 ρ2 H' ∧ AgS G ρ2 H' σi2 σ' ∧ Ag G ρ2 h2 H' ∧ FinS G ρ2 H' D W (turns it mg mb k (i + 1) σi2 h2), fun σ' H' w => ⟨k, Nat.lt_succ_self k, w⟩, fun x H3 y => ?_⟩
          obtain ⟨st3, ag3, rv⟩ := yl x H3 y
          refine ⟨ρ2, σi2, h2, v, as2.mono st3, ag3, rv, ?_⟩
          have f3 := FinS.later st3 f2
          have st13 := st2.trans st3
          rcases on v σi2 h2 with ⟨σ4, h4, e⟩ | ⟨c, n, σ4, h4, e⟩ | e
          · rw [e] at f3 ⊢
            refine fun ρ4 H4 σ5 s4 a4 as4 => ⟨ρ4, σ4, h4, as4, a4, ?_⟩
            have f4 := FinS.later s4 f3
            have st14 := st13.trans s4
            dsimp only [RS.andThen] at f4
            cases e5 : mb σ4 h4 with
            | nx σ6 h6 => rw [e5] at f4; exact fun ρ' H' σ' s a as => ⟨ρ', σ6, h6, st14.trans s, as, a, FinS.later s f4⟩
            | ct σ6 h6 => rw [e5] at f4; exact fun ρ' H' σ' s a as => ⟨ρ', σ6, h6, st14.trans s, as, a, FinS.later s f4⟩
            | bk σ6 h6 => rw [e5] at f4; exact f4
            | rt v6 h6 => rw [e5] at f4; exact f4
            | ex c6 n6 σ6 h6 => rw [e5] at f4; exact f4
            | err => rw [e5] at f4; exact f4
          · rw [e] at f3 ⊢; exact f3
          · rw [e] at f3 ⊢; exact f3
/-! ### what is walked -/
theorem PI.dispatch {t : TI} (h : ∀ σ H Q, t σ H Q → ∃ t', PI X tg iter t' ∧ t' σ H Q) : PI X tg iter t := ⟨fun pins s σ H Q I q => let ⟨_, p, q'⟩ := h σ H Q q; p.run pins s σ H Q I q'⟩
theorem PI.imp' {t t' : TI} (h : PI X tg iter t) (i : ∀ σ H Q, t' σ H Q → t σ H Q) : PI X tg iter t' := ⟨fun pins s σ H Q I q => h.run pins s σ H Q I (i σ H Q q)⟩
def seqOf : VI → Hi → Option Itm := fun v h => match v with
  | .tup xs => some (.tup xs)
  | .ref n => match listAt n h with
    | some _ => some (.lst n)
    | none => none
  | _ => none
def ofI : Option Itm → Hi → Res Itm
  | some it, h => .ok it h
  | none, _ => .err
def iSeq (e : ME) : MI := fun σ h => (e σ h).bind fun v h1 => ofI (seqOf v h1) h1
theorem listAt_ok (K : PySem.W.Frag) (ag : Ag G ρ h H) {n : Nat} {a : Addr} {xs : List VI} (e : listAt n h = some xs) (p : ρ[n]? = some a) : ∃ ys, SqL K H a ys ∧ RVs G ρ H xs ys := by
  unfold listAt at e
  cases q : h[n]? with
  | none => rw [q] at e; cases e
  | some ob =>
    rw [q] at e
    cases ob with
    | lst zs => cases e; obtain ⟨ys, hy, rs⟩ := ag.at_ q p; exact ⟨ys, .inl (.inl hy), rs⟩
    | scr zs => cases e; obtain ⟨ob, ys, hy, rs⟩ := ag.at_ q p; exact ⟨ys, .inl (.inr ⟨_, hy⟩), rs⟩
    | _ => cases e
/-- only one list of what K and H hold stands at an address that h knows -/
theorem itOk_lst (hG : G.K = X.K) {n : Nat} {a : Addr} (p : ρ[n]? = some a) : ItOk G ρ H (Itl X.K a) (.lst n) := fun i ρ1 h1 H1 st ag => by
  unfold Itm.nxt
  dsimp only
  cases q : listAt n h1 with
  | none => trivial
  | some xs =>
    obtain ⟨ys, hy, rs⟩ := listAt_ok X.K ag q (st.pre _ _ p)
    dsimp only
    cases q2 : xs[i]? with
    | none =>
      have : xs.length ≤ i := List.getElem?_eq_none_iff.mp q2
      exact ⟨ys, hy, by rw [← rs.length]; exact this⟩
    | some v =>
      obtain ⟨y, hy2, ry⟩ := rs.get q2
      refine ⟨⟨ys, y, hy, hy2⟩, fun x H2 ⟨e, k⟩ => ?_⟩
      subst e
      have := k ys hy
      rw [hy2] at this
      cases this
      exact ⟨.refl, ag, ry⟩
theorem itOk_tup (hG : G.K = X.K) {a : Addr} {xs : List VI} {ys : List V} (t : SqT G.K H a ys) (rs : RVs G ρ H xs ys) : ItOk G ρ H (Itt X.K a) (.tup xs) := fun i ρ1 h1 H1 st ag => by
  unfold Itm.nxt
  have t1 := st.tup _ _ t
  rw [hG] at t1
  have rs1 := rs.mono st
  dsimp only
  cases q2 : xs[i]? with
  | none =>
    have : xs.length ≤ i := List.getElem?_eq_none_iff.mp q2
    exact ⟨ys, t1, by rw [← rs.length]; exact this⟩
  | some v =>
    obtain ⟨y, hy2, ry⟩ := rs1.get q2
    refine ⟨⟨ys, y, t1, hy2⟩, fun x H2 ⟨e, k⟩ => ?_⟩
    subst e
    have := k ys t1
    rw [hy2] at this
    cases this
    exact ⟨.refl, ag, ry⟩
theorem itOk_rng {lo : Int} {k : Nat} : ItOk G ρ H (Itr lo k) (.rng lo k) := fun i ρ1 h1 H1 st ag => by
  unfold Itm.nxt
  dsimp only
  cases q : Nat.blt i k with
  | true => exact ⟨Nat.le_of_ble_eq_true q, fun x H2 ⟨e, z⟩ => by subst e z; exact ⟨.refl, ag, .int _⟩⟩
  | false =>
    refine Nat.le_of_not_lt fun z => ?_
    have : Nat.blt i k = true := Nat.ble_eq_true_of_le z
    rw [q] at this
    cases this
theorem mi_seq (hG : G.K = X.K) (he : PE X e (rdE G W me)) : PI X tg e (rdI G W (iSeq me)) := PI.dispatch fun σ H R ⟨ρ, σi, h, as, ag, fin⟩ => by
  unfold iSeq at fin
  cases q : me σi h with
  | err => rw [q] at fin; exact fin.elim
  | ex c n h1 =>
    rw [q] at fin
    exact ⟨_, pi_list he, ρ, σi, h, as, ag, by rw [q]; exact fin⟩
  | ok v h1 =>
    rw [q] at fin
    dsimp only [Res.bind] at fin
    cases v with
    | tup xs =>
      refine ⟨_, pi_tup he, ρ, σi, h, as, ag, ?_⟩
      rw [q]
      intro ρ1 H1 x st a1 r
      cases r with
      | @tup _ ys a t rs => exact ⟨a, rfl, ⟨ys, hG ▸ t⟩, fin ρ1 H1 _ st a1 (itOk_tup hG t rs)⟩
    | ref n =>
      unfold seqOf at fin
      dsimp only at fin
      cases q2 : listAt n h1 with
      | none => rw [q2] at fin; exact fin.elim
      | some xs =>
        rw [q2] at fin
        refine ⟨_, pi_list he, ρ, σi, h, as, ag, ?_⟩
        rw [q]
        intro ρ1 H1 x st a1 r
        cases r with
        | @ref _ a p =>
          obtain ⟨ys, hy, rs⟩ := listAt_ok X.K a1 q2 p
          exact ⟨a, rfl, ⟨ys, hy⟩, fin ρ1 H1 _ st a1 (itOk_lst hG p)⟩
    | _ => exact fin.elim
def rngOf : List VI → Option Itm
  | [.int j] => match decide (-(2 ^ 62) ≤ j) && decide (j < 2 ^ 62) with
    | true => some (.rng 0 j.toNat)
    | false => none
  | [.int i, .int j] => match (decide (-(2 ^ 62) ≤ i) && decide (i < 2 ^ 62)) && (decide (-(2 ^ 62) ≤ j) && decide (j < 2 ^ 62)) with
    | true => some (.rng i (j - i).toNat)
    | false => none
  | _ => none
def iRng (a : MA) : MI := fun σ h => (a σ h).bind fun vs h1 => ofI (rngOf vs) h1
theorem mi_rng1 {a : Expr} {mr : MA} (hg : Gl X "range") (hm : X.mg "range" = none) (ha : PA X [a] (rdA G W mr)) (hs : starEach [a] X.env = [(false, eval a X.env)] := by rfl) (one : ∀ σ h vs h1, mr σ h = .ok vs h1 → vs.length = 1) : PI X tg (.Call (.Name "range" p) [a] [] pos) (rdI G W (iRng mr)) :=
  PI.imp' (pi_range1 hg hm ha hs) fun σ H R ⟨ρ, σi, h, as, ag, fin⟩ => by
    refine ⟨ρ, σi, h, as, ag, ?_⟩
    unfold iRng at fin
    cases q : mr σi h with
    | err => rw [q] at fin; exact fin.elim
    | ex c n h1 => rw [q] at fin; exact fin
    | ok vs h1 =>
      rw [q] at fin
      have l := one _ _ _ _ q
      intro ρ1 H1 xs st a1 r
      match vs, l, r, fin with
      | [v], _, .cons r .nil, fin =>
        cases r with
        | int j =>
          dsimp only [Res.bind, rngOf] at fin
          cases z : decide (-(2 ^ 62) ≤ j) && decide (j < 2 ^ 62) with
          | false => rw [z] at fin; exact fin.elim
          | true =>
            rw [z] at fin
            obtain ⟨z1, z2⟩ := Bool.and_eq_true_iff.mp z
            exact ⟨j, rfl, of_decide_eq_true z1, of_decide_eq_true z2, fin ρ1 H1 _ st a1 itOk_rng⟩
        | _ => exact fin.elim
theorem mi_rng2 {a b : Expr} {mr : MA} (hg : Gl X "range") (hm : X.mg "range" = none) (ha : PA X [a, b] (rdA G W mr)) (hs : starEach [a, b] X.env = [(false, eval a X.env), (false, eval b X.env)] := by rfl) (hs2 : starEach [b] X.env = [(false, eval b X.env)] := by rfl) (two : ∀ σ h vs h1, mr σ h = .ok vs h1 → vs.length = 2) :
    PI X tg (.Call (.Name "range" p) [a, b] [] pos) (rdI G W (iRng mr)) :=
  PI.imp' (pi_range2 hg hm ha hs hs2) fun σ H R ⟨ρ, σi, h, as, ag, fin⟩ => by
    refine ⟨ρ, σi, h, as, ag, ?_⟩
    unfold iRng at fin
    cases q : mr σi h with
    | err => rw [q] at fin; exact fin.elim
    | ex c n h1 => rw [q] at fin; exact fin
    | ok vs h1 =>
      rw [q] at fin
      have l := two _ _ _ _ q
      intro ρ1 H1 xs st a1 r
      match vs, l, r, fin with
      | [v, w], _, .cons r (.cons r2 .nil), fin =>
        cases r with
        | int i =>
          cases r2 with
          | int j =>
            dsimp only [Res.bind, rngOf] at fin
            cases z : (decide (-(2 ^ 62) ≤ i) && decide (i < 2 ^ 62)) && (decide (-(2 ^ 62) ≤ j) && decide (j < 2 ^ 62)) with
            | false => rw [z] at fin; exact fin.elim
            | true =>
              rw [z] at fin
              obtain ⟨y1, y2⟩ := Bool.and_eq_true_iff.mp z
              obtain ⟨z1, z2⟩ := Bool.and_eq_true_iff.mp y1
              obtain ⟨z3, z4⟩ := Bool.and_eq_true_iff.mp y2
              exact ⟨i, j, rfl, ⟨of_decide_eq_true z1, of_decide_eq_true z2, of_decide_eq_true z3, of_decide_eq_true z4⟩, fin ρ1 H1 _ st a1 itOk_rng⟩
          | _ => exact fin.elim
        | _ => exact fin.elim
end
end ML
end

section
set_option Elab.async false
set_option linter.all false
set_option maxRecDepth 100000
set_option maxHeartbeats 4000000
/-! The M layer, part 11: list comprehensions, list methods, targets of several names. -/
namespace ML
open PySem L2

/-- a target that stores into slots alone: a name, or as many names as the tuple has items -/
inductive Tgt where
  | one (i : Nat) | many (is : List Nat)
def putMany : List Nat → List VI → Sg → Option Sg
  | [], [], σ => some σ
  | i :: is, x :: xs, σ => putMany is xs (σ.set i (some x))
  | _, _, _ => none
def Tgt.put (t : Tgt) (v : VI) (σ : Sg) : Option Sg := match t with
  | .one i => some (σ.set i (some v))
  | .many is => match v with
    | .tup xs => putMany is xs σ
    | _ => none
def Tgt.slots : Tgt → List Nat
  | .one i => [i]
  | .many is => is
/-- the same as a statement's target -/
def gTgt (t : Tgt) : MG := fun v σ h => match t.put v σ with
  | some σ' => .nx σ' h
  | none => .err
def gNames : List Nat → TGs
  | [] => gNil
  | i :: is => gCons (gName i) (gNames is)
def Tgt.tg (K : PySem.W.Frag) : Tgt → TG
  | .one i => gName i
  | .many is => gTup K is.length (gNames is)
def wipeM (σ : Sg) : List Nat → Sg
  | [] => σ
  | i :: r => (wipeM σ r).set i none
section
variable {G : Gx} {ρ : List Addr} {H : Hp} {h : Hi} {X : Cx} {W : WX} {σ : L2.St} {σi : Sg}
theorem names_put : ∀ {is : List Nat} {xs : List VI} {ys : List V} {σi σ2 : Sg} {σ : L2.St} {N : L2.St → Hp → Prop}, AgS G ρ H σi σ → RVs G ρ H xs ys → putMany is xs σi = some σ2 →
    (∀ σ', AgS G ρ H σ2 σ' → (∀ j, j ∉ is → σ'[j]? = σ[j]?) → σ'.length = σ.length → N σ' H) → gNames is ys σ H N
  | [], [], _, σi, σ2, σ, N, as, .nil, e, k => by
    cases e
    exact ⟨rfl, k σ as (fun _ _ => rfl) rfl⟩
  | i :: is, x :: xs, _, σi, σ2, σ, N, as, .cons r rs, e, k => by
    refine ⟨_, _, rfl, ?_⟩
    show gNames is _ _ H N
    refine names_put (as.set r i) rs e fun σ' as' hj hl => k σ' as' (fun j hj' => ?_) (by rw [hl, List.length_set])
    rw [hj j (fun z => hj' (List.mem_cons_of_mem _ z))]
    rw [List.getElem?_set_ne (fun z => hj' (by rw [← z]; exact List.mem_cons_self))]
  | [], _ :: _, _, _, _, _, _, _, _, e, _ => by cases e
  | _ :: _, [], _, _, _, _, _, _, _, e, _ => by cases e
theorem tgt_put (hG : G.K = X.K) {t : Tgt} {v : VI} {x : V} {σ2 : Sg} {N : L2.St → Hp → Prop} (as : AgS G ρ H σi σ) (r : RV G ρ H v x) (e : t.put v σi = some σ2)
    (k : ∀ σ', AgS G ρ H σ2 σ' → (∀ j, j ∉ t.slots → σ'[j]? = σ[j]?) → σ'.length = σ.length → N σ' H) : t.tg X.K x σ H N := by
  cases t with
  | one i =>
    cases e
    exact k _ (as.set r i) (fun j hj => List.getElem?_set_ne (fun z => hj (by rw [← z]; exact List.mem_cons_self))) (List.length_set ..)
  | many is =>
    cases r with
    | @tup xs ys a t rs =>
      have e' : putMany is xs σi = some σ2 := e
      refine ⟨a, ys, rfl, hG ▸ t, ?_, names_put as rs e' k⟩
      have : ∀ {is : List Nat} {xs : List VI} {σi σ2 : Sg}, putMany is xs σi = some σ2 → xs.length = is.length := fun {is} => by
        induction is with
        | nil => intro xs σi σ2 q; cases xs with | nil => rfl | cons _ _ => cases q
        | cons i r ih => intro xs σi σ2 q; cases xs with | nil => cases q | cons y ys => rw [List.length_cons, List.length_cons, ih q]
      rw [← rs.length]
      exact this e'
    | _ => cases e
theorem mg_tgt {tg : Expr} {t : Tgt} (hG : G.K = X.K) (hg : PG X tg (t.tg X.K)) : PG X tg (rdGt G W (gTgt t)) :=
  ⟨fun pins s σ H v u Q I r ⟨ρ, σi, h, vi, as, ag, rv, f⟩ => hg.run pins s σ H v u Q I r (by
    unfold gTgt at f
    cases q : t.put vi σi with
    | none => rw [q] at f; exact f.elim
    | some σ2 =>
      rw [q] at f
      exact tgt_put hG as rv q fun σ' as' _ _ => f.nx ag as')⟩
theorem onlyNx_tgt (t : Tgt) : OnlyNx (gTgt t) := fun v σ h => by
  unfold gTgt
  cases t.put v σ with
  | none => exact .inr (.inr rfl)
  | some σ' => exact .inl ⟨σ', h, rfl⟩
theorem AgS.wipe : ∀ (vs : List Nat) {σi : Sg} {σ : L2.St}, AgS G ρ H σi σ → AgS G ρ H (wipeM σi vs) (L2.wipe σ vs)
  | [], _, _, a => a
  | i :: r, _, _, a => (AgS.wipe r a).lose i none
theorem wipe_in : ∀ (vs : List Nat) (σ : L2.St) (j : Nat), j ∈ vs → (L2.wipe σ vs)[j]? = if j < σ.length then some none else none
  | i :: r, σ, j, hj => by
    show ((L2.wipe σ r).set i none)[j]? = _
    rw [List.getElem?_set, L2.wipe_length]
    by_cases z : i = j
    · subst z
      rw [if_pos rfl]
    · rw [if_neg z]
      exact wipe_in r σ j ((List.mem_cons.mp hj).resolve_left fun w => z w.symm)
theorem wipe_eq (vs : List Nat) {σ τ : L2.St} (hl : τ.length = σ.length) (k : ∀ j, j ∉ vs → τ[j]? = σ[j]?) : L2.wipe τ vs = L2.wipe σ vs := by
  refine List.ext_getElem? fun j => ?_
  by_cases z : j ∈ vs
  · rw [wipe_in vs τ j z, wipe_in vs σ j z, hl]
  · rw [L2.wipe_out z, L2.wipe_out z]
    exact k j z
end

/-! ### [elt for t in it if test] -/
/-- the turns of a comprehension that fills the list at D -/
def turnsC (it : Itm) (t : Tgt) (vs : List Nat) (tt : MT) (el : ME) (D : Nat) (σ : Sg) : Nat → Nat → Hi → Option Hi
  | 0, i, h => match it.nxt i h with
    | some none => some h
    | _ => none
  | k + 1, i, h => match it.nxt i h with
    | some none => some h
    | some (some x) => match t.put x (wipeM σ vs) with
      | some σ2 => match tt σ2 h with
        | .ok true h2 => match el σ2 h2 with
          | .ok y h3 => match h3[D]? with
            | some (.lst acc) => match small (acc.length + 1) with
              | true => turnsC it t vs tt el D σ k (i + 1) (h3.set D (.lst (acc ++ [y])))
              | false => none
            | _ => none
          | _ => none
        | .ok false h2 => turnsC it t vs tt el D σ k (i + 1) h2
        | _ => none
      | none => none
    | none => none
def tYesM : MT := fun _ h => .ok true h
def eLc (mi : MI) (t : Tgt) (vs : List Nat) (tt : MT) (el : ME) : ME := fun σ h => (mi σ h).bind fun it h1 => match turnsC it t vs tt el h1.length σ (it.fuel h1) 0 (h1 ++ [.lst []]) with
  | some h2 => .ok (.ref h1.length) h2
  | none => .err
abbrev W0 : WX := fun _ _ _ _ => False
section
variable {G : Gx} {W : WX} {X : Cx} {ρ ρ1 : List Addr} {H H1 : Hp} {h : Hi} {tg iter elt : Expr} {ifs : List Expr} {scope : Scope} {own : List (Str × Nat)} {pos : Pos} {mi : MI} {mt : MT} {ml : ME} {t : Tgt}
theorem rdI_goE {α β : Type} {R' : List Addr → Hp → α → β → Prop} {Q : β → Hp → Prop} {k : Itm → Hi → Res α} {N : It → Hp → Prop} {σ : L2.St} {σi : Sg} (as : AgS G ρ H σi σ) (a : Ag G ρ h H) (f : FinG G ρ H R' Q (fun c d H' => W c d σ H') ((mi σi h).bind k))
    (nx : ∀ ρ1 H1 h1 it J, Stp G ρ H ρ1 H1 → AgS G ρ1 H1 σi σ → Ag G ρ1 h1 H1 → ItOk G ρ1 H1 J it → FinG G ρ1 H1 R' Q (fun c d H' => W c d σ H') (k it h1) → N J H1) : rdI G W mi σ H N := by
  refine ⟨ρ, σi, h, as, a, ?_⟩
  cases e : mi σi h with
  | err => rw [e] at f; exact f
  | ex c n h' =>
    rw [e] at f
    exact fun ρ' H' d C st a' hn hc => f ρ' H' d C st a' hn hc
  | ok it h' =>
    rw [e] at f
    exact fun ρ' H' J st a' io => nx ρ' H' h' it J st (as.mono st) a' io (FinG.later st f)
/-- the reading of a comprehension from what it does -/
theorem lc_rd (hG : G.K = X.K) (vs : List Nat) (hsl : ∀ j ∈ t.slots, j ∈ vs) {tt : TT} (htt : ∀ σ H Q, rdT G W0 mt σ H Q → tt σ H Q) : ∀ σ H Q, rdE G W (eLc mi t vs mt ml) σ H Q → tLc (rdI G W mi) (t.tg X.K) tt (rdE G W0 ml) vs σ H Q := fun σ H Q ⟨ρ, σi, h, as, ag, fin⟩ =>
  rdI_goE as ag fin fun ρ1 H1 h1 it J st as1 ag1 io fi D hD => by
    have st0 : Stp G ρ1 H1 (ρ1 ++ [D]) (upd H1 D (.lst [])) := Stp.new hD
    have ag0 : Ag G (ρ1 ++ [D]) (h1 ++ [.lst []]) (upd H1 D (.lst [])) := ag1.new hD ⟨[], upd_same, .nil⟩
    have hx : (ρ1 ++ [D])[h1.length]? = some D := by rw [← ag1.len]; simp
    cases e0 : turnsC it t vs mt ml h1.length σi (it.fuel h1) 0 (h1 ++ [.lst []]) with
    | none => rw [e0] at fi; exact fi.elim
    | some hf =>
      rw [e0] at fi
      refine ⟨fun i m H2 => ∃ ρ2 h2, Stp G (ρ1 ++ [D]) (upd H1 D (.lst [])) ρ2 H2 ∧ Ag G ρ2 h2 H2 ∧ turnsC it t vs mt ml h1.length σi m i h2 = some hf, ⟨_, ρ1 ++ [D], _, .refl, ag0, e0⟩, ?_⟩
      rintro i m H2 ⟨ρ2, h2, st2, ag2, f2⟩
      have ok := io i ρ2 h2 H2 (st0.trans st2) ag2
      have as2 : AgS G ρ2 H2 σi σ := as1.mono (st0.trans st2)
      have fin' : ∀ {h}, hf = h → Ag G ρ2 h H2 → Q (.ref D) H2 := fun {h} e a => by
        subst e
        exact fi ρ2 H2 _ (st0.trans st2) a (.ref (st2.pre _ _ hx))
      cases q : it.nxt i h2 with
      | none =>
        cases m with
        | zero => unfold turnsC at f2; rw [q] at f2; cases f2
        | succ k => unfold turnsC at f2; rw [q] at f2; cases f2
      | some o =>
        rw [q] at ok
        cases o with
        | none =>
          refine .inl ⟨ok, ?_⟩
          cases m with
          | zero => unfold turnsC at f2; rw [q] at f2; exact fin' (Option.some.inj f2).symm ag2
          | succ k => unfold turnsC at f2; rw [q] at f2; exact fin' (Option.some.inj f2).symm ag2
        | some v =>
          cases m with
          | zero => unfold turnsC at f2; rw [q] at f2; cases f2
          | succ k =>
            unfold turnsC at f2
            rw [q] at f2
            dsimp only at f2
            obtain ⟨go, yl⟩ := ok
            refine .inr ⟨go, fun H' => ∃ ρ2 h2, Stp G (ρ1 ++ [D]) (upd H1 D (.lst [])) ρ2 H' ∧ Ag G ρ2 h2 H' ∧ turnsC it t vs mt ml h1.length σi k (i + 1) h2 = some hf, fun H' w => ⟨k, Nat.lt_succ_self k, w⟩, fun x H3 y => ?_⟩
            obtain ⟨st3, ag3, rv⟩ := yl x H3 y
            cases e1 : t.put v (wipeM σi vs) with
            | none => rw [e1] at f2; cases f2
            | some σ4 =>
              rw [e1] at f2
              dsimp only at f2
              refine tgt_put hG ((as2.mono st3).wipe vs) rv e1 fun σ5 as5 hj hl => ?_
              refine ⟨wipe_eq vs hl (fun j hn => hj j fun z => hn (hsl j z)) |>.trans ?_, ?_⟩
              · exact wipe_eq vs (L2.wipe_length σ vs) fun j hn => L2.wipe_out hn
              · refine htt _ _ _ ⟨ρ2, σ4, h2, as5, ag3, ?_⟩
                cases e2 : mt σ4 h2 with
                | err => rw [e2] at f2; cases f2
                | ex c n h' => rw [e2] at f2; cases f2
                | ok b h4 =>
                  rw [e2] at f2
                  intro ρ6 H6 b' st6 ag6 eb
                  subst eb
                  cases b with
                  | false =>
                    rw [if_neg Bool.false_ne_true]
                    exact ⟨ρ6, h4, (st2.trans st3).trans st6, ag6, f2⟩
                  | true =>
                    rw [if_pos rfl]
                    dsimp only at f2
                    refine ⟨ρ6, σ4, h4, as5.mono st6, ag6, ?_⟩
                    cases e3 : ml σ4 h4 with
                    | err => rw [e3] at f2; cases f2
                    | ex c n h' => rw [e3] at f2; cases f2
                    | ok z h5 =>
                      rw [e3] at f2
                      dsimp only at f2
                      intro ρ7 H7 z' st7 ag7 rz
                      cases e4 : h5[h1.length]? with
                      | none => rw [e4] at f2; cases f2
                      | some ob =>
                        rw [e4] at f2
                        cases ob with
                        | lst acc =>
                          dsimp only at f2
                          cases e5 : small (acc.length + 1) with
                          | false => rw [e5] at f2; cases f2
                          | true =>
                            rw [e5] at f2
                            have stA := ((st2.trans st3).trans st6).trans st7
                            have hD7 := stA.pre _ _ hx
                            obtain ⟨ys, hy, rs⟩ := ag7.at_ e4 hD7
                            have stW : Stp G ρ7 H7 ρ7 (upd H7 D (.lst (ys ++ [z']))) := Stp.wr ag7 e4 hD7
                            refine ⟨ys, hy, by rw [← rs.length]; exact small_lt e5, ρ7, _, stA.trans stW, ag7.wr (u' := .lst (acc ++ [z])) e4 hD7 ⟨_, upd_same, (rs.append (.cons rz .nil)).mono stW⟩, f2⟩
                        | _ => cases f2
end
end ML
end

section
set_option Elab.async false
set_option linter.all false
set_option maxRecDepth 100000
set_option maxHeartbeats 4000000
/-! The M layer, part 12: list comprehensions as expressions, and given to a name. -/
namespace ML
open PySem L2

section
variable {G : Gx} {W : WX} {X : Cx} {tg iter elt c : Expr} {ifs : List Expr} {scope : Scope} {own : List (Str × Nat)} {pos spos py : Pos} {mi : MI} {mt : MT} {ml : ME} {t : Tgt} {i : Nat} {y : Str}
theorem yes_rd : ∀ σ H Q, rdT G W0 tYesM σ H Q → tYes σ H Q := fun σ H Q ⟨ρ, σi, h, as, ag, f⟩ => f ρ H true .refl ag rfl
theorem me_lc0 (hG : G.K = X.K) (hc : X.calm = true) (hN : X.N.Nodup) (hi : PI X tg iter (rdI G W mi)) (ok : BlkOk X.N X.env.scope scope own) (hsl : ∀ j ∈ t.slots, j ∈ own.map (·.2))
    (hg : ∀ (s : Shared) (H : Hp) (C : Addr) (cl : List (Str × Addr)) (fp : List Addr), PG (X.blk s H scope (compEnvC scope cl C X.env) fp) tg (t.tg X.K))
    (he : ∀ (s : Shared) (H : Hp) (C : Addr) (cl : List (Str × Addr)) (fp : List Addr), PE (X.blk s H scope (compEnvC scope cl C X.env) fp) elt (rdE G W0 ml)) (hs : ∀ x, foldedSetIterable iter X.env x = pure x := by intro _; rfl) :
    PE X (.ListComp elt [⟨tg, iter, [], 0⟩] scope pos) (rdE G W (eLc mi t (own.map (·.2)) tYesM ml)) :=
  PE.imp' (pe_lc hc hN hi ok hg (fun _ _ _ _ _ => pts_nil) he hs) (lc_rd hG _ hsl yes_rd)
theorem me_lc1 (hG : G.K = X.K) (hc : X.calm = true) (hN : X.N.Nodup) (hi : PI X tg iter (rdI G W mi)) (ok : BlkOk X.N X.env.scope scope own) (hsl : ∀ j ∈ t.slots, j ∈ own.map (·.2))
    (hg : ∀ (s : Shared) (H : Hp) (C : Addr) (cl : List (Str × Addr)) (fp : List Addr), PG (X.blk s H scope (compEnvC scope cl C X.env) fp) tg (t.tg X.K))
    (ht : ∀ (s : Shared) (H : Hp) (C : Addr) (cl : List (Str × Addr)) (fp : List Addr), PT (X.blk s H scope (compEnvC scope cl C X.env) fp) c (rdT G W0 mt))
    (he : ∀ (s : Shared) (H : Hp) (C : Addr) (cl : List (Str × Addr)) (fp : List Addr), PE (X.blk s H scope (compEnvC scope cl C X.env) fp) elt (rdE G W0 ml)) (hs : ∀ x, foldedSetIterable iter X.env x = pure x := by intro _; rfl) :
    PE X (.ListComp elt [⟨tg, iter, [c], 0⟩] scope pos) (rdE G W (eLc mi t (own.map (·.2)) mt ml)) :=
  PE.imp' (pe_lc hc hN hi ok hg (fun s H C cl fp => pts_one (ht s H C cl fp)) he hs) (lc_rd hG _ hsl fun _ _ _ z => z)
theorem rdS_E {me : ME} {D : Ends} {σ : L2.St} {H : Hp} (r : rdS G W (sAsg me (gNm i)) D σ H) : rdE G W me σ H fun x H1 => gName i x σ H1 D.nx :=
  let ⟨_, _, _, as, ag, f⟩ := r
  rdS_go as ag f fun _ _ _ _ _ _ as ag r f => f.nx ag (as.set r i)
theorem ms_setLc0 (hG : G.K = X.K) (hc : X.calm = true) (hN : X.N.Nodup) (hy : X.N[i]? = some y) (hyl : X.env.scope.names.lookup y = some .local) (hsw : swapsWith (.ListComp elt [⟨tg, iter, [], 0⟩] scope pos) (some (.Name y py)) spos.line X.env = pure true)
    (hi : PI X tg iter (rdI G W mi)) (ok : BlkOk X.N X.env.scope scope own) (hsl : ∀ j ∈ t.slots, j ∈ own.map (·.2))
    (hg : ∀ (s : Shared) (H : Hp) (C : Addr) (cl : List (Str × Addr)) (fp : List Addr), PG (X.blk s H scope (compEnvC scope cl C X.env) fp) tg (t.tg X.K))
    (he : ∀ (s : Shared) (H : Hp) (C : Addr) (cl : List (Str × Addr)) (fp : List Addr), PE (X.blk s H scope (compEnvC scope cl C X.env) fp) elt (rdE G W0 ml)) (hs : ∀ x, foldedSetIterable iter X.env x = pure x := by intro _; rfl) :
    PS X (.Assign [.Name y py] (.ListComp elt [⟨tg, iter, [], 0⟩] scope pos) spos) (rdS G W (sAsg (eLc mi t (own.map (·.2)) tYesM ml) (gNm i))) :=
  PS.imp' (ps_setLc hc hN hy hyl hsw hi ok hg (fun _ _ _ _ _ => pts_nil) he hs) fun D σ H r => lc_rd hG _ hsl yes_rd σ H _ (rdS_E r)
theorem ms_setLc1 (hG : G.K = X.K) (hc : X.calm = true) (hN : X.N.Nodup) (hy : X.N[i]? = some y) (hyl : X.env.scope.names.lookup y = some .local) (hsw : swapsWith (.ListComp elt [⟨tg, iter, [c], 0⟩] scope pos) (some (.Name y py)) spos.line X.env = pure true)
    (hi : PI X tg iter (rdI G W mi)) (ok : BlkOk X.N X.env.scope scope own) (hsl : ∀ j ∈ t.slots, j ∈ own.map (·.2))
    (hg : ∀ (s : Shared) (H : Hp) (C : Addr) (cl : List (Str × Addr)) (fp : List Addr), PG (X.blk s H scope (compEnvC scope cl C X.env) fp) tg (t.tg X.K))
    (ht : ∀ (s : Shared) (H : Hp) (C : Addr) (cl : List (Str × Addr)) (fp : List Addr), PT (X.blk s H scope (compEnvC scope cl C X.env) fp) c (rdT G W0 mt))
    (he : ∀ (s : Shared) (H : Hp) (C : Addr) (cl : List (Str × Addr)) (fp : List Addr), PE (X.blk s H scope (compEnvC scope cl C X.env) fp) elt (rdE G W0 ml)) (hs : ∀ x, foldedSetIterable iter X.env x = pure x := by intro _; rfl) :
    PS X (.Assign [.Name y py] (.ListComp elt [⟨tg, iter, [c], 0⟩] scope pos) spos) (rdS G W (sAsg (eLc mi t (own.map (·.2)) mt ml) (gNm i))) :=
  PS.imp' (ps_setLc hc hN hy hyl hsw hi ok hg (fun s H C cl fp => pts_one (ht s H C cl fp)) he hs) fun D σ H r => lc_rd hG _ hsl (fun _ _ _ z => z) σ H _ (rdS_E r)
/-! ### what is never reached -/
def eErr : ME := fun _ _ => .err
def sErr : MS := fun _ _ => .err
def tErr : MT := fun _ _ => .err
theorem me_err {e : Expr} : PE X e (rdE G W eErr) := ⟨fun _ _ _ _ _ _ ⟨_, _, _, _, _, f⟩ => f.elim⟩
theorem ms_err {e : Stmt} : PS X e (rdS G W sErr) := ⟨fun _ _ _ _ _ _ ⟨_, _, _, _, _, f⟩ => f.elim⟩
theorem mss_err {e : List Stmt} : PSs X e (rdS G W sErr) := ⟨fun _ _ _ _ _ _ ⟨_, _, _, _, _, f⟩ => f.elim⟩
theorem mt_err {e : Expr} : PT X e (rdT G W tErr) := ⟨fun _ _ _ _ _ _ ⟨_, _, _, _, _, f⟩ => f.elim⟩
end
end ML
end

section
set_option Elab.async false
set_option linter.all false
set_option maxRecDepth 100000
set_option maxHeartbeats 4000000
/-! The M layer, part 13: -x, slices, methods of lists and dicts, in. -/
namespace ML
open PySem L2

/-! ### -x -/
def eNeg (a : ME) : ME := fun σ h => (a σ h).bind fun v h1 => match v with
  | .int i => .ok (.int (-i)) h1
  | _ => .err
/-! ### a[lo:hi] -/
abbrev MO := Sg → Hi → Res (Option Int)
def oNo : MO := fun _ h => .ok none h
def oSome (e : ME) : MO := fun σ h => (e σ h).bind fun v h1 => match v with
  | .int i => .ok (some i) h1
  | _ => .err
def sIxI (n d : Nat) : Option Int → Nat
  | none => d
  | some v => if v < 0 then (v + (n : Int)).toNat else Nat.min v.toNat n
def cutI (xs : List VI) (lo hi : Option Int) : List VI := (xs.drop (sIxI xs.length 0 lo)).take (sIxI xs.length xs.length hi - sIxI xs.length 0 lo)
def sliceM (x : VI) (lo hi : Option Int) (h : Hi) : Option (VI × Hi) := match x with
  | .tup xs => some (.tup (cutI xs lo hi), h)
  | .ref n => match h[n]? with
    | some (.lst xs) => some (.ref h.length, h ++ [.lst (cutI xs lo hi)])
    | some (.scr xs) => some (.ref h.length, h ++ [.lst (cutI xs lo hi)])
    | _ => none
  | _ => none
def eSl (e : ME) (lo hi : MO) : ME := fun σ h => (e σ h).bind fun x h1 => (lo σ h1).bind fun l h2 => (hi σ h2).bind fun u h3 => ofO (sliceM x l u h3)
abbrev rdO (G : Gx) (W : WX) (m : MO) : TO := rdG G (fun _ _ (a b : Option Int) => a = b) W m
section
variable {G : Gx} {ρ : List Addr} {h : Hi} {H : Hp} {W : WX} {X : Cx} {e a b c o i v : Expr} {lo hi : Option Expr} {es : List Expr} {pos p p2 pos' apos cpos : Pos} {me mi mo ma mb mv : ME} {ml mh : MO} {mr : MA}
theorem me_neg (ha : PE X a (rdE G W ma)) : PE X (.UnaryOp .USub a pos) (rdE G W (eNeg ma)) :=
  PE.imp' (pe_un un_neg ha) fun σ H Q ⟨ρ, σi, h, as, ag, fin⟩ => rdG_go as ag fin fun ρ1 H1 h1 x x' st as ag r f => by
    cases r with
    | int i => exact ⟨i, rfl, f.ok ag (.int _)⟩
    | _ => exact f.elim
theorem PO.imp' {e : Option Expr} {t t' : TO} (h : PO X e t) (i : ∀ σ H Q, t' σ H Q → t σ H Q) : PO X e t' := ⟨fun pins s σ H Q I q => h.run pins s σ H Q I (i σ H Q q)⟩
theorem mo_none : PO X none (rdO G W oNo) := PO.imp' po_none fun σ H Q ⟨ρ, σi, h, as, ag, f⟩ => f.ok ag rfl
theorem mo_some (h : PE X e (rdE G W me)) : PO X (some e) (rdO G W (oSome me)) := PO.imp' (po_some h) fun σ H Q ⟨ρ, σi, h, as, ag, f⟩ => rdG_go as ag f fun ρ1 H1 h1 x x' st as ag r f => by
  cases r with
  | int i => exact ⟨i, rfl, f.ok ag rfl⟩
  | _ => exact f.elim
theorem sIxI_eq (n d : Nat) (o : Option Int) : sIxI n d o = HT.sIx n d o := by cases o <;> rfl
theorem RVs.cut {xs : List VI} {ys : List V} (r : RVs G ρ H xs ys) (lo hi : Option Int) : RVs G ρ H (cutI xs lo hi) (cutV ys lo hi) := by
  unfold cutI cutV
  rw [sIxI_eq, sIxI_eq, r.length]
  exact (r.drop _).take _
theorem cutV_all {ys : List V} {lo hi : Option Int} (h : HT.sIx ys.length 0 lo = 0 ∧ HT.sIx ys.length ys.length hi = ys.length) : cutV ys lo hi = ys := by
  unfold cutV
  rw [h.1, h.2]
  simp
/-- what a slice is asked for, by the kind of thing -/
def rSlM (G : Gx) : V → Option Int → Option Int → Hp → VK → Prop := fun x lo hi H Q => ∃ ρ h xi, Ag G ρ h H ∧ RV G ρ H xi x ∧ FinO G ρ H (RV G) Q (sliceM xi lo hi h)
theorem sl_M (hG : G.K = X.K) : SlR X (rSlM G) := by
  intro pins s σ H x v vl vu lo hi sl Q I rx hs hl hu ⟨ρ, h, xi, ag, r, fi⟩
  unfold sliceM at fi
  cases r with
  | @tup xs ys a t1 s1 =>
    refine sl_tupA pins s σ H _ v vl vu lo hi sl Q I rx hs hl hu ⟨a, ys, rfl, hG ▸ t1, fun z => ?_, fun z p hp => ?_⟩
    · refine fi.ok ag ?_
      have := s1.cut lo hi
      rw [cutV_all z] at this
      exact .tup t1 this
    · exact fi ρ _ _ (Stp.more hp) (ag.more hp) (.tup (.inl (.inl upd_same)) ((s1.cut lo hi).mono (Stp.more hp)))
  | @ref n a e =>
    dsimp only at fi
    cases q1 : h[n]? with
    | none => rw [q1] at fi; exact fi.elim
    | some ob =>
      rw [q1] at fi
      cases ob with
      | lst xs =>
        obtain ⟨ys, hy, rs⟩ := ag.at_ q1 e
        exact sl_list pins s σ H _ v vl vu lo hi sl Q I rx hs hl hu ⟨a, ys, rfl, .inl (.inl hy), fun p hp => FinO.new fi ag hp ⟨_, upd_same, (rs.cut lo hi).mono (Stp.new hp)⟩⟩
      | scr xs =>
        obtain ⟨ob, ys, hy, rs⟩ := ag.at_ q1 e
        exact sl_list pins s σ H _ v vl vu lo hi sl Q I rx hs hl hu ⟨a, ys, rfl, .inl (.inr ⟨_, hy⟩), fun p hp => FinO.new fi ag hp ⟨_, upd_same, (rs.cut lo hi).mono (Stp.new hp)⟩⟩
      | _ => exact fi.elim
  | _ => exact fi.elim
theorem me_slice (hG : G.K = X.K) (he : PE X e (rdE G W me)) (hl : PO X lo (rdO G W ml)) (hh : PO X hi (rdO G W mh)) : PE X (.Subscript e (.Slice lo hi none p2) pos) (rdE G W (eSl me ml mh)) :=
  PE.imp' (pe_slice (sl_M hG) he hl hh) fun σ H Q ⟨ρ, σi, h, as, ag, f⟩ => rdG_go as ag f fun ρ1 H1 h1 x x' st as ag r f => rdG_go as ag f fun ρ2 H2 h2 l l' st2 as ag rl f => by
    subst rl
    exact rdG_go as ag f fun ρ3 H3 h3 u u' st3 as ag ru f => by
      subst ru
      exact ⟨ρ3, h3, x, ag, r.mono (st2.trans st3), FinO.of f⟩
end

/-! ### o.m(..), m a method of lists or dicts -/
inductive Knd where
  | lst | dic | str
def Knd.ty : Knd → String
  | .lst => "list"
  | .dic => "dict"
  | .str => "str"
def kOk (k : Knd) (v : VI) (h : Hi) : Bool := match v with
  | .str _ => match k with | .str => true | _ => false
  | .ref n => match h[n]? with
    | some (.lst _) => match k with | .lst => true | _ => false
    | some (.scr _) => match k with | .lst => true | _ => false
    | some (.dic _) => match k with | .dic => true | _ => false
    | _ => false
  | _ => false
abbrev OpM := VI → List VI → Hi → Option (VI × Hi)
def eBM (k : Knd) (f : OpM) (o : ME) (ma : MA) : ME := fun σ h => (o σ h).bind fun x h1 => match kOk k x h1 with
  | true => (ma σ h1).bind fun vs h2 => ofO (f x vs h2)
  | false => .err
def rdM (G : Gx) (f : OpM) : V → List V → Hp → VK → Prop := fun x xs H Q => ∃ ρ h xi args, Ag G ρ h H ∧ RV G ρ H xi x ∧ RVs G ρ H args xs ∧ FinO G ρ H (RV G) Q (f xi args h)
def mAppend : OpM := fun x vs h => match x with
  | .ref n => match h[n]? with
    | some (.lst xs) => match vs with
      | [y] => match small (xs.length + 1) with
        | true => some (.non, h.set n (.lst (xs ++ [y])))
        | false => none
      | _ => none
    | _ => none
  | _ => none
def mExtend : OpM := fun x vs h => match x with
  | .ref n => match h[n]? with
    | some (.lst xs) => match vs with
      | [.ref m] => match h[m]? with
        | some (.lst ys) => match small (xs.length + ys.length) with
          | true => some (.non, h.set n (.lst (xs ++ ys)))
          | false => none
        | _ => none
      | _ => none
    | _ => none
  | _ => none
def mPop : OpM := fun x vs h => match x with
  | .ref n => match h[n]? with
    | some (.lst xs) => match vs with
      | [] => match xs[xs.length - 1]? with
        | some y => some (y, h.set n (.lst xs.dropLast))
        | none => none
      | _ => none
    | _ => none
  | _ => none
section
variable {G : Gx} {ρ : List Addr} {h : Hi} {H : Hp} {W : WX} {X : Cx} {e a b c o i v : Expr} {es : List Expr} {pos p pos' apos cpos : Pos} {me mi mo ma mb mv : ME} {mr : MA} {k : Knd} {f : OpM} {name : Str} {id T : String}
theorem kOk_ty {xi : VI} {x : V} {K : PySem.W.Frag} (ag : Ag G ρ h H) (r : RV G ρ H xi x) (e : kOk k xi h = true) : tyV K k.ty x H := by
  unfold kOk at e
  cases r with
  | str q => cases k <;> first | rfl | cases e
  | @ref n a q =>
    dsimp only at e
    cases q1 : h[n]? with
    | none => rw [q1] at e; cases e
    | some ob =>
      rw [q1] at e
      cases ob with
      | lst xs =>
        obtain ⟨ys, hy, _⟩ := ag.at_ q1 q
        cases k <;> first | exact .inl ⟨rfl, ys, .inl (.inl hy)⟩ | cases e
      | scr xs =>
        obtain ⟨ob, ys, hy, _⟩ := ag.at_ q1 q
        cases k <;> first | exact .inl ⟨rfl, ys, .inl (.inr ⟨_, hy⟩)⟩ | cases e
      | dic xs =>
        obtain ⟨ys, hy, _⟩ := ag.at_ q1 q
        cases k <;> first | exact .inr (.inr (.inl ⟨rfl, .inl ⟨_, hy⟩⟩)) | cases e
      | _ => cases e
  | _ => cases e
theorem eT (hk : k.ty = T) : T = k.ty := hk.symm
theorem me_bm (hk : k.ty = T) (pa : PlainAttrs T) (slot : Slot T name id) (hty : typeOf (.builtin id) = pure (.type "method_descriptor")) (hm : MtR X id (rdM G f)) (ho : PE X o (rdE G W mo)) (ha : PA X (e :: es) (rdA G W mr))
    (hbase : attributeBase o name X.env (eval o X.env) = eval o X.env := by rfl)
    (hfew : ((backTo cpos (starEach (e :: es) X.env)).all (fun x => !x.1) && (backToKw cpos (keywordEach [] X.env)).all (fun x => x.1.isSome)
      && decide ((e :: es).length + ([] : List Keyword).length + (if ([] : List Keyword).isEmpty then 0 else 1) < 30)) = true := by rfl)
    (hline : (apos.endLine == cpos.line) = true := by rfl) (hs : starEach (e :: es) X.env = (false, eval e X.env) :: starEach es X.env := by rfl) (hplain : (backTo cpos (starEach es X.env)).any (·.1) = false := by rfl) :
    PE X (.Call (.Attribute o name apos) (e :: es) [] cpos) (rdE G W (eBM k f mo mr)) := by
  subst hk
  refine PE.imp' (pe_bm pa slot hty hm ho ha hbase hfew hline hs hplain) fun σ H Q ⟨ρ, σi, h, as, ag, fin⟩ => rdG_go as ag fin fun ρ1 H1 h1 x x' st as ag r fi => ?_
  cases q : kOk k x h1 with
  | false => rw [q] at fi; exact fi.elim
  | true =>
    rw [q] at fi
    exact ⟨kOk_ty ag r q, rdG_go as ag fi fun ρ2 H2 h2 vs ys st2 as ag rs f => ⟨ρ2, h2, x, vs, ag, r.mono st2, rs, FinO.of f⟩⟩
theorem me_bm0 (hk : k.ty = T) (pa : PlainAttrs T) (slot : Slot T name id) (hty : typeOf (.builtin id) = pure (.type "method_descriptor")) (hm : MtR X id (rdM G f)) (ho : PE X o (rdE G W mo))
    (hbase : attributeBase o name X.env (eval o X.env) = eval o X.env := by rfl) (hline : (apos.endLine == cpos.line) = true := by rfl) :
    PE X (.Call (.Attribute o name apos) [] [] cpos) (rdE G W (eBM k f mo aNil)) := by
  subst hk
  refine PE.imp' (pe_bm0 pa slot hty hm ho hbase hline) fun σ H Q ⟨ρ, σi, h, as, ag, fin⟩ => rdG_go as ag fin fun ρ1 H1 h1 x x' st as ag r fi => ?_
  cases q : kOk k x h1 with
  | false => rw [q] at fi; exact fi.elim
  | true =>
    rw [q] at fi
    exact ⟨kOk_ty ag r q, ρ1, h1, x, [], ag, r, .nil, FinO.of fi⟩
theorem mm_append : MtR X "list.append" (rdM G mAppend) := by
  intro pins s σ H x xs v us Q I rx rxs ⟨ρ, h, xi, args, ag, r, ra, fi⟩
  unfold mAppend at fi
  cases r with
  | @ref n a e =>
    dsimp only at fi
    cases q1 : h[n]? with
    | none => rw [q1] at fi; exact fi.elim
    | some ob =>
      rw [q1] at fi
      cases ob with
      | lst zs =>
        obtain ⟨ys, hy, rs⟩ := ag.at_ q1 e
        cases ra with
        | nil => exact fi.elim
        | cons ry t =>
          cases t with
          | cons _ _ => exact fi.elim
          | nil =>
            dsimp only at fi
            cases q2 : small (zs.length + 1) with
            | false => rw [q2] at fi; exact fi.elim
            | true =>
              rw [q2] at fi
              have st : ∀ o, Stp G ρ H ρ (upd H a o) := fun o => Stp.wr ag q1 e
              exact mt_append pins s σ H _ _ v us Q I rx rxs ⟨a, ys, _, rfl, rfl, hy, by rw [← rs.length]; exact small_lt q2, fi ρ _ _ (st _) (ag.wr q1 e ⟨_, upd_same, (rs.append (.cons ry .nil)).mono (st _)⟩) .non⟩
      | _ => exact fi.elim
  | _ => exact fi.elim
theorem mm_extend : MtR X "list.extend" (rdM G mExtend) := by
  intro pins s σ H x xs v us Q I rx rxs ⟨ρ, h, xi, args, ag, r, ra, fi⟩
  unfold mExtend at fi
  cases r with
  | @ref n a e =>
    dsimp only at fi
    cases q1 : h[n]? with
    | none => rw [q1] at fi; exact fi.elim
    | some ob =>
      rw [q1] at fi
      cases ob with
      | lst zs =>
        obtain ⟨ys, hy, rs⟩ := ag.at_ q1 e
        cases ra with
        | nil => exact fi.elim
        | cons ry t =>
          cases t with
          | cons _ _ => cases ry <;> exact fi.elim
          | nil =>
            cases ry with
            | @ref m b e2 =>
              dsimp only at fi
              cases q3 : h[m]? with
              | none => rw [q3] at fi; exact fi.elim
              | some ob2 =>
                rw [q3] at fi
                cases ob2 with
                | lst ws =>
                  obtain ⟨ys2, hy2, rs2⟩ := ag.at_ q3 e2
                  dsimp only at fi
                  cases q2 : small (zs.length + ws.length) with
                  | false => rw [q2] at fi; exact fi.elim
                  | true =>
                    rw [q2] at fi
                    have st : ∀ o, Stp G ρ H ρ (upd H a o) := fun o => Stp.wr ag q1 e
                    exact mt_extend pins s σ H _ _ v us Q I rx rxs ⟨a, b, ys, ys2, rfl, rfl, hy, hy2, by rw [← rs.length, ← rs2.length]; exact small_ok q2, fi ρ _ _ (st _) (ag.wr q1 e ⟨_, upd_same, (rs.append rs2).mono (st _)⟩) .non⟩
                | _ => exact fi.elim
            | _ => exact fi.elim
      | _ => exact fi.elim
  | _ => exact fi.elim
theorem RVs.dropLast {xs : List VI} {ys : List V} (r : RVs G ρ H xs ys) : RVs G ρ H xs.dropLast ys.dropLast := by
  rw [List.dropLast_eq_take, List.dropLast_eq_take, r.length]
  exact r.take _
theorem mm_pop : MtR X "list.pop" (rdM G mPop) := by
  intro pins s σ H x xs v us Q I rx rxs ⟨ρ, h, xi, args, ag, r, ra, fi⟩
  unfold mPop at fi
  cases r with
  | @ref n a e =>
    dsimp only at fi
    cases q1 : h[n]? with
    | none => rw [q1] at fi; exact fi.elim
    | some ob =>
      rw [q1] at fi
      cases ob with
      | lst zs =>
        obtain ⟨ys, hy, rs⟩ := ag.at_ q1 e
        cases ra with
        | cons ry t => exact fi.elim
        | nil =>
          dsimp only at fi
          cases q2 : zs[zs.length - 1]? with
          | none => rw [q2] at fi; exact fi.elim
          | some y =>
            rw [q2] at fi
            obtain ⟨y', hy', ry⟩ := rs.get q2
            have st : ∀ o, Stp G ρ H ρ (upd H a o) := fun o => Stp.wr ag q1 e
            exact mt_pop pins s σ H _ _ v us Q I rx rxs ⟨a, ys, y', rfl, rfl, hy, by rw [← rs.length]; exact hy', fi ρ _ _ (st _) (ag.wr q1 e ⟨_, upd_same, rs.dropLast.mono (st _)⟩) (ry.mono (st _))⟩
      | _ => exact fi.elim
  | _ => exact fi.elim
end

/-! ### in -/
def flI : VI → Bool
  | .non => true
  | .bl _ => true
  | .int _ => true
  | .str _ => true
  | _ => false
def b2i (b : Bool) : Int := match b with
  | true => 1
  | false => 0
def eqI : VI → VI → Bool
  | .non, .non => true
  | .bl a, .bl b => a == b
  | .bl a, .int b => decide (b2i a = b)
  | .int a, .bl b => decide (a = b2i b)
  | .int a, .int b => decide (a = b)
  | .str a, .str b => decide (a = b)
  | _, _ => false
def inI (x : VI) : List VI → Bool
  | [] => false
  | y :: r => match eqI y x with
    | true => true
    | false => inI x r
def alF : List VI → Bool
  | [] => true
  | y :: r => match flI y with
    | true => alF r
    | false => false
def inDl (h : Hi) (x : VI) (ys : List VI) : Option Bool := match dat 66 h x, datL (dat 65 h) ys with
  | some d, some ds => match SeqAt.shaped d && SeqAt.shaped (.list ds) with
    | true => some (ds.any fun z => PyData.eqv z d)
    | false => none
  | _, _ => none
def inM (x y : VI) (h : Hi) : Option Bool := match y with
  | .tup ys => match flI x && alF ys with
    | true => some (inI x ys)
    | false => none
  | .ref n => match h[n]? with
    | some (.lst ys) => match flI x && alF ys with
      | true => some (inI x ys)
      | false => inDl h x ys
    | some (.scr ys) => match flI x && alF ys with
      | true => some (inI x ys)
      | false => inDl h x ys
    | some (.dic kvs) => match isKey x with
      | true => some (match getD x kvs with | some _ => true | none => false)
      | false => none
    | _ => none
  | _ => none
def fIn : Op2 := fun x y h => match inM x y h with
  | some b => some (.bl b, h)
  | none => none
def fNotIn : Op2 := fun x y h => match inM x y h with
  | some b => some (.bl (!b), h)
  | none => none
section
variable {G : Gx} {ρ : List Addr} {h : Hi} {H : Hp} {X : Cx}
theorem RV.flat {v : VI} {x : V} (r : RV G ρ H v x) (e : flI v = true) : flatV x = true := by cases r <;> first | rfl | cases e
theorem RV.eqI {v w : VI} {x y : V} (r : RV G ρ H v x) (r2 : RV G ρ H w y) (e : flI v = true) (e2 : flI w = true) : ML.eqI v w = eqV x y := by
  cases r with
  | non => cases r2 <;> first | rfl | cases e2
  | bl b => cases r2 <;> first | rfl | (cases b <;> rfl) | cases e2
  | int i =>
    cases r2 with
    | bl b => cases b <;> rfl
    | _ => first | rfl | cases e2
  | @str s1 _ q =>
    cases r2 with
    | @str s2 _ q2 =>
      subst q q2
      show decide (s1 = s2) = (toStr s1 == toStr s2)
      by_cases z : s1 = s2
      · subst z; simp
      · rw [decide_eq_false z, beq_eq_false_iff_ne.mpr fun w => z (toStr_inj w)]
    | _ => first | rfl | cases e2
  | _ => cases e
theorem RVs.flats : ∀ {vs : List VI} {xs : List V}, RVs G ρ H vs xs → alF vs = true → xs.all flatV = true
  | _, _, .nil, _ => rfl
  | _, _, .cons (v := v) r t, e => by
    unfold alF at e
    cases q : flI v with
    | false => rw [q] at e; cases e
    | true =>
      rw [q] at e
      rw [List.all_cons, r.flat q, t.flats e]
      rfl
theorem RVs.inI {w : VI} {y : V} (r2 : RV G ρ H w y) (e2 : flI w = true) : ∀ {vs : List VI} {xs : List V}, RVs G ρ H vs xs → alF vs = true → ML.inI w vs = inV y xs
  | _, _, .nil, _ => rfl
  | _, _, .cons (v := v) (x := x) (xs := xs) r t, e => by
    unfold alF at e
    cases q : flI v with
    | false => rw [q] at e; cases e
    | true =>
      rw [q] at e
      unfold ML.inI
      rw [r.eqI r2 q e2]
      show _ = (List.any (x :: xs) fun z => eqV z y)
      rw [List.any_cons]
      cases eqV x y with
      | true => rfl
      | false => rw [Bool.false_or]; exact RVs.inI r2 e2 t e
theorem in_kind (hG : G.K = X.K) (hu : X.A.units + 65 < cLine) {neg : Bool} {op : CmpOp} {xi yi : VI} {x y : V} {Q : VK} (ag : Ag G ρ h H) (r1 : RV G ρ H xi x) (r2 : RV G ρ H yi y)
    (h1 : OpR X (compareOp op) (rIn X.K neg)) (h2 : OpR X (compareOp op) (fun x y H Q => ∃ d ds, Dp X.K H x d ∧ Dp X.K H y (.list ds) ∧ SeqAt.shaped d = true ∧ SeqAt.shaped (.list ds) = true ∧ Q (.bl (if neg then !(ds.any fun z => PyData.eqv z d) else ds.any fun z => PyData.eqv z d)) H))
    (h3 : OpR X (compareOp op) (fun y x H Q => ∃ a o, x = .ref a ∧ DGet H a y o ∧ Q (.bl (if neg then !o.isSome else o.isSome)) H))
    (fi : FinO G ρ H (RV G) Q (match inM xi yi h with | some b => some (VI.bl (if neg then !b else b), h) | none => none)) : ∃ r : R2, OpR X (compareOp op) r ∧ r x y H Q := by
  unfold inM at fi
  have lst : ∀ {ys : List VI} {zs : List V} {a : Addr}, RVs G ρ H ys zs → SqL G.K H a zs → FinO G ρ H (RV G) Q (match (match flI xi && alF ys with | true => some (inI xi ys) | false => inDl h xi ys) with | some b => some (VI.bl (if neg then !b else b), h) | none => none) → ∃ r : R2, OpR X (compareOp op) r ∧ r x (.ref a) H Q := by
    intro ys zs a rs sq fi
    cases q : flI xi && alF ys with
    | true =>
      rw [q] at fi
      obtain ⟨q1, q2⟩ := Bool.and_eq_true_iff.mp q
      exact ⟨_, h1, a, zs, rfl, .inl (hG ▸ sq), r1.flat q1, rs.flats q2, by rw [← rs.inI r1 q1 q2]; exact fi.ok ag (.bl _)⟩
    | false =>
      rw [q] at fi
      dsimp only at fi
      unfold inDl at fi
      cases e1 : dat 66 h xi with
      | none => rw [e1] at fi; exact fi.elim
      | some d =>
        cases e2 : datL (dat 65 h) ys with
        | none => rw [e1, e2] at fi; exact fi.elim
        | some ds =>
          rw [e1, e2] at fi
          dsimp only at fi
          cases z : SeqAt.shaped d && SeqAt.shaped (.list ds) with
          | false => rw [z] at fi; exact fi.elim
          | true =>
            rw [z] at fi
            obtain ⟨z1, z2⟩ := Bool.and_eq_true_iff.mp z
            exact ⟨_, h2, d, ds, hG ▸ dat_ok ag _ _ _ _ r1 e1, hG ▸ .lst sq (datL_ok (fun v x d => dat_ok ag 65 v x d) rs e2), z1, z2, fi.ok ag (.bl _)⟩
  cases r2 with
  | @tup xs ys a t1 s1 =>
    dsimp only at fi
    cases q : flI xi && alF xs with
    | false => rw [q] at fi; exact fi.elim
    | true =>
      rw [q] at fi
      obtain ⟨q1, q2⟩ := Bool.and_eq_true_iff.mp q
      exact ⟨_, h1, a, ys, rfl, .inr (hG ▸ t1), r1.flat q1, s1.flats q2, by rw [← s1.inI r1 q1 q2]; exact fi.ok ag (.bl _)⟩
  | @ref n a e =>
    dsimp only at fi
    cases q1 : h[n]? with
    | none => rw [q1] at fi; exact fi.elim
    | some ob =>
      rw [q1] at fi
      cases ob with
      | lst xs =>
        obtain ⟨ys, hy, rs⟩ := ag.at_ q1 e
        exact lst rs (.inl (.inl hy)) fi
      | scr xs =>
        obtain ⟨ob, ys, hy, rs⟩ := ag.at_ q1 e
        exact lst rs (.inl (.inr ⟨_, hy⟩)) fi
      | dic kvs =>
        obtain ⟨ks, hy, rs⟩ := ag.at_ q1 e
        dsimp only at fi
        cases q2 : isKey xi with
        | false => rw [q2] at fi; exact fi.elim
        | true =>
          rw [q2] at fi
          obtain ⟨k, rk, ey⟩ := r1.key q2
          subst ey
          have gd := rs.getD rk
          refine ⟨_, h3, a, _, rfl, DGet.k hy, ?_⟩
          cases q3 : getD xi kvs with
          | none => rw [q3] at gd fi; rw [gd]; exact fi.ok ag (.bl _)
          | some w =>
            rw [q3] at gd fi
            obtain ⟨z, hz, _⟩ := gd
            rw [hz]
            exact fi.ok ag (.bl _)
      | _ => exact fi.elim
  | _ => exact fi.elim
theorem op_dIn (hu : X.A.units + 1 < cLine) : OpR X (compareOp .In) (fun y x H Q => ∃ a o, x = .ref a ∧ DGet H a y o ∧ Q (.bl o.isSome) H) := by
  intro pins s σ H y x v u Q I ry rx ⟨a, ov, ex, g, q⟩
  subst ex
  obtain rfl : u = Value.ref a := rx
  exact d_in hu I g ry fun s3 I3 => ⟨.bl ov.isSome, H, I3, rfl, q⟩
theorem op_dNotIn (hu : X.A.units + 1 < cLine) : OpR X (compareOp .NotIn) (fun y x H Q => ∃ a o, x = .ref a ∧ DGet H a y o ∧ Q (.bl (!o.isSome)) H) := by
  intro pins s σ H y x v u Q I ry rx ⟨a, ov, ex, g, q⟩
  subst ex
  obtain rfl : u = Value.ref a := rx
  exact d_notIn hu I g ry fun s3 I3 => ⟨.bl (!ov.isSome), H, I3, rfl, q⟩
theorem mo_in (hG : G.K = X.K) (hu : X.A.units + 65 < cLine) : OpR X (compareOp .In) (rd2 G fIn) := opR_at fun ρ h H xi yi x y Q ag r1 r2 f =>
  in_kind (neg := false) hG hu ag r1 r2 op_in_seq (op_inD hu) (op_dIn (by omega)) (by unfold fIn at f; cases q : inM xi yi h <;> rw [q] at f <;> exact f)
theorem mo_notIn (hG : G.K = X.K) (hu : X.A.units + 65 < cLine) : OpR X (compareOp .NotIn) (rd2 G fNotIn) := opR_at fun ρ h H xi yi x y Q ag r1 r2 f =>
  in_kind (neg := true) hG hu ag r1 r2 op_notIn_seq (op_notInD hu) (op_dNotIn (by omega)) (by unfold fNotIn at f; cases q : inM xi yi h <;> rw [q] at f <;> exact f)
end
end ML
end

section
set_option Elab.async false
set_option linter.all false
set_option maxRecDepth 100000
set_option maxHeartbeats 4000000
/-! The M layer, part 14: isinstance, names of the module, tables, while, in-place operators, pairs. -/
namespace ML
open PySem L2

/-! ### isinstance -/
structure IsT where
  non : Option Bool
  bl : Option Bool
  int : Option Bool
  str : Option Bool
  lst : Option Bool
  tup : Option Bool
  dic : Option Bool
  ins : Nat → Option Bool
def isT (T : IsT) (v : VI) (h : Hi) : Option Bool := match v with
  | .non => T.non
  | .bl _ => T.bl
  | .int _ => T.int
  | .str _ => T.str
  | .tup _ => T.tup
  | .ref n => match h[n]? with
    | some (.lst _) => T.lst
    | some (.scr _) => T.lst
    | some (.dic _) => T.dic
    | some (.ins c _) => T.ins c
    | _ => none
  | _ => none
def eIsi (T : IsT) (e : ME) : ME := fun σ h => (e σ h).bind fun v h1 => match isT T v h1 with
  | some b => .ok (.bl b) h1
  | none => .err
structure IsOk (K : PySem.W.Frag) (G : Gx) (us : List Value) (T : IsT) : Prop where
  non : ∀ b, T.non = some b → PySem.W.kitAny K (.type "NoneType") us = some b
  bl : ∀ b, T.bl = some b → PySem.W.kitAny K (.type "bool") us = some b
  int : ∀ b, T.int = some b → PySem.W.kitAny K (.type "int") us = some b
  str : ∀ b, T.str = some b → PySem.W.kitAny K (.type "str") us = some b
  lst : ∀ b, T.lst = some b → PySem.W.kitAny K (.type "list") us = some b
  tup : ∀ b, T.tup = some b → PySem.W.kitAny K (.type "tuple") us = some b
  dic : ∀ b, T.dic = some b → PySem.W.kitAny K (.type "dict") us = some b
  ins : ∀ c C b, T.ins c = some b → G.ct c = some C → Cls K C ∧ PySem.W.findIn K (.ref C) "__class__" = some (some (.builtin "object.__class__")) ∧ PySem.W.mroIn K C (.type "object") = some true ∧ PySem.W.kitAny K (.ref C) us = some b
  gs : PySem.W.specialIn K (.builtin "object.__class__") "__get__" = some (some (.builtin "getset_descriptor.__get__"))
  tk : PySem.W.takesIn K (.builtin "object.__class__") = some true
section
variable {G : Gx} {ρ : List Addr} {h : Hi} {H : Hp} {W : WX} {X : Cx} {e a b c o i v : Expr} {es : List Expr} {pos p p2 pos' apos cpos tpos : Pos} {me mi mo ma mb mv : ME} {mr : MA} {T : IsT} {us : List Value} {k : Nat}
theorem kit_one {K : PySem.W.Frag} {t u : Value} {b : Bool} (h : PySem.W.kitAny K t [u] = some b) : PySem.W.kitOne K t u = some b := by
  unfold PySem.W.kitAny at h
  cases q : PySem.W.kitOne K t u with
  | none => rw [q] at h; cases h
  | some z =>
    rw [q] at h
    cases z with
    | true => exact h
    | false => exact h
theorem isT_ok (hG : G.K = X.K) (ok : IsOk X.K G us T) {vi : VI} {x : V} {bb : Bool} (ag : Ag G ρ h H) (r : RV G ρ H vi x) (e : isT T vi h = some bb) : ∃ t, TyX X.K H x t ∧ PySem.W.kitAny X.K t us = some bb := by
  unfold isT at e
  cases r with
  | non => exact ⟨_, .base .non, ok.non _ e⟩
  | bl b => exact ⟨_, .base (.bl b), ok.bl _ e⟩
  | int b => exact ⟨_, .base (.int b), ok.int _ e⟩
  | str b => exact ⟨_, .base (.str _), ok.str _ e⟩
  | glo q => cases e
  | @tup xs ys a t rs =>
    refine ⟨_, ?_, ok.tup _ e⟩
    rw [hG] at t
    rcases t with (t | ⟨ob, t⟩) | ⟨o, its, n, k1, k2, _⟩
    · exact .base (.tup t)
    · exact .fTuple t
    · exact .kTuple k1 k2
  | @ref n a q =>
    dsimp only at e
    cases q1 : h[n]? with
    | none => rw [q1] at e; cases e
    | some ob =>
      rw [q1] at e
      cases ob with
      | lst xs => obtain ⟨ys, hy, rs⟩ := ag.at_ q1 q; exact ⟨_, .base (.lst hy), ok.lst _ e⟩
      | scr xs => obtain ⟨ob, ys, hy, rs⟩ := ag.at_ q1 q; exact ⟨_, .base (.frz hy), ok.lst _ e⟩
      | dic kvs => obtain ⟨ks, hy, rs⟩ := ag.at_ q1 q; exact ⟨_, .base (.dK hy), ok.dic _ e⟩
      | ins c fs =>
        obtain ⟨C, dx, gs, hc, hH, rf⟩ := insAt ag q1 q
        obtain ⟨k1, k2, k3, k4⟩ := ok.ins c C bb e hc
        exact ⟨_, .base (.ins hH k1 k2 ok.gs ok.tk k3), k4⟩
      | xd fs => cases e
theorem me_isi (hG : G.K = X.K) {cv : V} {u : Value} (ok : IsOk X.K G [u] T) (hg : Gl X "isinstance") (hm : X.mg "isinstance" = none) (he : PE X e (rdE G W me)) (hc : PE X c (tC cv)) (cl : ClsV cv u)
    (hs1 : starEach [e, c] X.env = (false, eval e X.env) :: starEach [c] X.env := by rfl) (hs2 : starEach [c] X.env = (false, eval c X.env) :: starEach [] X.env := by rfl) (hpl : (backTo pos (starEach [c] X.env)).any (·.1) = false := by rfl) :
    PE X (.Call (.Name "isinstance" p) [e, c] [] pos) (rdE G W (eIsi T me)) :=
  PE.imp' (pe_callB (r := rIsi X.K) call_isi hg hm PyProof.Rows.boot_isinstance (pa_cons he (pa_cons hc pa_nil hs2) hs1) (by decide) (by decide) hs1 hpl) fun σ H Q ⟨ρ, σi, h, as, ag, fin⟩ => rdG_go as ag fin fun ρ1 H1 h1 x x' st as ag r f => by
    cases q : isT T x h1 with
    | none => rw [q] at f; exact f.elim
    | some bb =>
      rw [q] at f
      obtain ⟨t, ty, kt⟩ := isT_ok hG ok ag r q
      exact ⟨x', cv, t, u, bb, rfl, cl, ty, kit_one kt, f.ok ag (.bl _)⟩
/-- a name (or a display) of classes -/
def tCs (cvs : List V) : TA := fun _ H Q => Q cvs H
theorem pa_c0 : PA X [] (tCs []) := pa_nil
theorem pa_c1 {cv : V} {cvs : List V} (h : PE X c (tC cv)) (t : PA X es (tCs cvs)) (hs : starEach (c :: es) X.env = (false, eval c X.env) :: starEach es X.env := by rfl) : PA X (c :: es) (tCs (cv :: cvs)) := pa_cons h t hs
theorem me_isiT (hG : G.K = X.K) {cvs : List V} (ok : IsOk X.K G us T) (hg : Gl X "isinstance") (hm : X.mg "isinstance" = none) (he : PE X e (rdE G W me)) (hc : PA X es (tCs cvs)) (cl : Paired ClsV cvs us) (hl : small cvs.length = true)
    (hs1 : starEach [e, .Tuple es k tpos] X.env = (false, eval e X.env) :: starEach [.Tuple es k tpos] X.env := by rfl) (hs2 : starEach [.Tuple es k tpos] X.env = (false, eval (.Tuple es k tpos) X.env) :: starEach [] X.env := by rfl) (hpl : (backTo pos (starEach [.Tuple es k tpos] X.env)).any (·.1) = false := by rfl) :
    PE X (.Call (.Name "isinstance" p) [e, .Tuple es k tpos] [] pos) (rdE G W (eIsi T me)) :=
  PE.imp' (pe_callB (r := rIsiT X.K) call_isiT hg hm PyProof.Rows.boot_isinstance (pa_cons he (pa_cons (pe_tup hc) pa_nil hs2) hs1) (by decide) (by decide) hs1 hpl) fun σ H Q ⟨ρ, σi, h, as, ag, fin⟩ => rdG_go as ag fin fun ρ1 H1 h1 x x' st as ag r f => by
    refine ⟨small_ok hl, fun p hp => ?_⟩
    cases q : isT T x h1 with
    | none => rw [q] at f; exact f.elim
    | some bb =>
      rw [q] at f
      have ag2 : Ag G ρ1 h1 (upd H1 p (.tup cvs)) := ag.more hp
      obtain ⟨t, ty, kt⟩ := isT_ok hG ok ag2 (r.mono (Stp.more hp)) q
      exact ⟨x', p, cvs, t, us, bb, rfl, upd_same, cl, ty, kt, f ρ1 _ _ (Stp.more hp) ag2 (.bl _)⟩
theorem pe_ty {x : Str} {n : String} (hg : Gl X x) (hm : X.mg x = none) (hv : bootBuiltins x = some (.type n)) (hn : x ≠ "__name__" := by decide) (hd : (x == ("__debug__" : Str)) = false := by decide) : PE X (.Name x pos) (tC (.ty n)) := pe_bltn hg hm hv rfl hn hd
theorem pe_cl {x : Str} {C : Addr} (hg : Gl X x) (hm : X.mg x = some (.ref C)) (hd : (x == ("__debug__" : Str)) = false := by decide) : PE X (.Name x pos) (tC (.ref C)) := pe_glob hg hm rfl hd

/-! ### names of the module -/
theorem me_glob {x : Str} {v : VI} {y : V} {u : Value} (hg : Gl X x) (hm : X.mg x = some u) (r : RelV y u) (rv : ∀ ρ H, RV G ρ H v y) (hd : (x == ("__debug__" : Str)) = false := by decide) : PE X (.Name x pos) (rdE G W (eC v)) := me_c (pe_glob hg hm r hd) rv

/-! ### a table of the module, by a text -/
def eKd (tbl : S → Option VI) (b : ME) : ME := fun σ h => (b σ h).bind fun v h1 => match v with
  | .str s => match tbl s with
    | some w => .ok w h1
    | none => .err
  | _ => .err
def KdOk (X : Cx) (G : Gx) (d : Addr) (tbl : S → Option VI) : Prop := ∀ s w, tbl s = some w → ∃ x, KDct X.K X.w d (toStr s) x ∧ ∀ ρ H, RV G ρ H w x
theorem me_kd {x : Str} {d : Addr} {tbl : S → Option VI} (ok : KdOk X G d tbl) (hg : Gl X x) (hm : X.mg x = some (.ref d)) (hb : PE X b (rdE G W mb)) (hs : PlainIx b) (hd : (x == ("__debug__" : Str)) = false := by decide) : PE X (.Subscript (.Name x p) b pos) (rdE G W (eKd tbl mb)) :=
  ⟨fun pins s σ H Q I ⟨ρ, σi, h, as, ag, fin⟩ => by
    have ha : PE X (.Name x p) (tC (.ref d)) := pe_glob hg hm rfl hd
    refine PyProof.Rows.Subscript_ (binT ha hb I (R := fun x y H2 => ∃ s' w z, x = .ref d ∧ y = .str (toStr s') ∧ KDct X.K X.w d (toStr s') w ∧ w = z ∧ Q z H2) ?_ fun v u s2 x y H2 I2 rx ry q => ?_)
    · exact rdG_go as ag fin fun ρ1 H1 h1 y y' st as ag r f => by
        cases r with
        | @str s1 z e =>
          dsimp only at f
          cases q : tbl s1 with
          | none => rw [q] at f; exact f.elim
          | some w =>
            rw [q] at f
            obtain ⟨wv, k1, k2⟩ := ok s1 w q
            exact ⟨s1, wv, wv, rfl, by rw [e], k1, rfl, f.ok ag (k2 _ _)⟩
        | _ => exact f.elim
    · obtain ⟨s', w, z, e1, e2, k, rfl, q⟩ := q
      subst e1
      subst e2
      exact ix_kdict (.Name x p) b pins s2 σ H2 _ _ v u Q I2 rx ry ⟨d, toStr s', w, rfl, rfl, k, q⟩ (hs _ _)⟩

/-! ### tuple(range(..)), list(range(..)) -/
def rgI (a b : Int) : List VI := (List.range (b - a).toNat).map fun i => VI.int (a + (i : Nat))
def rgOk (a b : Int) : Bool := (decide (-(2 ^ 62) ≤ a) && decide (a < 2 ^ 62)) && ((decide (-(2 ^ 62) ≤ b) && decide (b < 2 ^ 62)) && decide ((b - a).toNat ≤ 2 ^ 24))
theorem rgOk_ok {a b : Int} (h : rgOk a b = true) : RgOk a b := by
  unfold rgOk at h
  obtain ⟨h1, h2⟩ := Bool.and_eq_true_iff.mp h
  obtain ⟨h3, h4⟩ := Bool.and_eq_true_iff.mp h1
  obtain ⟨h5, h6⟩ := Bool.and_eq_true_iff.mp h2
  obtain ⟨h7, h8⟩ := Bool.and_eq_true_iff.mp h5
  exact ⟨of_decide_eq_true h3, of_decide_eq_true h4, of_decide_eq_true h7, of_decide_eq_true h8, of_decide_eq_true h6⟩
theorem rvs_map {ρ : List Addr} {H : Hp} (f : Nat → VI) (g : Nat → V) (hfg : ∀ i, RV G ρ H (f i) (g i)) : ∀ l : List Nat, RVs G ρ H (l.map f) (l.map g)
  | [] => .nil
  | i :: r => .cons (hfg i) (rvs_map f g hfg r)
theorem rgI_ok {ρ : List Addr} {H : Hp} (a b : Int) : RVs G ρ H (rgI a b) (rgV a b) := rvs_map _ _ (fun i => .int _) _
def eTupRg (a b : ME) : ME := fun σ h => (a σ h).bind fun x h1 => (b σ h1).bind fun y h2 => match x, y with
  | .int i, .int j => match rgOk i j with
    | true => .ok (.tup (rgI i j)) h2
    | false => .err
  | _, _ => .err
def eLstRg (a b : ME) : ME := fun σ h => (a σ h).bind fun x h1 => (b σ h1).bind fun y h2 => match x, y with
  | .int i, .int j => match rgOk i j with
    | true => .ok (.ref h2.length) (h2 ++ [.lst (rgI i j)])
    | false => .err
  | _, _ => .err
def eTupRg1 (b : ME) : ME := fun σ h => (b σ h).bind fun y h2 => match y with
  | .int j => match rgOk 0 j with
    | true => .ok (.tup (rgI 0 j)) h2
    | false => .err
  | _ => .err
def eLstRg1 (b : ME) : ME := fun σ h => (b σ h).bind fun y h2 => match y with
  | .int j => match rgOk 0 j with
    | true => .ok (.ref h2.length) (h2 ++ [.lst (rgI 0 j)])
    | false => .err
  | _ => .err
theorem me_tupRg2 {rp : Pos} (hc : X.calm = true) (hg : Gl X "tuple") (hm : X.mg "tuple" = none) (hg2 : Gl X "range") (hm2 : X.mg "range" = none) (ha : PE X a (rdE G W ma)) (hb : PE X b (rdE G W mb))
    (na : starEach [a, b] X.env = (false, eval a X.env) :: starEach [b] X.env := by rfl) (nb : starEach [b] X.env = (false, eval b X.env) :: starEach [] X.env := by rfl) (hp : (backTo pos' (starEach [b] X.env)).any (·.1) = false := by rfl)
    (nr : starEach [.Call (.Name "range" rp) [a, b] [] pos'] X.env = (false, eval (.Call (.Name "range" rp) [a, b] [] pos') X.env) :: starEach [] X.env := by rfl) :
    PE X (.Call (.Name "tuple" p) [.Call (.Name "range" rp) [a, b] [] pos'] [] pos) (rdE G W (eTupRg ma mb)) :=
  PE.imp' (pe_tupRg hc hg hm (prg_2 hg2 hm2 ha hb na nb hp) nr) fun σ H Q ⟨ρ, σi, h, as, ag, fin⟩ => rdG_go as ag fin fun ρ1 H1 h1 x x' st as ag r f => rdG_go as ag f fun ρ2 H2 h2 y y' st2 as ag r2 f => by
    cases r with
    | int i =>
      cases r2 with
      | int j =>
        dsimp only at f
        cases q : rgOk i j with
        | false => rw [q] at f; exact f.elim
        | true =>
          rw [q] at f
          exact ⟨i, j, rfl, rfl, rgOk_ok q, fun p hp => f ρ2 _ _ (Stp.more hp) (ag.more hp) (.tup (.inl (.inl upd_same)) (rgI_ok i j))⟩
      | _ => exact f.elim
    | _ => exact f.elim
theorem me_lstRg2 {rp : Pos} (hc : X.calm = true) (hg : Gl X "list") (hm : X.mg "list" = none) (hg2 : Gl X "range") (hm2 : X.mg "range" = none) (ha : PE X a (rdE G W ma)) (hb : PE X b (rdE G W mb))
    (na : starEach [a, b] X.env = (false, eval a X.env) :: starEach [b] X.env := by rfl) (nb : starEach [b] X.env = (false, eval b X.env) :: starEach [] X.env := by rfl) (hp : (backTo pos' (starEach [b] X.env)).any (·.1) = false := by rfl)
    (nr : starEach [.Call (.Name "range" rp) [a, b] [] pos'] X.env = (false, eval (.Call (.Name "range" rp) [a, b] [] pos') X.env) :: starEach [] X.env := by rfl) :
    PE X (.Call (.Name "list" p) [.Call (.Name "range" rp) [a, b] [] pos'] [] pos) (rdE G W (eLstRg ma mb)) :=
  PE.imp' (pe_listRg hc hg hm (prg_2 hg2 hm2 ha hb na nb hp) nr) fun σ H Q ⟨ρ, σi, h, as, ag, fin⟩ => rdG_go as ag fin fun ρ1 H1 h1 x x' st as ag r f => rdG_go as ag f fun ρ2 H2 h2 y y' st2 as ag r2 f => by
    cases r with
    | int i =>
      cases r2 with
      | int j =>
        dsimp only at f
        cases q : rgOk i j with
        | false => rw [q] at f; exact f.elim
        | true =>
          rw [q] at f
          exact ⟨i, j, rfl, rfl, rgOk_ok q, fun p hp => f (ρ2 ++ [p]) _ _ (Stp.new hp) (ag.new hp ⟨_, upd_same, rgI_ok i j⟩) (.ref (by rw [← ag.len]; simp))⟩
      | _ => exact f.elim
    | _ => exact f.elim
theorem me_tupRg1 {rp : Pos} (hc : X.calm = true) (hg : Gl X "tuple") (hm : X.mg "tuple" = none) (hg2 : Gl X "range") (hm2 : X.mg "range" = none) (ha : PE X a (rdE G W ma))
    (na : starEach [a] X.env = (false, eval a X.env) :: starEach [] X.env := by rfl)
    (nr : starEach [.Call (.Name "range" rp) [a] [] pos'] X.env = (false, eval (.Call (.Name "range" rp) [a] [] pos') X.env) :: starEach [] X.env := by rfl) :
    PE X (.Call (.Name "tuple" p) [.Call (.Name "range" rp) [a] [] pos'] [] pos) (rdE G W (eTupRg1 ma)) :=
  PE.imp' (pe_tupRg hc hg hm (prg_1 hg2 hm2 ha na) nr) fun σ H Q ⟨ρ, σi, h, as, ag, fin⟩ => by
    refine rdG_go as ag fin fun ρ2 H2 h2 y y' st2 as ag r2 f => ?_
    cases r2 with
    | int j =>
      dsimp only at f
      cases q : rgOk 0 j with
      | false => rw [q] at f; exact f.elim
      | true =>
        rw [q] at f
        exact ⟨j, rfl, rgOk_ok q, fun p hp => f ρ2 _ _ (Stp.more hp) (ag.more hp) (.tup (.inl (.inl upd_same)) (rgI_ok 0 j))⟩
    | _ => exact f.elim
theorem me_lstRg1 {rp : Pos} (hc : X.calm = true) (hg : Gl X "list") (hm : X.mg "list" = none) (hg2 : Gl X "range") (hm2 : X.mg "range" = none) (ha : PE X a (rdE G W ma))
    (na : starEach [a] X.env = (false, eval a X.env) :: starEach [] X.env := by rfl)
    (nr : starEach [.Call (.Name "range" rp) [a] [] pos'] X.env = (false, eval (.Call (.Name "range" rp) [a] [] pos') X.env) :: starEach [] X.env := by rfl) :
    PE X (.Call (.Name "list" p) [.Call (.Name "range" rp) [a] [] pos'] [] pos) (rdE G W (eLstRg1 ma)) :=
  PE.imp' (pe_listRg hc hg hm (prg_1 hg2 hm2 ha na) nr) fun σ H Q ⟨ρ, σi, h, as, ag, fin⟩ => by
    refine rdG_go as ag fin fun ρ2 H2 h2 y y' st2 as ag r2 f => ?_
    cases r2 with
    | int j =>
      dsimp only at f
      cases q : rgOk 0 j with
      | false => rw [q] at f; exact f.elim
      | true =>
        rw [q] at f
        exact ⟨j, rfl, rgOk_ok q, fun p hp => f (ρ2 ++ [p]) _ _ (Stp.new hp) (ag.new hp ⟨_, upd_same, rgI_ok 0 j⟩) (.ref (by rw [← ag.len]; simp))⟩
    | _ => exact f.elim

/-! ### a < b < c -/
def eChain (f g : Op2) (a b c : ME) : ME := fun σ h => (a σ h).bind fun x h1 => (b σ h1).bind fun y h2 => (ofO (f x y h2)).bind fun z h3 => match z with
  | .bl true => (c σ h3).bind fun w h4 => ofO (g y w h4)
  | .bl false => .ok (.bl false) h3
  | _ => .err
theorem me_chain {f g : Op2} {op op' : CmpOp} {mc : ME} (ho : OpR X (compareOp op) (rd2 G f)) (ho' : OpR X (compareOp op') (rd2 G g)) (ha : PE X a (rdE G W ma)) (hb : PE X b (rdE G W mb)) (hc : PE X c (rdE G W mc))
    (hm : lastMarks [op, op'] [b, c] = false := by with_unfolding_all rfl) : PE X (.Compare a [op, op'] [b, c] pos) (rdE G W (eChain f g ma mb mc)) :=
  PE.imp' (pe_chain ho ho' ha hb hc hm) fun σ H Q ⟨ρ, σi, h, as, ag, fin⟩ => rdG_go as ag fin fun ρ1 H1 h1 x x' st as ag r f1 => rdG_go as ag f1 fun ρ2 H2 h2 y y' st2 as ag r2 f2 => by
    refine ⟨ρ2, h2, x, y, ag, r.mono st2, r2, ?_⟩
    cases q : f x y h2 with
    | none => rw [q] at f2; exact f2.elim
    | some zh =>
      obtain ⟨z, h3⟩ := zh
      rw [q] at f2
      intro ρ3 H3 z' st3 ag3 rz
      have f3 := FinG.later st3 f2
      dsimp only [ofO, Res.bind] at f3
      cases rz with
      | bl k =>
        refine ⟨k, rfl, ?_⟩
        cases k with
        | true =>
          rw [if_pos rfl]
          exact rdG_go (as.mono st3) ag3 f3 fun ρ4 H4 h4 w w' st4 as ag r4 f4 => ⟨ρ4, h4, y, w, ag, r2.mono (st3.trans st4), r4, FinO.of f4⟩
        | false =>
          rw [if_neg Bool.false_ne_true]
          exact f3.ok ag3 (.bl _)
      | _ => exact f3.elim
end

/-! ### while -/
def whl (t : MT) (body : MS) : Nat → MS
  | 0 => fun _ _ => .err
  | n + 1 => fun σ h => (t σ h).bindS σ fun b h1 => match b with
    | true => match body σ h1 with
      | .nx σ2 h2 => whl t body n σ2 h2
      | .ct σ2 h2 => whl t body n σ2 h2
      | .bk σ2 h2 => .nx σ2 h2
      | r => r
    | false => .nx σ h1
def sWhile (fu : Sg → Hi → Nat) (t : MT) (body : MS) : MS := fun σ h => whl t body (fu σ h) σ h
section
variable {G : Gx} {W : WX} {X : Cx} {c : Expr} {body : List Stmt} {pos : Pos} {mt : MT} {mb : MS}
theorem ms_while (fu : Sg → Hi → Nat) (hp : PassesOwn (model X.prog X.w) X.A X.env X.xe) (hc : PT X c (rdT G W mt)) (hb : PSs X body (rdS G W mb)) : PS X (.While c body [] pos) (rdS G W (sWhile fu mt mb)) :=
  PS.imp' (ps_while hp hc hb) fun D σ H ⟨ρ, σi, h, as, ag, fin⟩ => by
    refine ⟨fun m σ H => ∃ ρ σi h, AgS G ρ H σi σ ∧ Ag G ρ h H ∧ FinS G ρ H D W (whl mt mb m σi h), ⟨_, ρ, σi, h, as, ag, fin⟩, ?_⟩
    rintro m σ H ⟨ρ, σi, h, as, ag, f⟩
    cases m with
    | zero => exact f.elim
    | succ n =>
      have f' : FinS G ρ H D W ((mt σi h).bindS σi fun b h1 => match b with
        | true => match mb σi h1 with
          | .nx σ2 h2 => whl mt mb n σ2 h2
          | .ct σ2 h2 => whl mt mb n σ2 h2
          | .bk σ2 h2 => .nx σ2 h2
          | r => r
        | false => .nx σi h1) := f
      refine rdS_go as ag f' fun ρ1 H1 h1 b b' st as ag r f => ?_
      subst r
      cases b with
      | false => rw [if_neg Bool.false_ne_true]; exact f.nx ag as
      | true =>
        rw [if_pos rfl]
        refine ⟨fun σ H => ∃ ρ σi h, AgS G ρ H σi σ ∧ Ag G ρ h H ∧ FinS G ρ H D W (whl mt mb n σi h), fun σ' H' w => ⟨n, Nat.lt_succ_self n, w⟩, ρ1, σi, h1, as, ag, ?_⟩
        dsimp only at f
        cases e5 : mb σi h1 with
        | nx σ6 h6 => rw [e5] at f; exact fun ρ' H' σ' s a as => ⟨ρ', σ6, h6, as, a, FinS.later s f⟩
        | ct σ6 h6 => rw [e5] at f; exact fun ρ' H' σ' s a as => ⟨ρ', σ6, h6, as, a, FinS.later s f⟩
        | bk σ6 h6 => rw [e5] at f; exact f
        | rt v6 h6 => rw [e5] at f; exact f
        | ex c6 n6 σ6 h6 => rw [e5] at f; exact f
        | err => rw [e5] at f; exact f
end

/-! ### x op= e -/
/-- ints and texts alone (a list would be changed in place) -/
def iAdd : Op2 := fun x y h => match x, y with
  | .int i, .int j => some (.int (i + j), h)
  | _, _ => none
def iSub : Op2 := fun x y h => match x, y with
  | .int i, .int j => some (.int (i - j), h)
  | _, _ => none
def sAug (i : Nat) (f : Op2) (e : ME) : MS := fun σ h => match σ[i]? with
  | some (some x) => (e σ h).bindS σ fun y h1 => match f x y h1 with
    | some (z, h2) => .nx (σ.set i (some z)) h2
    | none => .err
  | _ => .err
section
variable {G : Gx} {ρ : List Addr} {h : Hi} {H : Hp} {W : WX} {X : Cx} {e a b o : Expr} {pos pos' : Pos} {me ma mb : ME} {i : Nat} {x : Str} {f : Op2}
theorem ip_M {op : Operator} {p : Int → Int → Int} (ho : PIp X op (ipI p)) (hf : ∀ x y h z h', f x y h = some (z, h') → ∃ i j, x = .int i ∧ y = .int j ∧ z = .int (p i j) ∧ h' = h) : PIp X op (rd2 G f) := by
  intro pins s σ H x y v u Q I r1 r2 ⟨ρ, h, xi, yi, ag, a1, a2, fi⟩
  cases q : f xi yi h with
  | none => rw [q] at fi; exact fi.elim
  | some zh =>
    obtain ⟨z, h'⟩ := zh
    rw [q] at fi
    obtain ⟨i, j, e1, e2, e3, e4⟩ := hf _ _ _ _ _ q
    subst e1 e2 e3 e4
    cases a1
    cases a2
    exact ho pins s σ H _ _ v u Q I r1 r2 ⟨i, j, rfl, rfl, fi.ok ag (.int _)⟩
theorem mp_add : PIp X .Add (rd2 G iAdd) := ip_M ip_add fun x y h z h' e => by
  unfold iAdd at e
  split at e
  · cases e; exact ⟨_, _, rfl, rfl, rfl, rfl⟩
  · cases e
theorem mp_sub : PIp X .Sub (rd2 G iSub) := ip_M ip_sub fun x y h z h' e => by
  unfold iSub at e
  split at e
  · cases e; exact ⟨_, _, rfl, rfl, rfl, rfl⟩
  · cases e
theorem ms_aug {op : Operator} (hN : X.N.Nodup) (hi : X.N[i]? = some x) (hx : Loc X.env.scope x) (he : PE X e (rdE G W me)) (ho : PIp X op (rd2 G f)) (hf : X.fn x = true ∨ X.env.scope.names.lookup x = some .local := by first | exact .inl rfl | exact .inr rfl | assumption) :
    PS X (.AugAssign (.Name x pos') op e pos) (rdS G W (sAug i f me)) :=
  PS.imp' (ps_aug hN hi hx he ho hf) fun D σ H ⟨ρ, σi, h, as, ag, fin⟩ => by
    unfold sAug at fin
    cases q : σi[i]? with
    | none => rw [q] at fin; exact fin.elim
    | some o =>
      rw [q] at fin
      cases o with
      | none => exact fin.elim
      | some xi =>
        obtain ⟨xv, hx, rx⟩ := as.at_ i xi q
        refine ⟨xv, hx, rdS_go as ag fin fun ρ1 H1 h1 y y' st as ag r f1 => ⟨ρ1, h1, xi, y, ag, rx.mono st, r, ?_⟩⟩
        cases q2 : f xi y h1 with
        | none => rw [q2] at f1; exact f1.elim
        | some zh =>
          obtain ⟨z, h2⟩ := zh
          rw [q2] at f1
          exact fun ρ' H' z' s a rz => f1 ρ' H' _ s a ((as.mono s).set rz i)
end
end ML
end

section
set_option Elab.async false
set_option linter.all false
set_option maxRecDepth 100000
set_option maxHeartbeats 4000000
/-! {**e, k: v} and C(**e). -/
namespace ML
open PySem L2 PyProof.Rows

def tMrg (td tk tv : TE) : TE := fun σ H Q => ∀ d, H d = none → td σ (upd H d (.dK [])) fun x H1 => ∃ a kvs, x = .ref a ∧ a ≠ d ∧ H1 d = some (.dK []) ∧ Rd H1 a (.dK kvs) ∧ kvs.length + 1 ≤ sizeLine ∧
  ∀ c, (upd H1 d (.dK (mergeK [] kvs))) c = none → tk σ (upd (upd H1 d (.dK (mergeK [] kvs))) c (.dK [])) fun y H2 => tv σ H2 fun z H3 => ∃ k kvs2, y = kV k ∧ c ≠ d ∧ H3 d = some (.dK kvs2) ∧ H3 c = some (.dK []) ∧ kvs2.length + 1 ≤ sizeLine ∧
    Q (.ref d) (upd (upd H3 c (.dK [(k, z)])) d (.dK (putK kvs2 k z)))
theorem key_nr {P : Program} {w : World} : ∀ k key, (mixKind P w).is k key = true → ∀ a, key ≠ .ref a := fun k key h a e => by
  rcases keyIs_shape h with ⟨i, t, _, e2⟩ | ⟨x, t, _, e2⟩
  · rw [e2] at e; cases e
  · rw [e2] at e; cases e
section
variable {X : Cx} {e k v : Expr} {pos : Pos} {td tk tv : TE}
theorem disp_shape (env : Env) : (evalEachOpt [none, some k] env).zip ((evalEach [e, v] env).map fun v => do let x ← v; standAt pos; pure x) =
    [(none, do let x ← eval e env; standAt pos; pure x), (some (eval k env), do let x ← eval v env; standAt pos; pure x)] := by
  first | rfl | with_unfolding_all rfl
theorem pe_mrg (hd : PE X e td) (hk : PE X k tk) (hv : PE X v tv) : PE X (.Dict [none, some k] [e, v] pos) (tMrg td tk tv) := by
  refine ⟨fun pins s σ H Q I h => ?_⟩
  rw [arm_eval_Dict, disp_shape]
  refine wpAny_bind (wpAny_standAt ?_)
  unfold dictDisplay
  simp only [List.forIn_cons, List.forIn_nil]
  refine wpAny_bind (wpAny_bind (wpAny_bind ?_))
  rw [if_pos (show (([] : List (Sem Value × Sem Value)).isEmpty = true) from rfl)]
  refine wpAny_pure ?_
  dsimp only
  refine wpAny_bind (wpAny_alloc (wpAny_bind (wpAny_holding (wpAny_bind ?_))))
  have hn := I.hok.fresh (Nat.le_refl s.heap.objs.size)
  have I1 := I.laid (a := s.heap.objs.size) (o := .dK []) (h' := s.heap.push { cls := .type "dict", data := .dict #[] }) (t' := s.toks) (fun _ _ q => Heap.get?_push_of_some _ q) (Nat.le_refl _) (dk_empty s.heap I.big)
  generalize s.heap.objs.size = d at hn I1 ⊢
  refine thn (hd.run pins _ σ _ _ I1 (h d hn)) fun m s1 ⟨x, H1, I2, rx, a, kvs, ex, ne, e1, e2, l1, q1⟩ => ?_
  subst ex
  obtain rfl : m = Value.ref a := rx
  refine wpAny_bind (wpAny_standAt (wpAny_pure ?_))
  obtain ⟨z1, low1, vs1, r1, dd1⟩ := dk_of I2.hok e1
  cases r1
  obtain ⟨z2, low2, vs2, r2, dd2⟩ := dk_rd I2.hok e2
  have len2 : vs2.length = kvs.length := (Paired.length r2).symm
  refine wpAny_bind (wpAny_onRaise (wpAny_tryCatch (wpAny_onRaise (wpAny_holding (MB.merge_two (Ne.symm ne) low2 key_nr dd1 dd2 (by rw [List.length_nil, len2]; omega) (fun z => nomatch z) fun h' D' sb => ?_)))))
  have he : ∃ q, h'.get? d = some q := let ⟨q, _, _, hq, _⟩ := D'; ⟨q, hq⟩
  have hz : (mergeK [] kvs).length ≤ sizeLine := by
    have := length_mergeK kvs []
    rw [List.length_nil] at this
    omega
  have I3 : Inv X pins σ (upd H1 d (.dK (mergeK [] kvs))) { s1 with heap := h' } := d_write I2 (by rw [e1]; exact True.intro) sb he (dk_new hz low1 (r2.merge .nil) D')
  refine wpAny_pure ?_
  dsimp only
  refine wpAny_bind ?_
  rw [if_neg (by simp)]
  refine wpAny_pure (wpAny_pure ?_)
  dsimp only
  refine wpAny_bind ?_
  rw [if_neg (by simp)]
  have hc := I3.hok.fresh (Nat.le_refl h'.objs.size)
  have I4 := I3.laid (a := h'.objs.size) (o := .dK []) (h' := h'.push { cls := .type "dict", data := .dict #[] }) (t' := s1.toks) (fun _ _ q => Heap.get?_push_of_some _ q) (Nat.le_refl _) (dk_empty h' I3.big)
  refine wpAny_bind (wpAny_holding (wpAny_subDict (knd := mixKind X.prog X.w) (by simp) ?_))
  dsimp only [List.nil_append]
  generalize h'.objs.size = c at hc I4 ⊢
  refine evalPairs_cons (thn (hk.run pins _ σ _ _ I4 (q1 c hc)) fun ku s2 ⟨y, H2, I5, ry, q2⟩ => ?_)
  refine wpAny_bind (thn (hv.run pins _ σ _ _ I5 q2) fun vu s3 ⟨z, H3, I6, rz, k0, kvs2, ey, cd, e4, e5, l2, q3⟩ => wpAny_bind (wpAny_standAt (wpAny_pure (evalPairs_nil ?_))))
  subst ey
  obtain ⟨z3, low3, vs3, r3, dd3⟩ := dk_of I6.hok e5
  cases r3
  refine ⟨[(k0, vu)], ⟨kV_is ry, rfl, True.intro⟩, dd3, fun h5 D5 sb5 => ?_⟩
  have I7 : Inv X pins σ (upd H3 c (.dK [(k0, z)])) { s3 with heap := h5, toks := s3.toks + 1 } :=
    d_write I6 (by rw [e5]; exact True.intro) sb5 (let ⟨q, _, _, hq, _⟩ := D5; ⟨q, hq⟩) (dk_new (show 1 ≤ sizeLine by decide) low3 (.cons ⟨rfl, rz⟩ .nil) D5)
  have e6 : (upd H3 c (.dK [(k0, z)])) d = some (.dK kvs2) := by rw [upd_ne (Ne.symm cd)]; exact e4
  obtain ⟨z4, low4, vs4, r4, dd4⟩ := dk_of I7.hok e6
  obtain ⟨z5, low5, vs5, r5, dd5⟩ := dk_of I7.hok (show (upd H3 c (.dK [(k0, z)])) c = some (.dK [(k0, z)]) from upd_same)
  have len4 : vs4.length = kvs2.length := (Paired.length r4).symm
  refine wpAny_bind (wpAny_onRaise (wpAny_holding (MB.merge_two (Ne.symm cd) low3 key_nr dd4 dd5 (by rw [len4, ← Paired.length r5]; exact l2) (fun z => nomatch z) fun h6 D6 sb6 => ?_)))
  have hz6 : (putK kvs2 k0 z).length ≤ sizeLine := by have := length_putK kvs2 k0 z; omega
  have I8 : Inv X pins σ (upd (upd H3 c (.dK [(k0, z)])) d (.dK (putK kvs2 k0 z))) { s3 with heap := h6, toks := s3.toks + 1 } :=
    d_write (s := { s3 with heap := h5, toks := s3.toks + 1 }) I7 (by rw [e6]; exact True.intro) sb6 (let ⟨q, _, _, hq, _⟩ := D6; ⟨q, hq⟩) (dk_new hz6 low4 (r5.merge r4) D6)
  exact wpAny_pure (wpAny_pure ⟨.ref d, _, I8, rfl, q3⟩)
end
/-- {**e, k: v} -/
def mrgTail (n c : Nat) (k v : ME) : ME := fun σ h2 => (k σ h2).bind fun y h3 => (v σ h3).bind fun z h4 => match isKey y, h4[n]?, h4[c]? with
  | true, some (.dic kvs2), some (.dic []) => match small (kvs2.length + 1) with
    | true => .ok (.ref n) ((h4.set c (.dic [(y, z)])).set n (.dic (putD y z kvs2)))
    | false => .err
  | _, _, _ => .err
def eMrg (e k v : ME) : ME := fun σ h => (e σ (h ++ [.dic []])).bind fun x h1 => match x with
  | .ref m => match Nat.beq m h.length, h1[h.length]?, h1[m]? with
    | false, some (.dic []), some (.dic kvs) => match small (kvs.length + 1) with
      | true => mrgTail h.length h1.length k v σ (h1.set h.length (.dic (putAll kvs [])) ++ [.dic []])
      | false => .err
    | _, _, _ => .err
  | _ => .err
section
variable {G : Gx} {ρ : List Addr} {h : Hi} {H : Hp} {W : WX} {X : Cx} {e k v : Expr} {pos : Pos} {me mk mv : ME}
theorem Ag.ne (ag : Ag G ρ h H) {m n : Nat} {a b : Addr} (hm : ρ[m]? = some a) (hn : ρ[n]? = some b) (q : m ≠ n) : a ≠ b := fun z => by
  subst z
  obtain ⟨h1, e1⟩ := List.getElem?_eq_some_iff.mp hm
  obtain ⟨h2, e2⟩ := List.getElem?_eq_some_iff.mp hn
  have pw := List.pairwise_iff_getElem.mp ag.nd
  rcases Nat.lt_trichotomy m n with l | l | l
  · exact pw m n h1 h2 l (e1.trans e2.symm)
  · exact q l
  · exact pw n m h2 h1 l (e2.trans e1.symm)
theorem me_mrg (he : PE X e (rdE G W me)) (hk : PE X k (rdE G W mk)) (hv : PE X v (rdE G W mv)) : PE X (.Dict [none, some k] [e, v] pos) (rdE G W (eMrg me mk mv)) :=
  PE.imp' (pe_mrg he hk hv) fun σ H Q ⟨ρ, σi, h, as, ag, fin⟩ d hd => by
    have st0 : Stp G ρ H (ρ ++ [d]) (upd H d (.dK [])) := Stp.new hd
    have ag0 : Ag G (ρ ++ [d]) (h ++ [.dic []]) (upd H d (.dK [])) := ag.new hd ⟨[], upd_same, .nil⟩
    have hx : (ρ ++ [d])[h.length]? = some d := by rw [← ag.len]; simp
    refine rdG_go (as.mono st0) ag0 (FinG.later st0 fin) fun ρ1 H1 h1 x x' st1 as1 ag1 r f1 => ?_
    cases r with
    | @ref m a q =>
      dsimp only at f1
      cases q1 : Nat.beq m h.length with
      | true => rw [q1] at f1; exact f1.elim
      | false =>
        cases q2 : h1[h.length]? with
        | none => rw [q1, q2] at f1; exact f1.elim
        | some ob =>
          cases q3 : h1[m]? with
          | none => rw [q1, q2, q3] at f1; cases ob with
            | dic l => cases l <;> exact f1.elim
            | _ => exact f1.elim
          | some ob3 =>
            rw [q1, q2, q3] at f1
            cases ob with
            | dic l =>
              cases l with
              | cons _ _ => exact f1.elim
              | nil =>
                cases ob3 with
                | dic kvs =>
                  dsimp only at f1
                  cases q4 : small (kvs.length + 1) with
                  | false => rw [q4] at f1; exact f1.elim
                  | true =>
                    rw [q4] at f1
                    have hd1 := st1.pre _ _ hx
                    obtain ⟨ks0, e0, r0⟩ := ag1.at_ q2 hd1
                    cases r0
                    obtain ⟨ks, e1, r1⟩ := ag1.at_ q3 q
                    have hne : m ≠ h.length := fun z => by rw [z, Nat.beq_refl] at q1; cases q1
                    refine ⟨a, ks, rfl, ag1.ne q hd1 hne, e0, .inl e1, by rw [← r1.length]; exact small_ok q4, fun c hc => ?_⟩
                    have stA : Stp G ρ1 H1 ρ1 (upd H1 d (.dK (mergeK [] ks))) := Stp.wr ag1 q2 hd1
                    have agA : Ag G ρ1 (h1.set h.length (.dic (putAll kvs []))) (upd H1 d (.dK (mergeK [] ks))) := ag1.wr q2 hd1 ⟨_, upd_same, RKs.putAll (r1.mono stA) .nil⟩
                    have stB := Stp.new (G := G) (ρ := ρ1) (o := .dK []) hc
                    have agB := agA.new (u := .dic []) hc ⟨[], upd_same, .nil⟩
                    have hcB : (ρ1 ++ [c])[h1.length]? = some c := by
                      have l := agA.len
                      rw [List.length_set] at l
                      rw [← l]
                      simp
                    have f2 := FinG.later (stA.trans stB) f1
                    unfold mrgTail at f2
                    refine rdG_go ((as1.mono stA).mono stB) agB f2 fun ρ2 H2 h3 y y' st2 as2 ag2 r2 f3 => rdG_go as2 ag2 f3 fun ρ3 H3 h4 z z' st3 as3 ag3 r3 f4 => ?_
                    cases q5 : isKey y with
                    | false => rw [q5] at f4; exact f4.elim
                    | true =>
                      rw [q5] at f4
                      have st23 := st2.trans st3
                      have hd3 := st23.pre _ _ (stB.pre _ _ hd1)
                      have hc3 := st23.pre _ _ hcB
                      cases q6 : h4[h.length]? with
                      | none => rw [q6] at f4; exact f4.elim
                      | some ob6 =>
                        cases q7 : h4[h1.length]? with
                        | none => rw [q6, q7] at f4; cases ob6 <;> exact f4.elim
                        | some ob7 =>
                          rw [q6, q7] at f4
                          cases ob6 with
                          | dic kvs2 =>
                            cases ob7 with
                            | dic l7 =>
                              cases l7 with
                              | cons _ _ => exact f4.elim
                              | nil =>
                                dsimp only at f4
                                cases q8 : small (kvs2.length + 1) with
                                | false => rw [q8] at f4; exact f4.elim
                                | true =>
                                  rw [q8] at f4
                                  obtain ⟨k2, rk, ey⟩ := (r2.mono st3).key q5
                                  obtain ⟨ks2, e6, r6⟩ := ag3.at_ q6 hd3
                                  obtain ⟨ks7, e7, r7⟩ := ag3.at_ q7 hc3
                                  cases r7
                                  have cne : c ≠ d := by
                                    refine ag3.ne hc3 hd3 fun z => ?_
                                    have := (List.getElem?_eq_some_iff.mp q2).1
                                    omega
                                  refine ⟨k2, ks2, ey, cne, e6, e7, by rw [← r6.length]; exact small_ok q8, ?_⟩
                                  have stC : Stp G ρ3 H3 ρ3 (upd H3 c (.dK [(k2, z')])) := Stp.wr ag3 q7 hc3
                                  have agC : Ag G ρ3 (h4.set h1.length (.dic [(y, z)])) (upd H3 c (.dK [(k2, z')])) := ag3.wr q7 hc3 ⟨_, upd_same, .cons rk (r3.mono stC) .nil⟩
                                  have q9 : (h4.set h1.length (.dic [(y, z)]))[h.length]? = some (.dic kvs2) := by
                                    rw [List.getElem?_set_ne]
                                    · exact q6
                                    · have := (List.getElem?_eq_some_iff.mp q2).1
                                      omega
                                  have stD : Stp G ρ3 (upd H3 c (.dK [(k2, z')])) ρ3 (upd (upd H3 c (.dK [(k2, z')])) d (.dK (putK ks2 k2 z'))) := Stp.wr agC q9 hd3
                                  have agD := agC.wr (u' := .dic (putD y z kvs2)) (o := .dK (putK ks2 k2 z')) q9 hd3 ⟨_, upd_same, RKs.putD rk ((r3.mono stC).mono stD) ((r6.mono stC).mono stD)⟩
                                  exact f4 ρ3 _ _ (stC.trans stD) agD (.ref hd3)
                            | _ => exact f4.elim
                          | _ => exact f4.elim
                | _ => exact f1.elim
            | _ => exact f1.elim
    | _ => exact f1.elim
end
end ML
end

section
set_option Elab.async false
set_option linter.all false
set_option maxRecDepth 100000
set_option maxHeartbeats 4000000
/-! The M layer, part 15: calls at other places, calls with keywords and defaults. -/
namespace ML
open PySem L2 PyProof.Rows

/-- a def of the text: it does what g does, and there is room for it here -/
structure FnP (X : Cx) (G : Gx) (k : Nat) (f : Addr) (fd : FuncData) (ps : List Str) (g : MF) : Prop where
  ok : FnOk X.prog X.w X.K X.mg X.base (L2.CX X.prog X.w) k f fd ps (spM G ps.length g)
  ar : Arity ps.length g
  room : Room (k + 2) X.A
/-- a value that, called around A, does what g does -/
def CallAt (X : Cx) (A : Around) (G : Gx) (W : WX) (fv : Value) (g : MF) : Prop :=
  ∀ (pins : List (Addr × Obj)) (s : Shared) (σ : L2.St) (H : Hp) (us : List Value) (vs : List V) (args : List VI) (ρ : List Addr) (h : Hi) (Q : VK), Inv X pins σ H s → Vals vs us → RVs G ρ H args vs → Ag G ρ h H →
    FinG G ρ H (RV G) Q (fun c d H' => W c d σ H') (g args h) → wpAny (model X.prog X.w) A (call fv us) (EP X pins σ Q) X.xe s
section
variable {G : Gx} {W : WX} {X : Cx} {A : Around} {ρ : List Addr} {h : Hi} {H : Hp} {σ : L2.St} {k np : Nat} {f C : Addr} {fd : FuncData} {ps : List Str} {g : MF}
theorem env0_at (e : Env0 X.prog X.w X.K X.mg X.base X.A X.stack s H) (fr : A.frames = X.A.frames) : Env0 X.prog X.w X.K X.mg X.base A X.stack s H := ⟨by rw [fr]; exact e.frames, e.mod, e.bs, e.bsz, e.funs, e.frf, e.hok, e.bare⟩
theorem callAt_of (F : FnOk X.prog X.w X.K X.mg X.base (L2.CX X.prog X.w) k f fd ps (spM G ps.length g)) (ar : Arity ps.length g) (hr : Room k A) (fr : A.frames = X.A.frames) (hb : Binds X.K fd ps []) (tk : Takes X W) : CallAt X A G W (.ref f) g := by
  intro pins s σ H us vs args ρ h Q I r ra ag fin
  by_cases hl : args.length = ps.length
  · have hsp : spM G ps.length g vs H Q (WE W σ) := ⟨ρ, h, args, hl, ag, ra, fin⟩
    have lu : us.length = ps.length := by rw [← r.length, ← ra.length]; exact hl
    have b := hb s us I.kIn (by rw [List.append_nil]; exact lu)
    rw [List.append_nil] at b
    refine wpAny_call (codeAny_mono (F.run _ _ s H ⟨us, []⟩ us vs Q (WE W σ) hr (env0_at I.env0 fr) b r hsp) fun res s' hq => ?_)
    match res, hq with
    | .error e, hq => exact passAt tk σ pins H s e s' I hq
    | .ok (.ret u), hq => exact I.after hq
  · rw [ar args h hl] at fin
    exact fin.elim
theorem FnP.call (F : FnP X G k f fd ps g) (hb : Binds X.K fd ps []) (tk : Takes X W) : CallM X G W (.ref f) g := callM_fn F.ok F.ar (F.room.mono (by omega)) hb tk
theorem FnP.at0 (F : FnP X G k f fd ps g) (hb : Binds X.K fd ps []) (tk : Takes X W) : CallAt X X.A G W (.ref f) g := callAt_of F.ok F.ar (F.room.mono (by omega)) rfl hb tk
theorem FnP.at1 (F : FnP X G k f fd ps g) (hb : Binds X.K fd ps []) (tk : Takes X W) : CallAt X X.A.in1 G W (.ref f) g := callAt_of F.ok F.ar ((F.room.mono (show k + 1 ≤ k + 2 by omega)).in1) rfl hb tk
end

/-! ### keywords -/
/-- how n values and keywords named ks are put in the parameters' order -/
structure Bnd (G : Gx) (K : PySem.W.Frag) (fd : FuncData) (ps : List Str) (n : Nat) (ks : List Str) (arr : List VI → List VI → List VI) : Prop where
  ex : ∃ (gu : List Value → List Value → List Value) (gV : List V → List V → List V), KBn K fd ps n ks gu gV ∧
    ∀ (ρ : List Addr) (H : Hp) (args zargs : List VI) (vs zs : List V), RVs G ρ H args vs → RVs G ρ H zargs zs → args.length = n → zargs.length = ks.length → RVs G ρ H (arr args zargs) (gV vs zs)
abbrev MK := List VI → List VI → Hi → Res VI
def CallK (X : Cx) (G : Gx) (W : WX) (fv : Value) (n : Nat) (ks : List Str) (g : MK) : Prop :=
  ∀ (pins : List (Addr × Obj)) (s : Shared) (σ : L2.St) (H : Hp) (us ws : List Value) (vs zs : List V) (args zargs : List VI) (ρ : List Addr) (h : Hi) (Q : VK), Inv X pins σ H s → Vals vs us → Vals zs ws → RVs G ρ H args vs → RVs G ρ H zargs zs → Ag G ρ h H →
    args.length = n → zargs.length = ks.length → FinG G ρ H (RV G) Q (fun c d H' => W c d σ H') (g args zargs h) → wpAny (model X.prog X.w) X.A (call fv us (ks.zip ws)) (EP X pins σ Q) X.xe s
def fnK (g : MF) (arr : List VI → List VI → List VI) : MK := fun vs zs h => g (arr vs zs) h
def mkK (c : Nat) (g : MF) (arr : List VI → List VI → List VI) : MK := fun vs zs h => match g (arr (.ref h.length :: vs) zs) (h ++ [.ins c []]) with
  | .ok .non h2 => .ok (.ref h.length) h2
  | .ex c n h2 => .ex c n h2
  | _ => .err
def eCallK (n m : Nat) (g : MK) (ma mk : MA) : ME := fun σ h => (ma σ h).bind fun vs h1 => (mk σ h1).bind fun zs h2 => match Nat.beq vs.length n && Nat.beq zs.length m with
  | true => g vs zs h2
  | false => .err
abbrev rdK (G : Gx) (W : WX) (m : MA) : TA := rdG G (RVs G) W m
section
variable {G : Gx} {W : WX} {X : Cx} {A : Around} {ρ : List Addr} {h : Hi} {H : Hp} {σ : L2.St} {k n : Nat} {f C : Addr} {fd : FuncData} {ps ks : List Str} {g : MF} {gk : MK} {arr : List VI → List VI → List VI} {x : Str} {p pos kpos : Pos} {e : Expr} {es : List Expr} {kws : List Keyword} {ma mk : MA} {me : ME} {nm : Option Str} {fv : Value}
theorem mk_nil : PK X [] (rdA G W aNil) := ⟨fun pos pins s σ H Q I ⟨ρ, σi, h, as, ag, f⟩ => pk_nil.run pos pins s σ H Q I (f.ok ag .nil)⟩
theorem mk_cons (ha : PE X e (rdE G W me)) (hr : PK X kws (rdA G W mk)) : PK X (⟨nm, e, kpos⟩ :: kws) (rdA G W (aCons me mk)) :=
  ⟨fun pos pins s σ H Q I ⟨ρ, σi, h, as, ag, f⟩ => (pk_cons ha hr).run pos pins s σ H Q I (rdG_go as ag f fun ρ1 H1 h1 x y st as ag r f => rdG_go as ag f fun ρ2 H2 h2 xs ys st2 as ag rs f => f.ok ag (.cons (r.mono st2) rs))⟩
theorem callK_fn (F : FnP X G k f fd ps g) (hb : Bnd G X.K fd ps n ks arr) (tk : Takes X W) : CallK X G W (.ref f) n ks (fnK g arr) := by
  intro pins s σ H us ws vs zs args zargs ρ h Q I r rz ra rza ag l1 l2 fin
  obtain ⟨gu, gV, kb, hrel⟩ := hb.ex
  have rA := hrel ρ H args zargs vs zs ra rza l1 l2
  unfold fnK at fin
  by_cases hl : (arr args zargs).length = ps.length
  · have hsp : spM G ps.length g (gV vs zs) H Q (WE W σ) := ⟨ρ, h, _, hl, ag, rA, fin⟩
    have lu : us.length = n := by rw [← r.length, ← ra.length]; exact l1
    have lw : ws.length = ks.length := by rw [← rz.length, ← rza.length]; exact l2
    refine wpAny_call (codeAny_mono (F.ok.run _ _ s H ⟨us, ks.zip ws⟩ (gu us ws) (gV vs zs) Q (WE W σ) (F.room.mono (by omega)) I.env0 (kb.to s us ws I.kIn lu lw) (kb.rel r rz) hsp) fun res s' hq => ?_)
    match res, hq with
    | .error e, hq => exact passAt tk σ pins H s e s' I hq
    | .ok (.ret u), hq => exact I.after hq
  · rw [F.ar _ h hl] at fin
    exact fin.elim
theorem callK_make {c : Nat} (M : Mk X.K C f) (hc : G.ct c = some C) (F : FnP X G k f fd ps g) (hb : Bnd G X.K fd ps (n + 1) ks arr) (tk : Takes X W) : CallK X G W (.ref C) n ks (mkK c g arr) := by
  intro pins s σ H us ws vs zs args zargs ρ h Q I r rz ra rza ag l1 l2 fin
  obtain ⟨gu, gV, kb, hrel⟩ := hb.ex
  have n0 : H (s.heap.objs.size + 1) = none := I.hok.fresh (Nat.le_succ _)
  have n1 : H s.heap.objs.size = none := I.hok.fresh (Nat.le_refl _)
  have ne : s.heap.objs.size ≠ s.heap.objs.size + 1 := Nat.ne_of_lt (Nat.lt_succ_self _)
  have I2 := L2.Inv.made (C := C) I
  have st1 : Stp G ρ H ρ (upd H s.heap.objs.size (.own (s.heap.objs.size + 1))) := Stp.more n1
  have a1 : Ag G ρ h (upd H s.heap.objs.size (.own (s.heap.objs.size + 1))) := ag.more n1
  have n2 : upd H s.heap.objs.size (.own (s.heap.objs.size + 1)) (s.heap.objs.size + 1) = none := by rw [upd_ne ne.symm]; exact n0
  have st2 := Stp.new (G := G) (ρ := ρ) (o := .ins C s.heap.objs.size []) n2
  have a2 := a1.new (o := .ins C s.heap.objs.size []) (u := .ins c []) n2 ⟨C, s.heap.objs.size, [], hc, upd_same, .nil⟩
  have st := st1.trans st2
  have hx : (ρ ++ [s.heap.objs.size + 1])[h.length]? = some (s.heap.objs.size + 1) := by rw [← ag.len]; simp
  have rA := hrel _ _ (VI.ref h.length :: args) zargs (V.ref (s.heap.objs.size + 1) :: vs) zs (.cons (.ref hx) (ra.mono st)) (rza.mono st) (by rw [List.length_cons, l1]) l2
  unfold mkK at fin
  by_cases hl : (arr (VI.ref h.length :: args) zargs).length = ps.length
  · have hsp : spM G ps.length g (gV (.ref (s.heap.objs.size + 1) :: vs) zs) (upd (upd H s.heap.objs.size (.own (s.heap.objs.size + 1))) (s.heap.objs.size + 1) (.ins C s.heap.objs.size [])) (fun v H2 => v = .non ∧ Q (.ref (s.heap.objs.size + 1)) H2) (WE W σ) := by
      refine ⟨_, _, _, hl, a2, rA, ?_⟩
      cases q : g (arr (.ref h.length :: args) zargs) (h ++ [.ins c []]) with
      | err => rw [q] at fin; exact fin.elim
      | ex c' n h2 => rw [q] at fin; exact fun ρ' H' d C' s a hn hc => fin ρ' H' d C' (st.trans s) a hn hc
      | ok v h2 =>
        rw [q] at fin
        cases v with
        | non =>
          exact fun ρ' H' x s a rx => by
            cases rx
            exact ⟨rfl, fin ρ' H' _ (st.trans s) a (.ref (s.pre _ _ hx))⟩
        | _ => exact fin.elim
    have r1 : Vals (V.ref (s.heap.objs.size + 1) :: vs) (Value.ref (s.heap.objs.size + 1) :: us) := .cons rfl r
    have lu : (Value.ref (s.heap.objs.size + 1) :: us).length = n + 1 := by rw [List.length_cons, ← r.length, ← ra.length, l1]
    have lw : ws.length = ks.length := by rw [← rz.length, ← rza.length]; exact l2
    have hr : Room (k + 1) X.A := F.room.mono (by omega)
    refine wpAny_call (make_map (f := f) I.kIn M.makes M.init (beq_iff_eq.mp M.fn) (codeAny_mono (F.ok.run _ _ _ _ ⟨Value.ref (s.heap.objs.size + 1) :: us, ks.zip ws⟩ _ _ _ (WE W σ) (hr.make C us (ks.zip ws)) (I2.env0.make C us (ks.zip ws)) (kb.to _ _ ws I2.kIn lu lw) (kb.rel r1 rz) hsp) fun res s' hq => ?_))
    match res, hq with
    | .error e, hq => exact passAt tk σ pins _ _ e s' I2 hq
    | .ok (.ret u), hq =>
      obtain ⟨v, H', I3, rv, ev, q3⟩ := I2.after hq
      subst ev
      exact ⟨rv, ⟨V.ref (s.heap.objs.size + 1), H', I3, rfl, q3⟩⟩
  · rw [F.ar _ _ hl] at fin
    exact fin.elim
theorem me_callK (c : CallK X G W fv n ks gk) (hg : Gl X x) (hm : X.mg x = some fv) (hkp : PySem.W.keepIn X.K fv = true) (ha : PA X (e :: es) (rdA G W ma)) (hkw : PK X kws (rdA G W mk))
    (hall : (backToKw pos (keywordEach kws X.env)).all (·.1.isSome) = true := by rfl) (hks : (backToKw pos (keywordEach kws X.env)).filterMap (·.1) = ks := by rfl) (hdb : (x == ("__debug__" : Str)) = false := by decide)
    (he : starEach (e :: es) X.env = (false, eval e X.env) :: starEach es X.env := by rfl) (hpl : ((backTo pos (starEach (e :: es) X.env)).any (·.1) || (backToKw pos (keywordEach kws X.env)).any (·.1.isNone)) = false := by rfl) :
    PE X (.Call (.Name x p) (e :: es) kws pos) (rdE G W (eCallK n ks.length gk ma mk)) := by
  refine ⟨fun pins s σ H Q I ⟨ρ, σi, h, as, ag, fin⟩ => ?_⟩
  refine wpAny_Call_Name_kw (ld_glob I hg hm ?_ hdb)
  have B : rdA G W ma σ H fun vs H1 => rdA G W mk σ H1 fun zs H2 => ∃ ρ2 h2 args zargs, RVs G ρ2 H2 args vs ∧ RVs G ρ2 H2 zargs zs ∧ Ag G ρ2 h2 H2 ∧ args.length = n ∧ zargs.length = ks.length ∧ FinG G ρ2 H2 (RV G) Q (fun c d H' => W c d σ H') (gk args zargs h2) :=
    rdG_go as ag fin fun ρ1 H1 h1 xs ys st as ag r f => rdG_go as ag f fun ρ2 H2 h2 zs ws st2 as ag rz f => by
      cases q : Nat.beq xs.length n && Nat.beq zs.length ks.length with
      | false => rw [q] at f; exact f.elim
      | true =>
        rw [q] at f
        obtain ⟨q1, q2⟩ := Bool.and_eq_true_iff.mp q
        exact ⟨ρ2, h2, xs, zs, r.mono st2, rz, ag, Nat.eq_of_beq_eq_true q1, Nat.eq_of_beq_eq_true q2, f⟩
  refine PySem.W.callWith_KW (h₀ := X.base) I.ok.mod.kin hkp hall (thn (ha.run pos pins s σ H _ I B) fun us s1 ⟨vs, H1, I1, r, q⟩ => ?_) hpl he
  refine thn (hkw.run pos pins s1 σ H1 _ I1 q) fun ws s2 ⟨zs, H2, I2, rz, ρ2, h2, args, zargs, ra, rza, ag2, l1, l2, f2⟩ => ⟨I2.kIn, ?_⟩
  rw [hks]
  exact c pins s2 σ H2 us ws vs zs args zargs ρ2 h2 Q I2 r rz ra rza ag2 l1 l2 f2
theorem me_callK0 (c : CallK X G W fv 0 ks gk) (hg : Gl X x) (hm : X.mg x = some fv) (hkp : PySem.W.keepIn X.K fv = true) (hkw : PK X kws (rdA G W mk))
    (hall : (backToKw pos (keywordEach kws X.env)).all (·.1.isSome) = true := by rfl) (hks : (backToKw pos (keywordEach kws X.env)).filterMap (·.1) = ks := by rfl) (hdb : (x == ("__debug__" : Str)) = false := by decide)
    (hpl : ((backTo pos (starEach [] X.env)).any (·.1) || (backToKw pos (keywordEach kws X.env)).any (·.1.isNone)) = false := by rfl) :
    PE X (.Call (.Name x p) [] kws pos) (rdE G W (eCallK 0 ks.length gk aNil mk)) := by
  refine ⟨fun pins s σ H Q I ⟨ρ, σi, h, as, ag, fin⟩ => ?_⟩
  refine wpAny_Call_Name_kw (ld_glob I hg hm ?_ hdb)
  have B : rdA G W mk σ H fun zs H2 => ∃ ρ2 h2 zargs, RVs G ρ2 H2 zargs zs ∧ Ag G ρ2 h2 H2 ∧ zargs.length = ks.length ∧ FinG G ρ2 H2 (RV G) Q (fun c d H' => W c d σ H') (gk [] zargs h2) :=
    rdG_go as ag (show FinG G ρ H (RV G) Q (fun c d H' => W c d σ H') ((mk _ h).bind _) from fin) fun ρ2 H2 h2 zs ws st2 as ag rz f => by
      cases q : Nat.beq ([] : List VI).length 0 && Nat.beq zs.length ks.length with
      | false => rw [q] at f; exact f.elim
      | true =>
        rw [q] at f
        obtain ⟨q1, q2⟩ := Bool.and_eq_true_iff.mp q
        exact ⟨ρ2, h2, zs, rz, ag, Nat.eq_of_beq_eq_true q2, f⟩
  refine PySem.W.callWith_KW0 (h₀ := X.base) I.ok.mod.kin hkp hall ?_ hpl
  refine thn (hkw.run pos pins s σ H _ I B) fun ws s2 ⟨zs, H2, I2, rz, ρ2, h2, zargs, rza, ag2, l2, f2⟩ => ⟨I2.kIn, ?_⟩
  rw [hks]
  exact c pins s2 σ H2 [] ws [] zs [] zargs ρ2 h2 Q I2 .nil rz .nil rza ag2 rfl l2 f2
end
end ML
end

section
set_option Elab.async false
set_option linter.all false
set_option maxRecDepth 100000
set_option maxHeartbeats 4000000
/-! The M layer, part 16: subscripts by own classes' __getitem__ and __setitem__; C(**e). -/
namespace ML
open PySem L2 PyProof.Rows

/-- what is asked of the classes that have the special name nm -/
structure SpOk (X : Cx) (A : Around) (G : Gx) (W : WX) (tbl : Nat → Option MF) (nm : Str) : Prop where
  at_ : ∀ c C g, tbl c = some g → G.ct c = some C → ∃ f, PySem.W.noSeq X.K C = true ∧ PySem.W.findIn X.K (.ref C) nm = some (some (.ref f)) ∧ PySem.W.fnIn X.K f = true ∧ PySem.W.isFn X.K (.ref f) = true ∧ CallAt X A G W (.ref f) g
def insC (x : VI) (h : Hi) : Option Nat := match x with
  | .ref n => match h[n]? with
    | some (.ins c _) => some c
    | _ => none
  | _ => none
/-- a[b] -/
def eIxU (tbl : Nat → Option MF) (a b : ME) : ME := fun σ h => (a σ h).bind fun x h1 => (b σ h1).bind fun y h2 => match insC x h2 with
  | some c => match tbl c with
    | some g => g [x, y] h2
    | none => .err
  | none => ofO (fIx x y h2)
section
variable {G : Gx} {ρ : List Addr} {h : Hi} {H : Hp} {W : WX} {X : Cx} {A : Around} {e a b c o i v : Expr} {es : List Expr} {pos p pos' apos : Pos} {me mi mo ma mb mv : ME} {mr : MA} {tbl : Nat → Option MF} {σ : L2.St}
theorem insC_ok {x : VI} {y : V} {cn : Nat} (ag : Ag G ρ h H) (r : RV G ρ H x y) (q : insC x h = some cn) : ∃ a C dx gs, y = .ref a ∧ G.ct cn = some C ∧ H a = some (.ins C dx gs) := by
  unfold insC at q
  cases r with
  | @ref n a e =>
    dsimp only at q
    cases q1 : h[n]? with
    | none => rw [q1] at q; cases q
    | some ob =>
      rw [q1] at q
      cases ob with
      | ins c fs =>
        cases q
        obtain ⟨C, dx, gs, hc, hH, _⟩ := insAt ag q1 e
        exact ⟨a, C, dx, gs, rfl, hc, hH⟩
      | _ => cases q
  | _ => cases q
theorem insC_look {pins : List (Addr × Obj)} {s : Shared} {a C dx : Addr} {gs : List (Str × V)} (I : Inv X pins σ H s) (hH : H a = some (.ins C dx gs)) : ∃ m, Fr X.base X.env.locals s.heap m ∧ ∃ ox od, PySem.W.InstAt s.heap a ox C od := by
  obtain ⟨mA, O, _, _, _, _⟩ := ins_get I.hok hH
  obtain ⟨od, J, _⟩ := O.look
  obtain ⟨m, hF⟩ := I.fr
  exact ⟨m, hF, _, _, J⟩
theorem me_ixU (hG : G.K = X.K) (hu : X.A.units + 1 < cLine) (sp : SpOk X X.A.in1 G W tbl "__getitem__") (ha : PE X a (rdE G W ma)) (hb : PE X b (rdE G W mb)) (hs : PlainIx b)
    (hsl : ∀ x i, subscripted b true (.ref x) i = runValue (.builtin "lifetime.subscript" ⟨[.ref x, i], []⟩) := by intros; with_unfolding_all rfl) : PE X (.Subscript a b pos) (rdE G W (eIxU tbl ma mb)) := by
  refine ⟨fun pins s σ H Q I ⟨ρ, σi, h, as, ag, fin⟩ => ?_⟩
  refine PyProof.Rows.Subscript_ (binT ha hb I (R := fun x y H2 => IxK X H2 x y Q ∨ ∃ ρ2 h2 xi yi cn g, Ag G ρ2 h2 H2 ∧ RV G ρ2 H2 xi x ∧ RV G ρ2 H2 yi y ∧ insC xi h2 = some cn ∧ tbl cn = some g ∧ FinG G ρ2 H2 (RV G) Q (fun c d H' => W c d σ H') (g [xi, yi] h2)) ?_ fun v u s2 x y H2 I2 rx ry q => ?_)
  · exact rdG_go as ag fin fun ρ1 H1 h1 x x' st as ag r f => rdG_go as ag f fun ρ2 H2 h2 y y' st2 as ag rs f => by
      cases q1 : insC x h2 with
      | none => rw [q1] at f; exact .inl (ix_kind hG ag (r.mono st2) rs (FinO.of f))
      | some cn =>
        rw [q1] at f
        dsimp only at f
        cases q2 : tbl cn with
        | none => rw [q2] at f; exact f.elim
        | some g => rw [q2] at f; exact .inr ⟨ρ2, h2, x, y, cn, g, ag, r.mono st2, rs, q1, q2, f⟩
  · rcases q with q | ⟨ρ2, h2, xi, yi, cn, g, ag2, r1, r2, q1, q2, f⟩
    · cases q with
      | ix r hr q => exact hr a b pins s2 σ H2 x y v u Q I2 rx ry q (hs _ _)
      | dict d w e g q =>
        subst e
        obtain rfl : v = Value.ref d := rx
        exact PyProof.Rows.tail_any (dict_typeIs I2 g) PySem.F.slot_dict_getitem.lookup (d_getItem hu I2 g ry fun w' s3 I3 rw' => ⟨w, H2, I3, rw', q⟩) (hs _ _)
    · obtain ⟨ad, C, dx, gs, ex, hc, hH⟩ := insC_ok ag2 r1 q1
      subst ex
      obtain rfl : v = Value.ref ad := rx
      obtain ⟨f', k1, k2, k3, k4, k5⟩ := sp.at_ cn C g q2 hc
      obtain ⟨m, hF, ox, od, J⟩ := insC_look I2 hH
      exact PySem.W.sub_K hF I2.ok.mod.kin J k2 k3 k4 (k5 pins s2 σ H2 [.ref ad, u] [.ref ad, y] [xi, yi] ρ2 h2 Q I2 (.cons rfl (.cons ry .nil)) (.cons r1 (.cons r2 .nil)) ag2 f) (hsl _ _)
end

/-! ### o[i] = v -/
def dropV (σ : Sg) : Res VI → RS
  | .ok _ h => .nx σ h
  | .ex c n h => .ex c n σ h
  | .err => .err
def gIxU (tbl : Nat → Option MF) (o i : ME) : MG := fun v σ h => (o σ h).bindS σ fun x h1 => (i σ h1).bindS σ fun y h2 => match insC x h2 with
  | some c => match tbl c with
    | some g => dropV σ (g [x, y, v] h2)
    | none => .err
  | none => nxO σ (putIx x y v h2)
/-- o[i] = v by values: a list, a dict, an own instance -/
def rdSetU (G : Gx) (W : WX) (σ : L2.St) (tbl : Nat → Option MF) : TSet := fun o i v H Q => ∃ ρ h oi ii vi, Ag G ρ h H ∧ RV G ρ H oi o ∧ RV G ρ H ii i ∧ RV G ρ H vi v ∧ match insC oi h with
  | some c => match tbl c with
    | some g => FinG G ρ H (RV G) (fun _ H' => Q H') (fun c d H' => W c d σ H') (g [oi, ii, vi] h)
    | none => False
  | none => match putIx oi ii vi h with
    | some h' => ∀ ρ' H', Stp G ρ H ρ' H' → Ag G ρ' h' H' → Q H'
    | none => False
section
variable {G : Gx} {ρ : List Addr} {h : Hi} {H : Hp} {W : WX} {X : Cx} {A : Around} {e a b c o i v : Expr} {es : List Expr} {pos p pos' apos : Pos} {me mi mo ma mb mv : ME} {mr : MA} {tbl : Nat → Option MF}
theorem mg_ixU (hu : X.A.units + 1 < cLine) (sp : SpOk X X.A G W tbl "__setitem__") (ho : PE X o (rdE G W mo)) (hi : PE X i (rdE G W mi))
    (ha : ∀ v, assign (.Subscript o i pos) X.env v = (do
      let ov ← holding [v] (eval o X.env)
      let iv ← holding [v, ov] (eval i X.env)
      standAt pos
      holding [v, ov, iv] (setItem ov iv v)
      release [v, ov, iv] []) := by intro _; rfl) : PG X (.Subscript o i pos) (rdGt G W (gIxU tbl mo mi)) := by
  refine ⟨fun pins s σ H v u Q I r ⟨ρ, σi, h, vi, as, ag, rv, f⟩ => ?_⟩
  have ps : ∀ (H' : Hp) (s' : Shared) (o i : V) (ov iv : Value) (Q' : Hp → Prop), Inv X pins σ H' s' → RelV o ov → RelV i iv → rdSetU G W σ tbl o i v H' Q' →
      wpAny (model X.prog X.w) X.A (setItem ov iv u) (fun _ s' => ∃ H', Inv X pins σ H' s' ∧ Q' H') X.xe s' := by
    intro H' s' o i ov iv Q' I' ro ri ⟨ρ2, h2, oi, ii, vi2, ag2, r1, r2, r3, q⟩
    cases q1 : insC oi h2 with
    | none =>
      rw [q1] at q
      exact set_M (G := G) hu pins s' σ H' o i v ov iv u Q' I' ro ri r ⟨ρ2, h2, oi, ii, vi2, ag2, r1, r2, r3, q⟩
    | some cn =>
      rw [q1] at q
      dsimp only at q
      cases q2 : tbl cn with
      | none => rw [q2] at q; exact q.elim
      | some g =>
        rw [q2] at q
        obtain ⟨ad, C, dx, gs, ex, hc, hH⟩ := insC_ok ag2 r1 q1
        subst ex
        obtain rfl : ov = Value.ref ad := ro
        obtain ⟨f', k1, k2, k3, k4, k5⟩ := sp.at_ cn C g q2 hc
        obtain ⟨m, hF, ox, od, J⟩ := insC_look I' hH
        refine PySem.W.ksp_setItem hF I'.ok.mod.kin J k1 k2 k4 (thn (k5 pins s' σ H' [.ref ad, iv, u] [.ref ad, i, v] [oi, ii, vi2] ρ2 h2 (fun _ H' => Q' H') I' (.cons rfl (.cons ri (.cons r .nil))) (.cons r1 (.cons r2 (.cons r3 .nil))) ag2 q) fun w s2 ⟨z, H2, I2, _, q⟩ => ⟨H2, I2, q⟩)
  have go : rdE G W mo σ H fun x H1 => rdE G W mi σ H1 fun y H2 => rdSetU G W σ tbl x y v H2 fun H3 => Q σ H3 :=
    rdS_go as ag f fun ρ1 H1 h1 x x' st as ag r1 f => rdS_go as ag f fun ρ2 H2 h2 y y' st2 as ag r2 f => ⟨ρ2, h2, x, y, vi, ag, r1.mono st2, r2, rv.mono (st.trans st2), by
      cases q1 : insC x h2 with
      | none =>
        rw [q1] at f
        dsimp only at f
        cases q : putIx x y vi h2 with
        | none => rw [q] at f; exact f
        | some h' => rw [q] at f; exact fun ρ' H' s a => f ρ' H' σ s a (as.mono s)
      | some cn =>
        rw [q1] at f
        dsimp only at f ⊢
        cases q2 : tbl cn with
        | none => rw [q2] at f; exact f
        | some g =>
          rw [q2] at f
          dsimp only at f ⊢
          cases q3 : g [x, y, vi] h2 with
          | err => rw [q3] at f; exact f
          | ex c n h3 => rw [q3] at f; exact fun ρ' H' d C s a hn hc => f ρ' H' d C σ s a (as.mono s) hn hc
          | ok w h3 => rw [q3] at f; exact fun ρ' H' z s a _ => f ρ' H' σ s a (as.mono s)⟩
  rw [ha]
  refine wpAny_bind (wpAny_holding (thn (ho.run pins s σ H _ I go) fun ov s1 ⟨x, H1, I1, r1, q1⟩ => ?_))
  refine wpAny_bind (wpAny_holding (thn (hi.run pins s1 σ H1 _ I1 q1) fun iv s2 ⟨y, H2, I2, r2, q2⟩ => ?_))
  refine wpAny_bind (wpAny_standAt (wpAny_bind (wpAny_holding (thn (ps H2 s2 x y ov iv _ I2 r1 r2 q2) fun _ s3 ⟨H3, I3, q3⟩ => ?_))))
  exact wpAny_release ⟨σ, H3, I3, q3⟩
end
end ML
end

section
set_option Elab.async false
set_option linter.all false
set_option maxRecDepth 100000
set_option maxHeartbeats 4000000
/-! Methods with super(): the def's rule at its own code. -/
namespace ML
open PySem L2 NdefX
open PyProof.Rows hiding wpAt

/-- a body that may say super() -/
structure PSsT (X : Cx) (body st : List Stmt) (t : TS) : Prop where
  run : ∀ (pins : List (Addr × Obj)) (s : Shared) (σ : L2.St) (H : Hp) (D : Ends), Inv X pins σ H s → t D σ H → wpAt (model X.prog X.w) X.A (.func body X.env) (execs st X.env) (SP X pins D) X.xe s
structure PST (X : Cx) (body : List Stmt) (st : Stmt) (t : TS) : Prop where
  run : ∀ (pins : List (Addr × Obj)) (s : Shared) (σ : L2.St) (H : Hp) (D : Ends), Inv X pins σ H s → t D σ H → wpAt (model X.prog X.w) X.A (.func body X.env) (exec st X.env) (SP X pins D) X.xe s
theorem PSsT.of {X : Cx} {body st : List Stmt} {t : TS} (h : PSs X st t) : PSsT X body st t := ⟨fun pins s σ H D I q => wpAt_of_wpAny (h.run pins s σ H D I q)⟩
theorem PST.of {X : Cx} {body : List Stmt} {st : Stmt} {t : TS} (h : PS X st t) : PST X body st t := ⟨fun pins s σ H D I q => wpAt_of_wpAny (h.run pins s σ H D I q)⟩
theorem PSsT.imp' {X : Cx} {body st : List Stmt} {t t' : TS} (h : PSsT X body st t) (i : ∀ D σ H, t' D σ H → t D σ H) : PSsT X body st t' := ⟨fun pins s σ H D I q => h.run pins s σ H D I (i D σ H q)⟩
theorem PST.imp' {X : Cx} {body : List Stmt} {st : Stmt} {t t' : TS} (h : PST X body st t) (i : ∀ D σ H, t' D σ H → t D σ H) : PST X body st t' := ⟨fun pins s σ H D I q => h.run pins s σ H D I (i D σ H q)⟩
/-- the closure of such a method -/
structure FunS (K : PySem.W.Frag) (x qual : Str) (params : Arguments) (body : List Stmt) (scope : Scope) (dvs : List V) (kws : List (Str × V)) (f : Addr) (fd : FuncData) (cc D c : Addr) (file : Str) : Prop where
  ex : ∃ (oc : Value) (od : Option Addr) (dV kV doc pm : Value) (an : Option Addr) (ct : Value) (osl : Array (Option Value)),
    fd = PySem.W.fnX x qual params body scope [("__class__", cc)] dV kV doc pm an (.ref c) ct ∧ K.lookup f = some ⟨oc, od, .func fd, osl⟩ ∧ DflV K dV dvs ∧ KwdV K kV kws
  code : PySem.W.codeIn K (.ref c) qual = true
  file : ∃ (o : Obj) (vs : Array Value) (tf : Tok), K.lookup c = some o ∧ o.data = .fields vs ∧ vs[2]? = some (.str file tf)
  cell : ∃ o : Obj, K.lookup cc = some o ∧ o.data = .cell (some (.ref D))
  kp : PySem.W.keepIn K (.ref f) = true
abbrev nfS (x qual : Str) (params : Arguments) (body : List Stmt) (scope : Scope) (cc c : Addr) : NF := ⟨x, qual, params, body, scope, [("__class__", cc)], c⟩
section
variable {P : Program} {w : World} {K : PySem.W.Frag} {mg : Str → Option Value} {base : Heap} {x qual : Str} {params : Arguments} {body : List Stmt} {scope : Scope} {dvs : List V} {kws : List (Str × V)} {f cc D c : Addr} {fd : FuncData} {file : Str} {N ps : List Str} {k : Nat} {sp : Sp} {CX : CXT}
theorem FunS.cells {A : Around} {outer : List Env} {s : Shared} {H : Hp} (F : FunS K x qual params body scope dvs kws f fd cc D c file) (e0 : Env0 P w K mg base A outer s H) : CellsAt [("__class__", cc)] ["__class__"] [some (.ref D)] s.heap H := by
  obtain ⟨o, lo, od⟩ := F.cell
  have hb := e0.mod.kin cc o lo
  obtain ⟨hs, hn⟩ := e0.bs cc o hb
  have cellAt : s.heap.IsCell cc (some (.ref D)) := ⟨o, hs, od⟩
  refine ⟨rfl, fun y c' e => ?_, fun x y c' e1 e2 => ?_, fun i y e => ?_⟩
  · simp only [List.lookup] at e
    split at e
    · cases e; exact ⟨hn, _, cellAt⟩
    · cases e
  · simp only [List.lookup] at e1 e2
    split at e1
    · rename_i h1
      split at e2
      · rename_i h2
        rw [beq_iff_eq.mp h1, beq_iff_eq.mp h2]
      · cases e2
    · cases e1
  · cases i with
    | zero =>
      simp at e
      subst e
      refine ⟨cc, by simp [List.lookup], fun v hv => ?_⟩
      simp at hv
      subst hv
      exact ⟨_, rfl, cellAt⟩
    | succ i => simp at e
/-- THE RULE -/
theorem FunS.ok (F : FunS K x qual params body scope dvs kws f fd cc D c file) (S : NScope N ps ["__class__"] scope) (len : ∀ vs H Q E, sp vs H Q E → vs.length = ps.length)
    (hbody : ∀ (A : Around) (outer : List Env) (s : Shared) (H : Hp) (vs : List V) (Q : VK) (E : XK), Room k (A.deeper (envF (nfS x qual params body scope cc c) f s.heap.objs.size)) → sp vs H Q E →
      ∃ t, PSsT (ncx CX P w K mg base N (nfS x qual params body scope cc c) f A outer s H E) body body t ∧ t { nx := fun _ H' => Q .non H', rt := Q } (startF N vs [some (.ref D)]) H) : FnOk P w K mg base CX (k + 1) f fd ps sp := by
  obtain ⟨oc, od, dV, kV, doc, pm, an, ct, osl, rfl, lk, _, _⟩ := F.ex
  refine ⟨len, fun A outer s H args us vs Q E hr e0 hb r hsp => ?_⟩
  have hl := len _ _ _ _ hsp
  have KX : K.In s.heap := e0.mod.kin.keeps fun b o e => (e0.bs b o e).1
  have lim : s.heap.NoLimit := e0.mod.nolimit.keeps fun b o e => (e0.bs b o e).1
  refine ks_codeAny_call_defAt (body := body) (binds := ps.zip us) hr.depth (KX _ _ lk) rfl lim (PySem.W.codeRec_of KX F.code) rfl hb S.nocell (fun ⟨n, _⟩ hy => S.par n (List.of_mem_zip hy).1) (fun h₁ hns kp => ?_) S.co S.gen S.kind
  obtain ⟨t, ht, hq⟩ := hbody A outer s H vs Q E (hr.deeper _) hsp
  have I : Inv (ncx CX P w K mg base N (nfS x qual params body scope cc c) f A outer s H E) [] (startF N vs [some (.ref D)]) H { s with heap := h₁, toks := s.toks + (ps.zip us).length } := inv_startN S hr.hd e0 hl r (F.cells e0) hns kp
  refine ks_wpAt_mono (ht.run [] _ (startF N vs [some (.ref D)]) H _ I hq) (fun fl s' hs => ?_) fun e s' hs => hs
  have fin : ∀ {σ' : L2.St} {H' : Hp} {v : V} {u : Value}, Inv (ncx CX P w K mg base N (nfS x qual params body scope cc c) f A outer s H E) [] σ' H' s' → L2.RelV v u → Q v H' → CE outer P w H s Q u s' :=
    fun {σ' H' v u} J rv q => ⟨v, H', J.os, J.bare, J.base, J.hok, rv, q⟩
  cases fl with
  | ret u =>
    obtain ⟨v, σ', H', J, rv, q⟩ := hs
    exact fin J rv q
  | next =>
    obtain ⟨σ', H', J, q⟩ := hs
    exact fin (v := V.non) (u := Value.none) J rfl q
  | brk =>
    obtain ⟨_, _, _, q⟩ := hs
    exact False.elim q
  | cont =>
    obtain ⟨_, _, _, q⟩ := hs
    exact False.elim q
end
end ML
end

section
set_option Elab.async false
set_option linter.all false
set_option maxRecDepth 100000
set_option maxHeartbeats 4000000
/-! super().__init__(..) of an own base class. -/
namespace ML
open PySem L2 NdefX
open PyProof.Rows hiding wpAt

/-- P: what the first statement asks of the slots as they are -/
abbrev rdSP (G : Gx) (W : WX) (P : L2.St → Prop) (m : MS) : TS := fun D σ H => P σ ∧ rdS G W m D σ H
theorem mst_cons {G : Gx} {W : WX} {X : Cx} {P : L2.St → Prop} {body : List Stmt} {st : Stmt} {rest : List Stmt} {ms mr : MS} (h : PST X body st (rdSP G W P ms)) (h2 : PSs X rest (rdS G W mr)) : PSsT X body (st :: rest) (rdSP G W P (sSeq ms mr)) := ⟨fun pins s σ H D I ⟨hp, ρ, σi, hh, as, ag, f⟩ => by
  refine ks_wpAt_execs_cons (ks_wpAt_mono (h.run pins s σ H { D with nx := fun σ' H' => rdS G W mr D σ' H' } I ⟨hp, ?_⟩) (fun fl s' q => ?_) fun _ _ z => z)
  · refine ⟨ρ, σi, hh, as, ag, ?_⟩
    have f' : FinS G ρ H D W ((ms σi hh).andThen mr) := f
    cases e : ms σi hh with
    | nx σ' h' => rw [e] at f'; exact fun ρ' H' σ2 st ag2 as2 => ⟨ρ', σ', h', as2, ag2, FinS.later st f'⟩
    | bk σ' h' => rw [e] at f'; exact f'
    | ct σ' h' => rw [e] at f'; exact f'
    | rt v h' => rw [e] at f'; exact f'
    | ex c n σ' h' => rw [e] at f'; exact f'
    | err => rw [e] at f'; exact f'
  · cases fl with
    | next => obtain ⟨σ', H', J, q⟩ := q; exact wpAt_of_wpAny (h2.run pins s' σ' H' D J q)
    | ret u => exact q
    | brk => exact q
    | cont => exact q⟩
theorem mst_one {G : Gx} {W : WX} {X : Cx} {P : L2.St → Prop} {body : List Stmt} {st : Stmt} {ms : MS} (h : PST X body st (rdSP G W P ms)) : PSsT X body [st] (rdSP G W P (sSeq ms sNx)) := mst_cons h ms_nil
theorem boot_super : bootBuiltins "super" = some (.type "super") := by decide +kernel
/-- a name's value, by its slot -/
theorem load_slot {X : Cx} {pins : List (Addr × Obj)} {σ : L2.St} {H : Hp} {s : Shared} {i : Nat} {x : Str} {v : V} {E : Value → Shared → Prop} {Q : Value → Shared → Prop} (I : Inv X pins σ H s) (hN : X.N[i]? = some x) (e : σ[i]? = some (some v)) (hv : Vis X.env.scope x) (hcd : (x == ("__classdict__" : Str)) = false)
    (h : ∀ u, RelV v u → Q u s) : wpAny (model X.prog X.w) X.A (loadName X.env x) Q E s := by
  obtain ⟨m, hn, hl⟩ := I.loc
  obtain ⟨u, r, l⟩ := hl i x v hN e hv
  rcases l with ⟨hk, hm⟩ | ⟨hk, c, hc, hcell⟩
  · exact wpAny_loadName_local I.ok.kind hk hn hm (h u r)
  · rcases hk with hk | hk
    · exact wpAny_loadName_cell I.ok.kind hk hc hcell (h u r)
    · exact wpAny_loadName_free I.ok.kind hk hc hcell (h u r) hcd
theorem load_blt {X : Cx} {pins : List (Addr × Obj)} {s : Shared} {σ : L2.St} {H : Hp} {x : Str} {u : Value} {E : Value → Shared → Prop} {Q : Value → Shared → Prop} (I : Inv X pins σ H s) (hg : Gl X x) (hm : X.mg x = none) (hv : bootBuiltins x = some u) (hn : x ≠ "__name__") (h : Q u s) : wpAny (model X.prog X.w) X.A (loadName X.env x) Q E s := by
  obtain ⟨mb, h1, h2⟩ := I.mod.blt
  exact PySem.W.ks_loadName_global I.ok.kind hg (Calls.loadGlobal_builtin (by rw [I.ok.glob]; exact I.mod.glob.keeps I.bk) hm (by rw [I.ok.blt]; exact h1.keeps I.bk) ((h2 x hn).trans hv) h)
/-- the same as code -/
def CodeM (X : Cx) (G : Gx) (W : WX) (fv : Value) (g : MF) : Prop :=
  ∀ (pins : List (Addr × Obj)) (s : Shared) (σ : L2.St) (H : Hp) (us : List Value) (vs : List V) (args : List VI) (ρ : List Addr) (h : Hi) (Q : VK), Inv X pins σ H s → Vals vs us → RVs G ρ H args vs → Ag G ρ h H →
    FinG G ρ H (RV G) Q (fun c d H' => W c d σ H') (g args h) → codeAny (model X.prog X.w) X.A (.call fv ⟨us, []⟩) (fun r s' => match r with | .ok (.ret v) => EP X pins σ Q v s' | .ok _ => False | .error e => X.xe e s') s
theorem FnP.code {X : Cx} {G : Gx} {W : WX} {k : Nat} {f : Addr} {fd : FuncData} {ps : List Str} {g : MF} (F : FnP X G k f fd ps g) (hb : Binds X.K fd ps []) (tk : Takes X W) : CodeM X G W (.ref f) g := by
  intro pins s σ H us vs args ρ h Q I r ra ag fin
  by_cases hl : args.length = ps.length
  · have hsp : spM G ps.length g vs H Q (WE W σ) := ⟨ρ, h, args, hl, ag, ra, fin⟩
    have lu : us.length = ps.length := by rw [← r.length, ← ra.length]; exact hl
    have b := hb s us I.kIn (by rw [List.append_nil]; exact lu)
    rw [List.append_nil] at b
    refine codeAny_mono (F.ok.run _ _ s H ⟨us, []⟩ us vs Q (WE W σ) (F.room.mono (by omega)) I.env0 b r hsp) fun res s' hq => ?_
    match res, hq with
    | .error e, hq => exact passAt tk σ pins H s e s' I hq
    | .ok (.ret u), hq => exact I.after hq
  · rw [F.ar args h hl] at fin
    exact fin.elim
/-- what is asked of the def that says super(), and of the classes of its instances -/
structure SupOk (X : Cx) (G : Gx) (W : WX) (known : Nat → Bool) (f D : Addr) (slf : Str) (g : MF) : Prop where
  fn : X.env.func = some f
  at_ : ∃ (o : Obj) (fd : FuncData) (ar : Arg), X.K.lookup f = some o ∧ o.data = .func fd ∧ (fd.params.posonlyargs ++ fd.params.args).head? = some ar ∧ ar.arg = slf
  code : ∃ (c : Addr) (o : Obj) (vs : Array Value) (file : Str) (tf : Tok), X.env.code = .ref c ∧ X.K.lookup c = some o ∧ o.data = .fields vs ∧ vs[2]? = some (.str file tf) ∧ ((X.prog.main.file : Str) == file) = true
  top : (X.prog.main.scope.names.lookup ("super" : Str)).isSome = false
  cls : ∃ cd, PySem.W.clsIn X.K D = some cd
  any : PySem.W.nsIn X.K cStatics "thirdparty.any" = some none
  sub : ∀ c C, known c = true → G.ct c = some C → (∃ cd, PySem.W.clsIn X.K C = some cd) ∧ PySem.W.mroIn X.K C (.ref D) = some true ∧ ∃ f2, PySem.W.ks_superIn X.K C D "__init__" = some (some (.ref f2)) ∧ PySem.W.typeIn X.K (.ref f2) = some (.type "function") ∧ PySem.W.fnIn X.K f2 = true ∧ CodeM X G W (.ref f2) g
def sSuper (known : Nat → Bool) (i : Nat) (g : MF) (ma : MA) : MS := fun σ h => match σ[i]? with
  | some (some (.ref n)) => match h[n]? with
    | some (.ins c _) => match known c with
      | true => (ma σ h).bindS σ fun vs h1 => dropV σ (g (.ref n :: vs) h1)
      | false => .err
    | _ => .err
  | _ => .err
section
variable {G : Gx} {W : WX} {X : Cx} {body : List Stmt} {known : Nat → Bool} {f D : Addr} {slf : Str} {g : MF} {i j : Nat} {e : Expr} {es : List Expr} {ma : MA} {p0 p1 apos cpos spos : Pos}
theorem mst_super (S : SupOk X G W known f D slf g) (hks : Gl X "super") (hm : X.mg "super" = none) (hkc : X.env.kindOf "__class__" = some .free) (hNc : X.N[j]? = some "__class__") (hvc : Vis X.env.scope "__class__")
    (hNs : X.N[i]? = some slf) (hvs : Vis X.env.scope slf) (hcs : (slf == ("__classdict__" : Str)) = false) (ha : PA X (e :: es) (rdA G W ma)) (hi : interactive X.env = false)
    (hst : starEach (e :: es) X.env = (false, eval e X.env) :: starEach es X.env := by rfl) (hpl : (backTo cpos (starEach es X.env)).any (·.1) = false := by rfl)
    (hsw : swapsWith (.Call (.Attribute (.Call (.Name "super" p0) [] [] p1) "__init__" apos) (e :: es) [] cpos) none spos.line X.env = pure false := by rfl)
    (ht : eval (.Call (.Attribute (.Call (.Name "super" p0) [] [] p1) "__init__" apos) (e :: es) [] cpos) X.env = (do
      let ov ← attributeBase (.Call (.Name "super" p0) [] [] p1) "__init__" X.env (eval (.Call (.Name "super" p0) [] [] p1) X.env)
      standAt apos.atName
      let (f, first) ← holding [ov] (getMethod ov "__init__" (pure false))
      callWith cpos f first (backTo cpos (starEach (e :: es) X.env)) []) := by rfl) :
    PST X body (.Expr (.Call (.Attribute (.Call (.Name "super" p0) [] [] p1) "__init__" apos) (e :: es) [] cpos) spos)
      (rdSP G W (fun σ => σ[j]? = some (some (.ref D))) (sSuper known i g ma)) := by
  refine ⟨fun pins s σ H Dn I ⟨hD, ρ, σi, h, as, ag, fin⟩ => ?_⟩
  unfold sSuper at fin
  cases q1 : σi[i]? with
  | none => rw [q1] at fin; exact fin.elim
  | some ov =>
    rw [q1] at fin
    cases ov with
    | none => exact fin.elim
    | some v =>
      cases v with
      | ref n =>
        dsimp only at fin
        cases q2 : h[n]? with
        | none => rw [q2] at fin; exact fin.elim
        | some ob =>
          rw [q2] at fin
          cases ob with
          | ins c fs =>
            dsimp only at fin
            cases q3 : known c with
            | false => rw [q3] at fin; exact fin.elim
            | true =>
              rw [q3] at fin
              dsimp only at fin
              obtain ⟨xv, hxs, rx⟩ := as.at_ i _ q1
              cases rx with
              | @ref _ a hn =>
                obtain ⟨C, dx, gs, hc, hH, rf⟩ := insAt ag q2 hn
                obtain ⟨⟨cdC, hcC⟩, hmro, f2, hsup, hty, hfn, hcall⟩ := S.sub c C q3 hc
                obtain ⟨m, hF, ox, od, J⟩ := insC_look I hH
                obtain ⟨of, fd, ar, hf1, hf2, hf3, hf4⟩ := S.at_
                obtain ⟨cc, oc, vs, file, tf, hc1, hc2, hc3, hc4, hc5⟩ := S.code
                obtain ⟨cdD, hcD⟩ := S.cls
                have KX := I.kIn
                refine ks_wpAt_Expr_any (ks_wpAt_MethodCall (args := e :: es) (pl := pure false) ?_ ht) hi hsw
                refine ks_wpAt_super_base hks hkc rfl S.fn (KX _ _ hf1) hf2 hf3 hc1 (KX _ _ hc2) hc3 hc4 hc5 S.top ?_
                refine load_blt I hks hm boot_super (by decide +kernel) ⟨rfl, ?_⟩
                refine load_slot I hNc hD hvc (by decide) fun u ru => ?_
                obtain rfl : u = Value.ref D := ru
                rw [hf4]
                refine load_slot I hNs hxs hvs hcs fun u2 ru2 => ?_
                obtain rfl : u2 = Value.ref a := ru2
                obtain ⟨hD1o, hD1, hD2⟩ : ∃ oD, s.heap.get? D = some oD ∧ oD.data = .cls cdD := by
                  unfold PySem.W.clsIn at hcD
                  split at hcD
                  · rename_i c' d' cd' sl' ho
                    cases hcD
                    exact ⟨_, KX _ _ ho, rfl⟩
                  · cases hcD
                obtain ⟨of2, hof2, hof2c⟩ : ∃ o, X.K.lookup f2 = some o ∧ o.cls = .type "function" := by
                  have t : (X.K.lookup f2).map (·.cls) = some (.type "function") := hty
                  cases z : X.K.lookup f2 with
                  | none => rw [z] at t; cases t
                  | some o => rw [z] at t; exact ⟨o, rfl, Option.some.inj t⟩
                have hxC : a ≠ C := PySem.W.ks_ne KX J hcC
                obtain ⟨hh, gg, dd, tt, os⟩ := s
                refine PySem.ks_wpAny_isType_cls hD1 hD2 ⟨rfl, ?_⟩
                refine PySem.ks_wpAny_call_super hD1 hD2 J.at_ J.cls (fun c' e' => ?_) (PySem.W.looks_mroIn KX hmro) (fun h' eq kp => ?_)
                · have := J.no
                  unfold PySem.W.notCls at this
                  rw [e'] at this
                  exact Bool.noConfusion this
                have I2 : Inv X pins σ H ⟨h', gg, dd, tt, os⟩ := Inv.kept (s := ⟨hh, gg, dd, tt, os⟩) (t' := tt) I kp
                have KX2 := I2.kIn
                unfold PySem.W.ks_superIn at hsup
                rw [hcC] at hsup
                have hmr : PySem.W.Looks (model X.prog X.w) h' (mroOf (.ref C)) cdC.mro := fun A Q E s k q => wpAny_bind ((PySem.W.looks_clsIn KX2 hcC) A _ E s k (wpAny_pure q))
                refine PySem.ks_wpAny_getMethod_super eq (PySem.W.looks_opaque KX2 S.any) hmr rfl KX2 hsup (KX2 _ _ hof2) hof2c hxC rfl ?_
                -- the bound method is pinned
                have I3 : Inv X ((h'.objs.size, PySem.W.methodObj (.ref f2) (.ref a)) :: pins) σ H ⟨h'.push (PySem.W.methodObj (.ref f2) (.ref a)), gg, dd, tt + 1, os⟩ :=
                  ClX.pin_new I2 (fun _ _ z => Heap.get?_push_of_some _ z) (Nat.le_refl _) (Heap.get?_push_size h' rfl) (fun v z => nomatch z)
                generalize h'.objs.size = b at I3 ⊢
                have A : rdA G W ma σ H fun vs H1 => ∃ ρ1 h1 args, RVs G ρ1 H1 (.ref n :: args) (.ref a :: vs) ∧ Ag G ρ1 h1 H1 ∧ AgS G ρ1 H1 σi σ ∧ FinS G ρ1 H1 Dn W (dropV σi (g (.ref n :: args) h1)) :=
                  rdS_go as ag fin fun ρ1 H1 h1 xs ys st as ag r f => ⟨ρ1, h1, xs, .cons (.ref (st.pre _ _ hn)) r, ag, as, f⟩
                refine thn (Q := EP X pins σ fun _ H' => Dn.nx σ H') ?_ fun v s' ⟨z, H', I', _, q⟩ => ⟨σ, H', I', q⟩
                show wpAny _ _ (callWith cpos (.ref b) [] (backTo cpos (starEach (e :: es) X.env)) []) _ _ _
                have run := ha.run cpos _ _ σ H _ I3 A
                rw [hst] at run ⊢
                refine PySem.W.callWith_of (P := PySem.W.MethP X.K b f2 (.ref a)) (by show ((false || (backTo cpos (starEach es X.env)).any (·.1)) || false) = false; rw [hpl]; rfl) (PySem.W.keeps_M hfn)
                  (Calls.evalArgs_plain (thn run fun us s4 ⟨vs, H4, I4, r4, ρ4, h4, args, ra, ag4, as4, f4⟩ => ?_))
                have hb4 : s4.heap.get? b = some (PySem.W.methodObj (.ref f2) (.ref a)) := ClX.pin_at I4
                refine ⟨⟨hb4, I4.kIn⟩, ?_⟩
                have I5 : Inv X pins σ H4 s4 := ClX.unpin I4
                cases ra with
                | cons r0 rr =>
                  have cm := hcall pins s4 σ H4 (.ref a :: us) (.ref a :: vs) (.ref n :: args) ρ4 h4 (fun _ H' => Dn.nx σ H') I5 (.cons rfl r4) (.cons r0 rr) ag4 (by
                    cases q5 : g (.ref n :: args) h4 with
                    | err => rw [q5] at f4; exact f4
                    | ex c5 n5 h5 => rw [q5] at f4; exact fun ρ' H' d C s a hn hc => f4 ρ' H' d C σ s a (as4.mono s) hn hc
                    | ok w5 h5 => rw [q5] at f4; exact fun ρ' H' z s a _ => f4 ρ' H' σ s a (as4.mono s))
                  exact wpAny_call (PySem.W.method_call hb4 cm)
              | _ => exact fin.elim
          | _ => exact fin.elim
      | _ => exact fin.elim
end
/-! THE RULE of such a def -/
section
variable {P : Program} {w : World} {K : PySem.W.Frag} {mg : Str → Option Value} {base : Heap} {x qual : Str} {params : Arguments} {body : List Stmt} {scope : Scope} {dvs : List V} {kws : List (Str × V)} {f cc D c : Addr} {fd : FuncData} {file : Str} {N ps : List Str} {k n : Nat} {G : Gx} {mb : MS}
theorem agsF {ρ : List Addr} {H : Hp} {args : List VI} {vs : List V} {ws : List (Option V)} (r : RVs G ρ H args vs) (hn : N.length = vs.length + n) (hw : ws.length ≤ n) : AgS G ρ H (args.map some ++ List.replicate n none) (startF N vs ws) := by
  unfold startF
  refine ⟨by simp [r.length]; omega, fun i v e => ?_⟩
  have hl : (args.map (some : VI → Option VI)).length = (vs.map (some : V → Option V)).length := by simp [r.length]
  by_cases q : i < (args.map (some : VI → Option VI)).length
  · rw [List.getElem?_append_left q] at e
    rw [List.getElem?_append_left (by rw [← hl]; exact q)]
    exact r.some_all i v e
  · rw [List.getElem?_append_right (Nat.le_of_not_lt q)] at e
    have := List.mem_of_getElem? e
    rw [List.mem_replicate] at this
    cases this.2
theorem fnS_M (F : FunS K x qual params body scope dvs kws f fd cc D c file) (S : NScope N ps ["__class__"] scope) (hn : N.length = ps.length + n) (h1 : 1 ≤ n)
    (hb : ∀ (A : Around) (outer : List Env) (s : Shared) (H : Hp) (E : XK), Room k (ncx (L2.CX P w) P w K mg base N (nfS x qual params body scope cc c) f A outer s H E).A →
      Takes (ncx (L2.CX P w) P w K mg base N (nfS x qual params body scope cc c) f A outer s H E) (fun c d _ H => E c d H) →
      PassesOwn (model P w) (ncx (L2.CX P w) P w K mg base N (nfS x qual params body scope cc c) f A outer s H E).A (ncx (L2.CX P w) P w K mg base N (nfS x qual params body scope cc c) f A outer s H E).env (ncx (L2.CX P w) P w K mg base N (nfS x qual params body scope cc c) f A outer s H E).xe →
      PSsT (ncx (L2.CX P w) P w K mg base N (nfS x qual params body scope cc c) f A outer s H E) body body (rdSP G (fun c d _ H => E c d H) (fun σ => σ[ps.length]? = some (some (.ref D))) mb)) : FnOk P w K mg base (L2.CX P w) (k + 1) f fd ps (spM G ps.length (runB ps.length n mb)) := by
  refine F.ok S (fun vs H Q E h => spM_len h) (fun A outer s H vs Q E hr hsp => ?_)
  have hlv := spM_len hsp
  obtain ⟨ρ, h, args, l, ag, r, fin⟩ := hsp
  refine ⟨_, hb A outer s H E hr (takes_of rfl rfl rfl rfl) (passes_of rfl), ?_, ?_⟩
  · show (startF N vs [some (.ref D)])[ps.length]? = _
    unfold startF
    rw [List.getElem?_append_right (by simp [hlv])]
    simp [hlv]
  refine ⟨ρ, _, h, agsF r (by rw [hlv]; exact hn) (by simpa using h1), ag, ?_⟩
  unfold runB at fin
  rw [show Nat.beq args.length ps.length = true from by rw [l]; exact Nat.beq_refl _] at fin
  dsimp only at fin
  cases e : mb (args.map some ++ List.replicate n none) h with
  | nx σ' h' => rw [e] at fin; exact fun ρ' H' σ2 st a' as' => fin ρ' H' .non st a' .non
  | rt v h' => rw [e] at fin; exact fin
  | bk σ' h' => rw [e] at fin; exact fin.elim
  | ct σ' h' => rw [e] at fin; exact fin.elim
  | ex c n σ' h' => rw [e] at fin; exact fun ρ' H' d C σ2 st a' as' hn hc => fin ρ' H' d C st a' hn hc
  | err => rw [e] at fin; exact fin
end
end ML
end

section
set_option Elab.async false
set_option linter.all false
set_option maxRecDepth 100000
set_option maxHeartbeats 4000000
/-! C(**e), targets of several kinds. -/
namespace MB
open PySem L2
/-- the keywords that a dict of texts gives -/
theorem kw_loop {P : Program} {w : World} {A : Around} {E : Value → Shared → Prop} {s : Shared} (f : DictEntry → List (Str × Value) → Sem (ForInStep (List (Str × Value)))) (hf : ∀ e x t acc, e.key = .str x t → f e acc = pure (.yield (acc ++ [(x, e.val)]))) :
    ∀ (l : List DictEntry) (names : List (Str × Value)) (acc : List (Str × Value)) (Q : List (Str × Value) → Shared → Prop), Pairs (mixKind P w) l (names.map fun p => (Sum.inr p.1, p.2)) → Q (acc ++ names) s → wpAny (model P w) A (forIn l acc f) Q E s
  | [], [], acc, Q, _, q => by rw [List.forIn_nil]; exact wpAny_pure (by simpa using q)
  | [], _ :: _, _, _, h, _ => nomatch h
  | _ :: _, [], _, _, h, _ => nomatch h
  | e :: l, (x, v) :: names, acc, Q, h, q => by
    cases h with
    | cons h1 h2 h3 =>
      rcases keyIs_shape (show keyIs (Sum.inr x) e.key = true from h1) with ⟨i, t, z, _⟩ | ⟨y, t, z, ek⟩
      · cases z
      · cases z
        rw [List.forIn_cons, hf e _ t acc ek]
        refine wpAny_bind (wpAny_pure ?_)
        refine kw_loop f hf l names _ Q h3 ?_
        rw [show e.val = v from h2]
        simpa using q
theorem kw_in {P : Program} {w : World} {A : Around} {E : Value → Shared → Prop} {s : Shared} {f : Value} {d : Addr} {names : List (Str × Value)} {Q : List (Str × Value) → Shared → Prop} (D : s.heap.DictOf (mixKind P w) d (names.map fun p => (Sum.inr p.1, p.2))) (q : Q names s) : wpAny (model P w) A (keywordsIn f d) Q E s := by
  obtain ⟨o, es, ep, e1, e2, e3, e4, e5, e6⟩ := D
  unfold keywordsIn
  refine wpAny_bind (wpAny_dictEntries e1 e3 (wpAny_bind ?_))
  obtain ⟨l⟩ := es
  rw [List.forIn_toArray]
  refine kw_loop _ (fun e x t acc h => ?_) l names [] _ e5 (wpAny_pure ?_)
  · simp only [h]
  · simpa using q
end MB
namespace ML
open PySem L2 PyProof.Rows
/-- f(**e): the keywords' names and values -/
def tKwD (td : TE) : L2.St → Hp → (List (Str × V) → Hp → Prop) → Prop := fun σ H Q => ∀ d, H d = none → td σ (upd H d (.dK [])) fun x H1 => ∃ a names, x = .ref a ∧ a ≠ d ∧ H1 d = some (.dK []) ∧ Rd H1 a (.dK (names.map fun p => (Sum.inr p.1, p.2))) ∧ Q names (upd H1 d (.dK (mergeK [] (names.map fun p => (Sum.inr p.1, p.2)))))
theorem kv_names : ∀ {names : List (Str × V)} {vs : List (Key × Value)}, KV (names.map fun p => (Sum.inr p.1, p.2)) vs → ∃ ns : List (Str × Value), vs = ns.map (fun p => (Sum.inr p.1, p.2)) ∧ ns.map (·.1) = names.map (·.1) ∧ Vals (names.map (·.2)) (ns.map (·.2))
  | [], _, r => by cases r; exact ⟨[], rfl, rfl, .nil⟩
  | (x, v) :: names, _, r => by
    cases r with
    | @cons _ b _ bs h t =>
      obtain ⟨b1, b2⟩ := b
      obtain ⟨ns, e1, e2, e3⟩ := kv_names t
      obtain ⟨h1, h2⟩ := h
      subst e1
      have h1' : Sum.inr x = b1 := h1
      subst h1'
      exact ⟨(x, b2) :: ns, rfl, by simp [e2], .cons h2 e3⟩
section
variable {X : Cx} {e : Expr} {x : Str} {p pos kp : Pos} {fv : Value} {td : TE}
theorem pe_kwd {R : L2.St → List (Str × V) → Hp → VK → Prop} (hg : Gl X x) (hm : X.mg x = some fv) (hkp : PySem.W.keepIn X.K fv = true) (he : PE X e td)
    (run : ∀ (pins : List (Addr × Obj)) (s : Shared) (σ : L2.St) (H : Hp) (names : List (Str × V)) (ns : List (Str × Value)) (Q : VK), Inv X pins σ H s → ns.map (·.1) = names.map (·.1) → Vals (names.map (·.2)) (ns.map (·.2)) → R σ names H Q → wpAny (model X.prog X.w) X.A (call fv [] ns) (EP X pins σ Q) X.xe s)
    (hks : backToKw pos (keywordEach [⟨none, e, kp⟩] X.env) = [(none, do let v ← eval e X.env; standAt pos; pure v)] := by rfl) (hdb : (x == ("__debug__" : Str)) = false := by decide) :
    PE X (.Call (.Name x p) [] [⟨none, e, kp⟩] pos) (fun σ H Q => tKwD td σ H fun names H' => R σ names H' Q) := by
  refine ⟨fun pins s σ H Q I h => ?_⟩
  refine wpAny_Call_Name_kw (ld_glob I hg hm ?_ hdb)
  rw [hks]
  unfold callWith
  refine wpAny_bind (wpAny_holding ?_)
  unfold evalArgs
  dsimp only
  refine wpAny_bind ?_
  rw [show backTo pos (starEach [] X.env) = [] from rfl]
  refine Calls.spliced_nil (wpAny_bind (wpAny_pure (wpAny_holding ?_)))
  rw [if_neg (by simp)]
  refine wpAny_bind ?_
  unfold mergedKeywords
  have hn := I.hok.fresh (Nat.le_refl s.heap.objs.size)
  have I1 := I.laid (a := s.heap.objs.size) (o := .dK []) (h' := s.heap.push { cls := .type "dict", data := .dict #[] }) (t' := s.toks) (fun _ _ q => Heap.get?_push_of_some _ q) (Nat.le_refl _) (dk_empty s.heap I.big)
  refine wpAny_bind (wpAny_alloc (wpAny_bind (wpAny_holding ?_)))
  generalize s.heap.objs.size = d at hn I1 ⊢
  refine wpAny_bind ?_
  rw [List.forIn_cons]
  refine wpAny_bind (wpAny_bind ?_)
  show wpAny _ _ (if ([] : List (Str × Sem Value)).isEmpty = true then pure () else _) _ _ _
  rw [if_pos (show ([] : List (Str × Sem Value)).isEmpty = true from rfl)]
  refine wpAny_pure (wpAny_bind (wpAny_bind (thn (he.run pins _ σ _ _ I1 (h d hn)) fun m s1 ⟨y, H1, I2, ry, a, names, ey, ne, e1, e2, q1⟩ => ?_)))
  subst ey
  obtain rfl : m = Value.ref a := ry
  refine wpAny_bind (wpAny_standAt (wpAny_pure ?_))
  obtain ⟨z1, low1, vs1, r1, dd1⟩ := dk_of I2.hok e1
  cases r1
  obtain ⟨z2, low2, vs2, r2, dd2⟩ := dk_rd I2.hok e2
  have len2 : vs2.length ≤ sizeLine := by rw [← Paired.length r2]; exact z2
  obtain ⟨ns, en, en1, en2⟩ := kv_names r2
  have nd2 : (vs2.map (·.1)).Nodup := let ⟨_, _, _, _, _, _, _, _, q⟩ := dd2; q
  refine wpAny_bind (wpAny_onRaise (wpAny_holding (wpAny_tryCatch (wpAny_onRaise (MB.merge_two (Ne.symm ne) low2 key_nr dd1 dd2 (by rw [List.length_nil]; omega) (fun _ => by simpa using nd2) fun h' D' sb => ?_)))))
  have he' : ∃ q, h'.get? d = some q := let ⟨q, _, _, hq, _⟩ := D'; ⟨q, hq⟩
  have hz : (mergeK [] (names.map fun p => (Sum.inr p.1, p.2))).length ≤ sizeLine := by
    have := length_mergeK (names.map fun p => ((Sum.inr p.1 : Key), p.2)) []
    rw [List.length_nil] at this
    omega
  have I3 : Inv X pins σ (upd H1 d (.dK (mergeK [] (names.map fun p => (Sum.inr p.1, p.2))))) { s1 with heap := h' } := d_write I2 (by rw [e1]; exact True.intro) sb he' (dk_new hz low1 (r2.merge .nil) D')
  refine wpAny_pure ?_
  dsimp only
  rw [List.forIn_nil]
  refine wpAny_pure ?_
  show wpAny _ _ (if ([] : List (Str × Sem Value)).isEmpty = true then pure () else _) _ _ _
  rw [if_pos (show ([] : List (Str × Sem Value)).isEmpty = true from rfl)]
  refine wpAny_pure (wpAny_pure (wpAny_bind (wpAny_pure (wpAny_bind (wpAny_holding (MB.kw_in (names := ns) ?_ (wpAny_pure ?_)))))))
  · rw [merged_nil_of_nodup vs2 nd2] at D'
    rw [← en]
    exact D'
  refine wpAny_bind (wpAny_standAt ?_)
  have call := run pins _ σ _ names ns Q I3 en1 en2 q1
  obtain ⟨k, hk, L⟩ := PySem.W.looks_keep (M := model X.prog X.w) hkp I3.kIn
  refine wpAny_bind (L.here ?_)
  rcases hk with rfl | rfl
  · refine wpAny_bind ?_
    unfold callMarked
    exact Calls.wpAny_keep (thn call fun v s2 hv => wpAny_bind (wpAny_holding (wpAny_point (wpAny_pure hv))))
  · exact wpAny_bind (wpAny_operateT (thn call fun v s2 hv => wpAny_bind (wpAny_holding (wpAny_point (wpAny_pure hv)))))
end

def keysAre : List S → List (VI × VI) → Bool
  | [], [] => true
  | s :: ss, (.str t, _) :: r => decide (s = t) && keysAre ss r
  | _, _ => false
/-- f(**e), e's keys being ks in order -/
def eKwD (ks : List S) (gk : MK) (e : ME) : ME := fun σ h => (e σ (h ++ [.dic []])).bind fun x h1 => match x with
  | .ref m => match Nat.beq m h.length, h1[h.length]?, h1[m]? with
    | false, some (.dic []), some (.dic kvs) => match keysAre ks kvs with
      | true => gk [] (kvs.map (·.2)) (h1.set h.length (.dic (putAll kvs [])))
      | false => .err
    | _, _, _ => .err
  | _ => .err
section
variable {G : Gx} {ρ : List Addr} {h : Hi} {H : Hp} {W : WX} {X : Cx} {e : Expr} {x : Str} {p pos kp : Pos} {fv : Value} {ks : List S} {gk : MK} {me : ME}
theorem keysAre_ok : ∀ {ks : List S} {kvs : List (VI × VI)} {l : List (Key × V)}, RKs G ρ H kvs l → keysAre ks kvs = true → ∃ names : List (Str × V), l = names.map (fun p => (Sum.inr p.1, p.2)) ∧ names.map (·.1) = ks.map toStr ∧ RVs G ρ H (kvs.map (·.2)) (names.map (·.2))
  | [], _, _, .nil, _ => ⟨[], rfl, rfl, .nil⟩
  | [], _, _, .cons _ _ _, e => by cases e
  | _ :: _, _, _, .nil, e => by cases e
  | s :: ss, _, _, .cons (a := a) (k := k) (x := x) hk hv t, e => by
    cases a with
    | str z =>
      obtain ⟨e1, e2⟩ := Bool.and_eq_true_iff.mp (show (decide (s = z) && keysAre ss _) = true from e)
      obtain ⟨names, n1, n2, n3⟩ := keysAre_ok t e2
      have hk' : k = Sum.inr (toStr z) := hk
      subst n1 hk'
      refine ⟨(toStr z, x) :: names, rfl, ?_, .cons hv n3⟩
      rw [List.map_cons, List.map_cons, n2, of_decide_eq_true e1]
    | _ => cases e
theorem zip_split : ∀ ns : List (Str × Value), ns = (ns.map (·.1)).zip (ns.map (·.2))
  | [] => rfl
  | (a, b) :: r => by rw [List.map_cons, List.map_cons, List.zip_cons_cons, ← zip_split r]
theorem me_kwd (c : CallK X G W fv 0 (ks.map toStr) gk) (hg : Gl X x) (hm : X.mg x = some fv) (hkp : PySem.W.keepIn X.K fv = true) (he : PE X e (rdE G W me))
    (hks : backToKw pos (keywordEach [⟨none, e, kp⟩] X.env) = [(none, do let v ← eval e X.env; standAt pos; pure v)] := by rfl) (hdb : (x == ("__debug__" : Str)) = false := by decide) :
    PE X (.Call (.Name x p) [] [⟨none, e, kp⟩] pos) (rdE G W (eKwD ks gk me)) := by
  refine PE.imp' (pe_kwd (R := fun σ names H1 Q => ∃ ρ1 h1 zargs, Ag G ρ1 h1 H1 ∧ names.map (·.1) = ks.map toStr ∧ RVs G ρ1 H1 zargs (names.map (·.2)) ∧ FinG G ρ1 H1 (RV G) Q (fun c d H' => W c d σ H') (gk [] zargs h1)) hg hm hkp he (fun pins s σ H names ns Q I en rv q => ?_) hks hdb) ?_
  · obtain ⟨ρ1, h1, zargs, ag, nk, rz, f⟩ := q
    have l : zargs.length = (ks.map toStr).length := by rw [rz.length, ← nk, List.length_map, List.length_map]
    rw [zip_split ns, en, nk]
    exact c pins s σ H [] (ns.map (·.2)) [] (names.map (·.2)) [] zargs ρ1 h1 Q I .nil rv .nil rz ag rfl l f
  · intro σ H Q ⟨ρ, σi, h, as, ag, fin⟩ d hd
    have st0 : Stp G ρ H (ρ ++ [d]) (upd H d (.dK [])) := Stp.new hd
    have ag0 : Ag G (ρ ++ [d]) (h ++ [.dic []]) (upd H d (.dK [])) := ag.new hd ⟨[], upd_same, .nil⟩
    have hx : (ρ ++ [d])[h.length]? = some d := by rw [← ag.len]; simp
    refine rdG_go (as.mono st0) ag0 (FinG.later st0 fin) fun ρ1 H1 h1 x x' st1 as1 ag1 r f1 => ?_
    cases r with
    | @ref m a q =>
      dsimp only at f1
      cases q1 : Nat.beq m h.length with
      | true => rw [q1] at f1; exact f1.elim
      | false =>
        cases q2 : h1[h.length]? with
        | none => rw [q1, q2] at f1; exact f1.elim
        | some ob =>
          cases q3 : h1[m]? with
          | none => rw [q1, q2, q3] at f1; cases ob with
            | dic l => cases l <;> exact f1.elim
            | _ => exact f1.elim
          | some ob3 =>
            rw [q1, q2, q3] at f1
            cases ob with
            | dic l =>
              cases l with
              | cons _ _ => exact f1.elim
              | nil =>
                cases ob3 with
                | dic kvs =>
                  dsimp only at f1
                  cases q4 : keysAre ks kvs with
                  | false => rw [q4] at f1; exact f1.elim
                  | true =>
                    rw [q4] at f1
                    have hd1 := st1.pre _ _ hx
                    obtain ⟨ks0, e0, r0⟩ := ag1.at_ q2 hd1
                    cases r0
                    obtain ⟨kl, e1, r1⟩ := ag1.at_ q3 q
                    have hne : m ≠ h.length := fun z => by rw [z, Nat.beq_refl] at q1; cases q1
                    obtain ⟨names, n1, n2, n3⟩ := keysAre_ok r1 q4
                    subst n1
                    refine ⟨a, names, rfl, ag1.ne q hd1 hne, e0, .inl e1, ?_⟩
                    have stA : Stp G ρ1 H1 ρ1 (upd H1 d (.dK (mergeK [] (names.map fun p => (Sum.inr p.1, p.2))))) := Stp.wr ag1 q2 hd1
                    exact ⟨ρ1, _, _, ag1.wr (u' := .dic (putAll kvs [])) q2 hd1 ⟨_, upd_same, RKs.putAll (r1.mono stA) .nil⟩, n2, n3.mono stA, FinG.later stA f1⟩
                | _ => exact f1.elim
            | _ => exact f1.elim
    | _ => exact f1.elim
end

/-! ### targets of any kinds, by a tuple -/
def gSeq : List MG → List VI → Sg → Hi → RS
  | [], [], σ, h => .nx σ h
  | g :: gs, v :: vs, σ, h => (g v σ h).andThen fun σ1 h1 => gSeq gs vs σ1 h1
  | _, _, _, _ => .err
def gTupM (gs : List MG) : MG := fun v σ h => match v with
  | .tup xs => match Nat.beq xs.length gs.length with
    | true => gSeq gs xs σ h
    | false => .err
  | _ => .err
abbrev rdGs (G : Gx) (W : WX) (gs : List MG) : TGs := fun vs σ H Q => ∃ ρ σi h xs, AgS G ρ H σi σ ∧ Ag G ρ h H ∧ RVs G ρ H xs vs ∧ FinS G ρ H { nx := Q, rt := fun _ _ => False } W (gSeq gs xs σi h)
section
variable {G : Gx} {ρ : List Addr} {h : Hi} {H : Hp} {W : WX} {X : Cx} {e : Expr} {es : List Expr} {pos : Pos} {g : MG} {gs : List MG} {k n : Nat}
theorem PGs.imp' {t t' : TGs} (h : PGs X es t) (i : ∀ vs σ H Q, t' vs σ H Q → t vs σ H Q) : PGs X es t' := ⟨fun pins s σ H vs us Q I r q => h.run pins s σ H vs us Q I r (i vs σ H Q q)⟩
theorem mgs_nil : PGs X [] (rdGs G W []) := PGs.imp' pgs_nil fun vs σ H Q ⟨ρ, σi, h, xs, as, ag, r, f⟩ => by
  cases r with
  | nil => exact ⟨rfl, f.nx ag as⟩
  | cons _ _ => exact f.elim
theorem mgs_cons (h1 : PG X e (rdGt G W g)) (on : OnlyNx g) (h2 : PGs X es (rdGs G W gs)) (hs : (assignEach (e :: es) X.env).map (·.2) = assign e X.env :: (assignEach es X.env).map (·.2) := by rfl) : PGs X (e :: es) (rdGs G W (g :: gs)) :=
  PGs.imp' (pgs_cons h1 h2 hs) fun vs σ H Q ⟨ρ, σi, h, xs, as, ag, r, f⟩ => by
    cases r with
    | nil => exact f.elim
    | @cons v x vs xs rv rs =>
      refine ⟨x, xs, rfl, ρ, σi, h, v, as, ag, rv, ?_⟩
      have f' : FinS G ρ H { nx := Q, rt := fun _ _ => False } W ((g v σi h).andThen fun σ1 h1 => gSeq gs vs σ1 h1) := f
      rcases on v σi h with ⟨σ4, h4, q⟩ | ⟨c, m, σ4, h4, q⟩ | q
      · rw [q] at f' ⊢
        exact fun ρ' H' σ' s a as' => ⟨ρ', σ4, h4, vs, as', a, rs.mono s, FinS.later s f'⟩
      · rw [q] at f' ⊢; exact f'
      · rw [q] at f' ⊢; exact f'
theorem mg_tupM (hG : G.K = X.K) (hc : X.calm = true) (h : PGs X es (rdGs G W gs))
    (hn : (assignEach es X.env).length = gs.length := by rfl) (hst : (assignEach es X.env).findIdx? (·.1) = none := by rfl) : PG X (.Tuple es k pos) (rdGt G W (gTupM gs)) :=
  ⟨fun pins s σ H v u Q I r ⟨ρ, σi, h', vi, as, ag, rv, f⟩ => (pg_tup hc h hn hst).run pins s σ H v u Q I r (by
    cases rv with
    | @tup xs ys a t rs =>
      cases q : Nat.beq xs.length gs.length with
      | false => unfold gTupM at f; dsimp only at f; rw [q] at f; exact f.elim
      | true =>
        unfold gTupM at f
        dsimp only at f
        rw [q] at f
        exact ⟨a, ys, rfl, hG ▸ t, by rw [← rs.length]; exact Nat.eq_of_beq_eq_true q, ρ, σi, h', xs, as, ag, rs, f⟩
    | _ => exact f.elim)⟩
theorem onlyNx_seq : ∀ (gs : List MG), (∀ g ∈ gs, OnlyNx g) → ∀ xs σ h, (∃ σ' h', gSeq gs xs σ h = .nx σ' h') ∨ (∃ c n σ' h', gSeq gs xs σ h = .ex c n σ' h') ∨ gSeq gs xs σ h = .err
  | [], _, [], σ, h => .inl ⟨σ, h, rfl⟩
  | [], _, _ :: _, σ, h => .inr (.inr rfl)
  | _ :: _, _, [], σ, h => .inr (.inr rfl)
  | g :: gs, on, x :: xs, σ, h => by
    have eq : gSeq (g :: gs) (x :: xs) σ h = (g x σ h).andThen fun σ1 h1 => gSeq gs xs σ1 h1 := rfl
    rw [eq]
    rcases on g List.mem_cons_self x σ h with ⟨σ4, h4, q⟩ | ⟨c, m, σ4, h4, q⟩ | q
    · rw [q]
      exact onlyNx_seq gs (fun g hg => on g (List.mem_cons_of_mem _ hg)) xs σ4 h4
    · rw [q]
      exact .inr (.inl ⟨c, m, σ4, h4, rfl⟩)
    · rw [q]
      exact .inr (.inr rfl)
theorem onlyNx_tupM (gs : List MG) (on : ∀ g ∈ gs, OnlyNx g) : OnlyNx (gTupM gs) := fun v σ h => by
  unfold gTupM
  cases v with
  | tup xs =>
    dsimp only
    cases Nat.beq xs.length gs.length with
    | true => exact onlyNx_seq gs on xs σ h
    | false => exact .inr (.inr rfl)
  | _ => exact .inr (.inr rfl)
theorem onlyNx_ixU (tbl : Nat → Option MF) (o i : ME) : OnlyNx (gIxU tbl o i) := fun v σ h => onlyNx_bindS fun x h1 => onlyNx_bindS fun y h2 => by
  cases insC x h2 with
  | none => dsimp only; cases putIx x y v h2 with
    | none => exact .inr (.inr rfl)
    | some h' => exact .inl ⟨σ, h', rfl⟩
  | some c =>
    dsimp only
    cases tbl c with
    | none => exact .inr (.inr rfl)
    | some g => dsimp only; cases g [x, y, v] h2 with
      | ok w h3 => exact .inl ⟨σ, h3, rfl⟩
      | ex c n h3 => exact .inr (.inl ⟨c, n, σ, h3, rfl⟩)
      | err => exact .inr (.inr rfl)
end
end ML
end

section
set_option Elab.async false
set_option linter.all false
set_option maxRecDepth 100000
set_option maxHeartbeats 4000000
/-! What the heap behind the top must look like, by Bools. -/
namespace ML
open PySem PySem.Spec PyProof.Rows L2 He

def lkT {α : Type} : List (Nat × α) → Nat → Option α
  | [], _ => none
  | (d, x) :: r, c => match Nat.beq d c with
    | true => some x
    | false => lkT r c
theorem lkT_cons {α : Type} {d c : Nat} {x g : α} {r : List (Nat × α)} (h : lkT ((d, x) :: r) c = some g) : (c = d ∧ g = x) ∨ lkT r c = some g := by
  unfold lkT at h
  cases q : Nat.beq d c with
  | true => rw [q] at h; exact .inl ⟨(Nat.eq_of_beq_eq_true q).symm, (Option.some.inj h).symm⟩
  | false => rw [q] at h; exact .inr h
abbrev GxOf (K : PySem.W.Frag) (mg : Str → Option Value) (nm : Nat → Option Str) : Gx := ⟨K, mg, fun c => (nm c).map (ga K)⟩
theorem gx_ct {K : PySem.W.Frag} {mg : Str → Option Value} {nm : Nat → Option Str} {c : Nat} {C : Addr} {x : Str} (h : (GxOf K mg nm).ct c = some C) (e : nm c = some x) : C = ga K x := by
  have h' : (nm c).map (ga K) = some C := h
  rw [e] at h'
  exact (Option.some.inj h').symm
/-! ### values -/
def viAll (f : VI → Value → Bool) : List VI → List Value → Bool
  | [], [] => true
  | v :: vs, u :: us => f v u && viAll f vs us
  | _, _ => false
def viB : Nat → PySem.W.Frag → VI → Value → Bool
  | 0, _, _, _ => false
  | n + 1, K, v, u => match v, u with
    | .non, .none => true
    | .bl a, .bool b => a == b
    | .int i, .int j _ => decide (i = j)
    | .str s, .str x _ => decide (x = toStr s)
    | .glo g, .ref a => eqO (PySem.W.nsIn K mainGlobals (toStr g)) (some (some (.ref a)))
    | .tup xs, .ref a => (match K.lookup a with
      | some ⟨.type c, _, .seq its _, _⟩ => decide (c = "tuple") && (decide (its.size ≤ sizeLine) && viAll (viB n K) xs its.toList)
      | _ => false)
    | _, _ => false
section
variable {K : PySem.W.Frag} {h : Heap} {mg : Str → Option Value} {nm : Nat → Option Str}
theorem viAll_ok {f : VI → Value → Bool} (ih : ∀ v u, f v u = true → ∃ x, RelV x u ∧ ∀ ρ H, RV (GxOf K mg nm) ρ H v x) : ∀ {vs : List VI} {us : List Value}, viAll f vs us = true → ∃ xs, Vals xs us ∧ ∀ ρ H, RVs (GxOf K mg nm) ρ H vs xs
  | [], [], _ => ⟨[], .nil, fun _ _ => .nil⟩
  | v :: vs, u :: us, e => by
    obtain ⟨e1, e2⟩ := ba (show (f v u && viAll f vs us) = true from e)
    obtain ⟨x, r, rv⟩ := ih v u e1
    obtain ⟨xs, rs, rvs⟩ := viAll_ok ih e2
    exact ⟨x :: xs, .cons r rs, fun ρ H => .cons (rv ρ H) (rvs ρ H)⟩
  | [], _ :: _, e => nomatch e
  | _ :: _, [], e => nomatch e
theorem viB_ok (X : K.In h) (Gn : h.Ns mainGlobals mg) : ∀ (n : Nat) (v : VI) (u : Value), viB n K v u = true → ∃ x, RelV x u ∧ ∀ ρ H, RV (GxOf K mg nm) ρ H v x
  | 0, _, _, e => nomatch e
  | n + 1, v, u, e => by
    unfold viB at e
    split at e
    · exact ⟨.non, rfl, fun _ _ => .non⟩
    · rename_i a b
      rw [eq_of_beq e]
      exact ⟨.bl b, rfl, fun _ _ => .bl b⟩
    · rename_i i j t
      rw [of_decide_eq_true e]
      exact ⟨.int j, ⟨t, rfl⟩, fun _ _ => .int j⟩
    · rename_i s x t
      have := of_decide_eq_true e
      subst this
      exact ⟨.str (toStr s), ⟨t, rfl⟩, fun _ _ => .str rfl⟩
    · rename_i g a
      exact ⟨.ref a, rfl, fun _ _ => .glo (PySem.W.mg_of X Gn (eqO_ok e))⟩
    · rename_i xs a
      split at e
      · rename_i c dd its m sl q
        obtain ⟨h1, h2⟩ := ba e
        obtain ⟨h3, h4⟩ := ba h2
        obtain ⟨ys, rs, rvs⟩ := viAll_ok (fun v u => viB_ok X Gn n v u) h4
        refine ⟨.ref a, rfl, fun ρ H => .tup (ys := ys) (.inr ⟨_, its, m, q, congrArg Value.type (of_decide_eq_true h1), rfl, of_decide_eq_true h3, rs⟩) (rvs ρ H)⟩
      · cases e
    · cases e
/-! ### fields and constants of classes -/
def fldB (K : PySem.W.Frag) (x f : Str) : Bool := (Fa.cls x).ok K && (Fa.noat x f).ok K
theorem fldOk_nil {f : S} : FldOk K (GxOf K mg nm) [] f := fun c C h _ => nomatch h
theorem fldOk_cons {f : S} {c : Nat} {x : Str} {r : List Nat} (hn : nm c = some x) (hB : fldB K x (toStr f) = true) (t : FldOk K (GxOf K mg nm) r f) : FldOk K (GxOf K mg nm) (c :: r) f := fun d C h e => by
  rw [List.contains_cons] at h
  rcases Bool.or_eq_true_iff.mp h with q | q
  · have hd : d = c := by simpa using q
    subst hd
    rw [gx_ct e hn]
    obtain ⟨b1, b2⟩ := ba hB
    exact ⟨cls_ok b1, noat_ok b2⟩
  · exact t d C q e
def conVB (K : PySem.W.Frag) (x f : Str) (v : VI) : Bool := (Fa.cls x).ok K && (match PySem.W.findIn K (.ref (ga K x)) f with
  | some (some u) => viB 8 K v u && (eqO (PySem.W.specialIn K u "__get__") (some none) && !PySem.W.copiedNames.contains f)
  | _ => false)
theorem conOk_nil {f : S} : ConOk K (GxOf K mg nm) (lkT []) f := fun c C v h _ => nomatch h
theorem conOk_cons (X : K.In h) (Gn : h.Ns mainGlobals mg) {f : S} {c : Nat} {v : VI} {x : Str} {r : List (Nat × VI)} (hn : nm c = some x) (hB : conVB K x (toStr f) v = true) (t : ConOk K (GxOf K mg nm) (lkT r) f) : ConOk K (GxOf K mg nm) (lkT ((c, v) :: r)) f := fun d C w h e => by
  rcases lkT_cons h with ⟨q1, q2⟩ | q
  · subst q1 q2
    rw [gx_ct e hn]
    obtain ⟨b1, b2⟩ := ba hB
    refine ⟨cls_ok b1, ?_⟩
    split at b2
    · rename_i u q
      obtain ⟨b3, b4⟩ := ba b2
      obtain ⟨b5, b6⟩ := ba b4
      obtain ⟨y, ry, rv⟩ := viB_ok X Gn 8 w u b3
      exact ⟨y, u, ⟨q, ry, eqO_ok b5, by simpa using b6⟩, rv⟩
    · cases b2
  · exact t d C w q e
/-! ### methods, properties, special names -/
def methB (K : PySem.W.Frag) (x m : Str) (d : PySem.W.Frag → Addr) : Bool := (Fa.cls x).ok K && (eqO (PySem.W.findIn K (.ref (ga K x)) m) (some (some (.ref (d K)))) && (PySem.W.isFn K (.ref (d K)) && PySem.W.keepIn K (.ref (d K))))
theorem methOk_nil {Y : Cx} {W : WX} {m : S} : MethOk Y (GxOf Y.K mg nm) W (lkT []) m := fun c C v h _ => nomatch h
theorem methOk_cons {Y : Cx} {W : WX} {m : S} {c : Nat} {g : MF} {x : Str} {d : PySem.W.Frag → Addr} {r : List (Nat × MF)} (hn : nm c = some x) (hB : methB Y.K x (toStr m) d = true) (cm : CallM Y (GxOf Y.K mg nm) W (.ref (d Y.K)) g)
    (t : MethOk Y (GxOf Y.K mg nm) W (lkT r) m) : MethOk Y (GxOf Y.K mg nm) W (lkT ((c, g) :: r)) m := fun c' C w h e => by
  rcases lkT_cons h with ⟨q1, q2⟩ | q
  · subst q1 q2
    rw [gx_ct e hn]
    obtain ⟨b1, b2⟩ := ba hB
    obtain ⟨b3, b4⟩ := ba b2
    obtain ⟨b5, b6⟩ := ba b4
    exact ⟨cls_ok b1, _, ⟨eqO_ok b3, b5, b6⟩, cm⟩
  · exact t c' C w q e
def propAd (K : PySem.W.Frag) (x f : Str) : Addr := match PySem.W.findIn K (.ref (ga K x)) f with
  | some (some (.ref p)) => p
  | _ => 0
def propB (K : PySem.W.Frag) (x f : Str) (d : PySem.W.Frag → Addr) : Bool := (Fa.cls x).ok K && (eqO (PySem.W.findIn K (.ref (ga K x)) f) (some (some (.ref (propAd K x f)))) && (eqO (PySem.W.specialIn K (.ref (propAd K x f)) "__get__") (some (some (.builtin "property.__get__"))) &&
  (decide (PySem.W.takesIn K (.ref (propAd K x f)) = some true) && (match PySem.W.recIn K (propAd K x f) "property" with
    | some (.ref g :: _) => decide (g = d K)
    | _ => false))))
/-- the getter of the property f of the class x -/
def getAd (x f : Str) (K : PySem.W.Frag) : Addr := match PySem.W.recIn K (propAd K x f) "property" with
  | some (.ref g :: _) => g
  | _ => 0
theorem propB_ok {x f : Str} {d : PySem.W.Frag → Addr} (hB : propB K x f d = true) : Cls K (ga K x) ∧ PropOf K (ga K x) f (propAd K x f) (d K) := by
  obtain ⟨b1, b2⟩ := ba hB
  obtain ⟨b3, b4⟩ := ba b2
  obtain ⟨b5, b6⟩ := ba b4
  obtain ⟨b7, b8⟩ := ba b6
  refine ⟨cls_ok b1, ⟨eqO_ok b3, eqO_ok b5, of_decide_eq_true b7, ?_⟩⟩
  split at b8
  · rename_i g rest q
    rw [← of_decide_eq_true b8]
    exact ⟨rest, q⟩
  · cases b8
theorem propOk_nil {Y : Cx} {f : S} : PropOk Y (GxOf Y.K mg nm) (lkT []) f := fun c C v h _ => nomatch h
theorem propOk_cons {Y : Cx} {f : S} {c : Nat} {g : MF} {x : Str} {d : PySem.W.Frag → Addr} {r : List (Nat × MF)} {k : Nat} {fd : FuncData} {ps : List Str} (hn : nm c = some x) (hB : propB Y.K x (toStr f) d = true) (F : FnP Y (GxOf Y.K mg nm) k (d Y.K) fd ps g) (hb : Binds Y.K fd ps [])
    (t : PropOk Y (GxOf Y.K mg nm) (lkT r) f) : PropOk Y (GxOf Y.K mg nm) (lkT ((c, g) :: r)) f := fun c' C w h e => by
  rcases lkT_cons h with ⟨q1, q2⟩ | q
  · subst q1 q2
    rw [gx_ct e hn]
    obtain ⟨b1, b2⟩ := propB_ok hB
    exact ⟨b1, _, _, _, _, _, b2, F.ar, F.ok, F.room.mono (by omega), hb⟩
  · exact t c' C w q e
def spB (K : PySem.W.Frag) (x m : Str) (d : PySem.W.Frag → Addr) : Bool := PySem.W.noSeq K (ga K x) && (eqO (PySem.W.findIn K (.ref (ga K x)) m) (some (some (.ref (d K)))) && (PySem.W.fnIn K (d K) && PySem.W.isFn K (.ref (d K))))
theorem spOk_nil {Y : Cx} {A : Around} {W : WX} {m : Str} : SpOk Y A (GxOf Y.K mg nm) W (lkT []) m := ⟨fun c C v h _ => nomatch h⟩
theorem spOk_cons {Y : Cx} {A : Around} {W : WX} {m : Str} {c : Nat} {g : MF} {x : Str} {d : PySem.W.Frag → Addr} {r : List (Nat × MF)} (hn : nm c = some x) (hB : spB Y.K x m d = true) (cm : CallAt Y A (GxOf Y.K mg nm) W (.ref (d Y.K)) g)
    (t : SpOk Y A (GxOf Y.K mg nm) W (lkT r) m) : SpOk Y A (GxOf Y.K mg nm) W (lkT ((c, g) :: r)) m := ⟨fun c' C w h e => by
  rcases lkT_cons h with ⟨q1, q2⟩ | q
  · subst q1 q2
    rw [gx_ct e hn]
    obtain ⟨b1, b2⟩ := ba hB
    obtain ⟨b3, b4⟩ := ba b2
    obtain ⟨b5, b6⟩ := ba b4
    exact ⟨_, b1, eqO_ok b3, b5, b6, cm⟩
  · exact t.at_ c' C w q e⟩
/-! ### isinstance -/
inductive ClsR where
  | ty (n : String) | own (x : Str)
def ClsR.val (K : PySem.W.Frag) : ClsR → Value
  | .ty n => .type n
  | .own x => .ref (ga K x)
def ClsR.v (K : PySem.W.Frag) : ClsR → V
  | .ty n => .ty n
  | .own x => .ref (ga K x)
theorem ClsR.ok (K : PySem.W.Frag) (c : ClsR) : ClsV (c.v K) (c.val K) := by
  cases c with
  | ty n => exact .ty n
  | own x => exact .own _
theorem ClsR.all (K : PySem.W.Frag) : ∀ cs : List ClsR, Paired ClsV (cs.map (ClsR.v K)) (cs.map (ClsR.val K))
  | [] => .nil
  | c :: r => .cons (c.ok K) (ClsR.all K r)
def isT1 (K : PySem.W.Frag) (cs : List ClsR) (T : String) (o : Option Bool) : Bool := match o with
  | some b => decide (PySem.W.kitAny K (.type T) (cs.map (ClsR.val K)) = some b)
  | none => true
def isI (K : PySem.W.Frag) (nm : Nat → Option Str) (cs : List ClsR) : List (Nat × Bool) → Bool
  | [] => true
  | (c, b) :: r => (match nm c with
    | some x => (Fa.cls x).ok K && (eqO (PySem.W.findIn K (.ref (ga K x)) "__class__") (some (some (.builtin "object.__class__"))) && (decide (PySem.W.mroIn K (ga K x) (.type "object") = some true) && decide (PySem.W.kitAny K (.ref (ga K x)) (cs.map (ClsR.val K)) = some b)))
    | none => false) && isI K nm cs r
/-- the answers: none, bool, int, str, list, tuple, dict, own classes by number -/
structure IsS where
  non : Option Bool
  bl : Option Bool
  int : Option Bool
  str : Option Bool
  lst : Option Bool
  tup : Option Bool
  dic : Option Bool
  ins : List (Nat × Bool)
def IsS.t (s : IsS) : IsT := ⟨s.non, s.bl, s.int, s.str, s.lst, s.tup, s.dic, lkT s.ins⟩
def isB (K : PySem.W.Frag) (nm : Nat → Option Str) (cs : List ClsR) (s : IsS) : Bool := (isT1 K cs "NoneType" s.non && (isT1 K cs "bool" s.bl && (isT1 K cs "int" s.int && (isT1 K cs "str" s.str && (isT1 K cs "list" s.lst && (isT1 K cs "tuple" s.tup && (isT1 K cs "dict" s.dic))))))) &&
  (isI K nm cs s.ins && (eqO (PySem.W.specialIn K (.builtin "object.__class__") "__get__") (some (some (.builtin "getset_descriptor.__get__"))) && decide (PySem.W.takesIn K (.builtin "object.__class__") = some true)))
theorem isT1_ok {cs : List ClsR} {T : String} {o : Option Bool} (h : isT1 K cs T o = true) : ∀ b, o = some b → PySem.W.kitAny K (.type T) (cs.map (ClsR.val K)) = some b := fun b e => by
  subst e
  exact of_decide_eq_true h
theorem isI_ok {cs : List ClsR} : ∀ {l : List (Nat × Bool)}, isI K nm cs l = true → ∀ c C b, lkT l c = some b → (GxOf K mg nm).ct c = some C → Cls K C ∧ PySem.W.findIn K (.ref C) "__class__" = some (some (.builtin "object.__class__")) ∧ PySem.W.mroIn K C (.type "object") = some true ∧ PySem.W.kitAny K (.ref C) (cs.map (ClsR.val K)) = some b
  | [], _, c, C, b, h, _ => nomatch h
  | (d, v) :: r, hB, c, C, b, h, e => by
    obtain ⟨b1, b2⟩ := ba hB
    rcases lkT_cons h with ⟨q1, q2⟩ | q
    · subst q1 q2
      cases z : nm c with
      | none => rw [z] at b1; cases b1
      | some x =>
        rw [z] at b1
        obtain ⟨b3, b4⟩ := ba b1
        obtain ⟨b5, b6⟩ := ba b4
        obtain ⟨b7, b8⟩ := ba b6
        rw [gx_ct e z]
        exact ⟨cls_ok b3, eqO_ok b5, of_decide_eq_true b7, of_decide_eq_true b8⟩
    · exact isI_ok b2 c C b q e
theorem isOk_of {cs : List ClsR} {s : IsS} (h : isB K nm cs s = true) : IsOk K (GxOf K mg nm) (cs.map (ClsR.val K)) s.t := by
  obtain ⟨h1, h2⟩ := ba h
  obtain ⟨a1, h1⟩ := ba h1
  obtain ⟨a2, h1⟩ := ba h1
  obtain ⟨a3, h1⟩ := ba h1
  obtain ⟨a4, h1⟩ := ba h1
  obtain ⟨a5, h1⟩ := ba h1
  obtain ⟨a6, a7⟩ := ba h1
  obtain ⟨b1, b2⟩ := ba h2
  obtain ⟨b3, b4⟩ := ba b2
  exact ⟨isT1_ok a1, isT1_ok a2, isT1_ok a3, isT1_ok a4, isT1_ok a5, isT1_ok a6, isT1_ok a7, isI_ok b1, eqO_ok b3, of_decide_eq_true b4⟩
end
end ML
end

section
set_option Elab.async false
set_option linter.all false
set_option maxRecDepth 100000
set_option maxHeartbeats 4000000
/-! The Hook: defs, defs with super(), tables, Bools. -/
namespace ML
open PySem PySem.Spec PyProof.Rows L2 He

/-! ### tables -/
def lkS {α : Type} : List (S × α) → S → Option α
  | [], _ => none
  | (d, x) :: r, c => match decide (d = c) with
    | true => some x
    | false => lkS r c
def kdB (K : PySem.W.Frag) (d : Addr) : List (S × VI) → Bool
  | [] => true
  | (s, v) :: r => (match PySem.W.nsIn K d (toStr s) with
    | some (some u) => viB 8 K v u
    | _ => false) && kdB K d r
section
variable {K : PySem.W.Frag} {h : Heap} {mg : Str → Option Value} {nm : Nat → Option Str}
theorem kdB_ok (X : K.In h) (Gn : h.Ns mainGlobals mg) {d : Addr} : ∀ {l : List (S × VI)}, kdB K d l = true → ∀ s v, lkS l s = some v → ∃ u x, PySem.W.nsIn K d (toStr s) = some (some u) ∧ RelV x u ∧ ∀ ρ H, RV (GxOf K mg nm) ρ H v x
  | [], _, s, v, e => nomatch e
  | (a, b) :: r, hB, s, v, e => by
    obtain ⟨b1, b2⟩ := ba hB
    unfold lkS at e
    cases q : decide (a = s) with
    | false => rw [q] at e; exact kdB_ok X Gn b2 s v e
    | true =>
      rw [q] at e
      cases e
      have := of_decide_eq_true q
      subst this
      split at b1
      · rename_i u z
        obtain ⟨x, rx, rv⟩ := viB_ok X Gn 8 b u b1
        exact ⟨u, x, z, rx, rv⟩
      · cases b1
theorem kdOk_of {Y : Cx} (X : Y.K.In h) (Gn : h.Ns mainGlobals mg) {d : Addr} {l : List (S × VI)} (D : ∃ es n, KDict Y.K Y.w d es n) (hB : kdB Y.K d l = true) : KdOk Y (GxOf Y.K mg nm) d (lkS l) := fun s w e => by
  obtain ⟨es, n, D⟩ := D
  obtain ⟨u, x, h1, h2, h3⟩ := kdB_ok X Gn hB s w e
  exact ⟨x, ⟨es, n, u, D.at_, D.lit, h1, h2⟩, h3⟩
end
/-! ### defs, by where they stand -/
structure GDef where
  at_ : PySem.W.Frag → Addr
  name : Str
  qual : Str
  params : Arguments
  body : List Stmt
  scope : Scope
  dfl : List Dv := []
  kwd : List (Str × Dv) := []
def fnG (K : PySem.W.Frag) (p : PySem.W.Frag → Addr) : FnW := match K.lookup (p K) with
  | some ⟨_, _, .func fd, _⟩ => some (fd.name, fd.qualname, fd.params, fd.body, fd.scope, fd.globals, fd.closure, fd.builtins)
  | _ => none
def GDef.val (d : GDef) : FnW := some (d.name, d.qual, d.params, .stmts d.body, d.scope, mainGlobals, [], builtinsNs)
def GDef.dvs (K : PySem.W.Frag) (d : GDef) : List V := d.dfl.map (Dv.v K)
def GDef.kws (K : PySem.W.Frag) (d : GDef) : List (Str × V) := d.kwd.map fun q => (q.1, q.2.v K)
def GDef.ok (K : PySem.W.Frag) (d : GDef) : Bool := PySem.W.keepIn K (.ref (d.at_ K)) && (match K.lookup (d.at_ K) with
  | some ⟨_, _, .func fd, _⟩ => PySem.W.codeIn K fd.code d.qual && (dflB K fd.defaults (d.dvs K) && kwdB K fd.kwdefaults (d.kws K))
  | _ => false)
theorem GDef.funD {K : PySem.W.Frag} {d : GDef} (e : fnG K d.at_ = d.val) (c : d.ok K = true) : ∃ fd, FunD K d.name d.qual d.params d.body d.scope (d.dvs K) (d.kws K) (d.at_ K) fd := by
  obtain ⟨kp, c2⟩ := ba c
  unfold fnG at e
  cases q : K.lookup (d.at_ K) with
  | none => rw [q] at c2; cases c2
  | some o =>
    obtain ⟨oc, od, dt, osl⟩ := o
    rw [q] at c2 e
    cases dt with
    | func fd =>
      obtain ⟨n1, n2, n3, n4, n5, n6, n7, n8, n9, n10, n11, n12, n13, n14, n15⟩ := fd
      have e2 : (some (n1, n2, n3, n4, n5, n6, n7, n15) : FnW) = some (d.name, d.qual, d.params, .stmts d.body, d.scope, mainGlobals, [], builtinsNs) := e
      simp only [Option.some.injEq, Prod.mk.injEq] at e2
      obtain ⟨h1, h2, h3, h4, h5, h6, h7, h8⟩ := e2
      subst h1 h2 h3 h4 h5 h6 h7 h8
      obtain ⟨k1, k2⟩ := ba (show (PySem.W.codeIn K n13 d.qual && (dflB K n8 (d.dvs K) && kwdB K n9 (d.kws K))) = true from c2)
      obtain ⟨k3, k4⟩ := ba k2
      exact ⟨_, ⟨oc, od, n8, n9, n10, n11, n12, n13, n14, osl, rfl, q, k1, dflB_ok k3, kwdB_ok k4⟩, kp⟩
    | _ => cases c2
/-! ### defs with super() -/
structure SDef where
  at_ : PySem.W.Frag → Addr
  name : Str
  qual : Str
  params : Arguments
  body : List Stmt
  scope : Scope
  kwd : List (Str × Dv) := []
  cls : Str
  file : Str
abbrev FnS : Type := Option (Str × Str × Arguments × FuncBody × Scope × Addr × Addr)
def fnS (K : PySem.W.Frag) (p : PySem.W.Frag → Addr) : FnS := match K.lookup (p K) with
  | some ⟨_, _, .func fd, _⟩ => some (fd.name, fd.qualname, fd.params, fd.body, fd.scope, fd.globals, fd.builtins)
  | _ => none
def SDef.val (d : SDef) : FnS := some (d.name, d.qual, d.params, .stmts d.body, d.scope, mainGlobals, builtinsNs)
def SDef.kws (K : PySem.W.Frag) (d : SDef) : List (Str × V) := d.kwd.map fun q => (q.1, q.2.v K)
def fdOf (K : PySem.W.Frag) (p : PySem.W.Frag → Addr) : FuncData := match K.lookup (p K) with
  | some ⟨_, _, .func fd, _⟩ => fd
  | _ => PySem.W.fnX Str.empty Str.empty ⟨[], [], none, [], [], none, []⟩ [] ⟨.function, [], false, false, []⟩ [] .none .none .none .none none .none .none
def cdAd (K : PySem.W.Frag) (p : PySem.W.Frag → Addr) : Addr := match (fdOf K p).code with
  | .ref c => c
  | _ => 0
def clAd (K : PySem.W.Frag) (p : PySem.W.Frag → Addr) : Addr := match (fdOf K p).closure with
  | [(_, c)] => c
  | _ => 0
def SDef.ok (K : PySem.W.Frag) (d : SDef) : Bool := PySem.W.keepIn K (.ref (d.at_ K)) && ((match K.lookup (d.at_ K) with
  | some ⟨_, _, .func fd, _⟩ => decide (fd.closure = [(("__class__" : Str), clAd K d.at_)]) && (decide (fd.code = .ref (cdAd K d.at_)) && (dflB K fd.defaults [] && kwdB K fd.kwdefaults (d.kws K)))
  | _ => false) && (PySem.W.codeIn K (.ref (cdAd K d.at_)) d.qual && ((match K.lookup (cdAd K d.at_) with
    | some ⟨_, _, .fields vs, _⟩ => (match (vs[2]? : Option Value) with
      | some (.str f _) => decide (f = d.file)
      | _ => false)
    | _ => false) && (match K.lookup (clAd K d.at_) with
      | some ⟨_, _, .cell (some (.ref D)), _⟩ => decide (D = ga K d.cls)
      | _ => false))))
theorem SDef.funS {K : PySem.W.Frag} {d : SDef} (e : fnS K d.at_ = d.val) (c : d.ok K = true) : FunS K d.name d.qual d.params d.body d.scope [] (d.kws K) (d.at_ K) (fdOf K d.at_) (clAd K d.at_) (ga K d.cls) (cdAd K d.at_) d.file := by
  obtain ⟨kp, c⟩ := ba c
  obtain ⟨c1, c⟩ := ba c
  obtain ⟨c2, c⟩ := ba c
  obtain ⟨c3, c4⟩ := ba c
  refine ⟨?_, c2, ?_, ?_, kp⟩
  · unfold fnS at e
    unfold fdOf
    cases q : K.lookup (d.at_ K) with
    | none => rw [q] at c1; cases c1
    | some o =>
      obtain ⟨oc, od, dt, osl⟩ := o
      rw [q] at c1 e
      cases dt with
      | func fd =>
        obtain ⟨n1, n2, n3, n4, n5, n6, n7, n8, n9, n10, n11, n12, n13, n14, n15⟩ := fd
        have e2 : (some (n1, n2, n3, n4, n5, n6, n15) : FnS) = some (d.name, d.qual, d.params, .stmts d.body, d.scope, mainGlobals, builtinsNs) := e
        simp only [Option.some.injEq, Prod.mk.injEq] at e2
        obtain ⟨h1, h2, h3, h4, h5, h6, h8⟩ := e2
        subst h1 h2 h3 h4 h5 h6 h8
        obtain ⟨k1, c5⟩ := ba (show (decide (n7 = [(("__class__" : Str), clAd K d.at_)]) && (decide (n13 = .ref (cdAd K d.at_)) && (dflB K n8 [] && kwdB K n9 (d.kws K)))) = true from c1)
        obtain ⟨k2, c6⟩ := ba c5
        obtain ⟨k3, k4⟩ := ba c6
        have k1 := of_decide_eq_true k1
        have k2 := of_decide_eq_true k2
        subst k1 k2
        exact ⟨oc, od, n8, n9, n10, n11, n12, n14, osl, rfl, rfl, dflB_ok k3, kwdB_ok k4⟩
      | _ => cases c1
  · cases q : K.lookup (cdAd K d.at_) with
    | none => rw [q] at c3; cases c3
    | some o =>
      obtain ⟨oc, od, dt, osl⟩ := o
      rw [q] at c3
      cases dt with
      | fields vs =>
        dsimp only at c3
        split at c3
        · rename_i f t z
          rw [← of_decide_eq_true c3]
          exact ⟨_, vs, t, rfl, rfl, z⟩
        · cases c3
      | _ => cases c3
  · split at c4
    · rename_i D sl q
      rw [← of_decide_eq_true c4]
      exact ⟨_, q, rfl⟩
    · cases c4
def supB (K : PySem.W.Frag) (xD : Str) (d2 : PySem.W.Frag → Addr) (l : List Str) : Bool := (PySem.W.clsIn K (ga K xD)).isSome && (eqO (PySem.W.nsIn K cStatics "thirdparty.any") (some none) && (decide (PySem.W.typeIn K (.ref (d2 K)) = some (.type "function")) && (PySem.W.fnIn K (d2 K) &&
  l.all fun x => (PySem.W.clsIn K (ga K x)).isSome && (decide (PySem.W.mroIn K (ga K x) (.ref (ga K xD)) = some true) && eqO (PySem.W.ks_superIn K (ga K x) (ga K xD) "__init__") (some (some (.ref (d2 K))))))))
/-- no list of the top: the script's object is none of K -/
def noLstB (K : PySem.W.Frag) : Bool := K.all fun p => match p.2.cls with
  | .type t => !decide (t = "list")
  | _ => true
theorem mem_lk {a : Addr} {o : Obj} : ∀ {K : List (Addr × Obj)}, K.lookup a = some o → (a, o) ∈ K
  | [], h => by cases h
  | (b, u) :: r, h => by
    rw [List.lookup_cons] at h
    cases q : a == b with
    | true =>
      rw [q] at h
      cases h
      rw [beq_iff_eq.mp q]
      exact List.mem_cons_self
    | false =>
      rw [q] at h
      exact List.mem_cons_of_mem _ (mem_lk h)
theorem noLst_ok {K : PySem.W.Frag} (h : noLstB K = true) {a : Addr} {o : Obj} (e : K.lookup a = some o) : o.cls ≠ .type "list" := fun z => by
  have m : (a, o) ∈ K := mem_lk e
  have := List.all_eq_true.mp h _ m
  dsimp only at this
  rw [z] at this
  cases this
/-! ### the Hook -/
structure MSpec where
  fn : List GDef
  sf : List SDef
  ts : List Tab
  ex : List (PySem.W.Frag → Bool)
abbrev AlM : Type := Bool × List FnW × List FnS × List (Option (List (Option (Str × Int))))
def obsM (m : MSpec) (K : PySem.W.Frag) : AlM := ((m.ex.all fun f => f K) && ((m.fn.all fun d => d.ok K) && (m.sf.all fun d => d.ok K)), m.fn.map fun d => fnG K d.at_, m.sf.map fun d => fnS K d.at_, m.ts.map fun t => dicW K (t.1 K))
def valM (m : MSpec) (w : World) : AlM := (true, m.fn.map GDef.val, m.sf.map SDef.val, m.ts.map fun t => some (keysIn w.params t.2))
def SaysM (m : MSpec) (w : World) (K : PySem.W.Frag) : Prop := obsM m K = valM m w
def asM (g : Addr → Option Obj) (n : Nat) : List Addr := cStatics :: asD g n
def obsMG (n : Nat) (m : MSpec) (g : Addr → Option Obj) : AlM := obsM m (frG g (asM g n))
def hookM (n : Nat) (m : MSpec) : PySem.W.Hook where
  α := AlM
  obs := fun s => obsMG n m s.heap.get?
  val := fun w => valM m w
  says := fun w h => ∃ K : PySem.W.Frag, K.In h ∧ SaysM m w K
  of := fun _ _ e => ⟨_, frG_in, e⟩
  keeps := fun _ _ _ ⟨K, hK, c⟩ k => ⟨K, PySem.W.Frag.In.keeps hK k, c⟩
theorem obsMG_eq {n : Nat} {m : MSpec} {g : Addr → Option Obj} {s : Shared} (h : ∀ a, g a = s.heap.get? a) : obsMG n m g = (hookM n m).obs s := by
  have e : g = s.heap.get? := funext h
  rw [e] <;> rfl
section
variable {m : MSpec} {w : World} {K : PySem.W.Frag}
theorem SaysM.b (c : SaysM m w K) : (m.ex.all fun f => f K) = true ∧ (m.fn.all fun d => d.ok K) = true ∧ (m.sf.all fun d => d.ok K) = true := by
  have e : ((m.ex.all fun f => f K) && ((m.fn.all fun d => d.ok K) && (m.sf.all fun d => d.ok K))) = true := congrArg (fun z : AlM => z.1) c
  obtain ⟨e1, e2⟩ := ba e
  obtain ⟨e3, e4⟩ := ba e2
  exact ⟨e1, e3, e4⟩
theorem SaysM.ex (c : SaysM m w K) (i : Nat) {f : PySem.W.Frag → Bool} (h : m.ex[i]? = some f := by rfl) : f K = true := List.all_eq_true.mp c.b.1 f (List.mem_of_getElem? h)
theorem SaysM.def_ (c : SaysM m w K) (i : Nat) {d : GDef} (h : m.fn[i]? = some d := by rfl) : FunD K d.name d.qual d.params d.body d.scope (d.dvs K) (d.kws K) (d.at_ K) (fdOf K d.at_) := by
  have e : m.fn.map (fun d => fnG K d.at_) = m.fn.map GDef.val := congrArg (fun z : AlM => z.2.1) c
  have e2 : (m.fn.map fun d => fnG K d.at_)[i]? = (m.fn.map GDef.val)[i]? := by rw [e]
  rw [List.getElem?_map, List.getElem?_map, h] at e2
  obtain ⟨fd, F⟩ := GDef.funD (Option.some.inj e2) (List.all_eq_true.mp c.b.2.1 d (List.mem_of_getElem? h))
  have : fdOf K d.at_ = fd := by
    obtain ⟨oc, od, dV, kV, doc, pm, an, cdv, ct, osl, _, lk, _⟩ := F.ex
    unfold fdOf
    rw [lk]
  rw [this]
  exact F
theorem SaysM.sup (c : SaysM m w K) (i : Nat) {d : SDef} (h : m.sf[i]? = some d := by rfl) : FunS K d.name d.qual d.params d.body d.scope [] (d.kws K) (d.at_ K) (fdOf K d.at_) (clAd K d.at_) (ga K d.cls) (cdAd K d.at_) d.file := by
  have e : m.sf.map (fun d => fnS K d.at_) = m.sf.map SDef.val := congrArg (fun z : AlM => z.2.2.1) c
  have e2 : (m.sf.map fun d => fnS K d.at_)[i]? = (m.sf.map SDef.val)[i]? := by rw [e]
  rw [List.getElem?_map, List.getElem?_map, h] at e2
  exact SDef.funS (Option.some.inj e2) (List.all_eq_true.mp c.b.2.2 d (List.mem_of_getElem? h))
theorem SaysM.tab (c : SaysM m w K) (i : Nat) {t : Tab} (h : m.ts[i]? = some t := by rfl) : ∃ es n, KDict K w (t.1 K) es n := by
  have e : m.ts.map (fun t => dicW K (t.1 K)) = m.ts.map fun t => some (keysIn w.params t.2) := congrArg (fun z : AlM => z.2.2.2) c
  have e2 : (m.ts.map fun t => dicW K (t.1 K))[i]? = (m.ts.map fun t => some (keysIn w.params t.2))[i]? := by rw [e]
  rw [List.getElem?_map, List.getElem?_map, h] at e2
  exact dicW_ok (Option.some.inj e2)
end
end ML
end

section
set_option Elab.async false
set_option linter.all false
set_option maxRecDepth 100000
set_option maxHeartbeats 4000000
/-! Short forms for the printed derivations. -/
namespace ML
open PySem PySem.Spec PyProof.Rows L2 He

abbrev Defn := PySem.W.Frag → Addr
abbrev gA (x : Str) : Defn := fun K => ga K x
abbrev mA (x m : Str) : Defn := fun K => He.ma K (ga K x) m
/-- what stands behind the top -/
structure Ev (m : MSpec) (w : World) (K : PySem.W.Frag) (mg : Str → Option Value) : Prop where
  says : SaysM m w K
  hh : ∃ h : Heap, K.In h ∧ h.Ns mainGlobals mg
section
variable {m : MSpec} {w : World} {K : PySem.W.Frag} {mg : Str → Option Value}
theorem Ev.glo (e : Ev m w K mg) (i : Nat) {x : Str} (h : m.ex[i]? = some (fun K => (Fa.glo x).ok K) := by rfl) : mg x = some (.ref (ga K x)) := let ⟨_, X, G⟩ := e.hh; glo_ok X G (e.says.ex i h)
theorem Ev.free (e : Ev m w K mg) (i : Nat) {x : Str} (h : m.ex[i]? = some (fun K => (Fa.free x).ok K) := by rfl) : mg x = none := let ⟨_, X, G⟩ := e.hh; free_ok X G (e.says.ex i h)
/-- new instances of the class x are made by the def q -/
def mkB (K : PySem.W.Frag) (x : Str) (q : PySem.W.Frag → Addr) : Bool := (Fa.mkr x).ok K && decide (He.ma K (ga K x) "__init__" = q K)
/-- a value of the module -/
def gvB (K : PySem.W.Frag) (x : Str) (v : VI) : Bool := match PySem.W.nsIn K mainGlobals x with
  | some (some u) => viB 8 K v u
  | _ => false
end
section
variable {G : Gx} {W : WX} {X : Cx} {e a b : Expr} {es : List Expr} {pos p : Pos} {ma : MA} {x : Str} {m : MSpec} {nm : Nat → Option Str}
theorem takes0 : Takes X W0 := fun _ _ h => let ⟨_, _, _, _, _, _, _, _, _, _, _, _, _, _, _, _, w⟩ := h; w.elim
theorem xv (i : Nat) (hN : X.N[i]? = some x := by rfl) (hv : Vis X.env.scope x := by first | exact .inl rfl | exact .inr (.inl rfl) | exact .inr (.inr rfl)) (hd : (x == ("__debug__" : Str)) = false := by decide) (hcd : (x == ("__classdict__" : Str)) = false := by decide) :
    PE X (.Name x pos) (rdE G W (eV i)) := me_var hN hv hd hcd
theorem xval {v : VI} (E : Ev m X.w X.K X.mg) (i : Nat) (hg : Gl X x) (h : m.ex[i]? = some (fun K => gvB K x v) := by rfl) (hd : (x == ("__debug__" : Str)) = false := by decide) : PE X (.Name x pos) (rdE (GxOf X.K X.mg nm) W (eC v)) := by
  have q := E.says.ex i h
  obtain ⟨hp, XI, Gn⟩ := E.hh
  unfold gvB at q
  split at q
  · rename_i u z
    obtain ⟨y, ry, rv⟩ := viB_ok XI Gn 8 v u q
    exact me_glob hg (PySem.W.mg_of XI Gn z) ry rv hd
  · cases q
/-- a def keeps its promise -/
structure DOk (P : Program) (w : World) (K : PySem.W.Frag) (mg : Str → Option Value) (base : Heap) (nm : Nat → Option Str) (k : Nat) (p : Defn) (ps : List Str) (g : MF) : Prop where
  ok : FnOk P w K mg base (L2.CX P w) k (p K) (fdOf K p) ps (spM (GxOf K mg nm) ps.length g)
  ar : Arity ps.length g
  kp : PySem.W.keepIn K (.ref (p K)) = true
abbrev XOk (X : Cx) (nm : Nat → Option Str) (k : Nat) (p : Defn) (ps : List Str) (g : MF) : Prop := DOk X.prog X.w X.K X.mg X.base nm k p ps g
abbrev BOk (K : PySem.W.Frag) (p : Defn) (ps : List Str) : Prop := Binds K (fdOf K p) ps []
theorem DOk.fp {k k' : Nat} {q : Defn} {ps : List Str} {g : MF} (d : XOk X nm k q ps g) (hr : Room k' X.A) (h : k + 2 ≤ k' := by decide) : FnP X (GxOf X.K X.mg nm) k (q X.K) (fdOf X.K q) ps g := ⟨d.ok, d.ar, hr.mono h⟩
theorem xcm {k k' : Nat} {q : Defn} {ps : List Str} {g : MF} (d : XOk X nm k q ps g) (bn : BOk X.K q ps) (hr : Room k' X.A) (tk : Takes X W) (h : k + 2 ≤ k' := by decide) : CallM X (GxOf X.K X.mg nm) W (.ref (q X.K)) g := (d.fp hr h).call bn tk
theorem xca1 {k k' : Nat} {q : Defn} {ps : List Str} {g : MF} (d : XOk X nm k q ps g) (bn : BOk X.K q ps) (hr : Room k' X.A) (tk : Takes X W) (h : k + 2 ≤ k' := by decide) : CallAt X X.A.in1 (GxOf X.K X.mg nm) W (.ref (q X.K)) g := (d.fp hr h).at1 bn tk
theorem xca0 {k k' : Nat} {q : Defn} {ps : List Str} {g : MF} (d : XOk X nm k q ps g) (bn : BOk X.K q ps) (hr : Room k' X.A) (tk : Takes X W) (h : k + 2 ≤ k' := by decide) : CallAt X X.A (GxOf X.K X.mg nm) W (.ref (q X.K)) g := (d.fp hr h).at0 bn tk
/-- f(e, ..), f a def of the module -/
theorem xcall {k k' : Nat} {x : Str} {ps : List Str} {g : MF} (d : XOk X nm k (gA x) ps g) (bn : BOk X.K (gA x) ps) (hr : Room k' X.A) (tk : Takes X W) (hm : X.mg x = some (.ref (ga X.K x))) (ha : PA X (e :: es) (rdA (GxOf X.K X.mg nm) W ma)) (h : k + 2 ≤ k' := by decide)
    (hg : Gl X x := by rfl) (hdb : (x == ("__debug__" : Str)) = false := by decide) (he : starEach (e :: es) X.env = (false, eval e X.env) :: starEach es X.env := by rfl) (hpl : (backTo pos (starEach es X.env)).any (·.1) = false := by rfl) :
    PE X (.Call (.Name x p) (e :: es) [] pos) (rdE (GxOf X.K X.mg nm) W (eCall g ma)) := me_call (xcm d bn hr tk h) hg hm d.kp ha hdb he hpl
theorem xcall0 {k k' : Nat} {x : Str} {ps : List Str} {g : MF} (d : XOk X nm k (gA x) ps g) (bn : BOk X.K (gA x) ps) (hr : Room k' X.A) (tk : Takes X W) (hm : X.mg x = some (.ref (ga X.K x))) (h : k + 2 ≤ k' := by decide)
    (hg : Gl X x := by rfl) (hdb : (x == ("__debug__" : Str)) = false := by decide) : PE X (.Call (.Name x p) [] [] pos) (rdE (GxOf X.K X.mg nm) W (eCall g aNil)) := me_call0 (xcm d bn hr tk h) hg hm d.kp hdb
/-- C(..), every parameter written -/
theorem xmk {k k' c : Nat} {x : Str} {q : Defn} {ps : List Str} {g : MF} (E : Ev m X.w X.K X.mg) (d : XOk X nm k q ps g) (bn : BOk X.K q ps) (hr : Room k' X.A) (tk : Takes X W) (j : Nat) (hc : nm c = some x)
    (hj : m.ex[j]? = some (fun K => mkB K x q) := by rfl) (h : k + 2 ≤ k' := by decide) : CallM X (GxOf X.K X.mg nm) W (.ref (ga X.K x)) (mkM c g) ∧ PySem.W.keepIn X.K (.ref (ga X.K x)) = true := by
  obtain ⟨h1, h2⟩ := ba (E.says.ex j hj)
  have M := mkr_ok h1
  rw [of_decide_eq_true h2] at M
  exact ⟨callM_make M (by show (nm c).map _ = _; rw [hc]; rfl) d.ok d.ar (hr.mono (show k + 1 ≤ k' by omega)) bn tk, M.kp⟩
/-- .. by some values, keywords, defaults -/
theorem xmkK {k k' c n : Nat} {x : Str} {q : Defn} {ps ks : List Str} {g : MF} {arr : List VI → List VI → List VI} (E : Ev m X.w X.K X.mg) (d : XOk X nm k q ps g) (bn : Bnd (GxOf X.K X.mg nm) X.K (fdOf X.K q) ps (n + 1) ks arr) (hr : Room k' X.A) (tk : Takes X W) (j : Nat) (hc : nm c = some x)
    (hj : m.ex[j]? = some (fun K => mkB K x q) := by rfl) (h : k + 2 ≤ k' := by decide) : CallK X (GxOf X.K X.mg nm) W (.ref (ga X.K x)) n ks (mkK c g arr) ∧ PySem.W.keepIn X.K (.ref (ga X.K x)) = true := by
  obtain ⟨h1, h2⟩ := ba (E.says.ex j hj)
  have M := mkr_ok h1
  rw [of_decide_eq_true h2] at M
  exact ⟨callK_make M (by show (nm c).map _ = _; rw [hc]; rfl) (d.fp hr h) bn tk, M.kp⟩
theorem xmkc {f : MF} {x : Str} (c : CallM X G W (.ref (ga X.K x)) f ∧ PySem.W.keepIn X.K (.ref (ga X.K x)) = true) (hm : X.mg x = some (.ref (ga X.K x))) (ha : PA X (e :: es) (rdA G W ma)) (hg : Gl X x := by rfl) (hdb : (x == ("__debug__" : Str)) = false := by decide)
    (he : starEach (e :: es) X.env = (false, eval e X.env) :: starEach es X.env := by rfl) (hpl : (backTo pos (starEach es X.env)).any (·.1) = false := by rfl) : PE X (.Call (.Name x p) (e :: es) [] pos) (rdE G W (eCall f ma)) := me_call c.1 hg hm c.2 ha hdb he hpl
theorem xmkc0 {f : MF} {x : Str} (c : CallM X G W (.ref (ga X.K x)) f ∧ PySem.W.keepIn X.K (.ref (ga X.K x)) = true) (hm : X.mg x = some (.ref (ga X.K x))) (hg : Gl X x := by rfl) (hdb : (x == ("__debug__" : Str)) = false := by decide) : PE X (.Call (.Name x p) [] [] pos) (rdE G W (eCall f aNil)) := me_call0 c.1 hg hm c.2 hdb
theorem xplain {b : Expr} (h : ∀ o i, subscripted b false o i = operate [o, i] (getItem o i) := by intros; rfl) : True := trivial
end
end ML
end

section
set_option Elab.async false
set_option linter.all false
set_option maxRecDepth 100000
set_option maxHeartbeats 4000000
/-! Short forms, part 2: super(), lengths. -/
namespace ML
open PySem PySem.Spec PyProof.Rows L2 He

def knw (cs : List Nat) (c : Nat) : Bool := cs.any (Nat.beq c)
def knB (nm : Nat → Option Str) (l : List Str) (cs : List Nat) : Bool := cs.all fun c => match nm c with
  | some x => l.contains x
  | none => false
theorem knw_ok {nm : Nat → Option Str} {l : List Str} {cs : List Nat} (h : knB nm l cs = true) (c : Nat) (q : knw cs c = true) : ∃ x, nm c = some x ∧ x ∈ l := by
  obtain ⟨d, hd, e⟩ := List.any_eq_true.mp q
  have := Nat.eq_of_beq_eq_true e
  subst this
  have z := List.all_eq_true.mp h c hd
  cases y : nm c with
  | none => rw [y] at z; cases z
  | some x => rw [y] at z; exact ⟨x, rfl, by simpa using z⟩
theorem supOk_of {X : Cx} {W : WX} {nm : Nat → Option Str} {x qual : Str} {params : Arguments} {body : List Stmt} {scope : Scope} {dvs : List V} {kws : List (Str × V)} {f cc c : Addr} {fd : FuncData} {file xD sf : Str} {cs : List Nat} {l : List Str} {d2 : Defn} {g : MF} {ar : Arg} {m : MSpec}
    (E : Ev m X.w X.K X.mg) (F : FunS X.K x qual params body scope dvs kws f fd cc (ga X.K xD) c file) (i : Nat) (cm : CodeM X (GxOf X.K X.mg nm) W (.ref (d2 X.K)) g) (hk : knB nm l cs = true) (hfn : X.env.func = some f) (hcode : X.env.code = .ref c)
    (har : (params.posonlyargs ++ params.args).head? = some ar) (hs : ar.arg = sf) (hfile : ((X.prog.main.file : Str) == file) = true) (htop : (X.prog.main.scope.names.lookup ("super" : Str)).isSome = false) (hB : m.ex[i]? = some (fun K => supB K xD d2 l) := by rfl) : SupOk X (GxOf X.K X.mg nm) W (knw cs) f (ga X.K xD) sf g := by
  obtain ⟨b1, b2⟩ := ba (E.says.ex i hB)
  obtain ⟨b3, b4⟩ := ba b2
  obtain ⟨b5, b6⟩ := ba b4
  obtain ⟨b7, b8⟩ := ba b6
  obtain ⟨oc, od, dV, kV, doc, pm, an, ct, osl, e1, e2, _, _⟩ := F.ex
  obtain ⟨o, vs, tf, e3, e4, e5⟩ := F.file
  refine ⟨hfn, ⟨_, fd, ar, e2, rfl, by rw [e1]; exact har, hs⟩, ⟨c, o, vs, file, tf, hcode, e3, e4, e5, hfile⟩, htop, Option.isSome_iff_exists.mp b1, eqO_ok b3, fun c' C q e => ?_⟩
  obtain ⟨y, hy, hm⟩ := knw_ok hk c' q
  rw [gx_ct e hy]
  obtain ⟨a1, a2⟩ := ba (List.all_eq_true.mp b8 y hm)
  obtain ⟨a3, a4⟩ := ba a2
  exact ⟨Option.isSome_iff_exists.mp a1, of_decide_eq_true a3, _, eqO_ok a4, of_decide_eq_true b5, b7, cm⟩
theorem aCons1 {a : ME} : ∀ σ h vs h1, aCons a aNil σ h = .ok vs h1 → vs.length = 1 := fun σ h vs h1 e => by
  unfold aCons at e
  cases q : a σ h with
  | ok x h2 => rw [q] at e; cases e; rfl
  | ex c n h2 => rw [q] at e; cases e
  | err => rw [q] at e; cases e
theorem aCons2 {a b : ME} : ∀ σ h vs h1, aCons a (aCons b aNil) σ h = .ok vs h1 → vs.length = 2 := fun σ h vs h1 e => by
  unfold aCons at e
  cases q : a σ h with
  | ok x h2 =>
    rw [q] at e
    dsimp only [Res.bind] at e
    cases q2 : b σ h2 with
    | ok y h3 => rw [q2] at e; cases e; rfl
    | ex c n h3 => rw [q2] at e; cases e
    | err => rw [q2] at e; cases e
  | ex c n h2 => rw [q] at e; cases e
  | err => rw [q] at e; cases e
/-! ### enumerate, zip -/
def enlOf : VI → Hi → Option Itm := fun v h => match v with
  | .ref n => match listAt n h with
    | some _ => some (.enl n)
    | none => none
  | _ => none
def iEnumM (e : ME) : MI := fun σ h => (e σ h).bind fun v h1 => ofI (enlOf v h1) h1
section
variable {G : Gx} {W : WX} {X : Cx} {e : Expr} {me : ME} {ρ : List Addr} {H : Hp} {p pos tpos : Pos} {elts : List Expr} {kk : Nat}
theorem itOk_enl (hG : G.K = X.K) {n : Nat} {a : Addr} (p : ρ[n]? = some a) : ItOk G ρ H (Ite X.K a) (.enl n) := fun i ρ1 h1 H1 st ag => by
  unfold Itm.nxt
  dsimp only
  cases q : listAt n h1 with
  | none => trivial
  | some xs =>
    obtain ⟨ys, hy, rs⟩ := listAt_ok X.K ag q (st.pre _ _ p)
    dsimp only
    cases q2 : xs[i]? with
    | none =>
      have : xs.length ≤ i := List.getElem?_eq_none_iff.mp q2
      exact ⟨ys, hy, by rw [← rs.length]; exact this⟩
    | some v =>
      obtain ⟨y, hy2, ry⟩ := rs.get q2
      refine ⟨⟨ys, y, hy, hy2⟩, fun x H2 ⟨T, z, e1, e2, e3, k⟩ => ?_⟩
      subst e1 e3
      have := k ys hy
      rw [hy2] at this
      cases this
      exact ⟨Stp.more e2, ag.more e2, .tup (.inl (.inl upd_same)) (.cons (.int _) (.cons (ry.mono (Stp.more e2)) .nil))⟩
theorem mi_enum (hG : G.K = X.K) (hg : Gl X "enumerate") (hm : X.mg "enumerate" = none) (he : PE X e (rdE G W me)) (hs : starEach [e] X.env = [(false, eval e X.env)] := by rfl) (hs2 : starEach [e] X.env = (false, eval e X.env) :: starEach [] X.env := by rfl) :
    PI X (.Tuple elts kk tpos) (.Call (.Name "enumerate" p) [e] [] pos) (rdI G W (iEnumM me)) :=
  PI.imp' (pi_enum hg hm (pa_cons he pa_nil hs2) hs) fun σ H R ⟨ρ, σi, h, as, ag, fin⟩ => by
    refine ⟨ρ, σi, h, as, ag, ?_⟩
    unfold iEnumM at fin
    cases q : me σi h with
    | err => rw [q] at fin; exact fin.elim
    | ex c n h1 => rw [q] at fin; exact fin
    | ok v h1 =>
      rw [q] at fin
      intro ρ1 H1 x st a1 r
      cases r with
      | @ref n a e =>
        dsimp only [Res.bind, enlOf] at fin
        cases q1 : listAt n h1 with
        | none => rw [q1] at fin; exact fin.elim
        | some xs =>
          rw [q1] at fin
          obtain ⟨ys, hy, rs⟩ := listAt_ok X.K a1 q1 e
          exact ⟨a, ys, rfl, hy, fin ρ1 H1 _ st a1 (itOk_enl hG e)⟩
      | _ => exact fin.elim
end

theorem hu1 {k : Nat} {A : Around} (r : Room k A) : A.units + 1 < cLine := by have := r.un; omega
theorem hu64 {k : Nat} {A : Around} (r : Room k A) : A.units + 64 < cLine := by have := r.un; omega
theorem hu65 {k : Nat} {A : Around} (r : Room k A) : A.units + 65 < cLine := by have := r.un; omega
theorem kwc {X : Cx} {G : Gx} {W : WX} {fv : Value} {n : Nat} {ks : List Str} {g : MK} {B : Prop} {ss : List S} (c : CallK X G W fv n ks g ∧ B) (h : ss.map toStr = ks) : CallK X G W fv n (ss.map toStr) g := by rw [h]; exact c.1
/-- the function of a staticmethod -/
def statAd (x f : Str) (K : PySem.W.Frag) : Addr := match PySem.W.recIn K (propAd K x f) "staticmethod" with
  | some (.ref g :: _) => g
  | _ => 0
section
variable {K : PySem.W.Frag} {x qual : Str} {params : Arguments} {body : List Stmt} {scope : Scope} {dvs : List V} {kws : List (Str × V)} {f cc D c : Addr} {fd : FuncData} {file : Str} {ps : List Str}
theorem FunS.bindsN (F : FunS K x qual params body scope [] kws f fd cc D c file)
    (h : ∀ (kV doc pm : Value) (an : Option Addr) (cdv ct : Value) (us : List Value), us.length = ps.length → bindArgs (PySem.W.fnX x qual params body scope [("__class__", cc)] .none kV doc pm an cdv ct) ⟨us, []⟩ = pure (ps.zip us)) : Binds K fd ps [] := by
  obtain ⟨oc, od, dV, kV, doc, pm, an, ct, osl, rfl, lk, hD, hK⟩ := F.ex
  rcases hD with ⟨_, rfl⟩ | ⟨e, _⟩
  · exact .all (h kV doc pm an _ ct)
  · exact absurd rfl e
theorem FunS.kbinds0 (F : FunS K x qual params body scope [] kws f fd cc D c file) (n : Nat) (ks : List Str) (ms : List (Str × V)) (g : {α : Type} → List α → List α → List α → List α) (hk : kws ≠ []) (hms : ∀ q ∈ ms, q ∈ kws)
    (hrel : ∀ {vs mz zs : List V} {us mv ws : List Value}, Vals vs us → Vals mz mv → Vals zs ws → Vals (g vs mz zs) (g us mv ws))
    (h : ∀ (D : Addr) (doc pm : Value) (an : Option Addr) (cdv ct : Value) (us mv ws : List Value), us.length = n → mv.length = ms.length → ws.length = ks.length →
      KwChain D ((ms.map (·.1)).zip mv) (bindArgs (PySem.W.fnX x qual params body scope [("__class__", cc)] .none (.ref D) doc pm an cdv ct) ⟨us, ks.zip ws⟩) (ps.zip (g us mv ws))) :
    ∃ mv : List Value, KBn K fd ps n ks (fun us ws => g us mv ws) (fun vs zs => g vs (ms.map (·.2)) zs) := by
  obtain ⟨oc, od, dV, kV, doc, pm, an, ct, osl, rfl, lk, hD, hK⟩ := F.ex
  rcases hD with ⟨_, rfl⟩ | ⟨e, _⟩
  · rcases hK with e | ⟨D, rfl, hq⟩
    · exact absurd e hk
    · obtain ⟨mv, hl, rk, hks⟩ := kwd_vals (ms := ms) fun q hm => hq q (hms q hm)
      exact ⟨mv, ⟨fun s us ws X l1 l2 => BindsTo.of_looks fun M => KwChain.looks X hks (h D doc pm an _ ct us mv ws l1 hl l2), fun r1 r2 => hrel r1 rk r2⟩⟩
  · exact absurd rfl e
end

/-! ### comparisons as tests -/
section
variable {G : Gx} {W : WX} {X : Cx} {a b c : Expr} {pos : Pos} {ma mb mc : ME} {f g : Op2}
theorem tOf_rd {me : ME} {σ : L2.St} {H : Hp} {Q : Bool → Hp → Prop} (r : rdT G W (tOf me) σ H Q) : rdE G W me σ H fun x H' => ∃ k, x = .bl k ∧ Q k H' :=
  let ⟨_, _, _, as, ag, f⟩ := r
  rdG_go as ag f fun ρ1 H1 h1 x x' st as ag r f => by
    cases r with
    | bl b => exact ⟨b, rfl, f.ok ag rfl⟩
    | _ => exact f.elim
theorem mt_cmpR {op : CmpOp} (ho : OpR X (compareOp op) (rd2 G f)) (ha : PE X a (rdE G W ma)) (hb : PE X b (rdE G W mb)) (hm : behindInMarks op b = false) : PT X (.Compare a [op] [b] pos) (rdT G W (tOf (eBin f ma mb))) :=
  PT.imp' (pt_cmpR ho ha hb hm) fun σ H Q r => by
    obtain ⟨ρ, σi, h, as, ag, f⟩ := tOf_rd r
    exact rdG_go as ag f fun ρ1 H1 h1 x x' st as ag r f => rdG_go as ag f fun ρ2 H2 h2 y y' st2 as ag rs f => ⟨ρ2, h2, x, y, ag, r.mono st2, rs, FinO.of f⟩
theorem mt_chainR {op op' : CmpOp} (ho : OpR X (compareOp op) (rd2 G f)) (ho' : OpR X (compareOp op') (rd2 G g)) (ha : PE X a (rdE G W ma)) (hb : PE X b (rdE G W mb)) (hc : PE X c (rdE G W mc))
    (hm : lastMarks [op, op'] [b, c] = false := by with_unfolding_all rfl) : PT X (.Compare a [op, op'] [b, c] pos) (rdT G W (tOf (eChain f g ma mb mc))) :=
  PT.imp' (pt_chain ho ho' ha hb hc hm) fun σ H Q r => by
    obtain ⟨ρ, σi, h, as, ag, fin⟩ := tOf_rd r
    refine rdG_go as ag fin fun ρ1 H1 h1 x x' st as ag r f1 => rdG_go as ag f1 fun ρ2 H2 h2 y y' st2 as ag r2 f2 => ?_
    refine ⟨ρ2, h2, x, y, ag, r.mono st2, r2, ?_⟩
    cases q : f x y h2 with
    | none => rw [q] at f2; exact f2.elim
    | some zh =>
      obtain ⟨z, h3⟩ := zh
      rw [q] at f2
      intro ρ3 H3 z' st3 ag3 rz
      have f3 := FinG.later st3 f2
      dsimp only [ofO, Res.bind] at f3
      cases rz with
      | bl k =>
        refine ⟨k, rfl, ?_⟩
        cases k with
        | true =>
          rw [if_pos rfl]
          exact rdG_go (as.mono st3) ag3 f3 fun ρ4 H4 h4 w w' st4 as ag r4 f4 => ⟨ρ4, h4, y, w, ag, r2.mono (st3.trans st4), r4, FinO.of f4⟩
        | false =>
          rw [if_neg Bool.false_ne_true]
          exact f3.ok ag3 (.bl _)
      | _ => exact f3.elim
end

/-! ### a, b = x, y -/
def sPar (i j : Nat) (ma : MA) : MS := fun σ h => (ma σ h).bindS σ fun vs h1 => match vs with
  | [v, w] => .nx ((σ.set i (some v)).set j (some w)) h1
  | _ => .err
def sPar3 (i j l : Nat) (ma : MA) : MS := fun σ h => (ma σ h).bindS σ fun vs h1 => match vs with
  | [u, v, w] => .nx (((σ.set i (some u)).set j (some v)).set l (some w)) h1
  | _ => .err
section
variable {G : Gx} {W : WX} {X : Cx} {a b c : Expr} {pos : Pos} {ma : MA} {i j l : Nat} {x y z : Str} {px py pz pt : Pos} {kt : Nat} {k2 : Nat} {pt2 : Pos}
theorem ms_par (hc : X.calm = true) (hN : X.N.Nodup) (hi : X.N[i]? = some x) (hj : X.N[j]? = some y) (hij : i ≠ j) (hx : X.env.scope.names.lookup x = some .local) (hy : X.env.scope.names.lookup y = some .local) (ha : PA X [a, b] (rdA G W ma))
    (hw : swappedStores [.Tuple [.Name x px, .Name y py] kt pt] (.Tuple [a, b] k2 pt2) X.env = pure (some [x, y])) (hs : swapsWithSole [.Tuple [.Name x px, .Name y py] kt pt] (.Tuple [a, b] k2 pt2) pos.line X.env = pure false := by rfl) :
    PS X (.Assign [.Tuple [.Name x px, .Name y py] kt pt] (.Tuple [a, b] k2 pt2) pos) (rdS G W (sPar i j ma)) :=
  PS.imp' (ps_par hc hN hi hj hij hx hy ha hw hs) fun D σ H ⟨ρ, σi, h, as, ag, fin⟩ => rdS_go as ag fin fun ρ1 H1 h1 vs ys st as ag r f => by
    cases r with
    | nil => exact f.elim
    | cons r1 t =>
      cases t with
      | nil => exact f.elim
      | cons r2 t =>
        cases t with
        | nil => exact ⟨_, _, rfl, f.nx ag ((as.set r1 i).set r2 j)⟩
        | cons _ _ => exact f.elim
theorem ms_par3 (hc : X.calm = true) (hN : X.N.Nodup) (hi : X.N[i]? = some x) (hj : X.N[j]? = some y) (hl : X.N[l]? = some z) (hij : i ≠ j) (hil : i ≠ l) (hjl : j ≠ l) (hx : X.env.scope.names.lookup x = some .local) (hy : X.env.scope.names.lookup y = some .local) (hz : X.env.scope.names.lookup z = some .local) (ha : PA X [a, b, c] (rdA G W ma))
    (hw : swappedStores [.Tuple [.Name x px, .Name y py, .Name z pz] kt pt] (.Tuple [a, b, c] k2 pt2) X.env = pure (some [x, y, z])) (hs : swapsWithSole [.Tuple [.Name x px, .Name y py, .Name z pz] kt pt] (.Tuple [a, b, c] k2 pt2) pos.line X.env = pure false := by rfl) :
    PS X (.Assign [.Tuple [.Name x px, .Name y py, .Name z pz] kt pt] (.Tuple [a, b, c] k2 pt2) pos) (rdS G W (sPar3 i j l ma)) :=
  PS.imp' (ps_par3 hc hN hi hj hl hij hil hjl hx hy hz ha hw hs) fun D σ H ⟨ρ, σi, h, as, ag, fin⟩ => rdS_go as ag fin fun ρ1 H1 h1 vs ys st as ag r f => by
    cases r with
    | nil => exact f.elim
    | cons r1 t =>
      cases t with
      | nil => exact f.elim
      | cons r2 t =>
        cases t with
        | nil => exact f.elim
        | cons r3 t =>
          cases t with
          | nil => exact ⟨_, _, _, rfl, f.nx ag (((as.set r1 i).set r2 j).set r3 l)⟩
          | cons _ _ => exact f.elim
end
/-! ### keywords put in order -/
def pk3 {α : Type} (us ms ws : List α) (q : Nat × Nat) : Option α := match q.1 with
  | 0 => us[q.2]?
  | 1 => ms[q.2]?
  | _ => ws[q.2]?
def arr3 {α : Type} : List (Nat × Nat) → List α → List α → List α → List α
  | [], _, _, _ => []
  | q :: r, us, ms, ws => match pk3 us ms ws q with
    | some x => x :: arr3 r us ms ws
    | none => arr3 r us ms ws
theorem vals_at {xs : List V} {us : List Value} (r : Vals xs us) (i : Nat) : (∃ x u, xs[i]? = some x ∧ us[i]? = some u ∧ RelV x u) ∨ (xs[i]? = none ∧ us[i]? = none) := by
  cases e : xs[i]? with
  | none => exact .inr ⟨rfl, by rw [List.getElem?_eq_none_iff] at e ⊢; rw [← r.length]; exact e⟩
  | some x =>
    obtain ⟨u, h1, h2⟩ := r.get e
    exact .inl ⟨x, u, rfl, h1, h2⟩
theorem arr3_vals {vs mz zs : List V} {us mv ws : List Value} (r1 : Vals vs us) (r2 : Vals mz mv) (r3 : Vals zs ws) : ∀ sel : List (Nat × Nat), Vals (arr3 sel vs mz zs) (arr3 sel us mv ws)
  | [] => .nil
  | (k, i) :: r => by
    have t := arr3_vals r1 r2 r3 r
    have key : (∃ x u, pk3 vs mz zs (k, i) = some x ∧ pk3 us mv ws (k, i) = some u ∧ RelV x u) ∨ (pk3 vs mz zs (k, i) = none ∧ pk3 us mv ws (k, i) = none) := by
      unfold pk3
      match k with
      | 0 => exact vals_at r1 i
      | 1 => exact vals_at r2 i
      | k + 2 => exact vals_at r3 i
    unfold arr3
    rcases key with ⟨x, u, h1, h2, h3⟩ | ⟨h1, h2⟩
    · rw [h1, h2]; exact .cons h3 t
    · rw [h1, h2]; exact t
theorem rvs_at {G : Gx} {ρ : List Addr} {H : Hp} {xs : List VI} {us : List V} (r : RVs G ρ H xs us) (i : Nat) : (∃ x u, xs[i]? = some x ∧ us[i]? = some u ∧ RV G ρ H x u) ∨ (xs[i]? = none ∧ us[i]? = none) := by
  cases e : xs[i]? with
  | none => exact .inr ⟨rfl, by rw [List.getElem?_eq_none_iff] at e ⊢; rw [← r.length]; exact e⟩
  | some x =>
    obtain ⟨u, h1, h2⟩ := r.get e
    exact .inl ⟨x, u, rfl, h1, h2⟩
theorem arr3_rvs {G : Gx} {ρ : List Addr} {H : Hp} {vs mz zs : List VI} {us mv ws : List V} (r1 : RVs G ρ H vs us) (r2 : RVs G ρ H mz mv) (r3 : RVs G ρ H zs ws) : ∀ sel : List (Nat × Nat), RVs G ρ H (arr3 sel vs mz zs) (arr3 sel us mv ws)
  | [] => .nil
  | (k, i) :: r => by
    have t := arr3_rvs r1 r2 r3 r
    have key : (∃ x u, pk3 vs mz zs (k, i) = some x ∧ pk3 us mv ws (k, i) = some u ∧ RV G ρ H x u) ∨ (pk3 vs mz zs (k, i) = none ∧ pk3 us mv ws (k, i) = none) := by
      unfold pk3
      match k with
      | 0 => exact rvs_at r1 i
      | 1 => exact rvs_at r2 i
      | k + 2 => exact rvs_at r3 i
    unfold arr3
    rcases key with ⟨x, u, h1, h2, h3⟩ | ⟨h1, h2⟩
    · rw [h1, h2]; exact .cons h3 t
    · rw [h1, h2]; exact t
end ML
end

section
set_option Elab.async false
set_option linter.all false
set_option maxRecDepth 100000
set_option maxHeartbeats 4000000
/-! Locality: what runs on a small heap runs so on each greater one. -/
namespace ML
open PySem L2

mutual
inductive RV2 (r : List Nat) : VI → VI → Prop
  | non : RV2 r .non .non
  | bl (b : Bool) : RV2 r (.bl b) (.bl b)
  | int (i : Int) : RV2 r (.int i) (.int i)
  | str (s : S) : RV2 r (.str s) (.str s)
  | glo (g : S) : RV2 r (.glo g) (.glo g)
  | ref {n m : Nat} (e : r[n]? = some m) : RV2 r (.ref n) (.ref m)
  | tup {xs ys : List VI} (t : RVs2 r xs ys) : RV2 r (.tup xs) (.tup ys)
inductive RVs2 (r : List Nat) : List VI → List VI → Prop
  | nil : RVs2 r [] []
  | cons {v x : VI} {vs xs : List VI} (h : RV2 r v x) (t : RVs2 r vs xs) : RVs2 r (v :: vs) (x :: xs)
end
/-- a later state of the greater heap -/
structure Ex2 (r : List Nat) (h : Hi) (r' : List Nat) (h' : Hi) : Prop where
  more : ∃ q, r' = r ++ q ∧ ∀ m ∈ q, h.length ≤ m
  len : h.length ≤ h'.length
  rest : ∀ m, m ∉ r → m < h.length → h'[m]? = h[m]?
theorem Ex2.refl {r : List Nat} {h : Hi} : Ex2 r h r h := ⟨⟨[], by simp, fun _ z => by cases z⟩, Nat.le_refl _, fun _ _ _ => rfl⟩
theorem Ex2.pre {r r' : List Nat} {h h' : Hi} (e : Ex2 r h r' h') {n m : Nat} (q : r[n]? = some m) : r'[n]? = some m := by
  obtain ⟨l, rfl, _⟩ := e.more
  rw [List.getElem?_append_left (List.getElem?_eq_some_iff.mp q).1]
  exact q
theorem Ex2.trans {r r1 r2 : List Nat} {h h1 h2 : Hi} (a : Ex2 r h r1 h1) (b : Ex2 r1 h1 r2 h2) : Ex2 r h r2 h2 := by
  obtain ⟨l, rfl, hl⟩ := a.more
  obtain ⟨l2, rfl, hl2⟩ := b.more
  refine ⟨⟨l ++ l2, by simp, fun m hm => ?_⟩, Nat.le_trans a.len b.len, fun m hm hlt => ?_⟩
  · rcases List.mem_append.mp hm with z | z
    · exact hl m z
    · exact Nat.le_trans a.len (hl2 m z)
  · rw [b.rest m (fun z => ?_) (Nat.lt_of_lt_of_le hlt a.len)]
    · exact a.rest m hm hlt
    · rcases List.mem_append.mp z with z | z
      · exact hm z
      · exact absurd (hl m z) (Nat.not_le.mpr hlt)
section
variable {r r' : List Nat} {h h' : Hi}
mutual
theorem RV2.mono (e : Ex2 r h r' h') : ∀ {v x : VI}, RV2 r v x → RV2 r' v x
  | _, _, .non => .non
  | _, _, .bl b => .bl b
  | _, _, .int i => .int i
  | _, _, .str s => .str s
  | _, _, .glo g => .glo g
  | _, _, .ref q => .ref (e.pre q)
  | _, _, .tup t => .tup (RVs2.mono e t)
theorem RVs2.mono (e : Ex2 r h r' h') : ∀ {v x : List VI}, RVs2 r v x → RVs2 r' v x
  | _, _, .nil => .nil
  | _, _, .cons a t => .cons (RV2.mono e a) (RVs2.mono e t)
end
theorem RVs2.length : ∀ {v x : List VI}, RVs2 r v x → v.length = x.length
  | _, _, .nil => rfl
  | _, _, .cons _ t => by rw [List.length_cons, List.length_cons, t.length]
theorem RVs2.get : ∀ {v x : List VI} {i : Nat} {a : VI}, RVs2 r v x → v[i]? = some a → ∃ b, x[i]? = some b ∧ RV2 r a b
  | _, _, _, _, .nil, e => by simp at e
  | _, _, 0, _, .cons h _, e => by simp at e; subst e; exact ⟨_, rfl, h⟩
  | _, _, i + 1, _, .cons _ t, e => by
    obtain ⟨b, h1, h2⟩ := RVs2.get (i := i) t (by simpa using e)
    exact ⟨b, by simpa using h1, h2⟩
theorem RVs2.none {v x : List VI} {i : Nat} (t : RVs2 r v x) (e : v[i]? = none) : x[i]? = none := by
  rw [List.getElem?_eq_none_iff] at e ⊢
  rw [← t.length]
  exact e
theorem RVs2.append : ∀ {v w x y : List VI}, RVs2 r v x → RVs2 r w y → RVs2 r (v ++ w) (x ++ y)
  | _, _, _, _, .nil, k => k
  | _, _, _, _, .cons a t, k => .cons a (RVs2.append t k)
theorem RVs2.set : ∀ {v x : List VI} {a b : VI} (i : Nat), RVs2 r v x → RV2 r a b → RVs2 r (v.set i a) (x.set i b)
  | _, _, _, _, _, .nil, _ => .nil
  | _, _, _, _, 0, .cons _ t, k => .cons k t
  | _, _, _, _, i + 1, .cons a t, k => .cons a (RVs2.set i t k)
theorem RVs2.take : ∀ {v x : List VI} (n : Nat), RVs2 r v x → RVs2 r (v.take n) (x.take n)
  | _, _, 0, _ => .nil
  | _, _, _ + 1, .nil => .nil
  | _, _, n + 1, .cons a t => .cons a (RVs2.take n t)
theorem RVs2.drop : ∀ {v x : List VI} (n : Nat), RVs2 r v x → RVs2 r (v.drop n) (x.drop n)
  | _, _, 0, k => k
  | _, _, _ + 1, .nil => .nil
  | _, _, n + 1, .cons _ t => RVs2.drop n t
end
inductive RFs2 (r : List Nat) : List (S × VI) → List (S × VI) → Prop
  | nil : RFs2 r [] []
  | cons {f : S} {v x : VI} {fs gs : List (S × VI)} (h : RV2 r v x) (t : RFs2 r fs gs) : RFs2 r ((f, v) :: fs) ((f, x) :: gs)
/-- a dict's keys are the same, whatever they are (a reference is none) -/
def KV2 (r : List Nat) (a b : VI) : Prop := RV2 r a b
inductive RKs2 (r : List Nat) : List (VI × VI) → List (VI × VI) → Prop
  | nil : RKs2 r [] []
  | cons {a b v x : VI} {fs gs : List (VI × VI)} (k : RV2 r a b) (h : RV2 r v x) (t : RKs2 r fs gs) : RKs2 r ((a, v) :: fs) ((b, x) :: gs)
inductive RO2 (r : List Nat) : OI → OI → Prop
  | lst {xs ys : List VI} (h : RVs2 r xs ys) : RO2 r (.lst xs) (.lst ys)
  | scr {xs ys : List VI} (h : RVs2 r xs ys) : RO2 r (.scr xs) (.scr ys)
  | dic {xs ys : List (VI × VI)} (h : RKs2 r xs ys) : RO2 r (.dic xs) (.dic ys)
  | ins {c : Nat} {xs ys : List (S × VI)} (h : RFs2 r xs ys) : RO2 r (.ins c xs) (.ins c ys)
  | xd {xs ys : List (S × VI)} (h : RFs2 r xs ys) : RO2 r (.xd xs) (.xd ys)
section
variable {r r' : List Nat} {h h' s : Hi}
theorem RFs2.mono (e : Ex2 r h r' h') : ∀ {v x : List (S × VI)}, RFs2 r v x → RFs2 r' v x
  | _, _, .nil => .nil
  | _, _, .cons a t => .cons (a.mono e) (RFs2.mono e t)
theorem RKs2.mono (e : Ex2 r h r' h') : ∀ {v x : List (VI × VI)}, RKs2 r v x → RKs2 r' v x
  | _, _, .nil => .nil
  | _, _, .cons k a t => .cons (k.mono e) (a.mono e) (RKs2.mono e t)
theorem RO2.mono (e : Ex2 r h r' h') : ∀ {v x : OI}, RO2 r v x → RO2 r' v x
  | _, _, .lst t => .lst (t.mono e)
  | _, _, .scr t => .scr (t.mono e)
  | _, _, .dic t => .dic (t.mono e)
  | _, _, .ins t => .ins (t.mono e)
  | _, _, .xd t => .xd (t.mono e)
theorem RFs2.length : ∀ {v x : List (S × VI)}, RFs2 r v x → v.length = x.length
  | _, _, .nil => rfl
  | _, _, .cons _ t => by rw [List.length_cons, List.length_cons, t.length]
theorem RKs2.length : ∀ {v x : List (VI × VI)}, RKs2 r v x → v.length = x.length
  | _, _, .nil => rfl
  | _, _, .cons _ _ t => by rw [List.length_cons, List.length_cons, t.length]
/-- the small heap s stands in h, object n at r[n] -/
structure Ag2 (r : List Nat) (s h : Hi) : Prop where
  nd : r.Nodup
  len : r.length = s.length
  ob : ∀ (n : Nat) (o : OI), s[n]? = some o → ∃ (m : Nat) (o' : OI), r[n]? = some m ∧ h[m]? = some o' ∧ RO2 r o o'
theorem Ag2.at_ (a : Ag2 r s h) {n m : Nat} {o : OI} (e : s[n]? = some o) (p : r[n]? = some m) : ∃ o', h[m]? = some o' ∧ RO2 r o o' := by
  obtain ⟨m', o', h1, h2, h3⟩ := a.ob n o e
  rw [p] at h1
  cases h1
  exact ⟨o', h2, h3⟩
theorem Ag2.lt (a : Ag2 r s h) {m : Nat} (hm : m ∈ r) : m < h.length := by
  obtain ⟨n, hn, e⟩ := List.mem_iff_getElem.mp hm
  have hl : n < s.length := by rw [← a.len]; exact hn
  obtain ⟨m', o', h1, h2, _⟩ := a.ob n s[n] (by simp [hl])
  have : r[n]? = some r[n] := by simp [hn]
  rw [this] at h1
  cases h1
  rw [e] at h2
  exact (List.getElem?_eq_some_iff.mp h2).1
theorem Ag2.new (a : Ag2 r s h) {o o' : OI} (k : RO2 (r ++ [h.length]) o o') : Ag2 (r ++ [h.length]) (s ++ [o]) (h ++ [o']) ∧ Ex2 r h (r ++ [h.length]) (h ++ [o']) := by
  have ext : Ex2 r h (r ++ [h.length]) (h ++ [o']) := ⟨⟨[h.length], rfl, fun m hm => by rw [List.mem_singleton] at hm; omega⟩, by simp, fun m _ hlt => List.getElem?_append_left hlt⟩
  refine ⟨⟨?_, by simp [a.len], fun n u e => ?_⟩, ext⟩
  · rw [List.nodup_append]
    refine ⟨a.nd, by simp, fun x hx y hy => ?_⟩
    rw [List.mem_singleton] at hy
    have := a.lt hx
    omega
  · by_cases hn : n < s.length
    · rw [List.getElem?_append_left hn] at e
      obtain ⟨m, u', h1, h2, h3⟩ := a.ob n u e
      refine ⟨m, u', ext.pre h1, ?_, h3.mono ext⟩
      rw [List.getElem?_append_left (List.getElem?_eq_some_iff.mp h2).1]
      exact h2
    · have hle := Nat.le_of_not_lt hn
      rw [List.getElem?_append_right hle] at e
      have hz : n - s.length = 0 := by
        have := (List.getElem?_eq_some_iff.mp e).1
        simp at this
        omega
      rw [hz] at e
      simp at e
      subst e
      have : n = r.length := by rw [a.len]; omega
      exact ⟨h.length, o', by rw [this]; simp, by simp, k⟩
theorem Ag2.idx (a : Ag2 r s h) : (r ++ [h.length])[s.length]? = some h.length := by rw [← a.len]; simp
theorem Ag2.wr (a : Ag2 r s h) {n m : Nat} {u o o' : OI} (hn : s[n]? = some u) (p : r[n]? = some m) (k : RO2 r o o') : Ag2 r (s.set n o) (h.set m o') ∧ Ex2 r h r (h.set m o') := by
  have hm : m ∈ r := List.mem_of_getElem? p
  refine ⟨⟨a.nd, by simp [a.len], fun j v e => ?_⟩, ⟨⟨[], by simp, fun _ z => by cases z⟩, by simp, fun j hj hlt => List.getElem?_set_ne (by intro z; subst z; exact hj hm)⟩⟩
  rw [List.getElem?_set] at e
  by_cases hj : n = j
  · subst hj
    rw [if_pos rfl, if_pos (List.getElem?_eq_some_iff.mp hn).1] at e
    cases e
    exact ⟨m, o', p, List.getElem?_set_self (a.lt hm), k⟩
  · rw [if_neg hj] at e
    obtain ⟨m', v', h1, h2, h3⟩ := a.ob j v e
    refine ⟨m', v', h1, ?_, h3⟩
    rw [List.getElem?_set_ne]
    · exact h2
    · intro z
      subst z
      obtain ⟨l1, e1⟩ := List.getElem?_eq_some_iff.mp p
      obtain ⟨l2, e2⟩ := List.getElem?_eq_some_iff.mp h1
      have pw := List.pairwise_iff_getElem.mp a.nd
      rcases Nat.lt_trichotomy n j with l | l | l
      · exact pw n j l1 l2 l (e1.trans e2.symm)
      · exact hj l
      · exact pw j n l2 l1 l (e2.trans e1.symm)
structure AS2 (r : List Nat) (σ σ' : Sg) : Prop where
  len : σ.length = σ'.length
  at_ : ∀ (i : Nat) (v : VI), σ[i]? = some (some v) → ∃ x : VI, σ'[i]? = some (some x) ∧ RV2 r v x
theorem AS2.mono {σ σ' : Sg} (a : AS2 r σ σ') (e : Ex2 r h r' h') : AS2 r' σ σ' := ⟨a.len, fun i v q => let ⟨x, h1, h2⟩ := a.at_ i v q; ⟨x, h1, h2.mono e⟩⟩
theorem AS2.set {σ σ' : Sg} (a : AS2 r σ σ') {v x : VI} (k : RV2 r v x) (i : Nat) : AS2 r (σ.set i (some v)) (σ'.set i (some x)) := by
  refine ⟨by simp [a.len], fun j w e => ?_⟩
  rw [List.getElem?_set] at e ⊢
  by_cases hj : i = j
  · subst hj
    rw [if_pos rfl] at e ⊢
    by_cases hl : i < σ.length
    · rw [if_pos hl] at e
      rw [if_pos (by rw [← a.len]; exact hl)]
      cases e
      exact ⟨x, rfl, k⟩
    · rw [if_neg hl] at e; cases e
  · rw [if_neg hj] at e ⊢
    exact a.at_ j w e
theorem AS2.lose {σ σ' : Sg} (a : AS2 r σ σ') (i : Nat) : AS2 r (σ.set i none) (σ'.set i none) := by
  refine ⟨by simp [a.len], fun j w e => ?_⟩
  rw [List.getElem?_set] at e ⊢
  by_cases hj : i = j
  · subst hj
    rw [if_pos rfl] at e
    by_cases hl : i < σ.length
    · rw [if_pos hl] at e; cases e
    · rw [if_neg hl] at e; cases e
  · rw [if_neg hj] at e ⊢
    exact a.at_ j w e
/-! ### runs -/
def L2R {α : Type} (R : List Nat → α → α → Prop) (r : List Nat) (h : Hi) (a a' : Res α) : Prop := match a with
  | .ok v s' => ∃ r' h' v', a' = .ok v' h' ∧ Ex2 r h r' h' ∧ Ag2 r' s' h' ∧ R r' v v'
  | .ex c n s' => ∃ r' h' m, a' = .ex c m h' ∧ Ex2 r h r' h' ∧ Ag2 r' s' h' ∧ r'[n]? = some m
  | .err => True
def L2O {α : Type} (R : List Nat → α → α → Prop) (r : List Nat) (h : Hi) (a a' : Option (α × Hi)) : Prop := match a with
  | some (v, s') => ∃ r' h' v', a' = some (v', h') ∧ Ex2 r h r' h' ∧ Ag2 r' s' h' ∧ R r' v v'
  | none => True
theorem L2R.bind {α β : Type} {R : List Nat → α → α → Prop} {R' : List Nat → β → β → Prop} {a a' : Res α} {k k' : α → Hi → Res β} (h1 : L2R R r h a a')
    (h2 : ∀ r1 s1 h1 x x', Ex2 r h r1 h1 → Ag2 r1 s1 h1 → R r1 x x' → L2R R' r1 h1 (k x s1) (k' x' h1)) : L2R R' r h (a.bind k) (a'.bind k') := by
  cases a with
  | err => trivial
  | ex c n s' =>
    obtain ⟨r', h', m, rfl, e, g, q⟩ := h1
    exact ⟨r', h', m, rfl, e, g, q⟩
  | ok v s' =>
    obtain ⟨r', h', v', rfl, e, g, q⟩ := h1
    have t := h2 r' s' h' v v' e g q
    show L2R R' r h (k v s') (k' v' h')
    cases z : k v s' with
    | err => trivial
    | ex c n s2 => rw [z] at t; obtain ⟨r2, h2, m, e1, e2, g2, q2⟩ := t; exact ⟨r2, h2, m, e1, e.trans e2, g2, q2⟩
    | ok w s2 => rw [z] at t; obtain ⟨r2, h2, w', e1, e2, g2, q2⟩ := t; exact ⟨r2, h2, w', e1, e.trans e2, g2, q2⟩
theorem L2R.ok {α : Type} {R : List Nat → α → α → Prop} {v v' : α} (g : Ag2 r s h) (k : R r v v') : L2R R r h (.ok v s) (.ok v' h) := ⟨r, h, v', rfl, .refl, g, k⟩
theorem L2R.okE {α : Type} {R : List Nat → α → α → Prop} {v v' : α} {r' : List Nat} {s' h' : Hi} (e : Ex2 r h r' h') (g : Ag2 r' s' h') (k : R r' v v') : L2R R r h (.ok v s') (.ok v' h') := ⟨r', h', v', rfl, e, g, k⟩
theorem L2R.ofO {α : Type} {R : List Nat → α → α → Prop} {a a' : Option (α × Hi)} (h1 : L2O R r h a a') : L2R R r h (ofO a) (ofO a') := by
  cases a with
  | none => trivial
  | some p =>
    obtain ⟨v, s'⟩ := p
    obtain ⟨r', h', v', rfl, e, g, q⟩ := h1
    exact ⟨r', h', v', rfl, e, g, q⟩
theorem L2O.ok {α : Type} {R : List Nat → α → α → Prop} {v v' : α} (g : Ag2 r s h) (k : R r v v') : L2O R r h (some (v, s)) (some (v', h)) := ⟨r, h, v', rfl, .refl, g, k⟩
/-- a new object -/
theorem L2O.new {o o' : OI} (g : Ag2 r s h) (k : ∀ r', Ex2 r h r' (h ++ [o']) → RO2 r' o o') : L2O RV2 r h (some (.ref s.length, s ++ [o])) (some (.ref h.length, h ++ [o'])) := by
  have e0 : Ex2 r h (r ++ [h.length]) (h ++ [o']) := ⟨⟨[h.length], rfl, fun m hm => by rw [List.mem_singleton] at hm; omega⟩, by simp, fun m _ hlt => List.getElem?_append_left hlt⟩
  obtain ⟨g', e⟩ := g.new (k _ e0)
  exact ⟨_, _, _, rfl, e, g', .ref g.idx⟩
theorem L2R.new {o o' : OI} (g : Ag2 r s h) (k : ∀ r', Ex2 r h r' (h ++ [o']) → RO2 r' o o') : L2R RV2 r h (.ok (.ref s.length) (s ++ [o])) (.ok (.ref h.length) (h ++ [o'])) := L2R.ofO (L2O.new g k)
end
/-! ### what runs locally -/
class LF (f : MF) : Prop where
  run : ∀ r s h vs vs', Ag2 r s h → RVs2 r vs vs' → L2R RV2 r h (f vs s) (f vs' h)
class LE (m : ME) : Prop where
  run : ∀ r s h σ σ', Ag2 r s h → AS2 r σ σ' → L2R RV2 r h (m σ s) (m σ' h)
class LT (m : MT) : Prop where
  run : ∀ r s h σ σ', Ag2 r s h → AS2 r σ σ' → L2R (fun _ (a b : Bool) => a = b) r h (m σ s) (m σ' h)
class LA (m : MA) : Prop where
  run : ∀ r s h σ σ', Ag2 r s h → AS2 r σ σ' → L2R RVs2 r h (m σ s) (m σ' h)
class LO (m : MO) : Prop where
  run : ∀ r s h σ σ', Ag2 r s h → AS2 r σ σ' → L2R (fun _ (a b : Option Int) => a = b) r h (m σ s) (m σ' h)
class LOp (f : Op2) : Prop where
  run : ∀ r s h x y x' y', Ag2 r s h → RV2 r x x' → RV2 r y y' → L2O RV2 r h (f x y s) (f x' y' h)
class LOc (f : OpC) : Prop where
  run : ∀ r s h vs vs', Ag2 r s h → RVs2 r vs vs' → L2O RV2 r h (f vs s) (f vs' h)
class LOm (f : OpM) : Prop where
  run : ∀ r s h x x' vs vs', Ag2 r s h → RV2 r x x' → RVs2 r vs vs' → L2O RV2 r h (f x vs s) (f x' vs' h)
/-- a constant -/
class CV (v : VI) : Prop where
  self : ∀ r, RV2 r v v
class CVs (v : List VI) : Prop where
  self : ∀ r, RVs2 r v v
instance : CV .non := ⟨fun _ => .non⟩
instance {b : Bool} : CV (.bl b) := ⟨fun _ => .bl b⟩
instance {b : Int} : CV (.int b) := ⟨fun _ => .int b⟩
instance {b : S} : CV (.str b) := ⟨fun _ => .str b⟩
instance {b : S} : CV (.glo b) := ⟨fun _ => .glo b⟩
instance : CVs [] := ⟨fun _ => .nil⟩
instance {v : VI} {vs : List VI} [a : CV v] [b : CVs vs] : CVs (v :: vs) := ⟨fun r => .cons (a.self r) (b.self r)⟩
instance {vs : List VI} [b : CVs vs] : CV (.tup vs) := ⟨fun r => .tup (b.self r)⟩
section
variable {ma mb mc : ME} {ta tb : MT} {aa : MA} {f g : Op2}
instance {i : Nat} : LE (eV i) := ⟨fun r s h σ σ' g a => by
  unfold eV
  cases e : σ[i]? with
  | none => trivial
  | some o =>
    cases o with
    | none => trivial
    | some v =>
      obtain ⟨x, h1, h2⟩ := a.at_ i v e
      rw [h1]
      exact .ok g h2⟩
instance {v : VI} [c : CV v] : LE (eC v) := ⟨fun r s h σ σ' g a => .ok g (c.self r)⟩
instance : LA aNil := ⟨fun r s h σ σ' g a => .ok g .nil⟩
instance [x : LE ma] [y : LA aa] : LA (aCons ma aa) := ⟨fun r s h σ σ' g a => (x.run r s h σ σ' g a).bind fun r1 s1 h1 v v' e1 g1 q1 => (y.run _ _ _ _ _ g1 (a.mono e1)).bind fun r2 s2 h2 vs vs' e2 g2 q2 => .ok g2 (.cons (q1.mono e2) q2)⟩
instance [y : LA aa] : LE (eTup aa) := ⟨fun r s h σ σ' g a => (y.run r s h σ σ' g a).bind fun r1 s1 h1 v v' e1 g1 q1 => by
  rw [q1.length]
  cases small v'.length with
  | true => exact .ok g1 (.tup q1)
  | false => trivial⟩
instance [y : LA aa] : LE (eLst aa) := ⟨fun r s h σ σ' g a => (y.run r s h σ σ' g a).bind fun r1 s1 h1 v v' e1 g1 q1 => by
  rw [q1.length]
  cases small v'.length with
  | true => exact .new g1 fun r' e => .lst (q1.mono e)
  | false => trivial⟩
instance [x : LE ma] [y : LE mb] [o : LOp f] : LE (eBin f ma mb) := ⟨fun r s h σ σ' g a => (x.run r s h σ σ' g a).bind fun r1 s1 h1 v v' e1 g1 q1 => (y.run _ _ _ _ _ g1 (a.mono e1)).bind fun r2 s2 h2 w w' e2 g2 q2 => .ofO (o.run _ _ _ _ _ _ _ g2 (q1.mono e2) q2)⟩
instance [x : LE ma] : LT (tOf ma) := ⟨fun r s h σ σ' g a => (x.run r s h σ σ' g a).bind fun r1 s1 h1 v v' e1 g1 q1 => by
  cases q1 with
  | bl b => exact .ok g1 rfl
  | _ => trivial⟩
instance [x : LT ta] [y : LT tb] : LT (tAndM ta tb) := ⟨fun r s h σ σ' g a => (x.run r s h σ σ' g a).bind fun r1 s1 h1 v v' e1 g1 q1 => by
  subst q1
  cases v with
  | true => exact y.run _ _ _ _ _ g1 (a.mono e1)
  | false => exact .ok g1 rfl⟩
instance [x : LT ta] [y : LT tb] : LT (tOrM ta tb) := ⟨fun r s h σ σ' g a => (x.run r s h σ σ' g a).bind fun r1 s1 h1 v v' e1 g1 q1 => by
  subst q1
  cases v with
  | false => exact y.run _ _ _ _ _ g1 (a.mono e1)
  | true => exact .ok g1 rfl⟩
instance [x : LT ta] : LT (tNotM ta) := ⟨fun r s h σ σ' g a => (x.run r s h σ σ' g a).bind fun r1 s1 h1 v v' e1 g1 q1 => by
  subst q1
  exact .ok g1 rfl⟩
instance : LT tYesM := ⟨fun r s h σ σ' g a => .ok g rfl⟩
instance [x : LE ma] [y : LE mb] : LE (eAnd ma mb) := ⟨fun r s h σ σ' g a => (x.run r s h σ σ' g a).bind fun r1 s1 h1 v v' e1 g1 q1 => by
  cases q1 with
  | bl b =>
    cases b with
    | true => exact y.run _ _ _ _ _ g1 (a.mono e1)
    | false => exact .ok g1 (.bl _)
  | _ => trivial⟩
instance [x : LE ma] [y : LE mb] : LE (eOr ma mb) := ⟨fun r s h σ σ' g a => (x.run r s h σ σ' g a).bind fun r1 s1 h1 v v' e1 g1 q1 => by
  cases q1 with
  | bl b =>
    cases b with
    | false => exact y.run _ _ _ _ _ g1 (a.mono e1)
    | true => exact .ok g1 (.bl _)
  | _ => trivial⟩
instance [x : LE ma] : LE (eNot ma) := ⟨fun r s h σ σ' g a => (x.run r s h σ σ' g a).bind fun r1 s1 h1 v v' e1 g1 q1 => by
  cases q1 with
  | bl b => exact .ok g1 (.bl _)
  | _ => trivial⟩
instance [x : LT ta] [y : LE ma] [z : LE mb] : LE (eIf ta ma mb) := ⟨fun r s h σ σ' g a => (x.run r s h σ σ' g a).bind fun r1 s1 h1 v v' e1 g1 q1 => by
  subst q1
  cases v with
  | true => exact y.run _ _ _ _ _ g1 (a.mono e1)
  | false => exact z.run _ _ _ _ _ g1 (a.mono e1)⟩
instance [x : LE ma] : LE (eNeg ma) := ⟨fun r s h σ σ' g a => (x.run r s h σ σ' g a).bind fun r1 s1 h1 v v' e1 g1 q1 => by
  cases q1 with
  | int b => exact .ok g1 (.int _)
  | _ => trivial⟩
instance [x : LE ma] [y : LE mb] [z : LE mc] [o : LOp f] [p : LOp g] : LE (eChain f g ma mb mc) := ⟨fun r s h σ σ' gg a => (x.run r s h σ σ' gg a).bind fun r1 s1 h1 v v' e1 g1 q1 => (y.run _ _ _ _ _ g1 (a.mono e1)).bind fun r2 s2 h2 w w' e2 g2 q2 =>
  (L2R.ofO (o.run _ _ _ _ _ _ _ g2 (q1.mono e2) q2)).bind fun r3 s3 h3 u u' e3 g3 q3 => by
    cases q3 with
    | bl b =>
      cases b with
      | true => exact (z.run _ _ _ _ _ g3 (((a.mono e1).mono e2).mono e3)).bind fun r4 s4 h4 t t' e4 g4 q4 => .ofO (p.run _ _ _ _ _ _ _ g4 ((q2.mono e3).mono e4) q4)
      | false => exact .ok g3 (.bl _)
    | _ => trivial⟩
instance {k : MF} [x : LF k] [y : LA aa] : LE (eCall k aa) := ⟨fun r s h σ σ' g a => (y.run r s h σ σ' g a).bind fun r1 s1 h1 v v' e1 g1 q1 => x.run _ _ _ _ _ g1 q1⟩
instance {k : OpC} [x : LOc k] [y : LA aa] : LE (eCB k aa) := ⟨fun r s h σ σ' g a => (y.run r s h σ σ' g a).bind fun r1 s1 h1 v v' e1 g1 q1 => .ofO (x.run _ _ _ _ _ g1 q1)⟩
instance {k : OpM} {d : Knd} [z : LE ma] [x : LOm k] [y : LA aa] : LE (eBM d k ma aa) := ⟨fun r s h σ σ' g a => (z.run r s h σ σ' g a).bind fun r1 s1 h1 v v' e1 g1 q1 => by
  have same : kOk d v s1 = true → kOk d v' h1 = true := fun q => by
    unfold kOk at q ⊢
    cases q1 with
    | str _ => exact q
    | @ref n m p =>
      dsimp only at q ⊢
      cases z : s1[n]? with
      | none => rw [z] at q; cases q
      | some o =>
        obtain ⟨o', k1, k2⟩ := g1.at_ z p
        rw [z] at q
        rw [k1]
        cases k2 <;> exact q
    | _ => exact q
  cases q : kOk d v s1 with
  | false => trivial
  | true =>
    rw [same q]
    exact (y.run _ _ _ _ _ g1 (a.mono e1)).bind fun r2 s2 h2 w w' e2 g2 q2 => .ofO (x.run _ _ _ _ _ _ _ g2 (q1.mono e2) q2)⟩
instance : LE eErr := ⟨fun r s h σ σ' g a => trivial⟩
instance : LO oNo := ⟨fun r s h σ σ' g a => .ok g rfl⟩
instance [x : LE ma] : LO (oSome ma) := ⟨fun r s h σ σ' g a => (x.run r s h σ σ' g a).bind fun r1 s1 h1 v v' e1 g1 q1 => by
  cases q1 with
  | int b => exact .ok g1 rfl
  | _ => trivial⟩
end
end ML
end

section
set_option Elab.async false
set_option linter.all false
set_option maxRecDepth 100000
set_option maxHeartbeats 4000000
/-! Locality: the operations. -/
namespace ML
open PySem L2
section
variable {r r' : List Nat} {h h' s : Hi}
theorem keyEq2 {a b k l : VI} (p : RV2 r a b) (q : RV2 r k l) : keyEq b l = keyEq a k := by
  cases p <;> cases q <;> rfl
theorem isKey2 {a b : VI} (p : RV2 r a b) : isKey b = isKey a := by cases p <;> rfl
theorem flI2 {a b : VI} (p : RV2 r a b) : flI b = flI a := by cases p <;> rfl
theorem eqI2 {a b k l : VI} (p : RV2 r a b) (q : RV2 r k l) : eqI b l = eqI a k := by
  cases p <;> cases q <;> rfl
def ROp2 (r : List Nat) : Option VI → Option VI → Prop
  | some a, some b => RV2 r a b
  | none, none => True
  | _, _ => False
theorem getD2 {k l : VI} (q : RV2 r k l) : ∀ {xs ys : List (VI × VI)}, RKs2 r xs ys → ROp2 r (getD k xs) (getD l ys)
  | _, _, .nil => trivial
  | _, _, .cons p v t => by
    unfold getD
    rw [keyEq2 p q]
    split
    · exact v
    · exact getD2 q t
theorem hasD2 {k l : VI} (q : RV2 r k l) : ∀ {xs ys : List (VI × VI)}, RKs2 r xs ys → hasD l ys = hasD k xs
  | _, _, .nil => rfl
  | _, _, .cons p v t => by
    unfold hasD
    rw [keyEq2 p q, hasD2 q t]
theorem repD2 {k l v w : VI} (q : RV2 r k l) (u : RV2 r v w) : ∀ {xs ys : List (VI × VI)}, RKs2 r xs ys → RKs2 r (repD k v xs) (repD l w ys)
  | _, _, .nil => .nil
  | _, _, .cons p x t => by
    unfold repD
    rw [keyEq2 p q]
    split
    · exact .cons p u (repD2 q u t)
    · exact .cons p x (repD2 q u t)
theorem RKs2.append : ∀ {v w x y : List (VI × VI)}, RKs2 r v x → RKs2 r w y → RKs2 r (v ++ w) (x ++ y)
  | _, _, _, _, .nil, k => k
  | _, _, _, _, .cons a b t, k => .cons a b (RKs2.append t k)
theorem putD2 {k l v w : VI} (q : RV2 r k l) (u : RV2 r v w) {xs ys : List (VI × VI)} (t : RKs2 r xs ys) : RKs2 r (putD k v xs) (putD l w ys) := by
  unfold putD
  rw [hasD2 q t]
  split
  · exact repD2 q u t
  · exact t.append (.cons q u .nil)
theorem putAll2 : ∀ {ps qs xs ys : List (VI × VI)}, RKs2 r ps qs → RKs2 r xs ys → RKs2 r (putAll ps xs) (putAll qs ys)
  | _, _, _, _, .nil, t => t
  | _, _, _, _, .cons k v p, t => by
    unfold putAll
    exact putAll2 p (putD2 k v t)
theorem keysOk2 : ∀ {xs ys : List (VI × VI)}, RKs2 r xs ys → keysOk ys = keysOk xs
  | _, _, .nil => rfl
  | _, _, .cons p _ t => by unfold keysOk; rw [isKey2 p, keysOk2 t]
theorem inI2 {a b : VI} (p : RV2 r a b) : ∀ {xs ys : List VI}, RVs2 r xs ys → inI b ys = inI a xs
  | _, _, .nil => rfl
  | _, _, .cons q t => by unfold inI; rw [eqI2 q p, inI2 p t]
theorem alF2 : ∀ {xs ys : List VI}, RVs2 r xs ys → alF ys = alF xs
  | _, _, .nil => rfl
  | _, _, .cons q t => by unfold alF; rw [flI2 q, alF2 t]
theorem getF2 {f : S} : ∀ {xs ys : List (S × VI)}, RFs2 r xs ys → ROp2 r (getF f xs) (getF f ys)
  | _, _, .nil => trivial
  | _, _, .cons v t => by
    unfold getF
    split
    · exact v
    · exact getF2 t
theorem setF2 {f : S} {v w : VI} (u : RV2 r v w) : ∀ {xs ys : List (S × VI)}, RFs2 r xs ys → RFs2 r (setF f v xs) (setF f w ys)
  | _, _, .nil => .cons u .nil
  | _, _, .cons x t => by
    unfold setF
    split
    · exact .cons u t
    · exact .cons x (setF2 u t)
theorem datL2 {f g : VI → Option PyData} (e : ∀ v w d, RV2 r v w → f v = some d → g w = some d) : ∀ {xs ys : List VI} {ds : List PyData}, RVs2 r xs ys → datL f xs = some ds → datL g ys = some ds
  | _, _, _, .nil, q => q
  | _, _, _, .cons (v := v) (x := x) p t, q => by
    unfold datL at q ⊢
    cases z : f v with
    | none => rw [z] at q; cases q
    | some d =>
      rw [z] at q
      rw [e _ _ _ p z]
      dsimp only at q ⊢
      cases z2 : datL f _ with
      | none => rw [z2] at q; cases q
      | some ds =>
        rw [z2] at q
        rw [datL2 e t z2]
        exact q
theorem dat2 (a : Ag2 r s h) : ∀ (n : Nat) (v w : VI) (d : PyData), RV2 r v w → dat n s v = some d → dat n h w = some d
  | 0, _, _, _, _, q => by cases q
  | n + 1, v, w, d, p, q => by
    have ih := dat2 a n
    have lft : ∀ {xs ys : List VI} {F : List PyData → PyData}, RVs2 r xs ys → (datL (dat n s) xs).map F = some d → (datL (dat n h) ys).map F = some d := by
      intro xs ys F t k
      cases z : datL (dat n s) xs with
      | none => rw [z] at k; cases k
      | some ds => rw [z] at k; rw [datL2 ih t z]; exact k
    unfold dat at q ⊢
    cases p with
    | non => exact q
    | bl b => exact q
    | int i => exact q
    | str s => exact q
    | glo g => exact q
    | tup t => exact lft t q
    | @ref i m e =>
      dsimp only at q ⊢
      cases z : s[i]? with
      | none => rw [z] at q; cases q
      | some o =>
        obtain ⟨o', k1, k2⟩ := a.at_ z e
        rw [z] at q
        rw [k1]
        cases k2 with
        | lst t => exact lft t q
        | scr t => exact lft t q
        | dic _ => cases q
        | ins _ => cases q
        | xd _ => cases q
theorem eqD2 (a : Ag2 r s h) {x y x' y' : VI} {b : Bool} (p : RV2 r x x') (q : RV2 r y y') (e : eqD s x y = some b) : eqD h x' y' = some b := by
  unfold eqD at e ⊢
  cases z : dat 66 s x with
  | none => rw [z] at e; cases e
  | some d =>
    cases z2 : dat 66 s y with
    | none => rw [z, z2] at e; cases e
    | some d2 =>
      rw [z, z2] at e
      rw [dat2 a _ _ _ _ p z, dat2 a _ _ _ _ q z2]
      exact e
theorem inDl2 (a : Ag2 r s h) {x x' : VI} {ys ys' : List VI} {b : Bool} (p : RV2 r x x') (q : RVs2 r ys ys') (e : inDl s x ys = some b) : inDl h x' ys' = some b := by
  unfold inDl at e ⊢
  cases z : dat 66 s x with
  | none => rw [z] at e; cases e
  | some d =>
    cases z2 : datL (dat 65 s) ys with
    | none => rw [z, z2] at e; cases e
    | some d2 =>
      rw [z, z2] at e
      rw [dat2 a _ _ _ _ p z, datL2 (dat2 a 65) q z2]
      exact e
theorem inM2 (a : Ag2 r s h) {x y x' y' : VI} {b : Bool} (p : RV2 r x x') (q : RV2 r y y') (e : inM x y s = some b) : inM x' y' h = some b := by
  unfold inM at e ⊢
  cases q with
  | tup t =>
    dsimp only at e ⊢
    rw [flI2 p, alF2 t, inI2 p t]
    exact e
  | @ref i m pp =>
    dsimp only at e ⊢
    cases z : s[i]? with
    | none => rw [z] at e; cases e
    | some o =>
      obtain ⟨o', k1, k2⟩ := a.at_ z pp
      rw [z] at e
      rw [k1]
      cases k2 with
      | lst t =>
        dsimp only at e ⊢
        rw [flI2 p, alF2 t, inI2 p t]
        split at e
        · exact e
        · exact inDl2 a p t e
      | scr t =>
        dsimp only at e ⊢
        rw [flI2 p, alF2 t, inI2 p t]
        split at e
        · exact e
        · exact inDl2 a p t e
      | dic t =>
        dsimp only at e ⊢
        rw [isKey2 p]
        have k := getD2 p t
        split at e
        · rw [← e]
          cases z1 : getD x _ with
          | none => rw [z1] at k; cases z2 : getD x' _ with
            | none => rfl
            | some _ => rw [z2] at k; exact k.elim
          | some _ => rw [z1] at k; cases z2 : getD x' _ with
            | none => rw [z2] at k; exact k.elim
            | some _ => rfl
        · cases e
      | ins _ => cases e
      | xd _ => cases e
  | non => cases e
  | bl _ => cases e
  | int _ => cases e
  | str _ => cases e
  | glo _ => cases e
theorem RVs2.take1 (t : RVs2 r a b) (n : Nat) : RVs2 r (a.take n) (b.take n) := t.take n
theorem ixL2 {xs ys : List VI} (t : RVs2 r xs ys) (i : Int) : ROp2 r (ixL xs i) (ixL ys i) := by
  unfold ixL
  rw [t.length]
  cases ixI ys.length i with
  | none => trivial
  | some j =>
    dsimp only
    cases z : xs[j]? with
    | none => rw [t.none z]; trivial
    | some v => obtain ⟨b, h1, h2⟩ := t.get z; rw [h1]; exact h2
theorem dropLast2 : ∀ {xs ys : List VI}, RVs2 r xs ys → RVs2 r xs.dropLast ys.dropLast
  | _, _, .nil => .nil
  | _, _, .cons _ .nil => .nil
  | _, _, .cons a (.cons b t) => .cons a (dropLast2 (.cons b t))
theorem isEmp2 {xs ys : List VI} (t : RVs2 r xs ys) : xs.isEmpty = ys.isEmpty := by cases t <;> rfl
theorem repL2 {xs ys : List VI} (t : RVs2 r xs ys) : ∀ n, RVs2 r (repL xs n) (repL ys n)
  | 0 => .nil
  | n + 1 => t.append (repL2 t n)
theorem cutI2 {xs ys : List VI} (t : RVs2 r xs ys) (lo hi : Option Int) : RVs2 r (cutI xs lo hi) (cutI ys lo hi) := by
  unfold cutI
  rw [t.length]
  exact (t.drop _).take _
theorem keys2 : ∀ {xs ys : List (VI × VI)}, RKs2 r xs ys → RVs2 r (xs.map (·.1)) (ys.map (·.1))
  | _, _, .nil => .nil
  | _, _, .cons a _ t => .cons a (keys2 t)
theorem vals2 : ∀ {xs ys : List (VI × VI)}, RKs2 r xs ys → RVs2 r (xs.map (·.2)) (ys.map (·.2))
  | _, _, .nil => .nil
  | _, _, .cons _ a t => .cons a (vals2 t)
theorem ints2 {α : Type} (f : α → Int) : ∀ l : List α, RVs2 r (l.map fun i => VI.int (f i)) (l.map fun i => VI.int (f i))
  | [] => .nil
  | _ :: l => .cons (.int _) (ints2 f l)
theorem rgI2 (a b : Int) : RVs2 r (rgI a b) (rgI a b) := ints2 (fun i : Nat => a + (i : Int)) _
/-- reading an object -/
theorem Ag2.no (a : Ag2 r s h) {n m : Nat} (p : r[n]? = some m) : ∃ o o', s[n]? = some o ∧ h[m]? = some o' ∧ RO2 r o o' := by
  have hn : n < s.length := by rw [← a.len]; exact (List.getElem?_eq_some_iff.mp p).1
  have e : s[n]? = some s[n] := by simp [hn]
  obtain ⟨o', h1, h2⟩ := a.at_ e p
  exact ⟨_, o', e, h1, h2⟩
theorem L2O.wr {n m : Nat} {u o o' : OI} {v w : VI} (g : Ag2 r s h) (hn : s[n]? = some u) (p : r[n]? = some m) (k : RO2 r o o') (q : RV2 r v w) : L2O RV2 r h (some (v, s.set n o)) (some (w, h.set m o')) := by
  obtain ⟨g', e⟩ := g.wr hn p k
  exact ⟨_, _, _, rfl, e, g', q⟩
instance : LOp fEq := ⟨fun r s h x y x' y' g p q => by
  unfold fEq
  cases z : eqD s x y with
  | none => trivial
  | some b => rw [eqD2 g p q z]; exact .ok g (.bl b)⟩
instance : LOp fNe := ⟨fun r s h x y x' y' g p q => by
  unfold fNe
  cases z : eqD s x y with
  | none => trivial
  | some b => rw [eqD2 g p q z]; exact .ok g (.bl _)⟩
instance : LOp fIn := ⟨fun r s h x y x' y' g p q => by
  unfold fIn
  cases z : inM x y s with
  | none => trivial
  | some b => rw [inM2 g p q z]; exact .ok g (.bl b)⟩
instance : LOp fNotIn := ⟨fun r s h x y x' y' g p q => by
  unfold fNotIn
  cases z : inM x y s with
  | none => trivial
  | some b => rw [inM2 g p q z]; exact .ok g (.bl _)⟩
instance : LOp fAdd := ⟨fun r s h x y x' y' g p q => by
  unfold fAdd
  cases p with
  | int i =>
    cases q with
    | int j => exact .ok g (.int _)
    | _ => trivial
  | str i =>
    cases q with
    | str j =>
      dsimp only
      split
      · exact .ok g (.str _)
      · trivial
    | _ => trivial
  | tup i =>
    cases q with
    | tup j =>
      dsimp only
      rw [i.length, j.length]
      split
      · exact .ok g (.tup (i.append j))
      · trivial
    | _ => trivial
  | ref i =>
    cases q with
    | ref j =>
      obtain ⟨o, o', e1, e2, e3⟩ := g.no i
      obtain ⟨u, u', f1, f2, f3⟩ := g.no j
      dsimp only
      rw [e1, e2, f1, f2]
      cases e3 with
      | lst t =>
        cases f3 with
        | lst t2 =>
          dsimp only
          rw [t.length, t2.length]
          split
          · exact .new g fun r' e => .lst ((t.mono e).append (t2.mono e))
          · trivial
        | _ => trivial
      | _ => trivial
    | _ => trivial
  | _ => trivial⟩
instance : LOp fSub := ⟨fun r s h x y x' y' g p q => by
  unfold fSub
  cases p <;> cases q <;> first | trivial | exact .ok g (.int _)⟩
instance : LOp fMul := ⟨fun r s h x y x' y' g p q => by
  unfold fMul
  cases p with
  | int i =>
    cases q with
    | int j =>
      dsimp only
      split
      · exact .ok g (.int _)
      · trivial
    | _ => trivial
  | tup i =>
    cases q with
    | int j =>
      dsimp only
      rw [isEmp2 i, i.length]
      split
      · exact .ok g (.tup (repL2 i _))
      · trivial
    | _ => trivial
  | ref i =>
    cases q with
    | int j =>
      obtain ⟨o, o', e1, e2, e3⟩ := g.no i
      dsimp only
      rw [e1, e2]
      cases e3 with
      | lst t =>
        dsimp only
        rw [t.length]
        split
        · exact .new g fun r' e => .lst (repL2 (t.mono e) _)
        · trivial
      | _ => trivial
    | _ => trivial
  | _ => trivial⟩
instance : LOp fMod := ⟨fun r s h x y x' y' g p q => by
  unfold fMod
  cases p with
  | int i =>
    cases q with
    | int j =>
      dsimp only
      split
      · exact .ok g (.int _)
      · trivial
    | _ => trivial
  | _ => trivial⟩
instance : LOp fFdiv := ⟨fun r s h x y x' y' g p q => by
  unfold fFdiv
  cases p with
  | int i =>
    cases q with
    | int j =>
      dsimp only
      split
      · exact .ok g (.int _)
      · trivial
    | _ => trivial
  | _ => trivial⟩
instance : LOp fPow := ⟨fun r s h x y x' y' g p q => by
  unfold fPow
  cases p with
  | int i =>
    cases q with
    | int j =>
      dsimp only
      split
      · exact .ok g (.int _)
      · trivial
    | _ => trivial
  | _ => trivial⟩
instance {f : Int → Int → Bool} : LOp (fInt f) := ⟨fun r s h x y x' y' g p q => by
  unfold fInt
  cases p <;> cases q <;> first | trivial | exact .ok g (.bl _)⟩
instance : LOp fLt := inferInstanceAs (LOp (fInt _))
instance : LOp fLe := inferInstanceAs (LOp (fInt _))
instance : LOp fGt := inferInstanceAs (LOp (fInt _))
instance : LOp fGe := inferInstanceAs (LOp (fInt _))
instance : LOp fIsN := ⟨fun r s h x y x' y' g p q => by
  unfold fIsN
  cases q <;> first | trivial | (cases p <;> exact .ok g (.bl _))⟩
instance : LOp fNotN := ⟨fun r s h x y x' y' g p q => by
  unfold fNotN
  cases q <;> first | trivial | (cases p <;> exact .ok g (.bl _))⟩
theorem L2O.op {a b : Option VI} (g : Ag2 r s h) (k : ROp2 r a b) : L2O RV2 r h (match (generalizing := false) a with | some v => some (v, s) | none => none) (match (generalizing := false) b with | some v => some (v, h) | none => none) := by
  cases a with
  | none => trivial
  | some v => cases b with
    | none => exact k.elim
    | some w => exact .ok g k
instance : LOp fIx := ⟨fun r s h x y x' y' g p q => by
  unfold fIx
  cases p with
  | tup t =>
    cases q with
    | int i => exact .op g (ixL2 t i)
    | _ => trivial
  | ref i =>
    obtain ⟨o, o', e1, e2, e3⟩ := g.no i
    dsimp only
    rw [e1, e2]
    cases e3 with
    | lst t =>
      cases q with
      | int i => exact .op g (ixL2 t i)
      | _ => trivial
    | scr t =>
      cases q with
      | int i => exact .op g (ixL2 t i)
      | _ => trivial
    | dic t =>
      dsimp only
      rw [isKey2 q]
      have k := getD2 q t
      cases isKey y with
      | false => trivial
      | true =>
        cases z1 : getD y _ with
        | none => trivial
        | some v => rw [z1] at k; cases z2 : getD y' _ with
          | none => rw [z2] at k; exact k.elim
          | some w => rw [z2] at k; exact .ok g k
    | _ => trivial
  | _ => trivial⟩
/-! ### builtins -/
instance : LOc cLen := ⟨fun r s h vs vs' g t => by
  unfold cLen
  cases t with
  | nil => trivial
  | cons p t =>
    cases t with
    | cons _ _ => cases p <;> trivial
    | nil =>
      cases p with
      | tup t => dsimp only; rw [t.length]; exact .ok g (.int _)
      | str x =>
        dsimp only
        split
        · exact .ok g (.int _)
        · trivial
      | ref i =>
        obtain ⟨o, o', e1, e2, e3⟩ := g.no i
        dsimp only
        rw [e1, e2]
        cases e3 with
        | lst t => dsimp only; rw [t.length]; exact .ok g (.int _)
        | scr t => dsimp only; rw [t.length]; exact .ok g (.int _)
        | dic t => dsimp only; rw [t.length]; exact .ok g (.int _)
        | _ => trivial
      | _ => trivial⟩
instance : LOc cInt := ⟨fun r s h vs vs' g t => by
  unfold cInt
  cases t with
  | nil => trivial
  | cons p t =>
    cases t with
    | cons _ _ => cases p <;> trivial
    | nil =>
      cases p with
      | int i => exact .ok g (.int _)
      | bl b => exact .ok g (.int _)
      | _ => trivial⟩
instance : LOc cMax := ⟨fun r s h vs vs' g t => by
  unfold cMax
  cases t with
  | nil => trivial
  | cons p t =>
    cases t with
    | nil => cases p <;> trivial
    | cons q t =>
      cases t with
      | cons _ _ => cases p <;> cases q <;> trivial
      | nil => cases p <;> cases q <;> first | trivial | exact .ok g (.int _)⟩
instance : LOc cMin := ⟨fun r s h vs vs' g t => by
  unfold cMin
  cases t with
  | nil => trivial
  | cons p t =>
    cases t with
    | nil => cases p <;> trivial
    | cons q t =>
      cases t with
      | cons _ _ => cases p <;> cases q <;> trivial
      | nil => cases p <;> cases q <;> first | trivial | exact .ok g (.int _)⟩
instance : LOc cList := ⟨fun r s h vs vs' g t => by
  unfold cList
  cases t with
  | nil => trivial
  | cons p t =>
    cases t with
    | cons _ _ => cases p <;> trivial
    | nil =>
      cases p with
      | tup t => exact .new g fun r' e => .lst (t.mono e)
      | ref i =>
        obtain ⟨o, o', e1, e2, e3⟩ := g.no i
        dsimp only
        rw [e1, e2]
        cases e3 with
        | lst t => exact .new g fun r' e => .lst (t.mono e)
        | scr t => exact .new g fun r' e => .lst (t.mono e)
        | dic t => exact .new g fun r' e => .lst ((keys2 t).mono e)
        | _ => trivial
      | _ => trivial⟩
instance : LOc cTuple := ⟨fun r s h vs vs' g t => by
  unfold cTuple
  cases t with
  | nil => trivial
  | cons p t =>
    cases t with
    | cons _ _ => cases p <;> trivial
    | nil =>
      cases p with
      | tup t => exact .ok g (.tup t)
      | ref i =>
        obtain ⟨o, o', e1, e2, e3⟩ := g.no i
        dsimp only
        rw [e1, e2]
        cases e3 with
        | lst t => exact .ok g (.tup t)
        | scr t => exact .ok g (.tup t)
        | _ => trivial
      | _ => trivial⟩
instance : LOc cDict := ⟨fun r s h vs vs' g t => by
  unfold cDict
  cases t with
  | nil => trivial
  | cons p t =>
    cases t with
    | cons _ _ => cases p <;> trivial
    | nil =>
      cases p with
      | ref i =>
        obtain ⟨o, o', e1, e2, e3⟩ := g.no i
        dsimp only
        rw [e1, e2]
        cases e3 with
        | dic t => exact .new g fun r' e => .dic (t.mono e)
        | _ => trivial
      | _ => trivial⟩
instance : LOm mAppend := ⟨fun r s h x x' vs vs' g p t => by
  unfold mAppend
  cases p with
  | ref i =>
    obtain ⟨o, o', e1, e2, e3⟩ := g.no i
    dsimp only
    rw [e1, e2]
    cases e3 with
    | lst l =>
      cases t with
      | nil => trivial
      | cons q t =>
        cases t with
        | cons _ _ => trivial
        | nil =>
          dsimp only
          rw [l.length]
          split
          · exact .wr g e1 i (.lst (l.append (.cons q .nil))) .non
          · trivial
    | _ => trivial
  | _ => trivial⟩
instance : LOm mExtend := ⟨fun r s h x x' vs vs' g p t => by
  unfold mExtend
  cases p with
  | ref i =>
    obtain ⟨o, o', e1, e2, e3⟩ := g.no i
    dsimp only
    rw [e1, e2]
    cases e3 with
    | lst l =>
      cases t with
      | nil => trivial
      | cons q t =>
        cases t with
        | cons _ _ => cases q <;> trivial
        | nil =>
          cases q with
          | ref j =>
            obtain ⟨u, u', f1, f2, f3⟩ := g.no j
            dsimp only
            rw [f1, f2]
            cases f3 with
            | lst l2 =>
              dsimp only
              rw [l.length, l2.length]
              split
              · exact .wr g e1 i (.lst (l.append l2)) .non
              · trivial
            | _ => trivial
          | _ => trivial
    | _ => trivial
  | _ => trivial⟩
instance : LOm mPop := ⟨fun r s h x x' vs vs' g p t => by
  unfold mPop
  cases p with
  | ref i =>
    obtain ⟨o, o', e1, e2, e3⟩ := g.no i
    dsimp only
    rw [e1, e2]
    cases e3 with
    | @lst xs ys l =>
      cases t with
      | cons _ _ => trivial
      | nil =>
        dsimp only
        cases z : xs[xs.length - 1]? with
        | none => trivial
        | some y =>
          obtain ⟨b, k1, k2⟩ := l.get z
          rw [← l.length, k1]
          exact .wr g e1 i (.lst (dropLast2 l)) k2
    | _ => trivial
  | _ => trivial⟩
end
end ML
end

section
set_option Elab.async false
set_option linter.all false
set_option maxRecDepth 100000
set_option maxHeartbeats 4000000
/-! Locality: expressions with objects, statements, loops, defs. -/
namespace ML
open PySem L2
section
variable {r r' : List Nat} {h h' s : Hi}
def L2S (r : List Nat) (h : Hi) (a a' : RS) : Prop := match a with
  | .nx σ s' => ∃ r' h' σ', a' = .nx σ' h' ∧ Ex2 r h r' h' ∧ Ag2 r' s' h' ∧ AS2 r' σ σ'
  | .bk σ s' => ∃ r' h' σ', a' = .bk σ' h' ∧ Ex2 r h r' h' ∧ Ag2 r' s' h' ∧ AS2 r' σ σ'
  | .ct σ s' => ∃ r' h' σ', a' = .ct σ' h' ∧ Ex2 r h r' h' ∧ Ag2 r' s' h' ∧ AS2 r' σ σ'
  | .rt v s' => ∃ r' h' v', a' = .rt v' h' ∧ Ex2 r h r' h' ∧ Ag2 r' s' h' ∧ RV2 r' v v'
  | .ex c n σ s' => ∃ r' h' σ' m, a' = .ex c m σ' h' ∧ Ex2 r h r' h' ∧ Ag2 r' s' h' ∧ AS2 r' σ σ' ∧ r'[n]? = some m
  | .err => True
theorem L2S.ext {a a' : RS} (x : Ex2 r h r' h') (k : L2S r' h' a a') : L2S r h a a' := by
  cases a with
  | err => trivial
  | nx σ s' => obtain ⟨r2, h2, m, e1, e2, e3⟩ := k; exact ⟨r2, h2, m, e1, x.trans e2, e3⟩
  | bk σ s' => obtain ⟨r2, h2, m, e1, e2, e3⟩ := k; exact ⟨r2, h2, m, e1, x.trans e2, e3⟩
  | ct σ s' => obtain ⟨r2, h2, m, e1, e2, e3⟩ := k; exact ⟨r2, h2, m, e1, x.trans e2, e3⟩
  | rt σ s' => obtain ⟨r2, h2, m, e1, e2, e3⟩ := k; exact ⟨r2, h2, m, e1, x.trans e2, e3⟩
  | ex c n σ s' => obtain ⟨r2, h2, m, m2, e1, e2, e3⟩ := k; exact ⟨r2, h2, m, m2, e1, x.trans e2, e3⟩
theorem L2R.ext {α : Type} {R : List Nat → α → α → Prop} {a a' : Res α} (x : Ex2 r h r' h') (k : L2R R r' h' a a') : L2R R r h a a' := by
  cases a with
  | err => trivial
  | ok σ s' => obtain ⟨r2, h2, m, e1, e2, e3⟩ := k; exact ⟨r2, h2, m, e1, x.trans e2, e3⟩
  | ex c n s' => obtain ⟨r2, h2, m, e1, e2, e3⟩ := k; exact ⟨r2, h2, m, e1, x.trans e2, e3⟩
theorem L2S.nx {σ σ' : Sg} (g : Ag2 r s h) (a : AS2 r σ σ') : L2S r h (.nx σ s) (.nx σ' h) := ⟨_, _, _, rfl, .refl, g, a⟩
theorem L2R.bindS {α : Type} {R : List Nat → α → α → Prop} {a a' : Res α} {σ σ' : Sg} {k k' : α → Hi → RS} (h1 : L2R R r h a a') (as : AS2 r σ σ')
    (h2 : ∀ r1 s1 h1 x x', Ex2 r h r1 h1 → Ag2 r1 s1 h1 → R r1 x x' → L2S r1 h1 (k x s1) (k' x' h1)) : L2S r h (a.bindS σ k) (a'.bindS σ' k') := by
  cases a with
  | err => trivial
  | ex c n s' =>
    obtain ⟨r', h', m, rfl, e, g, q⟩ := h1
    exact ⟨r', h', σ', m, rfl, e, g, as.mono e, q⟩
  | ok v s' =>
    obtain ⟨r', h', v', rfl, e, g, q⟩ := h1
    exact (h2 r' s' h' v v' e g q).ext e
theorem L2S.andThen {a a' : RS} {f f' : MS} (k : L2S r h a a') (t : ∀ r1 s1 h1 σ σ', Ex2 r h r1 h1 → Ag2 r1 s1 h1 → AS2 r1 σ σ' → L2S r1 h1 (f σ s1) (f' σ' h1)) : L2S r h (a.andThen f) (a'.andThen f') := by
  cases a with
  | err => trivial
  | nx σ s' => obtain ⟨r2, h2, m, rfl, e2, e3, e4⟩ := k; exact (t _ _ _ _ _ e2 e3 e4).ext e2
  | bk σ s' => obtain ⟨r2, h2, m, rfl, e2, e3⟩ := k; exact ⟨r2, h2, m, rfl, e2, e3⟩
  | ct σ s' => obtain ⟨r2, h2, m, rfl, e2, e3⟩ := k; exact ⟨r2, h2, m, rfl, e2, e3⟩
  | rt σ s' => obtain ⟨r2, h2, m, rfl, e2, e3⟩ := k; exact ⟨r2, h2, m, rfl, e2, e3⟩
  | ex c n σ s' => obtain ⟨r2, h2, m, m2, rfl, e2, e3⟩ := k; exact ⟨r2, h2, m, m2, rfl, e2, e3⟩
theorem L2R.dropV {a a' : Res VI} {σ σ' : Sg} (k : L2R RV2 r h a a') (as : AS2 r σ σ') : L2S r h (dropV σ a) (dropV σ' a') := by
  cases a with
  | err => trivial
  | ok v s' => obtain ⟨r2, h2, m, rfl, e, g, _⟩ := k; exact ⟨r2, h2, σ', rfl, e, g, as.mono e⟩
  | ex c n s' => obtain ⟨r2, h2, m, rfl, e, g, q⟩ := k; exact ⟨r2, h2, σ', m, rfl, e, g, as.mono e, q⟩
end
class LS (m : MS) : Prop where
  run : ∀ r s h σ σ', Ag2 r s h → AS2 r σ σ' → L2S r h (m σ s) (m σ' h)
class LG (g : MG) : Prop where
  run : ∀ r s h σ σ' v v', Ag2 r s h → AS2 r σ σ' → RV2 r v v' → L2S r h (g v σ s) (g v' σ' h)
class LTb (tbl : Nat → Option MF) : Prop where
  run : ∀ c g, tbl c = some g → LF g
class CTb (tbl : Nat → Option VI) : Prop where
  run : ∀ c v, tbl c = some v → ∀ r, RV2 r v v
instance : LTb (lkT []) := ⟨fun c g e => by cases e⟩
instance {d : Nat} {x : MF} {l : List (Nat × MF)} [a : LF x] [b : LTb (lkT l)] : LTb (lkT ((d, x) :: l)) := ⟨fun c g e => by
  rcases lkT_cons e with ⟨_, rfl⟩ | q
  · exact a
  · exact b.run c g q⟩
instance : CTb (lkT []) := ⟨fun c g e => by cases e⟩
instance {d : Nat} {x : VI} {l : List (Nat × VI)} [a : CV x] [b : CTb (lkT l)] : CTb (lkT ((d, x) :: l)) := ⟨fun c g e => by
  rcases lkT_cons e with ⟨_, rfl⟩ | q
  · exact a.self
  · exact b.run c g q⟩
class CTs (tbl : S → Option VI) : Prop where
  run : ∀ c v, tbl c = some v → ∀ r, RV2 r v v
instance : CTs (lkS []) := ⟨fun c g e => by cases e⟩
instance {d : S} {x : VI} {l : List (S × VI)} [a : CV x] [b : CTs (lkS l)] : CTs (lkS ((d, x) :: l)) := ⟨fun c v e => by
  unfold lkS at e
  split at e
  · cases e; exact a.self
  · exact b.run c v e⟩
section
variable {ma mb mc : ME} {ta tb : MT} {aa ab : MA} {sa sb : MS} {ga : MG}
instance {cs : List Nat} {f : S} [x : LE ma] : LE (eFld cs f ma) := ⟨fun r s h σ σ' g a => (x.run r s h σ σ' g a).bind fun r1 s1 h1 v v' e1 g1 q1 => by
  cases q1 with
  | ref p =>
    obtain ⟨o, o', z1, z2, z3⟩ := g1.no p
    dsimp only
    rw [z1, z2]
    cases z3 with
    | @ins c xs ys t =>
      dsimp only
      have k := getF2 (f := f) t
      cases cs.contains c with
      | false => trivial
      | true =>
        cases w1 : getF f xs with
        | none => trivial
        | some v => cases w2 : getF f ys with
          | none => rw [w1, w2] at k; exact k.elim
          | some w => rw [w1, w2] at k; exact .ok g1 k
    | _ => trivial
  | _ => trivial⟩
instance {tbl : Nat → Option VI} {f : S} [c : CTb tbl] [x : LE ma] : LE (eCon tbl f ma) := ⟨fun r s h σ σ' g a => (x.run r s h σ σ' g a).bind fun r1 s1 h1 v v' e1 g1 q1 => by
  cases q1 with
  | ref p =>
    obtain ⟨o, o', z1, z2, z3⟩ := g1.no p
    dsimp only
    rw [z1, z2]
    cases z3 with
    | @ins d xs ys t =>
      dsimp only
      have k := getF2 (f := f) t
      cases w0 : tbl d with
      | none => trivial
      | some u =>
        cases w1 : getF f xs with
        | some v => trivial
        | none => cases w2 : getF f ys with
          | some _ => rw [w1, w2] at k; exact k.elim
          | none => exact .ok g1 (c.run _ _ w0 _)
    | _ => trivial
  | _ => trivial⟩
instance {tbl : Nat → Option MF} {f : S} [c : LTb tbl] [x : LE ma] [y : LA aa] : LE (eMeth tbl f ma aa) := ⟨fun r s h σ σ' g a => (x.run r s h σ σ' g a).bind fun r1 s1 h1 v v' e1 g1 q1 => by
  cases q1 with
  | ref p =>
    obtain ⟨o, o', z1, z2, z3⟩ := g1.no p
    dsimp only
    rw [z1, z2]
    cases z3 with
    | @ins d xs ys t =>
      dsimp only
      have k := getF2 (f := f) t
      cases w0 : tbl d with
      | none => trivial
      | some u =>
        cases w1 : getF f xs with
        | some v => trivial
        | none => cases w2 : getF f ys with
          | some _ => rw [w1, w2] at k; exact k.elim
          | none => exact (y.run _ _ _ _ _ g1 (a.mono e1)).bind fun r2 s2 h2 w w' e2 g2 q2 => (c.run _ _ w0).run _ _ _ _ _ g2 (.cons (.ref (e2.pre p)) q2)
    | _ => trivial
  | _ => trivial⟩
theorem L2R.okM {r : List Nat} {h : Hi} {a a' : Res VI} (k : L2R RV2 r h a a') : L2R RV2 r h (okM a) (okM a') := by
  cases a with
  | err => trivial
  | ok v s' => obtain ⟨r2, h2, m, rfl, e⟩ := k; exact ⟨r2, h2, m, rfl, e⟩
  | ex c n s' => trivial
instance {tbl : Nat → Option MF} [c : LTb tbl] [x : LE ma] : LE (eProp tbl ma) := ⟨fun r s h σ σ' g a => (x.run r s h σ σ' g a).bind fun r1 s1 h1 v v' e1 g1 q1 => by
  cases q1 with
  | ref p =>
    obtain ⟨o, o', z1, z2, z3⟩ := g1.no p
    dsimp only
    rw [z1, z2]
    cases z3 with
    | @ins d xs ys t =>
      dsimp only
      cases w0 : tbl d with
      | none => trivial
      | some u => exact ((c.run _ _ w0).run _ _ _ _ _ g1 (.cons (.ref p) .nil)).okM
    | _ => trivial
  | _ => trivial⟩
theorem mk2 {f : MF} [x : LF f] {c : Nat} {r : List Nat} {s h : Hi} {vs vs' : List VI} (g : Ag2 r s h) (q : Ex2 r h (r ++ [h.length]) (h ++ [.ins c []]) → RVs2 (r ++ [h.length]) vs vs') :
    L2R RV2 r h (match f vs (s ++ [.ins c []]) with | .ok .non h2 => .ok (.ref s.length) h2 | .ex c n h2 => .ex c n h2 | _ => .err) (match f vs' (h ++ [.ins c []]) with | .ok .non h2 => .ok (.ref h.length) h2 | .ex c n h2 => .ex c n h2 | _ => .err) := by
  obtain ⟨g', e⟩ := g.new (o := .ins c []) (o' := .ins c []) (.ins .nil)
  have k := x.run _ _ _ _ _ g' (q e)
  cases z : f vs (s ++ [.ins c []]) with
  | err => trivial
  | ex d n s2 => rw [z] at k; obtain ⟨r2, h2, m, k1, k2, k3, k4⟩ := k; rw [k1]; exact ⟨r2, h2, m, rfl, e.trans k2, k3, k4⟩
  | ok v s2 =>
    rw [z] at k
    obtain ⟨r2, h2, m, k1, k2, k3, k4⟩ := k
    rw [k1]
    cases k4 with
    | non => exact ⟨r2, h2, _, rfl, e.trans k2, k3, .ref (k2.pre g.idx)⟩
    | _ => trivial
instance {c : Nat} {f : MF} [x : LF f] : LF (mkM c f) := ⟨fun r s h vs vs' g q => mk2 g fun e => .cons (.ref g.idx) (q.mono e)⟩
class LK (k : MK) : Prop where
  run : ∀ r s h vs vs' zs zs', Ag2 r s h → RVs2 r vs vs' → RVs2 r zs zs' → L2R RV2 r h (k vs zs s) (k vs' zs' h)
class LAr (f : List VI → List VI → List VI) : Prop where
  run : ∀ r vs vs' zs zs', RVs2 r vs vs' → RVs2 r zs zs' → RVs2 r (f vs zs) (f vs' zs')
theorem pk32 {r : List Nat} {us us' ms ms' ws ws' : List VI} (a : RVs2 r us us') (b : RVs2 r ms ms') (c : RVs2 r ws ws') (q : Nat × Nat) : ROp2 r (pk3 us ms ws q) (pk3 us' ms' ws' q) := by
  have gt : ∀ {xs ys : List VI} (i : Nat), RVs2 r xs ys → ROp2 r xs[i]? ys[i]? := by
    intro xs ys i t
    cases z : xs[i]? with
    | none => rw [t.none z]; trivial
    | some v => obtain ⟨w, h1, h2⟩ := t.get z; rw [h1]; exact h2
  unfold pk3
  split
  · exact gt _ a
  · exact gt _ b
  · exact gt _ c
theorem arr32 {r : List Nat} {us us' ms ms' ws ws' : List VI} (a : RVs2 r us us') (b : RVs2 r ms ms') (c : RVs2 r ws ws') : ∀ se, RVs2 r (arr3 se us ms ws) (arr3 se us' ms' ws')
  | [] => .nil
  | q :: l => by
    have k := pk32 a b c q
    unfold arr3
    cases z : pk3 us ms ws q with
    | none => rw [z] at k; cases z2 : pk3 us' ms' ws' q with
      | none => exact arr32 a b c l
      | some _ => rw [z2] at k; exact k.elim
    | some v => rw [z] at k; cases z2 : pk3 us' ms' ws' q with
      | none => rw [z2] at k; exact k.elim
      | some w => rw [z2] at k; exact .cons k (arr32 a b c l)
instance {f : MF} {arr : List VI → List VI → List VI} [x : LF f] [y : LAr arr] : LK (fnK f arr) := ⟨fun r s h vs vs' zs zs' g p q => x.run _ _ _ _ _ g (y.run _ _ _ _ _ p q)⟩
instance {c : Nat} {f : MF} {arr : List VI → List VI → List VI} [x : LF f] [y : LAr arr] : LK (mkK c f arr) := ⟨fun r s h vs vs' zs zs' g p q => mk2 g fun e => y.run _ _ _ _ _ (.cons (.ref g.idx) (p.mono e)) (q.mono e)⟩
instance {n m : Nat} {k : MK} [x : LK k] [y : LA aa] [z : LA ab] : LE (eCallK n m k aa ab) := ⟨fun r s h σ σ' g a => (y.run r s h σ σ' g a).bind fun r1 s1 h1 v v' e1 g1 q1 => (z.run _ _ _ _ _ g1 (a.mono e1)).bind fun r2 s2 h2 w w' e2 g2 q2 => by
  rw [q1.length, q2.length]
  split
  · exact x.run _ _ _ _ _ _ _ g2 (q1.mono e2) q2
  · trivial⟩
theorem ins2 {r : List Nat} {s h : Hi} (g : Ag2 r s h) {x y : VI} (p : RV2 r x y) : insC y h = insC x s := by
  cases p with
  | ref i =>
    obtain ⟨o, o', z1, z2, z3⟩ := g.no i
    unfold insC
    dsimp only
    rw [z1, z2]
    cases z3 <;> rfl
  | _ => rfl
instance {tbl : Nat → Option MF} [c : LTb tbl] [x : LE ma] [y : LE mb] : LE (eIxU tbl ma mb) := ⟨fun r s h σ σ' g a => (x.run r s h σ σ' g a).bind fun r1 s1 h1 v v' e1 g1 q1 => (y.run _ _ _ _ _ g1 (a.mono e1)).bind fun r2 s2 h2 w w' e2 g2 q2 => by
  rw [ins2 g2 (q1.mono e2)]
  cases z : insC v s2 with
  | none => exact .ofO (LOp.run (f := fIx) _ _ _ _ _ _ _ g2 (q1.mono e2) q2)
  | some d =>
    dsimp only
    cases w0 : tbl d with
    | none => trivial
    | some u => exact (c.run _ _ w0).run _ _ _ _ _ g2 (.cons (q1.mono e2) (.cons q2 .nil))⟩
theorem putIx2 {r : List Nat} {s h s' : Hi} (g : Ag2 r s h) {x x' y y' z z' : VI} (p : RV2 r x x') (q : RV2 r y y') (k : RV2 r z z') (e : putIx x y z s = some s') : ∃ h', putIx x' y' z' h = some h' ∧ Ex2 r h r h' ∧ Ag2 r s' h' := by
  unfold putIx at e ⊢
  cases p with
  | ref i =>
    obtain ⟨o, o', z1, z2, z3⟩ := g.no i
    dsimp only at e ⊢
    rw [z1] at e
    rw [z2]
    cases z3 with
    | lst t =>
      cases q with
      | int j =>
        dsimp only at e ⊢
        rw [← t.length]
        split at e
        · cases e
          obtain ⟨a, b⟩ := g.wr z1 i (.lst (t.set _ k))
          exact ⟨_, rfl, b, a⟩
        · cases e
      | _ => cases e
    | dic t =>
      dsimp only at e ⊢
      rw [isKey2 q, ← t.length]
      split at e
      · cases e
        obtain ⟨a, b⟩ := g.wr z1 i (.dic (putD2 q k t))
        exact ⟨_, rfl, b, a⟩
      · cases e
    | _ => cases e
  | _ => cases e
theorem nxO2 {r : List Nat} {s h : Hi} {σ σ' : Sg} (g : Ag2 r s h) (as : AS2 r σ σ') {x x' y y' z z' : VI} (p : RV2 r x x') (q : RV2 r y y') (k : RV2 r z z') : L2S r h (nxO σ (putIx x y z s)) (nxO σ' (putIx x' y' z' h)) := by
  cases e : putIx x y z s with
  | none => trivial
  | some s' => obtain ⟨h', e1, e2, e3⟩ := putIx2 g p q k e; rw [e1]; exact ⟨_, _, _, rfl, e2, e3, as.mono e2⟩
instance {tbl : Nat → Option MF} [c : LTb tbl] [x : LE ma] [y : LE mb] : LG (gIxU tbl ma mb) := ⟨fun r s h σ σ' u u' g a q => (x.run r s h σ σ' g a).bindS a fun r1 s1 h1 v v' e1 g1 q1 => (y.run _ _ _ _ _ g1 (a.mono e1)).bindS (a.mono e1) fun r2 s2 h2 w w' e2 g2 q2 => by
  rw [ins2 g2 (q1.mono e2)]
  have a2 := (a.mono e1).mono e2
  cases z : insC v s2 with
  | none => exact nxO2 g2 a2 (q1.mono e2) q2 ((q.mono e1).mono e2)
  | some d =>
    dsimp only
    cases w0 : tbl d with
    | none => trivial
    | some f => exact ((c.run _ _ w0).run _ _ _ _ _ g2 (.cons (q1.mono e2) (.cons q2 (.cons ((q.mono e1).mono e2) .nil)))).dropV a2⟩
instance [x : LE ma] [y : LE mb] : LG (gIx ma mb) := ⟨fun r s h σ σ' u u' g a q => (x.run r s h σ σ' g a).bindS a fun r1 s1 h1 v v' e1 g1 q1 => (y.run _ _ _ _ _ g1 (a.mono e1)).bindS (a.mono e1) fun r2 s2 h2 w w' e2 g2 q2 => nxO2 g2 ((a.mono e1).mono e2) (q1.mono e2) q2 ((q.mono e1).mono e2)⟩
instance {i : Nat} : LG (gNm i) := ⟨fun r s h σ σ' u u' g a q => .nx g (a.set q i)⟩
theorem fld2 {r : List Nat} {s h : Hi} {σ σ' : Sg} {cs : List Nat} {f : S} {x x' y y' : VI} (g2 : Ag2 r s h) (as : AS2 r σ σ') (p : RV2 r x x') (q : RV2 r y y') : L2S r h
    (match (generalizing := false) x with | .ref n => (match (generalizing := false) s[n]? with | some (.ins c fs) => (match (generalizing := false) cs.contains c && Nat.blt fs.length 1000 with | true => .nx σ (s.set n (.ins c (setF f y fs))) | false => .err) | _ => .err) | _ => .err)
    (match (generalizing := false) x' with | .ref n => (match (generalizing := false) h[n]? with | some (.ins c fs) => (match (generalizing := false) cs.contains c && Nat.blt fs.length 1000 with | true => .nx σ' (h.set n (.ins c (setF f y' fs))) | false => .err) | _ => .err) | _ => .err) := by
  cases p with
  | ref i =>
    obtain ⟨o, o', z1, z2, z3⟩ := g2.no i
    dsimp only
    rw [z1, z2]
    cases z3 with
    | ins t =>
      dsimp only
      rw [t.length]
      split
      · obtain ⟨a, b⟩ := g2.wr z1 i (.ins (setF2 q t))
        exact ⟨_, _, _, rfl, b, a, as.mono b⟩
      · trivial
    | _ => trivial
  | _ => trivial
instance {cs : List Nat} {f : S} [x : LE ma] [y : LE mb] : LS (sFldM cs f ma mb) := ⟨fun r s h σ σ' g a => (y.run r s h σ σ' g a).bindS a fun r1 s1 h1 v v' e1 g1 q1 => (x.run _ _ _ _ _ g1 (a.mono e1)).bindS (a.mono e1) fun r2 s2 h2 w w' e2 g2 q2 => fld2 g2 ((a.mono e1).mono e2) q2 (q1.mono e2)⟩
instance {cs : List Nat} {f : S} [x : LE ma] : LG (gFld cs f ma) := ⟨fun r s h σ σ' u u' g a q => (x.run r s h σ σ' g a).bindS a fun r2 s2 h2 w w' e2 g2 q2 => fld2 g2 (a.mono e2) q2 (q.mono e2)⟩
instance [z : LE mc] [x : LE ma] [y : LE mb] : LS (sPut ma mb mc) := ⟨fun r s h σ σ' g a => (z.run r s h σ σ' g a).bindS a fun r0 s0 h0 u u' e0 g0 q0 => (x.run _ _ _ _ _ g0 (a.mono e0)).bindS (a.mono e0) fun r1 s1 h1 v v' e1 g1 q1 => (y.run _ _ _ _ _ g1 ((a.mono e0).mono e1)).bindS ((a.mono e0).mono e1) fun r2 s2 h2 w w' e2 g2 q2 => nxO2 g2 (((a.mono e0).mono e1).mono e2) (q1.mono e2) q2 ((q0.mono e1).mono e2)⟩
/-! ### statements -/
instance : LS sNx := ⟨fun r s h σ σ' g a => .nx g a⟩
instance : LS sErr := ⟨fun r s h σ σ' g a => trivial⟩
instance : LT tErr := ⟨fun r s h σ σ' g a => trivial⟩
instance : LS sBk := ⟨fun r s h σ σ' g a => ⟨_, _, _, rfl, .refl, g, a⟩⟩
instance : LS sCt := ⟨fun r s h σ σ' g a => ⟨_, _, _, rfl, .refl, g, a⟩⟩
instance : LS sRetN := ⟨fun r s h σ σ' g a => ⟨_, _, _, rfl, .refl, g, .non⟩⟩
instance [x : LS sa] [y : LS sb] : LS (sSeq sa sb) := ⟨fun r s h σ σ' g a => (x.run r s h σ σ' g a).andThen fun r1 s1 h1 t t' e1 g1 q1 => y.run _ _ _ _ _ g1 q1⟩
instance [x : LE ma] : LS (sRet ma) := ⟨fun r s h σ σ' g a => (x.run r s h σ σ' g a).bindS a fun r1 s1 h1 v v' e1 g1 q1 => ⟨_, _, _, rfl, .refl, g1, q1⟩⟩
instance [x : LE ma] : LS (sDrop ma) := ⟨fun r s h σ σ' g a => (x.run r s h σ σ' g a).bindS a fun r1 s1 h1 v v' e1 g1 q1 => .nx g1 (a.mono e1)⟩
instance [x : LT ta] [y : LS sa] [z : LS sb] : LS (sIf ta sa sb) := ⟨fun r s h σ σ' g a => (x.run r s h σ σ' g a).bindS a fun r1 s1 h1 v v' e1 g1 q1 => by
  subst q1
  cases v with
  | true => exact y.run _ _ _ _ _ g1 (a.mono e1)
  | false => exact z.run _ _ _ _ _ g1 (a.mono e1)⟩
instance [x : LE ma] [y : LG ga] : LS (sAsg ma ga) := ⟨fun r s h σ σ' g a => (x.run r s h σ σ' g a).bindS a fun r1 s1 h1 v v' e1 g1 q1 => y.run _ _ _ _ _ _ _ g1 (a.mono e1) q1⟩
instance {known : Nat → Bool} {i : Nat} {f : MF} [x : LF f] [y : LA aa] : LS (sSuper known i f aa) := ⟨fun r s h σ σ' g a => by
  unfold sSuper
  cases z : σ[i]? with
  | none => trivial
  | some o =>
    cases o with
    | none => trivial
    | some v =>
      obtain ⟨w, k1, k2⟩ := a.at_ i v z
      rw [k1]
      cases k2 with
      | ref p =>
        obtain ⟨o, o', z1, z2, z3⟩ := g.no p
        dsimp only
        rw [z1, z2]
        cases z3 with
        | ins t =>
          dsimp only
          split
          · exact (y.run _ _ _ _ _ g a).bindS a fun r1 s1 h1 v v' e1 g1 q1 => (x.run _ _ _ _ _ g1 (.cons (.ref (e1.pre p)) q1)).dropV (a.mono e1)
          · trivial
        | _ => trivial
      | _ => trivial⟩
instance {i j : Nat} [y : LA aa] : LS (sPar i j aa) := ⟨fun r s h σ σ' g a => (y.run r s h σ σ' g a).bindS a fun r1 s1 h1 v v' e1 g1 q1 => by
  cases q1 with
  | nil => trivial
  | cons p t => cases t with
    | nil => trivial
    | cons q t => cases t with
      | cons _ _ => trivial
      | nil => exact .nx g1 (((a.mono e1).set p i).set q j)⟩
instance {i j l : Nat} [y : LA aa] : LS (sPar3 i j l aa) := ⟨fun r s h σ σ' g a => (y.run r s h σ σ' g a).bindS a fun r1 s1 h1 v v' e1 g1 q1 => by
  cases q1 with
  | nil => trivial
  | cons p t => cases t with
    | nil => trivial
    | cons q t => cases t with
      | nil => trivial
      | cons u t => cases t with
        | cons _ _ => trivial
        | nil => exact .nx g1 ((((a.mono e1).set p i).set q j).set u l)⟩
end
end ML
end

section
set_option Elab.async false
set_option linter.all false
set_option maxRecDepth 100000
set_option maxHeartbeats 400000
/-! Locality: more. -/
namespace ML
open PySem L2
section
variable {ma mb mc : ME} {ta tb : MT} {aa ab : MA} {sa sb : MS} {ga : MG}
/-! ### more expressions -/
instance {T : IsT} [x : LE ma] : LE (eIsi T ma) := ⟨fun r s h σ σ' g a => (x.run r s h σ σ' g a).bind fun r1 s1 h1 v v' e1 g1 q1 => by
  have same : isT T v' h1 = isT T v s1 := by
    unfold isT
    cases q1 with
    | ref i =>
      obtain ⟨o, o', z1, z2, z3⟩ := g1.no i
      dsimp only
      rw [z1, z2]
      cases z3 <;> rfl
    | _ => rfl
  rw [same]
  cases isT T v s1 with
  | none => trivial
  | some b => exact .ok g1 (.bl b)⟩
instance {tbl : S → Option VI} [c : CTs tbl] [x : LE ma] : LE (eKd tbl ma) := ⟨fun r s h σ σ' g a => (x.run r s h σ σ' g a).bind fun r1 s1 h1 v v' e1 g1 q1 => by
  cases q1 with
  | str y =>
    dsimp only
    cases z : tbl y with
    | none => trivial
    | some w => exact .ok g1 (c.run _ _ z _)
  | _ => trivial⟩
instance [x : LE ma] [y : LE mb] : LE (eTupRg ma mb) := ⟨fun r s h σ σ' g a => (x.run r s h σ σ' g a).bind fun r1 s1 h1 v v' e1 g1 q1 => (y.run _ _ _ _ _ g1 (a.mono e1)).bind fun r2 s2 h2 w w' e2 g2 q2 => by
  cases q1 with
  | int i => cases q2 with
    | int j =>
      dsimp only
      split
      · exact .ok g2 (.tup (rgI2 _ _))
      · trivial
    | _ => trivial
  | _ => trivial⟩
instance [x : LE ma] [y : LE mb] : LE (eLstRg ma mb) := ⟨fun r s h σ σ' g a => (x.run r s h σ σ' g a).bind fun r1 s1 h1 v v' e1 g1 q1 => (y.run _ _ _ _ _ g1 (a.mono e1)).bind fun r2 s2 h2 w w' e2 g2 q2 => by
  cases q1 with
  | int i => cases q2 with
    | int j =>
      dsimp only
      split
      · exact .new g2 fun r' e => .lst (rgI2 _ _)
      · trivial
    | _ => trivial
  | _ => trivial⟩
instance [y : LE mb] : LE (eTupRg1 mb) := ⟨fun r s h σ σ' g a => (y.run r s h σ σ' g a).bind fun r2 s2 h2 w w' e2 g2 q2 => by
  cases q2 with
  | int j =>
    dsimp only
    split
    · exact .ok g2 (.tup (rgI2 _ _))
    · trivial
  | _ => trivial⟩
instance [y : LE mb] : LE (eLstRg1 mb) := ⟨fun r s h σ σ' g a => (y.run r s h σ σ' g a).bind fun r2 s2 h2 w w' e2 g2 q2 => by
  cases q2 with
  | int j =>
    dsimp only
    split
    · exact .new g2 fun r' e => .lst (rgI2 _ _)
    · trivial
  | _ => trivial⟩
instance {lo hi : MO} [x : LE ma] [y : LO lo] [z : LO hi] : LE (eSl ma lo hi) := ⟨fun r s h σ σ' g a => (x.run r s h σ σ' g a).bind fun r1 s1 h1 v v' e1 g1 q1 => (y.run _ _ _ _ _ g1 (a.mono e1)).bind fun r2 s2 h2 w w' e2 g2 q2 => (z.run _ _ _ _ _ g2 ((a.mono e1).mono e2)).bind fun r3 s3 h3 u u' e3 g3 q3 => by
  subst q2 q3
  have p := (q1.mono e2).mono e3
  refine .ofO ?_
  unfold sliceM
  cases p with
  | tup t => exact .ok g3 (.tup (cutI2 t _ _))
  | ref i =>
    obtain ⟨o, o', z1, z2, z3⟩ := g3.no i
    dsimp only
    rw [z1, z2]
    cases z3 with
    | lst t => exact .new g3 fun r' e => .lst ((cutI2 t _ _).mono e)
    | scr t => exact .new g3 fun r' e => .lst ((cutI2 t _ _).mono e)
    | _ => trivial
  | _ => trivial⟩
instance [x : LE ma] [y : LE mb] [z : LE mc] : LE (eGet2 ma mb mc) := ⟨fun r s h σ σ' g a => (x.run r s h σ σ' g a).bind fun r1 s1 h1 v v' e1 g1 q1 => by
  cases q1 with
  | ref p =>
    obtain ⟨o, o', z1, z2, z3⟩ := g1.no p
    dsimp only
    rw [z1, z2]
    cases z3 with
    | dic t =>
      dsimp only
      exact (y.run _ _ _ _ _ g1 (a.mono e1)).bind fun r2 s2 h2 w w' e2 g2 q2 => (z.run _ _ _ _ _ g2 ((a.mono e1).mono e2)).bind fun r3 s3 h3 u u' e3 g3 q3 => by
        obtain ⟨o, o', k1, k2, k3⟩ := g3.no (e3.pre (e2.pre p))
        rw [k1, k2, isKey2 q2]
        cases k3 with
        | @dic xs ys t =>
          cases isKey w with
          | false => trivial
          | true =>
            dsimp only
            have k := getD2 (q2.mono e3) t
            cases w1 : getD w xs with
            | none => cases w2 : getD w' ys with
              | none => exact .ok g3 q3
              | some _ => rw [w1, w2] at k; exact k.elim
            | some _ => cases w2 : getD w' ys with
              | none => rw [w1, w2] at k; exact k.elim
              | some _ => rw [w1, w2] at k; exact .ok g3 k
        | _ => cases isKey w <;> trivial
    | _ => trivial
  | _ => trivial⟩
instance : LE eDisp0 := ⟨fun r s h σ σ' g a => .new g fun r' e => .dic .nil⟩
end
end ML
end

section
set_option Elab.async false
set_option linter.all false
set_option maxRecDepth 100000
set_option maxHeartbeats 400000
/-! Locality: loops, dict displays, defs. -/
namespace ML
open PySem L2
inductive RI2 (r : List Nat) : Itm → Itm → Prop
  | tup {xs ys : List VI} (t : RVs2 r xs ys) : RI2 r (.tup xs) (.tup ys)
  | lst {n m : Nat} (p : r[n]? = some m) : RI2 r (.lst n) (.lst m)
  | rng (lo : Int) (k : Nat) : RI2 r (.rng lo k) (.rng lo k)
  | enl {n m : Nat} (p : r[n]? = some m) : RI2 r (.enl n) (.enl m)
  | zip {n m n' m' : Nat} (p : r[n]? = some m) (q : r[n']? = some m') : RI2 r (.zip n n') (.zip m m')
class LI (m : MI) : Prop where
  run : ∀ r s h σ σ', Ag2 r s h → AS2 r σ σ' → L2R RI2 r h (m σ s) (m σ' h)
section
variable {r r' : List Nat} {h h' s : Hi}
theorem RI2.mono (e : Ex2 r h r' h') {a b : Itm} (k : RI2 r a b) : RI2 r' a b := by
  cases k with
  | tup t => exact .tup (t.mono e)
  | lst p => exact .lst (e.pre p)
  | rng a b => exact .rng a b
  | enl p => exact .enl (e.pre p)
  | zip p q => exact .zip (e.pre p) (e.pre q)
def ROs2 (r : List Nat) : Option (List VI) → Option (List VI) → Prop
  | some a, some b => RVs2 r a b
  | none, none => True
  | _, _ => False
theorem listAt2 (g : Ag2 r s h) {n m : Nat} (p : r[n]? = some m) : ROs2 r (listAt n s) (listAt m h) := by
  obtain ⟨o, o', z1, z2, z3⟩ := g.no p
  unfold listAt
  rw [z1, z2]
  cases z3 with
  | lst t => exact t
  | scr t => exact t
  | _ => trivial
theorem gt2 {xs ys : List VI} (i : Nat) (t : RVs2 r xs ys) : ROp2 r xs[i]? ys[i]? := by
  cases z : xs[i]? with
  | none => rw [t.none z]; trivial
  | some v => obtain ⟨w, h1, h2⟩ := t.get z; rw [h1]; exact h2
def ROO2 (r : List Nat) : Option (Option VI) → Option (Option VI) → Prop
  | some a, some b => ROp2 r a b
  | none, none => True
  | _, _ => False
theorem nxt2 (g : Ag2 r s h) {a b : Itm} (k : RI2 r a b) (i : Nat) : ROO2 r (a.nxt i s) (b.nxt i h) := by
  cases k with
  | tup t => exact gt2 i t
  | @lst n m p =>
    have k := listAt2 g p
    show ROO2 r (match (generalizing := false) listAt n s with | some xs => some xs[i]? | none => none) (match (generalizing := false) listAt m h with | some xs => some xs[i]? | none => none)
    cases z1 : listAt n s with
    | none => cases z2 : listAt m h with
      | none => trivial
      | some _ => rw [z1, z2] at k; exact k.elim
    | some xs => cases z2 : listAt m h with
      | none => rw [z1, z2] at k; exact k.elim
      | some ys => rw [z1, z2] at k; exact gt2 i k
  | rng lo k =>
    unfold Itm.nxt
    dsimp only
    cases Nat.blt i k with
    | true => exact RV2.int (r := r) (lo + (i : Nat))
    | false => trivial
  | @enl n m p =>
    have k := listAt2 g p
    unfold Itm.nxt
    dsimp only
    cases z1 : listAt n s with
    | none => cases z2 : listAt m h with
      | none => trivial
      | some _ => rw [z1, z2] at k; exact k.elim
    | some xs => cases z2 : listAt m h with
      | none => rw [z1, z2] at k; exact k.elim
      | some ys =>
        rw [z1, z2] at k
        have j := gt2 i k
        dsimp only
        cases y1 : xs[i]? with
        | none => cases y2 : ys[i]? with
          | none => trivial
          | some _ => rw [y1, y2] at j; exact j.elim
        | some v => cases y2 : ys[i]? with
          | none => rw [y1, y2] at j; exact j.elim
          | some w => rw [y1, y2] at j; exact RV2.tup (r := r) (.cons (.int _) (.cons j .nil))
  | @zip n m n' m' p q =>
    have k := listAt2 g p
    have k' := listAt2 g q
    unfold Itm.nxt
    dsimp only
    cases z1 : listAt n s with
    | none => cases z2 : listAt m h with
      | none => trivial
      | some _ => rw [z1, z2] at k; exact k.elim
    | some xs => cases z2 : listAt m h with
      | none => rw [z1, z2] at k; exact k.elim
      | some ys =>
        rw [z1, z2] at k
        cases u1 : listAt n' s with
        | none => cases u2 : listAt m' h with
          | none => trivial
          | some _ => rw [u1, u2] at k'; exact k'.elim
        | some xs' => cases u2 : listAt m' h with
          | none => rw [u1, u2] at k'; exact k'.elim
          | some ys' =>
            rw [u1, u2] at k'
            have j := gt2 i k
            have j' := gt2 i k'
            dsimp only
            cases y1 : xs[i]? with
            | none => cases y2 : ys[i]? with
              | none => trivial
              | some _ => rw [y1, y2] at j; exact j.elim
            | some v => cases y2 : ys[i]? with
              | none => rw [y1, y2] at j; exact j.elim
              | some w =>
                rw [y1, y2] at j
                cases x1 : xs'[i]? with
                | none => cases x2 : ys'[i]? with
                  | none => trivial
                  | some _ => rw [x1, x2] at j'; exact j'.elim
                | some v => cases x2 : ys'[i]? with
                  | none => rw [x1, x2] at j'; exact j'.elim
                  | some w =>
                    rw [x1, x2] at j'
                    exact RV2.tup (r := r) (.cons j (.cons j' .nil))
theorem fuel2 (g : Ag2 r s h) {a b : Itm} (k : RI2 r a b) : b.fuel h = a.fuel s := by
  have one : ∀ {n m : Nat}, r[n]? = some m → (match (generalizing := false) listAt m h with | some xs => xs.length | none => 0) = (match (generalizing := false) listAt n s with | some xs => xs.length | none => 0) := by
    intro n m p
    have k := listAt2 g p
    cases z1 : listAt n s with
    | none => cases z2 : listAt m h with
      | none => rfl
      | some _ => rw [z1, z2] at k; exact k.elim
    | some xs => cases z2 : listAt m h with
      | none => rw [z1, z2] at k; exact k.elim
      | some ys => rw [z1, z2] at k; exact k.length.symm
  cases k with
  | tup t => exact t.length.symm
  | lst p => exact one p
  | rng a b => rfl
  | enl p => exact one p
  | zip p q => exact one p
theorem turns2 {ga : MG} {body : MS} [x : LG ga] [y : LS body] : ∀ (k i : Nat) (r : List Nat) (s h : Hi) (σ σ' : Sg) (a b : Itm), Ag2 r s h → AS2 r σ σ' → RI2 r a b → L2S r h (turns a ga body k i σ s) (turns b ga body k i σ' h)
  | 0, i, r, s, h, σ, σ', a, b, g, as, q => by
    have n := nxt2 g q i
    unfold turns
    cases z1 : a.nxt i s with
    | none => trivial
    | some o => cases z2 : b.nxt i h with
      | none => rw [z1, z2] at n; exact n.elim
      | some o' =>
        rw [z1, z2] at n
        cases o with
        | some _ => trivial
        | none => cases o' with
          | some _ => exact n.elim
          | none => exact .nx g as
  | k + 1, i, r, s, h, σ, σ', a, b, g, as, q => by
    have n := nxt2 g q i
    unfold turns
    cases z1 : a.nxt i s with
    | none => trivial
    | some o => cases z2 : b.nxt i h with
      | none => rw [z1, z2] at n; exact n.elim
      | some o' =>
        rw [z1, z2] at n
        cases o with
        | none => cases o' with
          | some _ => exact n.elim
          | none => exact .nx g as
        | some v => cases o' with
          | none => exact n.elim
          | some v' =>
            refine (x.run _ _ _ _ _ _ _ g as n).andThen fun r1 s1 h1 τ τ' e1 g1 a1 => ?_
            have t := y.run _ _ _ _ _ g1 a1
            cases w : body τ s1 with
            | err => trivial
            | nx σ2 s2 =>
              rw [w] at t
              obtain ⟨r2, h2, σ2', k1, k2, k3, k4⟩ := t
              rw [k1]
              exact (turns2 k (i + 1) _ _ _ _ _ _ _ k3 k4 ((q.mono e1).mono k2)).ext k2
            | ct σ2 s2 =>
              rw [w] at t
              obtain ⟨r2, h2, σ2', k1, k2, k3, k4⟩ := t
              rw [k1]
              exact (turns2 k (i + 1) _ _ _ _ _ _ _ k3 k4 ((q.mono e1).mono k2)).ext k2
            | bk σ2 s2 => rw [w] at t; obtain ⟨r2, h2, σ2', k1, k2⟩ := t; rw [k1]; exact ⟨r2, h2, σ2', rfl, k2⟩
            | rt σ2 s2 => rw [w] at t; obtain ⟨r2, h2, σ2', k1, k2⟩ := t; rw [k1]; exact ⟨r2, h2, σ2', rfl, k2⟩
            | ex c n σ2 s2 => rw [w] at t; obtain ⟨r2, h2, σ2', m, k1, k2⟩ := t; rw [k1]; exact ⟨r2, h2, σ2', m, rfl, k2⟩
instance {mi : MI} {ga : MG} {body : MS} [z : LI mi] [x : LG ga] [y : LS body] : LS (sFor mi ga body) := ⟨fun r s h σ σ' g a => (z.run r s h σ σ' g a).bindS a fun r1 s1 h1 v v' e1 g1 q1 => by
  rw [fuel2 g1 q1]
  exact turns2 _ _ _ _ _ _ _ _ _ g1 (a.mono e1) q1⟩
instance {ma : ME} [x : LE ma] : LI (iSeq ma) := ⟨fun r s h σ σ' g a => (x.run r s h σ σ' g a).bind fun r1 s1 h1 v v' e1 g1 q1 => by
  unfold seqOf
  cases q1 with
  | tup t => exact .ok g1 (.tup t)
  | @ref n m p =>
    have k := listAt2 g1 p
    dsimp only
    cases z1 : listAt n s1 with
    | none => trivial
    | some xs => cases z2 : listAt m h1 with
      | none => rw [z1, z2] at k; exact k.elim
      | some ys => exact .ok g1 (.lst p)
  | _ => trivial⟩
instance {ma : ME} [x : LE ma] : LI (iEnumM ma) := ⟨fun r s h σ σ' g a => (x.run r s h σ σ' g a).bind fun r1 s1 h1 v v' e1 g1 q1 => by
  unfold enlOf
  cases q1 with
  | @ref n m p =>
    have k := listAt2 g1 p
    dsimp only
    cases z1 : listAt n s1 with
    | none => trivial
    | some xs => cases z2 : listAt m h1 with
      | none => rw [z1, z2] at k; exact k.elim
      | some ys => exact .ok g1 (.enl p)
  | _ => trivial⟩
instance {ma : MA} [x : LA ma] : LI (iRng ma) := ⟨fun r s h σ σ' g a => (x.run r s h σ σ' g a).bind fun r1 s1 h1 v v' e1 g1 q1 => by
  cases q1 with
  | nil => trivial
  | cons p t => cases t with
    | nil => cases p with
      | int i =>
        unfold rngOf
        dsimp only
        split
        · exact .ok g1 (.rng _ _)
        · trivial
      | _ => trivial
    | cons q t => cases t with
      | cons _ _ => cases p <;> cases q <;> trivial
      | nil => cases p with
        | int i => cases q with
          | int j =>
            unfold rngOf
            dsimp only
            split
            · exact .ok g1 (.rng _ _)
            · trivial
          | _ => trivial
        | _ => cases q <;> trivial⟩
theorem putMany2 : ∀ (is : List Nat) {xs ys : List VI} {σ σ' τ : Sg}, RVs2 r xs ys → AS2 r σ σ' → putMany is xs σ = some τ → ∃ τ', putMany is ys σ' = some τ' ∧ AS2 r τ τ'
  | [], _, _, _, _, _, .nil, a, e => by cases e; exact ⟨_, rfl, a⟩
  | _ :: is, _, _, _, _, _, .cons p t, a, e => putMany2 is t (a.set p _) e
  | [], _, _, _, _, _, .cons _ _, _, e => by cases e
  | _ :: _, _, _, _, _, _, .nil, _, e => by cases e
theorem put2 (t : Tgt) {v v' : VI} {σ σ' τ : Sg} (p : RV2 r v v') (a : AS2 r σ σ') (e : t.put v σ = some τ) : ∃ τ', t.put v' σ' = some τ' ∧ AS2 r τ τ' := by
  cases t with
  | one i => cases e; exact ⟨_, rfl, a.set p i⟩
  | many is =>
    cases p with
    | tup t => exact putMany2 is t a e
    | _ => cases e
theorem wipe2 {σ σ' : Sg} (a : AS2 r σ σ') : ∀ l : List Nat, AS2 r (wipeM σ l) (wipeM σ' l)
  | [] => a
  | i :: l => (wipe2 a l).lose i
instance {t : Tgt} : LG (gTgt t) := ⟨fun r s h σ σ' v v' g a p => by
  unfold gTgt
  cases z : t.put v σ with
  | none => trivial
  | some τ => obtain ⟨τ', e1, e2⟩ := put2 t p a z; rw [e1]; exact .nx g e2⟩
theorem turnsC2 {t : Tgt} {vs : List Nat} {tt : MT} {el : ME} [x : LT tt] [y : LE el] : ∀ (k i : Nat) (r : List Nat) (s h s' : Hi) (σ σ' : Sg) (a b : Itm) (D D' : Nat), Ag2 r s h → AS2 r σ σ' → RI2 r a b → r[D]? = some D' →
    turnsC a t vs tt el D σ k i s = some s' → ∃ r' h', turnsC b t vs tt el D' σ' k i h = some h' ∧ Ex2 r h r' h' ∧ Ag2 r' s' h'
  | 0, i, r, s, h, s', σ, σ', a, b, D, D', g, as, q, d, e => by
    have n := nxt2 g q i
    unfold turnsC at e ⊢
    cases z1 : a.nxt i s with
    | none => rw [z1] at e; cases e
    | some o =>
      rw [z1] at e n
      cases o with
      | some _ => cases e
      | none => cases z2 : b.nxt i h with
        | none => rw [z2] at n; exact n.elim
        | some o' => cases o' with
          | some _ => rw [z2] at n; exact n.elim
          | none => cases e; exact ⟨r, h, rfl, .refl, g⟩
  | k + 1, i, r, s, h, s', σ, σ', a, b, D, D', g, as, q, d, e => by
    have n := nxt2 g q i
    unfold turnsC at e ⊢
    cases z1 : a.nxt i s with
    | none => rw [z1] at e; cases e
    | some o =>
      rw [z1] at e n
      cases z2 : b.nxt i h with
      | none => rw [z2] at n; exact n.elim
      | some o' =>
        rw [z2] at n
        cases o with
        | none => cases o' with
          | some _ => exact n.elim
          | none => cases e; exact ⟨r, h, rfl, .refl, g⟩
        | some v => cases o' with
          | none => exact n.elim
          | some v' =>
            dsimp only at e ⊢
            cases z3 : t.put v (wipeM σ vs) with
            | none => rw [z3] at e; cases e
            | some τ =>
              obtain ⟨τ', w1, w2⟩ := put2 t n (wipe2 as vs) z3
              rw [z3] at e
              rw [w1]
              dsimp only at e ⊢
              have tk := x.run _ _ _ _ _ g w2
              cases z4 : tt τ s with
              | err => rw [z4] at e; cases e
              | ex _ _ _ => rw [z4] at e; cases e
              | ok c s2 =>
                rw [z4] at tk e
                obtain ⟨r2, h2, c', k1, k2, k3, k4⟩ := tk
                subst k4
                rw [k1]
                cases c with
                | false =>
                  dsimp only at e ⊢
                  obtain ⟨r3, h3, j1, j2, j3⟩ := turnsC2 k (i + 1) _ _ _ _ _ _ _ _ _ _ k3 (as.mono k2) (q.mono k2) (k2.pre d) e
                  exact ⟨r3, h3, j1, k2.trans j2, j3⟩
                | true =>
                  dsimp only at e ⊢
                  have ek := y.run _ _ _ _ _ k3 (w2.mono k2)
                  cases z5 : el τ s2 with
                  | err => rw [z5] at e; cases e
                  | ex _ _ _ => rw [z5] at e; cases e
                  | ok u s3 =>
                    rw [z5] at ek e
                    obtain ⟨r3, h3, u', m1, m2, m3, m4⟩ := ek
                    rw [m1]
                    dsimp only at e ⊢
                    obtain ⟨o, o', v1, v2, v3⟩ := m3.no (m2.pre (k2.pre d))
                    rw [v1] at e
                    rw [v2]
                    cases v3 with
                    | lst l =>
                      dsimp only at e ⊢
                      rw [l.length] at e
                      cases z6 : small _ with
                      | false => rw [z6] at e; cases e
                      | true =>
                        rw [z6] at e
                        dsimp only at e ⊢
                        obtain ⟨g4, e4⟩ := m3.wr v1 (m2.pre (k2.pre d)) (.lst (l.append (.cons m4 .nil)))
                        obtain ⟨r5, h5, j1, j2, j3⟩ := turnsC2 k (i + 1) _ _ _ _ _ _ _ _ _ _ g4 (((as.mono k2).mono m2).mono e4) (((q.mono k2).mono m2).mono e4) (e4.pre (m2.pre (k2.pre d))) e
                        exact ⟨r5, h5, j1, ((k2.trans m2).trans e4).trans j2, j3⟩
                    | _ => cases e
instance {mi : MI} {t : Tgt} {vs : List Nat} {tt : MT} {el : ME} [z : LI mi] [x : LT tt] [y : LE el] : LE (eLc mi t vs tt el) := ⟨fun r s h σ σ' g a => (z.run r s h σ σ' g a).bind fun r1 s1 h1 v v' e1 g1 q1 => by
  obtain ⟨g2, e2⟩ := g1.new (o := .lst []) (o' := .lst []) (.lst .nil)
  rw [fuel2 g1 q1]
  cases w : turnsC v t vs tt el s1.length σ (v.fuel s1) 0 (s1 ++ [.lst []]) with
  | none => trivial
  | some s2 =>
    obtain ⟨r3, h3, j1, j2, j3⟩ := turnsC2 _ _ _ _ _ _ _ _ _ _ _ _ g2 ((a.mono e1).mono e2) (q1.mono e2) g1.idx w
    rw [j1]
    exact ⟨r3, h3, _, rfl, e2.trans j2, j3, .ref (j2.pre g1.idx)⟩⟩
/-! ### dicts -/
class LPs (ps : List (ME × ME)) : Prop where
  run : ∀ r s h σ σ', Ag2 r s h → AS2 r σ σ' → L2R RKs2 r h (aPairs ps σ s) (aPairs ps σ' h)
instance : LPs [] := ⟨fun r s h σ σ' g a => .ok g .nil⟩
instance {k v : ME} {ps : List (ME × ME)} [x : LE k] [y : LE v] [z : LPs ps] : LPs ((k, v) :: ps) := ⟨fun r s h σ σ' g a => (x.run r s h σ σ' g a).bind fun r1 s1 h1 u u' e1 g1 q1 => (y.run _ _ _ _ _ g1 (a.mono e1)).bind fun r2 s2 h2 w w' e2 g2 q2 => (z.run _ _ _ _ _ g2 ((a.mono e1).mono e2)).bind fun r3 s3 h3 l l' e3 g3 q3 => .ok g3 (.cons ((q1.mono e2).mono e3) (q2.mono e3) q3)⟩
instance {ps : List (ME × ME)} [z : LPs ps] : LE (eDisp ps) := ⟨fun r s h σ σ' g a => by
  obtain ⟨g2, e2⟩ := g.new (o := .dic []) (o' := .dic []) (.dic .nil)
  refine L2R.ext e2 ((z.run _ _ _ _ _ g2 (a.mono e2)).bind fun r1 s1 h1 u u' e1 g1 q1 => ?_)
  have d := e1.pre g.idx
  obtain ⟨o, o', v1, v2, v3⟩ := g1.no d
  rw [v1, v2]
  cases v3 with
  | dic t =>
    cases t with
    | cons _ _ _ => trivial
    | nil =>
      dsimp only
      rw [keysOk2 q1, q1.length]
      split
      · obtain ⟨g4, e4⟩ := g1.wr v1 d (.dic (putAll2 q1 .nil))
        exact ⟨_, _, _, rfl, e4, g4, .ref d⟩
      · trivial
  | _ => trivial⟩
theorem nodup_inj {r : List Nat} (nd : r.Nodup) {i j m : Nat} (p : r[i]? = some m) (q : r[j]? = some m) : i = j := by
  obtain ⟨l1, e1⟩ := List.getElem?_eq_some_iff.mp p
  obtain ⟨l2, e2⟩ := List.getElem?_eq_some_iff.mp q
  have pw := List.pairwise_iff_getElem.mp nd
  rcases Nat.lt_trichotomy i j with l | l | l
  · exact absurd (e1.trans e2.symm) (pw i j l1 l2 l)
  · exact l
  · exact absurd (e2.trans e1.symm) (pw j i l2 l1 l)
theorem beq2 (g : Ag2 r s h) {i j m n : Nat} (p : r[i]? = some m) (q : r[j]? = some n) : Nat.beq m n = Nat.beq i j := by
  by_cases e : i = j
  · subst e
    rw [p] at q
    cases q
    rw [Nat.beq_refl, Nat.beq_refl]
  · have e' : m ≠ n := fun z => e (nodup_inj g.nd p (z ▸ q))
    have f1 : Nat.beq i j = false := by
      cases z : Nat.beq i j with
      | false => rfl
      | true => exact absurd (Nat.eq_of_beq_eq_true z) e
    have f2 : Nat.beq m n = false := by
      cases z : Nat.beq m n with
      | false => rfl
      | true => exact absurd (Nat.eq_of_beq_eq_true z) e'
    rw [f1, f2]
instance {e k v : ME} [x : LE e] [y : LE k] [z : LE v] : LE (eMrg e k v) := ⟨fun r s h σ σ' g a => by
  obtain ⟨g2, e2⟩ := g.new (o := .dic []) (o' := .dic []) (.dic .nil)
  refine L2R.ext e2 ((x.run _ _ _ _ _ g2 (a.mono e2)).bind fun r1 s1 h1 u u' e1 g1 q1 => ?_)
  have d := e1.pre g.idx
  obtain ⟨o, o', v1, v2, v3⟩ := g1.no d
  cases q1 with
  | @ref i j p =>
    dsimp only
    rw [beq2 g1 p d]
    obtain ⟨w, w', u1, u2, u3⟩ := g1.no p
    rw [v1, v2, u1, u2]
    cases Nat.beq i s.length with
    | true => trivial
    | false =>
      cases v3 with
      | dic t =>
        cases t with
        | cons _ _ _ => trivial
        | nil =>
          cases u3 with
          | dic t2 =>
            dsimp only
            rw [t2.length]
            cases small _ with
            | false => trivial
            | true =>
              dsimp only
              obtain ⟨g4, e4⟩ := g1.wr v1 d (.dic (putAll2 t2 .nil))
              obtain ⟨g5, e5⟩ := g4.new (o := .dic []) (o' := .dic []) (.dic .nil)
              have e45 := e4.trans e5
              refine L2R.ext e45 ?_
              have idx := g4.idx
              have D5 := e45.pre d
              unfold mrgTail
              have l1 : ∀ o : OI, (List.set s1 s.length o).length = s1.length := fun o => List.length_set
              have l2 : ∀ o : OI, (List.set h1 h.length o).length = h1.length := fun o => List.length_set
              refine (y.run _ _ _ _ _ g5 (((a.mono e2).mono e1).mono e45)).bind fun r6 s6 h6 ky ky' e6 g6 q6 => (z.run _ _ _ _ _ g6 ((((a.mono e2).mono e1).mono e45).mono e6)).bind fun r7 s7 h7 vz vz' e7 g7 q7 => ?_
              have D7 := e7.pre (e6.pre D5)
              have C7 := e7.pre (e6.pre idx)
              obtain ⟨o1, o1', a1, a2, a3⟩ := g7.no D7
              rw [l1, l2] at C7
              obtain ⟨o2, o2', b1, b2, b3⟩ := g7.no C7
              rw [isKey2 q6, a1, a2, b1, b2]
              cases isKey ky with
              | false => trivial
              | true =>
                cases a3 with
                | dic ta =>
                  cases b3 with
                  | dic tb =>
                    cases tb with
                    | cons _ _ _ => trivial
                    | nil =>
                      dsimp only
                      rw [ta.length]
                      cases small _ with
                      | false => trivial
                      | true =>
                        obtain ⟨g8, e8⟩ := g7.wr b1 C7 (.dic (.cons (q6.mono e7) q7 .nil))
                        have nb : ∃ o, (s7.set s1.length (OI.dic [(ky, vz)]))[s.length]? = some o := by
                          have : s.length < s7.length := (List.getElem?_eq_some_iff.mp a1).1
                          exact ⟨_, List.getElem?_eq_getElem (by simpa using this)⟩
                        obtain ⟨o9, n9⟩ := nb
                        obtain ⟨g9, e9⟩ := g8.wr n9 (e8.pre D7) (.dic (((putD2 (q6.mono e7) q7 ta))))
                        exact ⟨_, _, _, rfl, e8.trans e9, g9, .ref D7⟩
                  | _ => trivial
                | _ => trivial
          | _ => trivial
      | _ => trivial
  | _ => trivial⟩
theorem keysAre2 : ∀ (ks : List S) {xs ys : List (VI × VI)}, RKs2 r xs ys → keysAre ks ys = keysAre ks xs
  | [], _, _, .nil => rfl
  | [], _, _, .cons p _ t => by cases p <;> rfl
  | _ :: _, _, _, .nil => rfl
  | k :: ks, _, _, .cons p _ t => by
    cases p with
    | str s => unfold keysAre; rw [keysAre2 ks t]
    | _ => rfl
instance {ks : List S} {gk : MK} {e : ME} [x : LE e] [y : LK gk] : LE (eKwD ks gk e) := ⟨fun r s h σ σ' g a => by
  obtain ⟨g2, e2⟩ := g.new (o := .dic []) (o' := .dic []) (.dic .nil)
  refine L2R.ext e2 ((x.run _ _ _ _ _ g2 (a.mono e2)).bind fun r1 s1 h1 u u' e1 g1 q1 => ?_)
  have d := e1.pre g.idx
  obtain ⟨o, o', v1, v2, v3⟩ := g1.no d
  cases q1 with
  | @ref i j p =>
    dsimp only
    rw [beq2 g1 p d]
    obtain ⟨w, w', u1, u2, u3⟩ := g1.no p
    rw [v1, v2, u1, u2]
    cases Nat.beq i s.length with
    | true => trivial
    | false =>
      cases v3 with
      | dic t =>
        cases t with
        | cons _ _ _ => trivial
        | nil =>
          cases u3 with
          | dic t2 =>
            dsimp only
            rw [keysAre2 ks t2]
            split
            · obtain ⟨g4, e4⟩ := g1.wr v1 d (.dic (putAll2 t2 .nil))
              exact L2R.ext e4 (y.run _ _ _ _ _ _ _ g4 .nil ((vals2 t2).mono e4))
            · trivial
          | _ => trivial
      | _ => trivial
  | _ => trivial⟩
/-! ### targets in a row -/
class LGs (gs : List MG) : Prop where
  run : ∀ r s h σ σ' vs vs', Ag2 r s h → AS2 r σ σ' → RVs2 r vs vs' → L2S r h (gSeq gs vs σ s) (gSeq gs vs' σ' h)
instance : LGs [] := ⟨fun r s h σ σ' vs vs' g a t => by
  cases t with
  | nil => exact .nx g a
  | cons _ _ => trivial⟩
instance {x : MG} {gs : List MG} [p : LG x] [q : LGs gs] : LGs (x :: gs) := ⟨fun r s h σ σ' vs vs' g a t => by
  cases t with
  | nil => trivial
  | cons u t => exact (p.run _ _ _ _ _ _ _ g a u).andThen fun r1 s1 h1 τ τ' e1 g1 a1 => q.run _ _ _ _ _ _ _ g1 a1 (t.mono e1)⟩
instance {gs : List MG} [q : LGs gs] : LG (gTupM gs) := ⟨fun r s h σ σ' v v' g a p => by
  unfold gTupM
  cases p with
  | tup t =>
    dsimp only
    rw [t.length]
    split
    · exact q.run _ _ _ _ _ _ _ g a t
    · trivial
  | _ => trivial⟩
instance {i : Nat} {f : Op2} {e : ME} [x : LOp f] [y : LE e] : LS (sAug i f e) := ⟨fun r s h σ σ' g a => by
  unfold sAug
  cases z : σ[i]? with
  | none => trivial
  | some o =>
    cases o with
    | none => trivial
    | some v =>
      obtain ⟨w, k1, k2⟩ := a.at_ i v z
      rw [k1]
      refine (y.run _ _ _ _ _ g a).bindS a fun r1 s1 h1 u u' e1 g1 q1 => ?_
      have t := x.run _ _ _ _ _ _ _ g1 (k2.mono e1) q1
      cases z2 : f v u s1 with
      | none => trivial
      | some p =>
        rw [z2] at t
        obtain ⟨r2, h2, v', m1, m2, m3, m4⟩ := t
        rw [m1]
        exact ⟨r2, h2, _, rfl, m2, m3, ((a.mono e1).mono m2).set m4 i⟩⟩
/-! ### defs -/
theorem endB2 {a a' : RS} (k : L2S r h a a') : L2R RV2 r h (endB a) (endB a') := by
  cases a with
  | err => trivial
  | bk _ _ => trivial
  | ct _ _ => trivial
  | nx σ s => obtain ⟨r2, h2, m, rfl, e, g, _⟩ := k; exact ⟨r2, h2, _, rfl, e, g, .non⟩
  | rt v s => obtain ⟨r2, h2, m, rfl, e, g, q⟩ := k; exact ⟨r2, h2, _, rfl, e, g, q⟩
  | ex c n σ s => obtain ⟨r2, h2, m, m2, rfl, e, g, _, q⟩ := k; exact ⟨r2, h2, _, rfl, e, g, q⟩
theorem slots2 (n : Nat) : ∀ {vs vs' : List VI}, RVs2 r vs vs' → AS2 r (vs.map some ++ List.replicate n none) (vs'.map some ++ List.replicate n none) := by
  intro vs vs' t
  refine ⟨by simp [t.length], fun i v e => ?_⟩
  by_cases hi : i < vs.length
  · rw [List.getElem?_append_left (by simpa using hi), List.getElem?_map] at e
    rw [List.getElem?_append_left (by simpa [← t.length] using hi), List.getElem?_map]
    cases z : vs[i]? with
    | none => rw [z] at e; cases e
    | some u =>
      rw [z] at e
      cases e
      obtain ⟨b, h1, h2⟩ := t.get z
      rw [h1]
      exact ⟨b, rfl, h2⟩
  · rw [List.getElem?_append_right (by simpa using Nat.le_of_not_lt hi), List.getElem?_replicate] at e
    split at e <;> cases e
end
theorem lf_runB {np n : Nat} {b : MS} (x : LS b) : LF (runB np n b) := ⟨fun r s h vs vs' g t => by
  unfold runB
  rw [t.length]
  split
  · exact endB2 (x.run _ _ _ _ _ g (slots2 n t))
  · trivial⟩
/-- what is so on the small heap is so on the great one -/
theorem lift {f : MF} (x : LF f) {r : List Nat} {s h s' : Hi} {vs vs' : List VI} {v : VI} (e : f vs s = .ok v s') (g : Ag2 r s h) (t : RVs2 r vs vs') : ∃ r' h' v', f vs' h = .ok v' h' ∧ Ex2 r h r' h' ∧ Ag2 r' s' h' ∧ RV2 r' v v' := by
  have k := x.run r s h vs vs' g t
  rw [e] at k
  exact k
end ML
end

section
set_option Elab.async false
set_option linter.all false
set_option maxRecDepth 100000
set_option maxHeartbeats 4000000
/-! The M layer, part 20: comparisons by own classes' __eq__, __le__ .. -/
namespace ML
open PySem PySem.Spec PyProof.Rows L2 He
/-- a value's type: a built-in one, or an own class's number -/
inductive TyI where
  | bt (T : String) | own (c : Nat)
def tyI (y : VI) (h : Hi) : Option TyI := match y with
  | .non => some (.bt "NoneType")
  | .bl _ => some (.bt "bool")
  | .int _ => some (.bt "int")
  | .str _ => some (.bt "str")
  | .tup _ => some (.bt "tuple")
  | .ref n => match h[n]? with
    | some (.lst _) => some (.bt "list")
    | some (.scr _) => some (.bt "list")
    | some (.dic _) => some (.bt "dict")
    | some (.ins c _) => some (.own c)
    | _ => none
  | .glo _ => none
def boolR : Res VI → Res VI
  | .ok (.bl b) h => .ok (.bl b) h
  | .ex c n h => .ex c n h
  | _ => .err
/-- what stands on the right is of no class below -/
def nfI (cs : List Nat) : Option TyI → Bool
  | some (.bt _) => true
  | some (.own c) => cs.contains c
  | none => false
def eCmpU (cs : List Nat) (tbl : Nat → Option MF) (f : Op2) (a b : ME) : ME := fun σ h => (a σ h).bind fun x h1 => (b σ h1).bind fun y h2 => match insC x h2 with
  | some c => match tbl c, nfI cs (tyI y h2) with
    | some g, true => boolR (g [x, y] h2)
    | _, _ => .err
  | none => ofO (f x y h2)
structure NfOk (K : PySem.W.Frag) (G : Gx) (cs : List Nat) (tbl : Nat → Option MF) : Prop where
  bt : ∀ c C g T, tbl c = some g → G.ct c = some C → T ∈ ["NoneType", "bool", "int", "str", "tuple", "list", "dict"] → PySem.W.notFirst K C (.type T) = true
  own : ∀ c C g c' C', tbl c = some g → G.ct c = some C → cs.contains c' = true → G.ct c' = some C' → PySem.W.notFirst K C (.ref C') = true
section
variable {G : Gx} {ρ : List Addr} {h : Hi} {H : Hp} {W : WX} {X : Cx} {A : Around} {e a b c o i v : Expr} {es : List Expr} {pos p pos' apos : Pos} {me mi mo ma mb mv : ME} {mr : MA} {tbl : Nat → Option MF} {σ : L2.St} {cs : List Nat} {f : Op2}
theorem looks_at {M : Model} {hp : Heap} {a : Addr} {ob : Obj} {t : Value} (e : hp.get? a = some ob) (ec : ob.cls = t) : PySem.W.Looks M hp (typeOf (.ref a)) t := fun A Q E s k q => wpAny_typeOf_ref (k _ _ e) (by rw [ec]; exact q)
/-- the type of what is compared with -/
theorem tyI_ok (hG : G.K = X.K) {pins : List (Addr × Obj)} {s : Shared} (I : Inv X pins σ H s) {y : VI} {x : V} {u : Value} (ag : Ag G ρ h H) (r : RV G ρ H y x) (ru : RelV x u) {T : TyI} (e : tyI y h = some T) :
    (∃ t, T = .bt t ∧ t ∈ ["NoneType", "bool", "int", "str", "tuple", "list", "dict"] ∧ PySem.W.Looks (model X.prog X.w) s.heap (typeOf u) (.type t)) ∨ (∃ c C, T = .own c ∧ G.ct c = some C ∧ PySem.W.Looks (model X.prog X.w) s.heap (typeOf u) (.ref C)) := by
  unfold tyI at e
  cases r with
  | non => cases e; cases (show u = Value.none from ru); exact .inl ⟨_, rfl, by simp, .now⟩
  | bl q => cases e; cases (show u = Value.bool q from ru); exact .inl ⟨_, rfl, by simp, .now⟩
  | int q => cases e; obtain ⟨t, z⟩ := (show ∃ t, u = Value.int q t from ru); subst z; exact .inl ⟨_, rfl, by simp, .now⟩
  | str q => cases e; obtain ⟨t, z⟩ := (show ∃ t, u = Value.str _ t from ru); subst z; exact .inl ⟨_, rfl, by simp, .now⟩
  | glo q => cases e
  | @tup xs ys ad t rs =>
    cases e
    cases (show u = Value.ref ad from ru)
    rw [hG] at t
    obtain ⟨its, _, ⟨ob, h1, h2, _⟩, _⟩ := I.tuple t
    exact .inl ⟨_, rfl, by simp, looks_at h1 h2⟩
  | @ref n ad q =>
    cases (show u = Value.ref ad from ru)
    dsimp only at e
    cases q1 : h[n]? with
    | none => rw [q1] at e; cases e
    | some ob =>
      rw [q1] at e
      cases ob with
      | lst xs =>
        cases e
        obtain ⟨ys, hy, _⟩ := ag.at_ q1 q
        obtain ⟨⟨ob, h1, h2⟩, _⟩ := tyV_is (T := "list") I (x := .ref ad) (v := .ref ad) rfl (.inl ⟨rfl, ys, .inl (.inl hy)⟩)
        exact .inl ⟨_, rfl, by simp, looks_at h1 h2⟩
      | scr xs =>
        cases e
        obtain ⟨ob, ys, hy, _⟩ := ag.at_ q1 q
        obtain ⟨⟨ob, h1, h2⟩, _⟩ := tyV_is (T := "list") I (x := .ref ad) (v := .ref ad) rfl (.inl ⟨rfl, ys, .inl (.inr ⟨_, hy⟩)⟩)
        exact .inl ⟨_, rfl, by simp, looks_at h1 h2⟩
      | dic xs =>
        cases e
        obtain ⟨ys, hy, _⟩ := ag.at_ q1 q
        obtain ⟨⟨ob, h1, h2⟩, _⟩ := tyV_is (T := "dict") I (x := .ref ad) (v := .ref ad) rfl (.inr (.inr (.inl ⟨rfl, .inl ⟨_, hy⟩⟩)))
        exact .inl ⟨_, rfl, by simp, looks_at h1 h2⟩
      | ins c fs =>
        cases e
        obtain ⟨C, dx, gs, hc, hH, rf⟩ := insAt ag q1 q
        obtain ⟨m, hF, ox, od, J⟩ := insC_look I hH
        exact .inr ⟨c, C, rfl, hc, J.type⟩
      | xd fs => cases e
theorem boolR_fin {Q : VK} {W : Value → Option Addr → Hp → Prop} (r : Res VI) (fr : FinG G ρ H (RV G) Q W (boolR r)) : FinG G ρ H (RV G) (fun x H' => ∃ b, x = V.bl b ∧ Q x H') W r := by
  cases r with
  | ok v h' =>
    cases v with
    | bl b =>
      intro ρ' H' x st ag' rx
      cases rx
      exact ⟨b, rfl, fr ρ' H' _ st ag' (.bl b)⟩
    | _ => exact fr.elim
  | ex c n h' => exact fr
  | err => exact fr.elim
/-- what stands of x op y -/
def RdU (G : Gx) (W : WX) (σ : L2.St) (cs : List Nat) (tbl : Nat → Option MF) (f : Op2) (Q : VK) (x y : V) (H2 : Hp) : Prop :=
  rd2 G f x y H2 Q ∨ ∃ ρ2 h2 xi yi cn g, Ag G ρ2 h2 H2 ∧ RV G ρ2 H2 xi x ∧ RV G ρ2 H2 yi y ∧ insC xi h2 = some cn ∧ tbl cn = some g ∧ nfI cs (tyI yi h2) = true ∧ FinG G ρ2 H2 (RV G) Q (fun c d H' => W c d σ H') (boolR (g [xi, yi] h2))
theorem cmpU_rd {Q : VK} (q : rdE G W (eCmpU cs tbl f ma mb) σ H Q) : rdE G W ma σ H fun x H1 => rdE G W mb σ H1 fun y H2 => RdU G W σ cs tbl f Q x y H2 := by
  obtain ⟨ρ, σi, h, as, ag, fin⟩ := q
  exact rdG_go as ag fin fun ρ1 H1 h1 x x' st as ag r f => rdG_go as ag f fun ρ2 H2 h2 y y' st2 as ag rs f => by
      cases q1 : insC x h2 with
      | none => rw [q1] at f; exact .inl ⟨ρ2, h2, x, y, ag, r.mono st2, rs, FinO.of f⟩
      | some cn =>
        rw [q1] at f
        dsimp only at f
        cases q2 : tbl cn with
        | none => rw [q2] at f; exact f.elim
        | some g =>
          rw [q2] at f
          cases q3 : nfI cs (tyI y h2) with
          | false => rw [q3] at f; exact f.elim
          | true => rw [q3] at f; exact .inr ⟨ρ2, h2, x, y, cn, g, ag, r.mono st2, rs, q1, q2, q3, f⟩
theorem cmpU_run {op : CmpOp} {nm : Str} (hop : ∀ a b, compareOp op a b = richCompare op a b) (hnm : (cmpInfo op).2.1 = nm) (hG : G.K = X.K) (hu : X.A.units < cLine) (sp : SpOk X X.A G W tbl nm) (nf : NfOk X.K G cs tbl) (ho : OpR X (compareOp op) (rd2 G f))
    {pins : List (Addr × Obj)} {s2 : Shared} {H2 : Hp} {x y : V} {v u : Value} {Q : VK} (I2 : Inv X pins σ H2 s2) (rx : RelV x v) (ry : RelV y u) (q : RdU G W σ cs tbl f Q x y H2) : wpAny (model X.prog X.w) X.A (compareOp op v u) (EP X pins σ Q) X.xe s2 := by
  rcases q with q | ⟨ρ2, h2, xi, yi, cn, g, ag2, r1, r2, q1, q2, q3, fi⟩
  · exact ho pins s2 σ H2 x y v u Q I2 rx ry q
  · obtain ⟨ad, C, dx, gs, ex, hc, hH⟩ := insC_ok ag2 r1 q1
    subst ex
    obtain rfl : v = Value.ref ad := rx
    obtain ⟨f', k1, k2, k3, k4, k5⟩ := sp.at_ cn C g q2 hc
    obtain ⟨m, hF, ox, od, J⟩ := insC_look I2 hH
    have ty : ∃ t, PySem.W.Looks (model X.prog X.w) s2.heap (typeOf u) t ∧ PySem.W.notFirst X.K C t = true := by
      cases q4 : tyI yi h2 with
      | none => rw [q4] at q3; cases q3
      | some T =>
        rcases tyI_ok hG I2 ag2 r2 ry q4 with ⟨t, rfl, mt, lt⟩ | ⟨c', C', rfl, hc', lt⟩
        · exact ⟨_, lt, nf.bt cn C g t q2 hc mt⟩
        · rw [q4] at q3
          exact ⟨_, lt, nf.own cn C g c' C' q2 hc q3 hc'⟩
    obtain ⟨t, lt, nt⟩ := ty
    rw [hop]
    refine PySem.W.cmp_K (op := op) (tb := t) hu hF I2.ok.mod.kin J lt nt (by rw [hnm]; exact k2) k4 ?_
    have key := boolR_fin (G := G) (ρ := ρ2) (H := H2) (Q := Q) (W := fun c d H' => W c d σ H') (g [xi, yi] h2) fi
    refine wpAny_mono (k5 pins s2 σ H2 [.ref ad, u] [.ref ad, y] [xi, yi] ρ2 h2 _ I2 (.cons rfl (.cons ry .nil)) (.cons r1 (.cons r2 .nil)) ag2 key) (fun z s3 hz => ?_) fun _ _ z => z
    obtain ⟨x', H', I', rx', b, eb, q'⟩ := hz
    subst eb
    cases (show z = Value.bool b from rx')
    exact ⟨.bl b, H', I', rfl, q'⟩
theorem me_cmpU {op : CmpOp} {nm : Str} (hop : ∀ a b, compareOp op a b = richCompare op a b) (hnm : (cmpInfo op).2.1 = nm) (hG : G.K = X.K) (hu : X.A.units < cLine) (sp : SpOk X X.A G W tbl nm) (nf : NfOk X.K G cs tbl) (ho : OpR X (compareOp op) (rd2 G f)) (ha : PE X a (rdE G W ma)) (hb : PE X b (rdE G W mb))
    (hm : behindInMarks op b = false) : PE X (.Compare a [op] [b] pos) (rdE G W (eCmpU cs tbl f ma mb)) := ⟨fun pins s σ H Q I h =>
  wpAny_Compare1 (binT ha hb I (cmpU_rd h) fun v u s2 x y H2 I2 rx ry q => cmpU_run hop hnm hG hu sp nf ho I2 rx ry q) hm⟩
theorem mt_cmpU {op : CmpOp} {nm : Str} (hop : ∀ a b, compareOp op a b = richCompare op a b) (hnm : (cmpInfo op).2.1 = nm) (hG : G.K = X.K) (hu : X.A.units < cLine) (sp : SpOk X X.A G W tbl nm) (nf : NfOk X.K G cs tbl) (ho : OpR X (compareOp op) (rd2 G f)) (ha : PE X a (rdE G W ma)) (hb : PE X b (rdE G W mb))
    (hm : behindInMarks op b = false) : PT X (.Compare a [op] [b] pos) (rdT G W (tOf (eCmpU cs tbl f ma mb))) := ⟨fun pins s σ H Q I h =>
  wpAny_isTrue_Compare1 (thn (ha.run pins s σ H _ I (cmpU_rd (tOf_rd h))) fun v s1 ⟨x, H1, I1, r1, q1⟩ => thn (hb.run pins s1 σ H1 _ I1 q1) fun u s2 ⟨y, H2, I2, r2, q2⟩ =>
    thn (cmpU_run hop hnm hG hu sp nf ho I2 r1 r2 q2) fun c s3 ⟨z, H3, I3, r3, k, e, q3⟩ => by
      subst e
      cases r3
      exact wpAny_truthy_bool ⟨H3, I3, q3⟩) hm⟩
end
/-! ### by names -/
def nfB1 (K : PySem.W.Frag) (nm : Nat → Option Str) (x : Str) (cs : List Nat) : Bool := (["NoneType", "bool", "int", "str", "tuple", "list", "dict"].all fun T => PySem.W.notFirst K (ga K x) (.type T)) && cs.all fun c => match nm c with
  | some y => PySem.W.notFirst K (ga K x) (.ref (ga K y))
  | none => false
section
variable {K : PySem.W.Frag} {mg : Str → Option Value} {nm : Nat → Option Str} {cs : List Nat}
theorem nfOk_nil : NfOk K (GxOf K mg nm) cs (lkT ([] : List (Nat × MF))) := ⟨(fun _ _ _ _ h => nomatch h), (fun _ _ _ _ _ h => nomatch h)⟩
theorem nfOk_cons {c : Nat} {g : MF} {x : Str} {r : List (Nat × MF)} (hn : nm c = some x) (hB : nfB1 K nm x cs = true) (t : NfOk K (GxOf K mg nm) cs (lkT r)) : NfOk K (GxOf K mg nm) cs (lkT ((c, g) :: r)) := by
  obtain ⟨b1, b2⟩ := ba hB
  refine ⟨fun c' C w T h e m => ?_, fun c' C w d D h e k e2 => ?_⟩
  · rcases lkT_cons h with ⟨q1, q2⟩ | q
    · subst q1 q2
      rw [gx_ct e hn]
      exact List.all_eq_true.mp b1 T m
    · exact t.bt c' C w T q e m
  · rcases lkT_cons h with ⟨q1, q2⟩ | q
    · subst q1 q2
      rw [gx_ct e hn]
      have z := List.all_eq_true.mp b2 d (by simpa using k)
      cases q3 : nm d with
      | none => rw [q3] at z; cases z
      | some y =>
        rw [q3] at z
        rw [gx_ct e2 q3]
        exact z
    · exact t.own c' C w d D q e k e2
end
end ML
end

section
set_option Elab.async false
set_option linter.all false
set_option maxRecDepth 100000
set_option maxHeartbeats 4000000
/-! Locality of what came later. -/
namespace ML
open PySem L2
theorem ty2 {r : List Nat} {s h : Hi} (g : Ag2 r s h) {x y : VI} (p : RV2 r x y) : tyI y h = tyI x s := by
  cases p with
  | ref i =>
    obtain ⟨o, o', z1, z2, z3⟩ := g.no i
    unfold tyI
    dsimp only
    rw [z1, z2]
    cases z3 <;> rfl
  | _ => rfl
theorem L2R.boolR {r : List Nat} {h : Hi} {a b : Res VI} (k : L2R RV2 r h a b) : L2R RV2 r h (boolR a) (boolR b) := by
  cases a with
  | err => trivial
  | ex c n s' =>
    obtain ⟨r', h', m, rfl, e, g, q⟩ := k
    exact ⟨r', h', m, rfl, e, g, q⟩
  | ok v s' =>
    obtain ⟨r', h', v', rfl, e, g, q⟩ := k
    cases q with
    | bl b => exact ⟨r', h', _, rfl, e, g, .bl b⟩
    | _ => trivial
section
variable {ma mb : ME} {f : Op2}
instance {cs : List Nat} {tbl : Nat → Option MF} [c : LTb tbl] [x : LE ma] [y : LE mb] [o : LOp f] : LE (eCmpU cs tbl f ma mb) := ⟨fun r s h σ σ' g a => (x.run r s h σ σ' g a).bind fun r1 s1 h1 v v' e1 g1 q1 => (y.run _ _ _ _ _ g1 (a.mono e1)).bind fun r2 s2 h2 w w' e2 g2 q2 => by
  rw [ins2 g2 (q1.mono e2), ty2 g2 q2]
  cases z : insC v s2 with
  | none => exact .ofO (o.run _ _ _ _ _ _ _ g2 (q1.mono e2) q2)
  | some d =>
    dsimp only
    cases w0 : tbl d with
    | none => trivial
    | some u =>
      cases w1 : nfI cs (tyI w s2) with
      | false => trivial
      | true => exact ((c.run _ _ w0).run _ _ _ _ _ g2 (.cons (q1.mono e2) (.cons q2 .nil))).boolR⟩
end
end ML
end

section
set_option Elab.async false
set_option linter.all false
set_option maxRecDepth 100000
set_option maxHeartbeats 4000000
/-! The M layer, part 21: == of dicts with plain values. -/
namespace ML
open PySem PySem.Spec PyProof.Rows L2 He
def flK : List (VI × VI) → Bool
  | [] => true
  | (_, v) :: r => flI v && flK r
def allK (kb : List (VI × VI)) : List (VI × VI) → Bool
  | [] => true
  | (k, v) :: r => match getD k kb with
    | some w => eqI v w && allK kb r
    | none => false
def fEqX : Op2 := fun x y h => match x, y with
  | .ref a, .ref b => match h[a]?, h[b]? with
    | some (.dic ka), some (.dic kb) => match flK ka && flK kb with
      | true => some (.bl (Nat.beq ka.length kb.length && allK kb ka), h)
      | false => none
    | _, _ => fEq x y h
  | _, _ => fEq x y h
section
variable {G : Gx} {ρ : List Addr} {h : Hi} {H : Hp} {X : Cx} {Q : VK}
theorem flK_get {b : VI} : ∀ {kvs : List (VI × VI)} {v : VI}, flK kvs = true → getD b kvs = some v → flI v = true
  | [], _, _, e => by cases e
  | (k, u) :: r, v, f, e => by
    unfold flK at f
    obtain ⟨f1, f2⟩ := Bool.and_eq_true_iff.mp f
    unfold getD at e
    split at e
    · cases e; exact f1
    · exact flK_get f2 e
theorem hits_ok {P : Program} {w : World} {A : Around} {s : Shared} {kb : List (VI × VI)} {lb : List (Key × V)} {vb : List (Key × Value)} (rb : RKs G ρ H kb lb) (vbr : KV lb vb) (fb : flK kb = true) :
    ∀ {ka : List (VI × VI)} {la : List (Key × V)} {va : List (Key × Value)}, RKs G ρ H ka la → KV la va → flK ka = true → PySem.W.KeqHitsP P w A s vb va (allK kb ka)
  | _, _, _, .nil, k, _ => by
    cases k
    exact .nil
  | _, _, _, .cons (a := a) (k := k) (v := v) (x := x) (as := as) (ks := ks) e r t, kv, f => by
    unfold flK at f
    obtain ⟨f1, f2⟩ := Bool.and_eq_true_iff.mp f
    unfold KV at kv
    cases kv with
    | @cons p q ps qs h1 tl =>
      obtain ⟨key, val⟩ := q
      obtain ⟨h2, h3⟩ := h1
      have h2' : k = key := h2
      subst h2'
      have g := RKs.getD (b := a) (l := k) e rb
      have rv := vbr.val k
      unfold allK
      cases z : getD a kb with
      | none =>
        rw [z] at g
        have g' : valV lb k = none := g
        rw [g'] at rv
        exact .miss rv.none_of
      | some u =>
        rw [z] at g
        obtain ⟨y, g1, g2⟩ := g
        have g1' : valV lb k = some y := g1
        rw [g1'] at rv
        obtain ⟨yv, hy, ry⟩ := rv.some_of
        have fu := flK_get fb z
        dsimp only
        rw [r.eqI g2 f1 fu]
        exact .hit hy (eqAt_V h3 ry (r.flat f1) (g2.flat fu)).eqP (hits_ok rb vbr fb t tl f2)
theorem beqN (n m : Nat) : (n == m) = Nat.beq n m := by
  cases q : Nat.beq n m with
  | true => simp [Nat.eq_of_beq_eq_true q]
  | false => simp [Nat.ne_of_beq_eq_false q]
theorem mo_eqX (hG : G.K = X.K) (hu : X.A.units + 64 < cLine) : OpR X (compareOp .Eq) (rd2 G fEqX) := fun pins s σ H x y v u Q I rx ry q => by
  obtain ⟨ρ, h, xi, yi, ag, r1, r2, f⟩ := q
  have old : FinO G ρ H (RV G) Q (fEq xi yi h) → wpAny (model X.prog X.w) X.A (compareOp .Eq v u) (EP X pins σ Q) X.xe s := fun f => mo_eq hG hu pins s σ H x y v u Q I rx ry ⟨ρ, h, xi, yi, ag, r1, r2, f⟩
  unfold fEqX at f
  cases r1 with
  | @ref n a q1 =>
    cases r2 with
    | @ref m b q2 =>
      dsimp only at f
      split at f
      · rename_i ka kb z1 z2
        cases fl : flK ka && flK kb with
        | false => rw [fl] at f; exact f.elim
        | true =>
          rw [fl] at f
          obtain ⟨fa, fb⟩ := Bool.and_eq_true_iff.mp fl
          obtain ⟨la, ha, ra⟩ := ag.at_ z1 q1
          obtain ⟨lb, hb, rb⟩ := ag.at_ z2 q2
          cases (show v = Value.ref a from rx)
          cases (show u = Value.ref b from ry)
          obtain ⟨_, ya, va, kva, da⟩ := (show ObjOk X.prog X.w H s.heap a (.dK la) from I.hok a _ ha)
          obtain ⟨_, yb, vb, kvb, db⟩ := (show ObjOk X.prog X.w H s.heap b (.dK lb) from I.hok b _ hb)
          refine PySem.W.rcP_dicts (knd := mixKind X.prog X.w) (r := allK kb ka) ya yb da db (by omega) (fun _ => hits_ok rb kvb fb ra kva fa) _ _ ?_
          have e : (va.length == vb.length) = Nat.beq ka.length kb.length := by
            rw [ra.length, rb.length, kva.length, kvb.length]
            exact beqN _ _
          rw [e]
          exact ⟨.bl _, H, I, rfl, f.ok ag (.bl _)⟩
      · exact old f
    | _ => exact old (by simpa [fEqX] using f)
  | _ => exact old (by simpa [fEqX] using f)
end
end ML
end

section
set_option Elab.async false
set_option linter.all false
set_option maxRecDepth 100000
set_option maxHeartbeats 4000000
/-! Locality of what came later, 2. -/
namespace ML
open PySem L2
section
variable {r : List Nat} {s h : Hi}
theorem flK2 : ∀ {ka kb : List (VI × VI)}, RKs2 r ka kb → flK kb = flK ka
  | _, _, .nil => rfl
  | _, _, .cons _ a t => by simp only [flK, flI2 a, flK2 t]
theorem allK2 {la lb : List (VI × VI)} (q : RKs2 r la lb) (fl : flK la = true) : ∀ {ka kb : List (VI × VI)}, RKs2 r ka kb → flK ka = true → allK lb kb = allK la ka
  | _, _, .nil, _ => rfl
  | _, _, .cons (a := a) (b := b) k p t, f => by
    unfold flK at f
    obtain ⟨f1, f2⟩ := Bool.and_eq_true_iff.mp f
    have g := getD2 k q
    simp only [allK]
    cases z : getD a la with
    | none =>
      rw [z] at g
      cases z2 : getD b lb with
      | none => rfl
      | some w => rw [z2] at g; exact g.elim
    | some u =>
      rw [z] at g
      cases z2 : getD b lb with
      | none => rw [z2] at g; exact g.elim
      | some w =>
        rw [z2] at g
        dsimp only
        rw [eqI2 p g, allK2 q fl t f2]
instance : LOp fEqX := ⟨fun r s h x y x' y' g p q => by
  have old := LOp.run (f := fEq) r s h x y x' y' g p q
  unfold fEqX
  cases p with
  | ref i =>
    cases q with
    | ref j =>
      obtain ⟨o, o', z1, z2, z3⟩ := g.no i
      obtain ⟨u, u', y1, y2, y3⟩ := g.no j
      dsimp only
      rw [z1, z2, y1, y2]
      cases z3 with
      | dic t =>
        cases y3 with
        | dic t' =>
          dsimp only
          rw [flK2 t, flK2 t']
          rename_i ka kb la lb
          cases f : flK ka && flK la with
          | false => trivial
          | true =>
            obtain ⟨f1, f2⟩ := Bool.and_eq_true_iff.mp f
            dsimp only
            rw [← t.length, ← t'.length, allK2 t' f2 t f1]
            exact .ok g (.bl _)
        | _ => exact old
      | _ => exact old
    | _ => exact old
  | _ => exact old⟩
end
end ML
end

section
set_option Elab.async false
set_option linter.all false
set_option maxRecDepth 100000
set_option maxHeartbeats 4000000
/-! The M layer, part 22: l.index(x) where all items are flat. -/
namespace ML
open PySem PySem.Spec PyProof.Rows L2 He
def okI : VI → Bool
  | .non => true
  | .bl _ => true
  | .int _ => true
  | .str s => PyData.strOk (toStr s)
  | _ => false
def alO : List VI → Bool
  | [] => true
  | y :: r => match okI y with
    | true => alO r
    | false => false
def pdI : VI → PyData
  | .bl b => .bool b
  | .int i => .int i
  | .str s => .str (toStr s)
  | _ => .none
def ixF (y : VI) : List VI → Nat → Option Nat
  | [], _ => none
  | x :: r, j => match eqI x y with
    | true => some j
    | false => ixF y r (j + 1)
def mIndex : OpM := fun x vs h => match x with
  | .ref n => match h[n]? with
    | some (.lst xs) => match vs with
      | [y] => match okI y && alO xs with
        | true => match ixF y xs 0 with
          | some j => some (.int (j : Nat), h)
          | none => none
        | false => none
      | _ => none
    | _ => none
  | _ => none
theorem pdI_eqv {v w : VI} (a : okI v = true) (b : okI w = true) : PyData.eqv (pdI v) (pdI w) = eqI v w := by
  have ss : ∀ s t : S, (toStr s == toStr t) = decide (s = t) := fun s t => by
    by_cases z : s = t
    · subst z; simp
    · rw [decide_eq_false z, beq_eq_false_iff_ne.mpr fun w => z (toStr_inj w)]
  cases v <;> cases w <;> first | (cases a; done) | (cases b; done) | skip
  all_goals first
    | (simp only [pdI, PyData.eqv, eqI]; done)
    | (simp only [pdI, PyData.eqv, eqI, ss]; done)
    | (rw [Bool.eq_iff_iff]; simp [pdI, PyData.eqv, eqI, b2i]; done)
    | skip
  · rename_i p q
    show ((if p = true then (1 : Int) else 0) == q) = decide (b2i p = q)
    cases p <;> (rw [Bool.eq_iff_iff]; simp [b2i]; exact ⟨fun z => decide_eq_true z, fun z => of_decide_eq_true z⟩)
  · rename_i q p
    show (q == (if p = true then (1 : Int) else 0)) = decide (q = b2i p)
    cases p <;> (rw [Bool.eq_iff_iff]; simp [b2i]; exact ⟨fun z => decide_eq_true z, fun z => of_decide_eq_true z⟩)
theorem okI_lay {v : VI} (a : okI v = true) : (pdI v).canLay0 = true ∧ (pdI v).depth ≤ 1 := by
  cases v <;> first | (cases a; done) | exact ⟨by simpa [pdI, PyData.canLay0, okI] using a, by simp [pdI, PyData.depth]⟩
theorem alO_lay : ∀ {xs : List VI}, alO xs = true → PyData.canLayAll0 (xs.map pdI) = true ∧ PyData.depthAll (xs.map pdI) ≤ 1
  | [], _ => ⟨by simp [PyData.canLayAll0], by simp [PyData.depthAll]⟩
  | x :: r, e => by
    unfold alO at e
    cases q : okI x with
    | false => rw [q] at e; cases e
    | true =>
      rw [q] at e
      obtain ⟨a, b⟩ := okI_lay q
      obtain ⟨c, d⟩ := alO_lay e
      exact ⟨by simp [PyData.canLayAll0, a, c], by simp [PyData.depthAll]; omega⟩
theorem alO_all {xs : List VI} : alO xs = true → ∀ x ∈ xs, okI x = true := by
  induction xs with
  | nil => intro _ x h; cases h
  | cons y r ih =>
    intro e x h
    unfold alO at e
    cases q : okI y with
    | false => rw [q] at e; cases e
    | true =>
      rw [q] at e
      rcases List.mem_cons.mp h with rfl | h
      · exact q
      · exact ih e x h
theorem ixF_at {y : VI} : ∀ {xs : List VI} {k j : Nat}, ixF y xs k = some j → ∃ i, j = k + i ∧ (∃ x, xs[i]? = some x ∧ eqI x y = true) ∧ ∀ m x, m < i → xs[m]? = some x → eqI x y = false
  | [], k, j, e => by cases e
  | x :: r, k, j, e => by
    unfold ixF at e
    cases q : eqI x y with
    | true => rw [q] at e; cases e; exact ⟨0, by omega, ⟨x, rfl, q⟩, fun m _ h => by omega⟩
    | false =>
      rw [q] at e
      obtain ⟨i, rfl, ⟨x', h1, h2⟩, h3⟩ := ixF_at e
      refine ⟨i + 1, by omega, ⟨x', h1, h2⟩, fun m z h hz => ?_⟩
      cases m with
      | zero => cases hz; exact q
      | succ m => exact h3 m z (by omega) hz
section
variable {G : Gx} {ρ : List Addr} {h : Hi} {H : Hp} {X : Cx}
theorem RV.dpI {v : VI} {x : V} (r : RV G ρ H v x) (a : okI v = true) : Dp G.K H x (pdI v) := by
  cases r with
  | non => exact .non
  | bl b => exact .bl b
  | int i => exact .int i
  | str q => subst q; exact .str _
  | _ => cases a
theorem RVs.dpI : ∀ {vs : List VI} {xs : List V}, RVs G ρ H vs xs → alO vs = true → DpAll G.K H xs (vs.map pdI)
  | _, _, .nil, _ => .nil
  | _, _, .cons (v := v) r t, e => by
    unfold alO at e
    cases q : okI v with
    | false => rw [q] at e; cases e
    | true => rw [q] at e; exact .cons (r.dpI q) (t.dpI e)
theorem mm_index (hG : G.K = X.K) (hu : X.A.units + 65 < cLine) : MtR X "list.index" (rdM G mIndex) := by
  intro pins s σ H x xs v us Q I rx rxs ⟨ρ, h, xi, args, ag, r, ra, fi⟩
  unfold mIndex at fi
  cases r with
  | @ref n a e =>
    dsimp only at fi
    cases q1 : h[n]? with
    | none => rw [q1] at fi; exact fi.elim
    | some ob =>
      rw [q1] at fi
      cases ob with
      | lst zs =>
        obtain ⟨ys, hy, rs⟩ := ag.at_ q1 e
        cases ra with
        | nil => exact fi.elim
        | @cons yi y' _ _ ry t =>
          cases t with
          | cons _ _ => exact fi.elim
          | nil =>
            dsimp only at fi
            cases q2 : okI yi && alO zs with
            | false => rw [q2] at fi; exact fi.elim
            | true =>
              rw [q2] at fi
              dsimp only at fi
              obtain ⟨k1, k2⟩ := Bool.and_eq_true_iff.mp q2
              cases q3 : ixF yi zs 0 with
              | none => rw [q3] at fi; exact fi.elim
              | some j =>
                rw [q3] at fi
                obtain ⟨i, rfl, ⟨z, h1, h2⟩, h3⟩ := ixF_at q3
                obtain ⟨c1, c2⟩ := alO_lay k2
                obtain ⟨c3, c4⟩ := okI_lay k1
                have al := alO_all k2
                rw [Nat.zero_add] at fi
                refine mt_indexD hu pins s σ H _ _ v us Q I (show RelV (.ref a) v from rx) rxs ⟨a, _, pdI yi, zs.map pdI, i, pdI z, rfl, rfl, hG ▸ .lst (.inl (.inl hy)) (rs.dpI k2), hG ▸ ry.dpI k1, ?_, ?_, ?_, ?_, ?_, fi.ok ag (.int _)⟩
                · simp [SeqAt.shaped, PyData.canLay0, PyData.depth, c1]; omega
                · simp [SeqAt.shaped, c3]; omega
                · rw [List.getElem?_map, h1]; rfl
                · rw [pdI_eqv (al _ (List.mem_of_getElem? h1)) k1]; exact h2
                · intro m z' hm hz
                  rw [List.getElem?_map] at hz
                  cases q4 : zs[m]? with
                  | none => rw [q4] at hz; cases hz
                  | some z2 =>
                    rw [q4] at hz
                    cases hz
                    rw [pdI_eqv (al _ (List.mem_of_getElem? q4)) k1]
                    exact h3 m z2 hm q4
      | _ => exact fi.elim
  | _ => exact fi.elim
end
/-! ### locality -/
section
variable {r : List Nat}
theorem okI2 {a b : VI} (p : RV2 r a b) : okI b = okI a := by cases p <;> rfl
theorem alO2 : ∀ {xs ys : List VI}, RVs2 r xs ys → alO ys = alO xs
  | _, _, .nil => rfl
  | _, _, .cons q t => by unfold alO; rw [okI2 q, alO2 t]
theorem ixF2 {a b : VI} (p : RV2 r a b) : ∀ {xs ys : List VI} (k : Nat), RVs2 r xs ys → ixF b ys k = ixF a xs k
  | _, _, _, .nil => rfl
  | _, _, _, .cons q t => by unfold ixF; rw [eqI2 q p, ixF2 p _ t]
end
instance : LOm mIndex := ⟨fun r s h x x' vs vs' g p t => by
  unfold mIndex
  cases p with
  | ref i =>
    obtain ⟨o, o', e1, e2, e3⟩ := g.no i
    dsimp only
    rw [e1, e2]
    cases e3 with
    | lst l =>
      cases t with
      | nil => trivial
      | cons q t =>
        cases t with
        | cons _ _ => trivial
        | nil =>
          dsimp only
          rw [okI2 q, alO2 l, ixF2 q 0 l]
          split
          · split
            · exact .ok g (.int _)
            · trivial
          · trivial
    | _ => trivial
  | _ => trivial⟩
end ML
end

section
set_option Elab.async false
set_option linter.all false
set_option maxRecDepth 100000
set_option maxHeartbeats 4000000
/-! o != v where o's class has an own __eq__ and no __ne__. -/
namespace PySem.W
open PySem PyProof.Rows
section
variable {prog : Program} {w : World} {A A₀ : Around} {E : Value → Shared → Prop} {s : Shared} {K : Frag} {x C L f : Addr} {h₀ : Heap} {m : Str → Option Value} {ox : Obj} {od : Option Obj} {name : Str} {b tb : Value}
theorem ifBound_B {M : Model} {id : String} {args : List Value} {Q : Option Value → Shared → Prop} (X : K.In s.heap) (I : InstAt s.heap x ox C od) (hs : findIn K (.ref C) name = some (some (.builtin id))) (bd : ∀ v, bindSpecial (.builtin id) v = pure (.builtin id, [v]))
    (h : wpAny M A (call (.builtin id) (.ref x :: args)) (fun v => Q (some v)) E s) : wpAny M A (callSpecialIfBound? (.ref x) name args) Q E s := by
  simp only [callSpecialIfBound?, bindSpecialIfBound?]
  refine wpAny_holding (wpAny_bind (wpAny_bind (wpAny_bind (I.type.here ((looks_findIn X hs).here ?_)))))
  refine wpAny_bind (wpAny_askSetting (wpAny_ite ?_))
  have fin : wpAny M A (call (.builtin id) ([.ref x] ++ args) >>= fun v => pure (some v)) Q E s := wpAny_bind (wpAny_mono h (fun v s' h' => wpAny_pure h') fun _ _ h' => h')
  split
  · exact wpAny_bind (wpAny_of_eq (bd _) (wpAny_pure (by exact fin)))
  · exact wpAny_tryCatch (wpAny_bind (wpAny_of_eq (bd _) (wpAny_pure (by exact fin))))
theorem objNe_K {Q : Fin → Shared → Prop} (X : K.In s.heap) (I : InstAt s.heap x ox C od) (hu : A.units < cLine) (hs : findIn K (.ref C) "__eq__" = some (some (.ref f))) (hf : isFn K (.ref f) = true)
    (hcall : wpAny (model prog w) A (call (.ref f) [.ref x, b]) (fun v s' => ∃ c, v = .bool c ∧ Q (.done (.ret (.bool (!c)))) s') E s) :
    wpAny (model prog w) A (Builtin.«object.__ne__» ⟨[.ref x, b], []⟩) Q E s := by
  unfold Builtin.«object.__ne__»
  repeat (first
    | with_reducible refine wpAny_cRoomFor hu ?_
    | (refine wpAny_bind (m := callSpecialIfBound? (.ref x) (Str.ofString "__eq__") [b])
        (ifBound_K X I hs hf (wpAny_mono hcall (fun r s' hr => by
          obtain ⟨b, rfl, hq⟩ := hr
          repeat (first | exact hq | exact wpAny_pure hq | exact wpAny_truthy_bool hq | (refine wpAny_bind (m := truthy (.bool _)) (wpAny_truthy_bool ?_)) | wp_step)) fun _ _ e => e)))
    | wp_step)
theorem ne_K {Q : Value → Shared → Prop} (hu : A.units + 1 < cLine) (F : Fr h₀ L s.heap m) (X₀ : K.In h₀) (I : InstAt s.heap x ox C od) (hb : Looks (model prog w) s.heap (typeOf b) tb) (hn : notFirst K C tb = true)
    (hne : findIn K (.ref C) "__ne__" = some (some (.builtin "object.__ne__"))) (hsub : subIn K (.ref C) (.type "object") = some true) (hs : findIn K (.ref C) "__eq__" = some (some (.ref f))) (hf : isFn K (.ref f) = true)
    (h : wpAny (model prog w) A.in1 (call (.ref f) [.ref x, b]) (fun v s' => ∃ c, v = .bool c ∧ Q (.bool (!c)) s') E s) : wpAny (model prog w) A (richCompare .NotEq (.ref x) b) Q E s := by
  have X := X₀.keeps F.keep
  have one : wpAny (model prog w) A (tryCompare (.ref x) "__ne__" b) (fun r s' => ∃ v, r = some v ∧ Q v s') E s := by
    unfold tryCompare
    refine wpAny_bind (ifBound_B X I hne (PySem.F.slot_object_ne.bind) (wpAny_call (codeAny_call_builtin PySem.F.slot_object_ne.plain PySem.F.entry_object_ne
      (@check_slot (model prog w) _ _ s "object.__ne__" "object" "__ne__" (.ref x) [b] [] _ (by decide +kernel) (by decide +kernel) (I.type.andThen (looks_subIn X hsub)) (PySem.F.args_object_ne_2 _ _)
        (objNe_K X I (A := A.in1) (by show A.units + 1 < _; omega) hs hf (wpAny_mono h (fun v s' hv => ?_) fun _ _ e => e))))))
    obtain ⟨c, rfl, hq⟩ := hv
    refine ⟨c, rfl, ?_⟩
    first | exact wpAny_pure ⟨_, rfl, hq⟩ | exact ⟨_, rfl, wpAny_pure ⟨_, rfl, hq⟩⟩
  unfold richCompare
  simp only [oneThing_ref]
  refine wpAny_holding (wpAny_bind (wpAny_cRoomFor (by omega) ?_))
  refine wpAny_bind (I.type.here (wpAny_bind (hb.here ?_)))
  split
  · rename_i q
    have e : subIn K tb (.ref C) = some false := by
      rcases Bool.or_eq_true_iff.mp hn with e | e
      · rw [beq_iff_eq.mp e] at q; simp at q
      · exact beq_iff_eq.mp e
    refine wpAny_bind ((looks_subIn X e).here ?_)
    simp only [Bool.false_eq_true, if_false]
    refine wpAny_bind (wpAny_mono one (fun r s' z => ?_) fun _ _ e => e)
    obtain ⟨v, rfl, hq⟩ := z
    exact wpAny_pure hq
  · refine wpAny_bind (wpAny_pure ?_)
    simp only [Bool.false_eq_true, if_false]
    refine wpAny_bind (wpAny_mono one (fun r s' z => ?_) fun _ _ e => e)
    obtain ⟨v, rfl, hq⟩ := z
    exact wpAny_pure hq
end
end PySem.W

namespace ML
open PySem PySem.Spec PyProof.Rows L2 He
def negR : Res VI → Res VI
  | .ok (.bl b) h => .ok (.bl (!b)) h
  | .ex c n h => .ex c n h
  | _ => .err
def eNeU (cs : List Nat) (tbl : Nat → Option MF) (f : Op2) (a b : ME) : ME := fun σ h => (a σ h).bind fun x h1 => (b σ h1).bind fun y h2 => match insC x h2 with
  | some c => match tbl c, nfI cs (tyI y h2) with
    | some g, true => negR (g [x, y] h2)
    | _, _ => .err
  | none => ofO (f x y h2)
def neB (K : PySem.W.Frag) (C : Addr) : Bool := eqO (PySem.W.findIn K (.ref C) "__ne__") (some (some (.builtin "object.__ne__"))) && decide (PySem.W.subIn K (.ref C) (.type "object") = some true)
def NeOk (K : PySem.W.Frag) (G : Gx) (tbl : Nat → Option MF) : Prop := ∀ c C g, tbl c = some g → G.ct c = some C → neB K C = true
section
variable {G : Gx} {ρ : List Addr} {h : Hi} {H : Hp} {W : WX} {X : Cx} {A : Around} {e a b c o i v : Expr} {es : List Expr} {pos p pos' apos : Pos} {me mi mo ma mb mv : ME} {mr : MA} {tbl : Nat → Option MF} {σ : L2.St} {cs : List Nat} {f : Op2}
theorem negR_fin {Q : VK} {W : Value → Option Addr → Hp → Prop} (r : Res VI) (fr : FinG G ρ H (RV G) Q W (negR r)) : FinG G ρ H (RV G) (fun x H' => ∃ b, x = V.bl b ∧ Q (V.bl (!b)) H') W r := by
  cases r with
  | ok v h' =>
    cases v with
    | bl b =>
      intro ρ' H' x st ag' rx
      cases rx
      exact ⟨b, rfl, fr ρ' H' _ st ag' (.bl (!b))⟩
    | _ => exact fr.elim
  | ex c n h' => exact fr
  | err => exact fr.elim
/-- what stands of x op y -/
def RdN (G : Gx) (W : WX) (σ : L2.St) (cs : List Nat) (tbl : Nat → Option MF) (f : Op2) (Q : VK) (x y : V) (H2 : Hp) : Prop :=
  rd2 G f x y H2 Q ∨ ∃ ρ2 h2 xi yi cn g, Ag G ρ2 h2 H2 ∧ RV G ρ2 H2 xi x ∧ RV G ρ2 H2 yi y ∧ insC xi h2 = some cn ∧ tbl cn = some g ∧ nfI cs (tyI yi h2) = true ∧ FinG G ρ2 H2 (RV G) Q (fun c d H' => W c d σ H') (negR (g [xi, yi] h2))
theorem neU_rd {Q : VK} (q : rdE G W (eNeU cs tbl f ma mb) σ H Q) : rdE G W ma σ H fun x H1 => rdE G W mb σ H1 fun y H2 => RdN G W σ cs tbl f Q x y H2 := by
  obtain ⟨ρ, σi, h, as, ag, fin⟩ := q
  exact rdG_go as ag fin fun ρ1 H1 h1 x x' st as ag r f => rdG_go as ag f fun ρ2 H2 h2 y y' st2 as ag rs f => by
      cases q1 : insC x h2 with
      | none => rw [q1] at f; exact .inl ⟨ρ2, h2, x, y, ag, r.mono st2, rs, FinO.of f⟩
      | some cn =>
        rw [q1] at f
        dsimp only at f
        cases q2 : tbl cn with
        | none => rw [q2] at f; exact f.elim
        | some g =>
          rw [q2] at f
          cases q3 : nfI cs (tyI y h2) with
          | false => rw [q3] at f; exact f.elim
          | true => rw [q3] at f; exact .inr ⟨ρ2, h2, x, y, cn, g, ag, r.mono st2, rs, q1, q2, q3, f⟩
theorem neU_run (hG : G.K = X.K) (hu : X.A.units + 1 < cLine) (sp : SpOk X X.A.in1 G W tbl "__eq__") (ne : NeOk X.K G tbl) (nf : NfOk X.K G cs tbl) (ho : OpR X (compareOp .NotEq) (rd2 G f))
    {pins : List (Addr × Obj)} {s2 : Shared} {H2 : Hp} {x y : V} {v u : Value} {Q : VK} (I2 : Inv X pins σ H2 s2) (rx : RelV x v) (ry : RelV y u) (q : RdN G W σ cs tbl f Q x y H2) : wpAny (model X.prog X.w) X.A (compareOp .NotEq v u) (EP X pins σ Q) X.xe s2 := by
  rcases q with q | ⟨ρ2, h2, xi, yi, cn, g, ag2, r1, r2, q1, q2, q3, fi⟩
  · exact ho pins s2 σ H2 x y v u Q I2 rx ry q
  · obtain ⟨ad, C, dx, gs, ex, hc, hH⟩ := insC_ok ag2 r1 q1
    subst ex
    obtain rfl : v = Value.ref ad := rx
    obtain ⟨f', k1, k2, k3, k4, k5⟩ := sp.at_ cn C g q2 hc
    obtain ⟨m, hF, ox, od, J⟩ := insC_look I2 hH
    have ty : ∃ t, PySem.W.Looks (model X.prog X.w) s2.heap (typeOf u) t ∧ PySem.W.notFirst X.K C t = true := by
      cases q4 : tyI yi h2 with
      | none => rw [q4] at q3; cases q3
      | some T =>
        rcases tyI_ok hG I2 ag2 r2 ry q4 with ⟨t, rfl, mt, lt⟩ | ⟨c', C', rfl, hc', lt⟩
        · exact ⟨_, lt, nf.bt cn C g t q2 hc mt⟩
        · rw [q4] at q3
          exact ⟨_, lt, nf.own cn C g c' C' q2 hc q3 hc'⟩
    obtain ⟨t, lt, nt⟩ := ty
    obtain ⟨n1, n2⟩ := ba (ne cn C g q2 hc)
    have key := negR_fin (G := G) (ρ := ρ2) (H := H2) (Q := Q) (W := fun c d H' => W c d σ H') (g [xi, yi] h2) fi
    show wpAny (model X.prog X.w) X.A (richCompare .NotEq (.ref ad) u) _ _ s2
    refine PySem.W.ne_K (tb := t) hu hF I2.ok.mod.kin J lt nt (eqO_ok n1) (of_decide_eq_true n2) k2 k4 ?_
    refine wpAny_mono (k5 pins s2 σ H2 [.ref ad, u] [.ref ad, y] [xi, yi] ρ2 h2 _ I2 (.cons rfl (.cons ry .nil)) (.cons r1 (.cons r2 .nil)) ag2 key) (fun z s3 hz => ?_) fun _ _ z => z
    obtain ⟨x', H', I', rx', b, eb, q'⟩ := hz
    subst eb
    cases (show z = Value.bool b from rx')
    exact ⟨b, rfl, .bl (!b), H', I', rfl, q'⟩
theorem me_neU (hG : G.K = X.K) (hu : X.A.units + 1 < cLine) (sp : SpOk X X.A.in1 G W tbl "__eq__") (ne : NeOk X.K G tbl) (nf : NfOk X.K G cs tbl) (ho : OpR X (compareOp .NotEq) (rd2 G f)) (ha : PE X a (rdE G W ma)) (hb : PE X b (rdE G W mb))
    (hm : behindInMarks .NotEq b = false) : PE X (.Compare a [.NotEq] [b] pos) (rdE G W (eNeU cs tbl f ma mb)) := ⟨fun pins s σ H Q I h =>
  wpAny_Compare1 (binT ha hb I (neU_rd h) fun v u s2 x y H2 I2 rx ry q => neU_run hG hu sp ne nf ho I2 rx ry q) hm⟩
theorem mt_neU (hG : G.K = X.K) (hu : X.A.units + 1 < cLine) (sp : SpOk X X.A.in1 G W tbl "__eq__") (ne : NeOk X.K G tbl) (nf : NfOk X.K G cs tbl) (ho : OpR X (compareOp .NotEq) (rd2 G f)) (ha : PE X a (rdE G W ma)) (hb : PE X b (rdE G W mb))
    (hm : behindInMarks .NotEq b = false) : PT X (.Compare a [.NotEq] [b] pos) (rdT G W (tOf (eNeU cs tbl f ma mb))) := ⟨fun pins s σ H Q I h =>
  wpAny_isTrue_Compare1 (thn (ha.run pins s σ H _ I (neU_rd (tOf_rd h))) fun v s1 ⟨x, H1, I1, r1, q1⟩ => thn (hb.run pins s1 σ H1 _ I1 q1) fun u s2 ⟨y, H2, I2, r2, q2⟩ =>
    thn (neU_run hG hu sp ne nf ho I2 r1 r2 q2) fun c s3 ⟨z, H3, I3, r3, k, e, q3⟩ => by
      subst e
      cases r3
      exact wpAny_truthy_bool ⟨H3, I3, q3⟩) hm⟩
end
/-! ### by names -/
section
variable {K : PySem.W.Frag} {mg : Str → Option Value} {nm : Nat → Option Str}
theorem neOk_nil : NeOk K (GxOf K mg nm) (lkT ([] : List (Nat × MF))) := fun _ _ _ h => nomatch h
theorem neOk_cons {c : Nat} {g : MF} {x : Str} {r : List (Nat × MF)} (hn : nm c = some x) (hB : neB K (ga K x) = true) (t : NeOk K (GxOf K mg nm) (lkT r)) : NeOk K (GxOf K mg nm) (lkT ((c, g) :: r)) := fun c' C w h e => by
  rcases lkT_cons h with ⟨q1, q2⟩ | q
  · subst q1 q2
    rw [gx_ct e hn]
    exact hB
  · exact t c' C w q e
end
end ML
end

section
set_option Elab.async false
set_option linter.all false
set_option maxRecDepth 100000
set_option maxHeartbeats 4000000
/-! C.m(..), m a static method. -/
namespace ML
open PySem PySem.Spec PyProof.Rows L2 He
structure StatOk (K : PySem.W.Frag) (C : Addr) (m : Str) (p f : Addr) : Prop where
  rd : PySem.W.readsIn K C (.type "type") = true
  ga : PySem.W.specialIn K (.ref C) "__getattribute__" = some (some (.builtin "type.__getattribute__"))
  at_ : PySem.W.findCls K (.ref C) (.type "type") m = some (.get (.builtin "staticmethod.__get__") (.ref p) .none (.ref C))
  rc : ∃ rest, PySem.W.recIn K p "staticmethod" = some (.ref f :: rest)
section
variable {G : Gx} {W : WX} {X : Cx} {e : Expr} {es : List Expr} {ma : MA} {x m : Str} {C p f : Addr} {g : MF} {p0 apos pos : Pos} {pl : Sem Bool}
theorem me_stat (S' : ∃ p, StatOk X.K C m p f) (c : CallM X G W (.ref f) g) (hg : Gl X x) (hm : X.mg x = some (.ref C)) (hk : PySem.W.keepIn X.K (.ref f) = true) (ha : PA X (e :: es) (rdA G W ma)) (hdb : (x == ("__debug__" : Str)) = false := by decide)
    (he : starEach (e :: es) X.env = (false, eval e X.env) :: starEach es X.env := by rfl) (hpl : (backTo pos (starEach es X.env)).any (·.1) = false := by rfl)
    (ht : eval (.Call (.Attribute (.Name x p0) m apos) (e :: es) [] pos) X.env = (do
      let ov ← eval (.Name x p0) X.env
      standAt apos.atName
      let (f, first) ← holding [ov] (getMethod ov m pl)
      callWith pos f first (backTo pos (starEach (e :: es) X.env)) (backToKw pos (keywordEach [] X.env))) := by rfl) :
    PE X (.Call (.Attribute (.Name x p0) m apos) (e :: es) [] pos) (rdE G W (eCall g ma)) := by
  refine ⟨fun pins s σ H Q I ⟨ρ, σi, h, as, ag, fin⟩ => ?_⟩
  obtain ⟨p, S⟩ := S'
  obtain ⟨rest, hp⟩ := S.rc
  refine PySem.W.methodCall_KW (pl := pl) (ld_glob I hg hm ?_ hdb) ht
  refine PySem.W.method_cls I.kIn S.ga (PySem.W.cls_bind I.kIn S.rd S.at_ (wpAny_call (PySem.W.sm_get (s := { s with toks := s.toks + 1 }) I.kIn hp (PySem.W.handed_on rfl ?_))))
  have I2 := I.tok (s.toks + 1)
  have A : rdA G W ma σ H fun vs H1 => ∃ ρ1 h1 args, RVs G ρ1 H1 args vs ∧ Ag G ρ1 h1 H1 ∧ FinG G ρ1 H1 (RV G) Q (fun c d H' => W c d σ H') (g args h1) :=
    rdG_go as ag fin fun ρ1 H1 h1 xs ys st as ag r f => ⟨ρ1, h1, xs, r, ag, f⟩
  refine PySem.W.callWith_K (h₀ := X.base) I2.ok.mod.kin hk (thn (ha.run pos pins _ σ H _ I2 A) fun us s1 ⟨vs, H1, I1, r, q⟩ => ⟨I1.kIn, ?_⟩) he hpl
  obtain ⟨ρ1, h1, args, ra, ag1, f1⟩ := q
  exact c pins s1 σ H1 us vs args ρ1 h1 Q I1 r ra ag1 f1
theorem me_stat0 (S' : ∃ p, StatOk X.K C m p f) (c : CallM X G W (.ref f) g) (hg : Gl X x) (hm : X.mg x = some (.ref C)) (hk : PySem.W.keepIn X.K (.ref f) = true) (hdb : (x == ("__debug__" : Str)) = false := by decide)
    (ht : eval (.Call (.Attribute (.Name x p0) m apos) [] [] pos) X.env = (do
      let ov ← eval (.Name x p0) X.env
      standAt apos.atName
      let (f, first) ← holding [ov] (getMethod ov m pl)
      callWith pos f first (backTo pos (starEach [] X.env)) (backToKw pos (keywordEach [] X.env))) := by rfl) :
    PE X (.Call (.Attribute (.Name x p0) m apos) [] [] pos) (rdE G W (eCall g aNil)) := by
  refine ⟨fun pins s σ H Q I ⟨ρ, σi, h, as, ag, fin⟩ => ?_⟩
  obtain ⟨p, S⟩ := S'
  obtain ⟨rest, hp⟩ := S.rc
  refine PySem.W.methodCall_KW (pl := pl) (ld_glob I hg hm ?_ hdb) ht
  refine PySem.W.method_cls I.kIn S.ga (PySem.W.cls_bind I.kIn S.rd S.at_ (wpAny_call (PySem.W.sm_get (s := { s with toks := s.toks + 1 }) I.kIn hp (PySem.W.handed_on rfl ?_))))
  have I2 := I.tok (s.toks + 1)
  exact PySem.W.callWith_K0 I2.kIn hk (c pins _ σ H [] [] [] ρ h Q I2 .nil .nil ag fin)
end
def statB (K : PySem.W.Frag) (x m : Str) (d : Defn) : Bool := PySem.W.readsIn K (ga K x) (.type "type") && (eqO (PySem.W.specialIn K (.ref (ga K x)) "__getattribute__") (some (some (.builtin "type.__getattribute__"))) && (match PySem.W.findCls K (.ref (ga K x)) (.type "type") m with
  | some (.get (.builtin g) (.ref p) .none (.ref D)) => decide (g = "staticmethod.__get__") && (decide (D = ga K x) && (match PySem.W.recIn K p "staticmethod" with
    | some (.ref f :: _) => decide (f = d K)
    | _ => false))
  | _ => false))
theorem statB_ok {K : PySem.W.Frag} {x m : Str} {d : Defn} (h : statB K x m d = true) : ∃ p, StatOk K (ga K x) m p (d K) := by
  obtain ⟨h1, h⟩ := ba h
  obtain ⟨h2, h⟩ := ba h
  split at h
  · rename_i g p D e
    obtain ⟨k1, k⟩ := ba h
    obtain ⟨k2, k3⟩ := ba k
    split at k3
    · rename_i f r e2
      exact ⟨p, h1, eqO_ok h2, by rw [e, of_decide_eq_true k1, of_decide_eq_true k2], r, by rw [e2, of_decide_eq_true k3]⟩
    · cases k3
  · cases h
end ML
end

section
set_option Elab.async false
set_option linter.all false
set_option maxRecDepth 100000
set_option maxHeartbeats 4000000
/-! Own exception classes: an __init__ that says super().__init__(text) and stores one field. -/
namespace ML
open PySem L2 NdefX
open PyProof.Rows hiding wpAt

/-- what super() asks of an exception's class -/
structure SupX (X : Cx) (C : Addr) : Prop where
  cd : ∃ cd, PySem.W.clsIn X.K C = some cd
  mro : PySem.W.mroIn X.K C (.ref C) = some true
  sup : PySem.W.ks_superIn X.K C C "__init__" = some (some (.builtin "ValueError.__init__"))
  sub : PySem.W.subIn X.K (.ref C) (.type "ValueError") = some true
/-- what is asked of the def that says super() -/
structure SupD (X : Cx) (f D : Addr) (slf : Str) : Prop where
  fn : X.env.func = some f
  at_ : ∃ (o : Obj) (fd : FuncData) (ar : Arg), X.K.lookup f = some o ∧ o.data = .func fd ∧ (fd.params.posonlyargs ++ fd.params.args).head? = some ar ∧ ar.arg = slf
  code : ∃ (c : Addr) (o : Obj) (vs : Array Value) (file : Str) (tf : Tok), X.env.code = .ref c ∧ X.K.lookup c = some o ∧ o.data = .fields vs ∧ vs[2]? = some (.str file tf) ∧ ((X.prog.main.file : Str) == file) = true
  top : (X.prog.main.scope.names.lookup ("super" : Str)).isSome = false
  any : PySem.W.nsIn X.K cStatics "thirdparty.any" = some none
def tSupX (X : Cx) (j i : Nat) (D : Addr) (ta : TA) : TS := fun Dn σ H => σ[j]? = some (some (.ref D)) ∧ ∃ a, σ[i]? = some (some (.ref a)) ∧ H a = some (exo a D none) ∧ OexC X.K D ∧ SupX X D ∧
  ta σ H fun vs H1 => vs.length ≤ 1000 ∧ H1 a = some (exo a D none) ∧ Dn.nx σ H1
theorem init_bw {X : Cx} {pins : List (Addr × Obj)} {σ : L2.St} {H : Hp} {s : Shared} {A : Around} {E : Value → Shared → Prop} {b a C : Addr} {us : List Value} {Q : Value → Shared → Prop} (T : OexC X.K C) (I : Inv X pins σ H s) (e : H a = some (exo a C none)) (hb : s.heap.get? b = some (PySem.W.kxs_mw "ValueError.__init__" a)) (hl : us.length ≤ sizeLine)
    (h : ∀ s', Inv X pins σ H s' → Q .none s') : wpAny (model X.prog X.w) A (call (.ref b) us) Q E s := by
  obtain ⟨nm, q, N, bs, bm, sn, sub, ab, col, dd, k0, k1, k2, k3, k5, hC, hbm⟩ := T.cls
  obtain ⟨t1, ho⟩ := exo_at I.hok e
  have hC' := I.kIn _ _ hC
  obtain ⟨hh, g, d, tk, os⟩ := s
  have fin : ∀ h', (∀ b o, b ≠ a → hh.get? b = some o → h'.get? b = some o) → h'.get? a = some ({ cls := .ref C, dict := none, data := .fields #[.ref hh.objs.size, .none, .none, .none, .bool false, .none] } : Obj) → Q .none ⟨h', g, d, tk, os⟩ := fun h' k hx => by
    have J := I.write (t' := tk) (x := a) (e := a) (o := exo a C none) (by rw [e]; exact True.intro) (.inl rfl) k ⟨_, hx⟩ (exo_ok hx)
    have eu : upd H a (exo a C none) = H := by
      funext b
      by_cases hb : b = a
      · rw [hb, upd_same, e]
      · rw [upd_ne hb]
    rw [eu] at J
    exact h _ J
  refine wpAny_call (codeAny_of_tree ?_)
  show wpAny _ A.in1 (callAny (.ref b) ⟨us, []⟩) _ _ _
  simp only [callAny]
  refine wpAny_bind (wpAny_load hb ?_)
  simp only [PySem.W.kxs_mw, show (Value.type "method-wrapper" == Value.type "method" || Value.type "method-wrapper" == Value.type "builtin_function_or_method" || Value.type "method-wrapper" == Value.type "method-wrapper") = true by decide, if_true]
  refine PySem.W.KFB.if_so (by decide) ?_
  refine wpAny_bind (PySem.W.check_bound_init F.excBase_ValueError.toExcCallFacts hC' ho rfl ?_)
  refine wpAny_bind (wpAny_pure (wpAny_pure ?_))
  refine ⟨plainId_quiet F.excBase_ValueError.init.plain _, codeAny_builtin F.excBase_ValueError.initEntry ?_⟩
  exact PySem.W.exc_init_tree (cls := .ref C) (t0 := t1) (dv := none) (c2 := .none) (c3 := .none) (b4 := .bool false) ho hl fun h' k hx _ => fin h' k hx
section
variable {X : Cx} {body : List Stmt} {f D : Addr} {slf : Str} {i j : Nat} {e : Expr} {es : List Expr} {ta : TA} {p0 p1 apos cpos spos : Pos}
theorem pst_superX (S : SupD X f D slf) (hks : Gl X "super") (hm : X.mg "super" = none) (hkc : X.env.kindOf "__class__" = some .free) (hNc : X.N[j]? = some "__class__") (hvc : Vis X.env.scope "__class__")
    (hNs : X.N[i]? = some slf) (hvs : Vis X.env.scope slf) (hcs : (slf == ("__classdict__" : Str)) = false) (ha : PA X (e :: es) ta) (hi : interactive X.env = false)
    (hst : starEach (e :: es) X.env = (false, eval e X.env) :: starEach es X.env := by rfl) (hpl : (backTo cpos (starEach es X.env)).any (·.1) = false := by rfl)
    (hsw : swapsWith (.Call (.Attribute (.Call (.Name "super" p0) [] [] p1) "__init__" apos) (e :: es) [] cpos) none spos.line X.env = pure false := by rfl)
    (ht : eval (.Call (.Attribute (.Call (.Name "super" p0) [] [] p1) "__init__" apos) (e :: es) [] cpos) X.env = (do
      let ov ← attributeBase (.Call (.Name "super" p0) [] [] p1) "__init__" X.env (eval (.Call (.Name "super" p0) [] [] p1) X.env)
      standAt apos.atName
      let (f, first) ← holding [ov] (getMethod ov "__init__" (pure false))
      callWith cpos f first (backTo cpos (starEach (e :: es) X.env)) []) := by rfl) :
    PST X body (.Expr (.Call (.Attribute (.Call (.Name "super" p0) [] [] p1) "__init__" apos) (e :: es) [] cpos) spos) (tSupX X j i D ta) := by
  refine ⟨fun pins s σ H Dn I ⟨hD, a, hxs, hH, T, SX, hta⟩ => ?_⟩
  obtain ⟨t1, hoa⟩ := exo_at I.hok hH
  have J : PySem.W.InstAt s.heap a { cls := .ref D, dict := none, data := .fields #[.ref t1, .none, .none, .none, .bool false, .none] } D none := ⟨hoa, rfl, rfl, trivial⟩
  obtain ⟨of, fd, ar, hf1, hf2, hf3, hf4⟩ := S.at_
  obtain ⟨cc, oc, vs, file, tf, hc1, hc2, hc3, hc4, hc5⟩ := S.code
  obtain ⟨cdD, hcD⟩ := SX.cd
  have KX := I.kIn
  refine ks_wpAt_Expr_any (ks_wpAt_MethodCall (args := e :: es) (pl := pure false) ?_ ht) hi hsw
  refine ks_wpAt_super_base hks hkc rfl S.fn (KX _ _ hf1) hf2 hf3 hc1 (KX _ _ hc2) hc3 hc4 hc5 S.top ?_
  refine load_blt I hks hm boot_super (by decide +kernel) ⟨rfl, ?_⟩
  refine load_slot I hNc hD hvc (by decide) fun u ru => ?_
  obtain rfl : u = Value.ref D := ru
  rw [hf4]
  refine load_slot I hNs hxs hvs hcs fun u2 ru2 => ?_
  obtain rfl : u2 = Value.ref a := ru2
  obtain ⟨hD1o, hD1, hD2⟩ : ∃ oD, s.heap.get? D = some oD ∧ oD.data = .cls cdD := by
    unfold PySem.W.clsIn at hcD
    split at hcD
    · rename_i c' d' cd' sl' ho
      cases hcD
      exact ⟨_, KX _ _ ho, rfl⟩
    · cases hcD
  have hxC : a ≠ D := PySem.W.ks_ne KX J hcD
  obtain ⟨hh, gg, dd, tt, os⟩ := s
  refine PySem.ks_wpAny_isType_cls hD1 hD2 ⟨rfl, ?_⟩
  refine PySem.ks_wpAny_call_super hD1 hD2 J.at_ J.cls (fun c' e' => ?_) (PySem.W.looks_mroIn KX SX.mro) (fun h' eq kp => ?_)
  · cases e'
  have I2 : Inv X pins σ H ⟨h', gg, dd, tt, os⟩ := Inv.kept (s := ⟨hh, gg, dd, tt, os⟩) (t' := tt) I kp
  have KX2 := I2.kIn
  have hsup := SX.sup
  unfold PySem.W.ks_superIn at hsup
  rw [hcD] at hsup
  have hmr : PySem.W.Looks (model X.prog X.w) h' (mroOf (.ref D)) cdD.mro := fun A Q E s k q => wpAny_bind ((PySem.W.looks_clsIn KX2 hcD) A _ E s k (wpAny_pure q))
  have J2 : PySem.W.InstAt h' a { cls := .ref D, dict := none, data := .fields #[.ref t1, .none, .none, .none, .bool false, .none] } D none := ⟨kp _ _ hoa, rfl, rfl, trivial⟩
  have hI : PySem.W.Looks (model X.prog X.w) h' (isInstance (.ref a) (.type "ValueError")) true := J2.type.andThen (PySem.W.looks_subIn KX2 SX.sub)
  refine PySem.W.kxs_getMethod PySem.W.kxs_ValueError eq (PySem.W.looks_opaque KX2 S.any) hmr rfl KX2 hsup hI hxC rfl ?_
  have I3 : Inv X ((h'.objs.size, PySem.W.kxs_mw "ValueError.__init__" a) :: pins) σ H ⟨h'.push (PySem.W.kxs_mw "ValueError.__init__" a), gg, dd, tt + 1, os⟩ :=
    ClX.pin_new I2 (fun _ _ z => Heap.get?_push_of_some _ z) (Nat.le_refl _) (Heap.get?_push_size h' rfl) (fun v z => nomatch z)
  generalize h'.objs.size = b at I3 ⊢
  refine thn (Q := EP X pins σ fun _ H' => Dn.nx σ H') ?_ fun v s' ⟨z, H', I', _, q⟩ => ⟨σ, H', I', q⟩
  show wpAny _ _ (callWith cpos (.ref b) [] (backTo cpos (starEach (e :: es) X.env)) []) _ _ _
  have run := ha.run cpos _ _ σ H _ I3 hta
  rw [hst] at run ⊢
  refine PySem.W.kxs_callWith (i := "ValueError.__init__") (x := a) (by show (false || (backTo cpos (starEach es X.env)).any (·.1)) = false; rw [hpl]; rfl)
    (Calls.evalArgs_plain (thn run fun us s4 ⟨vs, H4, I4, r4, hl4, ea4, q4⟩ => ?_))
  have hb4 : s4.heap.get? b = some (PySem.W.kxs_mw "ValueError.__init__" a) := ClX.pin_at I4
  refine ⟨hb4, ?_⟩
  have I5 : Inv X pins σ H4 s4 := ClX.unpin I4
  refine init_bw T I5 ea4 hb4 (by show us.length ≤ sizeLine; rw [← r4.length, sizeLine_eq]; omega) fun s5 I6 => ⟨.non, H4, I6, rfl, q4⟩
end
theorem psst_cons {X : Cx} {body : List Stmt} {st : Stmt} {rest : List Stmt} {t1 t2 : TS} (h : PST X body st t1) (h2 : PSs X rest t2) : PSsT X body (st :: rest) (fun D σ H => t1 { D with nx := fun σ' H' => t2 D σ' H' } σ H) := ⟨fun pins s σ H D I q => by
  refine ks_wpAt_execs_cons (ks_wpAt_mono (h.run pins s σ H _ I q) (fun fl s' q => ?_) fun _ _ z => z)
  cases fl with
  | next => obtain ⟨σ', H', J, q⟩ := q; exact wpAt_of_wpAny (h2.run pins s' σ' H' D J q)
  | ret u => exact q
  | brk => exact q
  | cont => exact q⟩
/-- what such an __init__ does -/
def spI (D : Addr) (fld : Str) : Sp := fun vs H Q _ => ∃ a y, vs = [.ref a, y] ∧ H a = some (exo a D none) ∧ ∀ dx, H dx = none → dx ≠ a → Q .non (upd (upd H dx (exd dx [(fld, y)])) a (exo a D (some dx)))
def tIni (X : Cx) (D : Addr) (m fld : Str) : TS := fun Dn σ H => tSupX X 2 0 D (tCons (tC (.str m)) tNil) { Dn with nx := fun σ' H' => tOst X.K fld (tVar 0) (tVar 1) Dn σ' H' } σ H
section
variable {P : Program} {w : World} {K : PySem.W.Frag} {mg : Str → Option Value} {base : Heap} {x qual m fld par : Str} {params : Arguments} {body : List Stmt} {scope : Scope} {dvs : List V} {kws : List (Str × V)} {f cc D c : Addr} {fd : FuncData} {file : Str} {N : List Str} {k : Nat}
theorem exFn (F : FunS K x qual params body scope dvs kws f fd cc D c file) (S : NScope ["self", par, "__class__"] ["self", par] ["__class__"] scope) (T : OexC K D) (hno : PySem.W.findIn K (.ref D) fld = some none)
    (SX : ∀ (A : Around) (outer : List Env) (s : Shared) (H : Hp) (E : XK), SupX (ncx (L2.CX P w) P w K mg base ["self", par, "__class__"] (nfS x qual params body scope cc c) f A outer s H E) D)
    (hb : ∀ (A : Around) (outer : List Env) (s : Shared) (H : Hp) (E : XK), PSsT (ncx (L2.CX P w) P w K mg base ["self", par, "__class__"] (nfS x qual params body scope cc c) f A outer s H E) body body
      (tIni (ncx (L2.CX P w) P w K mg base ["self", par, "__class__"] (nfS x qual params body scope cc c) f A outer s H E) D m fld)) : FnOk P w K mg base (L2.CX P w) (k + 1) f fd ["self", par] (spI D fld) :=
  F.ok S (fun vs H Q E ⟨a, y, e, _⟩ => by rw [e] <;> rfl) fun A outer s H vs Q E hr ⟨a, y, e, h1, h2⟩ => by
    subst e
    refine ⟨_, hb A outer s H E, rfl, a, rfl, h1, T, SX A outer s H E, ?_⟩
    refine ⟨by simp, h1, ?_⟩
    exact ⟨y, rfl, .ref a, rfl, a, D, rfl, T, hno, .inl ⟨h1, fun dx n ne => h2 dx n ne⟩⟩
end
end ML
end

section
set_option Elab.async false
set_option linter.all false
set_option maxRecDepth 100000
set_option maxHeartbeats 4000000
/-! raise, try .. except X as e: .. except Y as e: .. -/
namespace ML
open PySem PySem.Spec PyProof.Rows L2 He

/-! ### several clauses with names -/
abbrev goneE (D : Ends) (i : Nat) : Ends := { nx := fun σ' H' => D.nx (σ'.set i none) H', rt := D.rt, bk := fun σ' H' => D.bk (σ'.set i none) H', ct := fun σ' H' => D.ct (σ'.set i none) H' }
def wManyA (K : PySem.W.Frag) (Wout : WX) (D : Ends) : List (Value × Nat × (Addr → Value → Option Addr → TS)) → WX
  | [] => Wout
  | (c, i, ts) :: r => fun cls d σ H => ∃ b, PySem.W.exmOne K cls c = some b ∧ (b = true → ∀ a, H a = none → ts a cls d (goneE D i) (σ.set i (some (.ref a))) H) ∧ (b = false → wManyA K Wout D r cls d σ H)
inductive HdsA (X : Cx) : List ExceptHandler → List (Value × Nat × (Addr → Value → Option Addr → TS)) → Prop
  | nil : HdsA X [] []
  | cons {x n : Str} {i : Nat} {c : Value} {ts : Addr → Value → Option Addr → TS} {b₀ : Stmt} {suite : List Stmt} {np pos' : Pos} {hds : List ExceptHandler} {l : List (Value × Nat × (Addr → Value → Option Addr → TS))} (hc : Names X x c)
      (hi : X.N[i]? = some n) (hln : X.env.kindOf n = some .local)
      (hsu : ∀ (a : Addr) (oe : Obj) (cls : Value) (d : Option Addr) (pn : List (Addr × Obj)), Zc cls d oe → (∃ vs, oe.data = .fields vs) → PSs (X.suite a ((a, oe) :: pn)) (b₀ :: suite) (ts a cls d)) (r : HdsA X hds l) :
      HdsA X (.ExceptHandler (some (.Name x np)) (some n) (b₀ :: suite) pos' :: hds) ((c, i, ts) :: l)
section
variable {X : Cx} {body : List Stmt} {h₀ : ExceptHandler} {hds : List ExceptHandler} {l : List (Value × Nat × (Addr → Value → Option Addr → TS))} {pos : Pos} {tb : WX → TS} {Wout : WX}
theorem ps_try_asMany (hs : X.stack = X.env :: X.outer) (hf : X.env.frame = some X.env.locals) (hN : X.N.Nodup) (tk : Takes X Wout)
    (hb : ∀ (W : WX) (pn : List (Addr × Obj)) (xe : Value → Shared → Prop), Takes (X.tr pn xe) W → PassesOwn (model X.prog X.w) X.A X.env xe → PSs (X.tr pn xe) body (tb W))
    (hh : HdsA X (h₀ :: hds) l) : PS X (.Try body (h₀ :: hds) [] [] pos) (fun D σ H => tb (wManyA X.K Wout D l) D σ H) := by
  refine ⟨fun pins s σ H D I h => ?_⟩
  have ok := I.ok
  have hfr : X.A.frames = some (X.env :: X.outer) := by rw [ok.frames, hs]
  refine wpAny_Try_except ?_
  refine wpAny_mono ((hb (wManyA X.K Wout D l) (X.pn ++ pins) (fun e s₁ => wpAny (model X.prog X.w) X.A (noteFrame e X.env) (fun _ s₂ => wpAny (model X.prog X.w) X.A (setFlight e none) (fun _ s₃ =>
    wpAny (model X.prog X.w) X.A (handleBy e X.env (h₀ :: hds)) (SP X pins D) X.xe s₃) X.xe s₂) X.xe s₁) (fun u s' xx => ?_) PassesOwn.looking).run [] s σ H D (I.toTry _) h) (fun f s1 hsp => ?_) (fun e s1 he => he)
  · -- the catch
    obtain ⟨a, B, sI, pins', σ', H', cls, d, rfl, J', nb, up, sky, na, os, ag, w⟩ := xx
    have J : Inv X pins σ' H' sI := J'.ofTry ok
    have sky' : Sky B (X.env :: X.outer) a (Zc cls d) X.env.locals s'.heap := by rw [← hs]; exact sky
    show wpAny (model X.prog X.w) X.A (noteFrame (.ref a) X.env) _ _ _
    refine Sky.land Zc.steady hfr hf sky' fun h3 fl3 up3 => ?_
    have J3 : Inv X pins σ' H' { s' with heap := h3 } := J.landed nb fl3.1 (up.trans up3) os ag
    obtain ⟨oe3, vs3, he3, hz3, hd3⟩ := fl3.there
    have notFr : ∀ {h : Heap} {o : Obj} {vs : Array Value}, h.FunFrames B (X.env :: X.outer) → h.get? a = some o → o.data = .fields vs → a ∉ frs (X.env :: X.outer) := fun {h o vs} ff e dd hm => by
      obtain ⟨_, o', e', hnf⟩ := ff.mem hm
      rw [e] at e'; cases e'
      exact hnf _ dd
    have nfr := notFr fl3.2.2.1 he3 hd3
    have nL : a ≠ X.env.locals := fun z => nfr (List.mem_filterMap.mpr ⟨X.env, List.mem_cons_self, by rw [hf, z]⟩)
    have nF : a ∉ X.fs := fun hm => by
      obtain ⟨e, he, q⟩ := List.mem_filterMap.mp hm
      exact nfr (List.mem_filterMap.mpr ⟨e, List.mem_cons_of_mem _ he, q⟩)
    have S3 := J3.suite he3 hd3 na nL nF
    have go : ∀ {hds' : List ExceptHandler} {l' : List (Value × Nat × (Addr → Value → Option Addr → TS))}, HdsA X hds' l' → wManyA X.K Wout D l' cls d σ' H' →
        wpAny (model X.prog X.w) X.A (handleBy (.ref a) X.env hds') (SP X pins D) X.xe { s' with heap := h3 } := by
      intro hds' l' hk
      induction hk with
      | nil =>
        intro w
        refine wpAny_handleBy_nil ?_
        obtain ⟨k1, k2, k3, oe, vs, T, oT, ts', he, hz, hd, h1, hr⟩ := id fl3
        unfold PySem.passOn
        refine wpAny_bind (wpAny_field he hd h1 ?_)
        rw [if_neg (show ¬ ((Value.ref T == Value.none) = true) from by simp)]
        have fin : wpAny (model X.prog X.w) X.A (setFlight (.ref a) X.env.frame) (fun _ s4 => wpAny (model X.prog X.w) X.A (throw (.ref a) : Sem Flow) (SP X pins D) X.xe s4) X.xe { s' with heap := h3 } := by
          rw [hf]
          refine HandSPX.setFlight_upZ fl3 fun h4 hh4 up4 => wpAny_throw (tk _ _ ?_)
          exact ⟨a, B, sI, pins, σ', H', cls, d, rfl, J, nb, (up.trans up3).trans up4, .inr (.inr (by rw [hs]; exact hh4)), na, os, ag, w⟩
        first
          | exact wpAny_bind (wpAny_pure (wpAny_bind fin))
          | exact wpAny_bind fin
      | @cons x n i c ts b₀ suite np pos' hds2 l2 hc hi hln hsu r ih =>
        intro w
        obtain ⟨b, hb1, hyes, hno⟩ := w
        have hloc : Loc X.env.scope n := .inl hln
        refine wpAny_handleBy_cons (codeAny_handlers_test ?_) (by intro q; cases q)
        have LT : PySem.W.Looks (model X.prog X.w) h3 (typeOf (.ref a)) cls := fun A Q E s k q => wpAny_typeOf_ref (k _ _ he3) (by rw [hz3.1]; exact q)
        have LM := PySem.W.exm_one (M := model X.prog X.w) (J3.kIn) LT hb1
        have test : ∀ {Q : Value → Shared → Prop} {E : Value → Shared → Prop}, Q c { s' with heap := h3 } → wpAny (model X.prog X.w) (X.A.mark (some (.ref a))) (eval (.Name x np) X.env) Q E { s' with heap := h3 } := fun {Q E} q => by
          obtain ⟨hg, hdbg, hm | ⟨hm, hv, hnn⟩⟩ := hc
          · exact ld_glob (X := X.suite a ((a, oe3) :: (X.pn ++ pins))) S3 hg hm q hdbg
          · exact ld_blt (X := X.suite a ((a, oe3) :: (X.pn ++ pins))) S3 hg hm hv q hnn hdbg
        refine test (LM.here ?_)
        cases b with
        | true =>
          refine codeAny_handlers_suite_as ?_
          refine HandSPX.lands_againZ fl3 fun h4 fl4 up4 => ?_
          have J4 : Inv X pins σ' H' { s' with heap := h4 } := J.landed nb fl4.1 ((up.trans up3).trans up4) os ag
          obtain ⟨oe4, vs4, he4, hz4, hd4⟩ := fl4.there
          have S4 := J4.suite he4 hd4 na nL nF
          refine store_ok (X := X.suite a ((a, oe4) :: (X.pn ++ pins))) (v := .ref a) S4 hN hi hloc rfl (fun s5 S5 => ?_) (.inr hln)
          refine wpAny_mono ((hsu a oe4 cls d (X.pn ++ pins) hz4 ⟨_, hd4⟩).run [] s5 _ H' _ S5 (hyes rfl a na)) (fun f s6 hsp => ?_) (fun _ _ z => False.elim z)
          have end_ : ∀ {σ6 : L2.St} {H6 : Hp} {Q : Shared → Prop}, Inv (X.suite a ((a, oe4) :: (X.pn ++ pins))) [] σ6 H6 s6 → (∀ s7, Inv X pins (σ6.set i none) H6 s7 → Q s7) →
              wpAny (model X.prog X.w) X.A (do bindName X.env n .none; unbindBehindTheSuite X.env n pos') (fun _ s7 => Q s7) X.xe s6 := fun {σ6 H6 Q} S6 hq => gone_ok (S6.unsuite ok) hN hi hln hq
          cases f with
          | next =>
            obtain ⟨σ6, H6, S6, q6⟩ := hsp
            exact end_ S6 fun s7 J7 => ⟨_, _, J7, q6⟩
          | brk =>
            obtain ⟨σ6, H6, S6, q6⟩ := hsp
            exact end_ S6 fun s7 J7 => ⟨_, _, J7, q6⟩
          | cont =>
            obtain ⟨σ6, H6, S6, q6⟩ := hsp
            exact end_ S6 fun s7 J7 => ⟨_, _, J7, q6⟩
          | ret u =>
            obtain ⟨v6, σ6, H6, S6, r6, q6⟩ := hsp
            exact end_ S6 fun s7 J7 => ⟨_, _, _, J7, r6, q6⟩
        | false =>
          show wpAny _ X.A (handleBy (.ref a) X.env hds2) _ _ _
          exact ih (hno rfl)
    exact go hh w
  · cases f with
    | next =>
      obtain ⟨σ', H', J', q⟩ := hsp
      exact wpAny_execs_nil ⟨σ', H', J'.ofTry ok, q⟩
    | brk =>
      obtain ⟨σ', H', J', q⟩ := hsp
      exact ⟨σ', H', J'.ofTry ok, q⟩
    | cont =>
      obtain ⟨σ', H', J', q⟩ := hsp
      exact ⟨σ', H', J'.ofTry ok, q⟩
    | ret u =>
      obtain ⟨v, σ', H', J', r, q⟩ := hsp
      exact ⟨v, σ', H', J'.ofTry ok, r, q⟩
end
/-! ### raise C(e) -/
def sRaise (c : Nat) (fld : S) (e : ME) : MS := fun σ h => (e σ h).bindS σ fun v h1 => .ex c h1.length σ (h1 ++ [.xd [(fld, v)]])
section
variable {G : Gx} {W : WX} {X : Cx} {e : Expr} {me : ME} {c k : Nat} {C fI : Addr} {fd : FuncData} {ps : List Str} {fld : S} {x : Str} {p pos pos' : Pos}
theorem ms_raise (hc : X.calm = true) (tk : Takes X W) (hct : G.ct c = some C) (T : OexC X.K C) (iC : PySem.W.findIn X.K (.ref C) "__init__" = some (some (.ref fI))) (tI : PySem.W.typeIn X.K (.ref fI) = some (.type "function"))
    (F1 : FnOk X.prog X.w X.K X.mg X.base (L2.CX X.prog X.w) k fI fd ps (spI C (toStr fld))) (hr : Room (k + 1) X.A) (hb : Binds X.K fd ps []) (hg : Gl X x) (hm : X.mg x = some (.ref C)) (he : PE X e (rdE G W me))
    (hdb : (x == ("__debug__" : Str)) = false := by decide) (hst : starEach [e] X.env = (false, eval e X.env) :: starEach [] X.env := by rfl) (hpl : (backTo pos (starEach [] X.env)).any (·.1) = false := by rfl) :
    PS X (.Raise (some (.Call (.Name x p) [e] [] pos)) none pos') (rdS G W (sRaise c fld me)) := by
  have hx : Passes (L2.CX X.prog X.w) X (fun _ _ _ => False) := fun pins σ H s e s' I ⟨_, _, _, _, _, _, _, _, _, _, _, _, z⟩ => z.elim
  have pa : PA X [e] (tCons (rdE G W me) tNil) := pa_cons he pa_nil hst
  refine PS.imp' (ps_raise hc tk (pmk_oex (sp := spI C (toStr fld)) T iC tI F1 hr hb .nil hx hg hm pa hdb hst hpl)) fun D σ H ⟨ρ, σi, h, as, ag, f⟩ => ?_
  refine rdS_go as ag f fun ρ1 H1 h1 v y st as1 ag1 rv f1 => ?_
  show ([y].length ≤ 1000) ∧ _
  refine ⟨by simp, fun a na => ⟨a, y, rfl, upd_same, fun dx ndx ne => ?_⟩⟩
  have n1 : H1 dx = none := by rw [upd_ne ne] at ndx; exact ndx
  refine ⟨rfl, dx, [(toStr fld, y)], upd_same, by rw [upd_ne ne, upd_same], n1, ?_⟩
  have eh : upd (del (upd (upd (upd H1 a (exo a C none)) dx (exd dx [(toStr fld, y)])) a (exo a C (some dx))) a) dx (.xd [(toStr fld, y)]) = upd H1 dx (.xd [(toStr fld, y)]) := by
    funext b
    by_cases h1 : b = dx
    · rw [h1, upd_same, upd_same]
    · rw [upd_ne h1, upd_ne h1]
      by_cases h2 : b = a
      · rw [h2, del_same, na]
      · rw [del_ne h2, upd_ne h2, upd_ne h1, upd_ne h2]
  rw [eh]
  exact f1 (ρ1 ++ [dx]) _ dx C σ (Stp.new n1) (ag1.new n1 ⟨_, upd_same, .cons rfl (rv.mono (Stp.new n1)) .nil⟩) (as1.mono (Stp.new n1)) (by rw [← ag1.len]; simp) hct
end
end ML
end

section
set_option Elab.async false
set_option linter.all false
set_option maxRecDepth 100000
set_option maxHeartbeats 4000000
/-! try as what runs; what an except suite reads of its exception. -/
namespace ML
open PySem PySem.Spec PyProof.Rows L2 He

def goneS (i : Nat) : RS → RS
  | .nx σ h => .nx (σ.set i none) h
  | .bk σ h => .bk (σ.set i none) h
  | .ct σ h => .ct (σ.set i none) h
  | .rt v h => .rt v h
  | _ => .err
/-- the clauses: who is caught, the name's slot, the suite by class and fields' object -/
abbrev Hd := (Nat → Option Bool) × Nat × (Nat → Nat → MS)
def runH : List Hd → Nat → Nat → MS
  | [], c, n => fun σ h => .ex c n σ h
  | (mt, i, su) :: r, c, n => fun σ h => match mt c with
    | some true => match Nat.blt i σ.length with
      | true => goneS i (su c n (σ.set i none) h)
      | false => .err
    | some false => runH r c n σ h
    | none => .err
def sTry (body : MS) (hs : List Hd) : MS := fun σ h => match body σ h with
  | .ex c n σ' h' => runH hs c n σ' h'
  | r => r
/-! ### readings in a suite: object n stands at dd, slot i holds the exception a -/
def rdGX {α β : Type} (G : Gx) (n : Nat) (dd : Addr) (i : Nat) (a : Addr) (R : List Addr → Hp → α → β → Prop) (W : WX) (m : Sg → Hi → Res α) : L2.St → Hp → (β → Hp → Prop) → Prop := fun σ H Q =>
  ∃ ρ σi h, ρ[n]? = some dd ∧ σ[i]? = some (some (V.ref a)) ∧ AgS G ρ H σi σ ∧ Ag G ρ h H ∧ FinG G ρ H R Q (fun c d H' => W c d σ H') (m σi h)
abbrev rdEX (G : Gx) (n : Nat) (dd : Addr) (i : Nat) (a : Addr) (W : WX) (m : ME) : TE := rdGX G n dd i a (RV G) W m
abbrev rdAX (G : Gx) (n : Nat) (dd : Addr) (i : Nat) (a : Addr) (W : WX) (m : MA) : TA := rdGX G n dd i a (RVs G) W m
def rdSX (G : Gx) (n : Nat) (dd : Addr) (i : Nat) (a : Addr) (W : WX) (m : MS) : TS := fun D σ H =>
  ∃ ρ σi h, ρ[n]? = some dd ∧ σ[i]? = some (some (V.ref a)) ∧ AgS G ρ H σi σ ∧ Ag G ρ h H ∧ FinS G ρ H D W (m σi h)
section
variable {G : Gx} {ρ : List Addr} {H : Hp} {W : WX} {X : Cx} {σ : L2.St} {σi : Sg} {h : Hi} {n i : Nat} {dd a : Addr} {e : Expr} {es : List Expr} {me : ME} {ma mr : MA} {pos : Pos}
theorem rdGX_go {α β γ δ : Type} {R : List Addr → Hp → α → β → Prop} {R' : List Addr → Hp → γ → δ → Prop} {m : Sg → Hi → Res α} {k : α → Hi → Res γ} {Q : δ → Hp → Prop} {N : β → Hp → Prop}
    (hn : ρ[n]? = some dd) (hs : σ[i]? = some (some (V.ref a))) (as : AgS G ρ H σi σ) (ag : Ag G ρ h H) (f : FinG G ρ H R' Q (fun c d H' => W c d σ H') ((m σi h).bind k))
    (nx : ∀ ρ1 H1 h1 x y, Stp G ρ H ρ1 H1 → ρ1[n]? = some dd → AgS G ρ1 H1 σi σ → Ag G ρ1 h1 H1 → R ρ1 H1 x y → FinG G ρ1 H1 R' Q (fun c d H' => W c d σ H') (k x h1) → N y H1) : rdGX G n dd i a R W m σ H N := by
  refine ⟨ρ, σi, h, hn, hs, as, ag, ?_⟩
  cases e : m σi h with
  | err => rw [e] at f; exact f
  | ex c n' h' => rw [e] at f; exact f
  | ok v h' =>
    rw [e] at f
    exact fun ρ' H' x st a' r => nx ρ' H' h' v x st (st.pre _ _ hn) (as.mono st) a' r (FinG.later st f)
theorem mex_of {m : ME} (hp : PE X e (rdE G W m)) : PE X e (rdEX G n dd i a W m) := PE.imp' hp fun σ H Q ⟨ρ, σi, h, _, _, as, ag, f⟩ => ⟨ρ, σi, h, as, ag, f⟩
theorem mex_nil : PA X [] (rdAX G n dd i a W aNil) := PA.imp' pa_nil fun σ H Q ⟨ρ, σi, h, _, _, as, ag, f⟩ => f.ok ag .nil
theorem mex_cons (ha : PE X e (rdEX G n dd i a W me)) (hr : PA X es (rdAX G n dd i a W mr)) (hs : starEach (e :: es) X.env = (false, eval e X.env) :: starEach es X.env := by rfl) : PA X (e :: es) (rdAX G n dd i a W (aCons me mr)) :=
  PA.imp' (pa_cons ha hr hs) fun σ H Q ⟨ρ, σi, h, h1, h2, as, ag, f⟩ => rdGX_go h1 h2 as ag f fun ρ1 H1 h1' x y st k1 as ag r f => rdGX_go k1 h2 as ag f fun ρ2 H2 h2' xs ys st2 k2 as ag rs f => f.ok ag (.cons (r.mono st2) rs)
theorem mex_lst (hp : PA X es (rdAX G n dd i a W mr)) : PE X (.List es pos) (rdEX G n dd i a W (eLst mr)) :=
  PE.imp' (pe_lst hp) fun σ H Q ⟨ρ, σi, h, h1, h2, as, ag, f⟩ => rdGX_go h1 h2 as ag f fun ρ1 H1 h1' xs ys st k1 as ag rs f => by
    cases e : small xs.length with
    | false => rw [e] at f; exact f.elim
    | true =>
      rw [e] at f
      refine ⟨by rw [← rs.length]; exact small_ok e, fun p hp => ?_⟩
      exact f (ρ1 ++ [p]) _ _ (Stp.new hp) (ag.new hp ⟨ys, upd_same, rs.mono (Stp.new hp)⟩) (.ref (by rw [← ag.len]; simp))
/-- a built-in of values -/
theorem mex_cb {f : OpC} {id : String} {x : Str} {p : Pos} (hc : CallR X (.builtin id) (rdC G f)) (hg : Gl X x) (hm : X.mg x = none) (hv : bootBuiltins x = some (.builtin id)) (ha : PA X (e :: es) (rdAX G n dd i a W mr)) (hn : x ≠ "__name__" := by decide) (hdb : (x == ("__debug__" : Str)) = false := by decide)
    (he : starEach (e :: es) X.env = (false, eval e X.env) :: starEach es X.env := by rfl) (hpl : (backTo pos (starEach es X.env)).any (·.1) = false := by rfl) : PE X (.Call (.Name x p) (e :: es) [] pos) (rdEX G n dd i a W (eCB f mr)) :=
  PE.imp' (pe_callB hc hg hm hv ha hn hdb he hpl) fun σ H Q ⟨ρ, σi, h, h1, h2, as, ag, fi⟩ => rdGX_go h1 h2 as ag fi fun ρ1 H1 h1' xs ys st k1 as ag rs f => ⟨ρ1, h1', xs, ag, rs, FinO.of f⟩
/-- x and y, x or y of values, x a bool -/
theorem mex_and {b : Expr} {rest : List Expr} {ma mb : ME} (ha : PE X e (rdEX G n dd i a W ma)) (hb : PE X (.BoolOp .And (b :: rest) pos) (rdEX G n dd i a W mb)) : PE X (.BoolOp .And (e :: b :: rest) pos) (rdEX G n dd i a W (eAnd ma mb)) :=
  PE.imp' (pe_and ha hb) fun σ H Q ⟨ρ, σi, h, h1, h2, as, ag, f⟩ => rdGX_go h1 h2 as ag f fun ρ1 H1 h1' v x st k1 as ag r f => by
    cases r with
    | bl b =>
      refine ⟨b, rfl, ?_⟩
      cases b with
      | true => rw [if_pos rfl]; exact ⟨ρ1, σi, h1', k1, h2, as, ag, f⟩
      | false => rw [if_neg Bool.false_ne_true]; exact f.ok ag (.bl _)
    | _ => exact f.elim
theorem mex_not (ha : PE X e (rdEX G n dd i a W me)) : PE X (.UnaryOp .Not e pos) (rdEX G n dd i a W (eNot me)) :=
  PE.imp' (pe_not ha) fun σ H Q ⟨ρ, σi, h, h1, h2, as, ag, f⟩ => rdGX_go h1 h2 as ag f fun ρ1 H1 h1' v x st k1 as ag r f => by
    cases r with
    | bl b => exact ⟨b, rfl, f.ok ag (.bl _)⟩
    | _ => exact f.elim
theorem mex_one {op} (h : PE X e (rdEX G n dd i a W me)) : PE X (.BoolOp op [e] pos) (rdEX G n dd i a W me) := pe_one h
/-- e.f of the caught exception -/
def eXf (cs : List Nat) (c n : Nat) (f : S) : ME := fun _ h => match cs.contains c, h[n]? with
  | true, some (.xd fs) => match getF f fs with
    | some v => .ok v h
    | none => .err
  | _, _ => .err
def XcOk (K : PySem.W.Frag) (G : Gx) (cs : List Nat) (f : S) : Prop := ∀ c C, cs.contains c = true → G.ct c = some C → XfC K C ∧ PySem.W.findIn K (.ref C) (toStr f) = some none
theorem mex_fld {cs : List Nat} {c : Nat} {C : Addr} {fn : S} {fs en : Str} {oe : Obj} {pn : List (Addr × Obj)} {np : Pos} (ef : fs = toStr fn) (hX : XcOk X.K G cs fn) (hct : G.ct c = some C) (hz : Zc (.ref C) (some dd) oe) (hf : ∃ vs, oe.data = .fields vs)
    (hN : X.N[i]? = some en) (hv : Vis X.env.scope en) (hb : attributeBase (.Name en np) fs X.env (eval (.Name en np) X.env) = eval (.Name en np) X.env) (hd : (en == ("__debug__" : Str)) = false := by decide) (hcd : (en == ("__classdict__" : Str)) = false := by decide) :
    PE (X.suite a ((a, oe) :: pn)) (.Attribute (.Name en np) fs pos) (rdEX G n dd i a W (eXf cs c n fn)) := by
  subst ef
  refine PE.dispatch fun σ H Q ⟨ρ, σi, h, h1, h2, as, ag, f⟩ => ?_
  unfold eXf at f
  cases q1 : cs.contains c with
  | false => rw [q1] at f; exact f.elim
  | true =>
    rw [q1] at f
    cases q2 : h[n]? with
    | none => rw [q2] at f; exact f.elim
    | some ob =>
      rw [q2] at f
      cases ob with
      | xd gs =>
        dsimp only at f
        obtain ⟨T, hno⟩ := hX c C q1 hct
        obtain ⟨ls, hH, rf⟩ := ag.at_ q2 h1
        have g := RFs.getF fn rf
        cases q3 : getF fn gs with
        | none => rw [q3] at f; exact f.elim
        | some v =>
          rw [q3] at f g
          obtain ⟨x, gx, rx⟩ := g
          exact ⟨_, pe_xf T hno hz hf (pe_var (X := X.suite a ((a, oe) :: pn)) hN hv hd hcd) hb, _, h2, rfl, rfl, dd, ls, x, rfl, hH, gx, f.ok ag rx⟩
      | _ => exact f.elim
end
end ML
end

section
set_option Elab.async false
set_option linter.all false
set_option maxRecDepth 100000
set_option maxHeartbeats 4000000
/-! isinstance in a suite; statements of a suite; try. -/
namespace ML
open PySem PySem.Spec PyProof.Rows L2 He
theorem kitx_excD {K : PySem.W.Frag} {x D : Addr} {ox : Obj} {od : Option Obj} (T : ExcC K D) : PySem.W.KitX K (.ref x) (.ref D) (fun h => PySem.W.InstAt h x ox D od) where
  ty := fun _ _ _ I => I.type
  it := fun _ _ X _ => by
    obtain ⟨cdD, hcD, _⟩ := PySem.W.any_some T.hd
    unfold PySem.W.clsIn at hcD
    split at hcD
    · rename_i c' d' cd' sl' ho
      intro A' Q' E' s' k q
      unfold isType loadHead
      exact wpAny_bind (wpAny_loadPart (k _ _ (X _ _ ho)) (wpAny_pure q))
    · cases hcD
  ne := fun h tp dd its n sl X htp => by
    obtain ⟨cdD, hcD, _⟩ := PySem.W.any_some T.hd
    refine Bool.eq_false_iff.mpr fun q => ?_
    have e : D = tp := Value.ref.inj (beq_iff_eq.mp q)
    subst e
    unfold PySem.W.clsIn at hcD
    split at hcD
    · rename_i c' d' cd' sl' ho
      have z := (X _ _ ho).symm.trans htp
      cases z
    · cases hcD
  ca := fun X I k => PySem.W.kx_classE X I T.hg T.hk T.hs (PySem.W.findObj_dataE (by obtain ⟨cd, hc, _⟩ := PySem.W.any_some T.hd; rw [hc]; rfl) T.ha T.hn T.ht) T.hm k
def rIsED (K : PySem.W.Frag) (D a dd : Addr) : List V → Hp → VK → Prop := fun xs H Q => ∃ (c : V) (cv : Value) (b : Bool) (fs : List (Str × V)), xs = [.ref a, c] ∧ H dd = some (.xd fs) ∧ (∀ u, RelV c u → u = cv) ∧ PySem.W.kitOne K (.ref D) cv = some b ∧ Q (.bl b) H
theorem call_isED {X : Cx} {a D dd : Addr} {oe : Obj} {pn : List (Addr × Obj)} (C : ExcC X.K D) (hz : Zc (.ref D) (some dd) oe) (hf : ∃ vs, oe.data = .fields vs) : CallR (X.suite a ((a, oe) :: pn)) (.builtin "isinstance") (rIsED X.K D a dd) := by
  intro pins s σ H xs us Q I r h
  obtain ⟨c, cv, b, fs, rfl, hx, hcv, e, q⟩ := h
  cases r with
  | cons rx rr =>
    cases rr with
    | cons rt rr =>
      cases rr
      cases rx
      have ec := hcv _ rt
      subst ec
      obtain ⟨hget, _⟩ := I.pin (a, oe) (List.mem_append.mpr (.inl List.mem_cons_self))
      obtain ⟨vs, hv⟩ := hf
      have ho : ObjOk X.prog X.w H s.heap dd (.xd fs) := I.hok dd _ hx
      obtain ⟨mA, hns, hr⟩ := ho
      obtain ⟨od, ho, hl⟩ := lookIn_ns hns
      have J : PySem.W.InstAt s.heap a oe D (some od) := ⟨hget, hz.1, by unfold PySem.W.notCls; rw [hv] <;> rfl, by rw [hz.2]; exact ho⟩
      exact PySem.W.kia_one (kitx_excD C) I.kIn J e (fun z => nomatch z) fun tk => ⟨.bl b, H, I.kept (t' := tk) fun _ _ z => z, rfl, q⟩
def eXi (tbl : Nat → Option Bool) (c n : Nat) : ME := fun _ h => match tbl c, h[n]? with
  | some b, some (.xd _) => .ok (.bl b) h
  | _, _ => .err
def XiOk (K : PySem.W.Frag) (G : Gx) (tbl : Nat → Option Bool) (cv : Value) : Prop := ∀ c C b, tbl c = some b → G.ct c = some C → ExcC K C ∧ PySem.W.kitOne K (.ref C) cv = some b
section
variable {G : Gx} {ρ : List Addr} {H : Hp} {W : WX} {X : Cx} {σ : L2.St} {σi : Sg} {h : Hi} {n i : Nat} {dd a : Addr} {e : Expr} {es : List Expr} {me : ME} {ma mr : MA} {pos : Pos}
theorem mex_isi {tbl : Nat → Option Bool} {c : Nat} {C : Addr} {cv : V} {u : Value} {en : Str} {oe : Obj} {pn : List (Addr × Obj)} {np p : Pos} {ce : Expr} (hX : XiOk X.K G tbl u) (hct : G.ct c = some C) (hz : Zc (.ref C) (some dd) oe) (hf : ∃ vs, oe.data = .fields vs)
    (hN : X.N[i]? = some en) (hv : Vis X.env.scope en) (hg : Gl X "isinstance") (hm : X.mg "isinstance" = none) (hc : PE (X.suite a ((a, oe) :: pn)) ce (tC cv)) (cl : ClsV cv u)
    (hs1 : starEach [.Name en np, ce] X.env = (false, eval (.Name en np) X.env) :: starEach [ce] X.env := by rfl) (hs2 : starEach [ce] X.env = (false, eval ce X.env) :: starEach [] X.env := by rfl) (hpl : (backTo pos (starEach [ce] X.env)).any (·.1) = false := by rfl)
    (hd : (en == ("__debug__" : Str)) = false := by decide) (hcd : (en == ("__classdict__" : Str)) = false := by decide) :
    PE (X.suite a ((a, oe) :: pn)) (.Call (.Name "isinstance" p) [.Name en np, ce] [] pos) (rdEX G n dd i a W (eXi tbl c n)) := by
  refine PE.dispatch fun σ H Q ⟨ρ, σi, h, h1, h2, as, ag, f⟩ => ?_
  unfold eXi at f
  cases q1 : tbl c with
  | none => rw [q1] at f; exact f.elim
  | some b =>
    rw [q1] at f
    cases q2 : h[n]? with
    | none => rw [q2] at f; exact f.elim
    | some ob =>
      rw [q2] at f
      cases ob with
      | xd gs =>
        dsimp only at f
        obtain ⟨T, hk⟩ := hX c C b q1 hct
        obtain ⟨ls, hH, rf⟩ := ag.at_ q2 h1
        exact ⟨_, pe_callB (call_isED T hz hf) hg hm boot_isinstance (pa_cons (pe_var (X := X.suite a ((a, oe) :: pn)) hN hv hd hcd) (pa_cons hc pa_nil hs2) hs1) (by decide) (by decide) hs1 hpl, _, h2, _, u, b, ls, rfl, hH, (fun u2 r2 => cl.eq r2), hk, f.ok ag (.bl b)⟩
      | _ => exact f.elim
theorem rdSX_go {α β : Type} {R : List Addr → Hp → α → β → Prop} {m : Sg → Hi → Res α} {k : α → Hi → RS} {D : Ends} {N : β → Hp → Prop}
    (hn : ρ[n]? = some dd) (hs : σ[i]? = some (some (V.ref a))) (as : AgS G ρ H σi σ) (ag : Ag G ρ h H) (f : FinS G ρ H D W ((m σi h).bindS σi k))
    (nx : ∀ ρ1 H1 h1 x y, Stp G ρ H ρ1 H1 → ρ1[n]? = some dd → AgS G ρ1 H1 σi σ → Ag G ρ1 h1 H1 → R ρ1 H1 x y → FinS G ρ1 H1 D W (k x h1) → N y H1) : rdGX G n dd i a R W m σ H N := by
  have z : rdG G R W m σ H fun y H1 => N y H1 ∨ True := rdS_go as ag f fun ρ1 H1 h1 x y st as1 ag1 r f1 => .inr trivial
  refine ⟨ρ, σi, h, hn, hs, as, ag, ?_⟩
  cases e : m σi h with
  | err => rw [e] at f; exact f
  | ex c n' h' => rw [e] at f; exact fun ρ' H' d C st a' q1 q2 => f ρ' H' d C σ st a' (as.mono st) q1 q2
  | ok v h' =>
    rw [e] at f
    exact fun ρ' H' x st a' r => nx ρ' H' h' v x st (st.pre _ _ hn) (as.mono st) a' r (FinS.later st f)
theorem msx_ret (he : PE X e (rdEX G n dd i a W me)) : PS X (.Return (some e) pos) (rdSX G n dd i a W (sRet me)) :=
  PS.imp' (ps_ret he) fun D σ H ⟨ρ, σi, h, h1, h2, as, ag, f⟩ => rdSX_go h1 h2 as ag f fun ρ1 H1 h1' x y st k1 as ag r f => f ρ1 H1 y .refl ag r
theorem msx_one {st : Stmt} {t : TS} (h : PS X st t) : PSs X [st] t := pss_one h
theorem msx_of {st : List Stmt} {m : MS} (h : PSs X st (rdS G W m)) : PSs X st (rdSX G n dd i a W m) := PSs.imp' h fun D σ H ⟨ρ, σi, h, _, _, as, ag, f⟩ => ⟨ρ, σi, h, as, ag, f⟩
/-- x = e, then the rest -/
theorem msx_set {j : Nat} {x : Str} {pos' : Pos} {rest : List Stmt} {mr : MS} (hN : X.N.Nodup) (hi : X.N[j]? = some x) (hx : Loc X.env.scope x) (hji : j ≠ i) (he : PE X e (rdEX G n dd i a W me)) (hr : PSs X rest (rdSX G n dd i a W mr)) (hs : swapsWith e (some (.Name x pos')) pos.line X.env = pure false := by rfl)
    (hf : X.fn x = true ∨ X.env.scope.names.lookup x = some .local := by first | exact .inl rfl | exact .inr rfl | assumption) : PSs X (.Assign [.Name x pos'] e pos :: rest) (rdSX G n dd i a W (sSeq (sAsg me (gNm j)) mr)) :=
  PSs.imp' (pss_cons (ps_set (i := j) hN hi hx he hs hf) hr) fun D σ H ⟨ρ, σi, h, h1, h2, as, ag, f⟩ => by
    have f' : FinS G ρ H D W ((me σi h).bindS σi fun v h1 => (RS.nx (σi.set j (some v)) h1).andThen mr) := by
      have f0 : FinS G ρ H D W ((sAsg me (gNm j) σi h).andThen mr) := f
      unfold sAsg gNm at f0
      cases q : me σi h with
      | ok v h' => rw [q] at f0; exact f0
      | ex c n' h' => rw [q] at f0; exact f0
      | err => rw [q] at f0; exact f0
    refine rdSX_go h1 h2 as ag f' fun ρ1 H1 h1' v y st k1 as1 ag1 r f1 => ?_
    exact ⟨ρ1, _, h1', k1, by rw [List.getElem?_set_ne hji]; exact h2, as1.set r j, ag1, f1⟩
end
/-! ### try -/
def tSu (G : Gx) (mt : Nat → Option Bool) (su : Nat → Nat → MS) (i : Nat) : Addr → Value → Option Addr → TS := fun a cls d D σ H => ∃ c n C dd, cls = .ref C ∧ d = some dd ∧ G.ct c = some C ∧ mt c = some true ∧ rdSX G n dd i a W0 (su c n) D σ H
inductive HdM (X : Cx) (G : Gx) : List ExceptHandler → List Hd → List (Value × Nat × (Addr → Value → Option Addr → TS)) → Prop
  | nil : HdM X G [] [] []
  | cons {x n : Str} {i : Nat} {cv : Value} {mt : Nat → Option Bool} {su : Nat → Nat → MS} {b₀ : Stmt} {suite : List Stmt} {np pos' : Pos} {hds : List ExceptHandler} {hs : List Hd} {l : List (Value × Nat × (Addr → Value → Option Addr → TS))} (hc : Names X x cv)
      (hi : X.N[i]? = some n) (hln : X.env.kindOf n = some .local) (hmt : ∀ c C b, mt c = some b → G.ct c = some C → PySem.W.exmOne X.K (.ref C) cv = some b)
      (hsu : ∀ (a : Addr) (oe : Obj) (C dd : Addr) (pn : List (Addr × Obj)) (c n : Nat), G.ct c = some C → mt c = some true → Zc (.ref C) (some dd) oe → (∃ vs, oe.data = .fields vs) → PSs (X.suite a ((a, oe) :: pn)) (b₀ :: suite) (rdSX G n dd i a W0 (su c n)))
      (r : HdM X G hds hs l) : HdM X G (.ExceptHandler (some (.Name x np)) (some n) (b₀ :: suite) pos' :: hds) ((mt, i, su) :: hs) ((cv, i, tSu G mt su i) :: l)
theorem PSs.dispatch {X : Cx} {st : List Stmt} {t : TS} (h : ∀ D σ H, t D σ H → ∃ t', PSs X st t' ∧ t' D σ H) : PSs X st t := ⟨fun pins s σ H D I q => let ⟨_, p, q'⟩ := h D σ H q; p.run pins s σ H D I q'⟩
theorem HdM.hds {X : Cx} {G : Gx} {hds : List ExceptHandler} {hs : List Hd} {l : List (Value × Nat × (Addr → Value → Option Addr → TS))} (m : HdM X G hds hs l) : HdsA X hds l := by
  induction m with
  | nil => exact .nil
  | cons hc hi hln hmt hsu r ih =>
    refine .cons hc hi hln (fun a oe cls d pn hz hf => PSs.dispatch fun D σ H ⟨c, n, C, dd, e1, e2, hct, hm, q⟩ => ?_) ih
    subst e1 e2
    exact ⟨_, hsu a oe C dd pn c n hct hm hz hf, q⟩
theorem runH_ok {X : Cx} {G : Gx} {W : WX} {D : Ends} {hds : List ExceptHandler} {hs : List Hd} {l : List (Value × Nat × (Addr → Value → Option Addr → TS))} (m : HdM X G hds hs l) : ∀ {ρ : List Addr} {H : Hp} {σi : Sg} {σ : L2.St} {h : Hi} {c n : Nat} {dd C : Addr},
    ρ[n]? = some dd → G.ct c = some C → AgS G ρ H σi σ → Ag G ρ h H → FinS G ρ H D W (runH hs c n σi h) → wManyA X.K W D l (.ref C) (some dd) σ H := by
  induction m with
  | nil => intro ρ H σi σ h c n dd C hn hct as ag f; exact f ρ H dd C σ .refl ag as hn hct
  | @cons x nm i cv mt su b₀ suite np pos' hds hs l hc hi hln hmt hsu r ih =>
    intro ρ H σi σ h c n dd C hn hct as ag f
    unfold runH at f
    cases q : mt c with
    | none => rw [q] at f; exact f.elim
    | some b =>
      rw [q] at f
      refine ⟨b, hmt c C b q hct, fun hb a na => ?_, fun hb => ?_⟩
      · subst hb
        dsimp only at f
        cases ql : Nat.blt i σi.length with
        | false => rw [ql] at f; exact f.elim
        | true =>
          rw [ql] at f
          dsimp only at f
          have hl : i < σ.length := by rw [Nat.blt_eq] at ql; rw [← as.len]; exact ql
          refine ⟨c, n, C, dd, rfl, rfl, hct, q, ρ, σi.set i none, h, hn, by rw [List.getElem?_set_self hl], as.lose i _, ag, ?_⟩
          cases e : su c n (σi.set i none) h with
          | nx σ' h' => rw [e] at f; exact fun ρ' H' σ3 st a' as' => f ρ' H' _ st a' (as'.lose i none)
          | bk σ' h' => rw [e] at f; exact fun ρ' H' σ3 st a' as' => f ρ' H' _ st a' (as'.lose i none)
          | ct σ' h' => rw [e] at f; exact fun ρ' H' σ3 st a' as' => f ρ' H' _ st a' (as'.lose i none)
          | rt v h' => rw [e] at f; exact f
          | ex c' n' σ' h' => rw [e] at f; exact f.elim
          | err => rw [e] at f; exact f.elim
      · subst hb
        exact ih hn hct as ag f
end ML
end

section
set_option Elab.async false
set_option linter.all false
set_option maxRecDepth 100000
set_option maxHeartbeats 4000000
/-! try, over the M layer. -/
namespace ML
open PySem PySem.Spec PyProof.Rows L2 He
section
variable {G : Gx} {W : WX} {X : Cx} {body : List Stmt} {h₀ : ExceptHandler} {hds : List ExceptHandler} {hs : List Hd} {l : List (Value × Nat × (Addr → Value → Option Addr → TS))} {pos : Pos} {mb : MS}
theorem ms_try (tk : Takes X W) (hN : X.N.Nodup) (hb : ∀ (W' : WX) (pn : List (Addr × Obj)) (xe : Value → Shared → Prop), Takes (X.tr pn xe) W' → PassesOwn (model X.prog X.w) X.A X.env xe → PSs (X.tr pn xe) body (rdS G W' mb))
    (hh : HdM X G (h₀ :: hds) hs l) (hst : X.stack = X.env :: X.outer := by rfl) (hf : X.env.frame = some X.env.locals := by rfl) : PS X (.Try body (h₀ :: hds) [] [] pos) (rdS G W (sTry mb hs)) :=
  PS.imp' (ps_try_asMany (tb := fun W' => rdS G W' mb) (Wout := W) hst hf hN tk hb hh.hds) fun D σ H ⟨ρ, σi, h, as, ag, f⟩ => by
    refine ⟨ρ, σi, h, as, ag, ?_⟩
    unfold sTry at f
    cases e : mb σi h with
    | ex c n σ' h' =>
      rw [e] at f
      exact fun ρ' H' d C σ3 st ag' as' hn hct => runH_ok hh hn hct as' ag' (FinS.later st f)
    | nx σ' h' => rw [e] at f; exact f
    | bk σ' h' => rw [e] at f; exact f
    | ct σ' h' => rw [e] at f; exact f
    | rt v h' => rw [e] at f; exact f
    | err => rw [e] at f; exact f.elim
end
end ML
namespace ML
open PySem PySem.Spec PyProof.Rows L2 He
theorem msx_nil {G : Gx} {W : WX} {X : Cx} {n i : Nat} {dd a : Addr} : PSs X [] (rdSX G n dd i a W sNx) := msx_of ms_nil
end ML
end

section
set_option Elab.async false
set_option linter.all false
set_option maxRecDepth 100000
set_option maxHeartbeats 4000000
/-! Exceptions: what the heap behind the top must look like, by Bools. -/
namespace ML
open PySem PySem.Spec PyProof.Rows L2 He

def oexB (K : PySem.W.Frag) (C : Addr) : Bool := match K.lookup C with
  | some ⟨.type "type", _, .cls cd, sl⟩ => (match cd.mro, sl.toList with
    | .ref C' :: bm, [_, _, _, _, some (.builtin n), _] => (C' == C && n == "ValueError.__new__" && !cd.hasDel) && (cd.hasDict && PySem.HandSPX.refsVE bm)
    | _, _ => false)
  | _ => false
theorem oexB_ok {K : PySem.W.Frag} {C : Addr} (q : oexB K C = true) : ∃ nm qn N bs bm sn sub ab col dd k0 k1 k2 k3 k5, K.lookup C = some (excClassObj nm qn C N bs bm true sn sub ab col dd k0 k1 k2 k3 k5 "ValueError.__new__") ∧ PySem.HandSPX.refsVE bm = true := by
  unfold oexB at q
  split at q
  · rename_i dd cd sl ho
    split at q
    · rename_i C' bm k0 k1 k2 k3 n k5 hm hs
      simp only [Bool.and_eq_true, beq_iff_eq, Bool.not_eq_true'] at q
      obtain ⟨⟨⟨rfl, rfl⟩, hdel⟩, hdi, hr⟩ := q
      obtain ⟨nm, bs, mro, ns, qn, hd, sn, sub, ab, col, del⟩ := cd
      dsimp only at hm hdel hdi
      subst hm hdel hdi
      have hsl : sl = #[k0, k1, k2, k3, some (.builtin "ValueError.__new__"), k5] := by
        obtain ⟨l⟩ := sl
        simp only at hs
        rw [hs]
      subst hsl
      exact ⟨nm, qn, ns, bs, bm, sn, sub, ab, col, dd, k0, k1, k2, k3, k5, ho, hr⟩
    · cases q
  · cases q
/-- all that is asked of an exception class x, whose __init__ is d -/
def excB (K : PySem.W.Frag) (x : Str) : Bool := oexB K (ga K x) && (eqO (PySem.W.findIn K (.ref (ga K x)) "__setattr__") (some (some (.builtin "object.__setattr__"))) && (decide (PySem.W.subIn K (.ref (ga K x)) (.type "BaseException") = some true) &&
  (decide (PySem.W.typeIn K (.ref (ga K x)) = some (.type "type")) && PySem.W.keepIn K (.ref (ga K x)))))
theorem excB_ok {K : PySem.W.Frag} {x : Str} (h : excB K x = true) : OexC K (ga K x) := by
  obtain ⟨h1, h⟩ := ba h
  obtain ⟨h2, h⟩ := ba h
  obtain ⟨h3, h⟩ := ba h
  obtain ⟨h4, h5⟩ := ba h
  exact ⟨oexB_ok h1, eqO_ok h2, of_decide_eq_true h3, of_decide_eq_true h4, h5⟩
def exiB (K : PySem.W.Frag) (x fld : Str) (d : Defn) : Bool := eqO (PySem.W.findIn K (.ref (ga K x)) "__init__") (some (some (.ref (d K)))) && (decide (PySem.W.typeIn K (.ref (d K)) = some (.type "function")) && (eqO (PySem.W.findIn K (.ref (ga K x)) fld) (some none) &&
  ((PySem.W.clsIn K (ga K x)).isSome && (decide (PySem.W.mroIn K (ga K x) (.ref (ga K x)) = some true) && (eqO (PySem.W.ks_superIn K (ga K x) (ga K x) "__init__") (some (some (.builtin "ValueError.__init__"))) &&
  (decide (PySem.W.subIn K (.ref (ga K x)) (.type "ValueError") = some true) && eqO (PySem.W.nsIn K cStatics "thirdparty.any") (some none)))))))
structure ExiOk (K : PySem.W.Frag) (x fld : Str) (d : Defn) : Prop where
  ini : PySem.W.findIn K (.ref (ga K x)) "__init__" = some (some (.ref (d K)))
  ty : PySem.W.typeIn K (.ref (d K)) = some (.type "function")
  no : PySem.W.findIn K (.ref (ga K x)) fld = some none
  cd : ∃ cd, PySem.W.clsIn K (ga K x) = some cd
  mro : PySem.W.mroIn K (ga K x) (.ref (ga K x)) = some true
  sup : PySem.W.ks_superIn K (ga K x) (ga K x) "__init__" = some (some (.builtin "ValueError.__init__"))
  sub : PySem.W.subIn K (.ref (ga K x)) (.type "ValueError") = some true
  any : PySem.W.nsIn K cStatics "thirdparty.any" = some none
theorem exiB_ok {K : PySem.W.Frag} {x fld : Str} {d : Defn} (h : exiB K x fld d = true) : ExiOk K x fld d := by
  obtain ⟨h1, h⟩ := ba h
  obtain ⟨h2, h⟩ := ba h
  obtain ⟨h3, h⟩ := ba h
  obtain ⟨h4, h⟩ := ba h
  obtain ⟨h5, h⟩ := ba h
  obtain ⟨h6, h⟩ := ba h
  obtain ⟨h7, h8⟩ := ba h
  exact ⟨eqO_ok h1, of_decide_eq_true h2, eqO_ok h3, Option.isSome_iff_exists.mp h4, of_decide_eq_true h5, eqO_ok h6, of_decide_eq_true h7, eqO_ok h8⟩
theorem ExiOk.supX {X : Cx} {x fld : Str} {d : Defn} (e : ExiOk X.K x fld d) : SupX X (ga X.K x) := ⟨e.cd, e.mro, e.sup, e.sub⟩
/-! ### clauses -/
def exmL (K : PySem.W.Frag) (nm : Nat → Option Str) (y : Str) (l : List (Nat × Bool)) : Bool := l.all fun q => match nm q.1 with
  | some x => decide (PySem.W.exmOne K (.ref (ga K x)) (.ref (ga K y)) = some q.2)
  | none => false
theorem lkT_mem {α : Type} : ∀ {l : List (Nat × α)} {c : Nat} {b : α}, lkT l c = some b → (c, b) ∈ l
  | [], _, _, h => by cases h
  | (d, x) :: r, c, b, h => by
    rcases lkT_cons h with ⟨rfl, rfl⟩ | h
    · exact List.mem_cons_self
    · exact List.mem_cons_of_mem _ (lkT_mem h)
theorem exmL_ok {K : PySem.W.Frag} {mg : Str → Option Value} {nm : Nat → Option Str} {y : Str} {l : List (Nat × Bool)} (h : exmL K nm y l = true) : ∀ c C b, lkT l c = some b → (GxOf K mg nm).ct c = some C → PySem.W.exmOne K (.ref C) (.ref (ga K y)) = some b := fun c C b e hc => by
  have z := List.all_eq_true.mp h _ (lkT_mem e)
  dsimp only at z
  cases q : nm c with
  | none => rw [q] at z; cases z
  | some x =>
    rw [q] at z
    rw [gx_ct hc q]
    exact of_decide_eq_true z
/-! ### fields of a caught exception -/
def xcB (K : PySem.W.Frag) (nm : Nat → Option Str) (cs : List Nat) (f : Str) : Bool := cs.all fun c => match nm c with
  | some x => xfB K (ga K x) && eqO (PySem.W.findIn K (.ref (ga K x)) f) (some none)
  | none => false
theorem xcB_ok {K : PySem.W.Frag} {mg : Str → Option Value} {nm : Nat → Option Str} {cs : List Nat} {f : S} (h : xcB K nm cs (toStr f) = true) : XcOk K (GxOf K mg nm) cs f := fun c C e hc => by
  have z := List.all_eq_true.mp h c (List.contains_iff_mem.mp e)
  cases q : nm c with
  | none => rw [q] at z; cases z
  | some x =>
    rw [q] at z
    rw [gx_ct hc q]
    obtain ⟨z1, z2⟩ := ba z
    exact ⟨xfB_ok z1, eqO_ok z2⟩
/-! ### isinstance of a caught exception -/
def eccB (K : PySem.W.Frag) (x : Str) : Bool := xfB K (ga K x) && (eqO (PySem.W.findIn K (.ref (ga K x)) "__class__") (some (some (.builtin "object.__class__"))) && (eqO (PySem.W.specialIn K (.builtin "object.__class__") "__get__") (some (some (.builtin "getset_descriptor.__get__"))) &&
  (decide (PySem.W.takesIn K (.builtin "object.__class__") = some true) && decide (PySem.W.mroIn K (ga K x) (.type "object") = some true))))
theorem eccB_ok {K : PySem.W.Frag} {x : Str} (h : eccB K x = true) : ExcC K (ga K x) := by
  obtain ⟨h1, h⟩ := ba h
  obtain ⟨h2, h⟩ := ba h
  obtain ⟨h3, h⟩ := ba h
  obtain ⟨h4, h5⟩ := ba h
  have z := xfB_ok h1
  exact ⟨z.ga, z.gg, z.exC, z.hdC, eqO_ok h2, eqO_ok h3, of_decide_eq_true h4, of_decide_eq_true h5⟩
def xiB (K : PySem.W.Frag) (nm : Nat → Option Str) (r : ClsR) (l : List (Nat × Bool)) : Bool := l.all fun q => match nm q.1 with
  | some x => eccB K x && decide (PySem.W.kitOne K (.ref (ga K x)) (r.val K) = some q.2)
  | none => false
theorem xiB_ok {K : PySem.W.Frag} {mg : Str → Option Value} {nm : Nat → Option Str} {r : ClsR} {l : List (Nat × Bool)} (h : xiB K nm r l = true) : XiOk K (GxOf K mg nm) (lkT l) (r.val K) := fun c C b e hc => by
  have z := List.all_eq_true.mp h _ (lkT_mem e)
  dsimp only at z
  cases q : nm c with
  | none => rw [q] at z; cases z
  | some x =>
    rw [q] at z
    rw [gx_ct hc q]
    obtain ⟨z1, z2⟩ := ba z
    exact ⟨eccB_ok z1, of_decide_eq_true z2⟩
/-! ### the def of an exception's __init__ -/
section
variable {X : Cx} {x qual : Str} {params : Arguments} {body : List Stmt} {scope : Scope} {dvs : List V} {kws : List (Str × V)} {f cc D c : Addr} {fd : FuncData} {file sf : Str} {ar : Arg}
theorem supD_of (F : FunS X.K x qual params body scope dvs kws f fd cc D c file) (hfn : X.env.func = some f) (hcode : X.env.code = .ref c) (har : (params.posonlyargs ++ params.args).head? = some ar) (hs : ar.arg = sf)
    (hfile : ((X.prog.main.file : Str) == file) = true) (htop : (X.prog.main.scope.names.lookup ("super" : Str)).isSome = false) (any : PySem.W.nsIn X.K cStatics "thirdparty.any" = some none) : SupD X f D sf := by
  obtain ⟨oc, od, dV, kV, doc, pm, an, ct, osl, e1, e2, _, _⟩ := F.ex
  obtain ⟨o, vs, tf, e3, e4, e5⟩ := F.file
  exact ⟨hfn, ⟨_, fd, ar, e2, rfl, by rw [e1]; exact har, hs⟩, ⟨c, o, vs, file, tf, hcode, e3, e4, e5, hfile⟩, htop, any⟩
end
theorem ex_body {X : Cx} {body : List Stmt} {f D : Addr} {par fld m : Str} {j1 : Nat} {p0 p1 p2 apos cpos spos q0 q1 q2 q3 : Pos} (S : SupD X f D "self") (hks : Gl X "super") (hm : X.mg "super" = none) (hkc : X.env.kindOf "__class__" = some .free) (hNc : X.N[2]? = some ("__class__" : Str)) (hvc : Vis X.env.scope "__class__")
    (hNs : X.N[0]? = some ("self" : Str)) (hvs : Vis X.env.scope "self") (hNp : X.N[1]? = some par) (hvp : Vis X.env.scope par) (hi : interactive X.env = false)
    (hst : starEach [.Constant (.str m) j1 p2] X.env = (false, eval (.Constant (.str m) j1 p2) X.env) :: starEach [] X.env) (hpl : (backTo cpos (starEach [] X.env)).any (·.1) = false)
    (hsw : swapsWith (.Call (.Attribute (.Call (.Name "super" p0) [] [] p1) "__init__" apos) [.Constant (.str m) j1 p2] [] cpos) none spos.line X.env = pure false)
    (ht : eval (.Call (.Attribute (.Call (.Name "super" p0) [] [] p1) "__init__" apos) [.Constant (.str m) j1 p2] [] cpos) X.env = (do
      let ov ← attributeBase (.Call (.Name "super" p0) [] [] p1) "__init__" X.env (eval (.Call (.Name "super" p0) [] [] p1) X.env)
      standAt apos.atName
      let (f, first) ← holding [ov] (getMethod ov "__init__" (pure false))
      callWith cpos f first (backTo cpos (starEach [.Constant (.str m) j1 p2] X.env)) []))
    (hs2 : swapsWith (.Name par q1) (some (.Attribute (.Name "self" q0) fld q2)) q3.line X.env = pure false) (hd : (par == ("__debug__" : Str)) = false) (hcd : (par == ("__classdict__" : Str)) = false) :
    PSsT X body [.Expr (.Call (.Attribute (.Call (.Name "super" p0) [] [] p1) "__init__" apos) [.Constant (.str m) j1 p2] [] cpos) spos, .Assign [.Attribute (.Name "self" q0) fld q2] (.Name par q1) q3] (tIni X D m fld) :=
  psst_cons (t1 := tSupX X 2 0 D (tCons (tC (.str m)) tNil)) (t2 := tOst X.K fld (tVar 0) (tVar 1)) (pst_superX (j := 2) (i := 0) (slf := "self") S hks hm hkc hNc hvc hNs hvs (by decide) (pa_cons pe_str pa_nil hst) hi hst hpl hsw ht) (pss_one (ps_ost (pe_var (i := 0) hNs hvs) (pe_var (i := 1) hNp hvp hd hcd) hs2))
end ML
end

section
set_option Elab.async false
set_option linter.all false
set_option maxRecDepth 100000
set_option maxHeartbeats 4000000
/-! Locality: own !=, raise, try. -/
namespace ML
open PySem L2
theorem L2R.negR {r : List Nat} {h : Hi} {a b : Res VI} (k : L2R RV2 r h a b) : L2R RV2 r h (negR a) (negR b) := by
  cases a with
  | err => trivial
  | ex c n s' =>
    obtain ⟨r', h', m, rfl, e, g, q⟩ := k
    exact ⟨r', h', m, rfl, e, g, q⟩
  | ok v s' =>
    obtain ⟨r', h', v', rfl, e, g, q⟩ := k
    cases q with
    | bl b => exact ⟨r', h', _, rfl, e, g, .bl (!b)⟩
    | _ => trivial
instance {ma mb : ME} {f : Op2} {cs : List Nat} {tbl : Nat → Option MF} [c : LTb tbl] [x : LE ma] [y : LE mb] [o : LOp f] : LE (eNeU cs tbl f ma mb) := ⟨fun r s h σ σ' g a => (x.run r s h σ σ' g a).bind fun r1 s1 h1 v v' e1 g1 q1 => (y.run _ _ _ _ _ g1 (a.mono e1)).bind fun r2 s2 h2 w w' e2 g2 q2 => by
  rw [ins2 g2 (q1.mono e2), ty2 g2 q2]
  cases z : insC v s2 with
  | none => exact .ofO (o.run _ _ _ _ _ _ _ g2 (q1.mono e2) q2)
  | some d =>
    dsimp only
    cases w0 : tbl d with
    | none => trivial
    | some u =>
      cases w1 : nfI cs (tyI w s2) with
      | false => trivial
      | true => exact ((c.run _ _ w0).run _ _ _ _ _ g2 (.cons (q1.mono e2) (.cons q2 .nil))).negR⟩
instance {c : Nat} {f : S} {ma : ME} [x : LE ma] : LS (sRaise c f ma) := ⟨fun r s h σ σ' g a => (x.run r s h σ σ' g a).bindS a fun r1 s1 h1 v v' e1 g1 q1 => by
  have e0 : Ex2 r1 h1 (r1 ++ [h1.length]) (h1 ++ [OI.xd [(f, v')]]) := ⟨⟨[h1.length], rfl, fun m hm => by rw [List.mem_singleton] at hm; omega⟩, by simp, fun m _ hlt => List.getElem?_append_left hlt⟩
  obtain ⟨g', e⟩ := g1.new (o := OI.xd [(f, v)]) (o' := OI.xd [(f, v')]) (.xd (.cons (q1.mono e0) .nil))
  exact ⟨_, _, _, _, rfl, e, g', (a.mono e1).mono e, g1.idx⟩⟩
/-- two readings whose exception stands at n, at m -/
class LE2 (n m : Nat) (e e' : ME) : Prop where
  run : ∀ r s h σ σ', r[n]? = some m → Ag2 r s h → AS2 r σ σ' → L2R RV2 r h (e σ s) (e' σ' h)
class LA2 (n m : Nat) (e e' : MA) : Prop where
  run : ∀ r s h σ σ', r[n]? = some m → Ag2 r s h → AS2 r σ σ' → L2R RVs2 r h (e σ s) (e' σ' h)
class LS2 (n m : Nat) (e e' : MS) : Prop where
  run : ∀ r s h σ σ', r[n]? = some m → Ag2 r s h → AS2 r σ σ' → L2S r h (e σ s) (e' σ' h)
theorem Ex2.at_ {r r' : List Nat} {h h' : Hi} {n m : Nat} (e : Ex2 r h r' h') (q : r[n]? = some m) : r'[n]? = some m := e.pre q
section
variable {n m c : Nat}
instance (priority := low) {e : ME} [x : LE e] : LE2 n m e e := ⟨fun r s h σ σ' _ g a => x.run r s h σ σ' g a⟩
instance {cs : List Nat} {f : S} : LE2 n m (eXf cs c n f) (eXf cs c m f) := ⟨fun r s h σ σ' q g a => by
  unfold eXf
  obtain ⟨o, o', z1, z2, z3⟩ := g.no q
  rw [z1, z2]
  cases z3 with
  | xd t =>
    cases cs.contains c with
    | false => trivial
    | true =>
      have k := getF2 (f := f) t
      dsimp only
      rename_i xs ys
      cases w : getF f xs with
      | none => trivial
      | some v =>
        rw [w] at k
        cases w2 : getF f ys with
        | none => rw [w2] at k; exact k.elim
        | some v' => rw [w2] at k; exact .ok g k
  | _ => cases cs.contains c <;> trivial⟩
instance {t : Nat → Option Bool} : LE2 n m (eXi t c n) (eXi t c m) := ⟨fun r s h σ σ' q g a => by
  unfold eXi
  obtain ⟨o, o', z1, z2, z3⟩ := g.no q
  rw [z1, z2]
  cases t c with
  | none => trivial
  | some b => cases z3 <;> first | exact .ok g (.bl b) | trivial⟩
instance : LA2 n m aNil aNil := ⟨fun r s h σ σ' q g a => .ok g .nil⟩
instance {a a' : ME} {b b' : MA} [x : LE2 n m a a'] [y : LA2 n m b b'] : LA2 n m (aCons a b) (aCons a' b') := ⟨fun r s h σ σ' q g a => (x.run r s h σ σ' q g a).bind fun r1 s1 h1 v v' e1 g1 q1 => (y.run _ _ _ _ _ (e1.at_ q) g1 (a.mono e1)).bind fun r2 s2 h2 w w' e2 g2 q2 => .ok g2 (.cons (q1.mono e2) q2)⟩
instance {b b' : MA} [y : LA2 n m b b'] : LE2 n m (eLst b) (eLst b') := ⟨fun r s h σ σ' q g a => (y.run _ _ _ _ _ q g a).bind fun r2 s2 h2 w w' e2 g2 q2 => by
  rw [← q2.length]
  split
  · exact .new g2 fun r' e => .lst (q2.mono e)
  · trivial⟩
instance {a a' : ME} [x : LE2 n m a a'] : LS2 n m (sRet a) (sRet a') := ⟨fun r s h σ σ' q g a => (x.run r s h σ σ' q g a).bindS a fun r1 s1 h1 v v' e1 g1 q1 => ⟨_, _, _, rfl, .refl, g1, q1⟩⟩
instance : LS2 n m sNx sNx := ⟨fun r s h σ σ' q g a => .nx g a⟩
instance {a a' : ME} {b b' : MS} {j : Nat} [x : LE2 n m a a'] [y : LS2 n m b b'] : LS2 n m (sSeq (sAsg a (gNm j)) b) (sSeq (sAsg a' (gNm j)) b') := ⟨fun r s h σ σ' q g a =>
  L2S.andThen ((x.run r s h σ σ' q g a).bindS a fun r1 s1 h1 v v' e1 g1 q1 => .nx g1 ((a.mono e1).set q1 j)) fun r1 s1 h1 t t' e1 g1 a1 => y.run _ _ _ _ _ (e1.at_ q) g1 a1⟩
end
theorem goneS2 {r : List Nat} {h : Hi} {i : Nat} {a b : RS} (k : L2S r h a b) : L2S r h (goneS i a) (goneS i b) := by
  cases a with
  | err => trivial
  | nx σ s' => obtain ⟨r2, h2, m, rfl, e2, g, a⟩ := k; exact ⟨r2, h2, _, rfl, e2, g, a.lose i⟩
  | bk σ s' => obtain ⟨r2, h2, m, rfl, e2, g, a⟩ := k; exact ⟨r2, h2, _, rfl, e2, g, a.lose i⟩
  | ct σ s' => obtain ⟨r2, h2, m, rfl, e2, g, a⟩ := k; exact ⟨r2, h2, _, rfl, e2, g, a.lose i⟩
  | rt σ s' => obtain ⟨r2, h2, m, rfl, e2, g, a⟩ := k; exact ⟨r2, h2, _, rfl, e2, g, a⟩
  | ex c n σ s' => trivial
class LHs (hs : List Hd) : Prop where
  run : ∀ c n m r s h σ σ', r[n]? = some m → Ag2 r s h → AS2 r σ σ' → L2S r h (runH hs c n σ s) (runH hs c m σ' h)
instance : LHs [] := ⟨fun c n m r s h σ σ' q g a => ⟨_, _, _, _, rfl, .refl, g, a, q⟩⟩
instance {mt : Nat → Option Bool} {i : Nat} {su : Nat → Nat → MS} {hs : List Hd} [x : ∀ c n m, LS2 n m (su c n) (su c m)] [y : LHs hs] : LHs ((mt, i, su) :: hs) := ⟨fun c n m r s h σ σ' q g a => by
  unfold runH
  cases mt c with
  | none => trivial
  | some b =>
    cases b with
    | false => exact y.run _ _ _ _ _ _ _ _ q g a
    | true =>
      dsimp only
      rw [← a.len]
      split
      · exact goneS2 ((x c n m).run _ _ _ _ _ q g (a.lose i))
      · trivial⟩
instance {body : MS} {hs : List Hd} [x : LS body] [y : LHs hs] : LS (sTry body hs) := ⟨fun r s h σ σ' g a => by
  have k := x.run r s h σ σ' g a
  unfold sTry
  cases z : body σ s with
  | err => trivial
  | nx σ1 s' => rw [z] at k; obtain ⟨r2, h2, m, e1, e2, g2, a2⟩ := k; rw [e1]; exact ⟨r2, h2, _, rfl, e2, g2, a2⟩
  | bk σ1 s' => rw [z] at k; obtain ⟨r2, h2, m, e1, e2, g2, a2⟩ := k; rw [e1]; exact ⟨r2, h2, _, rfl, e2, g2, a2⟩
  | ct σ1 s' => rw [z] at k; obtain ⟨r2, h2, m, e1, e2, g2, a2⟩ := k; rw [e1]; exact ⟨r2, h2, _, rfl, e2, g2, a2⟩
  | rt v s' => rw [z] at k; obtain ⟨r2, h2, m, e1, e2, g2, a2⟩ := k; rw [e1]; exact ⟨r2, h2, _, rfl, e2, g2, a2⟩
  | ex c n σ1 s' =>
    rw [z] at k
    obtain ⟨r2, h2, σ2, m, e1, e2, g2, a2, q⟩ := k
    rw [e1]
    exact (y.run c n m r2 s' h2 σ1 σ2 q g2 a2).ext e2⟩
end ML
end

section
set_option Elab.async false
set_option linter.all false
set_option maxRecDepth 100000
set_option maxHeartbeats 4000000
/-! len(o), o's class with an own __len__. -/
namespace PySem.W
open PySem PyProof.Rows
section
variable {prog : Program} {w : World} {A : Around} {E : Value → Shared → Prop} {s : Shared} {K : Frag} {x C f : Addr} {ox : Obj} {od : Option Obj} {name : Str}
theorem callSpecial_K {M : Model} {args : List Value} {Q : Option Value → Shared → Prop} (X : K.In s.heap) (I : InstAt s.heap x ox C od) (hs : findIn K (.ref C) name = some (some (.ref f))) (hf : isFn K (.ref f) = true)
    (h : wpAny M A (call (.ref f) (.ref x :: args)) (fun v => Q (some v)) E s) : wpAny M A (callSpecial? (.ref x) name args) Q E s := by
  unfold callSpecial?
  refine wpAny_bind ((I.type.andThen (looks_findIn X hs)).here ?_)
  dsimp only
  refine wpAny_holding (wpAny_bind ((bind_fn X _ (beq_iff_eq.mp hf)).here ?_))
  exact wpAny_bind (wpAny_mono h (fun v s' h' => wpAny_pure h') fun _ _ h' => h')
theorem lenO_K {Q : Value → Shared → Prop} (X : K.In s.heap) (I : InstAt s.heap x ox C od) (hs : findIn K (.ref C) "__len__" = some (some (.ref f))) (hf : isFn K (.ref f) = true)
    (h : wpAny (model prog w) A.in1 (call (.ref f) [.ref x]) (fun v s' => ∃ n t, v = .int n t ∧ 0 ≤ n ∧ n < 2 ^ 62 ∧ ∀ t' tk, Q (.int n t') { s' with toks := tk }) E s) : wpAny (model prog w) A (call (.builtin "len") [.ref x]) Q E s := by
  refine call_function_tree kind_len plain_len entry_len (args_len1 _) ?_
  unfold Builtin.«len»
  refine wpAny_bind (m := oneArg "len" _) (wpAny_pure ?_)
  refine wpAny_bind (m := callSpecial? (.ref x) (Str.ofString "__len__")) (callSpecial_K X I hs hf (wpAny_mono h (fun v s' hv => ?_) fun _ _ e => e))
  obtain ⟨n, t, rfl, h0, h1, q⟩ := hv
  refine wpAny_bind (wpAny_holding (wpAny_pure ?_))
  refine wpAny_bind (wpAny_letGo ?_)
  show wpAny _ _ (if (n : Int) < 0 then _ else _) _ _ _
  rw [if_neg (by omega)]
  show wpAny _ _ (if (n : Int) ≥ 2 ^ 63 then _ else _) _ _ _
  rw [if_neg (by omega)]
  exact wpAny_bind (wpAny_mkInt (wpAny_pure (q _ _)))
end
end PySem.W
namespace ML
open PySem PySem.Spec PyProof.Rows L2 He
def lenR : Res VI → Res VI
  | .ok (.int n) h => match decide (0 ≤ n) && decide (n < 2 ^ 62) with
    | true => .ok (.int n) h
    | false => .err
  | .ex c n h => .ex c n h
  | _ => .err
def eLenU (tbl : Nat → Option MF) (a : ME) : ME := fun σ h => (a σ h).bind fun x h1 => match insC x h1 with
  | some c => match tbl c with
    | some g => lenR (g [x] h1)
    | none => .err
  | none => ofO (cLen [x] h1)
section
variable {G : Gx} {ρ : List Addr} {h : Hi} {H : Hp} {W : WX} {X : Cx} {a : Expr} {pos p : Pos} {ma : ME} {tbl : Nat → Option MF} {σ : L2.St}
theorem lenR_fin {Q : VK} {W : Value → Option Addr → Hp → Prop} (r : Res VI) (fr : FinG G ρ H (RV G) Q W (lenR r)) : FinG G ρ H (RV G) (fun x H' => ∃ n, x = V.int n ∧ 0 ≤ n ∧ n < 2 ^ 62 ∧ Q (V.int n) H') W r := by
  cases r with
  | ok v h' =>
    cases v with
    | int n =>
      change FinG G ρ H (RV G) Q W (match (decide (0 ≤ n) && decide (n < 2 ^ 62)) with | true => Res.ok (VI.int n) h' | false => Res.err) at fr
      cases q : decide (0 ≤ n) && decide (n < 2 ^ 62) with
      | false => rw [q] at fr; exact fr.elim
      | true =>
        rw [q] at fr
        obtain ⟨q1, q2⟩ := Bool.and_eq_true_iff.mp q
        intro ρ' H' x st ag' rx
        cases rx
        exact ⟨n, rfl, of_decide_eq_true q1, of_decide_eq_true q2, fr ρ' H' _ st ag' (.int n)⟩
    | _ => exact fr.elim
  | ex c n h' => exact fr
  | err => exact fr.elim
theorem me_lenU (hc : CallR X (.builtin "len") (rdC G cLen)) (sp : SpOk X X.A.in1 G W tbl "__len__") (hg : Gl X "len") (hm : X.mg "len" = none) (hv : bootBuiltins "len" = some (.builtin "len")) (ha : PE X a (rdE G W ma))
    (he : starEach [a] X.env = (false, eval a X.env) :: starEach [] X.env := by rfl) (hpl : (backTo pos (starEach [] X.env)).any (·.1) = false := by rfl) : PE X (.Call (.Name "len" p) [a] [] pos) (rdE G W (eLenU tbl ma)) := by
  refine ⟨fun pins s σ H Q I ⟨ρ, σi, h, as, ag, fin⟩ => ?_⟩
  refine wpAny_Call_Name_kw (ld_blt I hg hm hv ?_ (by decide) (by decide))
  have B : rdE G W ma σ H fun y H1 => ∃ x, [y] = [x] ∧ (rdC G cLen [x] H1 Q ∨ ∃ ρ1 h1 xi cn g, Ag G ρ1 h1 H1 ∧ RV G ρ1 H1 xi x ∧ insC xi h1 = some cn ∧ tbl cn = some g ∧ FinG G ρ1 H1 (RV G) Q (fun c d H' => W c d σ H') (lenR (g [xi] h1))) :=
    rdG_go as ag fin fun ρ1 H1 h1 x x' st as1 ag1 r f => by
      cases q1 : insC x h1 with
      | none => rw [q1] at f; exact ⟨x', rfl, .inl ⟨ρ1, h1, [x], ag1, .cons r .nil, FinO.of f⟩⟩
      | some cn =>
        rw [q1] at f
        dsimp only at f
        cases q2 : tbl cn with
        | none => rw [q2] at f; exact f.elim
        | some g => rw [q2] at f; exact ⟨x', rfl, .inr ⟨ρ1, h1, x, cn, g, ag1, r, q1, q2, f⟩⟩
  have pa : PA X [a] (tCons (rdE G W ma) tNil) := pa_cons ha pa_nil he
  refine PyProof.Rows.callWith_builtin1 (thn (pa.run pos pins s σ H (fun vs H1 => ∃ x, vs = [x] ∧ (rdC G cLen [x] H1 Q ∨ ∃ ρ1 h1 xi cn g, Ag G ρ1 h1 H1 ∧ RV G ρ1 H1 xi x ∧ insC xi h1 = some cn ∧ tbl cn = some g ∧ FinG G ρ1 H1 (RV G) Q (fun c d H' => W c d σ H') (lenR (g [xi] h1)))) I ?_) fun us s1 ⟨vs, H1, I1, r1, x, ex, q1⟩ => ?_) he hpl
  · exact B
  · subst ex
    rcases q1 with q1 | ⟨ρ1, h1, xi, cn, g, ag1, rx, k1, k2, f⟩
    · exact hc pins s1 σ H1 [x] us Q I1 r1 q1
    · obtain ⟨ad, C, dx, gs, ex, hC, hH⟩ := insC_ok ag1 rx k1
      subst ex
      obtain ⟨u, rfl, ru⟩ := vals1 r1
      obtain rfl : u = Value.ref ad := ru
      obtain ⟨f', _, n2, n3, n4, n5⟩ := sp.at_ cn C g k2 hC
      obtain ⟨m, hF, ox, od, J⟩ := insC_look I1 hH
      refine PySem.W.lenO_K I1.kIn J n2 n4 ?_
      have key := lenR_fin (G := G) (ρ := ρ1) (H := H1) (Q := Q) (W := fun c d H' => W c d σ H') (g [xi] h1) f
      refine wpAny_mono (n5 pins s1 σ H1 [.ref ad] [.ref ad] [xi] ρ1 h1 _ I1 (.cons rfl .nil) (.cons rx .nil) ag1 key) (fun z s3 hz => ?_) fun _ _ z => z
      obtain ⟨x', H', I', rx', n, en, l0, l1, q'⟩ := hz
      subst en
      obtain ⟨t, rfl⟩ := (show ∃ t, z = Value.int n t from rx')
      exact ⟨n, t, rfl, l0, l1, fun t' tk => ⟨.int n, H', I'.tok tk, ⟨t', rfl⟩, q'⟩⟩
end
end ML
end

section
set_option Elab.async false
set_option linter.all false
set_option maxRecDepth 100000
set_option maxHeartbeats 4000000
/-! Locality: len of own instances. -/
namespace ML
open PySem L2
theorem L2R.lenR {r : List Nat} {h : Hi} {a b : Res VI} (k : L2R RV2 r h a b) : L2R RV2 r h (lenR a) (lenR b) := by
  cases a with
  | err => trivial
  | ex c n s' =>
    obtain ⟨r', h', m, rfl, e, g, q⟩ := k
    exact ⟨r', h', m, rfl, e, g, q⟩
  | ok v s' =>
    obtain ⟨r', h', v', rfl, e, g, q⟩ := k
    cases q with
    | int n =>
      have e1 : ∀ hh, ML.lenR (.ok (.int n) hh) = (match decide (0 ≤ n) && decide (n < 2 ^ 62) with | true => Res.ok (.int n) hh | false => Res.err) := fun _ => rfl
      rw [e1, e1]
      cases decide (0 ≤ n) && decide (n < 2 ^ 62) with
      | true => exact ⟨r', h', _, rfl, e, g, .int n⟩
      | false => trivial
    | _ => trivial
instance {ma : ME} {tbl : Nat → Option MF} [c : LTb tbl] [x : LE ma] [o : LOc cLen] : LE (eLenU tbl ma) := ⟨fun r s h σ σ' g a => (x.run r s h σ σ' g a).bind fun r1 s1 h1 v v' e1 g1 q1 => by
  rw [ins2 g1 q1]
  cases z : insC v s1 with
  | none => exact .ofO (o.run _ _ _ _ _ g1 (.cons q1 .nil))
  | some d =>
    dsimp only
    cases w0 : tbl d with
    | none => trivial
    | some u => exact ((c.run _ _ w0).run _ _ _ _ _ g1 (.cons q1 .nil)).lenR⟩
end ML
end

section
set_option Elab.async false
set_option linter.all false
set_option maxRecDepth 100000
set_option maxHeartbeats 4000000
/-! min(a, b, key=int) of two ints. -/
namespace ML
open PySem PyProof.Rows
theorem args_min2_key (a b v : Value) : argsOk "min" ⟨[a, b], [(Str.ofString "key", v)]⟩ := by unfold argsOk; kernel_rfl
section
variable {prog : Program} {w : World} {A : Around} {E : Value → Shared → Prop} {s : Shared}
theorem min_end {T I S : Addr} {items : Array Value} {vb x : Value} {c : Nat} {R : Result → Shared → Prop} {s : Shared} (hh : A.handled = none) (hTI : T ≠ I) (hSI : S ≠ I)
    (st : s.heap.IsTupleIter I T items.size ∧ s.heap.IsTuple T items) (hS : s.heap.get? S = some (seqObj "list" #[vb, x] c)) (f : Value)
    (hR : ∀ h' tk, (∀ b o, b ≠ I → b ≠ S → s.heap.get? b = some o → h'.get? b = some o) → R (.ok (.ret vb)) { s with heap := h', toks := tk }) :
    codeAny (model prog w) A (.builtin "min.loop" ⟨[.ref I, f, .ref S], []⟩) R s := by
  have W := Walks.tuple (prog := prog) (w := w) (A := A.in1) hh I T hTI items
  refine codeAny_builtin PySem.F.entry_min_loop ?_
  rw [Around.under_plainId PySem.F.plain_min_loop _]
  show wpAny _ A.in1 (seqItems? (.ref S) >>= _) _ _ _
  refine wpAny_bind (wpAny_seqItems hS rfl ?_)
  show wpAny _ A.in1 (tryCatch (pyNext (.ref I)) _ >>= _) _ _ _
  refine wpAny_bind (wpAny_tryCatch (W.done _ _ _ st fun h' tk' hk' => ?_))
  have hS' := hk' S _ (by simpa using hSI) hS
  have s1 := Heap.SameBut.update h' S (Obj.mapSeq fun _ => (#[] : Array Value))
  show wpAny _ A.in1 (updateSeq S (fun _ => #[]) >>= _) _ _ _
  refine wpAny_bind ?_
  refine wpAny_updateSeq hS' rfl (wpAny_bind (wpAny_letGo (wpAny_pure ?_)))
  exact hR _ _ fun b o n1 n2 e => (s1.2 b n2).trans (hk' b o (by simpa using n1) e)
theorem min_run {T I S : Addr} {i j : Int} {t u : Tok} {c0 : Nat} {R : Result → Shared → Prop} {s : Shared} (hh : A.handled = none) (hTI : T ≠ I) (hSI : S ≠ I) (hST : S ≠ T)
    (st : s.heap.IsTupleIter I T 0 ∧ s.heap.IsTuple T #[.int i t, .int j u]) (hS : s.heap.get? S = some (seqObj "list" #[] c0))
    (hR : ∀ h' tk, (∀ b o, b ≠ I → b ≠ S → s.heap.get? b = some o → h'.get? b = some o) → R (.ok (.ret (if j < i then .int j u else .int i t))) { s with heap := h', toks := tk }) :
    codeAny (model prog w) A (.builtin "min.loop" ⟨[.ref I, .type "int", .ref S], []⟩) R s := by
  have hname : (toString "min" ++ toString ".loop" : String) = "min.loop" := by decide
  have W := Walks.tuple (prog := prog) (w := w) (A := A.in1) hh I T hTI #[.int i t, .int j u]
  refine codeAny_builtin PySem.F.entry_min_loop ?_
  rw [Around.under_plainId PySem.F.plain_min_loop _]
  show wpAny _ A.in1 (seqItems? (.ref S) >>= _) _ _ _
  refine wpAny_bind (wpAny_seqItems hS rfl ?_)
  show wpAny _ A.in1 (tryCatch (pyNext (.ref I)) _ >>= _) _ _ _
  refine wpAny_bind (wpAny_tryCatch (W.item 0 _ _ _ (Nat.zero_lt_succ _) st fun v h1 tk1 hP st1 hk1 => ?_))
  obtain rfl : Value.int i t = v := by simpa using hP
  have hS1 := hk1 S _ (by simpa using hSI) hS
  show wpAny _ A.in1 (tryCatch (holding [.int i t] (call (.type "int") [.int i t])) _ >>= _) _ _ _
  refine wpAny_bind (wpAny_tryCatch (wpAny_holding (call_int_int ?_)))
  have s1 := Heap.SameBut.update h1 S (Obj.mapSeq fun _ => #[Value.int i t, .int i t])
  obtain ⟨c1, hc1⟩ : ∃ c1, (h1.update S (Obj.mapSeq fun _ => #[Value.int i t, .int i t])).get? S = some (seqObj "list" #[.int i t, .int i t] c1) := ⟨_, get?_update_seq hS1 fun _ => #[Value.int i t, .int i t]⟩
  have st1' := W.frame 1 _ (h1.update S (Obj.mapSeq fun _ => #[Value.int i t, .int i t])) st1 fun b hb o e => by
    have n : b ≠ S := fun z => by
      subst z
      rcases List.mem_cons.mp hb with z | z
      · exact hSI z
      · exact hST (List.mem_singleton.mp z)
    exact (s1.2 b n).trans e
  show wpAny _ A.in1 (updateSeq S (fun _ => #[.int i t, .int i t]) >>= _) _ _ _
  refine wpAny_bind ?_
  refine wpAny_updateSeq hS1 rfl ?_
  rw [hname]
  refine wpAny_pure ⟨plainId_quiet PySem.F.plain_min_loop _, ?_⟩
  have k1 : ∀ b o, b ≠ I → b ≠ S → s.heap.get? b = some o → (h1.update S (Obj.mapSeq fun _ => #[Value.int i t, .int i t])).get? b = some o := fun b o n1 n2 e => (s1.2 b n2).trans (hk1 b o (by simpa using n1) e)
  generalize h1.update S (Obj.mapSeq fun _ => #[Value.int i t, .int i t]) = h1' at hc1 st1' k1
  refine codeAny_builtin PySem.F.entry_min_loop ?_
  rw [Around.under_plainId PySem.F.plain_min_loop _]
  show wpAny _ A.in1 (seqItems? (.ref S) >>= _) _ _ _
  refine wpAny_bind (wpAny_seqItems hc1 rfl ?_)
  show wpAny _ A.in1 (tryCatch (pyNext (.ref I)) _ >>= _) _ _ _
  refine wpAny_bind (wpAny_tryCatch (W.item 1 _ _ _ (Nat.lt_succ_self _) st1' fun v h2 tk2 hP2 st2 hk2 => ?_))
  obtain rfl : Value.int j u = v := by simpa using hP2
  have hS2 := hk2 S _ (by simpa using hSI) hc1
  show wpAny _ A.in1 (tryCatch (holding [.int j u] (call (.type "int") [.int j u])) _ >>= _) _ _ _
  refine wpAny_bind (wpAny_tryCatch (wpAny_holding (call_int_int ?_)))
  show wpAny _ A.in1 (tryCatch (holding [.int j u, .int j u] (richCompare .Lt (.int j u) (.int i t) >>= _)) _ >>= _) _ _ _
  refine wpAny_bind (wpAny_tryCatch (wpAny_holding (wpAny_bind (CmpOf.ints_lt (prog := prog) (w := w) (A := A.in1) (P := fun k v => ∃ t, v = .int ((fun k => match k with | 0 => i | _ => j) k) t) (fun k => match k with | 0 => i | _ => j) (fun k v h => h) 1 0 _ _ _ _ _ ⟨u, rfl⟩ ⟨t, rfl⟩ ?_))))
  refine wpAny_bind (wpAny_holding (wpAny_truthy_bool ?_))
  refine wpAny_bind (wpAny_letGo (wpAny_pure ?_))
  dsimp only
  by_cases hb : j < i
  · rw [if_pos hb] at hR
    have s2 := Heap.SameBut.update h2 S (Obj.mapSeq fun _ => #[Value.int j u, .int j u])
    obtain ⟨c2, hc2⟩ : ∃ c2, (h2.update S (Obj.mapSeq fun _ => #[Value.int j u, .int j u])).get? S = some (seqObj "list" #[.int j u, .int j u] c2) := ⟨_, get?_update_seq hS2 fun _ => #[Value.int j u, .int j u]⟩
    have st2' := W.frame 2 _ (h2.update S (Obj.mapSeq fun _ => #[Value.int j u, .int j u])) st2 fun b hb o e => by
      have n : b ≠ S := fun z => by
        subst z
        rcases List.mem_cons.mp hb with z | z
        · exact hSI z
        · exact hST (List.mem_singleton.mp z)
      exact (s2.2 b n).trans e
    simp only [hb, decide_true, if_true]
    refine wpAny_bind ?_
    refine wpAny_updateSeq hS2 rfl (wpAny_bind (wpAny_letGo ?_))
    rw [hname]
    refine wpAny_pure ⟨plainId_quiet PySem.F.plain_min_loop _, min_end (items := #[.int i t, .int j u]) hh hTI hSI st2' hc2 _ fun h' tk k => hR _ _ fun b o n1 n2 e => k b o n1 n2 ((s2.2 b n2).trans (hk2 b o (by simpa using n1) (k1 b o n1 n2 e)))⟩
  · rw [if_neg hb] at hR
    simp only [hb, decide_false, Bool.false_eq_true, if_false]
    refine wpAny_bind (wpAny_letGo ?_)
    rw [hname]
    refine wpAny_pure ⟨plainId_quiet PySem.F.plain_min_loop _, min_end (items := #[.int i t, .int j u]) hh hTI hSI st2 hS2 _ fun h' tk k => hR _ _ fun b o n1 n2 e => k b o n1 n2 (hk2 b o (by simpa using n1) (k1 b o n1 n2 e))⟩
theorem min_key2 {i j : Int} {t u : Tok} {Q : Value → Shared → Prop} (hh : A.handled = none)
    (h : ∀ h' tk, (∀ c o, s.heap.get? c = some o → h'.get? c = some o) → Q (if j < i then .int j u else .int i t) { s with heap := h', toks := tk }) :
    wpAny (model prog w) A (call (.builtin "min") [.int i t, .int j u] [(Str.ofString "key", .type "int")]) Q E s := by
  have hname : (toString "min" ++ toString ".loop" : String) = "min.loop" := by decide
  have hT : (s.heap.push { cls := .type "tuple", data := .seq #[.int i t, .int j u] }).IsTuple s.heap.objs.size #[.int i t, .int j u] := ⟨_, Heap.get?_push_size _ rfl, rfl, 0, rfl⟩
  have hsz : (s.heap.push { cls := .type "tuple", data := .seq #[.int i t, .int j u] }).objs.size = s.heap.objs.size + 1 := Heap.size_push ..
  refine kmb_tree PySem.F.kind_min PySem.F.plain_min PySem.F.entry_min (args_min2_key _ _ _) ?_
  show wpAny _ A.in1 (Builtin.Builtins.bindParams "min" ["key", "default"] 0 ⟨[], [(Str.ofString "key", .type "int")]⟩ >>= _) _ _ s
  refine wpAny_bind (wpAny_of_eq (show Builtin.Builtins.bindParams "min" ["key", "default"] 0 ⟨[], [(Str.ofString "key", .type "int")]⟩ = pure [some (.type "int"), none] from rfl) ?_)
  show wpAny _ A.in1 (newTuple [.int i t, .int j u] >>= _) _ _ s
  refine wpAny_bind (wpAny_newObj_type ?_)
  refine wpAny_bind (wpAny_pyIter_tuple hT ?_)
  refine wpAny_bind (wpAny_newObj_type ?_)
  rw [hname]
  refine wpAny_pure ⟨plainId_quiet PySem.F.plain_min_loop _, ?_⟩
  have hn : s.heap.objs.size < s.heap.objs.size + 1 := Nat.lt_succ_self _
  have hsz2 : ((s.heap.push { cls := .type "tuple", data := .seq #[.int i t, .int j u] }).push { cls := .type "tuple_iterator", data := .fields #[.ref s.heap.objs.size, .int 0 0] }).objs.size = s.heap.objs.size + 2 := by rw [Heap.size_push, hsz]
  refine min_run (T := s.heap.objs.size) (c0 := 0) hh (Nat.ne_of_lt (by dsimp only; rw [hsz]; exact Nat.lt_succ_self _)) (Nat.ne_of_gt (by dsimp only; rw [hsz2, hsz]; exact Nat.lt_succ_self _)) (Nat.ne_of_gt (by dsimp only; rw [hsz2]; exact Nat.lt_succ_of_lt (Nat.lt_succ_self _))) ⟨⟨_, Heap.get?_push_of_some _ (Heap.get?_push_size _ rfl), rfl, rfl⟩, (hT.push _).push _⟩ (Heap.get?_push_size _ rfl) fun h' tk k => h _ _ fun c o e => ?_
  have lc := Heap.lt_size e
  refine k c o ?_ ?_ (Heap.get?_push_of_some _ (Heap.get?_push_of_some _ (Heap.get?_push_of_some _ e)))
  · exact Nat.ne_of_lt (by dsimp only; rw [hsz]; exact Nat.lt_succ_of_lt lc)
  · exact Nat.ne_of_lt (by dsimp only; rw [hsz2]; exact Nat.lt_succ_of_lt (Nat.lt_succ_of_lt lc))
end
/-- min(a, b, key=int) -/
def rMinKey : List L2.V → List L2.V → L2.Hp → L2.VK → Prop := fun xs zs H Q => ∃ i j, xs = [.int i, .int j] ∧ zs = [.ty "int"] ∧ Q (.int (if j < i then j else i)) H
theorem cr_minKey {X : L2.Cx} (hc : X.calm = true) : L2.CallRK X (.builtin "min") [Str.ofString "key"] rMinKey := by
  intro pins s σ H vs zs us ws Q I r rz h
  obtain ⟨i, j, rfl, rfl, q⟩ := h
  obtain ⟨u, w', rfl, ⟨t, rfl⟩, ⟨t', rfl⟩⟩ := L2.vals2 r
  obtain ⟨w1, rfl, e1⟩ := L2.vals1 rz
  obtain rfl : w1 = Value.type "int" := e1
  refine min_key2 (I.ok.hd hc) fun h' tk k => ⟨_, H, I.kept k, ?_, q⟩
  by_cases hj : j < i
  · rw [if_pos hj, if_pos hj]; exact ⟨_, rfl⟩
  · rw [if_neg hj, if_neg hj]; exact ⟨_, rfl⟩
section
open PySem.Spec L2 He
variable {G : Gx} {W : WX} {X : Cx} {e : Expr} {es : List Expr} {mr : MA} {p p2 kp pos : Pos}
theorem me_minKey (hc : X.calm = true) (hg : Gl X "min") (hm : X.mg "min" = none) (hv : bootBuiltins "min" = some (.builtin "min")) (hk : PE X (.Name "int" p2) (tC (.ty "int"))) (ha : PA X (e :: es) (rdA G W mr))
    (he : backTo pos (starEach (e :: es) X.env) = (false, eval e X.env) :: backTo pos (starEach es X.env) := by rfl) (hpl : (backTo pos (starEach (e :: es) X.env)).any (·.1) = false := by rfl) :
    PE X (.Call (.Name "min" p) (e :: es) [⟨some "key", .Name "int" p2, kp⟩] pos) (rdE G W (eCB cMin mr)) :=
  PE.imp' (pe_callBK (cr_minKey hc) hg hm hv ha (pk_cons hk pk_nil) (by decide) (by decide) he hpl) fun σ H Q ⟨ρ, σi, h, as, ag, fi⟩ => rdG_go as ag fi fun ρ1 H1 h1 xs ys st as1 ag1 ra f => by
    show rMinKey ys [.ty "int"] H1 Q
    unfold cMin at f
    cases ra with
    | nil => exact f.elim
    | cons r t =>
      cases r with
      | int i =>
        cases t with
        | nil => exact f.elim
        | cons r2 t2 =>
          cases r2 with
          | int j =>
            cases t2 with
            | nil => exact ⟨i, j, rfl, rfl, f.ok ag1 (.int _)⟩
            | cons _ _ => exact f.elim
          | _ => exact f.elim
      | _ => exact f.elim
end
end ML
end

section
set_option Elab.async false
set_option linter.all false
set_option maxRecDepth 100000
set_option maxHeartbeats 4000000
/-! sorted(xs, key=int) of whole numbers. -/
namespace ML
open PySem PyProof.Rows
section
variable {prog : Program} {w : World} {A : Around} {E : Value → Shared → Prop} {s : Shared}
theorem zip_ints {vs out : List Value} {ns : List Int} (hi : IntsAre vs ns) (ko : KskOut false ns vs out) : ∃ ns', IntsAre out ns' ∧ ns'.Perm ns ∧ ns'.Pairwise (· ≤ ·) := by
  have hlen := hi.length
  obtain ⟨ps, hp, ho, hs⟩ := ko
  have hrel : ∀ p, p ∈ ns.zip vs → p.1 = numOf p.2 ∧ p.2 ∈ vs := by
    rw [← hi.nums, List.zip_map_left]
    intro p hp
    obtain ⟨⟨u, v⟩, hq, rfl⟩ := List.mem_map.mp hp
    have h1 : u = v ∧ u ∈ vs := mem_zip_self hq
    refine ⟨?_, ?_⟩
    · show numOf u = numOf v
      rw [h1.1]
    · show v ∈ vs
      rw [← h1.1]
      exact h1.2
  have hI : IntsAre (ps.map Prod.snd) ((ps.map Prod.snd).map numOf) := intsAre_map _ fun v hv => by
    obtain ⟨p, hp', rfl⟩ := List.mem_map.mp hv
    exact hi.all _ (hrel p (hp.mem_iff.mp hp')).2
  have hP : ((ps.map Prod.snd).map numOf).Perm ns := by
    have h1 := (hp.map Prod.snd).map numOf
    rw [List.map_snd_zip (by omega), hi.nums] at h1
    exact h1
  have hO : ((ps.map Prod.snd).map numOf).Pairwise (· ≤ ·) := by
    rw [List.pairwise_map, List.pairwise_map]
    refine hs.imp_of_mem fun {p q} hp' hq' hr => ?_
    have hr' : p.1 ≤ q.1 := hr
    rw [(hrel p (hp.mem_iff.mp hp')).1, (hrel q (hp.mem_iff.mp hq')).1] at hr'
    exact hr'
  rw [← ho] at hI hP hO
  exact ⟨_, hI, hP, hO⟩
theorem lsort_tail {a kS : Addr} {vs : List Value} {ns : List Int} {e e1 : Nat} {st : SortSt} {R : PySem.Fin → Shared → Prop} (hI : IntsAre vs ns) (hka : kS ≠ a) (hk : s.heap.get? kS = some (seqObj "list" vs.toArray e)) (ha : s.heap.get? a = some (seqObj "list" #[] e1)) (hz : vs.length ≤ sizeLine)
    (hp : (arrOf st).Perm (vs.toArray.zip vs.toArray)) (hs : SortedTo (arrOf st) (arrOf st).size) (hfl : failedOf st = none)
    (h : ∀ (out : List Value) (ns' : List Int) (h' : Heap) (tk c : Nat), IntsAre out ns' → ns'.Perm ns → ns'.Pairwise (· ≤ ·) → (∀ b o, b ≠ a → b ≠ kS → s.heap.get? b = some o → h'.get? b = some o) → h'.get? a = some (seqObj "list" out.toArray c) → R (.done (.ret .none)) { s with heap := h', toks := tk }) :
    wpAny (model prog w) A (ksk_tail a false e1 (.ref kS) st) R E s := by
  have hsz2 : (arrOf st).size = vs.length := by rw [hp.size_eq, Array.size_zip, List.size_toArray, Nat.min_self]
  have hout : ((arrOf st).map (·.2)).size = vs.length := by rw [Array.size_map]; exact hsz2
  have s1 := Heap.SameBut.update s.heap kS (Obj.mapSeq fun _ => (#[] : Array Value))
  have na1 : (s.heap.update kS (Obj.mapSeq fun _ => (#[] : Array Value))).get? a = some (seqObj "list" #[] e1) := (s1.2 a hka.symm).trans ha
  have s2 := Heap.SameBut.update (s.heap.update kS (Obj.mapSeq fun _ => (#[] : Array Value))) a (Obj.mapSeq fun _ => (arrOf st).map (·.2))
  obtain ⟨c2, hc2⟩ : ∃ c2, ((s.heap.update kS (Obj.mapSeq fun _ => (#[] : Array Value))).update a (Obj.mapSeq fun _ => (arrOf st).map (·.2))).get? a = some (seqObj "list" ((arrOf st).map (·.2)) c2) :=
    ⟨_, get?_update_seq na1 fun _ => (arrOf st).map (·.2)⟩
  have hIk : IntsAre vs.toArray.toList ns := by simpa using hI
  obtain ⟨ns', k1, k2, k3⟩ := zip_ints hI (ksk_out (b := false) hIk (vs := vs) (by simpa using hp) hs)
  rw [if_neg Bool.false_ne_true] at k1
  unfold ksk_tail
  try dsimp only
  refine wpAny_bind (listUpdate_at hk rfl ?_ (by rw [List.size_toArray]; exact hz) (Nat.zero_le _))
  refine wpAny_bind (wpAny_letGo ?_)
  refine wpAny_bind (seqEpoch_at na1 rfl ?_)
  refine wpAny_bind (listUpdate_at na1 rfl ?_ (Nat.zero_le _) (by
    simp only [Bool.false_eq_true, if_false]
    exact Nat.le_trans (Nat.le_of_eq hout) (Nat.le_succ_of_le hz)))
  rw [hfl]
  simp only [bne_self_eq_false, Bool.false_eq_true, if_false]
  refine wpAny_pure (h ((arrOf st).map (·.2)).toList ns' _ _ c2 k1 k2 k3 (fun b o n1 n2 q => (s2.2 b n1).trans ((s1.2 b n2).trans q)) (by rw [Array.toArray_toList]; exact hc2))
theorem lsort_end {a kS : Addr} {vs : List Value} {ns : List Int} {e e1 : Nat} {R : PySem.Fin → Shared → Prop} (hI : IntsAre vs ns) (hka : kS ≠ a) (hk : s.heap.get? kS = some (seqObj "list" vs.toArray e)) (ha : s.heap.get? a = some (seqObj "list" #[] e1)) (hz : vs.length ≤ sizeLine)
    (h : ∀ (out : List Value) (ns' : List Int) (h' : Heap) (tk c : Nat), IntsAre out ns' → ns'.Perm ns → ns'.Pairwise (· ≤ ·) → (∀ b o, b ≠ a → b ≠ kS → s.heap.get? b = some o → h'.get? b = some o) → h'.get? a = some (seqObj "list" out.toArray c) → R (.done (.ret .none)) { s with heap := h', toks := tk }) :
    wpAny (model prog w) A (ksk_end a false vs.toArray e1 (.ref kS) vs.toArray) R E s := by
  have hIk : IntsAre vs.toArray.toList ns := by simpa using hI
  have hzs : (vs.toArray.zip vs.toArray).size = vs.length := by rw [Array.size_zip, List.size_toArray, Nat.min_self]
  unfold ksk_end
  try dsimp only
  simp only [Bool.false_eq_true, if_false]
  by_cases h2 : vs.toArray.size < 2
  · rw [if_pos h2, if_pos h2]
    refine wpAny_bind (wpAny_pure ?_)
    rw [StateT.run_pure]
    refine wpAny_bind (wpAny_pure ?_)
    try dsimp only
    refine lsort_tail (st := SortSt.mk' general' (vs.toArray.zip vs.toArray) #[] 7 none) hI hka hk ha hz (Array.Perm.refl _) ?_ rfl h
    intro i j hij hj
    have hj2 : j < (vs.toArray.zip vs.toArray).size := hj
    rw [hzs] at hj2
    rw [List.size_toArray] at h2
    have : i = j := by omega
    subst this
    exact Int.le_refl _
  · rw [if_neg h2, if_neg h2]
    rw [List.size_toArray] at h2
    rw [ksk_kind hIk (by rw [List.size_toArray]; omega)]
    refine wpAny_bind (wpAny_pure ?_)
    refine wpAny_bind (wpAny_mono (wpS_sortRunsAny (κ := intKind) (a₀ := vs.toArray.zip vs.toArray) (st := SortSt.mk' oneType' (vs.toArray.zip vs.toArray) #[] 7 none)
      (Q := fun _ st' => (arrOf st').Perm (vs.toArray.zip vs.toArray) ∧ failedOf st' = none ∧ SortedTo (arrOf st') (vs.toArray.zip vs.toArray).size)
      intKind_oneLt (ksk_keysOfInt (ksk_intKeys hIk)) ⟨Array.Perm.refl _, rfl, rfl⟩ rfl (by rw [hzs]; omega) fun st' a1 a2 a3 => ⟨a1, a2, sortedTo_of_int a3⟩) ?_ fun _ _ e => e)
    rintro ⟨⟨⟩, st'⟩ s' ⟨rfl, hp, hf, hs⟩
    try dsimp only
    exact lsort_tail hI hka hk ha hz hp (by rw [hp.size_eq]; exact hs) hf h
theorem lsort_keyInt {a : Addr} {vs : List Value} {ns : List Int} {n : Nat} {R : PySem.Fin → Shared → Prop} (hI : IntsAre vs ns) (ho : s.heap.get? a = some (seqObj "list" vs.toArray n)) (hz : vs.length ≤ sizeLine)
    (h : ∀ (out : List Value) (ns' : List Int) (h' : Heap) (tk c : Nat), IntsAre out ns' → ns'.Perm ns → ns'.Pairwise (· ≤ ·) → (∀ b o, b ≠ a → s.heap.get? b = some o → h'.get? b = some o) → h'.get? a = some (seqObj "list" out.toArray c) → R (.done (.ret .none)) { s with heap := h', toks := tk }) :
    wpAny (model prog w) A (ksk_tree a (.type "int") false) R E s := by
  have hal : a < s.heap.objs.size := Heap.lt_size ho
  unfold ksk_tree
  refine wpAny_bind (listItems_at ho rfl ?_)
  refine wpAny_bind (listUpdate_at ho rfl ?_ (by rw [List.size_toArray]; exact hz) (Nat.zero_le _))
  obtain ⟨e1, ho1⟩ : ∃ e1, (s.heap.update a (Obj.mapSeq fun _ => #[])).get? a = some (seqObj "list" #[] e1) := ⟨_, get?_update_seq ho (fun _ => #[])⟩
  refine wpAny_bind (seqEpoch_at ho1 rfl ?_)
  refine wpAny_bind (wpAny_newTuple ?_ (by show vs.length ≤ _; exact hz))
  refine wpAny_bind (wpAny_newList ?_ (Nat.zero_le _))
  refine wpAny_holding ?_
  have hsz : ((s.heap.update a (Obj.mapSeq fun _ => #[])).push (seqObj "tuple" vs.toArray 0)).objs.size = s.heap.objs.size + 1 := by rw [size_push', Heap.size_update]
  have ha6 : (((s.heap.update a (Obj.mapSeq fun _ => #[])).push (seqObj "tuple" vs.toArray 0)).push (seqObj "list" #[] 0)).get? a = some (seqObj "list" #[] e1) :=
    Heap.get?_push_of_some _ (Heap.get?_push_of_some _ ho1)
  have hk6 : (((s.heap.update a (Obj.mapSeq fun _ => #[])).push (seqObj "tuple" vs.toArray 0)).push (seqObj "list" #[] 0)).get? (s.heap.objs.size + 1) = some (seqObj "list" #[] 0) := by
    rw [← hsz]; exact Heap.get?_push_size _ rfl
  have hka : s.heap.objs.size + 1 ≠ a := fun z => absurd hal (by rw [← z]; exact Nat.not_lt.mpr (Nat.le_succ _))
  have keep : ∀ b o, b ≠ a → s.heap.get? b = some o → (((s.heap.update a (Obj.mapSeq fun _ => #[])).push (seqObj "tuple" vs.toArray 0)).push (seqObj "list" #[] 0)).get? b = some o := fun b o hb e =>
    Heap.get?_push_of_some _ (Heap.get?_push_of_some _ ((Heap.get?_update_ne _ _ _ _ hb).trans e))
  show wpAny (model prog w) A (ksk_rest a (.type "int") false vs.toArray e1 (.ref ((s.heap.update a (Obj.mapSeq fun _ => #[])).push (seqObj "tuple" vs.toArray 0)).objs.size)) R E { s with heap := ((s.heap.update a (Obj.mapSeq fun _ => #[])).push (seqObj "tuple" vs.toArray 0)).push (seqObj "list" #[] 0) }
  rw [hsz]
  generalize ((s.heap.update a (Obj.mapSeq fun _ => #[])).push (seqObj "tuple" vs.toArray 0)).push (seqObj "list" #[] 0) = h6 at ha6 hk6 keep ⊢
  have kl : ∀ b o, s.heap.get? b = some o → b ≠ s.heap.objs.size + 1 := fun b o q => Nat.ne_of_lt (Nat.lt_succ_of_lt (Heap.lt_size q))
  generalize s.heap.objs.size + 1 = kS at hka hk6 kl ⊢
  unfold ksk_rest
  refine wpAny_bind (wpAny_rule ?_)
  first
    | rw [List.forIn_toArray]
    | (rw [← Array.forIn_toList]; simp only [List.toList_toArray])
    | rw [← Array.forIn_toList]
  refine wpAny_bind (ksk_fold (fun i s' => ∃ h' tk kA e, s' = { s with heap := h', toks := tk } ∧ h'.get? kS = some (seqObj "list" kA e) ∧ h'.get? a = some (seqObj "list" #[] e1) ∧ (∀ b o, b ≠ a → s.heap.get? b = some o → h'.get? b = some o) ∧ kA.toList = vs.take i) vs 0 { s with heap := h6 }
    ⟨h6, s.toks, #[], 0, rfl, hk6, ha6, keep, by simp⟩ ?step ?done)
  case step =>
    rintro j x s' hx ⟨h', tk, kA, e, rfl, nk, na, kp, hk⟩
    simp only [Nat.zero_add] at hk ⊢
    have hj : j < vs.length := (List.getElem?_eq_some_iff.mp hx).1
    have hzA : kA.size ≤ vs.length := by
      have h1 := congrArg List.length hk
      rw [Array.length_toList, List.length_take] at h1
      omega
    obtain ⟨i, hi'⟩ : ∃ i, ns[j]? = some i := ⟨_, List.getElem?_eq_getElem (by have := hI.length; omega)⟩
    obtain ⟨t, ht⟩ := hI.get j i hi'
    rw [hx] at ht
    cases ht
    refine wpAny_bind (wpAny_attempt (call_int_int ?_))
    try dsimp only
    have s1 := Heap.SameBut.update h' kS (Obj.mapSeq (·.push (.int i t)))
    obtain ⟨c2, hc2⟩ : ∃ c2, (h'.update kS (Obj.mapSeq (·.push (.int i t)))).get? kS = some (seqObj "list" (kA.push (.int i t)) c2) := ⟨_, get?_update_seq nk (·.push (.int i t))⟩
    have ek : vs.take (j + 1) = vs.take j ++ [Value.int i t] := by rw [List.take_add_one, hx]; simp
    refine wpAny_bind (listUpdate_at nk rfl ?_ (Nat.le_trans hzA hz) (Nat.le_trans (Nat.le_of_eq (Array.size_push ..)) (by omega)))
    exact wpAny_pure ⟨rfl, _, _, kA.push (.int i t), c2, rfl, hc2, (s1.2 a hka.symm).trans na, fun b o n q => (s1.2 b (kl b o q)).trans (kp b o n q), by rw [Array.toList_push, hk, ek]⟩
  case done =>
    rintro s' ⟨h', tk, kA, e, rfl, nk, na, kp, hk⟩
    have e3 : kA = vs.toArray := by
      have e4 : vs.take (0 + vs.length) = vs := List.take_of_length_le (by omega)
      rw [e4] at hk
      rw [← hk, Array.toArray_toList]
    subst e3
    try dsimp only
    refine wpAny_bind (listItems_at nk rfl ?_)
    exact lsort_end (s := { s with heap := h', toks := tk }) hI hka nk na hz fun out ns' h2 tk2 c q1 q2 q3 q4 q5 => h out ns' h2 tk2 c q1 q2 q3 (fun b o n q => q4 b o n (kl b o q) (kp b o n q)) q5
end
end ML
namespace ML
open PySem PyProof.Rows
section
variable {prog : Program} {w : World} {A : Around} {E : Value → Shared → Prop} {s : Shared}
theorem collect_two {l : Addr} {vs : List Value} {T : String} {o : Obj} {n : Nat} {Q : List Value → Shared → Prop} (hT : T = "list" ∨ T = "tuple") (ho : s.heap.get? l = some o) (hc : o.cls = .type T) (hd : o.data = .seq vs.toArray n)
    (h : Q vs { s with heap := (s.heap.push (seqObj "list" #[] 0)).update s.heap.objs.size (Obj.mapSeq (· ++ vs.toArray)) }) (hsz : vs.length ≤ sizeLine) :
    wpAny (model prog w) A (collect (.ref l)) Q E s := by
  unfold collect
  refine wpAny_bind (wpAny_runValue (codeAny_builtin entry_proto_collect' ?_))
  show wpAny _ _ (do again (.builtin "list.__iadd__" ⟨[← newList [], .ref l], []⟩)) _ _ s
  refine wpAny_bind (wpAny_newList (wpAny_pure ⟨Code.quiet_builtin _ (by decide +kernel), codeAny_builtin entry_list_iadd' ?_⟩))
  show wpAny _ _ (Builtin.List.listExtendWith (.ref s.heap.objs.size) (.ref l) (.ref s.heap.objs.size)) _ _ { s with heap := s.heap.push (seqObj "list" #[] 0) }
  unfold Builtin.List.listExtendWith
  have ho' : (s.heap.push (seqObj "list" #[] 0)).get? l = some o := Heap.get?_push_of_some _ ho
  refine wpAny_bind (wpAny_typeOf (T := T) ⟨o, ho', hc⟩ ?_)
  rw [if_pos (by
    have h1 : (Value.type "list" == Value.type "list") = true := by rfl
    have h2 : (Value.type "tuple" == Value.type "tuple") = true := by rfl
    rcases hT with rfl | rfl
    · rw [h1]; simp
    · rw [h2]; simp)]
  refine wpAny_bind (listItems_at ho' hd ?_)
  refine wpAny_bind (listItems_at (xs := #[]) (n := 0) (Heap.get?_push_size _ rfl) rfl ?_)
  rw [if_neg (by simp)]
  refine wpAny_bind (listUpdate_at (xs := #[]) (n := 0) (Heap.get?_push_size _ rfl) rfl ?_ (Nat.zero_le _) (by show (#[] ++ vs.toArray).size ≤ sizeLine + 1; simp only [Array.size_append, List.size_toArray, List.length_nil]; omega))
  refine wpAny_pure ?_
  show wpAny (model prog w) A (do
      let o ← load s.heap.objs.size
      match o.data with
      | .seq xs _ => pure xs.toList
      | _ => unsupported "internal:collect") Q E { s with heap := (s.heap.push (seqObj "list" #[] 0)).update s.heap.objs.size (Obj.mapSeq (· ++ vs.toArray)) }
  refine wpAny_bind (wpAny_load (get?_update_seq (Heap.get?_push_size _ rfl) _) ?_)
  show wpAny _ _ (pure ((#[] : Array Value) ++ vs.toArray).toList) Q E _
  rw [show ((#[] : Array Value) ++ vs.toArray).toList = vs by simp]
  exact wpAny_pure h
theorem sorted_keyInt {l : Addr} {vs : List Value} {ns : List Int} {T : String} {o : Obj} {n : Nat} {Q : Value → Shared → Prop} (hT : T = "list" ∨ T = "tuple") (ho : s.heap.get? l = some o) (hc : o.cls = .type T) (hd : o.data = .seq vs.toArray n) (hI : IntsAre vs ns) (hz : vs.length ≤ sizeLine)
    (h : ∀ (out : List Value) (ns' : List Int) (h' : Heap) (tk c : Nat) (p : Addr), IntsAre out ns' → ns'.Perm ns → ns'.Pairwise (· ≤ ·) → (∀ b o, s.heap.get? b = some o → h'.get? b = some o) → s.heap.objs.size ≤ p → h'.get? p = some (seqObj "list" out.toArray c) → Q (.ref p) { s with heap := h', toks := tk }) :
    wpAny (model prog w) A (call (.builtin "sorted") [.ref l] [(Str.ofString "key", .type "int")]) Q E s := by
  refine call_function_entry_kw kind_sorted plain_sorted entry_sorted (ksk_s1 _ _) ?_
  unfold Builtin.«sorted»
  refine wpAny_bind (m := checkCount "sorted" 1 1 _) (wpAny_pure ?_)
  refine wpAny_bind (collect_two hT ho hc hd ?_ hz)
  refine wpAny_bind (wpAny_newList ?_ hz)
  have hsz : ((s.heap.push (seqObj "list" #[] 0)).update s.heap.objs.size (Obj.mapSeq (· ++ vs.toArray))).objs.size = s.heap.objs.size + 1 := by
    rw [Heap.size_update, size_push']
  have hoL : (((s.heap.push (seqObj "list" #[] 0)).update s.heap.objs.size (Obj.mapSeq (· ++ vs.toArray))).push (seqObj "list" vs.toArray 0)).get? (s.heap.objs.size + 1) = some (seqObj "list" vs.toArray 0) := by
    rw [← hsz]; exact Heap.get?_push_size _ rfl
  have keep : ∀ b o, s.heap.get? b = some o → b ≠ s.heap.objs.size + 1 ∧ (((s.heap.push (seqObj "list" #[] 0)).update s.heap.objs.size (Obj.mapSeq (· ++ vs.toArray))).push (seqObj "list" vs.toArray 0)).get? b = some o := fun b o q => by
    have hlt : b < s.heap.objs.size := Heap.lt_size q
    refine ⟨Nat.ne_of_lt (Nat.lt_succ_of_lt hlt), Heap.get?_push_of_some _ ?_⟩
    rw [Heap.get?_update_ne _ _ _ _ (Nat.ne_of_lt hlt)]
    exact Heap.get?_push_of_some _ q
  show wpAny _ _ _ _ _ { s with heap := ((s.heap.push (seqObj "list" #[] 0)).update s.heap.objs.size (Obj.mapSeq (· ++ vs.toArray))).push (seqObj "list" vs.toArray 0) }
  rw [hsz]
  refine wpAny_bind (wpAny_holding (wpAny_call_entry_kw slot_list_sort ⟨_, hoL, rfl⟩ entry_list_sort ?_ (ksk_l1 _ _)))
  show wpAny (model prog w) A.in1.in1 (ksk_tree (s.heap.objs.size + 1) (.type "int") false) _ _ _
  refine lsort_keyInt (s := { s with heap := ((s.heap.push (seqObj "list" #[] 0)).update s.heap.objs.size (Obj.mapSeq (· ++ vs.toArray))).push (seqObj "list" vs.toArray 0) }) hI hoL hz fun out ns' h' tk c q1 q2 q3 q4 q5 => ⟨_, rfl, ?_⟩
  exact wpAny_pure ⟨_, rfl, h out ns' h' tk c _ q1 q2 q3 (fun b o q => q4 b o (keep b o q).1 (keep b o q).2) (Nat.le_succ _) q5⟩
end
end ML
namespace ML
open PySem PySem.Spec PyProof.Rows L2 He
/-! ### the order of whole numbers -/
def insI (x : Int) : List Int → List Int
  | [] => [x]
  | y :: r => match decide (x ≤ y) with
    | true => x :: y :: r
    | false => y :: insI x r
def srtI : List Int → List Int
  | [] => []
  | x :: r => insI x (srtI r)
theorem insI_perm (x : Int) : ∀ l : List Int, (insI x l).Perm (x :: l)
  | [] => .refl _
  | y :: r => by
    unfold insI
    split
    · exact .refl _
    · exact ((insI_perm x r).cons y).trans (.swap x y r)
theorem srtI_perm : ∀ l : List Int, (srtI l).Perm l
  | [] => .refl _
  | x :: r => (insI_perm x _).trans ((srtI_perm r).cons x)
theorem insI_sorted (x : Int) : ∀ l : List Int, l.Pairwise (· ≤ ·) → (insI x l).Pairwise (· ≤ ·)
  | [], _ => by simp [insI]
  | y :: r, h => by
    obtain ⟨h1, h2⟩ := List.pairwise_cons.mp h
    unfold insI
    cases q : decide (x ≤ y) with
    | true =>
      have := of_decide_eq_true q
      exact List.pairwise_cons.mpr ⟨fun z hz => by
        rcases List.mem_cons.mp hz with rfl | hz
        · exact this
        · exact Int.le_trans this (h1 z hz), h⟩
    | false =>
      have := of_decide_eq_false q
      refine List.pairwise_cons.mpr ⟨fun z hz => ?_, insI_sorted x r h2⟩
      rcases List.mem_cons.mp ((insI_perm x r).mem_iff.mp hz) with rfl | hz
      · omega
      · exact h1 z hz
theorem srtI_sorted : ∀ l : List Int, (srtI l).Pairwise (· ≤ ·)
  | [] => .nil
  | x :: r => insI_sorted x _ (srtI_sorted r)
theorem srtI_eq {l k : List Int} (p : k.Perm l) (o : k.Pairwise (· ≤ ·)) : k = srtI l :=
  List.Perm.eq_of_pairwise (fun _ _ _ _ a b => Int.le_antisymm a b) o (srtI_sorted l) (p.trans (srtI_perm l).symm)
def intsI : List VI → Option (List Int)
  | [] => some []
  | .int i :: r => match intsI r with
    | some l => some (i :: l)
    | none => none
  | _ :: _ => none
/-- sorted(xs, key=int) -/
def cSortK : OpC := fun vs h => match vs with
  | [.tup xs] => match intsI xs with
    | some l => some (.ref h.length, h ++ [.lst ((srtI l).map .int)])
    | none => none
  | [.ref n] => match h[n]? with
    | some (.lst xs) => match intsI xs with
      | some l => some (.ref h.length, h ++ [.lst ((srtI l).map .int)])
      | none => none
    | some (.scr xs) => match intsI xs with
      | some l => some (.ref h.length, h ++ [.lst ((srtI l).map .int)])
      | none => none
    | _ => none
  | _ => none
section
variable {G : Gx} {ρ : List Addr} {h : Hi} {H : Hp}
theorem intsI_ok : ∀ {xs : List VI} {ys : List V} {l : List Int}, intsI xs = some l → RVs G ρ H xs ys → ys = l.map V.int
  | [], _, _, e, .nil => by cases e; rfl
  | x :: xs, _, _, e, .cons r t => by
    cases r with
    | int i =>
      unfold intsI at e
      cases q : intsI xs with
      | none => rw [q] at e; cases e
      | some k =>
        rw [q] at e
        cases e
        rw [intsI_ok q t]
        rfl
    | _ => cases e
theorem rvs_ints (l : List Int) : RVs G ρ H (l.map VI.int) (l.map V.int) := by
  induction l with
  | nil => exact .nil
  | cons a b ih => exact .cons (.int a) ih
end
def rSortK (K : PySem.W.Frag) : List V → List V → Hp → VK → Prop := fun xs zs H Q => ∃ (a : Addr) (l : List Int), xs = [.ref a] ∧ zs = [.ty "int"] ∧ (SqL K H a (l.map V.int) ∨ SqT K H a (l.map V.int)) ∧ ∀ p, H p = none → Q (.ref p) (upd H p (.lst ((srtI l).map V.int)))
theorem cr_sortK {X : L2.Cx} : L2.CallRK X (.builtin "sorted") [Str.ofString "key"] (rSortK X.K) := by
  intro pins s σ H vs zs us ws Q I r rz h
  obtain ⟨a, l, rfl, rfl, hs, q⟩ := h
  obtain rfl := Vals.ref1 r
  obtain ⟨w1, rfl, e1⟩ := L2.vals1 rz
  obtain rfl : w1 = Value.type "int" := e1
  have fin : ∀ (its out : List Value) (ns' : List Int) (h' : Heap) (tk c : Nat) (p : Addr), (l.map V.int).length ≤ sizeLine → IntsAre out ns' → ns'.Perm l → ns'.Pairwise (· ≤ ·) → (∀ b o, s.heap.get? b = some o → h'.get? b = some o) → s.heap.objs.size ≤ p → h'.get? p = some (seqObj "list" out.toArray c) → EP X pins σ Q (.ref p) { s with heap := h', toks := tk } := by
    intro its out ns' h' tk c p hz k1 k2 k3 k4 k5 k6
    have e := srtI_eq k2 k3
    subst e
    have hlen : ((srtI l).map V.int).length ≤ sizeLine := by
      rw [List.length_map, k2.length_eq]
      rw [List.length_map] at hz
      exact hz
    exact ⟨.ref p, upd H p (.lst ((srtI l).map V.int)), I.laid (t' := tk) k4 k5 ⟨hlen, _, c, vals_of_ints k1, by simpa using k6⟩, rfl, q p (I.hok.fresh k5)⟩
  rcases hs with hs | hs
  · obtain ⟨its, rv, ⟨o, n, ho, hc, _, hd⟩, hz⟩ := I.list hs
    exact sorted_keyInt (.inl rfl) ho hc hd rv.ints (by rw [← rv.length]; exact hz) fun out ns' h' tk c p k1 k2 k3 k4 k5 k6 => fin its out ns' h' tk c p hz k1 k2 k3 k4 k5 k6
  · obtain ⟨its, rv, ⟨o, ho, hc, n, hd⟩, hz⟩ := I.tuple hs
    exact sorted_keyInt (.inr rfl) ho hc hd rv.ints (by rw [← rv.length]; exact hz) fun out ns' h' tk c p k1 k2 k3 k4 k5 k6 => fin its out ns' h' tk c p hz k1 k2 k3 k4 k5 k6
section
variable {G : Gx} {W : WX} {X : Cx} {e : Expr} {es : List Expr} {mr : MA} {p p2 kp pos : Pos}
theorem me_sortK (hG : G.K = X.K) (hg : Gl X "sorted") (hm : X.mg "sorted" = none) (hv : bootBuiltins "sorted" = some (.builtin "sorted")) (hk : PE X (.Name "int" p2) (tC (.ty "int"))) (ha : PA X (e :: es) (rdA G W mr))
    (he : backTo pos (starEach (e :: es) X.env) = (false, eval e X.env) :: backTo pos (starEach es X.env) := by rfl) (hpl : (backTo pos (starEach (e :: es) X.env)).any (·.1) = false := by rfl) :
    PE X (.Call (.Name "sorted" p) (e :: es) [⟨some "key", .Name "int" p2, kp⟩] pos) (rdE G W (eCB cSortK mr)) :=
  PE.imp' (pe_callBK cr_sortK hg hm hv ha (pk_cons hk pk_nil) (by decide) (by decide) he hpl) fun σ H Q ⟨ρ, σi, h, as, ag, fi⟩ => rdG_go as ag fi fun ρ1 H1 h1 xs ys st as1 ag1 ra f => by
    show rSortK X.K ys [.ty "int"] H1 Q
    have fin : ∀ (l : List Int), FinG G ρ1 H1 (RV G) Q (fun c d H' => W c d σ H') (ofO (some (VI.ref h1.length, h1 ++ [OI.lst ((srtI l).map .int)]))) → ∀ p, H1 p = none → Q (.ref p) (upd H1 p (.lst ((srtI l).map V.int))) := fun l f p hp =>
      f (ρ1 ++ [p]) _ _ (Stp.new hp) (ag1.new hp ⟨_, upd_same, rvs_ints _⟩) (.ref (by rw [← ag1.len]; simp))
    unfold cSortK at f
    cases ra with
    | nil => exact f.elim
    | cons r t =>
      cases t with
      | cons _ _ => cases r <;> exact f.elim
      | nil =>
        cases r with
        | @tup xs ys a t1 t2 =>
          dsimp only at f
          cases q : intsI xs with
          | none => rw [q] at f; exact f.elim
          | some l =>
            rw [q] at f
            have := intsI_ok q t2
            subst this
            exact ⟨a, l, rfl, rfl, .inr (hG ▸ t1), fin l f⟩
        | @ref n a e =>
          dsimp only at f
          cases q1 : h1[n]? with
          | none => rw [q1] at f; exact f.elim
          | some ob =>
            rw [q1] at f
            cases ob with
            | lst xs =>
              obtain ⟨zs, hy, rs⟩ := ag1.at_ q1 e
              dsimp only at f
              cases q : intsI xs with
              | none => rw [q] at f; exact f.elim
              | some l =>
                rw [q] at f
                have := intsI_ok q rs
                subst this
                exact ⟨a, l, rfl, rfl, .inl (.inl (.inl hy)), fin l f⟩
            | scr xs =>
              obtain ⟨o, zs, hy, rs⟩ := ag1.at_ q1 e
              dsimp only at f
              cases q : intsI xs with
              | none => rw [q] at f; exact f.elim
              | some l =>
                rw [q] at f
                have := intsI_ok q rs
                subst this
                exact ⟨a, l, rfl, rfl, .inl (.inl (.inr ⟨_, hy⟩)), fin l f⟩
            | _ => exact f.elim
        | _ => exact f.elim
end
end ML
end

section
set_option Elab.async false
set_option linter.all false
set_option maxRecDepth 100000
set_option maxHeartbeats 4000000
/-! Attributes as targets, and with op=. -/
namespace ML
open PySem L2 PyProof.Rows
theorem onlyNx_fld (cs : List Nat) (f : S) (o : ME) : OnlyNx (gFld cs f o) := fun v σ h => onlyNx_bindS fun x h1 => by
  cases x with
  | ref n =>
    dsimp only
    cases h1[n]? with
    | none => exact .inr (.inr rfl)
    | some ob =>
      cases ob with
      | ins c fs =>
        dsimp only
        cases cs.contains c && Nat.blt fs.length 1000 with
        | true => exact .inl ⟨_, _, rfl⟩
        | false => exact .inr (.inr rfl)
      | _ => exact .inr (.inr rfl)
  | _ => exact .inr (.inr rfl)
/-- o.f op= e -/
def sFldAug (cs : List Nat) (fn : S) (f : Op2) (o e : ME) : MS := fun σ h => (o σ h).bindS σ fun x h1 => match x with
  | .ref n => match h1[n]? with
    | some (.ins c fs) => match cs.contains c, getF fn fs with
      | true, some v => (e σ h1).bindS σ fun y h2 => match f v y h2 with
        | some (z, h3) => match h3[n]? with
          | some (.ins c' fs') => match cs.contains c' && (Nat.beq c' c && Nat.blt fs'.length 1000) with
            | true => .nx σ (h3.set n (.ins c' (setF fn z fs')))
            | false => .err
          | _ => .err
        | none => .err
      | _, _ => .err
    | _ => .err
  | _ => .err
section
variable {G : Gx} {W : WX} {X : Cx} {o e : Expr} {pos pos' : Pos} {mo me : ME}
theorem mg_fld {cs : List Nat} {fn : S} {fs : Str} (ef : fs = toStr fn) (hF : FldOk X.K G cs fn) (ho : PE X o (rdE G W mo)) : PG X (.Attribute o fs pos) (rdGt G W (gFld cs fn mo)) := by
  subst ef
  refine ⟨fun pins s σ H v u Q I r ⟨ρ, σi, h, vi, as, ag, rv, fin⟩ => ?_⟩
  rw [assign_Attribute]
  have A : rdE G W mo σ H fun x H1 => ∃ ρ1 h1 n a c fl, Stp G ρ H ρ1 H1 ∧ x = .ref a ∧ AgS G ρ1 H1 σi σ ∧ Ag G ρ1 h1 H1 ∧ ρ1[n]? = some a ∧ h1[n]? = some (.ins c fl) ∧ cs.contains c = true ∧ fl.length < 1000 ∧
      FinS G ρ1 H1 { nx := Q, rt := fun _ _ => False } W (.nx σi (h1.set n (.ins c (setF fn vi fl)))) := by
    refine rdS_go as ag fin fun ρ1 H1 h1 x y st as ag r fi => ?_
    cases r with
    | @ref n a e =>
      dsimp only at fi
      cases q : h1[n]? with
      | none => rw [q] at fi; exact fi.elim
      | some ob =>
        rw [q] at fi
        cases ob with
        | ins c fl =>
          dsimp only at fi
          cases q1 : cs.contains c && Nat.blt fl.length 1000 with
          | false => rw [q1] at fi; exact fi.elim
          | true =>
            rw [q1] at fi
            obtain ⟨q2, q3⟩ := Bool.and_eq_true_iff.mp q1
            exact ⟨ρ1, h1, n, a, c, fl, st, rfl, as, ag, e, q, q2, Nat.le_of_ble_eq_true q3, fi⟩
        | _ => exact fi.elim
    | _ => exact fi.elim
  refine wpAny_bind (wpAny_holding (thn (ho.run pins s σ H _ I A) fun ov s1 ⟨x, H1, I1, r1, ρ1, h1, n, a, c, fl, st, ex, as1, ag1, en, eh, ec, el, fi⟩ => ?_))
  subst ex
  obtain rfl : ov = Value.ref a := r1
  obtain ⟨C, dx, gs, hc, hH, rf⟩ := insAt ag1 eh en
  obtain ⟨k1, k2⟩ := hF c C ec hc
  refine wpAny_bind (wpAny_standAt (wpAny_bind (wpAny_holding (setattr_ok I1 hH k1 k2 (by rw [← rf.length]; exact el) r fun s3 I3 => ?_))))
  refine wpAny_release ⟨σ, _, I3, ?_⟩
  have st3 : Stp G ρ1 H1 ρ1 (upd H1 a (.ins C dx (putF (toStr fn) v gs))) := Stp.wr ag1 eh en
  exact fi ρ1 _ σ st3 (ag1.wr eh en ⟨C, dx, _, hc, upd_same, RFs.setF fn (rf.mono st3) (rv.mono (st.trans st3))⟩) (as1.mono st3)
theorem ms_fldAug {op : Operator} {f : Op2} {cs : List Nat} {fn : S} {fs : Str} (ef : fs = toStr fn) (hF : FldOk X.K G cs fn) (ho : PE X o (rdE G W mo)) (he : PE X e (rdE G W me)) (hop : InOp X op (rd2 G f)) :
    PS X (.AugAssign (.Attribute o fs pos') op e pos) (rdS G W (sFldAug cs fn f mo me)) := by
  subst ef
  refine PS.imp' (ps_fldaug ho he hop) fun D σ H ⟨ρ, σi, h, as, ag, fin⟩ => rdS_go as ag fin fun ρ1 H1 h1 x x' st as1 ag1 r fi => ?_
  cases r with
  | @ref n a en =>
    dsimp only at fi
    cases q : h1[n]? with
    | none => rw [q] at fi; exact fi.elim
    | some ob =>
      rw [q] at fi
      cases ob with
      | ins c fl =>
        dsimp only at fi
        obtain ⟨C, dx, gs, hc, hH, rf⟩ := insAt ag1 q en
        have gf := RFs.getF fn rf
        cases q1 : cs.contains c with
        | false => rw [q1] at fi; exact fi.elim
        | true =>
          cases q2 : getF fn fl with
          | none => rw [q1, q2] at fi; exact fi.elim
          | some w =>
            rw [q2] at gf
            obtain ⟨z, hz, rz⟩ := gf
            rw [q1, q2] at fi
            obtain ⟨k1, k2⟩ := hF c C q1 hc
            refine ⟨a, C, dx, gs, z, rfl, hH, k1, k2, hz, rdS_go as1 ag1 fi fun ρ2 H2 h2 y y' st2 as2 ag2 ry f2 => ?_⟩
            refine ⟨ρ2, h2, w, y, ag2, rz.mono st2, ry, ?_⟩
            cases q3 : f w y h2 with
            | none => rw [q3] at f2; exact f2.elim
            | some zh =>
              obtain ⟨u, h3⟩ := zh
              rw [q3] at f2
              dsimp only at f2
              intro ρ3 H3 u' st3 ag3 ru
              cases q4 : h3[n]? with
              | none => rw [q4] at f2; exact f2.elim
              | some ob3 =>
                rw [q4] at f2
                cases ob3 with
                | ins c' fl' =>
                  dsimp only at f2
                  cases q5 : cs.contains c' && (Nat.beq c' c && Nat.blt fl'.length 1000) with
                  | false => rw [q5] at f2; exact f2.elim
                  | true =>
                    rw [q5] at f2
                    obtain ⟨q6, q7⟩ := Bool.and_eq_true_iff.mp q5
                    obtain ⟨q8, q9⟩ := Bool.and_eq_true_iff.mp q7
                    obtain rfl := Nat.eq_of_beq_eq_true q8
                    have en3 := st3.pre _ _ (st2.pre _ _ en)
                    obtain ⟨C', dx', gs', hc', hH', rf'⟩ := insAt ag3 q4 en3
                    rw [hc] at hc'
                    cases hc'
                    have st4 : Stp G ρ3 H3 ρ3 (upd H3 a (.ins C dx' (putF (toStr fn) u' gs'))) := Stp.wr ag3 q4 en3
                    exact ⟨dx', gs', hH', by rw [← rf'.length]; exact Nat.le_of_ble_eq_true q9,
                      f2 ρ3 _ σ (st3.trans st4) (ag3.wr q4 en3 ⟨C, dx', _, hc, upd_same, RFs.setF fn (rf'.mono st4) (ru.mono st4)⟩) ((as2.mono st3).mono st4)⟩
                | _ => exact f2.elim
      | _ => exact fi.elim
  | _ => exact fi.elim
theorem inop_M {op : Operator} {f : Op2} {p : Int → Int → Int} (ho : InOp X op (fun x y H Q => ∃ i j, x = .int i ∧ y = .int j ∧ Q (.int (p i j)) H)) (hf : ∀ x y h z h', f x y h = some (z, h') → ∃ i j, x = .int i ∧ y = .int j ∧ z = .int (p i j) ∧ h' = h) : InOp X op (rd2 G f) := by
  intro pins s σ H x y v u Q I r1 r2 ⟨ρ, h, xi, yi, ag, a1, a2, fi⟩
  cases q : f xi yi h with
  | none => rw [q] at fi; exact fi.elim
  | some zh =>
    obtain ⟨z, h'⟩ := zh
    rw [q] at fi
    obtain ⟨i, j, e1, e2, e3, e4⟩ := hf _ _ _ _ _ q
    subst e1 e2 e3 e4
    cases a1
    cases a2
    exact ho pins s σ H _ _ v u Q I r1 r2 ⟨i, j, rfl, rfl, fi.ok ag (.int _)⟩
theorem mio_add : InOp X .Add (rd2 G iAdd) := inop_M in_add fun x y h z h' e => by
  unfold iAdd at e
  split at e
  · cases e; exact ⟨_, _, rfl, rfl, rfl, rfl⟩
  · cases e
theorem mio_sub : InOp X .Sub (rd2 G iSub) := inop_M in_sub fun x y h z h' e => by
  unfold iSub at e
  split at e
  · cases e; exact ⟨_, _, rfl, rfl, rfl, rfl⟩
  · cases e
end
/-! ### locality -/
section
variable {r : List Nat}
theorem intsI2 : ∀ {xs ys : List VI}, RVs2 r xs ys → intsI ys = intsI xs
  | _, _, .nil => rfl
  | _, _, .cons q t => by cases q <;> unfold intsI <;> first | rw [intsI2 t] | rfl
theorem rvs2_ints (l : List Int) : RVs2 r (l.map VI.int) (l.map VI.int) := by
  induction l with
  | nil => exact .nil
  | cons a b ih => exact .cons (.int a) ih
end
instance : LOc cSortK := ⟨fun r s h vs vs' g t => by
  unfold cSortK
  cases t with
  | nil => trivial
  | cons q t =>
    cases t with
    | cons _ _ => cases q <;> trivial
    | nil =>
      cases q with
      | tup l =>
        dsimp only
        rw [intsI2 l]
        split
        · exact .new g fun r' e => .lst (rvs2_ints _)
        · trivial
      | ref i =>
        obtain ⟨o, o', e1, e2, e3⟩ := g.no i
        dsimp only
        rw [e1, e2]
        cases e3 with
        | lst l =>
          dsimp only
          rw [intsI2 l]
          split
          · exact .new g fun r' e => .lst (rvs2_ints _)
          · trivial
        | scr l =>
          dsimp only
          rw [intsI2 l]
          split
          · exact .new g fun r' e => .lst (rvs2_ints _)
          · trivial
        | _ => trivial
      | _ => trivial⟩
end ML
namespace ML
open PySem L2
instance : LOp iAdd := ⟨fun r s h x y x' y' g a b => by
  unfold iAdd
  cases a <;> cases b <;> first | exact ⟨_, _, _, rfl, .refl, g, .int _⟩ | trivial⟩
instance : LOp iSub := ⟨fun r s h x y x' y' g a b => by
  unfold iSub
  cases a <;> cases b <;> first | exact ⟨_, _, _, rfl, .refl, g, .int _⟩ | trivial⟩
instance {cs : List Nat} {fn : S} {f : Op2} {mo me : ME} [x : LE mo] [o : LOp f] [y : LE me] : LS (sFldAug cs fn f mo me) := ⟨fun r s h σ σ' g a => (x.run r s h σ σ' g a).bindS a fun r1 s1 h1 v v' e1 g1 q1 => by
  cases q1 with
  | @ref n m i =>
    obtain ⟨ob, ob', z1, z2, z3⟩ := g1.no i
    dsimp only
    rw [z1, z2]
    cases z3 with
    | @ins c fs fs' t =>
      dsimp only
      cases cs.contains c with
      | false => trivial
      | true =>
        have k := getF2 (f := fn) t
        cases w : getF fn fs with
        | none => trivial
        | some u =>
          rw [w] at k
          cases w2 : getF fn fs' with
          | none => rw [w2] at k; exact k.elim
          | some u' =>
            rw [w2] at k
            dsimp only
            refine (y.run _ _ _ _ _ g1 (a.mono e1)).bindS (a.mono e1) fun r2 s2 h2 p p' e2 g2 q2 => ?_
            have kk := o.run _ _ _ _ _ _ _ g2 (k.mono e2) q2
            cases z5 : f u p s2 with
            | none => trivial
            | some zh =>
              obtain ⟨z, s3⟩ := zh
              rw [z5] at kk
              obtain ⟨r3, h3, z', e, e3, g3, q3⟩ := kk
              rw [e]
              dsimp only
              have i3 := e3.pre (e2.pre i)
              obtain ⟨o3, o3', y1, y2, y3⟩ := g3.no i3
              rw [y1, y2]
              cases y3 with
              | ins t3 =>
                dsimp only
                rw [t3.length]
                split
                · obtain ⟨aa, b⟩ := g3.wr y1 i3 (.ins (setF2 q3 t3))
                  exact ⟨_, _, _, rfl, e3.trans b, aa, (((a.mono e1).mono e2).mono e3).mono b⟩
                · trivial
              | _ => trivial
    | _ => trivial
  | _ => trivial⟩
end ML
end

section
set_option Elab.async false
set_option linter.all false
set_option maxRecDepth 100000
set_option maxHeartbeats 4000000
/-! [elt for t in it if a for t1 in it1 if b]. -/
namespace ML
open PySem L2
def turnsD (it : Itm) (t : Tgt) (vs : List Nat) (tt : MT) (mi1 : MI) (t1 : Tgt) (vs1 : List Nat) (tt1 : MT) (el : ME) (D : Nat) (σ : Sg) : Nat → Nat → Hi → Option Hi
  | 0, i, h => match it.nxt i h with
    | some none => some h
    | _ => none
  | k + 1, i, h => match it.nxt i h with
    | some none => some h
    | some (some x) => match t.put x (wipeM σ vs) with
      | some σ2 => match tt σ2 h with
        | .ok true h2 => match mi1 σ2 h2 with
          | .ok it1 h3 => match turnsC it1 t1 vs1 tt1 el D σ2 (it1.fuel h3) 0 h3 with
            | some h4 => turnsD it t vs tt mi1 t1 vs1 tt1 el D σ k (i + 1) h4
            | none => none
          | _ => none
        | .ok false h2 => turnsD it t vs tt mi1 t1 vs1 tt1 el D σ k (i + 1) h2
        | _ => none
      | none => none
    | none => none
def eLc2 (mi : MI) (t : Tgt) (vs : List Nat) (tt : MT) (mi1 : MI) (t1 : Tgt) (vs1 : List Nat) (tt1 : MT) (el : ME) : ME := fun σ h => (mi σ h).bind fun it h1 => match turnsD it t vs tt mi1 t1 vs1 tt1 el h1.length σ (it.fuel h1) 0 (h1 ++ [.lst []]) with
  | some h2 => .ok (.ref h1.length) h2
  | none => .err
section
variable {G : Gx} {W : WX} {X : Cx} {ρ ρ1 : List Addr} {H H1 : Hp} {h : Hi} {tg iter tg1 iter1 elt c c1 : Expr} {ifs : List Expr} {scope : Scope} {own : List (Str × Nat)} {vs1 : List Nat} {pos spos py : Pos} {mi mi1 : MI} {mt mt1 : MT} {ml : ME} {t t1 : Tgt} {i : Nat} {y : Str}
theorem lc2_rd (hG : G.K = X.K) (vs vs1 : List Nat) (hsl : ∀ j ∈ t.slots, j ∈ vs) (hsl1 : ∀ j ∈ t1.slots, j ∈ vs1) {tt tt1 : TT} (htt : ∀ σ H Q, rdT G W0 mt σ H Q → tt σ H Q) (htt1 : ∀ σ H Q, rdT G W0 mt1 σ H Q → tt1 σ H Q) :
    ∀ σ H Q, rdE G W (eLc2 mi t vs mt mi1 t1 vs1 mt1 ml) σ H Q → tLc2 (rdI G W mi) (t.tg X.K) tt (rdI G W0 mi1) (t1.tg X.K) tt1 (rdE G W0 ml) vs vs1 σ H Q := fun σ H Q ⟨ρ, σi, h, as, ag, fin⟩ =>
  rdI_goE as ag fin fun ρ1 H1 h1 it J st as1 ag1 io fi D hD => by
    have st0 : Stp G ρ1 H1 (ρ1 ++ [D]) (upd H1 D (.lst [])) := Stp.new hD
    have ag0 : Ag G (ρ1 ++ [D]) (h1 ++ [.lst []]) (upd H1 D (.lst [])) := ag1.new hD ⟨[], upd_same, .nil⟩
    have hx : (ρ1 ++ [D])[h1.length]? = some D := by rw [← ag1.len]; simp
    cases e0 : turnsD it t vs mt mi1 t1 vs1 mt1 ml h1.length σi (it.fuel h1) 0 (h1 ++ [.lst []]) with
    | none => rw [e0] at fi; exact fi.elim
    | some hf =>
      rw [e0] at fi
      refine ⟨fun i m H2 => ∃ ρ2 h2, Stp G (ρ1 ++ [D]) (upd H1 D (.lst [])) ρ2 H2 ∧ Ag G ρ2 h2 H2 ∧ turnsD it t vs mt mi1 t1 vs1 mt1 ml h1.length σi m i h2 = some hf, ⟨_, ρ1 ++ [D], _, .refl, ag0, e0⟩, ?_⟩
      rintro i m H2 ⟨ρ2, h2, st2, ag2, f2⟩
      have ok := io i ρ2 h2 H2 (st0.trans st2) ag2
      have as2 : AgS G ρ2 H2 σi σ := as1.mono (st0.trans st2)
      have fin' : ∀ {h}, hf = h → Ag G ρ2 h H2 → Q (.ref D) H2 := fun {h} e a => by
        subst e
        exact fi ρ2 H2 _ (st0.trans st2) a (.ref (st2.pre _ _ hx))
      cases q : it.nxt i h2 with
      | none =>
        cases m with
        | zero => unfold turnsD at f2; rw [q] at f2; cases f2
        | succ k => unfold turnsD at f2; rw [q] at f2; cases f2
      | some o =>
        rw [q] at ok
        cases o with
        | none =>
          refine .inl ⟨ok, ?_⟩
          cases m with
          | zero => unfold turnsD at f2; rw [q] at f2; exact fin' (Option.some.inj f2).symm ag2
          | succ k => unfold turnsD at f2; rw [q] at f2; exact fin' (Option.some.inj f2).symm ag2
        | some v =>
          cases m with
          | zero => unfold turnsD at f2; rw [q] at f2; cases f2
          | succ k =>
            unfold turnsD at f2
            rw [q] at f2
            dsimp only at f2
            obtain ⟨go, yl⟩ := ok
            refine .inr ⟨go, fun H' => ∃ ρ2 h2, Stp G (ρ1 ++ [D]) (upd H1 D (.lst [])) ρ2 H' ∧ Ag G ρ2 h2 H' ∧ turnsD it t vs mt mi1 t1 vs1 mt1 ml h1.length σi k (i + 1) h2 = some hf, fun H' w => ⟨k, Nat.lt_succ_self k, w⟩, fun x H3 y => ?_⟩
            obtain ⟨st3, ag3, rv⟩ := yl x H3 y
            cases e1 : t.put v (wipeM σi vs) with
            | none => rw [e1] at f2; cases f2
            | some σ4 =>
              rw [e1] at f2
              dsimp only at f2
              refine tgt_put hG ((as2.mono st3).wipe vs) rv e1 fun σ5 as5 hj hl => ?_
              refine ⟨wipe_eq vs hl (fun j hn => hj j fun z => hn (hsl j z)) |>.trans ?_, ?_⟩
              · exact wipe_eq vs (L2.wipe_length σ vs) fun j hn => L2.wipe_out hn
              · refine htt _ _ _ ⟨ρ2, σ4, h2, as5, ag3, ?_⟩
                cases e2 : mt σ4 h2 with
                | err => rw [e2] at f2; cases f2
                | ex c n h' => rw [e2] at f2; cases f2
                | ok b h4 =>
                  rw [e2] at f2
                  intro ρ6 H6 b' st6 ag6 eb
                  subst eb
                  cases b with
                  | false =>
                    rw [if_neg Bool.false_ne_true]
                    exact ⟨ρ6, h4, (st2.trans st3).trans st6, ag6, f2⟩
                  | true =>
                    rw [if_pos rfl]
                    dsimp only at f2
                    have as6 := as5.mono st6
                    refine ⟨ρ6, σ4, h4, as6, ag6, ?_⟩
                    cases e3 : mi1 σ4 h4 with
                    | err => rw [e3] at f2; cases f2
                    | ex c n h' => rw [e3] at f2; cases f2
                    | ok it1 h5 =>
                      rw [e3] at f2
                      dsimp only at f2
                      intro ρ7 H7 J1 st7 ag7 io1
                      cases e4 : turnsC it1 t1 vs1 mt1 ml h1.length σ4 (it1.fuel h5) 0 h5 with
                      | none => rw [e4] at f2; cases f2
                      | some hg =>
                        rw [e4] at f2
                        dsimp only at f2
                        have stB := ((st2.trans st3).trans st6).trans st7
                        refine ⟨fun j m H8 => ∃ ρ8 h8, Stp G ρ7 H7 ρ8 H8 ∧ Ag G ρ8 h8 H8 ∧ turnsC it1 t1 vs1 mt1 ml h1.length σ4 m j h8 = some hg, ⟨_, ρ7, h5, .refl, ag7, e4⟩, ?_⟩
                        rintro j m H8 ⟨ρ8, h8, st8, ag8, f8⟩
                        have ok1 := io1 j ρ8 h8 H8 st8 ag8
                        have as8 := (as6.mono st7).mono st8
                        cases q1 : it1.nxt j h8 with
                        | none =>
                          cases m with
                          | zero => unfold turnsC at f8; rw [q1] at f8; cases f8
                          | succ k => unfold turnsC at f8; rw [q1] at f8; cases f8
                        | some o1 =>
                          rw [q1] at ok1
                          cases o1 with
                          | none =>
                            refine .inl ⟨ok1, ρ8, h8, stB.trans st8, ag8, ?_⟩
                            have eh : h8 = hg := by
                              cases m with
                              | zero => unfold turnsC at f8; rw [q1] at f8; exact Option.some.inj f8
                              | succ k => unfold turnsC at f8; rw [q1] at f8; exact Option.some.inj f8
                            subst eh
                            exact f2
                          | some v1 =>
                            cases m with
                            | zero => unfold turnsC at f8; rw [q1] at f8; cases f8
                            | succ k1 =>
                              unfold turnsC at f8
                              rw [q1] at f8
                              dsimp only at f8
                              obtain ⟨go1, yl1⟩ := ok1
                              refine .inr ⟨go1, fun H' => ∃ ρ8 h8, Stp G ρ7 H7 ρ8 H' ∧ Ag G ρ8 h8 H' ∧ turnsC it1 t1 vs1 mt1 ml h1.length σ4 k1 (j + 1) h8 = some hg, fun H' w => ⟨k1, Nat.lt_succ_self k1, w⟩, fun x1 H9 y1 => ?_⟩
                              obtain ⟨st9, ag9, rv1⟩ := yl1 x1 H9 y1
                              cases d1 : t1.put v1 (wipeM σ4 vs1) with
                              | none => rw [d1] at f8; cases f8
                              | some σ9 =>
                                rw [d1] at f8
                                dsimp only at f8
                                refine tgt_put hG ((as8.mono st9).wipe vs1) rv1 d1 fun σ10 as10 hj1 hl1 => ?_
                                refine ⟨wipe_eq vs1 hl1 (fun j hn => hj1 j fun z => hn (hsl1 j z)) |>.trans ?_, ?_⟩
                                · exact wipe_eq vs1 (L2.wipe_length σ5 vs1) fun j hn => L2.wipe_out hn
                                · refine htt1 _ _ _ ⟨ρ8, σ9, h8, as10, ag9, ?_⟩
                                  cases d2 : mt1 σ9 h8 with
                                  | err => rw [d2] at f8; cases f8
                                  | ex c n h' => rw [d2] at f8; cases f8
                                  | ok b1 h11 =>
                                    rw [d2] at f8
                                    intro ρ11 H11 b' st11 ag11 eb
                                    subst eb
                                    cases b1 with
                                    | false =>
                                      rw [if_neg Bool.false_ne_true]
                                      exact ⟨ρ11, h11, (st8.trans st9).trans st11, ag11, f8⟩
                                    | true =>
                                      rw [if_pos rfl]
                                      dsimp only at f8
                                      refine ⟨ρ11, σ9, h11, as10.mono st11, ag11, ?_⟩
                                      cases d3 : ml σ9 h11 with
                                      | err => rw [d3] at f8; cases f8
                                      | ex c n h' => rw [d3] at f8; cases f8
                                      | ok z h12 =>
                                        rw [d3] at f8
                                        dsimp only at f8
                                        intro ρ12 H12 z' st12 ag12 rz
                                        cases d4 : h12[h1.length]? with
                                        | none => rw [d4] at f8; cases f8
                                        | some ob =>
                                          rw [d4] at f8
                                          cases ob with
                                          | lst acc =>
                                            dsimp only at f8
                                            cases d5 : small (acc.length + 1) with
                                            | false => rw [d5] at f8; cases f8
                                            | true =>
                                              rw [d5] at f8
                                              have stA := (((stB.trans st8).trans st9).trans st11).trans st12
                                              have hD7 := stA.pre _ _ hx
                                              obtain ⟨ys, hy, rs⟩ := ag12.at_ d4 hD7
                                              have stW : Stp G ρ12 H12 ρ12 (upd H12 D (.lst (ys ++ [z']))) := Stp.wr ag12 d4 hD7
                                              refine ⟨ys, hy, by rw [← rs.length]; exact small_lt d5, ρ12, _, (((st8.trans st9).trans st11).trans st12).trans stW, ag12.wr (u' := .lst (acc ++ [z])) d4 hD7 ⟨_, upd_same, (rs.append (.cons rz .nil)).mono stW⟩, f8⟩
                                          | _ => cases f8
abbrev BlkF (X : Cx) (scope : Scope) (P : Cx → Prop) : Prop := ∀ (s : Shared) (H : Hp) (C : Addr) (cl : List (Str × Addr)) (fp : List Addr), P (X.blk s H scope (compEnvC scope cl C X.env) fp)
/-- the tests of a for: none, or one -/
theorem me_lc2 {ifs ifs1 : List Expr} {tt tt1 : TT} (hG : G.K = X.K) (hc : X.calm = true) (hN : X.N.Nodup) (hi : PI X tg iter (rdI G W mi)) (ok : BlkOk X.N X.env.scope scope own) (hv : ∀ i ∈ vs1, i ∈ own.map (·.2)) (hsl : ∀ j ∈ t.slots, j ∈ own.map (·.2)) (hsl1 : ∀ j ∈ t1.slots, j ∈ vs1)
    (htt : ∀ σ H Q, rdT G W0 mt σ H Q → tt σ H Q) (htt1 : ∀ σ H Q, rdT G W0 mt1 σ H Q → tt1 σ H Q)
    (hg : BlkF X scope fun Y => PG Y tg (t.tg X.K)) (ht : BlkF X scope fun Y => PTs Y ifs tt) (hi1 : BlkF X scope fun Y => PI Y tg1 iter1 (rdI G W0 mi1)) (hg1 : BlkF X scope fun Y => PG Y tg1 (t1.tg X.K)) (ht1 : BlkF X scope fun Y => PTs Y ifs1 tt1)
    (he : BlkF X scope fun Y => PE Y elt (rdE G W0 ml)) (hs : ∀ x, foldedSetIterable iter X.env x = pure x := by intro _; rfl) (hs1 : ∀ env x, foldedSetIterable iter1 env x = pure x := by intro _ _; rfl) :
    PE X (.ListComp elt [⟨tg, iter, ifs, 0⟩, ⟨tg1, iter1, ifs1, 0⟩] scope pos) (rdE G W (eLc2 mi t (own.map (·.2)) mt mi1 t1 vs1 mt1 ml)) :=
  PE.imp' (pe_lc2 hc hN hi ok hv hg ht hi1 hg1 ht1 he hs hs1) (lc2_rd hG _ _ hsl hsl1 htt htt1)
theorem ms_setLc2 {ifs ifs1 : List Expr} {tt tt1 : TT} (hG : G.K = X.K) (hc : X.calm = true) (hN : X.N.Nodup) (hy : X.N[i]? = some y) (hyl : X.env.scope.names.lookup y = some .local)
    (hsw : swapsWith (.ListComp elt [⟨tg, iter, ifs, 0⟩, ⟨tg1, iter1, ifs1, 0⟩] scope pos) (some (.Name y py)) spos.line X.env = pure true)
    (hi : PI X tg iter (rdI G W mi)) (ok : BlkOk X.N X.env.scope scope own) (hv : ∀ i ∈ vs1, i ∈ own.map (·.2)) (hsl : ∀ j ∈ t.slots, j ∈ own.map (·.2)) (hsl1 : ∀ j ∈ t1.slots, j ∈ vs1)
    (htt : ∀ σ H Q, rdT G W0 mt σ H Q → tt σ H Q) (htt1 : ∀ σ H Q, rdT G W0 mt1 σ H Q → tt1 σ H Q)
    (hg : BlkF X scope fun Y => PG Y tg (t.tg X.K)) (ht : BlkF X scope fun Y => PTs Y ifs tt) (hi1 : BlkF X scope fun Y => PI Y tg1 iter1 (rdI G W0 mi1)) (hg1 : BlkF X scope fun Y => PG Y tg1 (t1.tg X.K)) (ht1 : BlkF X scope fun Y => PTs Y ifs1 tt1)
    (he : BlkF X scope fun Y => PE Y elt (rdE G W0 ml)) (hs : ∀ x, foldedSetIterable iter X.env x = pure x := by intro _; rfl) (hs1 : ∀ env x, foldedSetIterable iter1 env x = pure x := by intro _ _; rfl) :
    PS X (.Assign [.Name y py] (.ListComp elt [⟨tg, iter, ifs, 0⟩, ⟨tg1, iter1, ifs1, 0⟩] scope pos) spos) (rdS G W (sAsg (eLc2 mi t (own.map (·.2)) mt mi1 t1 vs1 mt1 ml) (gNm i))) :=
  PS.imp' (ps_setLc2 hc hN hy hyl hsw hi ok hv hg ht hi1 hg1 ht1 he hs hs1) fun D σ H r => lc2_rd hG _ _ hsl hsl1 htt htt1 σ H _ (rdS_E r)
end
/-! ### locality -/
theorem turnsD2 {t t1 : Tgt} {vs vs1 : List Nat} {tt tt1 : MT} {el : ME} {mi1 : MI} [x : LT tt] [x1 : LT tt1] [y : LE el] [z : LI mi1] : ∀ (k i : Nat) (r : List Nat) (s h s' : Hi) (σ σ' : Sg) (a b : Itm) (D D' : Nat), Ag2 r s h → AS2 r σ σ' → RI2 r a b → r[D]? = some D' →
    turnsD a t vs tt mi1 t1 vs1 tt1 el D σ k i s = some s' → ∃ r' h', turnsD b t vs tt mi1 t1 vs1 tt1 el D' σ' k i h = some h' ∧ Ex2 r h r' h' ∧ Ag2 r' s' h'
  | 0, i, r, s, h, s', σ, σ', a, b, D, D', g, as, q, d, e => by
    have n := nxt2 g q i
    unfold turnsD at e ⊢
    cases z1 : a.nxt i s with
    | none => rw [z1] at e; cases e
    | some o =>
      rw [z1] at e n
      cases o with
      | some _ => cases e
      | none => cases z2 : b.nxt i h with
        | none => rw [z2] at n; exact n.elim
        | some o' => cases o' with
          | some _ => rw [z2] at n; exact n.elim
          | none => cases e; exact ⟨r, h, rfl, .refl, g⟩
  | k + 1, i, r, s, h, s', σ, σ', a, b, D, D', g, as, q, d, e => by
    have n := nxt2 g q i
    unfold turnsD at e ⊢
    cases z1 : a.nxt i s with
    | none => rw [z1] at e; cases e
    | some o =>
      rw [z1] at e n
      cases z2 : b.nxt i h with
      | none => rw [z2] at n; exact n.elim
      | some o' =>
        rw [z2] at n
        cases o with
        | none => cases o' with
          | some _ => exact n.elim
          | none => cases e; exact ⟨r, h, rfl, .refl, g⟩
        | some v => cases o' with
          | none => exact n.elim
          | some v' =>
            dsimp only at e ⊢
            cases z3 : t.put v (wipeM σ vs) with
            | none => rw [z3] at e; cases e
            | some τ =>
              obtain ⟨τ', w1, w2⟩ := put2 t n (wipe2 as vs) z3
              rw [z3] at e
              rw [w1]
              dsimp only at e ⊢
              have tk := x.run _ _ _ _ _ g w2
              cases z4 : tt τ s with
              | err => rw [z4] at e; cases e
              | ex _ _ _ => rw [z4] at e; cases e
              | ok c s2 =>
                rw [z4] at tk e
                obtain ⟨r2, h2, c', k1, k2, k3, k4⟩ := tk
                subst k4
                rw [k1]
                cases c with
                | false =>
                  dsimp only at e ⊢
                  obtain ⟨r3, h3, j1, j2, j3⟩ := turnsD2 k (i + 1) _ _ _ _ _ _ _ _ _ _ k3 (as.mono k2) (q.mono k2) (k2.pre d) e
                  exact ⟨r3, h3, j1, k2.trans j2, j3⟩
                | true =>
                  dsimp only at e ⊢
                  have ek := z.run _ _ _ _ _ k3 (w2.mono k2)
                  cases z5 : mi1 τ s2 with
                  | err => rw [z5] at e; cases e
                  | ex _ _ _ => rw [z5] at e; cases e
                  | ok it1 s3 =>
                    rw [z5] at ek e
                    obtain ⟨r3, h3, it1', j1, j2, j3, j4⟩ := ek
                    rw [j1]
                    dsimp only at e ⊢
                    rw [fuel2 j3 j4]
                    cases z6 : turnsC it1 t1 vs1 tt1 el D τ (it1.fuel s3) 0 s3 with
                    | none => rw [z6] at e; cases e
                    | some s4 =>
                      rw [z6] at e
                      obtain ⟨r4, h4, m1, m2, m3⟩ := turnsC2 _ _ _ _ _ _ _ _ _ _ _ _ j3 ((w2.mono k2).mono j2) j4 (j2.pre (k2.pre d)) z6
                      rw [m1]
                      dsimp only at e ⊢
                      have ee := (k2.trans j2).trans m2
                      obtain ⟨r5, h5, n1, n2, n3⟩ := turnsD2 k (i + 1) _ _ _ _ _ _ _ _ _ _ m3 (as.mono ee) (q.mono ee) (ee.pre d) e
                      exact ⟨r5, h5, n1, ee.trans n2, n3⟩
instance {mi mi1 : MI} {t t1 : Tgt} {vs vs1 : List Nat} {tt tt1 : MT} {el : ME} [z : LI mi] [x : LT tt] [z1 : LI mi1] [x1 : LT tt1] [y : LE el] : LE (eLc2 mi t vs tt mi1 t1 vs1 tt1 el) := ⟨fun r s h σ σ' g a => (z.run r s h σ σ' g a).bind fun r1 s1 h1 v v' e1 g1 q1 => by
  obtain ⟨g2, e2⟩ := g1.new (o := .lst []) (o' := .lst []) (.lst .nil)
  rw [fuel2 g1 q1]
  cases w : turnsD v t vs tt mi1 t1 vs1 tt1 el s1.length σ (v.fuel s1) 0 (s1 ++ [.lst []]) with
  | none => trivial
  | some s2 =>
    obtain ⟨r3, h3, j1, j2, j3⟩ := turnsD2 _ _ _ _ _ _ _ _ _ _ _ _ g2 ((a.mono e1).mono e2) (q1.mono e2) g1.idx w
    rw [j1]
    exact ⟨r3, h3, _, rfl, e2.trans j2, j3, .ref (j2.pre g1.idx)⟩⟩
end ML
end

section
set_option Elab.async false
set_option linter.all false
set_option maxRecDepth 100000
set_option maxHeartbeats 4000000
/-! Positional defaults; calls of a local that holds a def. -/
namespace ML
open PySem PySem.Spec PyProof.Rows L2 He
def pk4 {α : Type} (us ms ws ds : List α) (q : Nat × Nat) : Option α := match q.1 with
  | 0 => us[q.2]?
  | 1 => ms[q.2]?
  | 2 => ws[q.2]?
  | _ => ds[q.2]?
def arr4 {α : Type} : List (Nat × Nat) → List α → List α → List α → List α → List α
  | [], _, _, _, _ => []
  | q :: r, us, ms, ws, ds => match pk4 us ms ws ds q with
    | some x => x :: arr4 r us ms ws ds
    | none => arr4 r us ms ws ds
theorem arr4_vals {vs mz zs dz : List V} {us mv ws ds : List Value} (r1 : Vals vs us) (r2 : Vals mz mv) (r3 : Vals zs ws) (r4 : Vals dz ds) : ∀ sel : List (Nat × Nat), Vals (arr4 sel vs mz zs dz) (arr4 sel us mv ws ds)
  | [] => .nil
  | (k, i) :: r => by
    have t := arr4_vals r1 r2 r3 r4 r
    have key : (∃ x u, pk4 vs mz zs dz (k, i) = some x ∧ pk4 us mv ws ds (k, i) = some u ∧ RelV x u) ∨ (pk4 vs mz zs dz (k, i) = none ∧ pk4 us mv ws ds (k, i) = none) := by
      unfold pk4
      match k with
      | 0 => exact vals_at r1 i
      | 1 => exact vals_at r2 i
      | 2 => exact vals_at r3 i
      | k + 3 => exact vals_at r4 i
    unfold arr4
    rcases key with ⟨x, u, h1, h2, h3⟩ | ⟨h1, h2⟩
    · rw [h1, h2]; exact .cons h3 t
    · rw [h1, h2]; exact t
theorem arr4_rvs {G : Gx} {ρ : List Addr} {H : Hp} {vs mz zs dz : List VI} {us mv ws ds : List V} (r1 : RVs G ρ H vs us) (r2 : RVs G ρ H mz mv) (r3 : RVs G ρ H zs ws) (r4 : RVs G ρ H dz ds) : ∀ sel : List (Nat × Nat), RVs G ρ H (arr4 sel vs mz zs dz) (arr4 sel us mv ws ds)
  | [] => .nil
  | (k, i) :: r => by
    have t := arr4_rvs r1 r2 r3 r4 r
    have key : (∃ x u, pk4 vs mz zs dz (k, i) = some x ∧ pk4 us mv ws ds (k, i) = some u ∧ RV G ρ H x u) ∨ (pk4 vs mz zs dz (k, i) = none ∧ pk4 us mv ws ds (k, i) = none) := by
      unfold pk4
      match k with
      | 0 => exact rvs_at r1 i
      | 1 => exact rvs_at r2 i
      | 2 => exact rvs_at r3 i
      | k + 3 => exact rvs_at r4 i
    unfold arr4
    rcases key with ⟨x, u, h1, h2, h3⟩ | ⟨h1, h2⟩
    · rw [h1, h2]; exact .cons h3 t
    · rw [h1, h2]; exact t
theorem rvs_at2 {r : List Nat} {xs us : List VI} (q : RVs2 r xs us) (i : Nat) : (∃ x u, xs[i]? = some x ∧ us[i]? = some u ∧ RV2 r x u) ∨ (xs[i]? = none ∧ us[i]? = none) := by
  cases e : xs[i]? with
  | none => exact .inr ⟨rfl, q.none e⟩
  | some x =>
    obtain ⟨u, h1, h2⟩ := q.get e
    exact .inl ⟨x, u, rfl, h1, h2⟩
theorem arr42 {r : List Nat} {us ms ws ds us' ms' ws' ds' : List VI} (r1 : RVs2 r us us') (r2 : RVs2 r ms ms') (r3 : RVs2 r ws ws') (r4 : RVs2 r ds ds') : ∀ sel : List (Nat × Nat), RVs2 r (arr4 sel us ms ws ds) (arr4 sel us' ms' ws' ds')
  | [] => .nil
  | (k, i) :: q => by
    have t := arr42 r1 r2 r3 r4 q
    have key : (∃ x u, pk4 us ms ws ds (k, i) = some x ∧ pk4 us' ms' ws' ds' (k, i) = some u ∧ RV2 r x u) ∨ (pk4 us ms ws ds (k, i) = none ∧ pk4 us' ms' ws' ds' (k, i) = none) := by
      unfold pk4
      match k with
      | 0 => exact rvs_at2 r1 i
      | 1 => exact rvs_at2 r2 i
      | 2 => exact rvs_at2 r3 i
      | k + 3 => exact rvs_at2 r4 i
    unfold arr4
    rcases key with ⟨x, u, h1, h2, h3⟩ | ⟨h1, h2⟩
    · rw [h1, h2]; exact .cons h3 t
    · rw [h1, h2]; exact t
/-- a def called by some values, keywords, defaults -/
theorem xfnK {X : Cx} {W : WX} {nm : Nat → Option Str} {k k' n : Nat} {q : Defn} {ps ks : List Str} {g : MF} {arr : List VI → List VI → List VI} (d : XOk X nm k q ps g) (bn : Bnd (GxOf X.K X.mg nm) X.K (fdOf X.K q) ps n ks arr) (hr : Room k' X.A) (tk : Takes X W) (h : k + 2 ≤ k' := by decide) :
    CallK X (GxOf X.K X.mg nm) W (.ref (q X.K)) n ks (fnK g arr) ∧ PySem.W.keepIn X.K (.ref (q X.K)) = true := ⟨callK_fn (d.fp hr h) bn tk, d.kp⟩
/-! ### a local that holds a def of the module -/
def lkF : List (S × MF) → S → Option MF
  | [], _ => none
  | (k, g) :: r, s => match decide (k = s) with
    | true => some g
    | false => lkF r s
def eCallL (i : Nat) (tbl : S → Option MF) (ma : MA) : ME := fun σ h => match σ[i]? with
  | some (some (.glo x)) => match tbl x with
    | some g => (ma σ h).bind fun vs h1 => g vs h1
    | none => .err
  | _ => .err
def CLOk (X : Cx) (G : Gx) (W : WX) (tbl : S → Option MF) : Prop := ∀ x g, tbl x = some g → ∃ a, G.mg (toStr x) = some (.ref a) ∧ CallM X G W (.ref a) g ∧ PySem.W.keepIn X.K (.ref a) = true
section
variable {G : Gx} {W : WX} {X : Cx} {x : Str} {p pos : Pos} {e : Expr} {es : List Expr} {ma : MA} {i : Nat} {tbl : S → Option MF}
theorem clOk_nil : CLOk X G W (lkF []) := fun _ _ h => nomatch h
theorem clOk_cons {x : S} {f : MF} {a : Addr} {r : List (S × MF)} (h1 : G.mg (toStr x) = some (.ref a)) (h2 : CallM X G W (.ref a) f) (h3 : PySem.W.keepIn X.K (.ref a) = true) (t : CLOk X G W (lkF r)) : CLOk X G W (lkF ((x, f) :: r)) := fun y g h => by
  unfold lkF at h
  cases q : decide (x = y) with
  | true =>
    rw [q] at h
    cases h
    obtain rfl := of_decide_eq_true q
    exact ⟨a, h1, h2, h3⟩
  | false => rw [q] at h; exact t y g h
theorem me_callL (hN : X.N[i]? = some x) (hv : Vis X.env.scope x) (hT : CLOk X G W tbl) (ha : PA X (e :: es) (rdA G W ma)) (hdb : (x == ("__debug__" : Str)) = false := by decide) (hcd : (x == ("__classdict__" : Str)) = false := by decide)
    (he : starEach (e :: es) X.env = (false, eval e X.env) :: starEach es X.env := by rfl) (hpl : (backTo pos (starEach es X.env)).any (·.1) = false := by rfl) : PE X (.Call (.Name x p) (e :: es) [] pos) (rdE G W (eCallL i tbl ma)) := by
  refine ⟨fun pins s σ H Q I ⟨ρ, σi, h, as, ag, fin⟩ => ?_⟩
  unfold eCallL at fin
  cases q : σi[i]? with
  | none => rw [q] at fin; exact fin.elim
  | some o =>
    rw [q] at fin
    cases o with
    | none => exact fin.elim
    | some v =>
      cases v with
      | glo y =>
        dsimp only at fin
        cases q1 : tbl y with
        | none => rw [q1] at fin; exact fin.elim
        | some g =>
          rw [q1] at fin
          obtain ⟨a, k1, k2, k3⟩ := hT y g q1
          obtain ⟨xv, hs, rx⟩ := as.at_ i _ q
          obtain ⟨a', e1, rfl⟩ : ∃ a', G.mg (toStr y) = some (.ref a') ∧ xv = .ref a' := by cases rx with | glo e => exact ⟨_, e, rfl⟩
          rw [k1] at e1
          cases e1
          refine wpAny_Call_Name_kw (thn ((pe_var (pos := p) hN hv hdb hcd).run pins s σ H (fun v H1 => v = .ref a ∧ H1 = H) I ⟨.ref a, hs, rfl, rfl⟩) fun u s1 ⟨v, H1, I1, r1, q1⟩ => ?_)
          obtain ⟨rfl, rfl⟩ := q1
          cases r1
          have A : rdA G W ma σ H1 fun vs H2 => ∃ ρ1 h1 args, RVs G ρ1 H2 args vs ∧ Ag G ρ1 h1 H2 ∧ FinG G ρ1 H2 (RV G) Q (fun c d H' => W c d σ H') (g args h1) :=
            rdG_go as ag fin fun ρ1 H1 h1 xs ys st as ag r f => ⟨ρ1, h1, xs, r, ag, f⟩
          refine PySem.W.callWith_K (h₀ := X.base) I.ok.mod.kin k3 (thn (ha.run pos pins s1 σ _ _ I1 A) fun us s2 ⟨vs, H2, I2, r, q⟩ => ⟨I2.kIn, ?_⟩) he hpl
          obtain ⟨ρ1, h1, args, ra, ag1, f1⟩ := q
          exact k2 pins s2 σ H2 us vs args ρ1 h1 Q I2 r ra ag1 f1
      | _ => exact fin.elim
end
class LTf (tbl : S → Option MF) : Prop where
  run : ∀ x g, tbl x = some g → LF g
instance : LTf (lkF []) := ⟨fun _ _ h => nomatch h⟩
instance {x : S} {f : MF} {r : List (S × MF)} [a : LF f] [b : LTf (lkF r)] : LTf (lkF ((x, f) :: r)) := ⟨fun y g h => by
  unfold lkF at h
  cases q : decide (x = y) with
  | true => rw [q] at h; cases h; exact a
  | false => rw [q] at h; exact b.run y g h⟩
instance {i : Nat} {tbl : S → Option MF} {ma : MA} [c : LTf tbl] [x : LA ma] : LE (eCallL i tbl ma) := ⟨fun r s h σ σ' g a => by
  unfold eCallL
  cases z : σ[i]? with
  | none => trivial
  | some o =>
    cases o with
    | none => trivial
    | some v =>
      obtain ⟨w, k1, k2⟩ := a.at_ i v z
      rw [k1]
      cases k2 with
      | glo y =>
        dsimp only
        cases q : tbl y with
        | none => trivial
        | some f => exact (x.run r s h σ σ' g a).bind fun r1 s1 h1 vs vs' e1 g1 q1 => (c.run y f q).run _ _ _ _ _ g1 q1
      | _ => trivial⟩
end ML
end

section
set_option Elab.async false
set_option linter.all false
set_option maxRecDepth 100000
set_option maxHeartbeats 4000000
/-! tuple * 0 and tuple * 1. -/
namespace L2
open PySem PySem.Spec PyProof.Rows
theorem tuple_mul1 (l : Addr) (items : Array Value) (n : Nat) (dd : Option Addr) (sl : Array (Option Value)) (u : Tok) :
    Meets (Builtin.«tuple.__mul__» ⟨[.ref l, .int 1 u], []⟩) (fun _ R s => s.heap.get? l = some { cls := .type "tuple", dict := dd, data := .seq items n, slots := sl } ∧
      R (.ok (.ret (Value.ref l))) s) :=
  .of_wp fun prog w A R s h => by
    obtain ⟨hp, g, d, tk, os⟩ := s
    obtain ⟨hl, h⟩ := h
    have f1 := AutoSeq1.idx_int
    wp_walk using wpAny_loadPart' hl
    exact ⟨_, rfl, h⟩
theorem tuple_mul0 (l : Addr) (items : Array Value) (n : Nat) (dd : Option Addr) (sl : Array (Option Value)) (u : Tok) (c1 : (items.isEmpty || (0 : Int) == 1) = false) :
    Meets (Builtin.«tuple.__mul__» ⟨[.ref l, .int 0 u], []⟩) (fun _ R s => s.heap.get? l = some { cls := .type "tuple", dict := dd, data := .seq items n, slots := sl } ∧
      R (.ok (.ret (Value.ref s.heap.objs.size))) { s with heap := s.heap.push { cls := Value.type "tuple", data := Data.seq #[] }, toks := s.toks }) :=
  .of_wp fun prog w A R s h => by
    obtain ⟨hp, g, d, tk, os⟩ := s
    obtain ⟨hl, h⟩ := h
    have f1 := AutoSeq1.idx_int
    wp_walk using wpAny_loadPart' hl
    repeat (first
      | (refine wpAny_ite_false (decide_eq_false (by rw [c1]; exact Bool.false_ne_true)) ?_; wp_walk using wpAny_loadPart' hl))
    exact ⟨_, rfl, h⟩
def rRepT1 (K : PySem.W.Frag) : R2 := fun x y H Q => ∃ l xs, x = .ref l ∧ y = .int 1 ∧ SqT K H l xs ∧ Q (.ref l) H
def rRepT0 (K : PySem.W.Frag) : R2 := fun x y H Q => ∃ l xs, x = .ref l ∧ y = .int 0 ∧ SqT K H l xs ∧ xs ≠ [] ∧ ∀ p, H p = none → Q (.ref p) (upd H p (.tup []))
section
variable {X : Cx}
theorem op_repT1 : OpR X (binaryOp .Mult) (rRepT1 X.K) := by
  intro pins s σ H x y v u Q I rx ry h
  obtain ⟨l, xs, rfl, rfl, hT, q⟩ := h
  cases rx
  obtain ⟨t, rfl⟩ := ry
  obtain ⟨its, r, ⟨⟨cls, dd, data, sl⟩, ho, hc, n, hd⟩, hs⟩ := I.tuple hT
  simp only at hc hd
  subst hc hd
  refine wpAny_binaryOp_repeat_ref (T := "tuple") (U := "int") (by decide) ⟨_, ho, rfl⟩ (fun s' => typeIs_int s' 1 t) noFill_tuple_mul F.fills_int_mul F.slot_int_rmul repeat_tuple F.slot_int_index.lookup
    (call_meets F.slot_int_rmul (typeIs_int s 1 t) F.entry_int_rmul (F.args_int_rmul_2 _ _) (int_rmul_tuple 1 t l its.toArray n dd sl)
      ⟨ho, rfl, ⟨_, ho, rfl⟩, call_meets F.slot_tuple_mul ⟨_, ho, rfl⟩ F.entry_tuple_mul (F.args_tuple_mul_2 _ _) (tuple_mul1 l its.toArray n dd sl t) ⟨ho, ?_⟩⟩)
  exact ⟨.ref l, _, I, rfl, q⟩
theorem op_repT0 : OpR X (binaryOp .Mult) (rRepT0 X.K) := by
  intro pins s σ H x y v u Q I rx ry h
  obtain ⟨l, xs, rfl, rfl, hT, hne, q⟩ := h
  cases rx
  obtain ⟨t, rfl⟩ := ry
  obtain ⟨its, r, ⟨⟨cls, dd, data, sl⟩, ho, hc, n, hd⟩, hs⟩ := I.tuple hT
  simp only at hc hd
  subst hc hd
  have hle : its.length = xs.length := r.length.symm
  have hn : its ≠ [] := fun e => hne (by
    rw [e] at hle
    exact List.eq_nil_of_length_eq_zero hle.symm)
  have hi : its.toArray.isEmpty = false := by
    cases its with
    | nil => exact absurd rfl hn
    | cons a b => rfl
  have c1 : (its.toArray.isEmpty || (0 : Int) == 1) = false := by rw [hi]; rfl
  refine wpAny_binaryOp_repeat_ref (T := "tuple") (U := "int") (by decide) ⟨_, ho, rfl⟩ (fun s' => typeIs_int s' 0 t) noFill_tuple_mul F.fills_int_mul F.slot_int_rmul repeat_tuple F.slot_int_index.lookup
    (call_meets F.slot_int_rmul (typeIs_int s 0 t) F.entry_int_rmul (F.args_int_rmul_2 _ _) (int_rmul_tuple 0 t l its.toArray n dd sl)
      ⟨ho, rfl, ⟨_, ho, rfl⟩, call_meets F.slot_tuple_mul ⟨_, ho, rfl⟩ F.entry_tuple_mul (F.args_tuple_mul_2 _ _) (tuple_mul0 l its.toArray n dd sl t c1) ⟨ho, ?_⟩⟩)
  refine ⟨.ref s.heap.objs.size, _, I.laid (t' := s.toks) (o := .tup []) (fun b ob q => Heap.get?_push_of_some _ q) (Nat.le_refl _) ?_, rfl, q _ (I.hok.fresh (Nat.le_refl _))⟩
  exact ⟨by simp, _, .nil, IsTup.new _ _⟩
end
end L2
namespace ML
open PySem L2
/-- * with tuples not at all or once -/
def fMulX : Op2 := fun x y h => match x, y with
  | .tup xs, .int k => match decide (k = 1) with
    | true => some (.tup xs, h)
    | false => match decide (k = 0) && !xs.isEmpty with
      | true => some (.tup [], h)
      | false => fMul x y h
  | x, y => fMul x y h
variable {X : Cx} {G : Gx}
theorem mo_mulX (hG : G.K = X.K) : OpR X (binaryOp .Mult) (rd2 G fMulX) := opR_at fun ρ h H xi yi x y Q ag r1 r2 f => by
  have fb : FinO G ρ H (RV G) Q (fMul xi yi h) → ∃ r : R2, OpR X (binaryOp .Mult) r ∧ r x y H Q := fun f => ⟨rd2 G fMul, mo_mul hG, ρ, h, xi, yi, ag, r1, r2, f⟩
  unfold fMulX at f
  cases r1 with
  | @tup xs ys a t1 s1 =>
    cases r2 with
    | int k =>
      dsimp only at f
      cases q1 : decide (k = 1) with
      | true =>
        rw [q1] at f
        have := of_decide_eq_true q1
        subst this
        exact ⟨_, op_repT1, a, ys, rfl, rfl, hG ▸ t1, f.ok ag (.tup t1 s1)⟩
      | false =>
        rw [q1] at f
        dsimp only at f
        cases q0 : decide (k = 0) && !xs.isEmpty with
        | true =>
          rw [q0] at f
          obtain ⟨k0, l0⟩ := Bool.and_eq_true_iff.mp q0
          have := of_decide_eq_true k0
          subst this
          refine ⟨_, op_repT0, a, ys, rfl, rfl, hG ▸ t1, fun z => ?_, fun p hp => ?_⟩
          · have e := s1.nil_iff.mpr z
            subst e
            cases l0
          · exact f ρ _ _ (Stp.more hp) (ag.more hp) (.tup (.inl (.inl upd_same)) .nil)
        | false =>
          rw [q0] at f
          exact fb f
    | _ => exact fb f
  | _ => exact fb f
instance : LOp fMulX := ⟨fun r s h x y x' y' g p q => by
  have fb := LOp.run (f := fMul) r s h _ _ _ _ g p q
  unfold fMulX
  cases p with
  | tup i =>
    cases q with
    | int j =>
      dsimp only
      rw [isEmp2 i]
      split
      · exact .ok g (.tup i)
      · split
        · exact .ok g (.tup .nil)
        · exact fb
    | _ => exact fb
  | _ => exact fb⟩
end ML
end

section
set_option Elab.async false
set_option linter.all false
set_option maxRecDepth 100000
set_option maxHeartbeats 4000000
/-! The M layer, part 32: == of lists of unlike lengths, whatever they hold. -/
namespace ML
open PySem PySem.Spec PyProof.Rows L2 He
def fEqZ : Op2 := fun x y h => match x, y with
  | .ref a, .ref b => match h[a]?, h[b]? with
    | some (.lst xa), some (.lst xb) => match Nat.beq xa.length xb.length with
      | true => fEqX x y h
      | false => some (.bl false, h)
    | _, _ => fEqX x y h
  | _, _ => fEqX x y h
section
variable {G : Gx} {ρ : List Addr} {h : Hi} {H : Hp} {X : Cx} {Q : VK}
theorem vals_len {xs : List V} {its : List Value} (v : Vals xs its) : xs.length = its.length := v.length
theorem mo_eqZ (hG : G.K = X.K) (hu : X.A.units + 64 < cLine) : OpR X (compareOp .Eq) (rd2 G fEqZ) := fun pins s σ H x y v u Q I rx ry q => by
  obtain ⟨ρ, h, xi, yi, ag, r1, r2, f⟩ := q
  have old : FinO G ρ H (RV G) Q (fEqX xi yi h) → wpAny (model X.prog X.w) X.A (compareOp .Eq v u) (EP X pins σ Q) X.xe s := fun f => mo_eqX hG hu pins s σ H x y v u Q I rx ry ⟨ρ, h, xi, yi, ag, r1, r2, f⟩
  unfold fEqZ at f
  cases r1 with
  | @ref n a q1 =>
    cases r2 with
    | @ref m b q2 =>
      dsimp only at f
      split at f
      · rename_i ka kb z1 z2
        cases fl : Nat.beq ka.length kb.length with
        | true => rw [fl] at f; exact old f
        | false =>
          rw [fl] at f
          obtain ⟨la, ha, ra⟩ := ag.at_ z1 q1
          obtain ⟨lb, hb, rb⟩ := ag.at_ z2 q2
          cases (show v = Value.ref a from rx)
          cases (show u = Value.ref b from ry)
          obtain ⟨_, va, na, kva, da⟩ := (show ObjOk X.prog X.w H s.heap a (.lst la) from I.hok a _ ha)
          obtain ⟨_, vb, nb, kvb, db⟩ := (show ObjOk X.prog X.w H s.heap b (.lst lb) from I.hok b _ hb)
          have ne : (va.toArray.size != vb.toArray.size) = true := by
            have h1 := ra.length
            have h2 := rb.length
            have h3 := kva.length
            have h4 := kvb.length
            have h5 := Nat.ne_of_beq_eq_false fl
            simp only [List.size_toArray, bne_iff_ne, ne_eq]
            omega
          exact P.eq_list_lengths da db ne (by omega) ⟨.bl _, H, I, rfl, f.ok ag (.bl _)⟩
      · exact old f
    | _ => exact old (by simpa [fEqZ] using f)
  | _ => exact old (by simpa [fEqZ] using f)
end
section
variable {r : List Nat} {s h : Hi}
instance : LOp fEqZ := ⟨fun r s h x y x' y' g p q => by
  have old := LOp.run (f := fEqX) r s h x y x' y' g p q
  unfold fEqZ
  cases p with
  | ref i =>
    cases q with
    | ref j =>
      obtain ⟨o, o', z1, z2, z3⟩ := g.no i
      obtain ⟨u, u', y1, y2, y3⟩ := g.no j
      dsimp only
      rw [z1, z2, y1, y2]
      cases z3 with
      | lst t =>
        cases y3 with
        | lst t' =>
          dsimp only
          rw [← t.length, ← t'.length]
          rename_i ka kb la lb
          cases f : Nat.beq ka.length la.length with
          | true => exact old
          | false => exact .ok g (.bl _)
        | _ => exact old
      | _ => exact old
    | _ => exact old
  | _ => exact old⟩
end
end ML
end

section
set_option Elab.async false
set_option linter.all false
set_option maxRecDepth 100000
set_option maxHeartbeats 0
namespace Lw
open PySem PySem.Spec PyProof.Rows L2 He ML
abbrev P : Program := PySem.Challenge.pw_epochrooms_k42_spans_and_faults
def top (i : Nat) : Stmt := PySem.Challenge.pw_epochrooms_k42_spans_and_faults.main.body.getD i (.Pass ⟨0, 0, 0, 0⟩)
def clsBody (s : Stmt) : List Stmt := match s with
  | .ClassDef _ _ _ b _ _ _ _ _ _ _ => b
  | _ => []
def clsAt (i j : Nat) : Stmt := (clsBody (top i)).getD j (.Pass ⟨0, 0, 0, 0⟩)
def nm (c : Nat) : Option Str := match c with
  | 2 => some "Book"
  | 3 => some "EpochBook"
  | 4 => some "LookBook"
  | 5 => some "StillBook"
  | 13 => some "NoSwitch"
  | 14 => some "NoValue"
  | 15 => some "NoBook"
  | _ => none
def s_counts : S := [99, 111, 117, 110, 116, 115]
theorem t_counts : ("counts" : Str) = toStr s_counts := by decide +kernel
def s_still : S := [115, 116, 105, 108, 108]
theorem t_still : ("still" : Str) = toStr s_still := by decide +kernel
def s_read : S := [114, 101, 97, 100]
theorem t_read : ("read" : Str) = toStr s_read := by decide +kernel
def s_sleep : S := [115, 108, 101, 101, 112]
theorem t_sleep : ("sleep" : Str) = toStr s_sleep := by decide +kernel
def s_WORDS : S := [87, 79, 82, 68, 83]
theorem t_WORDS : ("WORDS" : Str) = toStr s_WORDS := by decide +kernel
def s_check : S := [99, 104, 101, 99, 107]
theorem t_check : ("check" : Str) = toStr s_check := by decide +kernel
def s_look : S := [108, 111, 111, 107]
theorem t_look : ("look" : Str) = toStr s_look := by decide +kernel
def s_chain : S := [99, 104, 97, 105, 110]
theorem t_chain : ("chain" : Str) = toStr s_chain := by decide +kernel
def s_epochs : S := [101, 112, 111, 99, 104, 115]
theorem t_epochs : ("epochs" : Str) = toStr s_epochs := by decide +kernel
def s_behind : S := [98, 101, 104, 105, 110, 100]
theorem t_behind : ("behind" : Str) = toStr s_behind := by decide +kernel
def s_fetch : S := [102, 101, 116, 99, 104]
theorem t_fetch : ("fetch" : Str) = toStr s_fetch := by decide +kernel
def s_mark : S := [109, 97, 114, 107]
theorem t_mark : ("mark" : Str) = toStr s_mark := by decide +kernel
def s_test : S := [116, 101, 115, 116]
theorem t_test : ("test" : Str) = toStr s_test := by decide +kernel
def s_step : S := [115, 116, 101, 112]
theorem t_step : ("step" : Str) = toStr s_step := by decide +kernel
def s_told : S := [116, 111, 108, 100]
theorem t_told : ("told" : Str) = toStr s_told := by decide +kernel
def s_way : S := [119, 97, 121]
theorem t_way : ("way" : Str) = toStr s_way := by decide +kernel
def s_looks : S := [108, 111, 111, 107, 115]
theorem t_looks : ("looks" : Str) = toStr s_looks := by decide +kernel
def s_word : S := [119, 111, 114, 100]
theorem t_word : ("word" : Str) = toStr s_word := by decide +kernel
def s_look_at_word : S := [108, 111, 111, 107, 95, 97, 116, 95, 119, 111, 114, 100]
theorem t_look_at_word : ("look_at_word" : Str) = toStr s_look_at_word := by decide +kernel
def s_own : S := [111, 119, 110]
theorem t_own : ("own" : Str) = toStr s_own := by decide +kernel
def s_ahead : S := [97, 104, 101, 97, 100]
theorem t_ahead : ("ahead" : Str) = toStr s_ahead := by decide +kernel
def s_fresh : S := [102, 114, 101, 115, 104]
theorem t_fresh : ("fresh" : Str) = toStr s_fresh := by decide +kernel
def s_last : S := [108, 97, 115, 116]
theorem t_last : ("last" : Str) = toStr s_last := by decide +kernel
def s_equal : S := [101, 113, 117, 97, 108]
theorem t_equal : ("equal" : Str) = toStr s_equal := by decide +kernel
def s_add : S := [97, 100, 100]
theorem t_add : ("add" : Str) = toStr s_add := by decide +kernel
def s_set : S := [115, 101, 116]
theorem t_set : ("set" : Str) = toStr s_set := by decide +kernel
def s_next : S := [110, 101, 120, 116]
theorem t_next : ("next" : Str) = toStr s_next := by decide +kernel
def s_both : S := [98, 111, 116, 104]
theorem t_both : ("both" : Str) = toStr s_both := by decide +kernel
def s_none : S := [110, 111, 110, 101]
theorem t_none : ("none" : Str) = toStr s_none := by decide +kernel
def s_anywhere : S := [97, 110, 121, 119, 104, 101, 114, 101]
theorem t_anywhere : ("anywhere" : Str) = toStr s_anywhere := by decide +kernel
def s_outside : S := [111, 117, 116, 115, 105, 100, 101]
theorem t_outside : ("outside" : Str) = toStr s_outside := by decide +kernel
def s_inside : S := [105, 110, 115, 105, 100, 101]
theorem t_inside : ("inside" : Str) = toStr s_inside := by decide +kernel
def s_late : S := [108, 97, 116, 101]
theorem t_late : ("late" : Str) = toStr s_late := by decide +kernel
def s_WAY : S := [87, 65, 89]
theorem t_WAY : ("WAY" : Str) = toStr s_WAY := by decide +kernel
def s_empty : S := []
theorem t_empty : ("" : Str) = toStr s_empty := by decide +kernel
def s_first_wrong : S := [102, 105, 114, 115, 116, 95, 119, 114, 111, 110, 103]
theorem t_first_wrong : ("first_wrong" : Str) = toStr s_first_wrong := by decide +kernel
def s_hands : S := [104, 97, 110, 100, 115]
theorem t_hands : ("hands" : Str) = toStr s_hands := by decide +kernel
def s_most : S := [109, 111, 115, 116]
theorem t_most : ("most" : Str) = toStr s_most := by decide +kernel
def s_order : S := [111, 114, 100, 101, 114]
theorem t_order : ("order" : Str) = toStr s_order := by decide +kernel
def s_value : S := [118, 97, 108, 117, 101]
theorem t_value : ("value" : Str) = toStr s_value := by decide +kernel
def s_epoch_faults : S := [101, 112, 111, 99, 104, 95, 102, 97, 117, 108, 116, 115]
theorem t_epoch_faults : ("epoch_faults" : Str) = toStr s_epoch_faults := by decide +kernel
def s_look_faults : S := [108, 111, 111, 107, 95, 102, 97, 117, 108, 116, 115]
theorem t_look_faults : ("look_faults" : Str) = toStr s_look_faults := by decide +kernel
def s_still_faults : S := [115, 116, 105, 108, 108, 95, 102, 97, 117, 108, 116, 115]
theorem t_still_faults : ("still_faults" : Str) = toStr s_still_faults := by decide +kernel
def se_bd_EpochBookD_initD_3_ : List (Nat × Nat) := [(0, 0), (0, 1), (0, 2), (1, 0), (1, 1), (1, 2), (1, 3), (1, 4), (1, 5)]
def ar_bd_EpochBookD_initD_3_ (us ws : List VI) : List VI := arr3 se_bd_EpochBookD_initD_3_ us [(.bl true), (.str s_behind), (.str s_fresh), (.str s_equal), (.str s_still), (.bl true)] ws
def se_bd_LookBookD_initD_1_ : List (Nat × Nat) := [(0, 0), (1, 0), (1, 1), (1, 2)]
def ar_bd_LookBookD_initD_1_ (us ws : List VI) : List VI := arr3 se_bd_LookBookD_initD_1_ us [(.bl true), (.str s_behind), (.str s_none)] ws
def se_bd_StillBookD_initD_2_ : List (Nat × Nat) := [(0, 0), (0, 1), (1, 0), (1, 1), (1, 2)]
def ar_bd_StillBookD_initD_2_ (us ws : List VI) : List VI := arr3 se_bd_StillBookD_initD_2_ us [(.str s_outside), (.str s_behind), (.str s_none)] ws
def tb_ORDERS : List (S × VI) := [(s_check, (.tup [(.bl false), (.bl true)])), (s_fetch, (.tup [(.str s_ahead), (.str s_behind)])), (s_mark, (.tup [(.str s_own), (.str s_fresh)])), (s_test, (.tup [(.str s_last), (.str s_equal)])), (s_step, (.tup [(.str s_add), (.str s_set), (.str s_still)])), (s_told, (.tup [(.bl false), (.bl true)])), (s_look, (.tup [(.str s_ahead), (.str s_behind)])), (s_chain, (.tup [(.str s_next), (.str s_both), (.str s_none)])), (s_still, (.tup [(.str s_anywhere), (.str s_outside)])), (s_read, (.tup [(.str s_ahead), (.str s_behind)])), (s_sleep, (.tup [(.str s_inside), (.str s_late), (.str s_outside), (.str s_none)]))]
def tb_FAULTS : List (S × VI) := [(s_epochs, (.glo s_epoch_faults)), (s_looks, (.glo s_look_faults)), (s_still, (.glo s_still_faults))]
def i_str : IsS := ⟨(some false), (some false), (some false), (some true), (some false), (some false), (some false), [(2, false), (3, false), (4, false), (5, false)]⟩
def i_bool : IsS := ⟨(some false), (some true), (some false), (some false), (some false), (some false), (some false), [(2, false), (3, false), (4, false), (5, false)]⟩
def i_Book : IsS := ⟨(some false), (some false), (some false), (some false), (some false), (some false), (some false), [(2, true), (3, true), (4, true), (5, true)]⟩
def i_int : IsS := ⟨(some false), (some true), (some true), (some false), (some false), (some false), (some false), [(2, false), (3, false), (4, false), (5, false)]⟩
def i_EpochBook_LookBook_StillBook : IsS := ⟨(some false), (some false), (some false), (some false), (some false), (some false), (some false), [(2, false), (3, true), (4, true), (5, true)]⟩
def i_list : IsS := ⟨(some false), (some false), (some false), (some false), (some true), (some false), (some false), [(2, false), (3, false), (4, false), (5, false)]⟩
def m_BookD_lenD : MS := (sRet (eCB cLen (aCons (eCon (lkT [(2, (.tup [])), (3, (.tup [(.str s_epochs), (.str s_behind), (.str s_check), (.str s_fetch), (.str s_mark), (.str s_test), (.str s_step), (.str s_told)])), (4, (.tup [(.str s_check), (.str s_look), (.str s_chain)])), (5, (.tup [(.str s_counts), (.str s_still), (.str s_read), (.str s_sleep)]))]) s_WORDS (eV 0)) aNil)))
def f_BookD_lenD : MF := runB 1 0 m_BookD_lenD
def m__law_switches : MS := (sSeq (sIf (tOf (eBin fEq (eV 0) (eC (.str s_epochs)))) (sRet (eLst (aCons (eC (.str s_epochs)) (aCons (eC (.str s_behind)) (aCons (eC (.str s_check)) (aCons (eC (.str s_fetch)) (aCons (eC (.str s_mark)) (aCons (eC (.str s_test)) (aCons (eC (.str s_step)) (aCons (eC (.str s_told)) aNil)))))))))) sNx) (sSeq (sRet (eIf (tOf (eBin fEq (eV 0) (eC (.str s_looks)))) (eLst (aCons (eC (.str s_check)) (aCons (eC (.str s_look)) (aCons (eC (.str s_chain)) aNil)))) (eLst (aCons (eC (.str s_counts)) (aCons (eC (.str s_still)) (aCons (eC (.str s_read)) (aCons (eC (.str s_sleep)) aNil))))))) sNx))
def f__law_switches : MF := runB 1 0 m__law_switches
def m_Book_look_at_word : MS := (sIf (tOrM (tNotM (tOf (eIsi i_str.t (eV 1)))) (tOf (eBin fNotIn (eV 1) (eCon (lkT [(2, (.tup [])), (3, (.tup [(.str s_epochs), (.str s_behind), (.str s_check), (.str s_fetch), (.str s_mark), (.str s_test), (.str s_step), (.str s_told)])), (4, (.tup [(.str s_check), (.str s_look), (.str s_chain)])), (5, (.tup [(.str s_counts), (.str s_still), (.str s_read), (.str s_sleep)]))]) s_WORDS (eV 0))))) (sRaise 13 s_word (eV 1)) sNx)
def f_Book_look_at_word : MF := runB 2 0 m_Book_look_at_word
def m_BookD_getitemD : MS := (sSeq (sDrop (eMeth (lkT [(2, f_Book_look_at_word), (3, f_Book_look_at_word), (4, f_Book_look_at_word), (5, f_Book_look_at_word)]) s_look_at_word (eV 0) (aCons (eV 1) aNil))) (sSeq (sRet (eBin fIx (eFld [2, 3, 4, 5] s_own (eV 0)) (eV 1))) sNx))
def f_BookD_getitemD : MF := runB 2 0 m_BookD_getitemD
def m_values_at : MS := (sSeq (sIf (tOf (eBin fEq (eV 0) (eC (.str s_epochs)))) (sRet (eTupRg (eC (.int 2)) (eBin fAdd (eC (.int 6)) (eC (.int 1))))) sNx) (sSeq (sIf (tOf (eBin fEq (eV 0) (eC (.str s_behind)))) (sRet (eTupRg (eC (.int 1)) (eBin fAdd (eIxU (lkT [(2, f_BookD_getitemD), (3, f_BookD_getitemD), (4, f_BookD_getitemD), (5, f_BookD_getitemD)]) (eV 1) (eC (.str s_epochs))) (eC (.int 1))))) sNx) (sSeq (sRet (eIf (tOf (eBin fEq (eV 0) (eC (.str s_counts)))) (eTupRg (eC (.int 1)) (eBin fAdd (eC (.int 4)) (eC (.int 1)))) (eKd (lkS tb_ORDERS) (eV 0)))) sNx)))
def f_values_at : MF := runB 2 0 m_values_at
def m_BookD_eqD : MS := (sRet (eAnd (eIsi i_Book.t (eV 1)) (eAnd (eBin fEqX (eCon (lkT [(2, (.str s_empty)), (3, (.str s_epochs)), (4, (.str s_looks)), (5, (.str s_still))]) s_WAY (eV 0)) (eCon (lkT [(2, (.str s_empty)), (3, (.str s_epochs)), (4, (.str s_looks)), (5, (.str s_still))]) s_WAY (eV 1))) (eBin fEqX (eFld [2, 3, 4, 5] s_own (eV 0)) (eFld [2, 3, 4, 5] s_own (eV 1))))))
def f_BookD_eqD : MF := runB 2 0 m_BookD_eqD
def m_is_whole : MS := (sRet (eAnd (eIsi i_int.t (eV 0)) (eNot (eIsi i_bool.t (eV 0)))))
def f_is_whole : MF := runB 1 0 m_is_whole
def m_is_same : MS := (sSeq (sIf (tOf (eIsi i_bool.t (eV 1))) (sRet (eAnd (eIsi i_bool.t (eV 0)) (eCmpU [3, 4, 5] (lkT [(3, f_BookD_eqD), (4, f_BookD_eqD), (5, f_BookD_eqD)]) fEqX (eV 0) (eV 1)))) sNx) (sSeq (sIf (tOf (eIsi i_str.t (eV 1))) (sRet (eAnd (eIsi i_str.t (eV 0)) (eCmpU [3, 4, 5] (lkT [(3, f_BookD_eqD), (4, f_BookD_eqD), (5, f_BookD_eqD)]) fEqX (eV 0) (eV 1)))) sNx) (sSeq (sRet (eAnd (eCall f_is_whole (aCons (eV 0) aNil)) (eCmpU [3, 4, 5] (lkT [(3, f_BookD_eqD), (4, f_BookD_eqD), (5, f_BookD_eqD)]) fEqX (eV 0) (eV 1)))) sNx)))
def f_is_same : MF := runB 2 0 m_is_same
def m_is_value : MS := (sRet (eBin fNe (eLc (iSeq (eCall f_values_at (aCons (eV 0) (aCons (eV 1) aNil)))) (.one 2) [2] (tOf (eCall f_is_same (aCons (eIxU (lkT [(2, f_BookD_getitemD), (3, f_BookD_getitemD), (4, f_BookD_getitemD), (5, f_BookD_getitemD)]) (eV 1) (eV 0)) (aCons (eV 2) aNil)))) (eV 2)) (eLst aNil)))
def f_is_value : MF := runB 2 1 m_is_value
def m_Book_first_wrong : MS := (sSeq (sFor (iSeq (eCon (lkT [(2, (.tup [])), (3, (.tup [(.str s_epochs), (.str s_behind), (.str s_check), (.str s_fetch), (.str s_mark), (.str s_test), (.str s_step), (.str s_told)])), (4, (.tup [(.str s_check), (.str s_look), (.str s_chain)])), (5, (.tup [(.str s_counts), (.str s_still), (.str s_read), (.str s_sleep)]))]) s_WORDS (eV 0))) (gNm 2) (sIf (tNotM (tOf (eCall f_is_value (aCons (eV 2) (aCons (eV 1) aNil))))) (sRet (eV 2)) sNx)) (sSeq (sRet (eC .non)) sNx))
def f_Book_first_wrong : MF := runB 2 1 m_Book_first_wrong
def m_BookD_setitemD : MS := (sSeq (sDrop (eMeth (lkT [(2, f_Book_look_at_word), (3, f_Book_look_at_word), (4, f_Book_look_at_word), (5, f_Book_look_at_word)]) s_look_at_word (eV 0) (aCons (eV 1) aNil))) (sSeq (sAsg (eMrg (eFld [2, 3, 4, 5] s_own (eV 0)) (eV 1) (eV 2)) (gNm 3)) (sSeq (sIf (tOf (eBin fNotN (eMeth (lkT [(2, f_Book_first_wrong), (3, f_Book_first_wrong), (4, f_Book_first_wrong), (5, f_Book_first_wrong)]) s_first_wrong (eV 0) (aCons (eV 3) aNil)) (eC .non))) (sRaise 14 s_word (eV 1)) sNx) (sSeq (sFldM [2, 3, 4, 5] s_own (eV 0) (eV 3)) sNx))))
def f_BookD_setitemD : MF := runB 3 1 m_BookD_setitemD
def m__law_take : MS := (sSeq (sIf (tOf (eBin fGt (eIxU (lkT [(2, f_BookD_getitemD), (3, f_BookD_getitemD), (4, f_BookD_getitemD), (5, f_BookD_getitemD)]) (eV 0) (eC (.int 0))) (eC (.int 0)))) (sSeq (sAsg (eBin fMod (eCB cInt (aCons (eIxU (lkT [(2, f_BookD_getitemD), (3, f_BookD_getitemD), (4, f_BookD_getitemD), (5, f_BookD_getitemD)]) (eV 0) (eC (.int 0))) aNil)) (eV 1)) (gNm 2)) (sSeq (sAsg (eBin fFdiv (eIxU (lkT [(2, f_BookD_getitemD), (3, f_BookD_getitemD), (4, f_BookD_getitemD), (5, f_BookD_getitemD)]) (eV 0) (eC (.int 0))) (eV 1)) (gIxU (lkT [(2, f_BookD_setitemD), (3, f_BookD_setitemD), (4, f_BookD_setitemD), (5, f_BookD_setitemD)]) (eV 0) (eC (.int 0)))) (sSeq (sRet (eV 2)) sNx))) sNx) (sSeq (sAsg (eBin fMod (eCB cInt (aCons (eBin fAdd (eBin fMul (eIxU (lkT [(2, f_BookD_getitemD), (3, f_BookD_getitemD), (4, f_BookD_getitemD), (5, f_BookD_getitemD)]) (eV 0) (eC (.int 1))) (eC (.int 48271))) (eC (.int 11))) aNil)) (eC (.int 2147483647))) (gIxU (lkT [(2, f_BookD_setitemD), (3, f_BookD_setitemD), (4, f_BookD_setitemD), (5, f_BookD_setitemD)]) (eV 0) (eC (.int 1)))) (sSeq (sRet (eBin fMod (eBin fFdiv (eBin fMod (eCB cInt (aCons (eBin fMul (eIxU (lkT [(2, f_BookD_getitemD), (3, f_BookD_getitemD), (4, f_BookD_getitemD), (5, f_BookD_getitemD)]) (eV 0) (eC (.int 1))) (eIxU (lkT [(2, f_BookD_getitemD), (3, f_BookD_getitemD), (4, f_BookD_getitemD), (5, f_BookD_getitemD)]) (eV 0) (eC (.int 1)))) aNil)) (eC (.int 2147483629))) (eC (.int 64))) (eV 1))) sNx)))
def f__law_take : MF := runB 2 1 m__law_take
def m__law_one : MS := (sRet (eIxU (lkT [(2, f_BookD_getitemD), (3, f_BookD_getitemD), (4, f_BookD_getitemD), (5, f_BookD_getitemD)]) (eV 1) (eCall f__law_take (aCons (eV 0) (aCons (eLenU (lkT [(3, f_BookD_lenD), (4, f_BookD_lenD), (5, f_BookD_lenD)]) (eV 1)) aNil)))))
def f__law_one : MF := runB 2 0 m__law_one
def m__law_choices : MS := (sSeq (sIf (tOf (eBin fEq (eV 0) (eC (.str s_epochs)))) (sRet (eLst (aCons (eC (.int 2)) (aCons (eC (.int 3)) (aCons (eC (.int 4)) (aCons (eC (.int 5)) (aCons (eC (.int 6)) aNil))))))) sNx) (sSeq (sIf (tOf (eBin fEq (eV 0) (eC (.str s_behind)))) (sRet (eLc (iRng (aCons (eIxU (lkT [(2, f_BookD_getitemD), (3, f_BookD_getitemD), (4, f_BookD_getitemD), (5, f_BookD_getitemD)]) (eV 1) (eC (.str s_epochs))) aNil)) (.one 2) [2] tYesM (eBin fAdd (eV 2) (eC (.int 1))))) sNx) (sSeq (sIf (tOf (eBin fEq (eV 0) (eC (.str s_counts)))) (sRet (eLst (aCons (eC (.int 1)) (aCons (eC (.int 2)) (aCons (eC (.int 3)) (aCons (eC (.int 4)) aNil)))))) sNx) (sSeq (sAsg (eDisp [((eC (.str s_fetch)), (eLst (aCons (eC (.str s_ahead)) (aCons (eC (.str s_behind)) aNil)))), ((eC (.str s_mark)), (eLst (aCons (eC (.str s_own)) (aCons (eC (.str s_fresh)) aNil)))), ((eC (.str s_test)), (eLst (aCons (eC (.str s_last)) (aCons (eC (.str s_equal)) aNil))))]) (gNm 3)) (sSeq (sAsg (eTup (aCons (eLst (aCons (eC (.str s_add)) (aCons (eC (.str s_set)) (aCons (eC (.str s_still)) aNil)))) (aCons (eLst (aCons (eC (.str s_ahead)) (aCons (eC (.str s_behind)) aNil))) aNil))) (gTupM [(gIxU (lkT [(2, f_BookD_setitemD), (3, f_BookD_setitemD), (4, f_BookD_setitemD), (5, f_BookD_setitemD)]) (eV 3) (eC (.str s_step))), (gIxU (lkT [(2, f_BookD_setitemD), (3, f_BookD_setitemD), (4, f_BookD_setitemD), (5, f_BookD_setitemD)]) (eV 3) (eC (.str s_look)))])) (sSeq (sAsg (eTup (aCons (eLst (aCons (eC (.str s_next)) (aCons (eC (.str s_both)) (aCons (eC (.str s_none)) aNil)))) (aCons (eLst (aCons (eC (.str s_anywhere)) (aCons (eC (.str s_outside)) aNil))) aNil))) (gTupM [(gIxU (lkT [(2, f_BookD_setitemD), (3, f_BookD_setitemD), (4, f_BookD_setitemD), (5, f_BookD_setitemD)]) (eV 3) (eC (.str s_chain))), (gIxU (lkT [(2, f_BookD_setitemD), (3, f_BookD_setitemD), (4, f_BookD_setitemD), (5, f_BookD_setitemD)]) (eV 3) (eC (.str s_still)))])) (sSeq (sAsg (eLst (aCons (eC (.str s_ahead)) (aCons (eC (.str s_behind)) aNil))) (gIxU (lkT [(2, f_BookD_setitemD), (3, f_BookD_setitemD), (4, f_BookD_setitemD), (5, f_BookD_setitemD)]) (eV 3) (eC (.str s_read)))) (sSeq (sAsg (eLst (aCons (eC (.str s_inside)) (aCons (eC (.str s_late)) (aCons (eC (.str s_outside)) (aCons (eC (.str s_none)) aNil))))) (gIxU (lkT [(2, f_BookD_setitemD), (3, f_BookD_setitemD), (4, f_BookD_setitemD), (5, f_BookD_setitemD)]) (eV 3) (eC (.str s_sleep)))) (sSeq (sRet (eGet2 (eV 3) (eV 0) (eLst (aCons (eC (.bl false)) (aCons (eC (.bl true)) aNil))))) sNx)))))))))
def f__law_choices : MF := runB 2 2 m__law_choices
def m__law_own : MS := (sSeq (sAsg (eDisp [((eC (.str s_way)), (eV 1))]) (gNm 2)) (sSeq (sFor (iSeq (eCall f__law_switches (aCons (eV 1) aNil))) (gNm 3) (sAsg (eCall f__law_one (aCons (eV 0) (aCons (eCall f__law_choices (aCons (eV 3) (aCons (eV 2) aNil))) aNil))) (gIxU (lkT [(2, f_BookD_setitemD), (3, f_BookD_setitemD), (4, f_BookD_setitemD), (5, f_BookD_setitemD)]) (eV 2) (eV 3)))) (sSeq (sAsg (eTup (aCons (eBin fAdd (eC (.int 1)) (eCall f__law_take (aCons (eV 0) (aCons (eC (.int 2)) aNil)))) (aCons (eBin fAdd (eC (.int 1)) (eCall f__law_take (aCons (eV 0) (aCons (eC (.int 2)) aNil)))) (aCons (eBin fMul (eCall f__law_take (aCons (eV 0) (aCons (eC (.int 3)) aNil))) (eCB cInt (aCons (eBin fEq (eV 1) (eC (.str s_epochs))) aNil))) aNil)))) (gIxU (lkT [(2, f_BookD_setitemD), (3, f_BookD_setitemD), (4, f_BookD_setitemD), (5, f_BookD_setitemD)]) (eV 2) (eC (.str s_hands)))) (sSeq (sAsg (eBin fAdd (eC (.int 1)) (eCall f__law_take (aCons (eV 0) (aCons (eC (.int 6)) aNil)))) (gIxU (lkT [(2, f_BookD_setitemD), (3, f_BookD_setitemD), (4, f_BookD_setitemD), (5, f_BookD_setitemD)]) (eV 2) (eC (.str s_most)))) (sSeq (sRet (eV 2)) sNx)))))
def f__law_own : MF := runB 2 2 m__law_own
def m__law_any_own : MS := (sRet (eCall f__law_own (aCons (eV 0) (aCons (eIxU (lkT [(2, f_BookD_getitemD), (3, f_BookD_getitemD), (4, f_BookD_getitemD), (5, f_BookD_getitemD)]) (eLst (aCons (eC (.str s_epochs)) (aCons (eC (.str s_looks)) (aCons (eC (.str s_still)) (aCons (eC (.str s_epochs)) aNil))))) (eCall f__law_take (aCons (eV 0) (aCons (eC (.int 4)) aNil)))) aNil))))
def f__law_any_own : MF := runB 1 0 m__law_any_own
def m_BookD_initD : MS := (sSeq (sAsg (eMeth (lkT [(2, f_Book_first_wrong), (3, f_Book_first_wrong), (4, f_Book_first_wrong), (5, f_Book_first_wrong)]) s_first_wrong (eV 0) (aCons (eV 1) aNil)) (gNm 2)) (sSeq (sIf (tOf (eBin fNotN (eV 2) (eC .non))) (sRaise 14 s_word (eV 2)) sNx) (sSeq (sFldM [2, 3, 4, 5] s_own (eV 0) (eV 1)) (sSeq (sFldM [2, 3, 4, 5] s_order (eV 0) (eCB cList (aCons (eCon (lkT [(2, (.tup [])), (3, (.tup [(.str s_epochs), (.str s_behind), (.str s_check), (.str s_fetch), (.str s_mark), (.str s_test), (.str s_step), (.str s_told)])), (4, (.tup [(.str s_check), (.str s_look), (.str s_chain)])), (5, (.tup [(.str s_counts), (.str s_still), (.str s_read), (.str s_sleep)]))]) s_WORDS (eV 0)) aNil))) sNx))))
def f_BookD_initD : MF := runB 2 1 m_BookD_initD
def m_EpochBookD_initD : MS := (sSeq (sSuper (knw [3]) 0 f_BookD_initD (aCons (eDisp [((eC (.str s_epochs)), (eV 1)), ((eC (.str s_behind)), (eV 2)), ((eC (.str s_check)), (eV 3)), ((eC (.str s_fetch)), (eV 4)), ((eC (.str s_mark)), (eV 5)), ((eC (.str s_test)), (eV 6)), ((eC (.str s_step)), (eV 7)), ((eC (.str s_told)), (eV 8))]) aNil)) sNx)
def f_EpochBookD_initD : MF := runB 9 1 m_EpochBookD_initD
def m_LookBookD_initD : MS := (sSeq (sSuper (knw [4]) 0 f_BookD_initD (aCons (eDisp [((eC (.str s_check)), (eV 1)), ((eC (.str s_look)), (eV 2)), ((eC (.str s_chain)), (eV 3))]) aNil)) sNx)
def f_LookBookD_initD : MF := runB 4 1 m_LookBookD_initD
def m_StillBookD_initD : MS := (sSeq (sSuper (knw [5]) 0 f_BookD_initD (aCons (eDisp [((eC (.str s_counts)), (eV 1)), ((eC (.str s_still)), (eV 2)), ((eC (.str s_read)), (eV 3)), ((eC (.str s_sleep)), (eV 4))]) aNil)) sNx)
def f_StillBookD_initD : MF := runB 5 1 m_StillBookD_initD
def m__law_book : MS := (sSeq (sIf (tOf (eBin fEq (eIxU (lkT [(2, f_BookD_getitemD), (3, f_BookD_getitemD), (4, f_BookD_getitemD), (5, f_BookD_getitemD)]) (eV 0) (eC (.str s_way))) (eC (.str s_epochs)))) (sAsg (eCallK 2 0 (mkK 3 f_EpochBookD_initD ar_bd_EpochBookD_initD_3_) (aCons (eIxU (lkT [(2, f_BookD_getitemD), (3, f_BookD_getitemD), (4, f_BookD_getitemD), (5, f_BookD_getitemD)]) (eV 0) (eC (.str s_epochs))) (aCons (eIxU (lkT [(2, f_BookD_getitemD), (3, f_BookD_getitemD), (4, f_BookD_getitemD), (5, f_BookD_getitemD)]) (eV 0) (eC (.str s_behind))) aNil)) aNil) (gNm 1)) (sAsg (eIf (tOf (eBin fEq (eIxU (lkT [(2, f_BookD_getitemD), (3, f_BookD_getitemD), (4, f_BookD_getitemD), (5, f_BookD_getitemD)]) (eV 0) (eC (.str s_way))) (eC (.str s_looks)))) (eCallK 0 0 (mkK 4 f_LookBookD_initD ar_bd_LookBookD_initD_1_) aNil aNil) (eCallK 1 0 (mkK 5 f_StillBookD_initD ar_bd_StillBookD_initD_2_) (aCons (eIxU (lkT [(2, f_BookD_getitemD), (3, f_BookD_getitemD), (4, f_BookD_getitemD), (5, f_BookD_getitemD)]) (eV 0) (eC (.str s_counts))) aNil) aNil)) (gNm 1))) (sSeq (sFor (iSeq (eCall f__law_switches (aCons (eIxU (lkT [(2, f_BookD_getitemD), (3, f_BookD_getitemD), (4, f_BookD_getitemD), (5, f_BookD_getitemD)]) (eV 0) (eC (.str s_way))) aNil))) (gNm 2) (sAsg (eIxU (lkT [(2, f_BookD_getitemD), (3, f_BookD_getitemD), (4, f_BookD_getitemD), (5, f_BookD_getitemD)]) (eV 0) (eV 2)) (gIxU (lkT [(2, f_BookD_setitemD), (3, f_BookD_setitemD), (4, f_BookD_setitemD), (5, f_BookD_setitemD)]) (eV 1) (eV 2)))) (sSeq (sRet (eV 1)) sNx)))
def f__law_book : MF := runB 1 2 m__law_book
def m__law_span : MS := (sSeq (sIf (tOrM (tOf (eBin fNe (eIxU (lkT [(2, f_BookD_getitemD), (3, f_BookD_getitemD), (4, f_BookD_getitemD), (5, f_BookD_getitemD)]) (eV 0) (eC (.str s_way))) (eC (.str s_epochs)))) (tOrM (tNotM (tOf (eIxU (lkT [(2, f_BookD_getitemD), (3, f_BookD_getitemD), (4, f_BookD_getitemD), (5, f_BookD_getitemD)]) (eV 0) (eC (.str s_told))))) (tOf (eBin fEq (eIxU (lkT [(2, f_BookD_getitemD), (3, f_BookD_getitemD), (4, f_BookD_getitemD), (5, f_BookD_getitemD)]) (eV 0) (eC (.str s_step))) (eC (.str s_add)))))) (sRet (eC .non)) sNx) (sSeq (sIf (tOf (eIxU (lkT [(2, f_BookD_getitemD), (3, f_BookD_getitemD), (4, f_BookD_getitemD), (5, f_BookD_getitemD)]) (eV 0) (eC (.str s_check)))) (sRet (eC (.int 1))) sNx) (sSeq (sRet (eIf (tOf (eBin fEq (eIxU (lkT [(2, f_BookD_getitemD), (3, f_BookD_getitemD), (4, f_BookD_getitemD), (5, f_BookD_getitemD)]) (eV 0) (eC (.str s_test))) (eC (.str s_equal)))) (eC (.int 2)) (eC .non))) sNx)))
def f__law_span : MF := runB 1 0 m__law_span
def m_is_book : MS := (sRet (eIsi i_EpochBook_LookBook_StillBook.t (eV 0)))
def f_is_book : MF := runB 1 0 m_is_book
def m_look_at_book : MS := (sIf (tNotM (tOf (eCall f_is_book (aCons (eV 0) aNil)))) (sRaise 15 s_value (eV 0)) sNx)
def f_look_at_book : MF := runB 1 0 m_look_at_book
def m_Book_way : MS := (sRet (eCon (lkT [(2, (.str s_empty)), (3, (.str s_epochs)), (4, (.str s_looks)), (5, (.str s_still))]) s_WAY (eV 0)))
def f_Book_way : MF := runB 1 0 m_Book_way
def m_span : MS := (sSeq (sDrop (eCall f_look_at_book (aCons (eV 0) aNil))) (sSeq (sIf (tOrM (tOf (eBin fNe (eProp (lkT [(2, f_Book_way), (3, f_Book_way), (4, f_Book_way), (5, f_Book_way)]) (eV 0)) (eC (.str s_epochs)))) (tOrM (tNotM (tOf (eIxU (lkT [(2, f_BookD_getitemD), (3, f_BookD_getitemD), (4, f_BookD_getitemD), (5, f_BookD_getitemD)]) (eV 0) (eC (.str s_told))))) (tOf (eBin fEq (eIxU (lkT [(2, f_BookD_getitemD), (3, f_BookD_getitemD), (4, f_BookD_getitemD), (5, f_BookD_getitemD)]) (eV 0) (eC (.str s_step))) (eC (.str s_add)))))) (sRet (eC .non)) sNx) (sSeq (sIf (tOf (eIxU (lkT [(2, f_BookD_getitemD), (3, f_BookD_getitemD), (4, f_BookD_getitemD), (5, f_BookD_getitemD)]) (eV 0) (eC (.str s_check)))) (sRet (eC (.int 1))) sNx) (sSeq (sRet (eIf (tOf (eBin fEq (eIxU (lkT [(2, f_BookD_getitemD), (3, f_BookD_getitemD), (4, f_BookD_getitemD), (5, f_BookD_getitemD)]) (eV 0) (eC (.str s_test))) (eC (.str s_equal)))) (eC (.int 2)) (eC .non))) sNx))))
def f_span : MF := runB 1 0 m_span
def m__law_all : MS := (sSeq (sAsg (eLst (aCons (eDisp [((eC (.str s_way)), (eIxU (lkT [(2, f_BookD_getitemD), (3, f_BookD_getitemD), (4, f_BookD_getitemD), (5, f_BookD_getitemD)]) (eV 0) (eC (.str s_way))))]) aNil)) (gNm 1)) (sSeq (sFor (iSeq (eCall f__law_switches (aCons (eIxU (lkT [(2, f_BookD_getitemD), (3, f_BookD_getitemD), (4, f_BookD_getitemD), (5, f_BookD_getitemD)]) (eV 0) (eC (.str s_way))) aNil))) (gNm 2) (sSeq (sAsg (eLst aNil) (gNm 3)) (sSeq (sFor (iSeq (eV 1)) (gNm 4) (sSeq (sAsg (eIf (tOf (eBin fIn (eV 2) (eLst (aCons (eC (.str s_epochs)) (aCons (eC (.str s_counts)) aNil))))) (eLst (aCons (eIxU (lkT [(2, f_BookD_getitemD), (3, f_BookD_getitemD), (4, f_BookD_getitemD), (5, f_BookD_getitemD)]) (eV 0) (eV 2)) aNil)) (eCall f__law_choices (aCons (eV 2) (aCons (eV 4) aNil)))) (gNm 5)) (sSeq (sFor (iSeq (eV 5)) (gNm 6) (sSeq (sAsg (eCB cDict (aCons (eV 4) aNil)) (gNm 7)) (sSeq (sAsg (eV 6) (gIxU (lkT [(2, f_BookD_setitemD), (3, f_BookD_setitemD), (4, f_BookD_setitemD), (5, f_BookD_setitemD)]) (eV 7) (eV 2))) (sSeq (sDrop (eBM .lst mAppend (eV 3) (aCons (eV 7) aNil))) sNx)))) sNx))) (sSeq (sAsg (eCB cList (aCons (eV 3) aNil)) (gNm 1)) sNx)))) (sSeq (sRet (eV 1)) sNx)))
def f__law_all : MF := runB 1 7 m__law_all
def m__law_is_safe : MS := (sSeq (sIf (tOf (eBin fEq (eIxU (lkT [(2, f_BookD_getitemD), (3, f_BookD_getitemD), (4, f_BookD_getitemD), (5, f_BookD_getitemD)]) (eV 0) (eC (.str s_way))) (eC (.str s_looks)))) (sRet (eAnd (eIxU (lkT [(2, f_BookD_getitemD), (3, f_BookD_getitemD), (4, f_BookD_getitemD), (5, f_BookD_getitemD)]) (eV 0) (eC (.str s_check))) (eAnd (eBin fEq (eIxU (lkT [(2, f_BookD_getitemD), (3, f_BookD_getitemD), (4, f_BookD_getitemD), (5, f_BookD_getitemD)]) (eV 0) (eC (.str s_look))) (eC (.str s_behind))) (eBin fNe (eIxU (lkT [(2, f_BookD_getitemD), (3, f_BookD_getitemD), (4, f_BookD_getitemD), (5, f_BookD_getitemD)]) (eV 0) (eC (.str s_chain))) (eC (.str s_next)))))) sNx) (sSeq (sIf (tOf (eBin fEq (eIxU (lkT [(2, f_BookD_getitemD), (3, f_BookD_getitemD), (4, f_BookD_getitemD), (5, f_BookD_getitemD)]) (eV 0) (eC (.str s_way))) (eC (.str s_still)))) (sSeq (sAsg (eOr (eBin fEq (eIxU (lkT [(2, f_BookD_getitemD), (3, f_BookD_getitemD), (4, f_BookD_getitemD), (5, f_BookD_getitemD)]) (eV 0) (eC (.str s_counts))) (eC (.int 1))) (eAnd (eBin fEq (eIxU (lkT [(2, f_BookD_getitemD), (3, f_BookD_getitemD), (4, f_BookD_getitemD), (5, f_BookD_getitemD)]) (eV 0) (eC (.str s_still))) (eC (.str s_outside))) (eBin fEq (eIxU (lkT [(2, f_BookD_getitemD), (3, f_BookD_getitemD), (4, f_BookD_getitemD), (5, f_BookD_getitemD)]) (eV 0) (eC (.str s_read))) (eC (.str s_behind))))) (gNm 1)) (sSeq (sRet (eAnd (eBin fIn (eIxU (lkT [(2, f_BookD_getitemD), (3, f_BookD_getitemD), (4, f_BookD_getitemD), (5, f_BookD_getitemD)]) (eV 0) (eC (.str s_sleep))) (eLst (aCons (eC (.str s_none)) (aCons (eC (.str s_outside)) aNil)))) (eV 1))) sNx)) sNx) (sSeq (sIf (tOrM (tOf (eBin fEq (eIxU (lkT [(2, f_BookD_getitemD), (3, f_BookD_getitemD), (4, f_BookD_getitemD), (5, f_BookD_getitemD)]) (eV 0) (eC (.str s_fetch))) (eC (.str s_ahead)))) (tOrM (tNotM (tOf (eIxU (lkT [(2, f_BookD_getitemD), (3, f_BookD_getitemD), (4, f_BookD_getitemD), (5, f_BookD_getitemD)]) (eV 0) (eC (.str s_told))))) (tOf (eBin fEq (eIxU (lkT [(2, f_BookD_getitemD), (3, f_BookD_getitemD), (4, f_BookD_getitemD), (5, f_BookD_getitemD)]) (eV 0) (eC (.str s_step))) (eC (.str s_add)))))) (sRet (eC (.bl false))) sNx) (sSeq (sIf (tOf (eIxU (lkT [(2, f_BookD_getitemD), (3, f_BookD_getitemD), (4, f_BookD_getitemD), (5, f_BookD_getitemD)]) (eV 0) (eC (.str s_check)))) (sRet (eBin fGe (eIxU (lkT [(2, f_BookD_getitemD), (3, f_BookD_getitemD), (4, f_BookD_getitemD), (5, f_BookD_getitemD)]) (eV 0) (eC (.str s_behind))) (eIf (tOf (eBin fEq (eIxU (lkT [(2, f_BookD_getitemD), (3, f_BookD_getitemD), (4, f_BookD_getitemD), (5, f_BookD_getitemD)]) (eV 0) (eC (.str s_mark))) (eC (.str s_fresh)))) (eC (.int 2)) (eC (.int 3))))) sNx) (sSeq (sRet (eAnd (eBin fEq (eIxU (lkT [(2, f_BookD_getitemD), (3, f_BookD_getitemD), (4, f_BookD_getitemD), (5, f_BookD_getitemD)]) (eV 0) (eC (.str s_mark))) (eC (.str s_fresh))) (eAnd (eBin fEq (eIxU (lkT [(2, f_BookD_getitemD), (3, f_BookD_getitemD), (4, f_BookD_getitemD), (5, f_BookD_getitemD)]) (eV 0) (eC (.str s_test))) (eC (.str s_equal))) (eBin fGe (eIxU (lkT [(2, f_BookD_getitemD), (3, f_BookD_getitemD), (4, f_BookD_getitemD), (5, f_BookD_getitemD)]) (eV 0) (eC (.str s_behind))) (eC (.int 3)))))) sNx)))))
def f__law_is_safe : MF := runB 1 1 m__law_is_safe
def m__law_faults : MS := (sSeq (sAsg (eLc (iSeq (eCall f__law_all (aCons (eV 0) aNil))) (.one 2) [2] (tOf (eCall f__law_is_safe (aCons (eV 2) aNil))) (eV 2)) (gNm 1)) (sSeq (sAsg (eLst aNil) (gNm 3)) (sSeq (sFor (iSeq (eCall f__law_switches (aCons (eIxU (lkT [(2, f_BookD_getitemD), (3, f_BookD_getitemD), (4, f_BookD_getitemD), (5, f_BookD_getitemD)]) (eV 0) (eC (.str s_way))) aNil))) (gNm 4) (sSeq (sAsg (eLc (iSeq (eV 1)) (.one 2) [2] (tOf (eCmpU [3, 4, 5] (lkT [(3, f_BookD_eqD), (4, f_BookD_eqD), (5, f_BookD_eqD)]) fEqX (eIxU (lkT [(2, f_BookD_getitemD), (3, f_BookD_getitemD), (4, f_BookD_getitemD), (5, f_BookD_getitemD)]) (eV 2) (eV 4)) (eIxU (lkT [(2, f_BookD_getitemD), (3, f_BookD_getitemD), (4, f_BookD_getitemD), (5, f_BookD_getitemD)]) (eV 0) (eV 4)))) (eV 2)) (gNm 5)) (sSeq (sIf (tAndM (tOf (eBin fNotIn (eV 4) (eLst (aCons (eC (.str s_epochs)) (aCons (eC (.str s_counts)) aNil))))) (tOf (eBin fEqZ (eV 5) (eLst aNil)))) (sDrop (eBM .lst mAppend (eV 3) (aCons (eV 4) aNil))) sNx) sNx))) (sSeq (sRet (eV 3)) sNx))))
def f__law_faults : MF := runB 1 5 m__law_faults
def m_still_faults : MS := (sSeq (sAsg (eBin fGt (eIxU (lkT [(2, f_BookD_getitemD), (3, f_BookD_getitemD), (4, f_BookD_getitemD), (5, f_BookD_getitemD)]) (eV 0) (eC (.str s_counts))) (eC (.int 1))) (gNm 1)) (sSeq (sRet (eLst (aCons (eTup (aCons (eC (.str s_still)) (aCons (eAnd (eV 1) (eBin fEq (eIxU (lkT [(2, f_BookD_getitemD), (3, f_BookD_getitemD), (4, f_BookD_getitemD), (5, f_BookD_getitemD)]) (eV 0) (eC (.str s_still))) (eC (.str s_anywhere)))) aNil))) (aCons (eTup (aCons (eC (.str s_read)) (aCons (eAnd (eV 1) (eBin fEq (eIxU (lkT [(2, f_BookD_getitemD), (3, f_BookD_getitemD), (4, f_BookD_getitemD), (5, f_BookD_getitemD)]) (eV 0) (eC (.str s_read))) (eC (.str s_ahead)))) aNil))) (aCons (eTup (aCons (eC (.str s_sleep)) (aCons (eBin fIn (eIxU (lkT [(2, f_BookD_getitemD), (3, f_BookD_getitemD), (4, f_BookD_getitemD), (5, f_BookD_getitemD)]) (eV 0) (eC (.str s_sleep))) (eTup (aCons (eC (.str s_inside)) (aCons (eC (.str s_late)) aNil)))) aNil))) aNil))))) sNx))
def f_still_faults : MF := runB 1 1 m_still_faults
def m_look_faults : MS := (sRet (eLst (aCons (eTup (aCons (eC (.str s_check)) (aCons (eNot (eIxU (lkT [(2, f_BookD_getitemD), (3, f_BookD_getitemD), (4, f_BookD_getitemD), (5, f_BookD_getitemD)]) (eV 0) (eC (.str s_check)))) aNil))) (aCons (eTup (aCons (eC (.str s_look)) (aCons (eBin fEq (eIxU (lkT [(2, f_BookD_getitemD), (3, f_BookD_getitemD), (4, f_BookD_getitemD), (5, f_BookD_getitemD)]) (eV 0) (eC (.str s_look))) (eC (.str s_ahead))) aNil))) (aCons (eTup (aCons (eC (.str s_chain)) (aCons (eBin fEq (eIxU (lkT [(2, f_BookD_getitemD), (3, f_BookD_getitemD), (4, f_BookD_getitemD), (5, f_BookD_getitemD)]) (eV 0) (eC (.str s_chain))) (eC (.str s_next))) aNil))) aNil)))))
def f_look_faults : MF := runB 1 0 m_look_faults
def m_epoch_faults : MS := (sSeq (sAsg (eBin fEq (eIxU (lkT [(2, f_BookD_getitemD), (3, f_BookD_getitemD), (4, f_BookD_getitemD), (5, f_BookD_getitemD)]) (eV 0) (eC (.str s_epochs))) (eC (.int 2))) (gNm 1)) (sSeq (sRet (eLst (aCons (eTup (aCons (eC (.str s_behind)) (aCons (eBin fEq (eIxU (lkT [(2, f_BookD_getitemD), (3, f_BookD_getitemD), (4, f_BookD_getitemD), (5, f_BookD_getitemD)]) (eV 0) (eC (.str s_behind))) (eC (.int 1))) aNil))) (aCons (eTup (aCons (eC (.str s_check)) (aCons (eAnd (eV 1) (eNot (eIxU (lkT [(2, f_BookD_getitemD), (3, f_BookD_getitemD), (4, f_BookD_getitemD), (5, f_BookD_getitemD)]) (eV 0) (eC (.str s_check))))) aNil))) (aCons (eTup (aCons (eC (.str s_fetch)) (aCons (eBin fEq (eIxU (lkT [(2, f_BookD_getitemD), (3, f_BookD_getitemD), (4, f_BookD_getitemD), (5, f_BookD_getitemD)]) (eV 0) (eC (.str s_fetch))) (eC (.str s_ahead))) aNil))) (aCons (eTup (aCons (eC (.str s_mark)) (aCons (eAnd (eV 1) (eBin fEq (eIxU (lkT [(2, f_BookD_getitemD), (3, f_BookD_getitemD), (4, f_BookD_getitemD), (5, f_BookD_getitemD)]) (eV 0) (eC (.str s_mark))) (eC (.str s_own)))) aNil))) (aCons (eTup (aCons (eC (.str s_step)) (aCons (eBin fEq (eIxU (lkT [(2, f_BookD_getitemD), (3, f_BookD_getitemD), (4, f_BookD_getitemD), (5, f_BookD_getitemD)]) (eV 0) (eC (.str s_step))) (eC (.str s_add))) aNil))) (aCons (eTup (aCons (eC (.str s_told)) (aCons (eNot (eIxU (lkT [(2, f_BookD_getitemD), (3, f_BookD_getitemD), (4, f_BookD_getitemD), (5, f_BookD_getitemD)]) (eV 0) (eC (.str s_told)))) aNil))) aNil)))))))) sNx))
def f_epoch_faults : MF := runB 1 1 m_epoch_faults
def m_faults : MS := (sSeq (sDrop (eCall f_look_at_book (aCons (eV 0) aNil))) (sSeq (sAsg (eKd (lkS tb_FAULTS) (eProp (lkT [(2, f_Book_way), (3, f_Book_way), (4, f_Book_way), (5, f_Book_way)]) (eV 0))) (gNm 1)) (sSeq (sRet (eLc (iSeq (eCallL 1 (lkF [(s_epoch_faults, f_epoch_faults), (s_look_faults, f_look_faults), (s_still_faults, f_still_faults)]) (aCons (eV 0) aNil))) (.many [2, 3]) [2, 3] (tOf (eV 3)) (eV 2))) sNx)))
def f_faults : MF := runB 1 3 m_faults
def m__law_right : MS := (sSeq (sAsg (eCall f__law_any_own (aCons (eV 0) aNil)) (gNm 1)) (sSeq (sAsg (eCall f__law_book (aCons (eV 1) aNil)) (gNm 2)) (sSeq (sPar 3 4 (aCons (eCall f_span (aCons (eV 2) aNil)) (aCons (eCall f__law_span (aCons (eV 1) aNil)) aNil))) (sSeq (sIf (tOrM (tOf (eNeU [3, 4, 5] (lkT [(3, f_BookD_eqD), (4, f_BookD_eqD), (5, f_BookD_eqD)]) fNe (eV 3) (eV 4))) (tOf (eIsi i_bool.t (eV 3)))) (sRet (eC (.bl false))) sNx) (sSeq (sPar 5 4 (aCons (eCall f_faults (aCons (eV 2) aNil)) (aCons (eCall f__law_faults (aCons (eV 1) aNil)) aNil))) (sSeq (sIf (tOrM (tNotM (tOf (eIsi i_list.t (eV 5)))) (tOf (eNeU [3, 4, 5] (lkT [(3, f_BookD_eqD), (4, f_BookD_eqD), (5, f_BookD_eqD)]) fNe (eV 5) (eV 4)))) (sRet (eC (.bl false))) sNx) (sSeq (sDrop (eBM .lst mAppend (eV 5) (aCons (eC (.str s_empty)) aNil))) (sSeq (sRet (eAnd (eCmpU [3, 4, 5] (lkT [(3, f_BookD_eqD), (4, f_BookD_eqD), (5, f_BookD_eqD)]) fEqX (eCall f_faults (aCons (eV 2) aNil)) (eV 4)) (eOr (eBin fEqZ (eV 4) (eLst aNil)) (eNot (eCall f__law_is_safe (aCons (eV 1) aNil)))))) sNx))))))))
def f__law_right : MF := runB 1 5 m__law_right
def m__law_pool : MS := (sSeq (sAsg (eC (.int 0)) (gNm 2)) (sSeq (sIf (tOf (eBin fLt (eV 1) (eLenU (lkT [(3, f_BookD_lenD), (4, f_BookD_lenD), (5, f_BookD_lenD)]) (eV 0)))) (sAsg (eIxU (lkT [(2, f_BookD_getitemD), (3, f_BookD_getitemD), (4, f_BookD_getitemD), (5, f_BookD_getitemD)]) (eV 0) (eV 1)) (gNm 2)) sNx) (sSeq (sAsg (eCB cMax (aCons (eV 2) (aCons (eBin fSub (eNeg (eC (.int 1))) (eV 2)) aNil))) (gNm 3)) (sSeq (sAsg (eCB cInt (aCons (eBin fAdd (eBin fAdd (eBin fMod (eCB cInt (aCons (eV 3) aNil)) (eC (.int 2147483629))) (eBin fMul (eC (.int 7919)) (eV 1))) (eC (.int 104729))) aNil)) (gNm 4)) (sSeq (sRet (eLst (aCons (eBin fMul (eV 3) (eCB cInt (aCons (eBin fGe (eV 3) (eBin fPow (eC (.int 10)) (eC (.int 18)))) aNil))) (aCons (eBin fMod (eBin fMul (eV 4) (eC (.int 48271))) (eC (.int 2147483647))) aNil)))) sNx)))))
def f__law_pool : MF := runB 2 3 m__law_pool
def m_law : MS := (sSeq (sFor (iRng (aCons (eCB cMax (aCons (eC (.int 1)) (aCons (eCB cMin (aCons (eC (.int 6)) (aCons (eLenU (lkT [(3, f_BookD_lenD), (4, f_BookD_lenD), (5, f_BookD_lenD)]) (eV 0)) aNil))) aNil))) aNil)) (gNm 1) (sIf (tNotM (tOf (eCall f__law_right (aCons (eCall f__law_pool (aCons (eV 0) (aCons (eV 1) aNil))) aNil)))) (sRet (eC (.bl false))) sNx)) (sSeq (sRet (eC (.bl true))) sNx))
def f_law : MF := runB 1 1 m_law
abbrev st_BookD_lenD : Stmt := clsAt 17 12
abbrev a_BookD_lenD : Defn := mA "Book" "__len__"
abbrev st__law_switches : Stmt := top 34
abbrev a__law_switches : Defn := gA "_law_switches"
abbrev st_NoSwitchD_initD : Stmt := clsAt 3 0
abbrev a_NoSwitchD_initD : Defn := mA "NoSwitch" "__init__"
abbrev st_Book_look_at_word : Stmt := clsAt 17 5
abbrev a_Book_look_at_word : Defn := mA "Book" "look_at_word"
abbrev st_BookD_getitemD : Stmt := clsAt 17 9
abbrev a_BookD_getitemD : Defn := mA "Book" "__getitem__"
abbrev st_values_at : Stmt := top 13
abbrev a_values_at : Defn := gA "values_at"
abbrev st_BookD_eqD : Stmt := clsAt 17 13
abbrev a_BookD_eqD : Defn := mA "Book" "__eq__"
abbrev st_is_whole : Stmt := top 7
abbrev a_is_whole : Defn := gA "is_whole"
abbrev st_is_same : Stmt := top 14
abbrev a_is_same : Defn := gA "is_same"
abbrev st_is_value : Stmt := top 15
abbrev a_is_value : Defn := gA "is_value"
abbrev st_Book_first_wrong : Stmt := clsAt 17 3
abbrev a_Book_first_wrong : Defn := mA "Book" "first_wrong"
abbrev st_NoValueD_initD : Stmt := clsAt 4 0
abbrev a_NoValueD_initD : Defn := mA "NoValue" "__init__"
abbrev st_BookD_setitemD : Stmt := clsAt 17 10
abbrev a_BookD_setitemD : Defn := mA "Book" "__setitem__"
abbrev st__law_take : Stmt := top 32
abbrev a__law_take : Defn := gA "_law_take"
abbrev st__law_one : Stmt := top 33
abbrev a__law_one : Defn := gA "_law_one"
abbrev st__law_choices : Stmt := top 35
abbrev a__law_choices : Defn := gA "_law_choices"
abbrev st__law_own : Stmt := top 36
abbrev a__law_own : Defn := gA "_law_own"
abbrev st__law_any_own : Stmt := top 37
abbrev a__law_any_own : Defn := gA "_law_any_own"
abbrev st_BookD_initD : Stmt := clsAt 17 2
abbrev a_BookD_initD : Defn := mA "Book" "__init__"
abbrev st_EpochBookD_initD : Stmt := clsAt 18 2
abbrev a_EpochBookD_initD : Defn := mA "EpochBook" "__init__"
abbrev st_LookBookD_initD : Stmt := clsAt 19 2
abbrev a_LookBookD_initD : Defn := mA "LookBook" "__init__"
abbrev st_StillBookD_initD : Stmt := clsAt 20 2
abbrev a_StillBookD_initD : Defn := mA "StillBook" "__init__"
abbrev st__law_book : Stmt := top 38
abbrev a__law_book : Defn := gA "_law_book"
abbrev st__law_span : Stmt := top 42
abbrev a__law_span : Defn := gA "_law_span"
abbrev st_is_book : Stmt := top 21
abbrev a_is_book : Defn := gA "is_book"
abbrev st_NoBookD_initD : Stmt := clsAt 5 0
abbrev a_NoBookD_initD : Defn := mA "NoBook" "__init__"
abbrev st_look_at_book : Stmt := top 22
abbrev a_look_at_book : Defn := gA "look_at_book"
abbrev st_Book_way : Stmt := clsAt 17 4
abbrev a_Book_way : Defn := getAd "Book" "way"
abbrev st_span : Stmt := top 24
abbrev a_span : Defn := gA "span"
abbrev st__law_all : Stmt := top 40
abbrev a__law_all : Defn := gA "_law_all"
abbrev st__law_is_safe : Stmt := top 39
abbrev a__law_is_safe : Defn := gA "_law_is_safe"
abbrev st__law_faults : Stmt := top 41
abbrev a__law_faults : Defn := gA "_law_faults"
abbrev st_still_faults : Stmt := top 26
abbrev a_still_faults : Defn := gA "still_faults"
abbrev st_look_faults : Stmt := top 27
abbrev a_look_faults : Defn := gA "look_faults"
abbrev st_epoch_faults : Stmt := top 25
abbrev a_epoch_faults : Defn := gA "epoch_faults"
abbrev st_faults : Stmt := top 29
abbrev a_faults : Defn := gA "faults"
abbrev st__law_right : Stmt := top 43
abbrev a__law_right : Defn := gA "_law_right"
abbrev st__law_pool : Stmt := top 31
abbrev a__law_pool : Defn := gA "_law_pool"
abbrev st_law : Stmt := top 44
abbrev a_law : Defn := gA "law"
def gd_BookD_lenD : GDef := ⟨a_BookD_lenD, "__len__", "Book.__len__", defArgs st_BookD_lenD, defBody st_BookD_lenD, defScope st_BookD_lenD, [], []⟩
def gd__law_switches : GDef := ⟨a__law_switches, "_law_switches", "_law_switches", defArgs st__law_switches, defBody st__law_switches, defScope st__law_switches, [], []⟩
def gd_Book_look_at_word : GDef := ⟨a_Book_look_at_word, "look_at_word", "Book.look_at_word", defArgs st_Book_look_at_word, defBody st_Book_look_at_word, defScope st_Book_look_at_word, [], []⟩
def gd_BookD_getitemD : GDef := ⟨a_BookD_getitemD, "__getitem__", "Book.__getitem__", defArgs st_BookD_getitemD, defBody st_BookD_getitemD, defScope st_BookD_getitemD, [], []⟩
def gd_values_at : GDef := ⟨a_values_at, "values_at", "values_at", defArgs st_values_at, defBody st_values_at, defScope st_values_at, [], []⟩
def gd_BookD_eqD : GDef := ⟨a_BookD_eqD, "__eq__", "Book.__eq__", defArgs st_BookD_eqD, defBody st_BookD_eqD, defScope st_BookD_eqD, [], []⟩
def gd_is_whole : GDef := ⟨a_is_whole, "is_whole", "is_whole", defArgs st_is_whole, defBody st_is_whole, defScope st_is_whole, [], []⟩
def gd_is_same : GDef := ⟨a_is_same, "is_same", "is_same", defArgs st_is_same, defBody st_is_same, defScope st_is_same, [], []⟩
def gd_is_value : GDef := ⟨a_is_value, "is_value", "is_value", defArgs st_is_value, defBody st_is_value, defScope st_is_value, [], []⟩
def gd_Book_first_wrong : GDef := ⟨a_Book_first_wrong, "first_wrong", "Book.first_wrong", defArgs st_Book_first_wrong, defBody st_Book_first_wrong, defScope st_Book_first_wrong, [], []⟩
def gd_BookD_setitemD : GDef := ⟨a_BookD_setitemD, "__setitem__", "Book.__setitem__", defArgs st_BookD_setitemD, defBody st_BookD_setitemD, defScope st_BookD_setitemD, [], []⟩
def gd__law_take : GDef := ⟨a__law_take, "_law_take", "_law_take", defArgs st__law_take, defBody st__law_take, defScope st__law_take, [], []⟩
def gd__law_one : GDef := ⟨a__law_one, "_law_one", "_law_one", defArgs st__law_one, defBody st__law_one, defScope st__law_one, [], []⟩
def gd__law_choices : GDef := ⟨a__law_choices, "_law_choices", "_law_choices", defArgs st__law_choices, defBody st__law_choices, defScope st__law_choices, [], []⟩
def gd__law_own : GDef := ⟨a__law_own, "_law_own", "_law_own", defArgs st__law_own, defBody st__law_own, defScope st__law_own, [], []⟩
def gd__law_any_own : GDef := ⟨a__law_any_own, "_law_any_own", "_law_any_own", defArgs st__law_any_own, defBody st__law_any_own, defScope st__law_any_own, [], []⟩
def gd_BookD_initD : GDef := ⟨a_BookD_initD, "__init__", "Book.__init__", defArgs st_BookD_initD, defBody st_BookD_initD, defScope st_BookD_initD, [], []⟩
def gd__law_book : GDef := ⟨a__law_book, "_law_book", "_law_book", defArgs st__law_book, defBody st__law_book, defScope st__law_book, [], []⟩
def gd__law_span : GDef := ⟨a__law_span, "_law_span", "_law_span", defArgs st__law_span, defBody st__law_span, defScope st__law_span, [], []⟩
def gd_is_book : GDef := ⟨a_is_book, "is_book", "is_book", defArgs st_is_book, defBody st_is_book, defScope st_is_book, [], []⟩
def gd_look_at_book : GDef := ⟨a_look_at_book, "look_at_book", "look_at_book", defArgs st_look_at_book, defBody st_look_at_book, defScope st_look_at_book, [], []⟩
def gd_Book_way : GDef := ⟨a_Book_way, "way", "Book.way", defArgs st_Book_way, defBody st_Book_way, defScope st_Book_way, [], []⟩
def gd_span : GDef := ⟨a_span, "span", "span", defArgs st_span, defBody st_span, defScope st_span, [], []⟩
def gd__law_all : GDef := ⟨a__law_all, "_law_all", "_law_all", defArgs st__law_all, defBody st__law_all, defScope st__law_all, [], []⟩
def gd__law_is_safe : GDef := ⟨a__law_is_safe, "_law_is_safe", "_law_is_safe", defArgs st__law_is_safe, defBody st__law_is_safe, defScope st__law_is_safe, [], []⟩
def gd__law_faults : GDef := ⟨a__law_faults, "_law_faults", "_law_faults", defArgs st__law_faults, defBody st__law_faults, defScope st__law_faults, [], []⟩
def gd_still_faults : GDef := ⟨a_still_faults, "still_faults", "still_faults", defArgs st_still_faults, defBody st_still_faults, defScope st_still_faults, [], []⟩
def gd_look_faults : GDef := ⟨a_look_faults, "look_faults", "look_faults", defArgs st_look_faults, defBody st_look_faults, defScope st_look_faults, [], []⟩
def gd_epoch_faults : GDef := ⟨a_epoch_faults, "epoch_faults", "epoch_faults", defArgs st_epoch_faults, defBody st_epoch_faults, defScope st_epoch_faults, [], []⟩
def gd_faults : GDef := ⟨a_faults, "faults", "faults", defArgs st_faults, defBody st_faults, defScope st_faults, [], []⟩
def gd__law_right : GDef := ⟨a__law_right, "_law_right", "_law_right", defArgs st__law_right, defBody st__law_right, defScope st__law_right, [], []⟩
def gd__law_pool : GDef := ⟨a__law_pool, "_law_pool", "_law_pool", defArgs st__law_pool, defBody st__law_pool, defScope st__law_pool, [], []⟩
def gd_law : GDef := ⟨a_law, "law", "law", defArgs st_law, defBody st_law, defScope st_law, [], []⟩
def sd_NoSwitchD_initD : SDef := ⟨a_NoSwitchD_initD, "__init__", "NoSwitch.__init__", defArgs st_NoSwitchD_initD, defBody st_NoSwitchD_initD, defScope st_NoSwitchD_initD, [], "NoSwitch", P.main.file⟩
def sd_NoValueD_initD : SDef := ⟨a_NoValueD_initD, "__init__", "NoValue.__init__", defArgs st_NoValueD_initD, defBody st_NoValueD_initD, defScope st_NoValueD_initD, [], "NoValue", P.main.file⟩
def sd_EpochBookD_initD : SDef := ⟨a_EpochBookD_initD, "__init__", "EpochBook.__init__", defArgs st_EpochBookD_initD, defBody st_EpochBookD_initD, defScope st_EpochBookD_initD, [("check", (.bl true)), ("fetch", (.str "behind")), ("mark", (.str "fresh")), ("test", (.str "equal")), ("step", (.str "still")), ("told", (.bl true))], "EpochBook", P.main.file⟩
def sd_LookBookD_initD : SDef := ⟨a_LookBookD_initD, "__init__", "LookBook.__init__", defArgs st_LookBookD_initD, defBody st_LookBookD_initD, defScope st_LookBookD_initD, [("check", (.bl true)), ("look", (.str "behind")), ("chain", (.str "none"))], "LookBook", P.main.file⟩
def sd_StillBookD_initD : SDef := ⟨a_StillBookD_initD, "__init__", "StillBook.__init__", defArgs st_StillBookD_initD, defBody st_StillBookD_initD, defScope st_StillBookD_initD, [("still", (.str "outside")), ("read", (.str "behind")), ("sleep", (.str "none"))], "StillBook", P.main.file⟩
def sd_NoBookD_initD : SDef := ⟨a_NoBookD_initD, "__init__", "NoBook.__init__", defArgs st_NoBookD_initD, defBody st_NoBookD_initD, defScope st_NoBookD_initD, [], "NoBook", P.main.file⟩
def fnL : List GDef := [gd_BookD_lenD, gd__law_switches, gd_Book_look_at_word, gd_BookD_getitemD, gd_values_at, gd_BookD_eqD, gd_is_whole, gd_is_same, gd_is_value, gd_Book_first_wrong, gd_BookD_setitemD, gd__law_take, gd__law_one, gd__law_choices, gd__law_own, gd__law_any_own, gd_BookD_initD, gd__law_book, gd__law_span, gd_is_book, gd_look_at_book, gd_Book_way, gd_span, gd__law_all, gd__law_is_safe, gd__law_faults, gd_still_faults, gd_look_faults, gd_epoch_faults, gd_faults, gd__law_right, gd__law_pool, gd_law]
def sfL : List SDef := [sd_NoSwitchD_initD, sd_NoValueD_initD, sd_EpochBookD_initD, sd_LookBookD_initD, sd_StillBookD_initD, sd_NoBookD_initD]
def tab_ORDERS : Tab := (fun K => ga K "ORDERS", ["check", "fetch", "mark", "test", "step", "told", "look", "chain", "still", "read", "sleep"])
def tab_FAULTS : Tab := (fun K => ga K "FAULTS", ["epochs", "looks", "still"])
def tsL : List Tab := [tab_ORDERS, tab_FAULTS]
def exL : List (PySem.W.Frag → Bool) := [fun K => conVB K "StillBook" (toStr s_WORDS) (.tup [(.str s_counts), (.str s_still), (.str s_read), (.str s_sleep)]),
  fun K => conVB K "LookBook" (toStr s_WORDS) (.tup [(.str s_check), (.str s_look), (.str s_chain)]),
  fun K => conVB K "EpochBook" (toStr s_WORDS) (.tup [(.str s_epochs), (.str s_behind), (.str s_check), (.str s_fetch), (.str s_mark), (.str s_test), (.str s_step), (.str s_told)]),
  fun K => conVB K "Book" (toStr s_WORDS) (.tup []),
  fun K => (Fa.free "len").ok K,
  fun K => spB K "StillBook" "__len__" a_BookD_lenD,
  fun K => spB K "LookBook" "__len__" a_BookD_lenD,
  fun K => spB K "EpochBook" "__len__" a_BookD_lenD,
  fun K => (Fa.free "min").ok K,
  fun K => (Fa.free "max").ok K,
  fun K => (Fa.free "range").ok K,
  fun K => (Fa.glo "_law_switches").ok K,
  fun K => (Fa.free "str").ok K,
  fun K => isB K nm [.ty "str"] i_str,
  fun K => (Fa.free "isinstance").ok K,
  fun K => excB K "NoSwitch",
  fun K => exiB K "NoSwitch" "word" a_NoSwitchD_initD,
  fun K => (Fa.glo "NoSwitch").ok K,
  fun K => methB K "StillBook" (toStr s_look_at_word) a_Book_look_at_word,
  fun K => methB K "LookBook" (toStr s_look_at_word) a_Book_look_at_word,
  fun K => methB K "EpochBook" (toStr s_look_at_word) a_Book_look_at_word,
  fun K => methB K "Book" (toStr s_look_at_word) a_Book_look_at_word,
  fun K => fldB K "StillBook" (toStr s_own),
  fun K => fldB K "LookBook" (toStr s_own),
  fun K => fldB K "EpochBook" (toStr s_own),
  fun K => fldB K "Book" (toStr s_own),
  fun K => spB K "StillBook" "__getitem__" a_BookD_getitemD,
  fun K => spB K "LookBook" "__getitem__" a_BookD_getitemD,
  fun K => spB K "EpochBook" "__getitem__" a_BookD_getitemD,
  fun K => spB K "Book" "__getitem__" a_BookD_getitemD,
  fun K => (Fa.free "int").ok K,
  fun K => gvB K "LEAST_EPOCHS" (.int 2),
  fun K => gvB K "MOST_EPOCHS" (.int 6),
  fun K => (Fa.free "tuple").ok K,
  fun K => gvB K "MOST_COUNTS" (.int 4),
  fun K => kdB K (ga K "ORDERS") tb_ORDERS,
  fun K => (Fa.glo "ORDERS").ok K,
  fun K => (Fa.glo "values_at").ok K,
  fun K => (Fa.free "bool").ok K,
  fun K => isB K nm [.ty "bool"] i_bool,
  fun K => (Fa.glo "Book").ok K,
  fun K => isB K nm [.own "Book"] i_Book,
  fun K => conVB K "StillBook" (toStr s_WAY) (.str s_still),
  fun K => conVB K "LookBook" (toStr s_WAY) (.str s_looks),
  fun K => conVB K "EpochBook" (toStr s_WAY) (.str s_epochs),
  fun K => conVB K "Book" (toStr s_WAY) (.str s_empty),
  fun K => spB K "StillBook" "__eq__" a_BookD_eqD,
  fun K => spB K "LookBook" "__eq__" a_BookD_eqD,
  fun K => spB K "EpochBook" "__eq__" a_BookD_eqD,
  fun K => nfB1 K nm "StillBook" [3, 4, 5],
  fun K => nfB1 K nm "LookBook" [3, 4, 5],
  fun K => nfB1 K nm "EpochBook" [3, 4, 5],
  fun K => isB K nm [.ty "int"] i_int,
  fun K => (Fa.glo "is_whole").ok K,
  fun K => (Fa.glo "is_same").ok K,
  fun K => (Fa.glo "is_value").ok K,
  fun K => methB K "StillBook" (toStr s_first_wrong) a_Book_first_wrong,
  fun K => methB K "LookBook" (toStr s_first_wrong) a_Book_first_wrong,
  fun K => methB K "EpochBook" (toStr s_first_wrong) a_Book_first_wrong,
  fun K => methB K "Book" (toStr s_first_wrong) a_Book_first_wrong,
  fun K => excB K "NoValue",
  fun K => exiB K "NoValue" "word" a_NoValueD_initD,
  fun K => (Fa.glo "NoValue").ok K,
  fun K => spB K "StillBook" "__setitem__" a_BookD_setitemD,
  fun K => spB K "LookBook" "__setitem__" a_BookD_setitemD,
  fun K => spB K "EpochBook" "__setitem__" a_BookD_setitemD,
  fun K => spB K "Book" "__setitem__" a_BookD_setitemD,
  fun K => (Fa.glo "_law_take").ok K,
  fun K => (Fa.glo "_law_choices").ok K,
  fun K => (Fa.glo "_law_one").ok K,
  fun K => (Fa.glo "_law_own").ok K,
  fun K => (Fa.glo "_law_any_own").ok K,
  fun K => (Fa.free "list").ok K,
  fun K => fldB K "StillBook" (toStr s_order),
  fun K => fldB K "LookBook" (toStr s_order),
  fun K => fldB K "EpochBook" (toStr s_order),
  fun K => fldB K "Book" (toStr s_order),
  fun K => supB K "EpochBook" a_BookD_initD ["EpochBook"],
  fun K => (Fa.free "super").ok K,
  fun K => mkB K "EpochBook" a_EpochBookD_initD,
  fun K => (Fa.glo "EpochBook").ok K,
  fun K => supB K "LookBook" a_BookD_initD ["LookBook"],
  fun K => mkB K "LookBook" a_LookBookD_initD,
  fun K => (Fa.glo "LookBook").ok K,
  fun K => supB K "StillBook" a_BookD_initD ["StillBook"],
  fun K => mkB K "StillBook" a_StillBookD_initD,
  fun K => (Fa.glo "StillBook").ok K,
  fun K => (Fa.glo "_law_book").ok K,
  fun K => (Fa.glo "_law_span").ok K,
  fun K => isB K nm [.own "EpochBook", .own "LookBook", .own "StillBook"] i_EpochBook_LookBook_StillBook,
  fun K => (Fa.glo "is_book").ok K,
  fun K => excB K "NoBook",
  fun K => exiB K "NoBook" "value" a_NoBookD_initD,
  fun K => (Fa.glo "NoBook").ok K,
  fun K => (Fa.glo "look_at_book").ok K,
  fun K => propB K "StillBook" (toStr s_way) a_Book_way,
  fun K => propB K "LookBook" (toStr s_way) a_Book_way,
  fun K => propB K "EpochBook" (toStr s_way) a_Book_way,
  fun K => propB K "Book" (toStr s_way) a_Book_way,
  fun K => (Fa.glo "span").ok K,
  fun K => neB K (ga K "StillBook"),
  fun K => neB K (ga K "LookBook"),
  fun K => neB K (ga K "EpochBook"),
  fun K => (Fa.free "dict").ok K,
  fun K => (Fa.glo "_law_all").ok K,
  fun K => (Fa.glo "_law_is_safe").ok K,
  fun K => (Fa.glo "_law_faults").ok K,
  fun K => kdB K (ga K "FAULTS") tb_FAULTS,
  fun K => (Fa.glo "FAULTS").ok K,
  fun K => (Fa.glo "still_faults").ok K,
  fun K => (Fa.glo "look_faults").ok K,
  fun K => (Fa.glo "epoch_faults").ok K,
  fun K => (Fa.glo "faults").ok K,
  fun K => isB K nm [.ty "list"] i_list,
  fun K => (Fa.glo "_law_pool").ok K,
  fun K => (Fa.glo "_law_right").ok K,
  fun K => (Fa.glo "law").ok K,
  noLstB]
def spec : MSpec := ⟨fnL, sfL, tsL, exL⟩
section
variable {w : World} {K : PySem.W.Frag} {mg : Str → Option Value} {base : Heap}
theorem bn_BookD_lenD (E : Ev spec w K mg) : BOk K a_BookD_lenD ["self"] := FunD.bindsN (E.says.def_ 0 (d := gd_BookD_lenD)) fun _ _ _ _ _ _ us hl => match us, hl with | [_], _ => rfl
theorem sc_BookD_lenD : FnScope ["self"] ["self"] (defScope st_BookD_lenD) := ⟨rfl, rfl, rfl, by decide +kernel, rfl, by decide +kernel, by decide +kernel⟩
theorem ok_BookD_lenD (E : Ev spec w K mg) : DOk P w K mg base nm 1 a_BookD_lenD ["self"] f_BookD_lenD := by
  obtain ⟨hX, XI, Gn⟩ := E.hh
  have sc := sc_BookD_lenD
  refine ⟨fn_M (N := ["self"]) (E.says.def_ 0 (d := gd_BookD_lenD)) sc rfl (fun cdv A outer s H Ex hr tk hp => ?_), arity_runB, (E.says.def_ 0 (d := gd_BookD_lenD)).kp⟩
  exact (ms_one (ms_ret (me_cb (mc_len rfl) rfl (E.free 4) boot_len (ma_cons (me_con t_WORDS (conOk_cons XI Gn rfl (E.says.ex 3) (conOk_cons XI Gn rfl (E.says.ex 2) (conOk_cons XI Gn rfl (E.says.ex 1) (conOk_cons XI Gn rfl (E.says.ex 0) conOk_nil)))) (xv 0) rfl) ma_nil))))
theorem bn__law_switches (E : Ev spec w K mg) : BOk K a__law_switches ["_law_way"] := FunD.bindsN (E.says.def_ 1 (d := gd__law_switches)) fun _ _ _ _ _ _ us hl => match us, hl with | [_], _ => rfl
theorem sc__law_switches : FnScope ["_law_way"] ["_law_way"] (defScope st__law_switches) := ⟨rfl, rfl, rfl, by decide +kernel, rfl, by decide +kernel, by decide +kernel⟩
theorem ok__law_switches (E : Ev spec w K mg) : DOk P w K mg base nm 1 a__law_switches ["_law_way"] f__law_switches := by
  obtain ⟨hX, XI, Gn⟩ := E.hh
  have sc := sc__law_switches
  refine ⟨fn_M (N := ["_law_way"]) (E.says.def_ 1 (d := gd__law_switches)) sc rfl (fun cdv A outer s H Ex hr tk hp => ?_), arity_runB, (E.says.def_ 1 (d := gd__law_switches)).kp⟩
  exact (ms_cons (ms_if (mt_cmpR (mo_eq rfl (hu64 hr)) (xv 0) (me_str t_epochs) rfl) (ms_one (ms_ret (me_lst (ma_cons (me_str t_epochs) (ma_cons (me_str t_behind) (ma_cons (me_str t_check) (ma_cons (me_str t_fetch) (ma_cons (me_str t_mark) (ma_cons (me_str t_test) (ma_cons (me_str t_step) (ma_cons (me_str t_told) ma_nil))))))))))) ms_nil) (ms_cons (ms_ret (me_if (mt_cmpR (mo_eq rfl (hu64 hr)) (xv 0) (me_str t_looks) rfl) (me_lst (ma_cons (me_str t_check) (ma_cons (me_str t_look) (ma_cons (me_str t_chain) ma_nil)))) (me_lst (ma_cons (me_str t_counts) (ma_cons (me_str t_still) (ma_cons (me_str t_read) (ma_cons (me_str t_sleep) ma_nil))))))) ms_nil))
theorem bn_NoSwitchD_initD (E : Ev spec w K mg) : BOk K a_NoSwitchD_initD ["self", "word"] := FunS.bindsN (E.says.sup 0 (d := sd_NoSwitchD_initD)) fun _ _ _ _ _ _ us hl => match us, hl with | [_, _], _ => rfl
theorem sc_NoSwitchD_initD : NdefX.NScope ["self", "word", "__class__"] ["self", "word"] ["__class__"] (defScope st_NoSwitchD_initD) := NdefX.nscope_by (by decide +kernel)
theorem ix_NoSwitchD_initD (E : Ev spec w K mg) : FnOk P w K mg base (L2.CX P w) 1 (a_NoSwitchD_initD K) (fdOf K a_NoSwitchD_initD) ["self", "word"] (spI (ga K "NoSwitch") (toStr s_word)) := by
  rw [← t_word]
  refine exFn (k := 0) (m := "a word is no switch of a book") (E.says.sup 0 (d := sd_NoSwitchD_initD)) sc_NoSwitchD_initD (excB_ok (E.says.ex 15)) (exiB_ok (E.says.ex 16)).no (fun _ _ _ _ _ => (exiB_ok (E.says.ex 16)).supX) (fun A outer s H Ex => ?_)
  exact ex_body (supD_of (E.says.sup 0 (d := sd_NoSwitchD_initD)) rfl rfl (by rfl) rfl (by kernel_rfl) (by kernel_rfl) (exiB_ok (E.says.ex 16)).any) rfl (E.free 78) rfl rfl (.inr (.inr rfl)) rfl (by first | exact .inl rfl | exact .inr (.inl rfl)) rfl (by first | exact .inl rfl | exact .inr (.inl rfl)) rfl rfl rfl rfl rfl rfl (by decide) (by decide)
theorem bn_Book_look_at_word (E : Ev spec w K mg) : BOk K a_Book_look_at_word ["self", "word"] := FunD.bindsN (E.says.def_ 2 (d := gd_Book_look_at_word)) fun _ _ _ _ _ _ us hl => match us, hl with | [_, _], _ => rfl
theorem sc_Book_look_at_word : FnScope ["self", "word"] ["self", "word"] (defScope st_Book_look_at_word) := ⟨rfl, rfl, rfl, by decide +kernel, rfl, by decide +kernel, by decide +kernel⟩
theorem ok_Book_look_at_word (E : Ev spec w K mg) : DOk P w K mg base nm 4 a_Book_look_at_word ["self", "word"] f_Book_look_at_word := by
  obtain ⟨hX, XI, Gn⟩ := E.hh
  have sc := sc_Book_look_at_word
  refine ⟨fn_M (N := ["self", "word"]) (E.says.def_ 2 (d := gd_Book_look_at_word)) sc rfl (fun cdv A outer s H Ex hr tk hp => ?_), arity_runB, (E.says.def_ 2 (d := gd_Book_look_at_word)).kp⟩
  exact (ms_one (ms_if (PW.pt (mw_or (mt_not (mt_val (me_isi rfl (isOk_of (cs := [.ty "str"]) (E.says.ex 13)) rfl (E.free 14) (xv 1) (pe_ty rfl (E.free 12) boot_str) (ClsR.ok _ (.ty "str"))))) (mw_or1 (mt_cmpR (mo_notIn rfl (hu65 hr)) (xv 1) (me_con t_WORDS (conOk_cons XI Gn rfl (E.says.ex 3) (conOk_cons XI Gn rfl (E.says.ex 2) (conOk_cons XI Gn rfl (E.says.ex 1) (conOk_cons XI Gn rfl (E.says.ex 0) conOk_nil)))) (xv 0) rfl) rfl)))) (ms_one (ms_raise (c := 13) (fld := s_word) rfl tk rfl (excB_ok (E.says.ex 15)) (exiB_ok (E.says.ex 16)).ini (exiB_ok (E.says.ex 16)).ty (ix_NoSwitchD_initD E) (hr.mono (by decide)) (bn_NoSwitchD_initD E) rfl (E.glo 17) (xv 1))) ms_nil))
theorem bn_BookD_getitemD (E : Ev spec w K mg) : BOk K a_BookD_getitemD ["self", "word"] := FunD.bindsN (E.says.def_ 3 (d := gd_BookD_getitemD)) fun _ _ _ _ _ _ us hl => match us, hl with | [_, _], _ => rfl
theorem sc_BookD_getitemD : FnScope ["self", "word"] ["self", "word"] (defScope st_BookD_getitemD) := ⟨rfl, rfl, rfl, by decide +kernel, rfl, by decide +kernel, by decide +kernel⟩
theorem ok_BookD_getitemD (E : Ev spec w K mg) : DOk P w K mg base nm 7 a_BookD_getitemD ["self", "word"] f_BookD_getitemD := by
  obtain ⟨hX, XI, Gn⟩ := E.hh
  have sc := sc_BookD_getitemD
  refine ⟨fn_M (N := ["self", "word"]) (E.says.def_ 3 (d := gd_BookD_getitemD)) sc rfl (fun cdv A outer s H Ex hr tk hp => ?_), arity_runB, (E.says.def_ 3 (d := gd_BookD_getitemD)).kp⟩
  exact (ms_cons (ms_expr (me_meth t_look_at_word (methOk_cons rfl (E.says.ex 21) (xcm (ok_Book_look_at_word E) (bn_Book_look_at_word E) hr tk) (methOk_cons rfl (E.says.ex 20) (xcm (ok_Book_look_at_word E) (bn_Book_look_at_word E) hr tk) (methOk_cons rfl (E.says.ex 19) (xcm (ok_Book_look_at_word E) (bn_Book_look_at_word E) hr tk) (methOk_cons rfl (E.says.ex 18) (xcm (ok_Book_look_at_word E) (bn_Book_look_at_word E) hr tk) methOk_nil)))) (xv 0) (ma_cons (xv 1) ma_nil))) (ms_cons (ms_ret (me_ix rfl (hu1 hr) (me_fld t_own (fldOk_cons rfl (E.says.ex 25) (fldOk_cons rfl (E.says.ex 24) (fldOk_cons rfl (E.says.ex 23) (fldOk_cons rfl (E.says.ex 22) fldOk_nil)))) (xv 0) rfl) (xv 1) (by intro _ _; rfl))) ms_nil))
theorem bn_values_at (E : Ev spec w K mg) : BOk K a_values_at ["word", "own"] := FunD.bindsN (E.says.def_ 4 (d := gd_values_at)) fun _ _ _ _ _ _ us hl => match us, hl with | [_, _], _ => rfl
theorem sc_values_at : FnScope ["word", "own"] ["word", "own"] (defScope st_values_at) := ⟨rfl, rfl, rfl, by decide +kernel, rfl, by decide +kernel, by decide +kernel⟩
theorem ok_values_at (E : Ev spec w K mg) : DOk P w K mg base nm 10 a_values_at ["word", "own"] f_values_at := by
  obtain ⟨hX, XI, Gn⟩ := E.hh
  have sc := sc_values_at
  refine ⟨fn_M (N := ["word", "own"]) (E.says.def_ 4 (d := gd_values_at)) sc rfl (fun cdv A outer s H Ex hr tk hp => ?_), arity_runB, (E.says.def_ 4 (d := gd_values_at)).kp⟩
  exact (ms_cons (ms_if (mt_cmpR (mo_eq rfl (hu64 hr)) (xv 0) (me_str t_epochs) rfl) (ms_one (ms_ret (me_tupRg2 rfl rfl (E.free 33) rfl (E.free 10) (xval E 31 rfl) (me_bin (mo_add rfl) (xval E 32 rfl) me_int)))) ms_nil) (ms_cons (ms_if (mt_cmpR (mo_eq rfl (hu64 hr)) (xv 0) (me_str t_behind) rfl) (ms_one (ms_ret (me_tupRg2 rfl rfl (E.free 33) rfl (E.free 10) me_int (me_bin (mo_add rfl) (me_ixU rfl (hu1 hr) (spOk_cons rfl (E.says.ex 29) (xca1 (ok_BookD_getitemD E) (bn_BookD_getitemD E) hr tk) (spOk_cons rfl (E.says.ex 28) (xca1 (ok_BookD_getitemD E) (bn_BookD_getitemD E) hr tk) (spOk_cons rfl (E.says.ex 27) (xca1 (ok_BookD_getitemD E) (bn_BookD_getitemD E) hr tk) (spOk_cons rfl (E.says.ex 26) (xca1 (ok_BookD_getitemD E) (bn_BookD_getitemD E) hr tk) spOk_nil)))) (xv 1) (me_str t_epochs) (by intro _ _; rfl)) me_int)))) ms_nil) (ms_cons (ms_ret (me_if (mt_cmpR (mo_eq rfl (hu64 hr)) (xv 0) (me_str t_counts) rfl) (me_tupRg2 rfl rfl (E.free 33) rfl (E.free 10) me_int (me_bin (mo_add rfl) (xval E 34 rfl) me_int)) (me_kd (d := ga K "ORDERS") (kdOk_of XI Gn (E.says.tab 0 (t := tab_ORDERS)) (E.says.ex 35)) rfl (E.glo 36) (xv 0) (by intro _ _; rfl)))) ms_nil)))
theorem bn_BookD_eqD (E : Ev spec w K mg) : BOk K a_BookD_eqD ["self", "other"] := FunD.bindsN (E.says.def_ 5 (d := gd_BookD_eqD)) fun _ _ _ _ _ _ us hl => match us, hl with | [_, _], _ => rfl
theorem sc_BookD_eqD : FnScope ["self", "other"] ["self", "other"] (defScope st_BookD_eqD) := ⟨rfl, rfl, rfl, by decide +kernel, rfl, by decide +kernel, by decide +kernel⟩
theorem ok_BookD_eqD (E : Ev spec w K mg) : DOk P w K mg base nm 1 a_BookD_eqD ["self", "other"] f_BookD_eqD := by
  obtain ⟨hX, XI, Gn⟩ := E.hh
  have sc := sc_BookD_eqD
  refine ⟨fn_M (N := ["self", "other"]) (E.says.def_ 5 (d := gd_BookD_eqD)) sc rfl (fun cdv A outer s H Ex hr tk hp => ?_), arity_runB, (E.says.def_ 5 (d := gd_BookD_eqD)).kp⟩
  exact (ms_one (ms_ret (me_and (me_isi rfl (isOk_of (cs := [.own "Book"]) (E.says.ex 41)) rfl (E.free 14) (xv 1) (pe_cl rfl (E.glo 40)) (ClsR.ok _ (.own "Book"))) (me_and (me_cmp (mo_eqX rfl (hu64 hr)) (me_con t_WAY (conOk_cons XI Gn rfl (E.says.ex 45) (conOk_cons XI Gn rfl (E.says.ex 44) (conOk_cons XI Gn rfl (E.says.ex 43) (conOk_cons XI Gn rfl (E.says.ex 42) conOk_nil)))) (xv 0) rfl) (me_con t_WAY (conOk_cons XI Gn rfl (E.says.ex 45) (conOk_cons XI Gn rfl (E.says.ex 44) (conOk_cons XI Gn rfl (E.says.ex 43) (conOk_cons XI Gn rfl (E.says.ex 42) conOk_nil)))) (xv 1) rfl) rfl) (me_one (me_cmp (mo_eqX rfl (hu64 hr)) (me_fld t_own (fldOk_cons rfl (E.says.ex 25) (fldOk_cons rfl (E.says.ex 24) (fldOk_cons rfl (E.says.ex 23) (fldOk_cons rfl (E.says.ex 22) fldOk_nil)))) (xv 0) rfl) (me_fld t_own (fldOk_cons rfl (E.says.ex 25) (fldOk_cons rfl (E.says.ex 24) (fldOk_cons rfl (E.says.ex 23) (fldOk_cons rfl (E.says.ex 22) fldOk_nil)))) (xv 1) rfl) rfl))))))
theorem bn_is_whole (E : Ev spec w K mg) : BOk K a_is_whole ["value"] := FunD.bindsN (E.says.def_ 6 (d := gd_is_whole)) fun _ _ _ _ _ _ us hl => match us, hl with | [_], _ => rfl
theorem sc_is_whole : FnScope ["value"] ["value"] (defScope st_is_whole) := ⟨rfl, rfl, rfl, by decide +kernel, rfl, by decide +kernel, by decide +kernel⟩
theorem ok_is_whole (E : Ev spec w K mg) : DOk P w K mg base nm 1 a_is_whole ["value"] f_is_whole := by
  obtain ⟨hX, XI, Gn⟩ := E.hh
  have sc := sc_is_whole
  refine ⟨fn_M (N := ["value"]) (E.says.def_ 6 (d := gd_is_whole)) sc rfl (fun cdv A outer s H Ex hr tk hp => ?_), arity_runB, (E.says.def_ 6 (d := gd_is_whole)).kp⟩
  exact (ms_one (ms_ret (me_and (me_isi rfl (isOk_of (cs := [.ty "int"]) (E.says.ex 52)) rfl (E.free 14) (xv 0) (pe_ty rfl (E.free 30) boot_int) (ClsR.ok _ (.ty "int"))) (me_one (me_not (me_isi rfl (isOk_of (cs := [.ty "bool"]) (E.says.ex 39)) rfl (E.free 14) (xv 0) (pe_ty rfl (E.free 38) boot_bool) (ClsR.ok _ (.ty "bool"))))))))
theorem bn_is_same (E : Ev spec w K mg) : BOk K a_is_same ["value", "one"] := FunD.bindsN (E.says.def_ 7 (d := gd_is_same)) fun _ _ _ _ _ _ us hl => match us, hl with | [_, _], _ => rfl
theorem sc_is_same : FnScope ["value", "one"] ["value", "one"] (defScope st_is_same) := ⟨rfl, rfl, rfl, by decide +kernel, rfl, by decide +kernel, by decide +kernel⟩
theorem ok_is_same (E : Ev spec w K mg) : DOk P w K mg base nm 4 a_is_same ["value", "one"] f_is_same := by
  obtain ⟨hX, XI, Gn⟩ := E.hh
  have sc := sc_is_same
  refine ⟨fn_M (N := ["value", "one"]) (E.says.def_ 7 (d := gd_is_same)) sc rfl (fun cdv A outer s H Ex hr tk hp => ?_), arity_runB, (E.says.def_ 7 (d := gd_is_same)).kp⟩
  exact (ms_cons (ms_if (mt_val (me_isi rfl (isOk_of (cs := [.ty "bool"]) (E.says.ex 39)) rfl (E.free 14) (xv 1) (pe_ty rfl (E.free 38) boot_bool) (ClsR.ok _ (.ty "bool")))) (ms_one (ms_ret (me_and (me_isi rfl (isOk_of (cs := [.ty "bool"]) (E.says.ex 39)) rfl (E.free 14) (xv 0) (pe_ty rfl (E.free 38) boot_bool) (ClsR.ok _ (.ty "bool"))) (me_one (me_cmpU (nm := "__eq__") (fun _ _ => rfl) rfl rfl (Nat.lt_of_succ_lt (hu1 hr)) (spOk_cons rfl (E.says.ex 48) (xca0 (ok_BookD_eqD E) (bn_BookD_eqD E) hr tk) (spOk_cons rfl (E.says.ex 47) (xca0 (ok_BookD_eqD E) (bn_BookD_eqD E) hr tk) (spOk_cons rfl (E.says.ex 46) (xca0 (ok_BookD_eqD E) (bn_BookD_eqD E) hr tk) spOk_nil))) (nfOk_cons rfl (E.says.ex 51) (nfOk_cons rfl (E.says.ex 50) (nfOk_cons rfl (E.says.ex 49) nfOk_nil))) (mo_eqX rfl (hu64 hr)) (xv 0) (xv 1) rfl))))) ms_nil) (ms_cons (ms_if (mt_val (me_isi rfl (isOk_of (cs := [.ty "str"]) (E.says.ex 13)) rfl (E.free 14) (xv 1) (pe_ty rfl (E.free 12) boot_str) (ClsR.ok _ (.ty "str")))) (ms_one (ms_ret (me_and (me_isi rfl (isOk_of (cs := [.ty "str"]) (E.says.ex 13)) rfl (E.free 14) (xv 0) (pe_ty rfl (E.free 12) boot_str) (ClsR.ok _ (.ty "str"))) (me_one (me_cmpU (nm := "__eq__") (fun _ _ => rfl) rfl rfl (Nat.lt_of_succ_lt (hu1 hr)) (spOk_cons rfl (E.says.ex 48) (xca0 (ok_BookD_eqD E) (bn_BookD_eqD E) hr tk) (spOk_cons rfl (E.says.ex 47) (xca0 (ok_BookD_eqD E) (bn_BookD_eqD E) hr tk) (spOk_cons rfl (E.says.ex 46) (xca0 (ok_BookD_eqD E) (bn_BookD_eqD E) hr tk) spOk_nil))) (nfOk_cons rfl (E.says.ex 51) (nfOk_cons rfl (E.says.ex 50) (nfOk_cons rfl (E.says.ex 49) nfOk_nil))) (mo_eqX rfl (hu64 hr)) (xv 0) (xv 1) rfl))))) ms_nil) (ms_cons (ms_ret (me_and (xcall (ok_is_whole E) (bn_is_whole E) hr tk (E.glo 53) (ma_cons (xv 0) ma_nil)) (me_one (me_cmpU (nm := "__eq__") (fun _ _ => rfl) rfl rfl (Nat.lt_of_succ_lt (hu1 hr)) (spOk_cons rfl (E.says.ex 48) (xca0 (ok_BookD_eqD E) (bn_BookD_eqD E) hr tk) (spOk_cons rfl (E.says.ex 47) (xca0 (ok_BookD_eqD E) (bn_BookD_eqD E) hr tk) (spOk_cons rfl (E.says.ex 46) (xca0 (ok_BookD_eqD E) (bn_BookD_eqD E) hr tk) spOk_nil))) (nfOk_cons rfl (E.says.ex 51) (nfOk_cons rfl (E.says.ex 50) (nfOk_cons rfl (E.says.ex 49) nfOk_nil))) (mo_eqX rfl (hu64 hr)) (xv 0) (xv 1) rfl)))) ms_nil)))
theorem bn_is_value (E : Ev spec w K mg) : BOk K a_is_value ["word", "own"] := FunD.bindsN (E.says.def_ 8 (d := gd_is_value)) fun _ _ _ _ _ _ us hl => match us, hl with | [_, _], _ => rfl
theorem sc_is_value : FnScope ["word", "own", "one"] ["word", "own"] (defScope st_is_value) := ⟨rfl, rfl, rfl, by decide +kernel, rfl, by decide +kernel, by decide +kernel⟩
theorem ok_is_value (E : Ev spec w K mg) : DOk P w K mg base nm 13 a_is_value ["word", "own"] f_is_value := by
  obtain ⟨hX, XI, Gn⟩ := E.hh
  have sc := sc_is_value
  refine ⟨fn_M (N := ["word", "own", "one"]) (E.says.def_ 8 (d := gd_is_value)) sc rfl (fun cdv A outer s H Ex hr tk hp => ?_), arity_runB, (E.says.def_ 8 (d := gd_is_value)).kp⟩
  exact (ms_one (ms_ret (me_cmp (mo_ne rfl (hu64 hr)) (me_lc1 (t := .one 2) (own := [(("one" : Str), 2)]) rfl rfl sc.nd (mi_seq rfl (xcall (ok_values_at E) (bn_values_at E) hr tk (E.glo 37) (ma_cons (xv 0) (ma_cons (xv 1) ma_nil)))) (blkOk_by (by kernel_rfl)) (by decide) (fun _ _ _ _ _ => (pg_name sc.nd rfl (by first | exact .inl rfl | exact .inr rfl))) (fun _ _ _ _ _ => (mt_val (xcall (ok_is_same E) (bn_is_same E) hr takes0 (E.glo 54) (ma_cons (me_ixU rfl (hu1 hr) (spOk_cons rfl (E.says.ex 29) (xca1 (ok_BookD_getitemD E) (bn_BookD_getitemD E) hr takes0) (spOk_cons rfl (E.says.ex 28) (xca1 (ok_BookD_getitemD E) (bn_BookD_getitemD E) hr takes0) (spOk_cons rfl (E.says.ex 27) (xca1 (ok_BookD_getitemD E) (bn_BookD_getitemD E) hr takes0) (spOk_cons rfl (E.says.ex 26) (xca1 (ok_BookD_getitemD E) (bn_BookD_getitemD E) hr takes0) spOk_nil)))) (xv 1) (xv 0) (by intro _ _; rfl)) (ma_cons (xv 2) ma_nil))))) (fun _ _ _ _ _ => (xv 2))) (me_lst ma_nil) rfl)))
theorem bn_Book_first_wrong (E : Ev spec w K mg) : BOk K a_Book_first_wrong ["self", "own"] := FunD.bindsN (E.says.def_ 9 (d := gd_Book_first_wrong)) fun _ _ _ _ _ _ us hl => match us, hl with | [_, _], _ => rfl
theorem sc_Book_first_wrong : FnScope ["self", "own", "word"] ["self", "own"] (defScope st_Book_first_wrong) := ⟨rfl, rfl, rfl, by decide +kernel, rfl, by decide +kernel, by decide +kernel⟩
theorem ok_Book_first_wrong (E : Ev spec w K mg) : DOk P w K mg base nm 16 a_Book_first_wrong ["self", "own"] f_Book_first_wrong := by
  obtain ⟨hX, XI, Gn⟩ := E.hh
  have sc := sc_Book_first_wrong
  refine ⟨fn_M (N := ["self", "own", "word"]) (E.says.def_ 9 (d := gd_Book_first_wrong)) sc rfl (fun cdv A outer s H Ex hr tk hp => ?_), arity_runB, (E.says.def_ 9 (d := gd_Book_first_wrong)).kp⟩
  exact (ms_cons (ms_for hp rfl (mi_seq rfl (me_con t_WORDS (conOk_cons XI Gn rfl (E.says.ex 3) (conOk_cons XI Gn rfl (E.says.ex 2) (conOk_cons XI Gn rfl (E.says.ex 1) (conOk_cons XI Gn rfl (E.says.ex 0) conOk_nil)))) (xv 0) rfl)) (mg_name sc.nd rfl (by first | exact .inl rfl | exact .inr rfl)) (onlyNx_name _) (ms_one (ms_if (mt_not (mt_val (xcall (ok_is_value E) (bn_is_value E) hr tk (E.glo 55) (ma_cons (xv 2) (ma_cons (xv 1) ma_nil))))) (ms_one (ms_ret (xv 2))) ms_nil))) (ms_cons (ms_ret me_non) ms_nil))
theorem bn_NoValueD_initD (E : Ev spec w K mg) : BOk K a_NoValueD_initD ["self", "word"] := FunS.bindsN (E.says.sup 1 (d := sd_NoValueD_initD)) fun _ _ _ _ _ _ us hl => match us, hl with | [_, _], _ => rfl
theorem sc_NoValueD_initD : NdefX.NScope ["self", "word", "__class__"] ["self", "word"] ["__class__"] (defScope st_NoValueD_initD) := NdefX.nscope_by (by decide +kernel)
theorem ix_NoValueD_initD (E : Ev spec w K mg) : FnOk P w K mg base (L2.CX P w) 1 (a_NoValueD_initD K) (fdOf K a_NoValueD_initD) ["self", "word"] (spI (ga K "NoValue") (toStr s_word)) := by
  rw [← t_word]
  refine exFn (k := 0) (m := "a value is none of a switch") (E.says.sup 1 (d := sd_NoValueD_initD)) sc_NoValueD_initD (excB_ok (E.says.ex 60)) (exiB_ok (E.says.ex 61)).no (fun _ _ _ _ _ => (exiB_ok (E.says.ex 61)).supX) (fun A outer s H Ex => ?_)
  exact ex_body (supD_of (E.says.sup 1 (d := sd_NoValueD_initD)) rfl rfl (by rfl) rfl (by kernel_rfl) (by kernel_rfl) (exiB_ok (E.says.ex 61)).any) rfl (E.free 78) rfl rfl (.inr (.inr rfl)) rfl (by first | exact .inl rfl | exact .inr (.inl rfl)) rfl (by first | exact .inl rfl | exact .inr (.inl rfl)) rfl rfl rfl rfl rfl rfl (by decide) (by decide)
theorem bn_BookD_setitemD (E : Ev spec w K mg) : BOk K a_BookD_setitemD ["self", "word", "value"] := FunD.bindsN (E.says.def_ 10 (d := gd_BookD_setitemD)) fun _ _ _ _ _ _ us hl => match us, hl with | [_, _, _], _ => rfl
theorem sc_BookD_setitemD : FnScope ["self", "word", "value", "own"] ["self", "word", "value"] (defScope st_BookD_setitemD) := ⟨rfl, rfl, rfl, by decide +kernel, rfl, by decide +kernel, by decide +kernel⟩
theorem ok_BookD_setitemD (E : Ev spec w K mg) : DOk P w K mg base nm 19 a_BookD_setitemD ["self", "word", "value"] f_BookD_setitemD := by
  obtain ⟨hX, XI, Gn⟩ := E.hh
  have sc := sc_BookD_setitemD
  refine ⟨fn_M (N := ["self", "word", "value", "own"]) (E.says.def_ 10 (d := gd_BookD_setitemD)) sc rfl (fun cdv A outer s H Ex hr tk hp => ?_), arity_runB, (E.says.def_ 10 (d := gd_BookD_setitemD)).kp⟩
  exact (ms_cons (ms_expr (me_meth t_look_at_word (methOk_cons rfl (E.says.ex 21) (xcm (ok_Book_look_at_word E) (bn_Book_look_at_word E) hr tk) (methOk_cons rfl (E.says.ex 20) (xcm (ok_Book_look_at_word E) (bn_Book_look_at_word E) hr tk) (methOk_cons rfl (E.says.ex 19) (xcm (ok_Book_look_at_word E) (bn_Book_look_at_word E) hr tk) (methOk_cons rfl (E.says.ex 18) (xcm (ok_Book_look_at_word E) (bn_Book_look_at_word E) hr tk) methOk_nil)))) (xv 0) (ma_cons (xv 1) ma_nil))) (ms_cons (ms_set (i := 3) sc.nd rfl (by first | exact .inl rfl | exact .inr rfl) (me_mrg (me_fld t_own (fldOk_cons rfl (E.says.ex 25) (fldOk_cons rfl (E.says.ex 24) (fldOk_cons rfl (E.says.ex 23) (fldOk_cons rfl (E.says.ex 22) fldOk_nil)))) (xv 0) rfl) (xv 1) (xv 2))) (ms_cons (ms_if (mt_cmpR mo_notN (me_meth t_first_wrong (methOk_cons rfl (E.says.ex 59) (xcm (ok_Book_first_wrong E) (bn_Book_first_wrong E) hr tk) (methOk_cons rfl (E.says.ex 58) (xcm (ok_Book_first_wrong E) (bn_Book_first_wrong E) hr tk) (methOk_cons rfl (E.says.ex 57) (xcm (ok_Book_first_wrong E) (bn_Book_first_wrong E) hr tk) (methOk_cons rfl (E.says.ex 56) (xcm (ok_Book_first_wrong E) (bn_Book_first_wrong E) hr tk) methOk_nil)))) (xv 0) (ma_cons (xv 3) ma_nil)) me_non rfl) (ms_one (ms_raise (c := 14) (fld := s_word) rfl tk rfl (excB_ok (E.says.ex 60)) (exiB_ok (E.says.ex 61)).ini (exiB_ok (E.says.ex 61)).ty (ix_NoValueD_initD E) (hr.mono (by decide)) (bn_NoValueD_initD E) rfl (E.glo 62) (xv 1))) ms_nil) (ms_cons (ms_fld t_own (fldOk_cons rfl (E.says.ex 25) (fldOk_cons rfl (E.says.ex 24) (fldOk_cons rfl (E.says.ex 23) (fldOk_cons rfl (E.says.ex 22) fldOk_nil)))) (xv 0) (xv 3) rfl) ms_nil))))
theorem bn__law_take (E : Ev spec w K mg) : BOk K a__law_take ["_law_pool_here", "_law_many"] := FunD.bindsN (E.says.def_ 11 (d := gd__law_take)) fun _ _ _ _ _ _ us hl => match us, hl with | [_, _], _ => rfl
theorem sc__law_take : FnScope ["_law_pool_here", "_law_many", "_law_found"] ["_law_pool_here", "_law_many"] (defScope st__law_take) := ⟨rfl, rfl, rfl, by decide +kernel, rfl, by decide +kernel, by decide +kernel⟩
theorem ok__law_take (E : Ev spec w K mg) : DOk P w K mg base nm 22 a__law_take ["_law_pool_here", "_law_many"] f__law_take := by
  obtain ⟨hX, XI, Gn⟩ := E.hh
  have sc := sc__law_take
  refine ⟨fn_M (N := ["_law_pool_here", "_law_many", "_law_found"]) (E.says.def_ 11 (d := gd__law_take)) sc rfl (fun cdv A outer s H Ex hr tk hp => ?_), arity_runB, (E.says.def_ 11 (d := gd__law_take)).kp⟩
  exact (ms_cons (ms_if (mt_cmpR mo_gt (me_ixU rfl (hu1 hr) (spOk_cons rfl (E.says.ex 29) (xca1 (ok_BookD_getitemD E) (bn_BookD_getitemD E) hr tk) (spOk_cons rfl (E.says.ex 28) (xca1 (ok_BookD_getitemD E) (bn_BookD_getitemD E) hr tk) (spOk_cons rfl (E.says.ex 27) (xca1 (ok_BookD_getitemD E) (bn_BookD_getitemD E) hr tk) (spOk_cons rfl (E.says.ex 26) (xca1 (ok_BookD_getitemD E) (bn_BookD_getitemD E) hr tk) spOk_nil)))) (xv 0) me_int (by intro _ _; rfl)) me_int rfl) (ms_cons (ms_set (i := 2) sc.nd rfl (by first | exact .inl rfl | exact .inr rfl) (me_bin mo_mod (me_cty mc_int rfl (E.free 30) boot_int (ma_cons (me_ixU rfl (hu1 hr) (spOk_cons rfl (E.says.ex 29) (xca1 (ok_BookD_getitemD E) (bn_BookD_getitemD E) hr tk) (spOk_cons rfl (E.says.ex 28) (xca1 (ok_BookD_getitemD E) (bn_BookD_getitemD E) hr tk) (spOk_cons rfl (E.says.ex 27) (xca1 (ok_BookD_getitemD E) (bn_BookD_getitemD E) hr tk) (spOk_cons rfl (E.says.ex 26) (xca1 (ok_BookD_getitemD E) (bn_BookD_getitemD E) hr tk) spOk_nil)))) (xv 0) me_int (by intro _ _; rfl)) ma_nil)) (xv 1))) (ms_cons (ms_asg (me_bin mo_fdiv (me_ixU rfl (hu1 hr) (spOk_cons rfl (E.says.ex 29) (xca1 (ok_BookD_getitemD E) (bn_BookD_getitemD E) hr tk) (spOk_cons rfl (E.says.ex 28) (xca1 (ok_BookD_getitemD E) (bn_BookD_getitemD E) hr tk) (spOk_cons rfl (E.says.ex 27) (xca1 (ok_BookD_getitemD E) (bn_BookD_getitemD E) hr tk) (spOk_cons rfl (E.says.ex 26) (xca1 (ok_BookD_getitemD E) (bn_BookD_getitemD E) hr tk) spOk_nil)))) (xv 0) me_int (by intro _ _; rfl)) (xv 1)) (mg_ixU (hu1 hr) (spOk_cons rfl (E.says.ex 66) (xca0 (ok_BookD_setitemD E) (bn_BookD_setitemD E) hr tk) (spOk_cons rfl (E.says.ex 65) (xca0 (ok_BookD_setitemD E) (bn_BookD_setitemD E) hr tk) (spOk_cons rfl (E.says.ex 64) (xca0 (ok_BookD_setitemD E) (bn_BookD_setitemD E) hr tk) (spOk_cons rfl (E.says.ex 63) (xca0 (ok_BookD_setitemD E) (bn_BookD_setitemD E) hr tk) spOk_nil)))) (xv 0) me_int) (onlyNx_ixU _ _ _)) (ms_cons (ms_ret (xv 2)) ms_nil))) ms_nil) (ms_cons (ms_asg (me_bin mo_mod (me_cty mc_int rfl (E.free 30) boot_int (ma_cons (me_bin (mo_add rfl) (me_bin (mo_mul rfl) (me_ixU rfl (hu1 hr) (spOk_cons rfl (E.says.ex 29) (xca1 (ok_BookD_getitemD E) (bn_BookD_getitemD E) hr tk) (spOk_cons rfl (E.says.ex 28) (xca1 (ok_BookD_getitemD E) (bn_BookD_getitemD E) hr tk) (spOk_cons rfl (E.says.ex 27) (xca1 (ok_BookD_getitemD E) (bn_BookD_getitemD E) hr tk) (spOk_cons rfl (E.says.ex 26) (xca1 (ok_BookD_getitemD E) (bn_BookD_getitemD E) hr tk) spOk_nil)))) (xv 0) me_int (by intro _ _; rfl)) me_int) me_int) ma_nil)) me_int) (mg_ixU (hu1 hr) (spOk_cons rfl (E.says.ex 66) (xca0 (ok_BookD_setitemD E) (bn_BookD_setitemD E) hr tk) (spOk_cons rfl (E.says.ex 65) (xca0 (ok_BookD_setitemD E) (bn_BookD_setitemD E) hr tk) (spOk_cons rfl (E.says.ex 64) (xca0 (ok_BookD_setitemD E) (bn_BookD_setitemD E) hr tk) (spOk_cons rfl (E.says.ex 63) (xca0 (ok_BookD_setitemD E) (bn_BookD_setitemD E) hr tk) spOk_nil)))) (xv 0) me_int) (onlyNx_ixU _ _ _)) (ms_cons (ms_ret (me_bin mo_mod (me_bin mo_fdiv (me_bin mo_mod (me_cty mc_int rfl (E.free 30) boot_int (ma_cons (me_bin (mo_mul rfl) (me_ixU rfl (hu1 hr) (spOk_cons rfl (E.says.ex 29) (xca1 (ok_BookD_getitemD E) (bn_BookD_getitemD E) hr tk) (spOk_cons rfl (E.says.ex 28) (xca1 (ok_BookD_getitemD E) (bn_BookD_getitemD E) hr tk) (spOk_cons rfl (E.says.ex 27) (xca1 (ok_BookD_getitemD E) (bn_BookD_getitemD E) hr tk) (spOk_cons rfl (E.says.ex 26) (xca1 (ok_BookD_getitemD E) (bn_BookD_getitemD E) hr tk) spOk_nil)))) (xv 0) me_int (by intro _ _; rfl)) (me_ixU rfl (hu1 hr) (spOk_cons rfl (E.says.ex 29) (xca1 (ok_BookD_getitemD E) (bn_BookD_getitemD E) hr tk) (spOk_cons rfl (E.says.ex 28) (xca1 (ok_BookD_getitemD E) (bn_BookD_getitemD E) hr tk) (spOk_cons rfl (E.says.ex 27) (xca1 (ok_BookD_getitemD E) (bn_BookD_getitemD E) hr tk) (spOk_cons rfl (E.says.ex 26) (xca1 (ok_BookD_getitemD E) (bn_BookD_getitemD E) hr tk) spOk_nil)))) (xv 0) me_int (by intro _ _; rfl))) ma_nil)) me_int) me_int) (xv 1))) ms_nil)))
theorem bn__law_one (E : Ev spec w K mg) : BOk K a__law_one ["_law_pool_here", "_law_some"] := FunD.bindsN (E.says.def_ 12 (d := gd__law_one)) fun _ _ _ _ _ _ us hl => match us, hl with | [_, _], _ => rfl
theorem sc__law_one : FnScope ["_law_pool_here", "_law_some"] ["_law_pool_here", "_law_some"] (defScope st__law_one) := ⟨rfl, rfl, rfl, by decide +kernel, rfl, by decide +kernel, by decide +kernel⟩
theorem ok__law_one (E : Ev spec w K mg) : DOk P w K mg base nm 25 a__law_one ["_law_pool_here", "_law_some"] f__law_one := by
  obtain ⟨hX, XI, Gn⟩ := E.hh
  have sc := sc__law_one
  refine ⟨fn_M (N := ["_law_pool_here", "_law_some"]) (E.says.def_ 12 (d := gd__law_one)) sc rfl (fun cdv A outer s H Ex hr tk hp => ?_), arity_runB, (E.says.def_ 12 (d := gd__law_one)).kp⟩
  exact (ms_one (ms_ret (me_ixU rfl (hu1 hr) (spOk_cons rfl (E.says.ex 29) (xca1 (ok_BookD_getitemD E) (bn_BookD_getitemD E) hr tk) (spOk_cons rfl (E.says.ex 28) (xca1 (ok_BookD_getitemD E) (bn_BookD_getitemD E) hr tk) (spOk_cons rfl (E.says.ex 27) (xca1 (ok_BookD_getitemD E) (bn_BookD_getitemD E) hr tk) (spOk_cons rfl (E.says.ex 26) (xca1 (ok_BookD_getitemD E) (bn_BookD_getitemD E) hr tk) spOk_nil)))) (xv 1) (xcall (ok__law_take E) (bn__law_take E) hr tk (E.glo 67) (ma_cons (xv 0) (ma_cons (me_lenU (mc_len rfl) (spOk_cons rfl (E.says.ex 7) (xca1 (ok_BookD_lenD E) (bn_BookD_lenD E) hr tk) (spOk_cons rfl (E.says.ex 6) (xca1 (ok_BookD_lenD E) (bn_BookD_lenD E) hr tk) (spOk_cons rfl (E.says.ex 5) (xca1 (ok_BookD_lenD E) (bn_BookD_lenD E) hr tk) spOk_nil))) rfl (E.free 4) boot_len (xv 1)) ma_nil))) (by intro _ _; rfl))))
theorem bn__law_choices (E : Ev spec w K mg) : BOk K a__law_choices ["_law_word", "_law_own_here"] := FunD.bindsN (E.says.def_ 13 (d := gd__law_choices)) fun _ _ _ _ _ _ us hl => match us, hl with | [_, _], _ => rfl
theorem sc__law_choices : FnScope ["_law_word", "_law_own_here", "_law_at", "_law_found"] ["_law_word", "_law_own_here"] (defScope st__law_choices) := ⟨rfl, rfl, rfl, by decide +kernel, rfl, by decide +kernel, by decide +kernel⟩
theorem ok__law_choices (E : Ev spec w K mg) : DOk P w K mg base nm 22 a__law_choices ["_law_word", "_law_own_here"] f__law_choices := by
  obtain ⟨hX, XI, Gn⟩ := E.hh
  have sc := sc__law_choices
  refine ⟨fn_M (N := ["_law_word", "_law_own_here", "_law_at", "_law_found"]) (E.says.def_ 13 (d := gd__law_choices)) sc rfl (fun cdv A outer s H Ex hr tk hp => ?_), arity_runB, (E.says.def_ 13 (d := gd__law_choices)).kp⟩
  exact (ms_cons (ms_if (mt_cmpR (mo_eq rfl (hu64 hr)) (xv 0) (me_str t_epochs) rfl) (ms_one (ms_ret (me_lst (ma_cons me_int (ma_cons me_int (ma_cons me_int (ma_cons me_int (ma_cons me_int ma_nil)))))))) ms_nil) (ms_cons (ms_if (mt_cmpR (mo_eq rfl (hu64 hr)) (xv 0) (me_str t_behind) rfl) (ms_one (ms_ret (me_lc0 (t := .one 2) (own := [(("_law_at" : Str), 2)]) rfl rfl sc.nd (mi_rng1 rfl (E.free 10) (ma_cons (me_ixU rfl (hu1 hr) (spOk_cons rfl (E.says.ex 29) (xca1 (ok_BookD_getitemD E) (bn_BookD_getitemD E) hr tk) (spOk_cons rfl (E.says.ex 28) (xca1 (ok_BookD_getitemD E) (bn_BookD_getitemD E) hr tk) (spOk_cons rfl (E.says.ex 27) (xca1 (ok_BookD_getitemD E) (bn_BookD_getitemD E) hr tk) (spOk_cons rfl (E.says.ex 26) (xca1 (ok_BookD_getitemD E) (bn_BookD_getitemD E) hr tk) spOk_nil)))) (xv 1) (me_str t_epochs) (by intro _ _; rfl)) ma_nil) rfl aCons1) (blkOk_by (by kernel_rfl)) (by decide) (fun _ _ _ _ _ => (pg_name sc.nd rfl (by first | exact .inl rfl | exact .inr rfl))) (fun _ _ _ _ _ => (me_bin (mo_add rfl) (xv 2) me_int))))) ms_nil) (ms_cons (ms_if (mt_cmpR (mo_eq rfl (hu64 hr)) (xv 0) (me_str t_counts) rfl) (ms_one (ms_ret (me_lst (ma_cons me_int (ma_cons me_int (ma_cons me_int (ma_cons me_int ma_nil))))))) ms_nil) (ms_cons (ms_set (i := 3) sc.nd rfl (by first | exact .inl rfl | exact .inr rfl) (me_disp (ps := [((eC (.str s_fetch)), (eLst (aCons (eC (.str s_ahead)) (aCons (eC (.str s_behind)) aNil)))), ((eC (.str s_mark)), (eLst (aCons (eC (.str s_own)) (aCons (eC (.str s_fresh)) aNil)))), ((eC (.str s_test)), (eLst (aCons (eC (.str s_last)) (aCons (eC (.str s_equal)) aNil))))]) (mp_cons (me_str t_fetch) (me_lst (ma_cons (me_str t_ahead) (ma_cons (me_str t_behind) ma_nil))) (mp_cons (me_str t_mark) (me_lst (ma_cons (me_str t_own) (ma_cons (me_str t_fresh) ma_nil))) (mp_cons (me_str t_test) (me_lst (ma_cons (me_str t_last) (ma_cons (me_str t_equal) ma_nil))) mp_nil))) rfl rfl (by decide) (by decide))) (ms_cons (ms_asg (me_tup (ma_cons (me_lst (ma_cons (me_str t_add) (ma_cons (me_str t_set) (ma_cons (me_str t_still) ma_nil)))) (ma_cons (me_lst (ma_cons (me_str t_ahead) (ma_cons (me_str t_behind) ma_nil))) ma_nil))) (mg_tupM rfl rfl (mgs_cons (mg_ixU (hu1 hr) (spOk_cons rfl (E.says.ex 66) (xca0 (ok_BookD_setitemD E) (bn_BookD_setitemD E) hr tk) (spOk_cons rfl (E.says.ex 65) (xca0 (ok_BookD_setitemD E) (bn_BookD_setitemD E) hr tk) (spOk_cons rfl (E.says.ex 64) (xca0 (ok_BookD_setitemD E) (bn_BookD_setitemD E) hr tk) (spOk_cons rfl (E.says.ex 63) (xca0 (ok_BookD_setitemD E) (bn_BookD_setitemD E) hr tk) spOk_nil)))) (xv 3) (me_str t_step)) (onlyNx_ixU _ _ _) (mgs_cons (mg_ixU (hu1 hr) (spOk_cons rfl (E.says.ex 66) (xca0 (ok_BookD_setitemD E) (bn_BookD_setitemD E) hr tk) (spOk_cons rfl (E.says.ex 65) (xca0 (ok_BookD_setitemD E) (bn_BookD_setitemD E) hr tk) (spOk_cons rfl (E.says.ex 64) (xca0 (ok_BookD_setitemD E) (bn_BookD_setitemD E) hr tk) (spOk_cons rfl (E.says.ex 63) (xca0 (ok_BookD_setitemD E) (bn_BookD_setitemD E) hr tk) spOk_nil)))) (xv 3) (me_str t_look)) (onlyNx_ixU _ _ _) mgs_nil))) (onlyNx_tupM _ (List.forall_mem_cons.mpr ⟨(onlyNx_ixU _ _ _), (List.forall_mem_cons.mpr ⟨(onlyNx_ixU _ _ _), (by intro _ h; cases h)⟩)⟩))) (ms_cons (ms_asg (me_tup (ma_cons (me_lst (ma_cons (me_str t_next) (ma_cons (me_str t_both) (ma_cons (me_str t_none) ma_nil)))) (ma_cons (me_lst (ma_cons (me_str t_anywhere) (ma_cons (me_str t_outside) ma_nil))) ma_nil))) (mg_tupM rfl rfl (mgs_cons (mg_ixU (hu1 hr) (spOk_cons rfl (E.says.ex 66) (xca0 (ok_BookD_setitemD E) (bn_BookD_setitemD E) hr tk) (spOk_cons rfl (E.says.ex 65) (xca0 (ok_BookD_setitemD E) (bn_BookD_setitemD E) hr tk) (spOk_cons rfl (E.says.ex 64) (xca0 (ok_BookD_setitemD E) (bn_BookD_setitemD E) hr tk) (spOk_cons rfl (E.says.ex 63) (xca0 (ok_BookD_setitemD E) (bn_BookD_setitemD E) hr tk) spOk_nil)))) (xv 3) (me_str t_chain)) (onlyNx_ixU _ _ _) (mgs_cons (mg_ixU (hu1 hr) (spOk_cons rfl (E.says.ex 66) (xca0 (ok_BookD_setitemD E) (bn_BookD_setitemD E) hr tk) (spOk_cons rfl (E.says.ex 65) (xca0 (ok_BookD_setitemD E) (bn_BookD_setitemD E) hr tk) (spOk_cons rfl (E.says.ex 64) (xca0 (ok_BookD_setitemD E) (bn_BookD_setitemD E) hr tk) (spOk_cons rfl (E.says.ex 63) (xca0 (ok_BookD_setitemD E) (bn_BookD_setitemD E) hr tk) spOk_nil)))) (xv 3) (me_str t_still)) (onlyNx_ixU _ _ _) mgs_nil))) (onlyNx_tupM _ (List.forall_mem_cons.mpr ⟨(onlyNx_ixU _ _ _), (List.forall_mem_cons.mpr ⟨(onlyNx_ixU _ _ _), (by intro _ h; cases h)⟩)⟩))) (ms_cons (ms_asg (me_lst (ma_cons (me_str t_ahead) (ma_cons (me_str t_behind) ma_nil))) (mg_ixU (hu1 hr) (spOk_cons rfl (E.says.ex 66) (xca0 (ok_BookD_setitemD E) (bn_BookD_setitemD E) hr tk) (spOk_cons rfl (E.says.ex 65) (xca0 (ok_BookD_setitemD E) (bn_BookD_setitemD E) hr tk) (spOk_cons rfl (E.says.ex 64) (xca0 (ok_BookD_setitemD E) (bn_BookD_setitemD E) hr tk) (spOk_cons rfl (E.says.ex 63) (xca0 (ok_BookD_setitemD E) (bn_BookD_setitemD E) hr tk) spOk_nil)))) (xv 3) (me_str t_read)) (onlyNx_ixU _ _ _)) (ms_cons (ms_asg (me_lst (ma_cons (me_str t_inside) (ma_cons (me_str t_late) (ma_cons (me_str t_outside) (ma_cons (me_str t_none) ma_nil))))) (mg_ixU (hu1 hr) (spOk_cons rfl (E.says.ex 66) (xca0 (ok_BookD_setitemD E) (bn_BookD_setitemD E) hr tk) (spOk_cons rfl (E.says.ex 65) (xca0 (ok_BookD_setitemD E) (bn_BookD_setitemD E) hr tk) (spOk_cons rfl (E.says.ex 64) (xca0 (ok_BookD_setitemD E) (bn_BookD_setitemD E) hr tk) (spOk_cons rfl (E.says.ex 63) (xca0 (ok_BookD_setitemD E) (bn_BookD_setitemD E) hr tk) spOk_nil)))) (xv 3) (me_str t_sleep)) (onlyNx_ixU _ _ _)) (ms_cons (ms_ret (me_get2 (hu1 hr) (xv 3) (xv 0) (me_lst (ma_cons me_bl (ma_cons me_bl ma_nil))) ⟨rfl, rfl, rfl, rfl⟩)) ms_nil)))))))))
theorem bn__law_own (E : Ev spec w K mg) : BOk K a__law_own ["_law_pool_here", "_law_way"] := FunD.bindsN (E.says.def_ 14 (d := gd__law_own)) fun _ _ _ _ _ _ us hl => match us, hl with | [_, _], _ => rfl
theorem sc__law_own : FnScope ["_law_pool_here", "_law_way", "_law_own_here", "_law_word"] ["_law_pool_here", "_law_way"] (defScope st__law_own) := ⟨rfl, rfl, rfl, by decide +kernel, rfl, by decide +kernel, by decide +kernel⟩
theorem ok__law_own (E : Ev spec w K mg) : DOk P w K mg base nm 28 a__law_own ["_law_pool_here", "_law_way"] f__law_own := by
  obtain ⟨hX, XI, Gn⟩ := E.hh
  have sc := sc__law_own
  refine ⟨fn_M (N := ["_law_pool_here", "_law_way", "_law_own_here", "_law_word"]) (E.says.def_ 14 (d := gd__law_own)) sc rfl (fun cdv A outer s H Ex hr tk hp => ?_), arity_runB, (E.says.def_ 14 (d := gd__law_own)).kp⟩
  exact (ms_cons (ms_set (i := 2) sc.nd rfl (by first | exact .inl rfl | exact .inr rfl) (me_disp (ps := [((eC (.str s_way)), (eV 1))]) (mp_cons (me_str t_way) (xv 1) mp_nil) rfl rfl (by decide) (by decide))) (ms_cons (ms_for hp rfl (mi_seq rfl (xcall (ok__law_switches E) (bn__law_switches E) hr tk (E.glo 11) (ma_cons (xv 1) ma_nil))) (mg_name sc.nd rfl (by first | exact .inl rfl | exact .inr rfl)) (onlyNx_name _) (ms_one (ms_asg (xcall (ok__law_one E) (bn__law_one E) hr tk (E.glo 69) (ma_cons (xv 0) (ma_cons (xcall (ok__law_choices E) (bn__law_choices E) hr tk (E.glo 68) (ma_cons (xv 3) (ma_cons (xv 2) ma_nil))) ma_nil))) (mg_ixU (hu1 hr) (spOk_cons rfl (E.says.ex 66) (xca0 (ok_BookD_setitemD E) (bn_BookD_setitemD E) hr tk) (spOk_cons rfl (E.says.ex 65) (xca0 (ok_BookD_setitemD E) (bn_BookD_setitemD E) hr tk) (spOk_cons rfl (E.says.ex 64) (xca0 (ok_BookD_setitemD E) (bn_BookD_setitemD E) hr tk) (spOk_cons rfl (E.says.ex 63) (xca0 (ok_BookD_setitemD E) (bn_BookD_setitemD E) hr tk) spOk_nil)))) (xv 2) (xv 3)) (onlyNx_ixU _ _ _)))) (ms_cons (ms_asg (me_tup (ma_cons (me_bin (mo_add rfl) me_int (xcall (ok__law_take E) (bn__law_take E) hr tk (E.glo 67) (ma_cons (xv 0) (ma_cons me_int ma_nil)))) (ma_cons (me_bin (mo_add rfl) me_int (xcall (ok__law_take E) (bn__law_take E) hr tk (E.glo 67) (ma_cons (xv 0) (ma_cons me_int ma_nil)))) (ma_cons (me_bin (mo_mul rfl) (xcall (ok__law_take E) (bn__law_take E) hr tk (E.glo 67) (ma_cons (xv 0) (ma_cons me_int ma_nil))) (me_cty mc_int rfl (E.free 30) boot_int (ma_cons (me_cmp (mo_eq rfl (hu64 hr)) (xv 1) (me_str t_epochs) rfl) ma_nil))) ma_nil)))) (mg_ixU (hu1 hr) (spOk_cons rfl (E.says.ex 66) (xca0 (ok_BookD_setitemD E) (bn_BookD_setitemD E) hr tk) (spOk_cons rfl (E.says.ex 65) (xca0 (ok_BookD_setitemD E) (bn_BookD_setitemD E) hr tk) (spOk_cons rfl (E.says.ex 64) (xca0 (ok_BookD_setitemD E) (bn_BookD_setitemD E) hr tk) (spOk_cons rfl (E.says.ex 63) (xca0 (ok_BookD_setitemD E) (bn_BookD_setitemD E) hr tk) spOk_nil)))) (xv 2) (me_str t_hands)) (onlyNx_ixU _ _ _)) (ms_cons (ms_asg (me_bin (mo_add rfl) me_int (xcall (ok__law_take E) (bn__law_take E) hr tk (E.glo 67) (ma_cons (xv 0) (ma_cons me_int ma_nil)))) (mg_ixU (hu1 hr) (spOk_cons rfl (E.says.ex 66) (xca0 (ok_BookD_setitemD E) (bn_BookD_setitemD E) hr tk) (spOk_cons rfl (E.says.ex 65) (xca0 (ok_BookD_setitemD E) (bn_BookD_setitemD E) hr tk) (spOk_cons rfl (E.says.ex 64) (xca0 (ok_BookD_setitemD E) (bn_BookD_setitemD E) hr tk) (spOk_cons rfl (E.says.ex 63) (xca0 (ok_BookD_setitemD E) (bn_BookD_setitemD E) hr tk) spOk_nil)))) (xv 2) (me_str t_most)) (onlyNx_ixU _ _ _)) (ms_cons (ms_ret (xv 2)) ms_nil)))))
theorem bn__law_any_own (E : Ev spec w K mg) : BOk K a__law_any_own ["_law_pool_here"] := FunD.bindsN (E.says.def_ 15 (d := gd__law_any_own)) fun _ _ _ _ _ _ us hl => match us, hl with | [_], _ => rfl
theorem sc__law_any_own : FnScope ["_law_pool_here"] ["_law_pool_here"] (defScope st__law_any_own) := ⟨rfl, rfl, rfl, by decide +kernel, rfl, by decide +kernel, by decide +kernel⟩
theorem ok__law_any_own (E : Ev spec w K mg) : DOk P w K mg base nm 31 a__law_any_own ["_law_pool_here"] f__law_any_own := by
  obtain ⟨hX, XI, Gn⟩ := E.hh
  have sc := sc__law_any_own
  refine ⟨fn_M (N := ["_law_pool_here"]) (E.says.def_ 15 (d := gd__law_any_own)) sc rfl (fun cdv A outer s H Ex hr tk hp => ?_), arity_runB, (E.says.def_ 15 (d := gd__law_any_own)).kp⟩
  exact (ms_one (ms_ret (xcall (ok__law_own E) (bn__law_own E) hr tk (E.glo 70) (ma_cons (xv 0) (ma_cons (me_ixU rfl (hu1 hr) (spOk_cons rfl (E.says.ex 29) (xca1 (ok_BookD_getitemD E) (bn_BookD_getitemD E) hr tk) (spOk_cons rfl (E.says.ex 28) (xca1 (ok_BookD_getitemD E) (bn_BookD_getitemD E) hr tk) (spOk_cons rfl (E.says.ex 27) (xca1 (ok_BookD_getitemD E) (bn_BookD_getitemD E) hr tk) (spOk_cons rfl (E.says.ex 26) (xca1 (ok_BookD_getitemD E) (bn_BookD_getitemD E) hr tk) spOk_nil)))) (me_lst (ma_cons (me_str t_epochs) (ma_cons (me_str t_looks) (ma_cons (me_str t_still) (ma_cons (me_str t_epochs) ma_nil))))) (xcall (ok__law_take E) (bn__law_take E) hr tk (E.glo 67) (ma_cons (xv 0) (ma_cons me_int ma_nil))) (by intro _ _; rfl)) ma_nil)))))
theorem bn_BookD_initD (E : Ev spec w K mg) : BOk K a_BookD_initD ["self", "own"] := FunD.bindsN (E.says.def_ 16 (d := gd_BookD_initD)) fun _ _ _ _ _ _ us hl => match us, hl with | [_, _], _ => rfl
theorem sc_BookD_initD : FnScope ["self", "own", "wrong"] ["self", "own"] (defScope st_BookD_initD) := ⟨rfl, rfl, rfl, by decide +kernel, rfl, by decide +kernel, by decide +kernel⟩
theorem ok_BookD_initD (E : Ev spec w K mg) : DOk P w K mg base nm 19 a_BookD_initD ["self", "own"] f_BookD_initD := by
  obtain ⟨hX, XI, Gn⟩ := E.hh
  have sc := sc_BookD_initD
  refine ⟨fn_M (N := ["self", "own", "wrong"]) (E.says.def_ 16 (d := gd_BookD_initD)) sc rfl (fun cdv A outer s H Ex hr tk hp => ?_), arity_runB, (E.says.def_ 16 (d := gd_BookD_initD)).kp⟩
  exact (ms_cons (ms_set (i := 2) sc.nd rfl (by first | exact .inl rfl | exact .inr rfl) (me_meth t_first_wrong (methOk_cons rfl (E.says.ex 59) (xcm (ok_Book_first_wrong E) (bn_Book_first_wrong E) hr tk) (methOk_cons rfl (E.says.ex 58) (xcm (ok_Book_first_wrong E) (bn_Book_first_wrong E) hr tk) (methOk_cons rfl (E.says.ex 57) (xcm (ok_Book_first_wrong E) (bn_Book_first_wrong E) hr tk) (methOk_cons rfl (E.says.ex 56) (xcm (ok_Book_first_wrong E) (bn_Book_first_wrong E) hr tk) methOk_nil)))) (xv 0) (ma_cons (xv 1) ma_nil))) (ms_cons (ms_if (mt_cmpR mo_notN (xv 2) me_non rfl) (ms_one (ms_raise (c := 14) (fld := s_word) rfl tk rfl (excB_ok (E.says.ex 60)) (exiB_ok (E.says.ex 61)).ini (exiB_ok (E.says.ex 61)).ty (ix_NoValueD_initD E) (hr.mono (by decide)) (bn_NoValueD_initD E) rfl (E.glo 62) (xv 2))) ms_nil) (ms_cons (ms_fld t_own (fldOk_cons rfl (E.says.ex 25) (fldOk_cons rfl (E.says.ex 24) (fldOk_cons rfl (E.says.ex 23) (fldOk_cons rfl (E.says.ex 22) fldOk_nil)))) (xv 0) (xv 1) rfl) (ms_cons (ms_fld t_order (fldOk_cons rfl (E.says.ex 76) (fldOk_cons rfl (E.says.ex 75) (fldOk_cons rfl (E.says.ex 74) (fldOk_cons rfl (E.says.ex 73) fldOk_nil)))) (xv 0) (me_cty (mc_list rfl rfl) rfl (E.free 72) boot_list (ma_cons (me_con t_WORDS (conOk_cons XI Gn rfl (E.says.ex 3) (conOk_cons XI Gn rfl (E.says.ex 2) (conOk_cons XI Gn rfl (E.says.ex 1) (conOk_cons XI Gn rfl (E.says.ex 0) conOk_nil)))) (xv 0) rfl) ma_nil)) rfl) ms_nil))))
theorem bd_EpochBookD_initD_3_ (E : Ev spec w K mg) : Bnd (GxOf K mg nm) K (fdOf K a_EpochBookD_initD) ["self", "epochs", "behind", "check", "fetch", "mark", "test", "step", "told"] 3 [] ar_bd_EpochBookD_initD_3_ := by
  obtain ⟨mv, kb⟩ := FunS.kbinds0 (ps := ["self", "epochs", "behind", "check", "fetch", "mark", "test", "step", "told"]) (E.says.sup 2 (d := sd_EpochBookD_initD)) 3 [] [(("check" : Str), (.bl true : V)), (("fetch" : Str), (.str "behind" : V)), (("mark" : Str), (.str "fresh" : V)), (("test" : Str), (.str "equal" : V)), (("step" : Str), (.str "still" : V)), (("told" : Str), (.bl true : V))] (arr3 se_bd_EpochBookD_initD_3_) (fun h => nomatch h) (show ∀ q ∈ ([(("check" : Str), (.bl true : V)), (("fetch" : Str), (.str "behind" : V)), (("mark" : Str), (.str "fresh" : V)), (("test" : Str), (.str "equal" : V)), (("step" : Str), (.str "still" : V)), (("told" : Str), (.bl true : V))] : List (Str × V)), q ∈ ([(("check" : Str), (.bl true : V)), (("fetch" : Str), (.str "behind" : V)), (("mark" : Str), (.str "fresh" : V)), (("test" : Str), (.str "equal" : V)), (("step" : Str), (.str "still" : V)), (("told" : Str), (.bl true : V))] : List (Str × V)) from by decide +kernel)
    (fun r1 r2 r3 => arr3_vals r1 r2 r3 _)
    (fun D doc pm an cdv ct us mv ws l1 l2 l3 => match us, l1, mv, l2, ws, l3 with
      | [u0, u1, u2], _, [m0, m1, m2, m3, m4, m5], _, [], _ => by refine ⟨_, _, _, _, _, _, rfl, rfl, ?_⟩; refine ⟨_, _, _, _, _, _, rfl, rfl, ?_⟩; refine ⟨_, _, _, _, _, _, rfl, rfl, ?_⟩; refine ⟨_, _, _, _, _, _, rfl, rfl, ?_⟩; refine ⟨_, _, _, _, _, _, rfl, rfl, ?_⟩; refine ⟨_, _, _, _, _, _, rfl, rfl, ?_⟩; exact rfl)
  exact ⟨_, _, kb, fun ρ H args zargs vs zs r1 r2 l1 l2 => arr3_rvs r1 (.cons (.bl _) (.cons (.str t_behind) (.cons (.str t_fresh) (.cons (.str t_equal) (.cons (.str t_still) (.cons (.bl _) .nil)))))) r2 _⟩
theorem kl_bd_EpochBookD_initD_3_ : [].map toStr = ([] : List Str) := by kernel_rfl
theorem sc_EpochBookD_initD : NdefX.NScope ["self", "epochs", "behind", "check", "fetch", "mark", "test", "step", "told", "__class__"] ["self", "epochs", "behind", "check", "fetch", "mark", "test", "step", "told"] ["__class__"] (defScope st_EpochBookD_initD) := NdefX.nscope_by (by decide +kernel)
theorem ok_EpochBookD_initD (E : Ev spec w K mg) : DOk P w K mg base nm 22 a_EpochBookD_initD ["self", "epochs", "behind", "check", "fetch", "mark", "test", "step", "told"] f_EpochBookD_initD := by
  obtain ⟨hX, XI, Gn⟩ := E.hh
  have sc := sc_EpochBookD_initD
  refine ⟨fnS_M (N := ["self", "epochs", "behind", "check", "fetch", "mark", "test", "step", "told", "__class__"]) (E.says.sup 2 (d := sd_EpochBookD_initD)) sc rfl (by decide) (fun A outer s H Ex hr tk hp => ?_), arity_runB, (E.says.sup 2 (d := sd_EpochBookD_initD)).kp⟩
  exact (mst_cons (mst_super (j := 9) (i := 0) (supOk_of (cs := [3]) (l := ["EpochBook"]) (ar := _) E (E.says.sup 2 (d := sd_EpochBookD_initD)) 77 (((ok_BookD_initD E).fp hr).code (bn_BookD_initD E) tk) (by decide +kernel) rfl rfl (by rfl) rfl (by kernel_rfl) (by kernel_rfl)) rfl (E.free 78) rfl rfl (.inr (.inr rfl)) rfl (by first | exact .inl rfl | exact .inr (.inl rfl)) rfl (ma_cons (me_disp (ps := [((eC (.str s_epochs)), (eV 1)), ((eC (.str s_behind)), (eV 2)), ((eC (.str s_check)), (eV 3)), ((eC (.str s_fetch)), (eV 4)), ((eC (.str s_mark)), (eV 5)), ((eC (.str s_test)), (eV 6)), ((eC (.str s_step)), (eV 7)), ((eC (.str s_told)), (eV 8))]) (mp_cons (me_str t_epochs) (xv 1) (mp_cons (me_str t_behind) (xv 2) (mp_cons (me_str t_check) (xv 3) (mp_cons (me_str t_fetch) (xv 4) (mp_cons (me_str t_mark) (xv 5) (mp_cons (me_str t_test) (xv 6) (mp_cons (me_str t_step) (xv 7) (mp_cons (me_str t_told) (xv 8) mp_nil)))))))) rfl rfl (by decide) (by decide)) ma_nil) rfl) ms_nil)
theorem bd_LookBookD_initD_1_ (E : Ev spec w K mg) : Bnd (GxOf K mg nm) K (fdOf K a_LookBookD_initD) ["self", "check", "look", "chain"] 1 [] ar_bd_LookBookD_initD_1_ := by
  obtain ⟨mv, kb⟩ := FunS.kbinds0 (ps := ["self", "check", "look", "chain"]) (E.says.sup 3 (d := sd_LookBookD_initD)) 1 [] [(("check" : Str), (.bl true : V)), (("look" : Str), (.str "behind" : V)), (("chain" : Str), (.str "none" : V))] (arr3 se_bd_LookBookD_initD_1_) (fun h => nomatch h) (show ∀ q ∈ ([(("check" : Str), (.bl true : V)), (("look" : Str), (.str "behind" : V)), (("chain" : Str), (.str "none" : V))] : List (Str × V)), q ∈ ([(("check" : Str), (.bl true : V)), (("look" : Str), (.str "behind" : V)), (("chain" : Str), (.str "none" : V))] : List (Str × V)) from by decide +kernel)
    (fun r1 r2 r3 => arr3_vals r1 r2 r3 _)
    (fun D doc pm an cdv ct us mv ws l1 l2 l3 => match us, l1, mv, l2, ws, l3 with
      | [u0], _, [m0, m1, m2], _, [], _ => by refine ⟨_, _, _, _, _, _, rfl, rfl, ?_⟩; refine ⟨_, _, _, _, _, _, rfl, rfl, ?_⟩; refine ⟨_, _, _, _, _, _, rfl, rfl, ?_⟩; exact rfl)
  exact ⟨_, _, kb, fun ρ H args zargs vs zs r1 r2 l1 l2 => arr3_rvs r1 (.cons (.bl _) (.cons (.str t_behind) (.cons (.str t_none) .nil))) r2 _⟩
theorem kl_bd_LookBookD_initD_1_ : [].map toStr = ([] : List Str) := by kernel_rfl
theorem sc_LookBookD_initD : NdefX.NScope ["self", "check", "look", "chain", "__class__"] ["self", "check", "look", "chain"] ["__class__"] (defScope st_LookBookD_initD) := NdefX.nscope_by (by decide +kernel)
theorem ok_LookBookD_initD (E : Ev spec w K mg) : DOk P w K mg base nm 22 a_LookBookD_initD ["self", "check", "look", "chain"] f_LookBookD_initD := by
  obtain ⟨hX, XI, Gn⟩ := E.hh
  have sc := sc_LookBookD_initD
  refine ⟨fnS_M (N := ["self", "check", "look", "chain", "__class__"]) (E.says.sup 3 (d := sd_LookBookD_initD)) sc rfl (by decide) (fun A outer s H Ex hr tk hp => ?_), arity_runB, (E.says.sup 3 (d := sd_LookBookD_initD)).kp⟩
  exact (mst_cons (mst_super (j := 4) (i := 0) (supOk_of (cs := [4]) (l := ["LookBook"]) (ar := _) E (E.says.sup 3 (d := sd_LookBookD_initD)) 81 (((ok_BookD_initD E).fp hr).code (bn_BookD_initD E) tk) (by decide +kernel) rfl rfl (by rfl) rfl (by kernel_rfl) (by kernel_rfl)) rfl (E.free 78) rfl rfl (.inr (.inr rfl)) rfl (by first | exact .inl rfl | exact .inr (.inl rfl)) rfl (ma_cons (me_disp (ps := [((eC (.str s_check)), (eV 1)), ((eC (.str s_look)), (eV 2)), ((eC (.str s_chain)), (eV 3))]) (mp_cons (me_str t_check) (xv 1) (mp_cons (me_str t_look) (xv 2) (mp_cons (me_str t_chain) (xv 3) mp_nil))) rfl rfl (by decide) (by decide)) ma_nil) rfl) ms_nil)
theorem bd_StillBookD_initD_2_ (E : Ev spec w K mg) : Bnd (GxOf K mg nm) K (fdOf K a_StillBookD_initD) ["self", "counts", "still", "read", "sleep"] 2 [] ar_bd_StillBookD_initD_2_ := by
  obtain ⟨mv, kb⟩ := FunS.kbinds0 (ps := ["self", "counts", "still", "read", "sleep"]) (E.says.sup 4 (d := sd_StillBookD_initD)) 2 [] [(("still" : Str), (.str "outside" : V)), (("read" : Str), (.str "behind" : V)), (("sleep" : Str), (.str "none" : V))] (arr3 se_bd_StillBookD_initD_2_) (fun h => nomatch h) (show ∀ q ∈ ([(("still" : Str), (.str "outside" : V)), (("read" : Str), (.str "behind" : V)), (("sleep" : Str), (.str "none" : V))] : List (Str × V)), q ∈ ([(("still" : Str), (.str "outside" : V)), (("read" : Str), (.str "behind" : V)), (("sleep" : Str), (.str "none" : V))] : List (Str × V)) from by decide +kernel)
    (fun r1 r2 r3 => arr3_vals r1 r2 r3 _)
    (fun D doc pm an cdv ct us mv ws l1 l2 l3 => match us, l1, mv, l2, ws, l3 with
      | [u0, u1], _, [m0, m1, m2], _, [], _ => by refine ⟨_, _, _, _, _, _, rfl, rfl, ?_⟩; refine ⟨_, _, _, _, _, _, rfl, rfl, ?_⟩; refine ⟨_, _, _, _, _, _, rfl, rfl, ?_⟩; exact rfl)
  exact ⟨_, _, kb, fun ρ H args zargs vs zs r1 r2 l1 l2 => arr3_rvs r1 (.cons (.str t_outside) (.cons (.str t_behind) (.cons (.str t_none) .nil))) r2 _⟩
theorem kl_bd_StillBookD_initD_2_ : [].map toStr = ([] : List Str) := by kernel_rfl
theorem sc_StillBookD_initD : NdefX.NScope ["self", "counts", "still", "read", "sleep", "__class__"] ["self", "counts", "still", "read", "sleep"] ["__class__"] (defScope st_StillBookD_initD) := NdefX.nscope_by (by decide +kernel)
theorem ok_StillBookD_initD (E : Ev spec w K mg) : DOk P w K mg base nm 22 a_StillBookD_initD ["self", "counts", "still", "read", "sleep"] f_StillBookD_initD := by
  obtain ⟨hX, XI, Gn⟩ := E.hh
  have sc := sc_StillBookD_initD
  refine ⟨fnS_M (N := ["self", "counts", "still", "read", "sleep", "__class__"]) (E.says.sup 4 (d := sd_StillBookD_initD)) sc rfl (by decide) (fun A outer s H Ex hr tk hp => ?_), arity_runB, (E.says.sup 4 (d := sd_StillBookD_initD)).kp⟩
  exact (mst_cons (mst_super (j := 5) (i := 0) (supOk_of (cs := [5]) (l := ["StillBook"]) (ar := _) E (E.says.sup 4 (d := sd_StillBookD_initD)) 84 (((ok_BookD_initD E).fp hr).code (bn_BookD_initD E) tk) (by decide +kernel) rfl rfl (by rfl) rfl (by kernel_rfl) (by kernel_rfl)) rfl (E.free 78) rfl rfl (.inr (.inr rfl)) rfl (by first | exact .inl rfl | exact .inr (.inl rfl)) rfl (ma_cons (me_disp (ps := [((eC (.str s_counts)), (eV 1)), ((eC (.str s_still)), (eV 2)), ((eC (.str s_read)), (eV 3)), ((eC (.str s_sleep)), (eV 4))]) (mp_cons (me_str t_counts) (xv 1) (mp_cons (me_str t_still) (xv 2) (mp_cons (me_str t_read) (xv 3) (mp_cons (me_str t_sleep) (xv 4) mp_nil)))) rfl rfl (by decide) (by decide)) ma_nil) rfl) ms_nil)
theorem bn__law_book (E : Ev spec w K mg) : BOk K a__law_book ["_law_own_here"] := FunD.bindsN (E.says.def_ 17 (d := gd__law_book)) fun _ _ _ _ _ _ us hl => match us, hl with | [_], _ => rfl
theorem sc__law_book : FnScope ["_law_own_here", "_law_book_here", "_law_word"] ["_law_own_here"] (defScope st__law_book) := ⟨rfl, rfl, rfl, by decide +kernel, rfl, by decide +kernel, by decide +kernel⟩
theorem ok__law_book (E : Ev spec w K mg) : DOk P w K mg base nm 25 a__law_book ["_law_own_here"] f__law_book := by
  obtain ⟨hX, XI, Gn⟩ := E.hh
  have sc := sc__law_book
  refine ⟨fn_M (N := ["_law_own_here", "_law_book_here", "_law_word"]) (E.says.def_ 17 (d := gd__law_book)) sc rfl (fun cdv A outer s H Ex hr tk hp => ?_), arity_runB, (E.says.def_ 17 (d := gd__law_book)).kp⟩
  exact (ms_cons (ms_if (mt_cmpR (mo_eq rfl (hu64 hr)) (me_ixU rfl (hu1 hr) (spOk_cons rfl (E.says.ex 29) (xca1 (ok_BookD_getitemD E) (bn_BookD_getitemD E) hr tk) (spOk_cons rfl (E.says.ex 28) (xca1 (ok_BookD_getitemD E) (bn_BookD_getitemD E) hr tk) (spOk_cons rfl (E.says.ex 27) (xca1 (ok_BookD_getitemD E) (bn_BookD_getitemD E) hr tk) (spOk_cons rfl (E.says.ex 26) (xca1 (ok_BookD_getitemD E) (bn_BookD_getitemD E) hr tk) spOk_nil)))) (xv 0) (me_str t_way) (by intro _ _; rfl)) (me_str t_epochs) rfl) (ms_one (ms_set (i := 1) sc.nd rfl (by first | exact .inl rfl | exact .inr rfl) (me_callK (xmkK (c := 3) E (ok_EpochBookD_initD E) (bd_EpochBookD_initD_3_ E) hr tk 79 rfl).1 rfl (E.glo 80) (xmkK (c := 3) E (ok_EpochBookD_initD E) (bd_EpochBookD_initD_3_ E) hr tk 79 rfl).2 (ma_cons (me_ixU rfl (hu1 hr) (spOk_cons rfl (E.says.ex 29) (xca1 (ok_BookD_getitemD E) (bn_BookD_getitemD E) hr tk) (spOk_cons rfl (E.says.ex 28) (xca1 (ok_BookD_getitemD E) (bn_BookD_getitemD E) hr tk) (spOk_cons rfl (E.says.ex 27) (xca1 (ok_BookD_getitemD E) (bn_BookD_getitemD E) hr tk) (spOk_cons rfl (E.says.ex 26) (xca1 (ok_BookD_getitemD E) (bn_BookD_getitemD E) hr tk) spOk_nil)))) (xv 0) (me_str t_epochs) (by intro _ _; rfl)) (ma_cons (me_ixU rfl (hu1 hr) (spOk_cons rfl (E.says.ex 29) (xca1 (ok_BookD_getitemD E) (bn_BookD_getitemD E) hr tk) (spOk_cons rfl (E.says.ex 28) (xca1 (ok_BookD_getitemD E) (bn_BookD_getitemD E) hr tk) (spOk_cons rfl (E.says.ex 27) (xca1 (ok_BookD_getitemD E) (bn_BookD_getitemD E) hr tk) (spOk_cons rfl (E.says.ex 26) (xca1 (ok_BookD_getitemD E) (bn_BookD_getitemD E) hr tk) spOk_nil)))) (xv 0) (me_str t_behind) (by intro _ _; rfl)) ma_nil)) mk_nil))) (ms_one (ms_set (i := 1) sc.nd rfl (by first | exact .inl rfl | exact .inr rfl) (me_if (mt_cmpR (mo_eq rfl (hu64 hr)) (me_ixU rfl (hu1 hr) (spOk_cons rfl (E.says.ex 29) (xca1 (ok_BookD_getitemD E) (bn_BookD_getitemD E) hr tk) (spOk_cons rfl (E.says.ex 28) (xca1 (ok_BookD_getitemD E) (bn_BookD_getitemD E) hr tk) (spOk_cons rfl (E.says.ex 27) (xca1 (ok_BookD_getitemD E) (bn_BookD_getitemD E) hr tk) (spOk_cons rfl (E.says.ex 26) (xca1 (ok_BookD_getitemD E) (bn_BookD_getitemD E) hr tk) spOk_nil)))) (xv 0) (me_str t_way) (by intro _ _; rfl)) (me_str t_looks) rfl) (me_callK0 (xmkK (c := 4) E (ok_LookBookD_initD E) (bd_LookBookD_initD_1_ E) hr tk 82 rfl).1 rfl (E.glo 83) (xmkK (c := 4) E (ok_LookBookD_initD E) (bd_LookBookD_initD_1_ E) hr tk 82 rfl).2 mk_nil) (me_callK (xmkK (c := 5) E (ok_StillBookD_initD E) (bd_StillBookD_initD_2_ E) hr tk 85 rfl).1 rfl (E.glo 86) (xmkK (c := 5) E (ok_StillBookD_initD E) (bd_StillBookD_initD_2_ E) hr tk 85 rfl).2 (ma_cons (me_ixU rfl (hu1 hr) (spOk_cons rfl (E.says.ex 29) (xca1 (ok_BookD_getitemD E) (bn_BookD_getitemD E) hr tk) (spOk_cons rfl (E.says.ex 28) (xca1 (ok_BookD_getitemD E) (bn_BookD_getitemD E) hr tk) (spOk_cons rfl (E.says.ex 27) (xca1 (ok_BookD_getitemD E) (bn_BookD_getitemD E) hr tk) (spOk_cons rfl (E.says.ex 26) (xca1 (ok_BookD_getitemD E) (bn_BookD_getitemD E) hr tk) spOk_nil)))) (xv 0) (me_str t_counts) (by intro _ _; rfl)) ma_nil) mk_nil))))) (ms_cons (ms_for hp rfl (mi_seq rfl (xcall (ok__law_switches E) (bn__law_switches E) hr tk (E.glo 11) (ma_cons (me_ixU rfl (hu1 hr) (spOk_cons rfl (E.says.ex 29) (xca1 (ok_BookD_getitemD E) (bn_BookD_getitemD E) hr tk) (spOk_cons rfl (E.says.ex 28) (xca1 (ok_BookD_getitemD E) (bn_BookD_getitemD E) hr tk) (spOk_cons rfl (E.says.ex 27) (xca1 (ok_BookD_getitemD E) (bn_BookD_getitemD E) hr tk) (spOk_cons rfl (E.says.ex 26) (xca1 (ok_BookD_getitemD E) (bn_BookD_getitemD E) hr tk) spOk_nil)))) (xv 0) (me_str t_way) (by intro _ _; rfl)) ma_nil))) (mg_name sc.nd rfl (by first | exact .inl rfl | exact .inr rfl)) (onlyNx_name _) (ms_one (ms_asg (me_ixU rfl (hu1 hr) (spOk_cons rfl (E.says.ex 29) (xca1 (ok_BookD_getitemD E) (bn_BookD_getitemD E) hr tk) (spOk_cons rfl (E.says.ex 28) (xca1 (ok_BookD_getitemD E) (bn_BookD_getitemD E) hr tk) (spOk_cons rfl (E.says.ex 27) (xca1 (ok_BookD_getitemD E) (bn_BookD_getitemD E) hr tk) (spOk_cons rfl (E.says.ex 26) (xca1 (ok_BookD_getitemD E) (bn_BookD_getitemD E) hr tk) spOk_nil)))) (xv 0) (xv 2) (by intro _ _; rfl)) (mg_ixU (hu1 hr) (spOk_cons rfl (E.says.ex 66) (xca0 (ok_BookD_setitemD E) (bn_BookD_setitemD E) hr tk) (spOk_cons rfl (E.says.ex 65) (xca0 (ok_BookD_setitemD E) (bn_BookD_setitemD E) hr tk) (spOk_cons rfl (E.says.ex 64) (xca0 (ok_BookD_setitemD E) (bn_BookD_setitemD E) hr tk) (spOk_cons rfl (E.says.ex 63) (xca0 (ok_BookD_setitemD E) (bn_BookD_setitemD E) hr tk) spOk_nil)))) (xv 1) (xv 2)) (onlyNx_ixU _ _ _)))) (ms_cons (ms_ret (xv 1)) ms_nil)))
theorem bn__law_span (E : Ev spec w K mg) : BOk K a__law_span ["_law_own_here"] := FunD.bindsN (E.says.def_ 18 (d := gd__law_span)) fun _ _ _ _ _ _ us hl => match us, hl with | [_], _ => rfl
theorem sc__law_span : FnScope ["_law_own_here"] ["_law_own_here"] (defScope st__law_span) := ⟨rfl, rfl, rfl, by decide +kernel, rfl, by decide +kernel, by decide +kernel⟩
theorem ok__law_span (E : Ev spec w K mg) : DOk P w K mg base nm 10 a__law_span ["_law_own_here"] f__law_span := by
  obtain ⟨hX, XI, Gn⟩ := E.hh
  have sc := sc__law_span
  refine ⟨fn_M (N := ["_law_own_here"]) (E.says.def_ 18 (d := gd__law_span)) sc rfl (fun cdv A outer s H Ex hr tk hp => ?_), arity_runB, (E.says.def_ 18 (d := gd__law_span)).kp⟩
  exact (ms_cons (ms_if (PW.pt (mw_or (mt_cmpR (mo_ne rfl (hu64 hr)) (me_ixU rfl (hu1 hr) (spOk_cons rfl (E.says.ex 29) (xca1 (ok_BookD_getitemD E) (bn_BookD_getitemD E) hr tk) (spOk_cons rfl (E.says.ex 28) (xca1 (ok_BookD_getitemD E) (bn_BookD_getitemD E) hr tk) (spOk_cons rfl (E.says.ex 27) (xca1 (ok_BookD_getitemD E) (bn_BookD_getitemD E) hr tk) (spOk_cons rfl (E.says.ex 26) (xca1 (ok_BookD_getitemD E) (bn_BookD_getitemD E) hr tk) spOk_nil)))) (xv 0) (me_str t_way) (by intro _ _; rfl)) (me_str t_epochs) rfl) (mw_or (mt_not (mt_val (me_ixU rfl (hu1 hr) (spOk_cons rfl (E.says.ex 29) (xca1 (ok_BookD_getitemD E) (bn_BookD_getitemD E) hr tk) (spOk_cons rfl (E.says.ex 28) (xca1 (ok_BookD_getitemD E) (bn_BookD_getitemD E) hr tk) (spOk_cons rfl (E.says.ex 27) (xca1 (ok_BookD_getitemD E) (bn_BookD_getitemD E) hr tk) (spOk_cons rfl (E.says.ex 26) (xca1 (ok_BookD_getitemD E) (bn_BookD_getitemD E) hr tk) spOk_nil)))) (xv 0) (me_str t_told) (by intro _ _; rfl)))) (mw_or1 (mt_cmpR (mo_eq rfl (hu64 hr)) (me_ixU rfl (hu1 hr) (spOk_cons rfl (E.says.ex 29) (xca1 (ok_BookD_getitemD E) (bn_BookD_getitemD E) hr tk) (spOk_cons rfl (E.says.ex 28) (xca1 (ok_BookD_getitemD E) (bn_BookD_getitemD E) hr tk) (spOk_cons rfl (E.says.ex 27) (xca1 (ok_BookD_getitemD E) (bn_BookD_getitemD E) hr tk) (spOk_cons rfl (E.says.ex 26) (xca1 (ok_BookD_getitemD E) (bn_BookD_getitemD E) hr tk) spOk_nil)))) (xv 0) (me_str t_step) (by intro _ _; rfl)) (me_str t_add) rfl))))) (ms_one (ms_ret me_non)) ms_nil) (ms_cons (ms_if (mt_val (me_ixU rfl (hu1 hr) (spOk_cons rfl (E.says.ex 29) (xca1 (ok_BookD_getitemD E) (bn_BookD_getitemD E) hr tk) (spOk_cons rfl (E.says.ex 28) (xca1 (ok_BookD_getitemD E) (bn_BookD_getitemD E) hr tk) (spOk_cons rfl (E.says.ex 27) (xca1 (ok_BookD_getitemD E) (bn_BookD_getitemD E) hr tk) (spOk_cons rfl (E.says.ex 26) (xca1 (ok_BookD_getitemD E) (bn_BookD_getitemD E) hr tk) spOk_nil)))) (xv 0) (me_str t_check) (by intro _ _; rfl))) (ms_one (ms_ret me_int)) ms_nil) (ms_cons (ms_ret (me_if (mt_cmpR (mo_eq rfl (hu64 hr)) (me_ixU rfl (hu1 hr) (spOk_cons rfl (E.says.ex 29) (xca1 (ok_BookD_getitemD E) (bn_BookD_getitemD E) hr tk) (spOk_cons rfl (E.says.ex 28) (xca1 (ok_BookD_getitemD E) (bn_BookD_getitemD E) hr tk) (spOk_cons rfl (E.says.ex 27) (xca1 (ok_BookD_getitemD E) (bn_BookD_getitemD E) hr tk) (spOk_cons rfl (E.says.ex 26) (xca1 (ok_BookD_getitemD E) (bn_BookD_getitemD E) hr tk) spOk_nil)))) (xv 0) (me_str t_test) (by intro _ _; rfl)) (me_str t_equal) rfl) me_int me_non)) ms_nil)))
theorem bn_is_book (E : Ev spec w K mg) : BOk K a_is_book ["value"] := FunD.bindsN (E.says.def_ 19 (d := gd_is_book)) fun _ _ _ _ _ _ us hl => match us, hl with | [_], _ => rfl
theorem sc_is_book : FnScope ["value"] ["value"] (defScope st_is_book) := ⟨rfl, rfl, rfl, by decide +kernel, rfl, by decide +kernel, by decide +kernel⟩
theorem ok_is_book (E : Ev spec w K mg) : DOk P w K mg base nm 1 a_is_book ["value"] f_is_book := by
  obtain ⟨hX, XI, Gn⟩ := E.hh
  have sc := sc_is_book
  refine ⟨fn_M (N := ["value"]) (E.says.def_ 19 (d := gd_is_book)) sc rfl (fun cdv A outer s H Ex hr tk hp => ?_), arity_runB, (E.says.def_ 19 (d := gd_is_book)).kp⟩
  exact (ms_one (ms_ret (me_isiT rfl (isOk_of (E.says.ex 89)) rfl (E.free 14) (xv 0) (pa_c1 (pe_cl rfl (E.glo 80)) (pa_c1 (pe_cl rfl (E.glo 83)) (pa_c1 (pe_cl rfl (E.glo 86)) pa_c0))) (ClsR.all _ [.own "EpochBook", .own "LookBook", .own "StillBook"]) rfl)))
theorem bn_NoBookD_initD (E : Ev spec w K mg) : BOk K a_NoBookD_initD ["self", "value"] := FunS.bindsN (E.says.sup 5 (d := sd_NoBookD_initD)) fun _ _ _ _ _ _ us hl => match us, hl with | [_, _], _ => rfl
theorem sc_NoBookD_initD : NdefX.NScope ["self", "value", "__class__"] ["self", "value"] ["__class__"] (defScope st_NoBookD_initD) := NdefX.nscope_by (by decide +kernel)
theorem ix_NoBookD_initD (E : Ev spec w K mg) : FnOk P w K mg base (L2.CX P w) 1 (a_NoBookD_initD K) (fdOf K a_NoBookD_initD) ["self", "value"] (spI (ga K "NoBook") (toStr s_value)) := by
  rw [← t_value]
  refine exFn (k := 0) (m := "a value is no book") (E.says.sup 5 (d := sd_NoBookD_initD)) sc_NoBookD_initD (excB_ok (E.says.ex 91)) (exiB_ok (E.says.ex 92)).no (fun _ _ _ _ _ => (exiB_ok (E.says.ex 92)).supX) (fun A outer s H Ex => ?_)
  exact ex_body (supD_of (E.says.sup 5 (d := sd_NoBookD_initD)) rfl rfl (by rfl) rfl (by kernel_rfl) (by kernel_rfl) (exiB_ok (E.says.ex 92)).any) rfl (E.free 78) rfl rfl (.inr (.inr rfl)) rfl (by first | exact .inl rfl | exact .inr (.inl rfl)) rfl (by first | exact .inl rfl | exact .inr (.inl rfl)) rfl rfl rfl rfl rfl rfl (by decide) (by decide)
theorem bn_look_at_book (E : Ev spec w K mg) : BOk K a_look_at_book ["value"] := FunD.bindsN (E.says.def_ 20 (d := gd_look_at_book)) fun _ _ _ _ _ _ us hl => match us, hl with | [_], _ => rfl
theorem sc_look_at_book : FnScope ["value"] ["value"] (defScope st_look_at_book) := ⟨rfl, rfl, rfl, by decide +kernel, rfl, by decide +kernel, by decide +kernel⟩
theorem ok_look_at_book (E : Ev spec w K mg) : DOk P w K mg base nm 4 a_look_at_book ["value"] f_look_at_book := by
  obtain ⟨hX, XI, Gn⟩ := E.hh
  have sc := sc_look_at_book
  refine ⟨fn_M (N := ["value"]) (E.says.def_ 20 (d := gd_look_at_book)) sc rfl (fun cdv A outer s H Ex hr tk hp => ?_), arity_runB, (E.says.def_ 20 (d := gd_look_at_book)).kp⟩
  exact (ms_one (ms_if (mt_not (mt_val (xcall (ok_is_book E) (bn_is_book E) hr tk (E.glo 90) (ma_cons (xv 0) ma_nil)))) (ms_one (ms_raise (c := 15) (fld := s_value) rfl tk rfl (excB_ok (E.says.ex 91)) (exiB_ok (E.says.ex 92)).ini (exiB_ok (E.says.ex 92)).ty (ix_NoBookD_initD E) (hr.mono (by decide)) (bn_NoBookD_initD E) rfl (E.glo 93) (xv 0))) ms_nil))
theorem bn_Book_way (E : Ev spec w K mg) : BOk K a_Book_way ["self"] := FunD.bindsN (E.says.def_ 21 (d := gd_Book_way)) fun _ _ _ _ _ _ us hl => match us, hl with | [_], _ => rfl
theorem sc_Book_way : FnScope ["self"] ["self"] (defScope st_Book_way) := ⟨rfl, rfl, rfl, by decide +kernel, rfl, by decide +kernel, by decide +kernel⟩
theorem ok_Book_way (E : Ev spec w K mg) : DOk P w K mg base nm 1 a_Book_way ["self"] f_Book_way := by
  obtain ⟨hX, XI, Gn⟩ := E.hh
  have sc := sc_Book_way
  refine ⟨fn_M (N := ["self"]) (E.says.def_ 21 (d := gd_Book_way)) sc rfl (fun cdv A outer s H Ex hr tk hp => ?_), arity_runB, (E.says.def_ 21 (d := gd_Book_way)).kp⟩
  exact (ms_one (ms_ret (me_con t_WAY (conOk_cons XI Gn rfl (E.says.ex 45) (conOk_cons XI Gn rfl (E.says.ex 44) (conOk_cons XI Gn rfl (E.says.ex 43) (conOk_cons XI Gn rfl (E.says.ex 42) conOk_nil)))) (xv 0) rfl)))
theorem bn_span (E : Ev spec w K mg) : BOk K a_span ["book"] := FunD.bindsN (E.says.def_ 22 (d := gd_span)) fun _ _ _ _ _ _ us hl => match us, hl with | [_], _ => rfl
theorem sc_span : FnScope ["book"] ["book"] (defScope st_span) := ⟨rfl, rfl, rfl, by decide +kernel, rfl, by decide +kernel, by decide +kernel⟩
theorem ok_span (E : Ev spec w K mg) : DOk P w K mg base nm 10 a_span ["book"] f_span := by
  obtain ⟨hX, XI, Gn⟩ := E.hh
  have sc := sc_span
  refine ⟨fn_M (N := ["book"]) (E.says.def_ 22 (d := gd_span)) sc rfl (fun cdv A outer s H Ex hr tk hp => ?_), arity_runB, (E.says.def_ 22 (d := gd_span)).kp⟩
  exact (ms_cons (ms_expr (xcall (ok_look_at_book E) (bn_look_at_book E) hr tk (E.glo 94) (ma_cons (xv 0) ma_nil))) (ms_cons (ms_if (PW.pt (mw_or (mt_cmpR (mo_ne rfl (hu64 hr)) (me_prop t_way (propOk_cons rfl (E.says.ex 98) ((ok_Book_way E).fp hr) (bn_Book_way E) (propOk_cons rfl (E.says.ex 97) ((ok_Book_way E).fp hr) (bn_Book_way E) (propOk_cons rfl (E.says.ex 96) ((ok_Book_way E).fp hr) (bn_Book_way E) (propOk_cons rfl (E.says.ex 95) ((ok_Book_way E).fp hr) (bn_Book_way E) propOk_nil)))) (xv 0) rfl) (me_str t_epochs) rfl) (mw_or (mt_not (mt_val (me_ixU rfl (hu1 hr) (spOk_cons rfl (E.says.ex 29) (xca1 (ok_BookD_getitemD E) (bn_BookD_getitemD E) hr tk) (spOk_cons rfl (E.says.ex 28) (xca1 (ok_BookD_getitemD E) (bn_BookD_getitemD E) hr tk) (spOk_cons rfl (E.says.ex 27) (xca1 (ok_BookD_getitemD E) (bn_BookD_getitemD E) hr tk) (spOk_cons rfl (E.says.ex 26) (xca1 (ok_BookD_getitemD E) (bn_BookD_getitemD E) hr tk) spOk_nil)))) (xv 0) (me_str t_told) (by intro _ _; rfl)))) (mw_or1 (mt_cmpR (mo_eq rfl (hu64 hr)) (me_ixU rfl (hu1 hr) (spOk_cons rfl (E.says.ex 29) (xca1 (ok_BookD_getitemD E) (bn_BookD_getitemD E) hr tk) (spOk_cons rfl (E.says.ex 28) (xca1 (ok_BookD_getitemD E) (bn_BookD_getitemD E) hr tk) (spOk_cons rfl (E.says.ex 27) (xca1 (ok_BookD_getitemD E) (bn_BookD_getitemD E) hr tk) (spOk_cons rfl (E.says.ex 26) (xca1 (ok_BookD_getitemD E) (bn_BookD_getitemD E) hr tk) spOk_nil)))) (xv 0) (me_str t_step) (by intro _ _; rfl)) (me_str t_add) rfl))))) (ms_one (ms_ret me_non)) ms_nil) (ms_cons (ms_if (mt_val (me_ixU rfl (hu1 hr) (spOk_cons rfl (E.says.ex 29) (xca1 (ok_BookD_getitemD E) (bn_BookD_getitemD E) hr tk) (spOk_cons rfl (E.says.ex 28) (xca1 (ok_BookD_getitemD E) (bn_BookD_getitemD E) hr tk) (spOk_cons rfl (E.says.ex 27) (xca1 (ok_BookD_getitemD E) (bn_BookD_getitemD E) hr tk) (spOk_cons rfl (E.says.ex 26) (xca1 (ok_BookD_getitemD E) (bn_BookD_getitemD E) hr tk) spOk_nil)))) (xv 0) (me_str t_check) (by intro _ _; rfl))) (ms_one (ms_ret me_int)) ms_nil) (ms_cons (ms_ret (me_if (mt_cmpR (mo_eq rfl (hu64 hr)) (me_ixU rfl (hu1 hr) (spOk_cons rfl (E.says.ex 29) (xca1 (ok_BookD_getitemD E) (bn_BookD_getitemD E) hr tk) (spOk_cons rfl (E.says.ex 28) (xca1 (ok_BookD_getitemD E) (bn_BookD_getitemD E) hr tk) (spOk_cons rfl (E.says.ex 27) (xca1 (ok_BookD_getitemD E) (bn_BookD_getitemD E) hr tk) (spOk_cons rfl (E.says.ex 26) (xca1 (ok_BookD_getitemD E) (bn_BookD_getitemD E) hr tk) spOk_nil)))) (xv 0) (me_str t_test) (by intro _ _; rfl)) (me_str t_equal) rfl) me_int me_non)) ms_nil))))
theorem bn__law_all (E : Ev spec w K mg) : BOk K a__law_all ["_law_own_here"] := FunD.bindsN (E.says.def_ 23 (d := gd__law_all)) fun _ _ _ _ _ _ us hl => match us, hl with | [_], _ => rfl
theorem sc__law_all : FnScope ["_law_own_here", "_law_found", "_law_word", "_law_later", "_law_one_here", "_law_some", "_law_value", "_law_more"] ["_law_own_here"] (defScope st__law_all) := ⟨rfl, rfl, rfl, by decide +kernel, rfl, by decide +kernel, by decide +kernel⟩
theorem ok__law_all (E : Ev spec w K mg) : DOk P w K mg base nm 25 a__law_all ["_law_own_here"] f__law_all := by
  obtain ⟨hX, XI, Gn⟩ := E.hh
  have sc := sc__law_all
  refine ⟨fn_M (N := ["_law_own_here", "_law_found", "_law_word", "_law_later", "_law_one_here", "_law_some", "_law_value", "_law_more"]) (E.says.def_ 23 (d := gd__law_all)) sc rfl (fun cdv A outer s H Ex hr tk hp => ?_), arity_runB, (E.says.def_ 23 (d := gd__law_all)).kp⟩
  exact (ms_cons (ms_set (i := 1) sc.nd rfl (by first | exact .inl rfl | exact .inr rfl) (me_lst (ma_cons (me_disp (ps := [((eC (.str s_way)), (eIxU (lkT [(2, f_BookD_getitemD), (3, f_BookD_getitemD), (4, f_BookD_getitemD), (5, f_BookD_getitemD)]) (eV 0) (eC (.str s_way))))]) (mp_cons (me_str t_way) (me_ixU rfl (hu1 hr) (spOk_cons rfl (E.says.ex 29) (xca1 (ok_BookD_getitemD E) (bn_BookD_getitemD E) hr tk) (spOk_cons rfl (E.says.ex 28) (xca1 (ok_BookD_getitemD E) (bn_BookD_getitemD E) hr tk) (spOk_cons rfl (E.says.ex 27) (xca1 (ok_BookD_getitemD E) (bn_BookD_getitemD E) hr tk) (spOk_cons rfl (E.says.ex 26) (xca1 (ok_BookD_getitemD E) (bn_BookD_getitemD E) hr tk) spOk_nil)))) (xv 0) (me_str t_way) (by intro _ _; rfl)) mp_nil) rfl rfl (by decide) (by decide)) ma_nil))) (ms_cons (ms_for hp rfl (mi_seq rfl (xcall (ok__law_switches E) (bn__law_switches E) hr tk (E.glo 11) (ma_cons (me_ixU rfl (hu1 hr) (spOk_cons rfl (E.says.ex 29) (xca1 (ok_BookD_getitemD E) (bn_BookD_getitemD E) hr tk) (spOk_cons rfl (E.says.ex 28) (xca1 (ok_BookD_getitemD E) (bn_BookD_getitemD E) hr tk) (spOk_cons rfl (E.says.ex 27) (xca1 (ok_BookD_getitemD E) (bn_BookD_getitemD E) hr tk) (spOk_cons rfl (E.says.ex 26) (xca1 (ok_BookD_getitemD E) (bn_BookD_getitemD E) hr tk) spOk_nil)))) (xv 0) (me_str t_way) (by intro _ _; rfl)) ma_nil))) (mg_name sc.nd rfl (by first | exact .inl rfl | exact .inr rfl)) (onlyNx_name _) (ms_cons (ms_set (i := 3) sc.nd rfl (by first | exact .inl rfl | exact .inr rfl) (me_lst ma_nil)) (ms_cons (ms_for hp rfl (mi_seq rfl (xv 1)) (mg_name sc.nd rfl (by first | exact .inl rfl | exact .inr rfl)) (onlyNx_name _) (ms_cons (ms_set (i := 5) sc.nd rfl (by first | exact .inl rfl | exact .inr rfl) (me_if (mt_cmpR (mo_in rfl (hu65 hr)) (xv 2) (me_lst (ma_cons (me_str t_epochs) (ma_cons (me_str t_counts) ma_nil))) rfl) (me_lst (ma_cons (me_ixU rfl (hu1 hr) (spOk_cons rfl (E.says.ex 29) (xca1 (ok_BookD_getitemD E) (bn_BookD_getitemD E) hr tk) (spOk_cons rfl (E.says.ex 28) (xca1 (ok_BookD_getitemD E) (bn_BookD_getitemD E) hr tk) (spOk_cons rfl (E.says.ex 27) (xca1 (ok_BookD_getitemD E) (bn_BookD_getitemD E) hr tk) (spOk_cons rfl (E.says.ex 26) (xca1 (ok_BookD_getitemD E) (bn_BookD_getitemD E) hr tk) spOk_nil)))) (xv 0) (xv 2) (by intro _ _; rfl)) ma_nil)) (xcall (ok__law_choices E) (bn__law_choices E) hr tk (E.glo 68) (ma_cons (xv 2) (ma_cons (xv 4) ma_nil))))) (ms_cons (ms_for hp rfl (mi_seq rfl (xv 5)) (mg_name sc.nd rfl (by first | exact .inl rfl | exact .inr rfl)) (onlyNx_name _) (ms_cons (ms_set (i := 7) sc.nd rfl (by first | exact .inl rfl | exact .inr rfl) (me_cty mc_dict rfl (E.free 103) boot_dict (ma_cons (xv 4) ma_nil))) (ms_cons (ms_asg (xv 6) (mg_ixU (hu1 hr) (spOk_cons rfl (E.says.ex 66) (xca0 (ok_BookD_setitemD E) (bn_BookD_setitemD E) hr tk) (spOk_cons rfl (E.says.ex 65) (xca0 (ok_BookD_setitemD E) (bn_BookD_setitemD E) hr tk) (spOk_cons rfl (E.says.ex 64) (xca0 (ok_BookD_setitemD E) (bn_BookD_setitemD E) hr tk) (spOk_cons rfl (E.says.ex 63) (xca0 (ok_BookD_setitemD E) (bn_BookD_setitemD E) hr tk) spOk_nil)))) (xv 7) (xv 2)) (onlyNx_ixU _ _ _)) (ms_cons (ms_expr (me_bm (k := .lst) rfl PySem.F.plainAttrs_list PySem.F.slot_list_append PySem.F.type_list_append mm_append (xv 3) (ma_cons (xv 7) ma_nil))) ms_nil)))) ms_nil))) (ms_cons (ms_set (i := 1) sc.nd rfl (by first | exact .inl rfl | exact .inr rfl) (me_cty (mc_list rfl rfl) rfl (E.free 72) boot_list (ma_cons (xv 3) ma_nil))) ms_nil)))) (ms_cons (ms_ret (xv 1)) ms_nil)))
theorem bn__law_is_safe (E : Ev spec w K mg) : BOk K a__law_is_safe ["_law_own_here"] := FunD.bindsN (E.says.def_ 24 (d := gd__law_is_safe)) fun _ _ _ _ _ _ us hl => match us, hl with | [_], _ => rfl
theorem sc__law_is_safe : FnScope ["_law_own_here", "_law_points"] ["_law_own_here"] (defScope st__law_is_safe) := ⟨rfl, rfl, rfl, by decide +kernel, rfl, by decide +kernel, by decide +kernel⟩
theorem ok__law_is_safe (E : Ev spec w K mg) : DOk P w K mg base nm 10 a__law_is_safe ["_law_own_here"] f__law_is_safe := by
  obtain ⟨hX, XI, Gn⟩ := E.hh
  have sc := sc__law_is_safe
  refine ⟨fn_M (N := ["_law_own_here", "_law_points"]) (E.says.def_ 24 (d := gd__law_is_safe)) sc rfl (fun cdv A outer s H Ex hr tk hp => ?_), arity_runB, (E.says.def_ 24 (d := gd__law_is_safe)).kp⟩
  exact (ms_cons (ms_if (mt_cmpR (mo_eq rfl (hu64 hr)) (me_ixU rfl (hu1 hr) (spOk_cons rfl (E.says.ex 29) (xca1 (ok_BookD_getitemD E) (bn_BookD_getitemD E) hr tk) (spOk_cons rfl (E.says.ex 28) (xca1 (ok_BookD_getitemD E) (bn_BookD_getitemD E) hr tk) (spOk_cons rfl (E.says.ex 27) (xca1 (ok_BookD_getitemD E) (bn_BookD_getitemD E) hr tk) (spOk_cons rfl (E.says.ex 26) (xca1 (ok_BookD_getitemD E) (bn_BookD_getitemD E) hr tk) spOk_nil)))) (xv 0) (me_str t_way) (by intro _ _; rfl)) (me_str t_looks) rfl) (ms_one (ms_ret (me_and (me_ixU rfl (hu1 hr) (spOk_cons rfl (E.says.ex 29) (xca1 (ok_BookD_getitemD E) (bn_BookD_getitemD E) hr tk) (spOk_cons rfl (E.says.ex 28) (xca1 (ok_BookD_getitemD E) (bn_BookD_getitemD E) hr tk) (spOk_cons rfl (E.says.ex 27) (xca1 (ok_BookD_getitemD E) (bn_BookD_getitemD E) hr tk) (spOk_cons rfl (E.says.ex 26) (xca1 (ok_BookD_getitemD E) (bn_BookD_getitemD E) hr tk) spOk_nil)))) (xv 0) (me_str t_check) (by intro _ _; rfl)) (me_and (me_cmp (mo_eq rfl (hu64 hr)) (me_ixU rfl (hu1 hr) (spOk_cons rfl (E.says.ex 29) (xca1 (ok_BookD_getitemD E) (bn_BookD_getitemD E) hr tk) (spOk_cons rfl (E.says.ex 28) (xca1 (ok_BookD_getitemD E) (bn_BookD_getitemD E) hr tk) (spOk_cons rfl (E.says.ex 27) (xca1 (ok_BookD_getitemD E) (bn_BookD_getitemD E) hr tk) (spOk_cons rfl (E.says.ex 26) (xca1 (ok_BookD_getitemD E) (bn_BookD_getitemD E) hr tk) spOk_nil)))) (xv 0) (me_str t_look) (by intro _ _; rfl)) (me_str t_behind) rfl) (me_one (me_cmp (mo_ne rfl (hu64 hr)) (me_ixU rfl (hu1 hr) (spOk_cons rfl (E.says.ex 29) (xca1 (ok_BookD_getitemD E) (bn_BookD_getitemD E) hr tk) (spOk_cons rfl (E.says.ex 28) (xca1 (ok_BookD_getitemD E) (bn_BookD_getitemD E) hr tk) (spOk_cons rfl (E.says.ex 27) (xca1 (ok_BookD_getitemD E) (bn_BookD_getitemD E) hr tk) (spOk_cons rfl (E.says.ex 26) (xca1 (ok_BookD_getitemD E) (bn_BookD_getitemD E) hr tk) spOk_nil)))) (xv 0) (me_str t_chain) (by intro _ _; rfl)) (me_str t_next) rfl)))))) ms_nil) (ms_cons (ms_if (mt_cmpR (mo_eq rfl (hu64 hr)) (me_ixU rfl (hu1 hr) (spOk_cons rfl (E.says.ex 29) (xca1 (ok_BookD_getitemD E) (bn_BookD_getitemD E) hr tk) (spOk_cons rfl (E.says.ex 28) (xca1 (ok_BookD_getitemD E) (bn_BookD_getitemD E) hr tk) (spOk_cons rfl (E.says.ex 27) (xca1 (ok_BookD_getitemD E) (bn_BookD_getitemD E) hr tk) (spOk_cons rfl (E.says.ex 26) (xca1 (ok_BookD_getitemD E) (bn_BookD_getitemD E) hr tk) spOk_nil)))) (xv 0) (me_str t_way) (by intro _ _; rfl)) (me_str t_still) rfl) (ms_cons (ms_set (i := 1) sc.nd rfl (by first | exact .inl rfl | exact .inr rfl) (me_or (me_cmp (mo_eq rfl (hu64 hr)) (me_ixU rfl (hu1 hr) (spOk_cons rfl (E.says.ex 29) (xca1 (ok_BookD_getitemD E) (bn_BookD_getitemD E) hr tk) (spOk_cons rfl (E.says.ex 28) (xca1 (ok_BookD_getitemD E) (bn_BookD_getitemD E) hr tk) (spOk_cons rfl (E.says.ex 27) (xca1 (ok_BookD_getitemD E) (bn_BookD_getitemD E) hr tk) (spOk_cons rfl (E.says.ex 26) (xca1 (ok_BookD_getitemD E) (bn_BookD_getitemD E) hr tk) spOk_nil)))) (xv 0) (me_str t_counts) (by intro _ _; rfl)) me_int rfl) (me_one (me_and (me_cmp (mo_eq rfl (hu64 hr)) (me_ixU rfl (hu1 hr) (spOk_cons rfl (E.says.ex 29) (xca1 (ok_BookD_getitemD E) (bn_BookD_getitemD E) hr tk) (spOk_cons rfl (E.says.ex 28) (xca1 (ok_BookD_getitemD E) (bn_BookD_getitemD E) hr tk) (spOk_cons rfl (E.says.ex 27) (xca1 (ok_BookD_getitemD E) (bn_BookD_getitemD E) hr tk) (spOk_cons rfl (E.says.ex 26) (xca1 (ok_BookD_getitemD E) (bn_BookD_getitemD E) hr tk) spOk_nil)))) (xv 0) (me_str t_still) (by intro _ _; rfl)) (me_str t_outside) rfl) (me_one (me_cmp (mo_eq rfl (hu64 hr)) (me_ixU rfl (hu1 hr) (spOk_cons rfl (E.says.ex 29) (xca1 (ok_BookD_getitemD E) (bn_BookD_getitemD E) hr tk) (spOk_cons rfl (E.says.ex 28) (xca1 (ok_BookD_getitemD E) (bn_BookD_getitemD E) hr tk) (spOk_cons rfl (E.says.ex 27) (xca1 (ok_BookD_getitemD E) (bn_BookD_getitemD E) hr tk) (spOk_cons rfl (E.says.ex 26) (xca1 (ok_BookD_getitemD E) (bn_BookD_getitemD E) hr tk) spOk_nil)))) (xv 0) (me_str t_read) (by intro _ _; rfl)) (me_str t_behind) rfl)))))) (ms_cons (ms_ret (me_and (me_cmp (mo_in rfl (hu65 hr)) (me_ixU rfl (hu1 hr) (spOk_cons rfl (E.says.ex 29) (xca1 (ok_BookD_getitemD E) (bn_BookD_getitemD E) hr tk) (spOk_cons rfl (E.says.ex 28) (xca1 (ok_BookD_getitemD E) (bn_BookD_getitemD E) hr tk) (spOk_cons rfl (E.says.ex 27) (xca1 (ok_BookD_getitemD E) (bn_BookD_getitemD E) hr tk) (spOk_cons rfl (E.says.ex 26) (xca1 (ok_BookD_getitemD E) (bn_BookD_getitemD E) hr tk) spOk_nil)))) (xv 0) (me_str t_sleep) (by intro _ _; rfl)) (me_lst (ma_cons (me_str t_none) (ma_cons (me_str t_outside) ma_nil))) rfl) (me_one (xv 1)))) ms_nil)) ms_nil) (ms_cons (ms_if (PW.pt (mw_or (mt_cmpR (mo_eq rfl (hu64 hr)) (me_ixU rfl (hu1 hr) (spOk_cons rfl (E.says.ex 29) (xca1 (ok_BookD_getitemD E) (bn_BookD_getitemD E) hr tk) (spOk_cons rfl (E.says.ex 28) (xca1 (ok_BookD_getitemD E) (bn_BookD_getitemD E) hr tk) (spOk_cons rfl (E.says.ex 27) (xca1 (ok_BookD_getitemD E) (bn_BookD_getitemD E) hr tk) (spOk_cons rfl (E.says.ex 26) (xca1 (ok_BookD_getitemD E) (bn_BookD_getitemD E) hr tk) spOk_nil)))) (xv 0) (me_str t_fetch) (by intro _ _; rfl)) (me_str t_ahead) rfl) (mw_or (mt_not (mt_val (me_ixU rfl (hu1 hr) (spOk_cons rfl (E.says.ex 29) (xca1 (ok_BookD_getitemD E) (bn_BookD_getitemD E) hr tk) (spOk_cons rfl (E.says.ex 28) (xca1 (ok_BookD_getitemD E) (bn_BookD_getitemD E) hr tk) (spOk_cons rfl (E.says.ex 27) (xca1 (ok_BookD_getitemD E) (bn_BookD_getitemD E) hr tk) (spOk_cons rfl (E.says.ex 26) (xca1 (ok_BookD_getitemD E) (bn_BookD_getitemD E) hr tk) spOk_nil)))) (xv 0) (me_str t_told) (by intro _ _; rfl)))) (mw_or1 (mt_cmpR (mo_eq rfl (hu64 hr)) (me_ixU rfl (hu1 hr) (spOk_cons rfl (E.says.ex 29) (xca1 (ok_BookD_getitemD E) (bn_BookD_getitemD E) hr tk) (spOk_cons rfl (E.says.ex 28) (xca1 (ok_BookD_getitemD E) (bn_BookD_getitemD E) hr tk) (spOk_cons rfl (E.says.ex 27) (xca1 (ok_BookD_getitemD E) (bn_BookD_getitemD E) hr tk) (spOk_cons rfl (E.says.ex 26) (xca1 (ok_BookD_getitemD E) (bn_BookD_getitemD E) hr tk) spOk_nil)))) (xv 0) (me_str t_step) (by intro _ _; rfl)) (me_str t_add) rfl))))) (ms_one (ms_ret me_bl)) ms_nil) (ms_cons (ms_if (mt_val (me_ixU rfl (hu1 hr) (spOk_cons rfl (E.says.ex 29) (xca1 (ok_BookD_getitemD E) (bn_BookD_getitemD E) hr tk) (spOk_cons rfl (E.says.ex 28) (xca1 (ok_BookD_getitemD E) (bn_BookD_getitemD E) hr tk) (spOk_cons rfl (E.says.ex 27) (xca1 (ok_BookD_getitemD E) (bn_BookD_getitemD E) hr tk) (spOk_cons rfl (E.says.ex 26) (xca1 (ok_BookD_getitemD E) (bn_BookD_getitemD E) hr tk) spOk_nil)))) (xv 0) (me_str t_check) (by intro _ _; rfl))) (ms_one (ms_ret (me_cmp mo_ge (me_ixU rfl (hu1 hr) (spOk_cons rfl (E.says.ex 29) (xca1 (ok_BookD_getitemD E) (bn_BookD_getitemD E) hr tk) (spOk_cons rfl (E.says.ex 28) (xca1 (ok_BookD_getitemD E) (bn_BookD_getitemD E) hr tk) (spOk_cons rfl (E.says.ex 27) (xca1 (ok_BookD_getitemD E) (bn_BookD_getitemD E) hr tk) (spOk_cons rfl (E.says.ex 26) (xca1 (ok_BookD_getitemD E) (bn_BookD_getitemD E) hr tk) spOk_nil)))) (xv 0) (me_str t_behind) (by intro _ _; rfl)) (me_if (mt_cmpR (mo_eq rfl (hu64 hr)) (me_ixU rfl (hu1 hr) (spOk_cons rfl (E.says.ex 29) (xca1 (ok_BookD_getitemD E) (bn_BookD_getitemD E) hr tk) (spOk_cons rfl (E.says.ex 28) (xca1 (ok_BookD_getitemD E) (bn_BookD_getitemD E) hr tk) (spOk_cons rfl (E.says.ex 27) (xca1 (ok_BookD_getitemD E) (bn_BookD_getitemD E) hr tk) (spOk_cons rfl (E.says.ex 26) (xca1 (ok_BookD_getitemD E) (bn_BookD_getitemD E) hr tk) spOk_nil)))) (xv 0) (me_str t_mark) (by intro _ _; rfl)) (me_str t_fresh) rfl) me_int me_int) rfl))) ms_nil) (ms_cons (ms_ret (me_and (me_cmp (mo_eq rfl (hu64 hr)) (me_ixU rfl (hu1 hr) (spOk_cons rfl (E.says.ex 29) (xca1 (ok_BookD_getitemD E) (bn_BookD_getitemD E) hr tk) (spOk_cons rfl (E.says.ex 28) (xca1 (ok_BookD_getitemD E) (bn_BookD_getitemD E) hr tk) (spOk_cons rfl (E.says.ex 27) (xca1 (ok_BookD_getitemD E) (bn_BookD_getitemD E) hr tk) (spOk_cons rfl (E.says.ex 26) (xca1 (ok_BookD_getitemD E) (bn_BookD_getitemD E) hr tk) spOk_nil)))) (xv 0) (me_str t_mark) (by intro _ _; rfl)) (me_str t_fresh) rfl) (me_and (me_cmp (mo_eq rfl (hu64 hr)) (me_ixU rfl (hu1 hr) (spOk_cons rfl (E.says.ex 29) (xca1 (ok_BookD_getitemD E) (bn_BookD_getitemD E) hr tk) (spOk_cons rfl (E.says.ex 28) (xca1 (ok_BookD_getitemD E) (bn_BookD_getitemD E) hr tk) (spOk_cons rfl (E.says.ex 27) (xca1 (ok_BookD_getitemD E) (bn_BookD_getitemD E) hr tk) (spOk_cons rfl (E.says.ex 26) (xca1 (ok_BookD_getitemD E) (bn_BookD_getitemD E) hr tk) spOk_nil)))) (xv 0) (me_str t_test) (by intro _ _; rfl)) (me_str t_equal) rfl) (me_one (me_cmp mo_ge (me_ixU rfl (hu1 hr) (spOk_cons rfl (E.says.ex 29) (xca1 (ok_BookD_getitemD E) (bn_BookD_getitemD E) hr tk) (spOk_cons rfl (E.says.ex 28) (xca1 (ok_BookD_getitemD E) (bn_BookD_getitemD E) hr tk) (spOk_cons rfl (E.says.ex 27) (xca1 (ok_BookD_getitemD E) (bn_BookD_getitemD E) hr tk) (spOk_cons rfl (E.says.ex 26) (xca1 (ok_BookD_getitemD E) (bn_BookD_getitemD E) hr tk) spOk_nil)))) (xv 0) (me_str t_behind) (by intro _ _; rfl)) me_int rfl))))) ms_nil)))))
theorem bn__law_faults (E : Ev spec w K mg) : BOk K a__law_faults ["_law_own_here"] := FunD.bindsN (E.says.def_ 25 (d := gd__law_faults)) fun _ _ _ _ _ _ us hl => match us, hl with | [_], _ => rfl
theorem sc__law_faults : FnScope ["_law_own_here", "_law_good", "_law_one_here", "_law_due", "_law_word", "_law_alike"] ["_law_own_here"] (defScope st__law_faults) := ⟨rfl, rfl, rfl, by decide +kernel, rfl, by decide +kernel, by decide +kernel⟩
theorem ok__law_faults (E : Ev spec w K mg) : DOk P w K mg base nm 28 a__law_faults ["_law_own_here"] f__law_faults := by
  obtain ⟨hX, XI, Gn⟩ := E.hh
  have sc := sc__law_faults
  refine ⟨fn_M (N := ["_law_own_here", "_law_good", "_law_one_here", "_law_due", "_law_word", "_law_alike"]) (E.says.def_ 25 (d := gd__law_faults)) sc rfl (fun cdv A outer s H Ex hr tk hp => ?_), arity_runB, (E.says.def_ 25 (d := gd__law_faults)).kp⟩
  exact (ms_cons (ms_setLc1 (t := .one 2) (own := [(("_law_one_here" : Str), 2)]) (i := 1) rfl rfl sc.nd rfl rfl (sw_true (by rfl) (by rfl) (by rfl) (by rfl)) (mi_seq rfl (xcall (ok__law_all E) (bn__law_all E) hr tk (E.glo 104) (ma_cons (xv 0) ma_nil))) (blkOk_by (by kernel_rfl)) (by decide) (fun _ _ _ _ _ => (pg_name sc.nd rfl (by first | exact .inl rfl | exact .inr rfl))) (fun _ _ _ _ _ => (mt_val (xcall (ok__law_is_safe E) (bn__law_is_safe E) hr takes0 (E.glo 105) (ma_cons (xv 2) ma_nil)))) (fun _ _ _ _ _ => (xv 2))) (ms_cons (ms_set (i := 3) sc.nd rfl (by first | exact .inl rfl | exact .inr rfl) (me_lst ma_nil)) (ms_cons (ms_for hp rfl (mi_seq rfl (xcall (ok__law_switches E) (bn__law_switches E) hr tk (E.glo 11) (ma_cons (me_ixU rfl (hu1 hr) (spOk_cons rfl (E.says.ex 29) (xca1 (ok_BookD_getitemD E) (bn_BookD_getitemD E) hr tk) (spOk_cons rfl (E.says.ex 28) (xca1 (ok_BookD_getitemD E) (bn_BookD_getitemD E) hr tk) (spOk_cons rfl (E.says.ex 27) (xca1 (ok_BookD_getitemD E) (bn_BookD_getitemD E) hr tk) (spOk_cons rfl (E.says.ex 26) (xca1 (ok_BookD_getitemD E) (bn_BookD_getitemD E) hr tk) spOk_nil)))) (xv 0) (me_str t_way) (by intro _ _; rfl)) ma_nil))) (mg_name sc.nd rfl (by first | exact .inl rfl | exact .inr rfl)) (onlyNx_name _) (ms_cons (ms_setLc1 (t := .one 2) (own := [(("_law_one_here" : Str), 2)]) (i := 5) rfl rfl sc.nd rfl rfl (sw_true (by rfl) (by rfl) (by rfl) (by rfl)) (mi_seq rfl (xv 1)) (blkOk_by (by kernel_rfl)) (by decide) (fun _ _ _ _ _ => (pg_name sc.nd rfl (by first | exact .inl rfl | exact .inr rfl))) (fun _ _ _ _ _ => (mt_cmpU (nm := "__eq__") (fun _ _ => rfl) rfl rfl (Nat.lt_of_succ_lt (hu1 hr)) (spOk_cons rfl (E.says.ex 48) (xca0 (ok_BookD_eqD E) (bn_BookD_eqD E) hr takes0) (spOk_cons rfl (E.says.ex 47) (xca0 (ok_BookD_eqD E) (bn_BookD_eqD E) hr takes0) (spOk_cons rfl (E.says.ex 46) (xca0 (ok_BookD_eqD E) (bn_BookD_eqD E) hr takes0) spOk_nil))) (nfOk_cons rfl (E.says.ex 51) (nfOk_cons rfl (E.says.ex 50) (nfOk_cons rfl (E.says.ex 49) nfOk_nil))) (mo_eqX rfl (hu64 hr)) (me_ixU rfl (hu1 hr) (spOk_cons rfl (E.says.ex 29) (xca1 (ok_BookD_getitemD E) (bn_BookD_getitemD E) hr takes0) (spOk_cons rfl (E.says.ex 28) (xca1 (ok_BookD_getitemD E) (bn_BookD_getitemD E) hr takes0) (spOk_cons rfl (E.says.ex 27) (xca1 (ok_BookD_getitemD E) (bn_BookD_getitemD E) hr takes0) (spOk_cons rfl (E.says.ex 26) (xca1 (ok_BookD_getitemD E) (bn_BookD_getitemD E) hr takes0) spOk_nil)))) (xv 2) (xv 4) (by intro _ _; rfl)) (me_ixU rfl (hu1 hr) (spOk_cons rfl (E.says.ex 29) (xca1 (ok_BookD_getitemD E) (bn_BookD_getitemD E) hr takes0) (spOk_cons rfl (E.says.ex 28) (xca1 (ok_BookD_getitemD E) (bn_BookD_getitemD E) hr takes0) (spOk_cons rfl (E.says.ex 27) (xca1 (ok_BookD_getitemD E) (bn_BookD_getitemD E) hr takes0) (spOk_cons rfl (E.says.ex 26) (xca1 (ok_BookD_getitemD E) (bn_BookD_getitemD E) hr takes0) spOk_nil)))) (xv 0) (xv 4) (by intro _ _; rfl)) rfl)) (fun _ _ _ _ _ => (xv 2))) (ms_cons (ms_if (PW.pt (mw_and (mt_cmpR (mo_notIn rfl (hu65 hr)) (xv 4) (me_lst (ma_cons (me_str t_epochs) (ma_cons (me_str t_counts) ma_nil))) rfl) (mw_and1 (mt_cmpR (mo_eqZ rfl (hu64 hr)) (xv 5) (me_lst ma_nil) rfl)))) (ms_one (ms_expr (me_bm (k := .lst) rfl PySem.F.plainAttrs_list PySem.F.slot_list_append PySem.F.type_list_append mm_append (xv 3) (ma_cons (xv 4) ma_nil)))) ms_nil) ms_nil))) (ms_cons (ms_ret (xv 3)) ms_nil))))
theorem bn_still_faults (E : Ev spec w K mg) : BOk K a_still_faults ["book"] := FunD.bindsN (E.says.def_ 26 (d := gd_still_faults)) fun _ _ _ _ _ _ us hl => match us, hl with | [_], _ => rfl
theorem sc_still_faults : FnScope ["book", "many"] ["book"] (defScope st_still_faults) := ⟨rfl, rfl, rfl, by decide +kernel, rfl, by decide +kernel, by decide +kernel⟩
theorem ok_still_faults (E : Ev spec w K mg) : DOk P w K mg base nm 10 a_still_faults ["book"] f_still_faults := by
  obtain ⟨hX, XI, Gn⟩ := E.hh
  have sc := sc_still_faults
  refine ⟨fn_M (N := ["book", "many"]) (E.says.def_ 26 (d := gd_still_faults)) sc rfl (fun cdv A outer s H Ex hr tk hp => ?_), arity_runB, (E.says.def_ 26 (d := gd_still_faults)).kp⟩
  exact (ms_cons (ms_set (i := 1) sc.nd rfl (by first | exact .inl rfl | exact .inr rfl) (me_cmp mo_gt (me_ixU rfl (hu1 hr) (spOk_cons rfl (E.says.ex 29) (xca1 (ok_BookD_getitemD E) (bn_BookD_getitemD E) hr tk) (spOk_cons rfl (E.says.ex 28) (xca1 (ok_BookD_getitemD E) (bn_BookD_getitemD E) hr tk) (spOk_cons rfl (E.says.ex 27) (xca1 (ok_BookD_getitemD E) (bn_BookD_getitemD E) hr tk) (spOk_cons rfl (E.says.ex 26) (xca1 (ok_BookD_getitemD E) (bn_BookD_getitemD E) hr tk) spOk_nil)))) (xv 0) (me_str t_counts) (by intro _ _; rfl)) me_int rfl)) (ms_cons (ms_ret (me_lst (ma_cons (me_tup (ma_cons (me_str t_still) (ma_cons (me_and (xv 1) (me_one (me_cmp (mo_eq rfl (hu64 hr)) (me_ixU rfl (hu1 hr) (spOk_cons rfl (E.says.ex 29) (xca1 (ok_BookD_getitemD E) (bn_BookD_getitemD E) hr tk) (spOk_cons rfl (E.says.ex 28) (xca1 (ok_BookD_getitemD E) (bn_BookD_getitemD E) hr tk) (spOk_cons rfl (E.says.ex 27) (xca1 (ok_BookD_getitemD E) (bn_BookD_getitemD E) hr tk) (spOk_cons rfl (E.says.ex 26) (xca1 (ok_BookD_getitemD E) (bn_BookD_getitemD E) hr tk) spOk_nil)))) (xv 0) (me_str t_still) (by intro _ _; rfl)) (me_str t_anywhere) rfl))) ma_nil))) (ma_cons (me_tup (ma_cons (me_str t_read) (ma_cons (me_and (xv 1) (me_one (me_cmp (mo_eq rfl (hu64 hr)) (me_ixU rfl (hu1 hr) (spOk_cons rfl (E.says.ex 29) (xca1 (ok_BookD_getitemD E) (bn_BookD_getitemD E) hr tk) (spOk_cons rfl (E.says.ex 28) (xca1 (ok_BookD_getitemD E) (bn_BookD_getitemD E) hr tk) (spOk_cons rfl (E.says.ex 27) (xca1 (ok_BookD_getitemD E) (bn_BookD_getitemD E) hr tk) (spOk_cons rfl (E.says.ex 26) (xca1 (ok_BookD_getitemD E) (bn_BookD_getitemD E) hr tk) spOk_nil)))) (xv 0) (me_str t_read) (by intro _ _; rfl)) (me_str t_ahead) rfl))) ma_nil))) (ma_cons (me_tup (ma_cons (me_str t_sleep) (ma_cons (me_cmp (mo_in rfl (hu65 hr)) (me_ixU rfl (hu1 hr) (spOk_cons rfl (E.says.ex 29) (xca1 (ok_BookD_getitemD E) (bn_BookD_getitemD E) hr tk) (spOk_cons rfl (E.says.ex 28) (xca1 (ok_BookD_getitemD E) (bn_BookD_getitemD E) hr tk) (spOk_cons rfl (E.says.ex 27) (xca1 (ok_BookD_getitemD E) (bn_BookD_getitemD E) hr tk) (spOk_cons rfl (E.says.ex 26) (xca1 (ok_BookD_getitemD E) (bn_BookD_getitemD E) hr tk) spOk_nil)))) (xv 0) (me_str t_sleep) (by intro _ _; rfl)) (me_tup (ma_cons (me_str t_inside) (ma_cons (me_str t_late) ma_nil))) rfl) ma_nil))) ma_nil))))) ms_nil))
theorem bn_look_faults (E : Ev spec w K mg) : BOk K a_look_faults ["book"] := FunD.bindsN (E.says.def_ 27 (d := gd_look_faults)) fun _ _ _ _ _ _ us hl => match us, hl with | [_], _ => rfl
theorem sc_look_faults : FnScope ["book"] ["book"] (defScope st_look_faults) := ⟨rfl, rfl, rfl, by decide +kernel, rfl, by decide +kernel, by decide +kernel⟩
theorem ok_look_faults (E : Ev spec w K mg) : DOk P w K mg base nm 10 a_look_faults ["book"] f_look_faults := by
  obtain ⟨hX, XI, Gn⟩ := E.hh
  have sc := sc_look_faults
  refine ⟨fn_M (N := ["book"]) (E.says.def_ 27 (d := gd_look_faults)) sc rfl (fun cdv A outer s H Ex hr tk hp => ?_), arity_runB, (E.says.def_ 27 (d := gd_look_faults)).kp⟩
  exact (ms_one (ms_ret (me_lst (ma_cons (me_tup (ma_cons (me_str t_check) (ma_cons (me_not (me_ixU rfl (hu1 hr) (spOk_cons rfl (E.says.ex 29) (xca1 (ok_BookD_getitemD E) (bn_BookD_getitemD E) hr tk) (spOk_cons rfl (E.says.ex 28) (xca1 (ok_BookD_getitemD E) (bn_BookD_getitemD E) hr tk) (spOk_cons rfl (E.says.ex 27) (xca1 (ok_BookD_getitemD E) (bn_BookD_getitemD E) hr tk) (spOk_cons rfl (E.says.ex 26) (xca1 (ok_BookD_getitemD E) (bn_BookD_getitemD E) hr tk) spOk_nil)))) (xv 0) (me_str t_check) (by intro _ _; rfl))) ma_nil))) (ma_cons (me_tup (ma_cons (me_str t_look) (ma_cons (me_cmp (mo_eq rfl (hu64 hr)) (me_ixU rfl (hu1 hr) (spOk_cons rfl (E.says.ex 29) (xca1 (ok_BookD_getitemD E) (bn_BookD_getitemD E) hr tk) (spOk_cons rfl (E.says.ex 28) (xca1 (ok_BookD_getitemD E) (bn_BookD_getitemD E) hr tk) (spOk_cons rfl (E.says.ex 27) (xca1 (ok_BookD_getitemD E) (bn_BookD_getitemD E) hr tk) (spOk_cons rfl (E.says.ex 26) (xca1 (ok_BookD_getitemD E) (bn_BookD_getitemD E) hr tk) spOk_nil)))) (xv 0) (me_str t_look) (by intro _ _; rfl)) (me_str t_ahead) rfl) ma_nil))) (ma_cons (me_tup (ma_cons (me_str t_chain) (ma_cons (me_cmp (mo_eq rfl (hu64 hr)) (me_ixU rfl (hu1 hr) (spOk_cons rfl (E.says.ex 29) (xca1 (ok_BookD_getitemD E) (bn_BookD_getitemD E) hr tk) (spOk_cons rfl (E.says.ex 28) (xca1 (ok_BookD_getitemD E) (bn_BookD_getitemD E) hr tk) (spOk_cons rfl (E.says.ex 27) (xca1 (ok_BookD_getitemD E) (bn_BookD_getitemD E) hr tk) (spOk_cons rfl (E.says.ex 26) (xca1 (ok_BookD_getitemD E) (bn_BookD_getitemD E) hr tk) spOk_nil)))) (xv 0) (me_str t_chain) (by intro _ _; rfl)) (me_str t_next) rfl) ma_nil))) ma_nil))))))
theorem bn_epoch_faults (E : Ev spec w K mg) : BOk K a_epoch_faults ["book"] := FunD.bindsN (E.says.def_ 28 (d := gd_epoch_faults)) fun _ _ _ _ _ _ us hl => match us, hl with | [_], _ => rfl
theorem sc_epoch_faults : FnScope ["book", "few"] ["book"] (defScope st_epoch_faults) := ⟨rfl, rfl, rfl, by decide +kernel, rfl, by decide +kernel, by decide +kernel⟩
theorem ok_epoch_faults (E : Ev spec w K mg) : DOk P w K mg base nm 10 a_epoch_faults ["book"] f_epoch_faults := by
  obtain ⟨hX, XI, Gn⟩ := E.hh
  have sc := sc_epoch_faults
  refine ⟨fn_M (N := ["book", "few"]) (E.says.def_ 28 (d := gd_epoch_faults)) sc rfl (fun cdv A outer s H Ex hr tk hp => ?_), arity_runB, (E.says.def_ 28 (d := gd_epoch_faults)).kp⟩
  exact (ms_cons (ms_set (i := 1) sc.nd rfl (by first | exact .inl rfl | exact .inr rfl) (me_cmp (mo_eq rfl (hu64 hr)) (me_ixU rfl (hu1 hr) (spOk_cons rfl (E.says.ex 29) (xca1 (ok_BookD_getitemD E) (bn_BookD_getitemD E) hr tk) (spOk_cons rfl (E.says.ex 28) (xca1 (ok_BookD_getitemD E) (bn_BookD_getitemD E) hr tk) (spOk_cons rfl (E.says.ex 27) (xca1 (ok_BookD_getitemD E) (bn_BookD_getitemD E) hr tk) (spOk_cons rfl (E.says.ex 26) (xca1 (ok_BookD_getitemD E) (bn_BookD_getitemD E) hr tk) spOk_nil)))) (xv 0) (me_str t_epochs) (by intro _ _; rfl)) me_int rfl)) (ms_cons (ms_ret (me_lst (ma_cons (me_tup (ma_cons (me_str t_behind) (ma_cons (me_cmp (mo_eq rfl (hu64 hr)) (me_ixU rfl (hu1 hr) (spOk_cons rfl (E.says.ex 29) (xca1 (ok_BookD_getitemD E) (bn_BookD_getitemD E) hr tk) (spOk_cons rfl (E.says.ex 28) (xca1 (ok_BookD_getitemD E) (bn_BookD_getitemD E) hr tk) (spOk_cons rfl (E.says.ex 27) (xca1 (ok_BookD_getitemD E) (bn_BookD_getitemD E) hr tk) (spOk_cons rfl (E.says.ex 26) (xca1 (ok_BookD_getitemD E) (bn_BookD_getitemD E) hr tk) spOk_nil)))) (xv 0) (me_str t_behind) (by intro _ _; rfl)) me_int rfl) ma_nil))) (ma_cons (me_tup (ma_cons (me_str t_check) (ma_cons (me_and (xv 1) (me_one (me_not (me_ixU rfl (hu1 hr) (spOk_cons rfl (E.says.ex 29) (xca1 (ok_BookD_getitemD E) (bn_BookD_getitemD E) hr tk) (spOk_cons rfl (E.says.ex 28) (xca1 (ok_BookD_getitemD E) (bn_BookD_getitemD E) hr tk) (spOk_cons rfl (E.says.ex 27) (xca1 (ok_BookD_getitemD E) (bn_BookD_getitemD E) hr tk) (spOk_cons rfl (E.says.ex 26) (xca1 (ok_BookD_getitemD E) (bn_BookD_getitemD E) hr tk) spOk_nil)))) (xv 0) (me_str t_check) (by intro _ _; rfl))))) ma_nil))) (ma_cons (me_tup (ma_cons (me_str t_fetch) (ma_cons (me_cmp (mo_eq rfl (hu64 hr)) (me_ixU rfl (hu1 hr) (spOk_cons rfl (E.says.ex 29) (xca1 (ok_BookD_getitemD E) (bn_BookD_getitemD E) hr tk) (spOk_cons rfl (E.says.ex 28) (xca1 (ok_BookD_getitemD E) (bn_BookD_getitemD E) hr tk) (spOk_cons rfl (E.says.ex 27) (xca1 (ok_BookD_getitemD E) (bn_BookD_getitemD E) hr tk) (spOk_cons rfl (E.says.ex 26) (xca1 (ok_BookD_getitemD E) (bn_BookD_getitemD E) hr tk) spOk_nil)))) (xv 0) (me_str t_fetch) (by intro _ _; rfl)) (me_str t_ahead) rfl) ma_nil))) (ma_cons (me_tup (ma_cons (me_str t_mark) (ma_cons (me_and (xv 1) (me_one (me_cmp (mo_eq rfl (hu64 hr)) (me_ixU rfl (hu1 hr) (spOk_cons rfl (E.says.ex 29) (xca1 (ok_BookD_getitemD E) (bn_BookD_getitemD E) hr tk) (spOk_cons rfl (E.says.ex 28) (xca1 (ok_BookD_getitemD E) (bn_BookD_getitemD E) hr tk) (spOk_cons rfl (E.says.ex 27) (xca1 (ok_BookD_getitemD E) (bn_BookD_getitemD E) hr tk) (spOk_cons rfl (E.says.ex 26) (xca1 (ok_BookD_getitemD E) (bn_BookD_getitemD E) hr tk) spOk_nil)))) (xv 0) (me_str t_mark) (by intro _ _; rfl)) (me_str t_own) rfl))) ma_nil))) (ma_cons (me_tup (ma_cons (me_str t_step) (ma_cons (me_cmp (mo_eq rfl (hu64 hr)) (me_ixU rfl (hu1 hr) (spOk_cons rfl (E.says.ex 29) (xca1 (ok_BookD_getitemD E) (bn_BookD_getitemD E) hr tk) (spOk_cons rfl (E.says.ex 28) (xca1 (ok_BookD_getitemD E) (bn_BookD_getitemD E) hr tk) (spOk_cons rfl (E.says.ex 27) (xca1 (ok_BookD_getitemD E) (bn_BookD_getitemD E) hr tk) (spOk_cons rfl (E.says.ex 26) (xca1 (ok_BookD_getitemD E) (bn_BookD_getitemD E) hr tk) spOk_nil)))) (xv 0) (me_str t_step) (by intro _ _; rfl)) (me_str t_add) rfl) ma_nil))) (ma_cons (me_tup (ma_cons (me_str t_told) (ma_cons (me_not (me_ixU rfl (hu1 hr) (spOk_cons rfl (E.says.ex 29) (xca1 (ok_BookD_getitemD E) (bn_BookD_getitemD E) hr tk) (spOk_cons rfl (E.says.ex 28) (xca1 (ok_BookD_getitemD E) (bn_BookD_getitemD E) hr tk) (spOk_cons rfl (E.says.ex 27) (xca1 (ok_BookD_getitemD E) (bn_BookD_getitemD E) hr tk) (spOk_cons rfl (E.says.ex 26) (xca1 (ok_BookD_getitemD E) (bn_BookD_getitemD E) hr tk) spOk_nil)))) (xv 0) (me_str t_told) (by intro _ _; rfl))) ma_nil))) ma_nil)))))))) ms_nil))
theorem bn_faults (E : Ev spec w K mg) : BOk K a_faults ["book"] := FunD.bindsN (E.says.def_ 29 (d := gd_faults)) fun _ _ _ _ _ _ us hl => match us, hl with | [_], _ => rfl
theorem sc_faults : FnScope ["book", "found", "word", "wrong"] ["book"] (defScope st_faults) := ⟨rfl, rfl, rfl, by decide +kernel, rfl, by decide +kernel, by decide +kernel⟩
theorem ok_faults (E : Ev spec w K mg) : DOk P w K mg base nm 13 a_faults ["book"] f_faults := by
  obtain ⟨hX, XI, Gn⟩ := E.hh
  have sc := sc_faults
  refine ⟨fn_M (N := ["book", "found", "word", "wrong"]) (E.says.def_ 29 (d := gd_faults)) sc rfl (fun cdv A outer s H Ex hr tk hp => ?_), arity_runB, (E.says.def_ 29 (d := gd_faults)).kp⟩
  exact (ms_cons (ms_expr (xcall (ok_look_at_book E) (bn_look_at_book E) hr tk (E.glo 94) (ma_cons (xv 0) ma_nil))) (ms_cons (ms_set (i := 1) sc.nd rfl (by first | exact .inl rfl | exact .inr rfl) (me_kd (d := ga K "FAULTS") (kdOk_of XI Gn (E.says.tab 1 (t := tab_FAULTS)) (E.says.ex 107)) rfl (E.glo 108) (me_prop t_way (propOk_cons rfl (E.says.ex 98) ((ok_Book_way E).fp hr) (bn_Book_way E) (propOk_cons rfl (E.says.ex 97) ((ok_Book_way E).fp hr) (bn_Book_way E) (propOk_cons rfl (E.says.ex 96) ((ok_Book_way E).fp hr) (bn_Book_way E) (propOk_cons rfl (E.says.ex 95) ((ok_Book_way E).fp hr) (bn_Book_way E) propOk_nil)))) (xv 0) rfl) (by intro _ _; rfl))) (ms_cons (ms_ret (me_lc1 (t := .many [2, 3]) (own := [(("word" : Str), 2), (("wrong" : Str), 3)]) rfl rfl sc.nd (mi_seq rfl (me_callL (i := 1) rfl (by first | exact .inl rfl | exact .inr (.inl rfl) | exact .inr (.inr rfl)) (clOk_cons (a := ga K "epoch_faults") (by rw [← t_epoch_faults]; exact (E.glo 111)) (xcm (ok_epoch_faults E) (bn_epoch_faults E) hr tk) (ok_epoch_faults (base := base) E).kp (clOk_cons (a := ga K "look_faults") (by rw [← t_look_faults]; exact (E.glo 110)) (xcm (ok_look_faults E) (bn_look_faults E) hr tk) (ok_look_faults (base := base) E).kp (clOk_cons (a := ga K "still_faults") (by rw [← t_still_faults]; exact (E.glo 109)) (xcm (ok_still_faults E) (bn_still_faults E) hr tk) (ok_still_faults (base := base) E).kp clOk_nil))) (ma_cons (xv 0) ma_nil))) (blkOk_by (by kernel_rfl)) (by decide) (fun _ _ _ _ _ => (pg_tup rfl (pgs_cons (pg_name sc.nd rfl (by first | exact .inl rfl | exact .inr rfl)) (pgs_cons (pg_name sc.nd rfl (by first | exact .inl rfl | exact .inr rfl)) pgs_nil)))) (fun _ _ _ _ _ => (mt_val (xv 3))) (fun _ _ _ _ _ => (xv 2)))) ms_nil)))
theorem bn__law_right (E : Ev spec w K mg) : BOk K a__law_right ["_law_pool_here"] := FunD.bindsN (E.says.def_ 30 (d := gd__law_right)) fun _ _ _ _ _ _ us hl => match us, hl with | [_], _ => rfl
theorem sc__law_right : FnScope ["_law_pool_here", "_law_own_here", "_law_book_here", "_law_told", "_law_due", "_law_wrong"] ["_law_pool_here"] (defScope st__law_right) := ⟨rfl, rfl, rfl, by decide +kernel, rfl, by decide +kernel, by decide +kernel⟩
theorem ok__law_right (E : Ev spec w K mg) : DOk P w K mg base nm 34 a__law_right ["_law_pool_here"] f__law_right := by
  obtain ⟨hX, XI, Gn⟩ := E.hh
  have sc := sc__law_right
  refine ⟨fn_M (N := ["_law_pool_here", "_law_own_here", "_law_book_here", "_law_told", "_law_due", "_law_wrong"]) (E.says.def_ 30 (d := gd__law_right)) sc rfl (fun cdv A outer s H Ex hr tk hp => ?_), arity_runB, (E.says.def_ 30 (d := gd__law_right)).kp⟩
  exact (ms_cons (ms_set (i := 1) sc.nd rfl (by first | exact .inl rfl | exact .inr rfl) (xcall (ok__law_any_own E) (bn__law_any_own E) hr tk (E.glo 71) (ma_cons (xv 0) ma_nil))) (ms_cons (ms_set (i := 2) sc.nd rfl (by first | exact .inl rfl | exact .inr rfl) (xcall (ok__law_book E) (bn__law_book E) hr tk (E.glo 87) (ma_cons (xv 1) ma_nil))) (ms_cons (ms_par (i := 3) (j := 4) rfl sc.nd rfl rfl (by decide) rfl rfl (ma_cons (xcall (ok_span E) (bn_span E) hr tk (E.glo 99) (ma_cons (xv 2) ma_nil)) (ma_cons (xcall (ok__law_span E) (bn__law_span E) hr tk (E.glo 88) (ma_cons (xv 1) ma_nil)) ma_nil)) rfl) (ms_cons (ms_if (PW.pt (mw_or (mt_neU rfl (hu1 hr) (spOk_cons rfl (E.says.ex 48) (xca1 (ok_BookD_eqD E) (bn_BookD_eqD E) hr tk) (spOk_cons rfl (E.says.ex 47) (xca1 (ok_BookD_eqD E) (bn_BookD_eqD E) hr tk) (spOk_cons rfl (E.says.ex 46) (xca1 (ok_BookD_eqD E) (bn_BookD_eqD E) hr tk) spOk_nil))) (neOk_cons rfl (E.says.ex 102) (neOk_cons rfl (E.says.ex 101) (neOk_cons rfl (E.says.ex 100) neOk_nil))) (nfOk_cons rfl (E.says.ex 51) (nfOk_cons rfl (E.says.ex 50) (nfOk_cons rfl (E.says.ex 49) nfOk_nil))) (mo_ne rfl (hu64 hr)) (xv 3) (xv 4) rfl) (mw_or1 (mt_val (me_isi rfl (isOk_of (cs := [.ty "bool"]) (E.says.ex 39)) rfl (E.free 14) (xv 3) (pe_ty rfl (E.free 38) boot_bool) (ClsR.ok _ (.ty "bool"))))))) (ms_one (ms_ret me_bl)) ms_nil) (ms_cons (ms_par (i := 5) (j := 4) rfl sc.nd rfl rfl (by decide) rfl rfl (ma_cons (xcall (ok_faults E) (bn_faults E) hr tk (E.glo 112) (ma_cons (xv 2) ma_nil)) (ma_cons (xcall (ok__law_faults E) (bn__law_faults E) hr tk (E.glo 106) (ma_cons (xv 1) ma_nil)) ma_nil)) rfl) (ms_cons (ms_if (PW.pt (mw_or (mt_not (mt_val (me_isi rfl (isOk_of (cs := [.ty "list"]) (E.says.ex 113)) rfl (E.free 14) (xv 5) (pe_ty rfl (E.free 72) boot_list) (ClsR.ok _ (.ty "list"))))) (mw_or1 (mt_neU rfl (hu1 hr) (spOk_cons rfl (E.says.ex 48) (xca1 (ok_BookD_eqD E) (bn_BookD_eqD E) hr tk) (spOk_cons rfl (E.says.ex 47) (xca1 (ok_BookD_eqD E) (bn_BookD_eqD E) hr tk) (spOk_cons rfl (E.says.ex 46) (xca1 (ok_BookD_eqD E) (bn_BookD_eqD E) hr tk) spOk_nil))) (neOk_cons rfl (E.says.ex 102) (neOk_cons rfl (E.says.ex 101) (neOk_cons rfl (E.says.ex 100) neOk_nil))) (nfOk_cons rfl (E.says.ex 51) (nfOk_cons rfl (E.says.ex 50) (nfOk_cons rfl (E.says.ex 49) nfOk_nil))) (mo_ne rfl (hu64 hr)) (xv 5) (xv 4) rfl)))) (ms_one (ms_ret me_bl)) ms_nil) (ms_cons (ms_expr (me_bm (k := .lst) rfl PySem.F.plainAttrs_list PySem.F.slot_list_append PySem.F.type_list_append mm_append (xv 5) (ma_cons (me_str t_empty) ma_nil))) (ms_cons (ms_ret (me_and (me_cmpU (nm := "__eq__") (fun _ _ => rfl) rfl rfl (Nat.lt_of_succ_lt (hu1 hr)) (spOk_cons rfl (E.says.ex 48) (xca0 (ok_BookD_eqD E) (bn_BookD_eqD E) hr tk) (spOk_cons rfl (E.says.ex 47) (xca0 (ok_BookD_eqD E) (bn_BookD_eqD E) hr tk) (spOk_cons rfl (E.says.ex 46) (xca0 (ok_BookD_eqD E) (bn_BookD_eqD E) hr tk) spOk_nil))) (nfOk_cons rfl (E.says.ex 51) (nfOk_cons rfl (E.says.ex 50) (nfOk_cons rfl (E.says.ex 49) nfOk_nil))) (mo_eqX rfl (hu64 hr)) (xcall (ok_faults E) (bn_faults E) hr tk (E.glo 112) (ma_cons (xv 2) ma_nil)) (xv 4) rfl) (me_one (me_or (me_cmp (mo_eqZ rfl (hu64 hr)) (xv 4) (me_lst ma_nil) rfl) (me_one (me_not (xcall (ok__law_is_safe E) (bn__law_is_safe E) hr tk (E.glo 105) (ma_cons (xv 1) ma_nil)))))))) ms_nil))))))))
theorem bn__law_pool (E : Ev spec w K mg) : BOk K a__law_pool ["_law_script", "_law_k"] := FunD.bindsN (E.says.def_ 31 (d := gd__law_pool)) fun _ _ _ _ _ _ us hl => match us, hl with | [_, _], _ => rfl
theorem sc__law_pool : FnScope ["_law_script", "_law_k", "_law_cell", "_law_size", "_law_seed"] ["_law_script", "_law_k"] (defScope st__law_pool) := ⟨rfl, rfl, rfl, by decide +kernel, rfl, by decide +kernel, by decide +kernel⟩
theorem ok__law_pool (E : Ev spec w K mg) : DOk P w K mg base nm 10 a__law_pool ["_law_script", "_law_k"] f__law_pool := by
  obtain ⟨hX, XI, Gn⟩ := E.hh
  have sc := sc__law_pool
  refine ⟨fn_M (N := ["_law_script", "_law_k", "_law_cell", "_law_size", "_law_seed"]) (E.says.def_ 31 (d := gd__law_pool)) sc rfl (fun cdv A outer s H Ex hr tk hp => ?_), arity_runB, (E.says.def_ 31 (d := gd__law_pool)).kp⟩
  exact (ms_cons (ms_set (i := 2) sc.nd rfl (by first | exact .inl rfl | exact .inr rfl) me_int) (ms_cons (ms_if (mt_cmpR mo_lt (xv 1) (me_lenU (mc_len rfl) (spOk_cons rfl (E.says.ex 7) (xca1 (ok_BookD_lenD E) (bn_BookD_lenD E) hr tk) (spOk_cons rfl (E.says.ex 6) (xca1 (ok_BookD_lenD E) (bn_BookD_lenD E) hr tk) (spOk_cons rfl (E.says.ex 5) (xca1 (ok_BookD_lenD E) (bn_BookD_lenD E) hr tk) spOk_nil))) rfl (E.free 4) boot_len (xv 0)) rfl) (ms_one (ms_set (i := 2) sc.nd rfl (by first | exact .inl rfl | exact .inr rfl) (me_ixU rfl (hu1 hr) (spOk_cons rfl (E.says.ex 29) (xca1 (ok_BookD_getitemD E) (bn_BookD_getitemD E) hr tk) (spOk_cons rfl (E.says.ex 28) (xca1 (ok_BookD_getitemD E) (bn_BookD_getitemD E) hr tk) (spOk_cons rfl (E.says.ex 27) (xca1 (ok_BookD_getitemD E) (bn_BookD_getitemD E) hr tk) (spOk_cons rfl (E.says.ex 26) (xca1 (ok_BookD_getitemD E) (bn_BookD_getitemD E) hr tk) spOk_nil)))) (xv 0) (xv 1) (by intro _ _; rfl)))) ms_nil) (ms_cons (ms_set (i := 3) sc.nd rfl (by first | exact .inl rfl | exact .inr rfl) (me_cb (mc_max rfl) rfl (E.free 9) boot_max (ma_cons (xv 2) (ma_cons (me_bin mo_sub (me_neg me_int) (xv 2)) ma_nil)))) (ms_cons (ms_set (i := 4) sc.nd rfl (by first | exact .inl rfl | exact .inr rfl) (me_cty mc_int rfl (E.free 30) boot_int (ma_cons (me_bin (mo_add rfl) (me_bin (mo_add rfl) (me_bin mo_mod (me_cty mc_int rfl (E.free 30) boot_int (ma_cons (xv 3) ma_nil)) me_int) (me_bin (mo_mul rfl) me_int (xv 1))) me_int) ma_nil))) (ms_cons (ms_ret (me_lst (ma_cons (me_bin (mo_mul rfl) (xv 3) (me_cty mc_int rfl (E.free 30) boot_int (ma_cons (me_cmp mo_ge (xv 3) (me_bin mo_pow me_int me_int) rfl) ma_nil))) (ma_cons (me_bin mo_mod (me_bin (mo_mul rfl) (xv 4) me_int) me_int) ma_nil)))) ms_nil)))))
theorem bn_law (E : Ev spec w K mg) : BOk K a_law ["_law_script"] := FunD.bindsN (E.says.def_ 32 (d := gd_law)) fun _ _ _ _ _ _ us hl => match us, hl with | [_], _ => rfl
theorem sc_law : FnScope ["_law_script", "_law_k"] ["_law_script"] (defScope st_law) := ⟨rfl, rfl, rfl, by decide +kernel, rfl, by decide +kernel, by decide +kernel⟩
theorem ok_law (E : Ev spec w K mg) : DOk P w K mg base nm 37 a_law ["_law_script"] f_law := by
  obtain ⟨hX, XI, Gn⟩ := E.hh
  have sc := sc_law
  refine ⟨fn_M (N := ["_law_script", "_law_k"]) (E.says.def_ 32 (d := gd_law)) sc rfl (fun cdv A outer s H Ex hr tk hp => ?_), arity_runB, (E.says.def_ 32 (d := gd_law)).kp⟩
  exact (ms_cons (ms_for hp rfl (mi_rng1 rfl (E.free 10) (ma_cons (me_cb (mc_max rfl) rfl (E.free 9) boot_max (ma_cons me_int (ma_cons (me_cb (mc_min rfl) rfl (E.free 8) boot_min (ma_cons me_int (ma_cons (me_lenU (mc_len rfl) (spOk_cons rfl (E.says.ex 7) (xca1 (ok_BookD_lenD E) (bn_BookD_lenD E) hr tk) (spOk_cons rfl (E.says.ex 6) (xca1 (ok_BookD_lenD E) (bn_BookD_lenD E) hr tk) (spOk_cons rfl (E.says.ex 5) (xca1 (ok_BookD_lenD E) (bn_BookD_lenD E) hr tk) spOk_nil))) rfl (E.free 4) boot_len (xv 0)) ma_nil))) ma_nil))) ma_nil) rfl aCons1) (mg_name sc.nd rfl (by first | exact .inl rfl | exact .inr rfl)) (onlyNx_name _) (ms_one (ms_if (mt_not (mt_val (xcall (ok__law_right E) (bn__law_right E) hr tk (E.glo 115) (ma_cons (xcall (ok__law_pool E) (bn__law_pool E) hr tk (E.glo 114) (ma_cons (xv 0) (ma_cons (xv 1) ma_nil))) ma_nil)))) (ms_one (ms_ret me_bl)) ms_nil))) (ms_cons (ms_ret me_bl) ms_nil))
end
end Lw
end

section
set_option Elab.async false
set_option linter.all false
set_option maxRecDepth 100000
set_option maxHeartbeats 4000000
set_option synthInstance.maxHeartbeats 0
set_option synthInstance.maxSize 1000000
namespace Lw
open PySem L2 ML
instance : LAr ar_bd_EpochBookD_initD_3_ := ⟨fun r vs vs' zs zs' a b => arr32 a (CVs.self r) b _⟩
instance : LAr ar_bd_LookBookD_initD_1_ := ⟨fun r vs vs' zs zs' a b => arr32 a (CVs.self r) b _⟩
instance : LAr ar_bd_StillBookD_initD_2_ := ⟨fun r vs vs' zs zs' a b => arr32 a (CVs.self r) b _⟩
instance : CTs (lkS tb_ORDERS) := by unfold tb_ORDERS; infer_instance
instance : CTs (lkS tb_FAULTS) := by unfold tb_FAULTS; infer_instance
instance : LF f_BookD_lenD := lf_runB (by unfold m_BookD_lenD; infer_instance)
instance : LF f__law_switches := lf_runB (by unfold m__law_switches; infer_instance)
instance : LF f_Book_look_at_word := lf_runB (by unfold m_Book_look_at_word; infer_instance)
instance : LF f_BookD_getitemD := lf_runB (by unfold m_BookD_getitemD; infer_instance)
instance : LF f_values_at := lf_runB (by unfold m_values_at; infer_instance)
instance : LF f_BookD_eqD := lf_runB (by unfold m_BookD_eqD; infer_instance)
instance : LF f_is_whole := lf_runB (by unfold m_is_whole; infer_instance)
instance : LF f_is_same := lf_runB (by unfold m_is_same; infer_instance)
instance : LF f_is_value := lf_runB (by unfold m_is_value; infer_instance)
instance : LF f_Book_first_wrong := lf_runB (by unfold m_Book_first_wrong; infer_instance)
instance : LF f_BookD_setitemD := lf_runB (by unfold m_BookD_setitemD; infer_instance)
instance : LF f__law_take := lf_runB (by unfold m__law_take; infer_instance)
instance : LF f__law_one := lf_runB (by unfold m__law_one; infer_instance)
instance : LF f__law_choices := lf_runB (by unfold m__law_choices; infer_instance)
instance : LF f__law_own := lf_runB (by unfold m__law_own; infer_instance)
instance : LF f__law_any_own := lf_runB (by unfold m__law_any_own; infer_instance)
instance : LF f_BookD_initD := lf_runB (by unfold m_BookD_initD; infer_instance)
instance : LF f_EpochBookD_initD := lf_runB (by unfold m_EpochBookD_initD; infer_instance)
instance : LF f_LookBookD_initD := lf_runB (by unfold m_LookBookD_initD; infer_instance)
instance : LF f_StillBookD_initD := lf_runB (by unfold m_StillBookD_initD; infer_instance)
instance : LF f__law_book := lf_runB (by unfold m__law_book; infer_instance)
instance : LF f__law_span := lf_runB (by unfold m__law_span; infer_instance)
instance : LF f_is_book := lf_runB (by unfold m_is_book; infer_instance)
instance : LF f_look_at_book := lf_runB (by unfold m_look_at_book; infer_instance)
instance : LF f_Book_way := lf_runB (by unfold m_Book_way; infer_instance)
instance : LF f_span := lf_runB (by unfold m_span; infer_instance)
instance : LF f__law_all := lf_runB (by unfold m__law_all; infer_instance)
instance : LF f__law_is_safe := lf_runB (by unfold m__law_is_safe; infer_instance)
instance : LF f__law_faults := lf_runB (by unfold m__law_faults; infer_instance)
instance : LF f_still_faults := lf_runB (by unfold m_still_faults; infer_instance)
instance : LF f_look_faults := lf_runB (by unfold m_look_faults; infer_instance)
instance : LF f_epoch_faults := lf_runB (by unfold m_epoch_faults; infer_instance)
instance : LF f_faults := lf_runB (by unfold m_faults; infer_instance)
instance : LF f__law_right := lf_runB (by unfold m__law_right; infer_instance)
instance : LF f__law_pool := lf_runB (by unfold m__law_pool; infer_instance)
instance : LF f_law := lf_runB (by unfold m_law; infer_instance)
end Lw
end

section
set_option Elab.async false
set_option linter.all false
set_option maxRecDepth 100000
set_option maxHeartbeats 4000000
/-! The end of a law. -/
namespace ML
open PySem PySem.Spec PyProof.Rows L2 He
theorem ints_rv {G : Gx} {ρ : List Addr} {H : Hp} : ∀ ns : List Int, RVs G ρ H (ns.map VI.int) (ns.map V.int)
  | [] => .nil
  | n :: ns => .cons (.int n) (ints_rv ns)
/-- the script's object is told as locked -/
theorem scr_ag {G : Gx} {K : PySem.W.Frag} {H : Hp} {a : Addr} {ns : List Int} (nl : noLstB K = true) (hO : Only H) (hS : SqL K H a (ns.map V.int)) : Ag G [a] [.scr (ns.map VI.int)] H := by
  refine ⟨by simp, rfl, fun n o e => ?_⟩
  cases n with
  | succ n => simp at e
  | zero =>
    cases e
    refine ⟨a, rfl, ?_⟩
    rcases hS with (h | ⟨ob, h⟩) | ⟨o, its, n, h, hc, _⟩
    · rcases hO a with z | ⟨o, xs, z⟩
      · rw [z] at h; cases h
      · rw [z] at h; cases h
    · exact ⟨ob, _, h, ints_rv ns⟩
    · exact absurd hc (noLst_ok nl h)
/-- a law's def does what g does, g gives True: the promise at the end -/
theorem law_sp {G : Gx} {K : PySem.W.Frag} {H : Hp} {a : Addr} {ns : List Int} {g : MF} {h' : Hi} (nl : noLstB K = true) (hO : Only H) (hS : SqL K H a (ns.map V.int)) (e : g [.ref 0] [.scr (ns.map VI.int)] = .ok (.bl true) h') :
    spM G 1 g [.ref a] H (fun v _ => v = .bl true) fun _ _ _ => False := by
  refine ⟨[a], [.scr (ns.map VI.int)], [.ref 0], rfl, scr_ag nl hO hS, .cons (.ref rfl) .nil, ?_⟩
  rw [e]
  intro ρ' H' x _ _ r
  cases r
  rfl
/-- a def that lets nothing out, as the end wants it -/
theorem fn_cx0 {P : Program} {w : World} {K : PySem.W.Frag} {mg : Str → Option Value} {base : Heap} {k : Nat} {f : Addr} {fd : FuncData} {ps : List Str} {sp : Sp} (F : FnOk P w K mg base (L2.CX P w) k f fd ps sp) :
    FnOk P w K mg base CX0 k f fd ps fun vs H Q _ => sp vs H Q fun _ _ _ => False :=
  ⟨fun vs H Q E h => F.len vs H Q _ h, fun A outer s H args us vs Q E hr e0 hb hv h => codeAny_mono (F.run A outer s H args us vs Q (fun _ _ _ => False) hr e0 hb hv h) fun r s' q => by
    cases r with
    | ok f => cases f <;> exact q
    | error e =>
      obtain ⟨_, _, _, _, _, _, _, _, _, _, _, _, z⟩ := q
      exact z.elim⟩
end ML
end

section
set_option Elab.async false
set_option linter.all false
set_option maxRecDepth 100000
set_option maxHeartbeats 4000000
/-! The Hook over a written list of addresses. -/
namespace ML
open PySem PySem.Spec PyProof.Rows L2 He
def obsLG (as : List Addr) (m : MSpec) (g : Addr → Option Obj) : AlM := obsM m (frG g as)
def hookL (as : List Addr) (m : MSpec) : PySem.W.Hook where
  α := AlM
  obs := fun s => obsLG as m s.heap.get?
  val := fun w => valM m w
  says := fun w h => ∃ K : PySem.W.Frag, K.In h ∧ SaysM m w K
  of := fun _ _ e => ⟨_, frG_in, e⟩
  keeps := fun _ _ _ ⟨K, hK, c⟩ k => ⟨K, PySem.W.Frag.In.keeps hK k, c⟩
theorem obsLG_eq {as : List Addr} {m : MSpec} {g : Addr → Option Obj} {s : Shared} (h : ∀ a, g a = s.heap.get? a) : obsLG as m g = (hookL as m).obs s := by
  have e : g = s.heap.get? := funext h
  rw [e] <;> rfl
end ML
end

section
set_option Elab.async false
set_option linter.all false
set_option maxRecDepth 100000
set_option maxHeartbeats 400000
/-! Frames out of locality. -/
namespace ML
open PySem L2
def hpOf {α : Type} : Res α → Hi
  | .ok _ h => h
  | .ex _ _ h => h
  | .err => []
mutual
def flatV : VI → Bool
  | .ref _ => false
  | .tup xs => flatVs xs
  | _ => true
def flatVs : List VI → Bool
  | [] => true
  | x :: xs => flatV x && flatVs xs
end
def flatF : List (S × VI) → Bool
  | [] => true
  | (_, v) :: r => flatV v && flatF r
def flatK : List (VI × VI) → Bool
  | [] => true
  | (k, v) :: r => flatV k && (flatV v && flatK r)
def flatO : OI → Bool
  | .lst xs => flatVs xs
  | .scr xs => flatVs xs
  | .dic kvs => flatK kvs
  | .ins _ fs => flatF fs
  | .xd fs => flatF fs
section
variable {r : List Nat}
mutual
theorem RV2.flat : ∀ {v w : VI}, RV2 r v w → flatV v = true → w = v
  | _, _, .non, _ => rfl
  | _, _, .bl _, _ => rfl
  | _, _, .int _, _ => rfl
  | _, _, .str _, _ => rfl
  | _, _, .glo _, _ => rfl
  | _, _, .ref _, e => by simp [flatV] at e
  | _, _, .tup t, e => by rw [RVs2.flat t (by simpa [flatV] using e)]
theorem RVs2.flat : ∀ {v w : List VI}, RVs2 r v w → flatVs v = true → w = v
  | _, _, .nil, _ => rfl
  | _, _, .cons a t, e => by
    simp only [flatVs, Bool.and_eq_true] at e
    rw [RV2.flat a e.1, RVs2.flat t e.2]
end
mutual
theorem RV2.self : ∀ (v : VI), flatV v = true → RV2 r v v
  | .non, _ => .non
  | .bl b, _ => .bl b
  | .int b, _ => .int b
  | .str b, _ => .str b
  | .glo b, _ => .glo b
  | .ref n, e => by simp [flatV] at e
  | .tup xs, e => .tup (RVs2.self xs (by simpa [flatV] using e))
theorem RVs2.self : ∀ (v : List VI), flatVs v = true → RVs2 r v v
  | [], _ => .nil
  | x :: xs, e => by
    simp only [flatVs, Bool.and_eq_true] at e
    exact .cons (RV2.self x e.1) (RVs2.self xs e.2)
end
theorem RFs2.flat : ∀ {v w : List (S × VI)}, RFs2 r v w → flatF v = true → w = v
  | _, _, .nil, _ => rfl
  | _, _, .cons a t, e => by
    simp only [flatF, Bool.and_eq_true] at e
    rw [a.flat e.1, RFs2.flat t e.2]
theorem RKs2.flat : ∀ {v w : List (VI × VI)}, RKs2 r v w → flatK v = true → w = v
  | _, _, .nil, _ => rfl
  | _, _, .cons a b t, e => by
    simp only [flatK, Bool.and_eq_true] at e
    rw [a.flat e.1, b.flat e.2.1, RKs2.flat t e.2.2]
theorem RFs2.self : ∀ (v : List (S × VI)), flatF v = true → RFs2 r v v
  | [], _ => .nil
  | (f, x) :: xs, e => by
    simp only [flatF, Bool.and_eq_true] at e
    exact .cons (RV2.self x e.1) (RFs2.self xs e.2)
theorem RKs2.self : ∀ (v : List (VI × VI)), flatK v = true → RKs2 r v v
  | [], _ => .nil
  | (f, x) :: xs, e => by
    simp only [flatK, Bool.and_eq_true] at e
    exact .cons (RV2.self f e.1) (RV2.self x e.2.1) (RKs2.self xs e.2.2)
theorem RO2.flat {o o' : OI} (k : RO2 r o o') (e : flatO o = true) : o' = o := by
  cases k with
  | lst t => rw [t.flat e]
  | scr t => rw [t.flat e]
  | dic t => rw [t.flat e]
  | ins t => rw [t.flat e]
  | xd t => rw [t.flat e]
theorem RO2.self (o : OI) (e : flatO o = true) : RO2 r o o := by
  cases o with
  | lst t => exact .lst (.self _ e)
  | scr t => exact .scr (.self _ e)
  | dic t => exact .dic (.self _ e)
  | ins c t => exact .ins (.self _ e)
  | xd t => exact .xd (.self _ e)
end
/-- the objects at the places r of h are those of s -/
theorem Ag2.of {r : List Nat} {s h : Hi} (nd : r.Nodup) (len : r.length = s.length) (k : ∀ (n : Nat) (o : OI), s[n]? = some o → ∃ (m : Nat) (o' : OI), r[n]? = some m ∧ h[m]? = some o' ∧ RO2 r o o') : Ag2 r s h := ⟨nd, len, k⟩
theorem Ag2.one {p : Nat} {o o' : OI} {h : Hi} (e : h[p]? = some o') (k : RO2 [p] o o') : Ag2 [p] [o] h := ⟨by simp, rfl, fun n u q => by
  cases n with
  | zero => cases q; exact ⟨p, o', rfl, e, k⟩
  | succ n => simp at q⟩
theorem Ag2.two {p p2 : Nat} {o o' u u' : OI} {h : Hi} (ne : p ≠ p2) (e : h[p]? = some o') (k : RO2 [p, p2] o o') (e2 : h[p2]? = some u') (k2 : RO2 [p, p2] u u') : Ag2 [p, p2] [o, u] h := ⟨by simp [ne], rfl, fun n w q => by
  match n with
  | 0 => cases q; exact ⟨p, o', rfl, e, k⟩
  | 1 => cases q; exact ⟨p2, u', rfl, e2, k2⟩
  | n + 2 => simp at q⟩
theorem Ag2.three {p p2 p3 : Nat} {o o' u u' w w' : OI} {h : Hi} (ne : p ≠ p2) (ne2 : p ≠ p3) (ne3 : p2 ≠ p3) (e : h[p]? = some o') (k : RO2 [p, p2, p3] o o') (e2 : h[p2]? = some u') (k2 : RO2 [p, p2, p3] u u') (e3 : h[p3]? = some w') (k3 : RO2 [p, p2, p3] w w') : Ag2 [p, p2, p3] [o, u, w] h := ⟨by simp [ne, ne2, ne3], rfl, fun n z q => by
  match n with
  | 0 => cases q; exact ⟨p, o', rfl, e, k⟩
  | 1 => cases q; exact ⟨p2, u', rfl, e2, k2⟩
  | 2 => cases q; exact ⟨p3, w', rfl, e3, k3⟩
  | n + 3 => simp at q⟩
/-- all but the places ps stay -/
structure Fr (ps : List Nat) (h h' : Hi) : Prop where
  len : h.length ≤ h'.length
  at_ : ∀ (m : Nat) (o : OI), m ∉ ps → h[m]? = some o → h'[m]? = some o
theorem Fr.refl {ps : List Nat} {h : Hi} : Fr ps h h := ⟨Nat.le_refl _, fun _ _ _ e => e⟩
theorem Fr.trans {ps : List Nat} {h h1 h2 : Hi} (a : Fr ps h h1) (b : Fr ps h1 h2) : Fr ps h h2 := ⟨Nat.le_trans a.len b.len, fun m o n e => b.at_ m o n (a.at_ m o n e)⟩
theorem Fr.weak {ps qs : List Nat} {h h1 : Hi} (a : Fr ps h h1) (k : ∀ m ∈ ps, m ∈ qs) : Fr qs h h1 := ⟨a.len, fun m o n e => a.at_ m o (fun z => n (k m z)) e⟩
theorem Fr.app {ps : List Nat} {h q : Hi} : Fr ps h (h ++ q) := ⟨by simp, fun m o _ e => by rw [List.getElem?_append_left (List.getElem?_eq_some_iff.mp e).1]; exact e⟩
/-- chg: the small places that may have changed -/
theorem lift_fr {f : MF} [x : LF f] {r : List Nat} {s h s' : Hi} {vs vs' : List VI} {v : VI} (chg : List Nat) (e : f vs s = .ok v s') (g : Ag2 r s h) (t : RVs2 r vs vs')
    (hc : ∀ (i : Nat) (o : OI), i ∉ chg → s[i]? = some o → s'[i]? = some o ∧ flatO o = true) :
    ∃ r' h' v', f vs' h = .ok v' h' ∧ Ex2 r h r' h' ∧ Ag2 r' s' h' ∧ RV2 r' v v' ∧ Fr (chg.filterMap (r[·]?)) h h' := by
  obtain ⟨r', h', v', e1, e2, e3, e4⟩ := lift x e g t
  refine ⟨r', h', v', e1, e2, e3, e4, e2.len, fun m o hn hm => ?_⟩
  by_cases hr : m ∈ r
  · obtain ⟨i, hi⟩ := List.mem_iff_getElem?.mp hr
    have hi' : i ∉ chg := fun z => hn (List.mem_filterMap.mpr ⟨i, z, hi⟩)
    obtain ⟨u, u', k1, k2, k3⟩ := g.no hi
    rw [hm] at k2
    cases k2
    obtain ⟨k4, k5⟩ := hc i u hi' k1
    have := k3.flat k5
    subst this
    obtain ⟨w', z1, z2⟩ := e3.at_ k4 (e2.pre hi)
    rw [z1, z2.flat k5]
  · rw [e2.rest m hr (List.getElem?_eq_some_iff.mp hm).1]
    exact hm
/-- a new place -/
theorem Ex2.fresh {r r' : List Nat} {h h' : Hi} (e : Ex2 r h r' h') {n m : Nat} (q : r'[n]? = some m) (l : r.length ≤ n) : h.length ≤ m := by
  obtain ⟨z, rfl, k⟩ := e.more
  rw [List.getElem?_append_right l] at q
  exact k m (List.mem_of_getElem? q)
end ML
end

section
set_option Elab.async false
set_option linter.all false
set_option maxRecDepth 100000
set_option maxHeartbeats 4000000
namespace Lw
open PySem L2 ML
structure PoolOk (a b : Int) : Prop where
  a0 : 0 ≤ a
  b0 : 0 ≤ b
  b1 : b < 2147483647
theorem take_s {a b m : Int} (k : PoolOk a b) (m0 : 0 < m) (m1 : m < 1073741824) : ∃ v a' b', f__law_take [.ref 0, .int m] [.lst [.int a, .int b]] = .ok (.int v) [.lst [.int a', .int b']] ∧ 0 ≤ v ∧ v < m ∧ PoolOk a' b' := by
  obtain ⟨a0, b0, b1⟩ := k
  by_cases h : 0 < a
  · refine ⟨a % m, a / m, b, ?_, Int.emod_nonneg _ (by omega), Int.emod_lt_of_pos _ m0, ⟨Int.ediv_nonneg a0 (by omega), b0, b1⟩⟩
    simp [f__law_take, m__law_take, runB, endB, sSeq, sIf, sAsg, sRet, sNx, gNm, gIxU, nxO, putIx, tOf, eBin, eCB, aCons, aNil, cInt, eIxU, eV, eC, insC, fIx, ixL, ixI, fGt, fInt, fMod, fFdiv, ofO, Res.bind, Res.bindS, RS.andThen, h, m0, m1]
  · refine ⟨((b * 48271 + 11) % 2147483647 * ((b * 48271 + 11) % 2147483647) % 2147483629 / 64) % m, a, (b * 48271 + 11) % 2147483647, ?_, Int.emod_nonneg _ (by omega), Int.emod_lt_of_pos _ m0, ⟨a0, Int.emod_nonneg _ (by omega), Int.emod_lt_of_pos _ (by omega)⟩⟩
    have bn : bnd ((b * 48271 + 11) % 2147483647) = true := by
      have h1 := Int.emod_nonneg (b * 48271 + 11) (show (2147483647 : Int) ≠ 0 by omega)
      have h2 := Int.emod_lt_of_pos (b * 48271 + 11) (show (0 : Int) < 2147483647 by omega)
      simp only [bnd, Bool.and_eq_true, decide_eq_true_eq]
      omega
    have bn2 : bnd 48271 = true := by decide
    simp [f__law_take, m__law_take, runB, endB, sSeq, sIf, sAsg, sRet, sNx, gNm, gIxU, nxO, putIx, tOf, eBin, eCB, aCons, aNil, cInt, eIxU, eV, eC, insC, fIx, ixL, ixI, fGt, fInt, fMod, fFdiv, fMul, fAdd, ofO, Res.bind, Res.bindS, RS.andThen, h, m0, m1, bn, bn2]
end Lw
end

section
set_option Elab.async false
set_option linter.all false
set_option maxRecDepth 100000
set_option maxHeartbeats 4000000
namespace Lw
open PySem L2 ML
def PoolAt (h : Hi) (p : Nat) : Prop := ∃ a b, h[p]? = some (.lst [.int a, .int b]) ∧ PoolOk a b
theorem take_g {h : Hi} {p : Nat} {m : Int} (P : PoolAt h p) (m0 : 0 < m) (m1 : m < 1073741824) : ∃ v h', f__law_take [.ref p, .int m] h = .ok (.int v) h' ∧ 0 ≤ v ∧ v < m ∧ PoolAt h' p ∧ Fr [p] h h' := by
  obtain ⟨a, b, e, k⟩ := P
  obtain ⟨v, a', b', e1, v0, v1, k'⟩ := take_s k m0 m1
  obtain ⟨r', h', v', f1, f2, f3, f4, f5⟩ := lift_fr (r := [p]) (vs' := [.ref p, .int m]) [0] e1 (.one e (.self _ rfl)) (.cons (.ref rfl) (.cons (.int _) .nil)) (fun i o hi ho => by
    cases i with
    | zero => exact absurd (List.mem_singleton.mpr rfl) hi
    | succ i => simp at ho)
  cases f4
  obtain ⟨o', g1, g2⟩ := f3.at_ (n := 0) rfl (f2.pre (n := 0) rfl)
  cases g2.flat rfl
  exact ⟨v, h', f1, v0, v1, ⟨a', b', g1, k'⟩, f5⟩
theorem one_g {h : Hi} {p l : Nat} {xs : List VI} (P : PoolAt h p) (hl : h[l]? = some (.lst xs)) (ne : l ≠ p) (n0 : xs ≠ []) (n1 : xs.length < 1000) : ∃ v h', f__law_one [.ref p, .ref l] h = .ok v h' ∧ v ∈ xs ∧ PoolAt h' p ∧ Fr [p] h h' := by
  have p0 : 0 < xs.length := List.length_pos_iff.mpr n0
  obtain ⟨i, h', e, v0, v1, P', F⟩ := take_g (m := xs.length) P (by omega) (by omega)
  have hl' := F.at_ l _ (by simpa using ne) hl
  obtain ⟨j, rfl⟩ := Int.eq_ofNat_of_zero_le v0
  have hj : j < xs.length := by omega
  refine ⟨xs[j], h', ?_, List.getElem_mem _, P', F⟩
  simp [f__law_one, m__law_one, runB, endB, sRet, eIxU, eCall, eCB, eLenU, aCons, aNil, eV, cLen, hl, ofO, Res.bind, Res.bindS, e, insC, hl', fIx, ixL, ixI, hj]
end Lw
end

section
set_option Elab.async false
set_option linter.all false
set_option maxRecDepth 100000
set_option maxHeartbeats 4000000
namespace Lw
open PySem L2 ML
def bools : List VI := [.bl false, .bl true]
def chs (w : S) : List VI :=
  match lkS [(s_epochs, [VI.int 2, .int 3, .int 4, .int 5, .int 6]), (s_counts, [.int 1, .int 2, .int 3, .int 4]), (s_fetch, [.str s_ahead, .str s_behind]), (s_mark, [.str s_own, .str s_fresh]), (s_test, [.str s_last, .str s_equal]),
    (s_step, [.str s_add, .str s_set, .str s_still]), (s_look, [.str s_ahead, .str s_behind]), (s_chain, [.str s_next, .str s_both, .str s_none]), (s_still, [.str s_anywhere, .str s_outside]), (s_read, [.str s_ahead, .str s_behind]),
    (s_sleep, [.str s_inside, .str s_late, .str s_outside, .str s_none])] w with
  | some l => l
  | none => bools
def wsE : List S := [s_epochs, s_behind, s_check, s_fetch, s_mark, s_test, s_step, s_told]
def wsL : List S := [s_check, s_look, s_chain]
def wsT : List S := [s_counts, s_still, s_read, s_sleep]
def bhs : Nat → List VI := fun n => (List.range n).map fun i => VI.int (i + 1 : Nat)
def isRefAt : Res VI → Option Nat
  | .ok (.ref n) _ => some n
  | _ => none
def refOf : Res VI → Nat
  | .ok (.ref n) _ => n
  | _ => 0
def chOk (w : S) (l : List VI) (kv : List (VI × VI)) : Prop := ∃ n s', f__law_choices [.str w, .ref 0] [.dic kv] = .ok (.ref (n + 1)) s' ∧ s'[0]? = some (.dic kv) ∧ s'[n + 1]? = some (.lst l)
theorem chOk_of {w : S} {l : List VI} {kv : List (VI × VI)} (a : f__law_choices [.str w, .ref 0] [.dic kv] = .ok (.ref (refOf (f__law_choices [.str w, .ref 0] [.dic kv]) - 1 + 1)) (hpOf (f__law_choices [.str w, .ref 0] [.dic kv])))
    (b : (hpOf (f__law_choices [.str w, .ref 0] [.dic kv]))[0]? = some (.dic kv)) (c : (hpOf (f__law_choices [.str w, .ref 0] [.dic kv]))[refOf (f__law_choices [.str w, .ref 0] [.dic kv]) - 1 + 1]? = some (.lst l)) : chOk w l kv := ⟨_, _, a, b, c⟩
theorem ch_s (kv : List (VI × VI)) (w : S) (hw : w ∈ [s_epochs, s_check, s_fetch, s_mark, s_test, s_step, s_told, s_look, s_chain, s_counts, s_still, s_read, s_sleep]) : chOk w (chs w) kv := by
  simp only [List.mem_cons, List.mem_nil_iff, or_false] at hw
  rcases hw with rfl | rfl | rfl | rfl | rfl | rfl | rfl | rfl | rfl | rfl | rfl | rfl | rfl
  all_goals exact chOk_of (by kernel_rfl) (by kernel_rfl) (by kernel_rfl)
theorem ch_b (W : VI) (r : List (VI × VI)) (e : Nat) (h1 : e < 7) : chOk s_behind (bhs e) ((.str s_way, W) :: (.str s_epochs, .int e) :: r) := by
  match e, h1 with
  | 0, _ => exact chOk_of (by kernel_rfl) (by kernel_rfl) (by kernel_rfl)
  | 1, _ => exact chOk_of (by kernel_rfl) (by kernel_rfl) (by kernel_rfl)
  | 2, _ => exact chOk_of (by kernel_rfl) (by kernel_rfl) (by kernel_rfl)
  | 3, _ => exact chOk_of (by kernel_rfl) (by kernel_rfl) (by kernel_rfl)
  | 4, _ => exact chOk_of (by kernel_rfl) (by kernel_rfl) (by kernel_rfl)
  | 5, _ => exact chOk_of (by kernel_rfl) (by kernel_rfl) (by kernel_rfl)
  | 6, _ => exact chOk_of (by kernel_rfl) (by kernel_rfl) (by kernel_rfl)
/-- choices on any heap -/
theorem ch_g {w : S} {l : List VI} {kv : List (VI × VI)} (k : chOk w l kv) (fl : flatK kv = true) (fl2 : flatVs l = true) {h : Hi} {d : Nat} (hd : h[d]? = some (.dic kv)) : ∃ n h', f__law_choices [.str w, .ref d] h = .ok (.ref n) h' ∧ h.length ≤ n ∧ h'[n]? = some (.lst l) ∧ Fr [] h h' := by
  obtain ⟨n, s', e1, e2, e3⟩ := k
  obtain ⟨r', h', v', f1, f2, f3, f4, f5⟩ := lift_fr (r := [d]) (vs' := [.str w, .ref d]) [] e1 (.one hd (.self _ fl)) (.cons (.str _) (.cons (.ref rfl) .nil)) (fun i o hi ho => by
    cases i with
    | zero => cases ho; exact ⟨e2, fl⟩
    | succ i => simp at ho)
  cases f4 with
  | ref q =>
    obtain ⟨o', g1, g2⟩ := f3.at_ e3 q
    cases g2.flat fl2
    exact ⟨_, h', f1, f2.fresh q (by simp), g1, f5⟩
/-- switches -/
theorem sw_g (w : S) (l : List S) (e : f__law_switches [.str w] [] = .ok (.ref 0) [.lst (l.map .str)]) (h : Hi) : ∃ n h', f__law_switches [.str w] h = .ok (.ref n) h' ∧ h.length ≤ n ∧ h'[n]? = some (.lst (l.map .str)) ∧ Fr [] h h' := by
  obtain ⟨r', h', v', f1, f2, f3, f4, f5⟩ := lift_fr (r := []) (vs' := [.str w]) [] e (Ag2.of (s := []) (h := h) (by simp) rfl (fun n o q => by simp at q)) (.cons (.str _) .nil) (fun i o hi ho => by simp at ho)
  cases f4 with
  | ref q =>
    obtain ⟨o', g1, g2⟩ := f3.at_ (n := 0) rfl q
    have fl : ∀ l : List S, flatVs (l.map .str) = true := fun l => by induction l with | nil => rfl | cons a b ih => simp [flatVs, ML.flatV, ih]
    cases g2.flat (fl l)
    exact ⟨_, h', f1, f2.fresh q (by simp), g1, f5⟩
end Lw
end

section
set_option Elab.async false
set_option linter.all false
set_option maxRecDepth 100000
set_option maxHeartbeats 400000
/-! Applied forms for simp; loops by invariants. -/
namespace ML
open PySem L2
section
variable {α β : Type} {σ σ1 : Sg} {h h1 : Hi}
@[simp] theorem x_bind (a : α) (f : α → Hi → Res β) : Res.bind (.ok a h) f = f a h := rfl
@[simp] theorem x_bindS (a : α) (f : α → Hi → RS) : Res.bindS (.ok a h) σ f = f a h := rfl
@[simp] theorem x_nx (f : MS) : RS.andThen (.nx σ h) f = f σ h := rfl
@[simp] theorem x_rt (v : VI) (f : MS) : RS.andThen (.rt v h) f = .rt v h := rfl
@[simp] theorem x_endN : endB (.nx σ h) = .ok .non h := rfl
@[simp] theorem x_endR (v : VI) : endB (.rt v h) = .ok v h := rfl
@[simp] theorem x_eV (i : Nat) : eV i σ h = match σ[i]? with
  | some (some v) => .ok v h
  | _ => .err := rfl
@[simp] theorem x_eC (v : VI) : eC v σ h = .ok v h := rfl
@[simp] theorem x_aNil : aNil σ h = .ok [] h := rfl
@[simp] theorem x_aCons (a : ME) (r : MA) : aCons a r σ h = (a σ h).bind fun x h1 => (r σ h1).bind fun xs h2 => .ok (x :: xs) h2 := rfl
@[simp] theorem x_eBin (f : Op2) (a b : ME) : eBin f a b σ h = (a σ h).bind fun x h1 => (b σ h1).bind fun y h2 => ofO (f x y h2) := rfl
@[simp] theorem x_ofO (v : α) : ofO (some (v, h)) = .ok v h := rfl
@[simp] theorem x_tOf (e : ME) : tOf e σ h = (e σ h).bind fun v h1 => match v with
  | .bl b => .ok b h1
  | _ => .err := rfl
@[simp] theorem x_tAnd (a b : MT) : tAndM a b σ h = (a σ h).bind fun c h1 => match c with
  | true => b σ h1
  | false => .ok false h1 := rfl
@[simp] theorem x_tOr (a b : MT) : tOrM a b σ h = (a σ h).bind fun c h1 => match c with
  | true => .ok true h1
  | false => b σ h1 := rfl
@[simp] theorem x_tNot (a : MT) : tNotM a σ h = (a σ h).bind fun c h1 => .ok (!c) h1 := rfl
@[simp] theorem x_eIf (t : MT) (a b : ME) : eIf t a b σ h = (t σ h).bind fun c h1 => match c with
  | true => a σ h1
  | false => b σ h1 := rfl
@[simp] theorem x_sNx : sNx σ h = .nx σ h := rfl
@[simp] theorem x_sSeq (a b : MS) : sSeq a b σ h = (a σ h).andThen b := rfl
@[simp] theorem x_sRet (e : ME) : sRet e σ h = (e σ h).bindS σ fun v h1 => .rt v h1 := rfl
@[simp] theorem x_sDrop (e : ME) : sDrop e σ h = (e σ h).bindS σ fun _ h1 => .nx σ h1 := rfl
@[simp] theorem x_sIf (t : MT) (a b : MS) : sIf t a b σ h = (t σ h).bindS σ fun c h1 => match c with
  | true => a σ h1
  | false => b σ h1 := rfl
@[simp] theorem x_gNm (i : Nat) (v : VI) : gNm i v σ h = .nx (σ.set i (some v)) h := rfl
@[simp] theorem x_sAsg (e : ME) (g : MG) : sAsg e g σ h = (e σ h).bindS σ fun v h1 => g v σ h1 := rfl
@[simp] theorem x_eCall (g : MF) (ma : MA) : eCall g ma σ h = (ma σ h).bind fun vs h1 => g vs h1 := rfl
@[simp] theorem x_eCB (f : OpC) (ma : MA) : eCB f ma σ h = (ma σ h).bind fun vs h1 => ofO (f vs h1) := rfl
@[simp] theorem x_sFor (mi : MI) (g : MG) (b : MS) : sFor mi g b σ h = (mi σ h).bindS σ fun it h1 => turns it g b (it.fuel h1) 0 σ h1 := rfl
@[simp] theorem x_iSeq (e : ME) : iSeq e σ h = (e σ h).bind fun v h1 => ofI (seqOf v h1) h1 := rfl
@[simp] theorem x_iRng (a : MA) : iRng a σ h = (a σ h).bind fun vs h1 => ofI (rngOf vs) h1 := rfl
@[simp] theorem x_ofI (it : Itm) : ofI (some it) h = .ok it h := rfl
@[simp] theorem x_dropV (v : VI) : dropV σ (.ok v h) = .nx σ h := rfl
@[simp] theorem x_nxO : nxO σ (some h) = .nx σ h := rfl
@[simp] theorem x_okM (v : VI) : okM (.ok v h) = .ok v h := rfl
end
@[simp] theorem x_run0 (n : Nat) (b : MS) (h : Hi) : runB 0 n b [] h = endB (b (List.replicate n none) h) := rfl
@[simp] theorem x_run1 (n : Nat) (b : MS) (a0 : VI) (h : Hi) : runB 1 n b [a0] h = endB (b (some a0 :: List.replicate n none) h) := rfl
@[simp] theorem x_run2 (n : Nat) (b : MS) (a0 a1 : VI) (h : Hi) : runB 2 n b [a0, a1] h = endB (b (some a0 :: some a1 :: List.replicate n none) h) := rfl
@[simp] theorem x_run3 (n : Nat) (b : MS) (a0 a1 a2 : VI) (h : Hi) : runB 3 n b [a0, a1, a2] h = endB (b (some a0 :: some a1 :: some a2 :: List.replicate n none) h) := rfl
@[simp] theorem x_run4 (n : Nat) (b : MS) (a0 a1 a2 a3 : VI) (h : Hi) : runB 4 n b [a0, a1, a2, a3] h = endB (b (some a0 :: some a1 :: some a2 :: some a3 :: List.replicate n none) h) := rfl
@[simp] theorem x_run5 (n : Nat) (b : MS) (a0 a1 a2 a3 a4 : VI) (h : Hi) : runB 5 n b [a0, a1, a2, a3, a4] h = endB (b (some a0 :: some a1 :: some a2 :: some a3 :: some a4 :: List.replicate n none) h) := rfl
@[simp] theorem x_run6 (n : Nat) (b : MS) (a0 a1 a2 a3 a4 a5 : VI) (h : Hi) : runB 6 n b [a0, a1, a2, a3, a4, a5] h = endB (b (some a0 :: some a1 :: some a2 :: some a3 :: some a4 :: some a5 :: List.replicate n none) h) := rfl
@[simp] theorem x_run7 (n : Nat) (b : MS) (a0 a1 a2 a3 a4 a5 a6 : VI) (h : Hi) : runB 7 n b [a0, a1, a2, a3, a4, a5, a6] h = endB (b (some a0 :: some a1 :: some a2 :: some a3 :: some a4 :: some a5 :: some a6 :: List.replicate n none) h) := rfl
@[simp] theorem x_run8 (n : Nat) (b : MS) (a0 a1 a2 a3 a4 a5 a6 a7 : VI) (h : Hi) : runB 8 n b [a0, a1, a2, a3, a4, a5, a6, a7] h = endB (b (some a0 :: some a1 :: some a2 :: some a3 :: some a4 :: some a5 :: some a6 :: some a7 :: List.replicate n none) h) := rfl
@[simp] theorem x_run9 (n : Nat) (b : MS) (a0 a1 a2 a3 a4 a5 a6 a7 a8 : VI) (h : Hi) : runB 9 n b [a0, a1, a2, a3, a4, a5, a6, a7, a8] h = endB (b (some a0 :: some a1 :: some a2 :: some a3 :: some a4 :: some a5 :: some a6 :: some a7 :: some a8 :: List.replicate n none) h) := rfl
@[simp] theorem x_rep0 : (List.replicate 0 none : Sg) = [] := rfl
@[simp] theorem x_rep1 : (List.replicate 1 none : Sg) = [none] := rfl
@[simp] theorem x_rep2 : (List.replicate 2 none : Sg) = [none, none] := rfl
@[simp] theorem x_rep3 : (List.replicate 3 none : Sg) = [none, none, none] := rfl
@[simp] theorem x_rep4 : (List.replicate 4 none : Sg) = [none, none, none, none] := rfl
@[simp] theorem x_rep5 : (List.replicate 5 none : Sg) = [none, none, none, none, none] := rfl
theorem runB_eq {np n : Nat} {b : MS} {vs : List VI} {h : Hi} (e : vs.length = np) : runB np n b vs h = endB (b (vs.map some ++ List.replicate n none) h) := by
  unfold runB
  rw [e, show Nat.beq np np = true from Nat.beq_refl np]
/-- a loop by its invariant: each turn goes on -/
theorem turns_inv {it : Itm} {g : MG} {body : MS} (n : Nat) (I : Nat → Sg → Hi → Prop)
    (step : ∀ i σ h, i < n → I i σ h → ∃ x σ1 h1 σ2 h2, it.nxt i h = some (some x) ∧ g x σ h = .nx σ1 h1 ∧ body σ1 h1 = .nx σ2 h2 ∧ I (i + 1) σ2 h2)
    (fin : ∀ σ h, I n σ h → it.nxt n h = some none) : ∀ k i σ h, i + k = n → I i σ h → ∃ σ2 h2, turns it g body k i σ h = .nx σ2 h2 ∧ I n σ2 h2
  | 0, i, σ, h, e, q => by
    have : i = n := by omega
    subst this
    refine ⟨σ, h, ?_, q⟩
    unfold turns
    rw [fin σ h q]
  | k + 1, i, σ, h, e, q => by
    obtain ⟨x, σ1, h1, σ2, h2, a, b, c, q2⟩ := step i σ h (by omega) q
    obtain ⟨σ3, h3, r, q3⟩ := turns_inv n I step fin k (i + 1) σ2 h2 (by omega) q2
    refine ⟨σ3, h3, ?_, q3⟩
    unfold turns
    simp only [a, b, c, x_nx]
    exact r
end ML
end

section
set_option Elab.async false
set_option linter.all false
set_option maxRecDepth 100000
set_option maxHeartbeats 1000000
namespace Lw
open PySem L2 ML
def IvOk (kv : List (VI × VI)) (w : S) : Prop := ∃ s', f_is_value [.str w, .ref 0] [.dic kv] = .ok (.bl true) s' ∧ s'[0]? = some (.dic kv)
theorem ivOk_of {kv : List (VI × VI)} {w : S} (a : f_is_value [.str w, .ref 0] [.dic kv] = .ok (.bl true) (hpOf (f_is_value [.str w, .ref 0] [.dic kv]))) (b : (hpOf (f_is_value [.str w, .ref 0] [.dic kv]))[0]? = some (.dic kv)) : IvOk kv w := ⟨_, a, b⟩
theorem iv_g {kv : List (VI × VI)} {w : S} (k : IvOk kv w) (fl : flatK kv = true) {h : Hi} {d : Nat} (hd : h[d]? = some (.dic kv)) : ∃ h', f_is_value [.str w, .ref d] h = .ok (.bl true) h' ∧ Fr [] h h' := by
  obtain ⟨s', e1, e2⟩ := k
  obtain ⟨r', h', v', f1, f2, f3, f4, f5⟩ := lift_fr (r := [d]) (vs' := [.str w, .ref d]) [] e1 (.one hd (.self _ fl)) (.cons (.str _) (.cons (.ref rfl) .nil)) (fun i o hi ho => by
    cases i with
    | zero => cases ho; exact ⟨e2, fl⟩
    | succ i => simp at ho)
  cases f4
  exact ⟨h', f1, f5⟩
/-- the words of the class of number c -/
def wsC (c : Nat) : List S := match c with
  | 3 => wsE
  | 4 => wsL
  | 5 => wsT
  | _ => []
abbrev tW : Nat → Option VI := lkT [(2, (.tup [])), (3, (.tup [(.str s_epochs), (.str s_behind), (.str s_check), (.str s_fetch), (.str s_mark), (.str s_test), (.str s_step), (.str s_told)])), (4, (.tup [(.str s_check), (.str s_look), (.str s_chain)])), (5, (.tup [(.str s_counts), (.str s_still), (.str s_read), (.str s_sleep)]))]
def isC (c : Nat) : Prop := c = 3 ∨ c = 4 ∨ c = 5
theorem tW_eq {c : Nat} (hc : isC c) : tW c = some (.tup ((wsC c).map .str)) := by
  rcases hc with rfl | rfl | rfl <;> rfl
theorem fw_g {h : Hi} {b d c : Nat} {fs : List (S × VI)} {kv : List (VI × VI)} (hb : h[b]? = some (.ins c fs)) (nw : getF s_WORDS fs = none) (hc : isC c) (hd : h[d]? = some (.dic kv)) (fl : flatK kv = true) (iv : ∀ w ∈ wsC c, IvOk kv w) :
    ∃ h', f_Book_first_wrong [.ref b, .ref d] h = .ok .non h' ∧ Fr [] h h' := by
  have key := turns_inv (it := .tup ((wsC c).map .str)) (g := gNm 2) (body := (sIf (tNotM (tOf (eCall f_is_value (aCons (eV 2) (aCons (eV 1) aNil))))) (sRet (eV 2)) sNx)) (wsC c).length
    (fun i σ h2 => (∃ x, σ = [some (.ref b), some (.ref d), x]) ∧ Fr [] h h2) (fun i σ h2 hi ⟨⟨x, e⟩, F⟩ => by
      subst e
      have hd2 := F.at_ d _ (by simp) hd
      obtain ⟨h3, e3, F3⟩ := iv_g (iv _ (List.getElem_mem hi)) fl hd2
      refine ⟨.str (wsC c)[i], [some (.ref b), some (.ref d), some (.str (wsC c)[i])], h2, [some (.ref b), some (.ref d), some (.str (wsC c)[i])], h3, ?_, rfl, ?_, ⟨_, rfl⟩, F.trans F3⟩
      · simp [Itm.nxt, hi]
      · simp [e3])
    (fun σ h2 _ => by simp [Itm.nxt]) (wsC c).length 0 [some (.ref b), some (.ref d), none] h (by omega) ⟨⟨_, rfl⟩, .refl⟩
  obtain ⟨σ2, h2, e, _, F⟩ := key
  refine ⟨h2, ?_, F⟩
  unfold f_Book_first_wrong m_Book_first_wrong
  have tw := tW_eq hc
  unfold tW at tw
  simp [eCon, hb, nw, tw, seqOf, Itm.fuel, e]
end Lw
end

section
set_option Elab.async false
set_option linter.all false
set_option maxRecDepth 100000
set_option maxHeartbeats 1000000
namespace ML
theorem Fr.get {ps : List Nat} {h h' : Hi} (F : Fr ps h h') {m : Nat} {o : OI} (e : h[m]? = some o) (n : m ∉ ps) : h'[m]? = some o := F.at_ m o n e
theorem at_lt {h : Hi} {m : Nat} {o : OI} (e : h[m]? = some o) : m < h.length := (List.getElem?_eq_some_iff.mp e).1
theorem at_app {h q : Hi} {m : Nat} {o : OI} (e : h[m]? = some o) : (h ++ q)[m]? = some o := by rw [List.getElem?_append_left (at_lt e)]; exact e
theorem Fr.set {h : Hi} {n : Nat} {o : OI} : Fr [n] h (h.set n o) := ⟨by simp, fun m u hn e => by
  rw [List.getElem?_set_ne (by simpa using fun z => hn (by simp [z]))]; exact e⟩
theorem Fr.setNew {h : Hi} {n : Nat} {o : OI} (l : h.length ≤ n) {h2 : Hi} (F : Fr [] h h2) : Fr [] h (h2.set n o) := ⟨by simpa using F.len, fun m u _ e => by
  have := at_lt e
  rw [List.getElem?_set_ne (by omega)]; exact F.at_ m u (by simp) e⟩
theorem Fr.nil {ps : List Nat} {h h1 : Hi} (a : Fr [] h h1) : Fr ps h h1 := a.weak (by simp)
theorem mrg_g {e k v : ME} {σ : Sg} {h : Hi} {d : Nat} {kv : List (VI × VI)} {y z : VI} (he : e σ (h ++ [.dic []]) = .ok (.ref d) (h ++ [.dic []])) (hd : h[d]? = some (.dic kv)) (hk : ∀ h2, k σ h2 = .ok y h2) (hv : ∀ h2, v σ h2 = .ok z h2) (ky : isKey y = true)
    (pa : putAll kv [] = kv) (sm : kv.length < 1000) : ∃ h', eMrg e k v σ h = .ok (.ref h.length) h' ∧ h'[h.length]? = some (.dic (putD y z kv)) ∧ Fr [] h h' ∧ h.length < h'.length := by
  have dl := at_lt hd
  have s1 : small (kv.length + 1) = true := by simp [small]; omega
  have nb : Nat.beq d h.length = false := by
    cases q : Nat.beq d h.length with
    | false => rfl
    | true => have := Nat.eq_of_beq_eq_true q; omega
  have g1 : (h ++ [OI.dic []])[h.length]? = some (.dic []) := by simp
  have g2 : (h ++ [OI.dic []])[d]? = some (.dic kv) := at_app hd
  have g3 : (((h ++ [OI.dic []]).set h.length (.dic kv)) ++ [OI.dic []])[h.length]? = some (.dic kv) := by simp
  have g4 : (((h ++ [OI.dic []]).set h.length (.dic kv)) ++ [OI.dic []])[(h ++ [OI.dic []]).length]? = some (.dic []) := by simp
  refine ⟨(((((h ++ [OI.dic []]).set h.length (.dic kv)) ++ [OI.dic []]).set (h ++ [OI.dic []]).length (.dic [(y, z)])).set h.length (.dic (putD y z kv))), ?_, ?_, ?_, ?_⟩
  · unfold eMrg mrgTail
    simp only [he, x_bind, nb, g1, g2, pa, s1, hk, hv, ky, g3, g4]
  · simp
  · refine ⟨by simp, fun m o _ hm => ?_⟩
    have ml := at_lt hm
    rw [List.getElem?_set_ne (by omega), List.getElem?_set_ne (by simp; omega), List.getElem?_append_left (by simp; omega), List.getElem?_set_ne (by omega), List.getElem?_append_left ml]
    exact hm
  · simp
end ML
namespace Lw
open PySem L2 ML
structure BookAt (h : Hi) (b c : Nat) (kv : List (VI × VI)) (d o : Nat) : Prop where
  ins : h[b]? = some (.ins c [(s_own, .ref d), (s_order, .ref o)])
  dic : h[d]? = some (.dic kv)
theorem BookAt.fr {h h' : Hi} {b c d o : Nat} {kv : List (VI × VI)} {ps : List Nat} (B : BookAt h b c kv d o) (F : Fr ps h h') (n1 : b ∉ ps) (n2 : d ∉ ps) : BookAt h' b c kv d o := ⟨F.get B.ins n1, F.get B.dic n2⟩
theorem ni_ok {c : Nat} (hc : isC c) {w : S} (hw : w ∈ wsC c) (h : Hi) : fNotIn (.str w) (.tup ((wsC c).map .str)) h = some (.bl false, h) := by
  rcases hc with rfl | rfl | rfl
  all_goals
    simp only [wsC, wsE, wsL, wsT, List.mem_cons, List.mem_nil_iff, or_false] at hw
  · rcases hw with rfl | rfl | rfl | rfl | rfl | rfl | rfl | rfl <;> rfl
  · rcases hw with rfl | rfl | rfl <;> rfl
  · rcases hw with rfl | rfl | rfl | rfl <;> rfl
theorem law_g {h : Hi} {b c : Nat} {fs : List (S × VI)} (hb : h[b]? = some (.ins c fs)) (nw : getF s_WORDS fs = none) (hc : isC c) {w : S} (hw : w ∈ wsC c) : f_Book_look_at_word [.ref b, .str w] h = .ok .non h := by
  have tw := tW_eq hc
  unfold tW at tw
  have n := ni_ok hc hw
  have i1 : isT i_str.t (.str w) h = some true := rfl
  unfold f_Book_look_at_word m_Book_look_at_word
  simp [eCon, eIsi, hb, nw, tw, n, i1]
theorem gw {c : Nat} (hc : isC c) (f : MF) : lkT [(2, f), (3, f), (4, f), (5, f)] c = some f := by
  rcases hc with rfl | rfl | rfl <;> rfl
theorem cs_ok {c : Nat} (hc : isC c) : [2, 3, 4, 5].contains c = true := by
  rcases hc with rfl | rfl | rfl <;> rfl
theorem cs_ok2 {c : Nat} (hc : isC c) : (decide (c = 2) || (decide (c = 3) || (decide (c = 4) || decide (c = 5)))) = true := by
  rcases hc with rfl | rfl | rfl <;> rfl
theorem fOwn {d o : Nat} : getF s_own [(s_own, .ref d), (s_order, .ref o)] = some (.ref d) := rfl
theorem get_g {h : Hi} {b c d o : Nat} {kv : List (VI × VI)} (B : BookAt h b c kv d o) (hc : isC c) {w : S} (hw : w ∈ wsC c) {v : VI} (g : getD (.str w) kv = some v) : f_BookD_getitemD [.ref b, .str w] h = .ok v h := by
  have l := law_g B.ins rfl hc hw
  have nm : getF s_look_at_word [(s_own, .ref d), (s_order, .ref o)] = none := rfl
  unfold f_BookD_getitemD m_BookD_getitemD
  simp [eMeth, eFld, B.ins, gw hc, nm, l, cs_ok2 hc, fOwn, fIx, B.dic, isKey, g]
theorem set_g {h : Hi} {b c d o : Nat} {kv : List (VI × VI)} (B : BookAt h b c kv d o) (hc : isC c) {w : S} (hw : w ∈ wsC c) {v : VI} (pa : putAll kv [] = kv) (sm : kv.length < 1000) (fl : flatK (putD (.str w) v kv) = true) (iv : ∀ w' ∈ wsC c, IvOk (putD (.str w) v kv) w') :
    ∃ h' d', f_BookD_setitemD [.ref b, .str w, v] h = .ok .non h' ∧ BookAt h' b c (putD (.str w) v kv) d' o ∧ Fr [b] h h' ∧ h.length ≤ d' := by
  have l := law_g B.ins rfl hc hw
  have nm : getF s_look_at_word [(s_own, .ref d), (s_order, .ref o)] = none := rfl
  have nm2 : getF s_first_wrong [(s_own, .ref d), (s_order, .ref o)] = none := rfl
  obtain ⟨h1, e1, g1, F1, l1⟩ := mrg_g (e := eFld [2, 3, 4, 5] s_own (eV 0)) (k := eV 1) (v := eV 2) (σ := [some (.ref b), some (.str w), some v, none]) (h := h) (d := d) (kv := kv) (y := .str w) (z := v) (by simp [eFld, at_app B.ins, cs_ok2 hc, fOwn]) B.dic (fun h2 => by simp) (fun h2 => by simp) rfl pa sm
  have b1 := F1.get B.ins (by simp)
  obtain ⟨h2, e2, F2⟩ := fw_g b1 rfl hc g1 fl iv
  have b2 := F2.get b1 (by simp)
  have g2 := F2.get g1 (by simp)
  have bl := at_lt B.ins
  refine ⟨h2.set b (.ins c [(s_own, .ref h.length), (s_order, .ref o)]), h.length, ?_, ⟨?_, ?_⟩, ?_, Nat.le_refl _⟩
  · have sf : setF s_own (.ref h.length) [(s_own, .ref d), (s_order, .ref o)] = [(s_own, .ref h.length), (s_order, .ref o)] := rfl
    have bb : Nat.blt 2 1000 = true := by decide
    unfold f_BookD_setitemD m_BookD_setitemD
    simp [eMeth, B.ins, gw hc, nm, l, e1, b1, nm2, e2, sFldM, b2, cs_ok2 hc, sf, fNotN, bb]
  · rw [List.getElem?_set_self (at_lt b2)]
  · rw [List.getElem?_set_ne (by omega)]; exact g2
  · exact ((F1.trans F2).nil).trans .set
end Lw
end

section
set_option Elab.async false
set_option linter.all false
set_option maxRecDepth 100000
set_option maxHeartbeats 4000000
namespace Lw
open PySem L2 ML
def zipK : List S → List VI → List (VI × VI)
  | w :: ws, v :: vs => (.str w, v) :: zipK ws vs
  | _, _ => []
abbrev lAB : List VI := [.str s_ahead, .str s_behind]
abbrev lMark : List VI := [.str s_own, .str s_fresh]
abbrev lTest : List VI := [.str s_last, .str s_equal]
abbrev lStep : List VI := [.str s_add, .str s_set, .str s_still]
abbrev lChain : List VI := [.str s_next, .str s_both, .str s_none]
abbrev lStill : List VI := [.str s_anywhere, .str s_outside]
abbrev lSleep : List VI := [.str s_inside, .str s_late, .str s_outside, .str s_none]
/-- the values of a book, in the words' order -/
inductive Vd : Nat → List VI → Prop
  | e {e b : Nat} {v2 v3 v4 v5 v6 v7 : VI} (e2 : 2 ≤ e) (e6 : e ≤ 6) (b1 : 1 ≤ b) (be : b ≤ e) (h2 : v2 ∈ bools) (h3 : v3 ∈ lAB) (h4 : v4 ∈ lMark) (h5 : v5 ∈ lTest) (h6 : v6 ∈ lStep) (h7 : v7 ∈ bools) : Vd 3 [.int e, .int b, v2, v3, v4, v5, v6, v7]
  | l {v0 v1 v2 : VI} (h0 : v0 ∈ bools) (h1 : v1 ∈ lAB) (h2 : v2 ∈ lChain) : Vd 4 [v0, v1, v2]
  | t {k : Nat} {v1 v2 v3 : VI} (k1 : 1 ≤ k) (k4 : k ≤ 4) (h1 : v1 ∈ lStill) (h2 : v2 ∈ lAB) (h3 : v3 ∈ lSleep) : Vd 5 [.int k, v1, v2, v3]
theorem m2 {v a b : VI} (h : v ∈ [a, b]) : v = a ∨ v = b := by simpa using h
theorem m3 {v a b c : VI} (h : v ∈ [a, b, c]) : v = a ∨ v = b ∨ v = c := by simpa using h
theorem m4 {v a b c d : VI} (h : v ∈ [a, b, c, d]) : v = a ∨ v = b ∨ v = c ∨ v = d := by simpa using h
theorem fl_of {l : List VI} (hl : l.all ML.flatV = true) {v : VI} (h : v ∈ l) : ML.flatV v = true := List.all_eq_true.mp hl v h
theorem Vd.isC {c : Nat} {vs : List VI} (V : Vd c vs) : isC c := by cases V <;> simp [Lw.isC]
theorem Vd.len {c : Nat} {vs : List VI} (V : Vd c vs) : vs.length = (wsC c).length := by cases V <;> rfl
theorem Vd.flat {c : Nat} {vs : List VI} (V : Vd c vs) : flatK (zipK (wsC c) vs) = true := by
  cases V with
  | e _ _ _ _ h2 h3 h4 h5 h6 h7 =>
    have g2 := fl_of rfl h2; have g3 := fl_of rfl h3; have g4 := fl_of rfl h4; have g5 := fl_of rfl h5; have g6 := fl_of rfl h6; have g7 := fl_of rfl h7
    simp [wsC, wsE, zipK, flatK, ML.flatV, g2, g3, g4, g5, g6, g7]
  | l h0 h1 h2 =>
    have g2 := fl_of rfl h0; have g3 := fl_of rfl h1; have g4 := fl_of rfl h2
    simp [wsC, wsL, zipK, flatK, ML.flatV, g2, g3, g4]
  | t _ _ h1 h2 h3 =>
    have g2 := fl_of rfl h1; have g3 := fl_of rfl h2; have g4 := fl_of rfl h3
    simp [wsC, wsT, zipK, flatK, ML.flatV, g2, g3, g4]
abbrev kE (v0 v1 v2 v3 v4 v5 v6 v7 : VI) : List (VI × VI) := zipK wsE [v0, v1, v2, v3, v4, v5, v6, v7]
theorem ivE0 {e : Nat} (e2 : 2 ≤ e) (e6 : e ≤ 6) (v1 v2 v3 v4 v5 v6 v7 : VI) : IvOk (kE (.int e) v1 v2 v3 v4 v5 v6 v7) s_epochs := by
  rcases (by omega : e = 2 ∨ e = 3 ∨ e = 4 ∨ e = 5 ∨ e = 6) with rfl | rfl | rfl | rfl | rfl <;> exact ivOk_of (by kernel_rfl) (by kernel_rfl)
theorem ivE1 {e b : Nat} (e2 : 2 ≤ e) (e6 : e ≤ 6) (b1 : 1 ≤ b) (be : b ≤ e) (v2 v3 v4 v5 v6 v7 : VI) : IvOk (kE (.int e) (.int b) v2 v3 v4 v5 v6 v7) s_behind := by
  rcases (by omega : e = 2 ∨ e = 3 ∨ e = 4 ∨ e = 5 ∨ e = 6) with rfl | rfl | rfl | rfl | rfl
  · rcases (by omega : b = 1 ∨ b = 2) with rfl | rfl <;> exact ivOk_of (by kernel_rfl) (by kernel_rfl)
  · rcases (by omega : b = 1 ∨ b = 2 ∨ b = 3) with rfl | rfl | rfl <;> exact ivOk_of (by kernel_rfl) (by kernel_rfl)
  · rcases (by omega : b = 1 ∨ b = 2 ∨ b = 3 ∨ b = 4) with rfl | rfl | rfl | rfl <;> exact ivOk_of (by kernel_rfl) (by kernel_rfl)
  · rcases (by omega : b = 1 ∨ b = 2 ∨ b = 3 ∨ b = 4 ∨ b = 5) with rfl | rfl | rfl | rfl | rfl <;> exact ivOk_of (by kernel_rfl) (by kernel_rfl)
  · rcases (by omega : b = 1 ∨ b = 2 ∨ b = 3 ∨ b = 4 ∨ b = 5 ∨ b = 6) with rfl | rfl | rfl | rfl | rfl | rfl <;> exact ivOk_of (by kernel_rfl) (by kernel_rfl)
theorem Vd.iv {c : Nat} {vs : List VI} (V : Vd c vs) : ∀ w ∈ wsC c, IvOk (zipK (wsC c) vs) w := by
  intro w hw
  cases V with
  | @e e b v2 v3 v4 v5 v6 v7 e2 e6 b1 be h2 h3 h4 h5 h6 h7 =>
    simp only [wsC, wsE, List.mem_cons, List.mem_nil_iff, or_false] at hw
    rcases hw with rfl | rfl | rfl | rfl | rfl | rfl | rfl | rfl
    · exact ivE0 e2 e6 _ _ _ _ _ _ _
    · exact ivE1 e2 e6 b1 be _ _ _ _ _ _
    · rcases m2 h2 with rfl | rfl <;> exact ivOk_of (by kernel_rfl) (by kernel_rfl)
    · rcases m2 h3 with rfl | rfl <;> exact ivOk_of (by kernel_rfl) (by kernel_rfl)
    · rcases m2 h4 with rfl | rfl <;> exact ivOk_of (by kernel_rfl) (by kernel_rfl)
    · rcases m2 h5 with rfl | rfl <;> exact ivOk_of (by kernel_rfl) (by kernel_rfl)
    · rcases m3 h6 with rfl | rfl | rfl <;> exact ivOk_of (by kernel_rfl) (by kernel_rfl)
    · rcases m2 h7 with rfl | rfl <;> exact ivOk_of (by kernel_rfl) (by kernel_rfl)
  | l h0 h1 h2 =>
    simp only [wsC, wsL, List.mem_cons, List.mem_nil_iff, or_false] at hw
    rcases hw with rfl | rfl | rfl
    · rcases m2 h0 with rfl | rfl <;> exact ivOk_of (by kernel_rfl) (by kernel_rfl)
    · rcases m2 h1 with rfl | rfl <;> exact ivOk_of (by kernel_rfl) (by kernel_rfl)
    · rcases m3 h2 with rfl | rfl | rfl <;> exact ivOk_of (by kernel_rfl) (by kernel_rfl)
  | @t k v1 v2 v3 k1 k4 h1 h2 h3 =>
    simp only [wsC, wsT, List.mem_cons, List.mem_nil_iff, or_false] at hw
    rcases hw with rfl | rfl | rfl | rfl
    · rcases (by omega : k = 1 ∨ k = 2 ∨ k = 3 ∨ k = 4) with rfl | rfl | rfl | rfl <;> exact ivOk_of (by kernel_rfl) (by kernel_rfl)
    · rcases m2 h1 with rfl | rfl <;> exact ivOk_of (by kernel_rfl) (by kernel_rfl)
    · rcases m2 h2 with rfl | rfl <;> exact ivOk_of (by kernel_rfl) (by kernel_rfl)
    · rcases m4 h3 with rfl | rfl | rfl | rfl <;> exact ivOk_of (by kernel_rfl) (by kernel_rfl)
theorem Vd.pa {c : Nat} {vs : List VI} (V : Vd c vs) : putAll (zipK (wsC c) vs) [] = zipK (wsC c) vs := by cases V <;> kernel_rfl
theorem Vd.sm {c : Nat} {vs : List VI} (V : Vd c vs) : (zipK (wsC c) vs).length < 1000 := by cases V <;> simp [zipK, wsC, wsE, wsL, wsT]
end Lw
end

section
set_option Elab.async false
set_option linter.all false
set_option maxRecDepth 100000
set_option maxHeartbeats 4000000
namespace Lw
open PySem L2 ML
/-- a book of valid values: its instance at b, its dict at d, its words at o -/
structure Bk (h : Hi) (b c : Nat) (vs : List VI) (d o : Nat) : Prop where
  at_ : BookAt h b c (zipK (wsC c) vs) d o
  ord : h[o]? = some (.lst ((wsC c).map .str))
  vd : Vd c vs
theorem Bk.fr {h h' : Hi} {b c d o : Nat} {vs : List VI} {ps : List Nat} (B : Bk h b c vs d o) (F : Fr ps h h') (n1 : b ∉ ps) (n2 : d ∉ ps) (n3 : o ∉ ps) : Bk h' b c vs d o := ⟨B.at_.fr F n1 n2, F.get B.ord n3, B.vd⟩
/-- book[word] = value -/
theorem Bk.set {h : Hi} {b c d o : Nat} {vs vs' : List VI} (B : Bk h b c vs d o) {w : S} (hw : w ∈ wsC c) {v : VI} (V' : Vd c vs') (e : putD (.str w) v (zipK (wsC c) vs) = zipK (wsC c) vs') (no : o ≠ b) :
    ∃ h' d', f_BookD_setitemD [.ref b, .str w, v] h = .ok .non h' ∧ Bk h' b c vs' d' o ∧ Fr [b] h h' ∧ h.length ≤ d' := by
  obtain ⟨h', d', e1, B1, F, l⟩ := set_g B.at_ B.vd.isC hw (v := v) B.vd.pa B.vd.sm (by rw [e]; exact V'.flat) (by rw [e]; exact V'.iv)
  rw [e] at B1
  exact ⟨h', d', e1, ⟨B1, F.get B.ord (by simpa using no), V'⟩, F, l⟩
/-- Book.__init__ -/
theorem init_g {h : Hi} {b c d : Nat} {vs : List VI} (V : Vd c vs) (hb : h[b]? = some (.ins c [])) (hd : h[d]? = some (.dic (zipK (wsC c) vs))) : ∃ h' o, f_BookD_initD [.ref b, .ref d] h = .ok .non h' ∧ Bk h' b c vs d o ∧ Fr [b] h h' ∧ h.length ≤ o := by
  have hc := V.isC
  obtain ⟨h1, e1, F1⟩ := fw_g hb rfl hc hd V.flat V.iv
  have b1 := F1.get hb (by simp)
  have d1 := F1.get hd (by simp)
  have bl := at_lt b1
  have dl := at_lt d1
  have db : d ≠ b := fun z => by
    subst z
    rw [hd] at hb
    cases hb
  have nm : getF s_first_wrong [] = none := rfl
  have nw : getF s_WORDS [(s_own, VI.ref d)] = none := rfl
  have tw := tW_eq hc
  unfold tW at tw
  have sf1 : setF s_own (.ref d) [] = [(s_own, .ref d)] := rfl
  have sf2 : setF s_order (.ref h1.length) [(s_own, .ref d)] = [(s_own, .ref d), (s_order, .ref h1.length)] := rfl
  have b0 : Nat.blt 0 1000 = true := by decide
  have b1' : Nat.blt 1 1000 = true := by decide
  have sm : small (wsC c).length = true := by rcases hc with rfl | rfl | rfl <;> rfl
  refine ⟨((h1.set b (.ins c [(s_own, .ref d)])) ++ [OI.lst ((wsC c).map .str)]).set b (.ins c [(s_own, .ref d), (s_order, .ref h1.length)]), h1.length, ?_, ⟨⟨?_, ?_⟩, ?_, V⟩, ?_, F1.len⟩
  · unfold f_BookD_initD m_BookD_initD
    have g1 : (h1.set b (.ins c [(s_own, .ref d)]))[b]? = some (.ins c [(s_own, .ref d)]) := List.getElem?_set_self bl
    have g2 : ((h1.set b (.ins c [(s_own, .ref d)])) ++ [OI.lst ((wsC c).map .str)])[b]? = some (.ins c [(s_own, .ref d)]) := at_app g1
    simp [eMeth, hb, gw hc, nm, e1, fNotN, sFldM, b1, cs_ok2 hc, b0, sf1, eCon, g1, tw, nw, cList, sm, g2, b1', sf2]
  · exact List.getElem?_set_self (by simp; omega)
  · rw [List.getElem?_set_ne (by omega)]
    exact at_app (by rw [List.getElem?_set_ne (by omega)]; exact d1)
  · rw [List.getElem?_set_ne (by omega)]
    simp
  · refine ⟨by simp; have := F1.len; omega, fun m u hn e => ?_⟩
    have mb : b ≠ m := by simpa using fun z => hn (by simp [z])
    rw [List.getElem?_set_ne mb]
    refine at_app ?_
    rw [List.getElem?_set_ne mb]
    exact F1.get e (by simp)
end Lw
end

section
set_option Elab.async false
set_option linter.all false
set_option maxRecDepth 100000
set_option maxHeartbeats 4000000
namespace ML
/-- new places alone -/
theorem Fr.made {h h' : Hi} {o : OI} (F : Fr [h.length] (h ++ [o]) h') : Fr [] h h' := ⟨by have := F.len; simp at this; omega, fun m u _ e => F.at_ m u (by simp; have := at_lt e; omega) (at_app e)⟩
@[simp] theorem x_aPairs0 {σ : Sg} {h : Hi} : aPairs [] σ h = .ok [] h := rfl
@[simp] theorem x_aPairs {k v : ME} {r : List (ME × ME)} {σ : Sg} {h : Hi} : aPairs ((k, v) :: r) σ h = (k σ h).bind fun x h1 => (v σ h1).bind fun y h2 => (aPairs r σ h2).bind fun ps h3 => .ok ((x, y) :: ps) h3 := rfl
theorem disp_g {ps : List (ME × ME)} {σ : Sg} {h : Hi} {kv : List (VI × VI)} (e : aPairs ps σ (h ++ [.dic []]) = .ok kv (h ++ [.dic []])) (k : (keysOk kv && Nat.ble kv.length 15) = true) (pa : putAll kv [] = kv) : eDisp ps σ h = .ok (.ref h.length) (h ++ [.dic kv]) := by
  have g1 : (h ++ [OI.dic []])[h.length]? = some (.dic []) := by simp
  unfold eDisp
  simp only [e, x_bind, g1, k, pa]
  simp
end ML
namespace Lw
open PySem L2 ML
def fIni (c : Nat) : MF := match c with
  | 3 => f_EpochBookD_initD
  | 4 => f_LookBookD_initD
  | _ => f_StillBookD_initD
theorem ini_g {h : Hi} {b c : Nat} {vs : List VI} (V : Vd c vs) (hb : h[b]? = some (.ins c [])) : ∃ h' d o, fIni c (.ref b :: vs) h = .ok .non h' ∧ Bk h' b c vs d o ∧ Fr [b] h h' ∧ h.length ≤ d ∧ h.length ≤ o := by
  have bl := at_lt hb
  obtain ⟨h', o, e, B, F, l⟩ := init_g (h := h ++ [.dic (zipK (wsC c) vs)]) (b := b) (d := h.length) V (at_app hb) (by simp)
  have l' : h.length ≤ o := by simp at l; omega
  refine ⟨h', h.length, o, ?_, B, ⟨by have := F.len; simp at this; omega, fun m u hn q => F.at_ m u hn (at_app q)⟩, Nat.le_refl _, l'⟩
  have pa := V.pa
  cases V with
  | e _ _ _ _ _ _ _ _ _ _ =>
    have dg := disp_g (ps := [((eC (.str s_epochs)), (eV 1)), ((eC (.str s_behind)), (eV 2)), ((eC (.str s_check)), (eV 3)), ((eC (.str s_fetch)), (eV 4)), ((eC (.str s_mark)), (eV 5)), ((eC (.str s_test)), (eV 6)), ((eC (.str s_step)), (eV 7)), ((eC (.str s_told)), (eV 8))]) (σ := [some (.ref b), some _, some _, some _, some _, some _, some _, some _, some _, none]) (h := h) (by simp; rfl) rfl pa
    have kn : knw [3] 3 = true := rfl
    show f_EpochBookD_initD _ _ = _
    unfold f_EpochBookD_initD m_EpochBookD_initD
    simp [sSuper, hb, kn, dg, e]
  | l _ _ _ =>
    have dg := disp_g (ps := [((eC (.str s_check)), (eV 1)), ((eC (.str s_look)), (eV 2)), ((eC (.str s_chain)), (eV 3))]) (σ := [some (.ref b), some _, some _, some _, none]) (h := h) (by simp; rfl) rfl pa
    have kn : knw [4] 4 = true := rfl
    show f_LookBookD_initD _ _ = _
    unfold f_LookBookD_initD m_LookBookD_initD
    simp [sSuper, hb, kn, dg, e]
  | t _ _ _ _ _ =>
    have dg := disp_g (ps := [((eC (.str s_counts)), (eV 1)), ((eC (.str s_still)), (eV 2)), ((eC (.str s_read)), (eV 3)), ((eC (.str s_sleep)), (eV 4))]) (σ := [some (.ref b), some _, some _, some _, some _, none]) (h := h) (by simp; rfl) rfl pa
    have kn : knw [5] 5 = true := rfl
    show f_StillBookD_initD _ _ = _
    unfold f_StillBookD_initD m_StillBookD_initD
    simp [sSuper, hb, kn, dg, e]
theorem mk_g {h : Hi} {c : Nat} {us ws vs : List VI} {ar : List VI → List VI → List VI} (V : Vd c vs) (har : ar (.ref h.length :: us) ws = .ref h.length :: vs) : ∃ h' d o, mkK c (fIni c) ar us ws h = .ok (.ref h.length) h' ∧ Bk h' h.length c vs d o ∧ Fr [] h h' ∧ h.length < d ∧ h.length < o := by
  obtain ⟨h', d, o, e, B, F, l1, l2⟩ := ini_g (h := h ++ [.ins c []]) (b := h.length) V (by simp)
  simp at l1 l2
  refine ⟨h', d, o, ?_, B, F.made, by omega, by omega⟩
  unfold mkK
  rw [har, e]
end Lw
end

section
set_option Elab.async false
set_option linter.all false
set_option maxRecDepth 100000
set_option maxHeartbeats 4000000
namespace Lw
open PySem L2 ML
def Wn (c : Nat) : S := match c with
  | 3 => s_epochs
  | 4 => s_looks
  | _ => s_still
/-- the law's own dict of the values so far -/
abbrev kvP (c : Nat) (ws : List S) (vs : List VI) : List (VI × VI) := (.str s_way, .str (Wn c)) :: zipK ws vs
abbrev sT : Nat → Option MF := lkT [(2, f_BookD_setitemD), (3, f_BookD_setitemD), (4, f_BookD_setitemD), (5, f_BookD_setitemD)]
theorem put_d {h : Hi} {d : Nat} {kv : List (VI × VI)} {w : S} {v : VI} (hd : h[d]? = some (.dic kv)) (sm : small (kv.length + 1) = true) : putIx (.ref d) (.str w) v h = some (h.set d (.dic (putD (.str w) v kv))) := by
  simp [putIx, hd, isKey, sm]
theorem turn_g {h : Hi} {p d : Nat} {W w : S} {kv : List (VI × VI)} {l : List VI} (P : PoolAt h p) (hd : h[d]? = some (.dic kv)) (dp : d ≠ p) (k : chOk w l kv) (fl : flatK kv = true) (fl2 : flatVs l = true) (n0 : l ≠ []) (n1 : l.length < 1000) (sm : small (kv.length + 1) = true) :
    ∃ v h', v ∈ l ∧ sAsg (eCall f__law_one (aCons (eV 0) (aCons (eCall f__law_choices (aCons (eV 3) (aCons (eV 2) aNil))) aNil))) (gIxU sT (eV 2) (eV 3)) [some (.ref p), some (.str W), some (.ref d), some (.str w)] h = .nx [some (.ref p), some (.str W), some (.ref d), some (.str w)] h' ∧
      h'[d]? = some (.dic (putD (.str w) v kv)) ∧ PoolAt h' p ∧ Fr [p, d] h h' := by
  obtain ⟨n, h1, e1, l1, g1, F1⟩ := ch_g k fl fl2 hd
  obtain ⟨a, b, pe, pk⟩ := P
  have pl := at_lt pe
  have P1 : PoolAt h1 p := ⟨a, b, F1.get pe (by simp), pk⟩
  obtain ⟨v, h2, e2, hv, P2, F2⟩ := one_g P1 g1 (by omega) n0 n1
  have d2 : h2[d]? = some (.dic kv) := F2.get (F1.get hd (by simp)) (by simpa using dp)
  refine ⟨v, h2.set d (.dic (putD (.str w) v kv)), hv, ?_, List.getElem?_set_self (at_lt d2), ?_, (F1.nil.trans (F2.weak (by simp))).trans (Fr.set.weak (by simp))⟩
  · have pi := put_d (w := w) (v := v) d2 sm
    simp [e1, e2, gIxU, insC, d2, pi]
  · obtain ⟨a, b, pe2, pk2⟩ := P2
    exact ⟨a, b, by rw [List.getElem?_set_ne dp]; exact pe2, pk2⟩
end Lw
end

section
set_option Elab.async false
set_option linter.all false
set_option maxRecDepth 100000
set_option maxHeartbeats 4000000
namespace Lw
open PySem L2 ML
structure Drw (c i : Nat) (vs : List VI) (w : S) (l : List VI) : Prop where
  at_ : (wsC c)[i]? = some w
  ch : chOk w l (kvP c ((wsC c).take i) vs)
  fk : flatK (kvP c ((wsC c).take i) vs) = true
  fl : flatVs l = true
  n0 : l ≠ []
  n1 : l.length < 1000
  sm : small ((kvP c ((wsC c).take i) vs).length + 1) = true
  go : ∀ v ∈ l, putD (.str w) v (kvP c ((wsC c).take i) vs) = kvP c ((wsC c).take (i + 1)) (vs ++ [v]) ∧ ∃ rest, Vd c (vs ++ [v] ++ rest)
theorem flK_of {c : Nat} {ws : List S} : ∀ {vs : List VI}, (∀ v ∈ vs, ML.flatV v = true) → flatK (zipK ws vs) = true := by
  induction ws with
  | nil => intro vs _; cases vs <;> rfl
  | cons w ws ih =>
    intro vs h
    cases vs with
    | nil => rfl
    | cons v vs =>
      simp only [zipK, flatK, ML.flatV, Bool.true_and]
      rw [h v (by simp), ih fun u hu => h u (by simp [hu])]
      rfl
theorem Vd.flats {c : Nat} {vs : List VI} (V : Vd c vs) : ∀ v ∈ vs, ML.flatV v = true := by
  cases V with
  | e _ _ _ _ h2 h3 h4 h5 h6 h7 =>
    intro v hv
    simp only [List.mem_cons, List.mem_nil_iff, or_false] at hv
    rcases hv with rfl | rfl | rfl | rfl | rfl | rfl | rfl | rfl
    · rfl
    · rfl
    · exact fl_of rfl h2
    · exact fl_of rfl h3
    · exact fl_of rfl h4
    · exact fl_of rfl h5
    · exact fl_of rfl h6
    · exact fl_of rfl h7
  | l h0 h1 h2 =>
    intro v hv
    simp only [List.mem_cons, List.mem_nil_iff, or_false] at hv
    rcases hv with rfl | rfl | rfl
    · exact fl_of rfl h0
    · exact fl_of rfl h1
    · exact fl_of rfl h2
  | t _ _ h1 h2 h3 =>
    intro v hv
    simp only [List.mem_cons, List.mem_nil_iff, or_false] at hv
    rcases hv with rfl | rfl | rfl | rfl
    · rfl
    · exact fl_of rfl h1
    · exact fl_of rfl h2
    · exact fl_of rfl h3
theorem bhs_fl (e : Nat) : flatVs (bhs e) = true := by
  unfold bhs
  generalize List.range e = q
  induction q with
  | nil => rfl
  | cons a q ih => simp [flatVs, ML.flatV] at ih ⊢; exact ih
theorem bhs_mem {e : Nat} {v : VI} (h : v ∈ bhs e) : ∃ b : Nat, v = .int b ∧ 1 ≤ b ∧ b ≤ e := by
  simp only [bhs, List.mem_map, List.mem_range] at h
  obtain ⟨i, hi, rfl⟩ := h
  exact ⟨i + 1, rfl, by omega, by omega⟩
theorem eps_mem {v : VI} (h : v ∈ ([VI.int 2, .int 3, .int 4, .int 5, .int 6] : List VI)) : ∃ e : Nat, v = .int e ∧ 2 ≤ e ∧ e ≤ 6 := by
  simp only [List.mem_cons, List.mem_nil_iff, or_false] at h
  rcases h with rfl | rfl | rfl | rfl | rfl
  · exact ⟨2, rfl, by omega, by omega⟩
  · exact ⟨3, rfl, by omega, by omega⟩
  · exact ⟨4, rfl, by omega, by omega⟩
  · exact ⟨5, rfl, by omega, by omega⟩
  · exact ⟨6, rfl, by omega, by omega⟩
theorem cnt_mem {v : VI} (h : v ∈ ([VI.int 1, .int 2, .int 3, .int 4] : List VI)) : ∃ e : Nat, v = .int e ∧ 1 ≤ e ∧ e ≤ 4 := by
  simp only [List.mem_cons, List.mem_nil_iff, or_false] at h
  rcases h with rfl | rfl | rfl | rfl
  · exact ⟨1, rfl, by omega, by omega⟩
  · exact ⟨2, rfl, by omega, by omega⟩
  · exact ⟨3, rfl, by omega, by omega⟩
  · exact ⟨4, rfl, by omega, by omega⟩
theorem drw_of {c i : Nat} {vs : List VI} (w : S) (l : List VI) (F : ∀ v ∈ vs, ML.flatV v = true) (hi : i < 8) (hl : vs.length = i) (at_ : (wsC c)[i]? = some w) (ch : chOk w l (kvP c ((wsC c).take i) vs)) (fl : flatVs l = true) (n0 : l ≠ []) (n1 : l.length < 1000)
    (sm : small ((kvP c ((wsC c).take i) vs).length + 1) = true) (go : ∀ v ∈ l, putD (.str w) v (kvP c ((wsC c).take i) vs) = kvP c ((wsC c).take (i + 1)) (vs ++ [v]) ∧ ∃ rest, Vd c (vs ++ [v] ++ rest)) : ∃ w l, Drw c i vs w l :=
  ⟨w, l, at_, ch, by simp only [kvP, flatK, ML.flatV, Bool.true_and]; exact flK_of (c := c) F, fl, n0, n1, sm, go⟩
theorem drw {c i : Nat} {vs rest : List VI} (V : Vd c (vs ++ rest)) (hl : vs.length = i) (hi : i < (wsC c).length) : ∃ w l, Drw c i vs w l := by
  have F : ∀ v ∈ vs, ML.flatV v = true := fun v hv => V.flats v (List.mem_append_left _ hv)
  have ht : vs = (vs ++ rest).take i := by rw [← hl]; simp
  generalize vs ++ rest = q at V ht
  cases V with
  | @e e b v2 v3 v4 v5 v6 v7 e2 e6 b1 be h2 h3 h4 h5 h6 h7 =>
    match i, hi with
    | 0, _ =>
      subst ht
      exact drw_of s_epochs (chs s_epochs) F (by omega) rfl rfl (ch_s _ _ (by simp)) rfl (by simp [chs, lkS]) (by decide) rfl fun v hv => ⟨rfl, by
        obtain ⟨e', rfl, x, y⟩ := eps_mem hv
        exact ⟨[.int (1 : Nat), v2, v3, v4, v5, v6, v7], .e x y (by omega) (by omega) h2 h3 h4 h5 h6 h7⟩⟩
    | 1, _ =>
      subst ht
      exact drw_of s_behind (bhs e) F (by omega) rfl rfl (ch_b _ _ _ (by omega)) (bhs_fl _) (by intro z; have := congrArg List.length z; simp [bhs] at this; omega) (by simp [bhs]; omega) rfl fun v hv => ⟨rfl, by
        obtain ⟨e', rfl, x, y⟩ := bhs_mem hv
        exact ⟨[v2, v3, v4, v5, v6, v7], .e e2 e6 x y h2 h3 h4 h5 h6 h7⟩⟩
    | 2, _ =>
      subst ht
      exact drw_of s_check bools F (by omega) rfl rfl (ch_s _ _ (by simp)) rfl (by simp [bools]) (by decide) rfl fun v hv => ⟨rfl, [v3, v4, v5, v6, v7], .e e2 e6 b1 be hv h3 h4 h5 h6 h7⟩
    | 3, _ =>
      subst ht
      exact drw_of s_fetch lAB F (by omega) rfl rfl (ch_s _ _ (by simp)) rfl (by simp) (by decide) rfl fun v hv => ⟨rfl, [v4, v5, v6, v7], .e e2 e6 b1 be h2 hv h4 h5 h6 h7⟩
    | 4, _ =>
      subst ht
      exact drw_of s_mark lMark F (by omega) rfl rfl (ch_s _ _ (by simp)) rfl (by simp) (by decide) rfl fun v hv => ⟨rfl, [v5, v6, v7], .e e2 e6 b1 be h2 h3 hv h5 h6 h7⟩
    | 5, _ =>
      subst ht
      exact drw_of s_test lTest F (by omega) rfl rfl (ch_s _ _ (by simp)) rfl (by simp) (by decide) rfl fun v hv => ⟨rfl, [v6, v7], .e e2 e6 b1 be h2 h3 h4 hv h6 h7⟩
    | 6, _ =>
      subst ht
      exact drw_of s_step lStep F (by omega) rfl rfl (ch_s _ _ (by simp)) rfl (by simp) (by decide) rfl fun v hv => ⟨rfl, [v7], .e e2 e6 b1 be h2 h3 h4 h5 hv h7⟩
    | 7, _ =>
      subst ht
      exact drw_of s_told bools F (by omega) rfl rfl (ch_s _ _ (by simp)) rfl (by simp [bools]) (by decide) rfl fun v hv => ⟨rfl, [], .e e2 e6 b1 be h2 h3 h4 h5 h6 hv⟩
  | @l v0 v1 v2 h0 h1 h2 =>
    match i, hi with
    | 0, _ =>
      subst ht
      exact drw_of s_check bools F (by omega) rfl rfl (ch_s _ _ (by simp)) rfl (by simp [bools]) (by decide) rfl fun v hv => ⟨rfl, [v1, v2], .l hv h1 h2⟩
    | 1, _ =>
      subst ht
      exact drw_of s_look lAB F (by omega) rfl rfl (ch_s _ _ (by simp)) rfl (by simp) (by decide) rfl fun v hv => ⟨rfl, [v2], .l h0 hv h2⟩
    | 2, _ =>
      subst ht
      exact drw_of s_chain lChain F (by omega) rfl rfl (ch_s _ _ (by simp)) rfl (by simp) (by decide) rfl fun v hv => ⟨rfl, [], .l h0 h1 hv⟩
  | @t k v1 v2 v3 k1 k4 h1 h2 h3 =>
    match i, hi with
    | 0, _ =>
      subst ht
      exact drw_of s_counts (chs s_counts) F (by omega) rfl rfl (ch_s _ _ (by simp)) rfl (show ([.int 1, .int 2, .int 3, .int 4] : List VI) ≠ [] by simp) (by decide) rfl fun v hv => ⟨rfl, by
        obtain ⟨e', rfl, x, y⟩ := cnt_mem hv
        exact ⟨[v1, v2, v3], .t x y h1 h2 h3⟩⟩
    | 1, _ =>
      subst ht
      exact drw_of s_still lStill F (by omega) rfl rfl (ch_s _ _ (by simp)) rfl (by simp) (by decide) rfl fun v hv => ⟨rfl, [v2, v3], .t k1 k4 hv h2 h3⟩
    | 2, _ =>
      subst ht
      exact drw_of s_read lAB F (by omega) rfl rfl (ch_s _ _ (by simp)) rfl (by simp) (by decide) rfl fun v hv => ⟨rfl, [v3], .t k1 k4 h1 hv h3⟩
    | 3, _ =>
      subst ht
      exact drw_of s_sleep lSleep F (by omega) rfl rfl (ch_s _ _ (by simp)) rfl (by simp) (by decide) rfl fun v hv => ⟨rfl, [], .t k1 k4 h1 h2 hv⟩
end Lw
end

section
set_option Elab.async false
set_option linter.all false
set_option maxRecDepth 100000
set_option maxHeartbeats 4000000
namespace Lw
open PySem L2 ML
theorem vd_any {c : Nat} (hc : isC c) : ∃ vs, Vd c vs := by
  rcases hc with rfl | rfl | rfl
  · exact ⟨_, .e (e := 2) (b := 1) (v2 := .bl false) (v3 := .str s_ahead) (v4 := .str s_own) (v5 := .str s_last) (v6 := .str s_add) (v7 := .bl false) (by omega) (by omega) (by omega) (by omega) (by simp [bools]) (by simp) (by simp) (by simp) (by simp) (by simp [bools])⟩
  · exact ⟨_, .l (v0 := .bl false) (v1 := .str s_ahead) (v2 := .str s_next) (by simp [bools]) (by simp) (by simp)⟩
  · exact ⟨_, .t (k := 1) (v1 := .str s_anywhere) (v2 := .str s_ahead) (v3 := .str s_inside) (by omega) (by omega) (by simp) (by simp) (by simp)⟩
theorem sw_c {c : Nat} (hc : isC c) (h : Hi) : ∃ n h', f__law_switches [.str (Wn c)] h = .ok (.ref n) h' ∧ h.length ≤ n ∧ h'[n]? = some (.lst ((wsC c).map .str)) ∧ Fr [] h h' := by
  refine sw_g (Wn c) (wsC c) ?_ h
  rcases hc with rfl | rfl | rfl <;> kernel_rfl
theorem loop_g {h : Hi} {p d s c : Nat} (hc : isC c) (P : PoolAt h p) (hd : h[d]? = some (.dic (kvP c [] []))) (dp : d ≠ p) (hs : h[s]? = some (.lst ((wsC c).map .str))) (sp : s ≠ p) (sd : s ≠ d) :
    ∃ σ' h' vs, turns (.lst s) (gNm 3) (sAsg (eCall f__law_one (aCons (eV 0) (aCons (eCall f__law_choices (aCons (eV 3) (aCons (eV 2) aNil))) aNil))) (gIxU sT (eV 2) (eV 3))) (wsC c).length 0 [some (.ref p), some (.str (Wn c)), some (.ref d), none] h = .nx σ' h' ∧
      (∃ x, σ' = [some (.ref p), some (.str (Wn c)), some (.ref d), x]) ∧ h'[d]? = some (.dic (kvP c (wsC c) vs)) ∧ Vd c vs ∧ PoolAt h' p ∧ Fr [p, d] h h' := by
  obtain ⟨σ', h', e, ⟨vs, x, rest, e1, e2, e3, e4, e5, e6⟩⟩ := turns_inv (it := .lst s) (g := gNm 3) (body := (sAsg (eCall f__law_one (aCons (eV 0) (aCons (eCall f__law_choices (aCons (eV 3) (aCons (eV 2) aNil))) aNil))) (gIxU sT (eV 2) (eV 3)))) (wsC c).length
    (fun i σ h2 => ∃ vs x rest, σ = [some (.ref p), some (.str (Wn c)), some (.ref d), x] ∧ h2[d]? = some (.dic (kvP c ((wsC c).take i) vs)) ∧ Vd c (vs ++ rest) ∧ vs.length = i ∧ PoolAt h2 p ∧ Fr [p, d] h h2)
    (fun i σ h2 hi ⟨vs, x, rest, e1, e2, V, e4, P2, F⟩ => by
      subst e1
      obtain ⟨w, l, D⟩ := drw V e4 hi
      obtain ⟨v, h3, hv, t1, t2, t3, t4⟩ := turn_g (W := Wn c) P2 e2 dp D.ch D.fk D.fl D.n0 D.n1 D.sm
      obtain ⟨g1, rest', V'⟩ := D.go v hv
      rw [g1] at t2
      have hs2 := F.get hs (by simp [sp, sd])
      have la : listAt s h2 = some ((wsC c).map .str) := by simp [listAt, hs2]
      refine ⟨.str w, [some (.ref p), some (.str (Wn c)), some (.ref d), some (.str w)], h2, _, h3, ?_, rfl, t1, ⟨vs ++ [v], some (.str w), rest', rfl, t2, V', by simp [e4], t3, F.trans t4⟩⟩
      simp [Itm.nxt, la, D.at_])
    (fun σ h2 ⟨vs, x, rest, e1, e2, V, e4, P2, F⟩ => by
      have hs2 := F.get hs (by simp [sp, sd])
      have la : listAt s h2 = some ((wsC c).map .str) := by simp [listAt, hs2]
      simp [Itm.nxt, la]) (wsC c).length 0 [some (.ref p), some (.str (Wn c)), some (.ref d), none] h (by omega) (by
        obtain ⟨vs, V⟩ := vd_any hc
        exact ⟨[], none, vs, rfl, by simpa using hd, V, rfl, P, .refl⟩)
  have : rest = [] := by
    have := e3.len
    simp only [List.length_append] at this
    exact List.length_eq_zero_iff.mp (by omega)
  subst this
  rw [List.append_nil] at e3
  rw [List.take_length] at e2
  exact ⟨σ', h', vs, e, ⟨x, e1⟩, e2, e3, e5, e6⟩
/-- the law's own dict -/
def kvO (c : Nat) (vs : List VI) (hv mv : VI) : List (VI × VI) := (kvP c (wsC c) vs) ++ [(.str s_hands, hv), (.str s_most, mv)]
def kvH (c : Nat) (vs : List VI) (hv : VI) : List (VI × VI) := (kvP c (wsC c) vs) ++ [(.str s_hands, hv)]
structure Own (h : Hi) (d c : Nat) (vs : List VI) (hv mv : VI) : Prop where
  at_ : h[d]? = some (.dic (kvO c vs hv mv))
  vd : Vd c vs
  fh : ML.flatV hv = true
  fm : ML.flatV mv = true
theorem put_h {c : Nat} {vs : List VI} (V : Vd c vs) (hv : VI) : putD (.str s_hands) hv (kvP c (wsC c) vs) = kvH c vs hv := by cases V <;> kernel_rfl
theorem put_m {c : Nat} {vs : List VI} (V : Vd c vs) (hv mv : VI) : putD (.str s_most) mv (kvH c vs hv) = kvO c vs hv mv := by cases V <;> kernel_rfl
theorem bnd3 {v : Int} (a : 0 ≤ v) (b : v < 3) : bnd v = true := by simp [bnd]; omega
theorem own_g {h : Hi} {p c : Nat} (hc : isC c) (P : PoolAt h p) : ∃ h' d vs hv mv, f__law_own [.ref p, .str (Wn c)] h = .ok (.ref d) h' ∧ Own h' d c vs hv mv ∧ PoolAt h' p ∧ Fr [p] h h' ∧ h.length ≤ d := by
  obtain ⟨a, b, pe, pk⟩ := id P
  have pl := at_lt pe
  have dg := disp_g (ps := [((eC (.str s_way)), (eV 1))]) (σ := [some (.ref p), some (.str (Wn c)), none, none]) (h := h) (kv := kvP c [] []) (by simp; rfl) rfl rfl
  obtain ⟨s, h1, e1, l1, g1, F1⟩ := sw_c hc (h ++ [.dic (kvP c [] [])])
  simp at l1
  have F0 : Fr [] h (h ++ [OI.dic (kvP c [] [])]) := .app
  have d1 : h1[h.length]? = some (.dic (kvP c [] [])) := F1.get (by simp) (by simp)
  have P1 : PoolAt h1 p := ⟨a, b, (F0.trans F1).get pe (by simp), pk⟩
  obtain ⟨σ2, h2, vs, e2, ⟨x, s2⟩, d2, V, P2, F2⟩ := loop_g hc P1 d1 (by omega) g1 (by omega) (by omega)
  subst s2
  obtain ⟨v1, h3, e3, a3, b3, P3, F3⟩ := take_g (m := 2) P2 (by omega) (by omega)
  obtain ⟨v2, h4, e4, a4, b4, P4, F4⟩ := take_g (m := 2) P3 (by omega) (by omega)
  obtain ⟨v3, h5, e5, a5, b5, P5, F5⟩ := take_g (m := 3) P4 (by omega) (by omega)
  obtain ⟨q, k, hk, hk1, hk2⟩ : ∃ (q : Bool) (k : Int), (∀ h : Hi, fEq (.str (Wn c)) (.str s_epochs) h = some (.bl q, h)) ∧ (∀ h : Hi, cInt [.bl q] h = some (.int k, h)) ∧ (bnd k = true) := by
    rcases hc with rfl | rfl | rfl
    · exact ⟨true, 1, fun h => by kernel_rfl, fun h => rfl, rfl⟩
    · exact ⟨false, 0, fun h => by kernel_rfl, fun h => rfl, rfl⟩
    · exact ⟨false, 0, fun h => by kernel_rfl, fun h => rfl, rfl⟩
  have d5 : h5[h.length]? = some (.dic (kvP c (wsC c) vs)) := F5.get (F4.get (F3.get d2 (by simp; omega)) (by simp; omega)) (by simp; omega)
  have sm1 : small ((kvP c (wsC c) vs).length + 1) = true := by cases V <;> rfl
  have p5 := put_d (w := s_hands) (v := .tup [.int (1 + v1), .int (1 + v2), .int (v3 * k)]) d5 sm1
  rw [put_h V] at p5
  have P5' : PoolAt (h5.set h.length (.dic (kvH c vs (.tup [.int (1 + v1), .int (1 + v2), .int (v3 * k)])))) p := by
    obtain ⟨a, b, q1, q2⟩ := P5
    exact ⟨a, b, by rw [List.getElem?_set_ne (by omega)]; exact q1, q2⟩
  obtain ⟨v4, h6, e6, a6, b6, P6, F6⟩ := take_g (m := 6) P5' (by omega) (by omega)
  have d6 : h6[h.length]? = some (.dic (kvH c vs (.tup [.int (1 + v1), .int (1 + v2), .int (v3 * k)]))) := F6.get (List.getElem?_set_self (at_lt d5)) (by simp; omega)
  have sm2 : small ((kvH c vs (.tup [.int (1 + v1), .int (1 + v2), .int (v3 * k)])).length + 1) = true := by cases V <;> rfl
  have p6 := put_d (w := s_most) (v := .int (1 + v4)) d6 sm2
  rw [put_m V] at p6
  refine ⟨h6.set h.length (.dic (kvO c vs (.tup [.int (1 + v1), .int (1 + v2), .int (v3 * k)]) (.int (1 + v4)))), h.length, vs, .tup [.int (1 + v1), .int (1 + v2), .int (v3 * k)], .int (1 + v4), ?_, ⟨List.getElem?_set_self (at_lt d6), V, rfl, rfl⟩, ?_, ?_, Nat.le_refl _⟩
  · have la : listAt s h1 = some ((wsC c).map .str) := by simp [listAt, g1]
    have s3 : small 3 = true := rfl
    have ic5 : insC (.ref h.length) h5 = none := by simp [insC, d5]
    have ic6 : insC (.ref h.length) h6 = none := by simp [insC, d6]
    have bv := bnd3 a5 b5
    unfold f__law_own m__law_own
    simp [dg, e1, seqOf, la, Itm.fuel, e2, eTup, e3, e4, e5, fAdd, fMul, s3, gIxU, ic5, p5, e6, ic6, p6, hk, hk1, hk2, bv]
  · obtain ⟨a, b, q1, q2⟩ := P6
    exact ⟨a, b, by rw [List.getElem?_set_ne (by omega)]; exact q1, q2⟩
  · have FA : Fr [p, h.length] h1 (h6.set h.length (.dic (kvO c vs (.tup [.int (1 + v1), .int (1 + v2), .int (v3 * k)]) (.int (1 + v4))))) :=
      F2.trans (((F3.trans (F4.trans F5)).weak (by simp)).trans ((Fr.set.weak (by simp)).trans ((F6.weak (by simp)).trans (Fr.set.weak (by simp)))))
    have FB := (F0.trans F1)
    exact ⟨Nat.le_trans FB.len FA.len, fun m o hn q => FA.get (FB.get q (by simp)) (by have := at_lt q; simp at hn ⊢; omega)⟩
end Lw
end

section
set_option Elab.async false
set_option linter.all false
set_option maxRecDepth 100000
set_option maxHeartbeats 4000000
namespace Lw
open PySem L2 ML
theorem poolAt_fr {h h' : Hi} {p : Nat} {ps : List Nat} (P : PoolAt h p) (F : Fr ps h h') (n : p ∉ ps) : PoolAt h' p := by
  obtain ⟨a, b, e, k⟩ := P
  exact ⟨a, b, F.get e n, k⟩
theorem PoolAt.lt {h : Hi} {p : Nat} (P : PoolAt h p) : p < h.length := by
  obtain ⟨a, b, e, k⟩ := P
  exact at_lt e
theorem any_g {h : Hi} {p : Nat} (P : PoolAt h p) : ∃ h' d c vs hv mv, f__law_any_own [.ref p] h = .ok (.ref d) h' ∧ isC c ∧ Own h' d c vs hv mv ∧ PoolAt h' p ∧ Fr [p] h h' ∧ h.length ≤ d := by
  have pl := P.lt
  have F0 : Fr [] h (h ++ [OI.lst [.str s_epochs, .str s_looks, .str s_still, .str s_epochs]]) := .app
  obtain ⟨v, h1, e1, a1, b1, P1, F1⟩ := take_g (m := 4) (poolAt_fr P F0 (by simp)) (by omega) (by omega)
  have l1 : h1[h.length]? = some (.lst [.str s_epochs, .str s_looks, .str s_still, .str s_epochs]) := F1.get (by simp) (by simp; omega)
  have ic : insC (.ref h.length) h1 = none := by simp [insC, l1]
  obtain ⟨c, hc, ev⟩ : ∃ c, isC c ∧ ixL [VI.str s_epochs, .str s_looks, .str s_still, .str s_epochs] v = some (.str (Wn c)) := by
    rcases (by omega : v = 0 ∨ v = 1 ∨ v = 2 ∨ v = 3) with rfl | rfl | rfl | rfl
    · exact ⟨3, .inl rfl, rfl⟩
    · exact ⟨4, .inr (.inl rfl), rfl⟩
    · exact ⟨5, .inr (.inr rfl), rfl⟩
    · exact ⟨3, .inl rfl, rfl⟩
  obtain ⟨h2, d, vs, hv, mv, e2, O, P2, F2, l2⟩ := own_g hc P1
  refine ⟨h2, d, c, vs, hv, mv, ?_, hc, O, P2, F0.nil.trans (F1.trans F2), ?_⟩
  · have s4 : small 4 = true := rfl
    unfold f__law_any_own m__law_any_own
    simp [eLst, s4, eIxU, e1, ic, fIx, l1, ev, e2]
  · have := F1.len
    simp at this
    omega
/-- what the law's dict holds -/
theorem Own.way {h : Hi} {d c : Nat} {vs : List VI} {hv mv : VI} (O : Own h d c vs hv mv) : fIx (.ref d) (.str s_way) h = some (.str (Wn c), h) := by
  have g : getD (.str s_way) (kvO c vs hv mv) = some (.str (Wn c)) := rfl
  simp [fIx, O.at_, isKey, g]
theorem Own.val {h : Hi} {d c i : Nat} {vs : List VI} {hv mv : VI} (O : Own h d c vs hv mv) {w : S} {v : VI} (hw : (wsC c)[i]? = some w) (e : vs[i]? = some v) : fIx (.ref d) (.str w) h = some (v, h) := by
  have g : getD (.str w) (kvO c vs hv mv) = some v := by
    have V := O.vd
    cases V with
    | e _ _ _ _ _ _ _ _ _ _ => match i, hw, e with
      | 0, rfl, rfl => rfl
      | 1, rfl, rfl => rfl
      | 2, rfl, rfl => rfl
      | 3, rfl, rfl => rfl
      | 4, rfl, rfl => rfl
      | 5, rfl, rfl => rfl
      | 6, rfl, rfl => rfl
      | 7, rfl, rfl => rfl
    | l _ _ _ => match i, hw, e with
      | 0, rfl, rfl => rfl
      | 1, rfl, rfl => rfl
      | 2, rfl, rfl => rfl
    | t _ _ _ _ _ => match i, hw, e with
      | 0, rfl, rfl => rfl
      | 1, rfl, rfl => rfl
      | 2, rfl, rfl => rfl
      | 3, rfl, rfl => rfl
  simp [fIx, O.at_, isKey, g]
theorem Own.ic {h : Hi} {d c : Nat} {vs : List VI} {hv mv : VI} (O : Own h d c vs hv mv) : insC (.ref d) h = none := by simp [insC, O.at_]
theorem Own.fr {h h' : Hi} {d c : Nat} {vs : List VI} {hv mv : VI} {ps : List Nat} (O : Own h d c vs hv mv) (F : Fr ps h h') (n : d ∉ ps) : Own h' d c vs hv mv := ⟨F.get O.at_ n, O.vd, O.fh, O.fm⟩
/-- a book as it is made, the first values given -/
def dvs (c : Nat) (vs : List VI) : List VI := match c, vs with
  | 3, e :: b :: _ => [e, b, .bl true, .str s_behind, .str s_fresh, .str s_equal, .str s_still, .bl true]
  | 4, _ => [.bl true, .str s_behind, .str s_none]
  | _, k :: _ => [k, .str s_outside, .str s_behind, .str s_none]
  | _, _ => []
def mix (c i : Nat) (vs : List VI) : List VI := vs.take i ++ (dvs c vs).drop i
theorem mix_ok {c i : Nat} {vs : List VI} (V : Vd c vs) (hi : i ≤ (wsC c).length) : Vd c (mix c i vs) := by
  cases V with
  | @e e b v2 v3 v4 v5 v6 v7 e2 e6 b1 be h2 h3 h4 h5 h6 h7 =>
    have t : VI.bl true ∈ bools := by simp [bools]
    have be' : VI.str s_behind ∈ lAB := by simp
    have fr : VI.str s_fresh ∈ lMark := by simp
    have eq : VI.str s_equal ∈ lTest := by simp
    have st : VI.str s_still ∈ lStep := by simp
    match i, hi with
    | 0, _ => exact .e e2 e6 b1 be t be' fr eq st t
    | 1, _ => exact .e e2 e6 b1 be t be' fr eq st t
    | 2, _ => exact .e e2 e6 b1 be t be' fr eq st t
    | 3, _ => exact .e e2 e6 b1 be h2 be' fr eq st t
    | 4, _ => exact .e e2 e6 b1 be h2 h3 fr eq st t
    | 5, _ => exact .e e2 e6 b1 be h2 h3 h4 eq st t
    | 6, _ => exact .e e2 e6 b1 be h2 h3 h4 h5 st t
    | 7, _ => exact .e e2 e6 b1 be h2 h3 h4 h5 h6 t
    | 8, _ => exact .e e2 e6 b1 be h2 h3 h4 h5 h6 h7
  | @l v0 v1 v2 h0 h1 h2 =>
    match i, hi with
    | 0, _ => exact .l (by simp [bools]) (by simp) (by simp)
    | 1, _ => exact .l h0 (by simp) (by simp)
    | 2, _ => exact .l h0 h1 (by simp)
    | 3, _ => exact .l h0 h1 h2
  | @t k v1 v2 v3 k1 k4 h1 h2 h3 =>
    match i, hi with
    | 0, _ => exact .t k1 k4 (by simp) (by simp) (by simp)
    | 1, _ => exact .t k1 k4 (by simp) (by simp) (by simp)
    | 2, _ => exact .t k1 k4 h1 (by simp) (by simp)
    | 3, _ => exact .t k1 k4 h1 h2 (by simp)
    | 4, _ => exact .t k1 k4 h1 h2 h3
theorem mix_end {c : Nat} {vs : List VI} (V : Vd c vs) : mix c (wsC c).length vs = vs := by cases V <;> rfl
theorem mix_put {c i : Nat} {vs : List VI} (V : Vd c vs) (hi : i < (wsC c).length) : ∃ w v, (wsC c)[i]? = some w ∧ vs[i]? = some v ∧ putD (.str w) v (zipK (wsC c) (mix c i vs)) = zipK (wsC c) (mix c (i + 1) vs) := by
  cases V with
  | e _ _ _ _ _ _ _ _ _ _ => match i, hi with
    | 0, _ => exact ⟨_, _, rfl, rfl, rfl⟩
    | 1, _ => exact ⟨_, _, rfl, rfl, rfl⟩
    | 2, _ => exact ⟨_, _, rfl, rfl, rfl⟩
    | 3, _ => exact ⟨_, _, rfl, rfl, rfl⟩
    | 4, _ => exact ⟨_, _, rfl, rfl, rfl⟩
    | 5, _ => exact ⟨_, _, rfl, rfl, rfl⟩
    | 6, _ => exact ⟨_, _, rfl, rfl, rfl⟩
    | 7, _ => exact ⟨_, _, rfl, rfl, rfl⟩
  | l _ _ _ => match i, hi with
    | 0, _ => exact ⟨_, _, rfl, rfl, rfl⟩
    | 1, _ => exact ⟨_, _, rfl, rfl, rfl⟩
    | 2, _ => exact ⟨_, _, rfl, rfl, rfl⟩
  | t _ _ _ _ _ => match i, hi with
    | 0, _ => exact ⟨_, _, rfl, rfl, rfl⟩
    | 1, _ => exact ⟨_, _, rfl, rfl, rfl⟩
    | 2, _ => exact ⟨_, _, rfl, rfl, rfl⟩
    | 3, _ => exact ⟨_, _, rfl, rfl, rfl⟩
end Lw
end

section
set_option Elab.async false
set_option linter.all false
set_option maxRecDepth 100000
set_option maxHeartbeats 4000000
namespace Lw
open PySem L2 ML
abbrev gT : Nat → Option MF := lkT [(2, f_BookD_getitemD), (3, f_BookD_getitemD), (4, f_BookD_getitemD), (5, f_BookD_getitemD)]
theorem Bk.ic {h : Hi} {b c d o : Nat} {vs : List VI} (B : Bk h b c vs d o) : insC (.ref b) h = some c := by simp [insC, B.at_.ins]
/-- the loop that sets all values -/
theorem bookLoop {h : Hi} {d b c dd o s : Nat} {vs : List VI} {hv mv : VI} (O : Own h d c vs hv mv) (B : Bk h b c (mix c 0 vs) dd o) (db : d ≠ b) (ob : o ≠ b) (hs : h[s]? = some (.lst ((wsC c).map .str))) (sb : s ≠ b) :
    ∃ σ' h' d', turns (.lst s) (gNm 2) (sAsg (eIxU gT (eV 0) (eV 2)) (gIxU sT (eV 1) (eV 2))) (wsC c).length 0 [some (.ref d), some (.ref b), none] h = .nx σ' h' ∧ (∃ x, σ' = [some (.ref d), some (.ref b), x]) ∧ Bk h' b c vs d' o ∧ Fr [b] h h' ∧ (d' = dd ∨ h.length ≤ d') := by
  have V := O.vd
  have hc := V.isC
  obtain ⟨σ', h', e, ⟨x, d', e1, B2, F, l⟩⟩ := turns_inv (it := .lst s) (g := gNm 2) (body := (sAsg (eIxU gT (eV 0) (eV 2)) (gIxU sT (eV 1) (eV 2)))) (wsC c).length
    (fun i σ h2 => ∃ x d', σ = [some (.ref d), some (.ref b), x] ∧ Bk h2 b c (mix c i vs) d' o ∧ Fr [b] h h2 ∧ (d' = dd ∨ h.length ≤ d'))
    (fun i σ h2 hi ⟨x, d', e1, B2, F, l⟩ => by
      subst e1
      obtain ⟨w, v, hw, hv2, pe⟩ := mix_put V hi
      have O2 := O.fr F (by simpa using db)
      obtain ⟨h3, d3, e3, B3, F3, l3⟩ := B2.set (List.mem_of_getElem? hw) (mix_ok V (Nat.succ_le_of_lt hi)) pe ob
      have hs2 := F.get hs (by simpa using sb)
      have la : listAt s h2 = some ((wsC c).map .str) := by simp [listAt, hs2]
      have ic := B2.ic
      have ov := O2.val hw hv2
      have oi := O2.ic
      have gs := gw hc f_BookD_setitemD
      refine ⟨.str w, [some (.ref d), some (.ref b), some (.str w)], h2, [some (.ref d), some (.ref b), some (.str w)], h3, ?_, rfl, ?_, ⟨_, d3, rfl, B3, F.trans F3, .inr (Nat.le_trans F.len l3)⟩⟩
      · simp [Itm.nxt, la, hw]
      · simp [eIxU, oi, ov, gIxU, ic, gs, e3])
    (fun σ h2 ⟨x, d', e1, B2, F, l⟩ => by
      have hs2 := F.get hs (by simpa using sb)
      have la : listAt s h2 = some ((wsC c).map .str) := by simp [listAt, hs2]
      simp [Itm.nxt, la]) (wsC c).length 0 [some (.ref d), some (.ref b), none] h (by omega) ⟨none, dd, rfl, B, .refl, .inl rfl⟩
  rw [mix_end V] at B2
  exact ⟨σ', h', d', e, ⟨x, e1⟩, B2, F, l⟩
theorem wayE {c : Nat} (hc : isC c) : (∀ h : Hi, fEq (.str (Wn c)) (.str s_epochs) h = some (.bl (decide (c = 3)), h)) ∧ (∀ h : Hi, fEq (.str (Wn c)) (.str s_looks) h = some (.bl (decide (c = 4)), h)) := by
  rcases hc with rfl | rfl | rfl
  · exact ⟨fun h => by kernel_rfl, fun h => by kernel_rfl⟩
  · exact ⟨fun h => by kernel_rfl, fun h => by kernel_rfl⟩
  · exact ⟨fun h => by kernel_rfl, fun h => by kernel_rfl⟩
theorem book_g {h : Hi} {d c : Nat} {vs : List VI} {hv mv : VI} (O : Own h d c vs hv mv) : ∃ h' b d' o, f__law_book [.ref d] h = .ok (.ref b) h' ∧ Bk h' b c vs d' o ∧ Fr [] h h' ∧ h.length ≤ b ∧ h.length ≤ d' ∧ h.length ≤ o ∧ d' ≠ b ∧ o ≠ b := by
  have V := O.vd
  have hc := V.isC
  have ol := at_lt O.at_
  -- the tail, whatever made the book
  have tail : ∀ h1 dd o, Bk h1 h.length c (mix c 0 vs) dd o → Fr [] h h1 → h.length < dd → h.length < o →
      ∃ h' d', (sSeq (sFor (iSeq (eCall f__law_switches (aCons (eIxU gT (eV 0) (eC (.str s_way))) aNil))) (gNm 2) (sAsg (eIxU gT (eV 0) (eV 2)) (gIxU sT (eV 1) (eV 2)))) (sSeq (sRet (eV 1)) sNx)) [some (.ref d), some (.ref h.length), none] h1 = .rt (.ref h.length) h' ∧ Bk h' h.length c vs d' o ∧ Fr [] h h' ∧ h.length < d' := by
    intro h1 dd o B F l1 l2
    have O1 := O.fr F (by simp)
    obtain ⟨s, h2, e2, ls, g2, F2⟩ := sw_c hc h1
    have O2 := O1.fr F2 (by simp)
    have B2 := B.fr F2 (by simp) (by simp) (by simp)
    have bl := at_lt B.at_.ins
    obtain ⟨σ3, h3, d3, e3, ⟨x, es⟩, B3, F3, l3⟩ := bookLoop O2 B2 (by omega) (by omega) g2 (by omega)
    subst es
    have hw := O1.way
    have oi := O1.ic
    have la : listAt s h2 = some ((wsC c).map .str) := by simp [listAt, g2]
    refine ⟨h3, d3, ?_, B3, ⟨Nat.le_trans (F.trans F2).len F3.len, fun m u hn q => F3.get ((F.trans F2).get q (by simp)) (by simp; have := at_lt q; omega)⟩, ?_⟩
    · simp [eIxU, oi, hw, e2, seqOf, la, Itm.fuel, e3]
    · rcases l3 with rfl | l3
      · exact l1
      · have := F2.len; omega
  obtain ⟨w1, w2⟩ := wayE hc
  have hw := O.way
  have oi := O.ic
  have V0 : Vd c (mix c 0 vs) := mix_ok V (Nat.zero_le _)
  unfold f__law_book m__law_book
  cases V with
  | @e e b v2 v3 v4 v5 v6 v7 _ _ _ _ _ _ _ _ _ _ =>
    obtain ⟨h1, dd, o, e1, B, F, l1, l2⟩ := mk_g (h := h) (us := [.int e, .int b]) (ws := []) (ar := ar_bd_EpochBookD_initD_3_) V0 rfl
    obtain ⟨h2, d2, e2, B2, F2, l3⟩ := tail h1 dd o B F l1 l2
    have x0 := O.val (i := 0) (w := s_epochs) rfl rfl
    have x1 := O.val (i := 1) (w := s_behind) rfl rfl
    have e1' : mkK 3 f_EpochBookD_initD ar_bd_EpochBookD_initD_3_ [.int e, .int b] [] h = .ok (.ref h.length) h1 := e1
    refine ⟨h2, h.length, d2, o, ?_, B2, F2, Nat.le_refl _, by omega, by omega, by omega, by omega⟩
    have nb1 : Nat.beq 2 2 = true := rfl
    have nb0 : Nat.beq 0 0 = true := rfl
    rw [x_run1, x_sSeq, x_sIf]
    simp only [x_tOf, x_eBin, eIxU, x_eV, x_eC, x_rep2, List.getElem?_cons_zero, x_bind, oi, hw, x_ofO, w1, x_bindS, decide_true]
    simp only [x_sAsg, eCallK, x_aCons, eIxU, x_eV, x_eC, List.getElem?_cons_zero, x_bind, oi, x0, x1, x_ofO, x_aNil, List.length_cons, List.length_nil, nb1, nb0, Bool.and_self, e1', x_bindS, x_gNm, x_nx]
    simp only [show ([some (VI.ref d), none, none] : Sg).set 1 (some (.ref h.length)) = [some (VI.ref d), some (.ref h.length), none] from rfl]
    rw [e2]
    rfl
  | @l v0 v1 v2 _ _ _ =>
    obtain ⟨h1, dd, o, e1, B, F, l1, l2⟩ := mk_g (h := h) (us := []) (ws := []) (ar := ar_bd_LookBookD_initD_1_) V0 rfl
    obtain ⟨h2, d2, e2, B2, F2, l3⟩ := tail h1 dd o B F l1 l2
    have e1' : mkK 4 f_LookBookD_initD ar_bd_LookBookD_initD_1_ [] [] h = .ok (.ref h.length) h1 := e1
    refine ⟨h2, h.length, d2, o, ?_, B2, F2, Nat.le_refl _, by omega, by omega, by omega, by omega⟩
    have nb0 : Nat.beq 0 0 = true := rfl
    rw [x_run1, x_sSeq, x_sIf]
    simp only [x_tOf, x_eBin, eIxU, x_eV, x_eC, x_rep2, List.getElem?_cons_zero, x_bind, oi, hw, x_ofO, w1, x_bindS, show decide (4 = 3) = false from rfl]
    simp only [x_sAsg, x_eIf, x_tOf, x_eBin, eIxU, x_eV, x_eC, List.getElem?_cons_zero, x_bind, oi, hw, x_ofO, w2, decide_true, eCallK, x_aNil, List.length_nil, nb0, Bool.and_self, e1', x_bindS, x_gNm, x_nx]
    simp only [show ([some (VI.ref d), none, none] : Sg).set 1 (some (.ref h.length)) = [some (VI.ref d), some (.ref h.length), none] from rfl]
    rw [e2]
    rfl
  | @t k v1 v2 v3 _ _ _ _ _ =>
    obtain ⟨h1, dd, o, e1, B, F, l1, l2⟩ := mk_g (h := h) (us := [.int k]) (ws := []) (ar := ar_bd_StillBookD_initD_2_) V0 rfl
    obtain ⟨h2, d2, e2, B2, F2, l3⟩ := tail h1 dd o B F l1 l2
    have x0 := O.val (i := 0) (w := s_counts) rfl rfl
    have e1' : mkK 5 f_StillBookD_initD ar_bd_StillBookD_initD_2_ [.int k] [] h = .ok (.ref h.length) h1 := e1
    refine ⟨h2, h.length, d2, o, ?_, B2, F2, Nat.le_refl _, by omega, by omega, by omega, by omega⟩
    have nb0 : Nat.beq 0 0 = true := rfl
    have nb1 : Nat.beq 1 1 = true := rfl
    rw [x_run1, x_sSeq, x_sIf]
    simp only [x_tOf, x_eBin, eIxU, x_eV, x_eC, x_rep2, List.getElem?_cons_zero, x_bind, oi, hw, x_ofO, w1, x_bindS, show decide (5 = 3) = false from rfl]
    simp only [x_sAsg, x_eIf, x_tOf, x_eBin, eIxU, x_eV, x_eC, List.getElem?_cons_zero, x_bind, oi, hw, x_ofO, w2, show decide (5 = 4) = false from rfl, eCallK, x_aCons, x0, x_aNil, List.length_cons, List.length_nil, nb0, nb1, Bool.and_self, e1', x_bindS, x_gNm, x_nx]
    simp only [show ([some (VI.ref d), none, none] : Sg).set 1 (some (.ref h.length)) = [some (VI.ref d), some (.ref h.length), none] from rfl]
    rw [e2]
    rfl
end Lw
end

section
set_option Elab.async false
set_option linter.all false
set_option maxRecDepth 100000
set_option maxHeartbeats 400000
/-! What is not changed in the small heap stays in the great one. -/
namespace ML
open PySem L2
section
variable {r : List Nat}
mutual
theorem RV2.fn : ∀ {v x y : VI}, RV2 r v x → RV2 r v y → y = x
  | _, _, _, .non, .non => rfl
  | _, _, _, .bl _, .bl _ => rfl
  | _, _, _, .int _, .int _ => rfl
  | _, _, _, .str _, .str _ => rfl
  | _, _, _, .glo _, .glo _ => rfl
  | _, _, _, .ref e, .ref e' => by rw [e] at e'; cases e'; rfl
  | _, _, _, .tup t, .tup t' => by rw [RVs2.fn t t']
theorem RVs2.fn : ∀ {v x y : List VI}, RVs2 r v x → RVs2 r v y → y = x
  | _, _, _, .nil, .nil => rfl
  | _, _, _, .cons a t, .cons a' t' => by rw [RV2.fn a a', RVs2.fn t t']
end
theorem RFs2.fn : ∀ {v x y : List (S × VI)}, RFs2 r v x → RFs2 r v y → y = x
  | _, _, _, .nil, .nil => rfl
  | _, _, _, .cons a t, .cons a' t' => by rw [RV2.fn a a', RFs2.fn t t']
theorem RKs2.fn : ∀ {v x y : List (VI × VI)}, RKs2 r v x → RKs2 r v y → y = x
  | _, _, _, .nil, .nil => rfl
  | _, _, _, .cons k a t, .cons k' a' t' => by rw [RV2.fn k k', RV2.fn a a', RKs2.fn t t']
theorem RO2.fn {o x y : OI} (a : RO2 r o x) (b : RO2 r o y) : y = x := by
  cases a with
  | lst t => cases b with | lst t' => rw [t.fn t']
  | scr t => cases b with | scr t' => rw [t.fn t']
  | dic t => cases b with | dic t' => rw [t.fn t']
  | ins t => cases b with | ins t' => rw [t.fn t']
  | xd t => cases b with | xd t' => rw [t.fn t']
end
theorem lift_fr2 {f : MF} [x : LF f] {r : List Nat} {s h s' : Hi} {vs vs' : List VI} {v : VI} (chg : List Nat) (e : f vs s = .ok v s') (g : Ag2 r s h) (t : RVs2 r vs vs')
    (hc : ∀ (i : Nat) (o : OI), i ∉ chg → s[i]? = some o → s'[i]? = some o) :
    ∃ r' h' v', f vs' h = .ok v' h' ∧ Ex2 r h r' h' ∧ Ag2 r' s' h' ∧ RV2 r' v v' ∧ Fr (chg.filterMap (r[·]?)) h h' := by
  obtain ⟨r', h', v', e1, e2, e3, e4⟩ := lift x e g t
  refine ⟨r', h', v', e1, e2, e3, e4, e2.len, fun m o hn hm => ?_⟩
  by_cases hr : m ∈ r
  · obtain ⟨i, hi⟩ := List.mem_iff_getElem?.mp hr
    have hi' : i ∉ chg := fun z => hn (List.mem_filterMap.mpr ⟨i, z, hi⟩)
    obtain ⟨u, u', k1, k2, k3⟩ := g.no hi
    rw [hm] at k2
    cases k2
    obtain ⟨w', z1, z2⟩ := e3.at_ (hc i u hi' k1) (e2.pre hi)
    rw [z1, (k3.mono e2).fn z2]
  · rw [e2.rest m hr (List.getElem?_eq_some_iff.mp hm).1]
    exact hm
end ML
end

section
set_option Elab.async false
set_option linter.all false
set_option maxRecDepth 100000
set_option maxHeartbeats 4000000
namespace Lw
open PySem L2 ML
/-- a value read off the book's own dict -/
theorem Bk.val {h : Hi} {b c d o i : Nat} {vs : List VI} (B : Bk h b c vs d o) {w : S} {v : VI} (hw : (wsC c)[i]? = some w) (e : vs[i]? = some v) : getD (.str w) (zipK (wsC c) vs) = some v := by
  have V := B.vd
  cases V with
  | e _ _ _ _ _ _ _ _ _ _ => match i, hw, e with
    | 0, rfl, rfl => rfl
    | 1, rfl, rfl => rfl
    | 2, rfl, rfl => rfl
    | 3, rfl, rfl => rfl
    | 4, rfl, rfl => rfl
    | 5, rfl, rfl => rfl
    | 6, rfl, rfl => rfl
    | 7, rfl, rfl => rfl
  | l _ _ _ => match i, hw, e with
    | 0, rfl, rfl => rfl
    | 1, rfl, rfl => rfl
    | 2, rfl, rfl => rfl
  | t _ _ _ _ _ => match i, hw, e with
    | 0, rfl, rfl => rfl
    | 1, rfl, rfl => rfl
    | 2, rfl, rfl => rfl
    | 3, rfl, rfl => rfl
/-- self.own -/
theorem Bk.own {h : Hi} {b c d o : Nat} {vs : List VI} (B : Bk h b c vs d o) {σ : Sg} {i : Nat} (e : σ[i]? = some (some (.ref b))) : eFld [2, 3, 4, 5] s_own (eV i) σ h = .ok (.ref d) h := by
  have hb := B.at_.ins
  have hc := cs_ok2 B.vd.isC
  unfold eFld
  simp [e, hb, hc, fOwn]
theorem Bk.dic {h : Hi} {b c d o i : Nat} {vs : List VI} (B : Bk h b c vs d o) {w : S} {v : VI} (hw : (wsC c)[i]? = some w) (e : vs[i]? = some v) : fIx (.ref d) (.str w) h = some (v, h) ∧ insC (.ref d) h = none := by
  have g := B.val hw e
  have hd := B.at_.dic
  exact ⟨by simp [fIx, hd, isKey, g], by simp [insC, hd]⟩

/-- a book and the law's dict alone -/
def sTold (c : Nat) (vs : List VI) (hv mv : VI) : Hi := [.ins c [(s_own, .ref 1), (s_order, .ref 2)], .dic (zipK (wsC c) vs), .lst ((wsC c).map .str), .dic (kvO c vs hv mv)]
def spK (v : VI) : Prop := v = .non ∨ v = .int 1 ∨ v = .int 2
def SpOk (c : Nat) (vs : List VI) (hv mv : VI) : Prop := ∃ v, spK v ∧ f_span [.ref 0] (sTold c vs hv mv) = .ok v (sTold c vs hv mv) ∧ f__law_span [.ref 3] (sTold c vs hv mv) = .ok v (sTold c vs hv mv)
theorem sp0 {c : Nat} {vs : List VI} {hv mv : VI} (a : f_span [.ref 0] (sTold c vs hv mv) = .ok .non (sTold c vs hv mv)) (b : f__law_span [.ref 3] (sTold c vs hv mv) = .ok .non (sTold c vs hv mv)) : SpOk c vs hv mv := ⟨_, .inl rfl, a, b⟩
theorem sp1 {c : Nat} {vs : List VI} {hv mv : VI} (a : f_span [.ref 0] (sTold c vs hv mv) = .ok (.int 1) (sTold c vs hv mv)) (b : f__law_span [.ref 3] (sTold c vs hv mv) = .ok (.int 1) (sTold c vs hv mv)) : SpOk c vs hv mv := ⟨_, .inr (.inl rfl), a, b⟩
theorem sp2 {c : Nat} {vs : List VI} {hv mv : VI} (a : f_span [.ref 0] (sTold c vs hv mv) = .ok (.int 2) (sTold c vs hv mv)) (b : f__law_span [.ref 3] (sTold c vs hv mv) = .ok (.int 2) (sTold c vs hv mv)) : SpOk c vs hv mv := ⟨_, .inr (.inr rfl), a, b⟩
theorem spOk {c : Nat} {vs : List VI} (V : Vd c vs) (hv mv : VI) : SpOk c vs hv mv := by
  cases V with
  | @e e b v2 v3 v4 v5 v6 v7 e2 e6 b1 be h2 h3 h4 h5 h6 h7 =>
    rcases m2 h7 with rfl | rfl
    · exact sp0 (by kernel_rfl) (by kernel_rfl)
    · rcases m3 h6 with rfl | rfl | rfl
      · exact sp0 (by kernel_rfl) (by kernel_rfl)
      all_goals
        rcases m2 h2 with rfl | rfl
        · rcases m2 h5 with rfl | rfl
          · exact sp0 (by kernel_rfl) (by kernel_rfl)
          · exact sp2 (by kernel_rfl) (by kernel_rfl)
        · exact sp1 (by kernel_rfl) (by kernel_rfl)
  | l _ _ _ => exact sp0 (by kernel_rfl) (by kernel_rfl)
  | t _ _ _ _ _ => exact sp0 (by kernel_rfl) (by kernel_rfl)
theorem flO {c : Nat} {vs : List VI} {hv mv : VI} (V : Vd c vs) (fh : ML.flatV hv = true) (fm : ML.flatV mv = true) : flatK (kvO c vs hv mv) = true := by
  have f := V.flat
  have ap : ∀ (a b : List (VI × VI)), flatK (a ++ b) = (flatK a && flatK b) := fun a b => by
    induction a with
    | nil => rfl
    | cons x a ih =>
      obtain ⟨k, v⟩ := x
      simp only [List.cons_append, flatK, ih, Bool.and_assoc]
  unfold kvO kvP
  rw [ap]
  simp [flatK, ML.flatV, f, fh, fm]
theorem told_ag {h : Hi} {b c d o l : Nat} {vs : List VI} {hv mv : VI} (B : Bk h b c vs d o) (O : Own h l c vs hv mv) (db : d ≠ b) (ob : o ≠ b) (dl : d ≠ l) : Ag2 [b, d, o, l] (sTold c vs hv mv) h := by
  have V := B.vd
  have hb := B.at_.ins
  have hd := B.at_.dic
  have ho := B.ord
  have hl := O.at_
  have bl : b ≠ l := fun z => by subst z; rw [hb] at hl; cases hl
  have do' : d ≠ o := fun z => by subst z; rw [hd] at ho; cases ho
  have ol : o ≠ l := fun z => by subst z; rw [ho] at hl; cases hl
  have fw : flatVs ((wsC c).map VI.str) = true := by
    generalize wsC c = q
    induction q with
    | nil => rfl
    | cons a q ih => simpa [flatVs, ML.flatV] using ih
  exact Ag2.of (by simp; exact ⟨⟨fun z => db z.symm, fun z => ob z.symm, bl⟩, ⟨do', dl⟩, ol⟩) rfl (fun n u q => by
      match n with
      | 0 => cases q; exact ⟨b, _, rfl, hb, .ins (.cons (.ref rfl) (.cons (.ref rfl) .nil))⟩
      | 1 => cases q; exact ⟨d, _, rfl, hd, .self _ V.flat⟩
      | 2 => cases q; exact ⟨o, _, rfl, ho, .self _ fw⟩
      | 3 => cases q; exact ⟨l, _, rfl, hl, .self _ (flO O.vd O.fh O.fm)⟩
      | n + 4 => simp [sTold] at q)
theorem span_g {h : Hi} {b c d o l : Nat} {vs : List VI} {hv mv : VI} (B : Bk h b c vs d o) (O : Own h l c vs hv mv) (db : d ≠ b) (ob : o ≠ b) (dl : d ≠ l) : ∃ v h1, spK v ∧ f_span [.ref b] h = .ok v h1 ∧ Fr [] h h1 ∧ (∀ h2 : Hi, Bk h2 b c vs d o → Own h2 l c vs hv mv → ∃ h3, f__law_span [.ref l] h2 = .ok v h3 ∧ Fr [] h2 h3) := by
  obtain ⟨v, kv, e1, e2⟩ := spOk B.vd hv mv
  have nr : ∀ {r : List Nat} {v' : VI}, RV2 r v v' → v' = v := fun q => by
    rcases kv with rfl | rfl | rfl <;> cases q <;> rfl
  obtain ⟨r', h', v', f1, f2, f3, f4, f5⟩ := lift_fr2 (r := [b, d, o, l]) (vs' := [.ref b]) [] e1 (told_ag B O db ob dl) (.cons (.ref rfl) .nil) (fun i u _ q => q)
  cases nr f4
  refine ⟨v, h', kv, f1, f5, fun h2 B2 O2 => ?_⟩
  obtain ⟨r', h', v', f1, f2, f3, f4, f5⟩ := lift_fr2 (r := [b, d, o, l]) (vs' := [.ref l]) [] e2 (told_ag B2 O2 db ob dl) (.cons (.ref rfl) .nil) (fun i u _ q => q)
  cases nr f4
  exact ⟨h', f1, f5⟩
end Lw
end

section
set_option Elab.async false
set_option linter.all false
set_option maxRecDepth 100000
set_option maxHeartbeats 400000
/-! Comprehensions whose test may lay new objects. -/
namespace ML
open PySem L2
theorem turnsC_fr {it : Itm} {t : Tgt} {vs : List Nat} {tt : MT} {el : ME} {σ : Sg} {xs : List VI} {D : Nat} {τ : VI → Sg} {p : VI → Bool} {f : VI → VI} (I : Hi → Prop)
    (st : ∀ h2 h3, I h2 → Fr [D] h2 h3 → I h3) (hn : ∀ i h2, I h2 → it.nxt i h2 = some xs[i]?) (hput : ∀ x ∈ xs, t.put x (wipeM σ vs) = some (τ x))
    (htt : ∀ x ∈ xs, ∀ h2, I h2 → ∃ h3, tt (τ x) h2 = .ok (p x) h3 ∧ Fr [] h2 h3) (hel : ∀ x ∈ xs, ∀ h2, I h2 → el (τ x) h2 = .ok (f x) h2) (sm : xs.length ≤ 100000) : ∀ k i h acc, i + k = xs.length → acc.length ≤ i → h[D]? = some (.lst acc) → I h →
    ∃ h', turnsC it t vs tt el D σ k i h = some h' ∧ h'[D]? = some (.lst (acc ++ ((xs.drop i).filter p).map f)) ∧ Fr [D] h h' ∧ I h'
  | 0, i, h, acc, e, _, hD, hI => by
    have : xs.length ≤ i := by omega
    refine ⟨h, ?_, ?_, .refl, hI⟩
    · unfold turnsC
      rw [hn i h hI, List.getElem?_eq_none_iff.mpr this]
    · rw [List.drop_of_length_le this]
      simpa using hD
  | k + 1, i, h, acc, e, ha, hD, hI => by
    have hi : i < xs.length := by omega
    have hm := List.getElem_mem hi
    have hd : xs.drop i = xs[i] :: xs.drop (i + 1) := List.drop_eq_getElem_cons hi
    obtain ⟨h3, e3, F3⟩ := htt _ hm h hI
    have D3 := F3.at_ D _ (by simp) hD
    have I3 := st h h3 hI (F3.weak (by simp))
    unfold turnsC
    rw [hn i h hI, List.getElem?_eq_getElem hi]
    dsimp only
    rw [hput _ hm]
    dsimp only
    rw [e3]
    cases q : p xs[i] with
    | false =>
      obtain ⟨h', a, b, c, d⟩ := turnsC_fr I st hn hput htt hel sm k (i + 1) h3 acc (by omega) (by omega) D3 I3
      refine ⟨h', a, ?_, (F3.weak (by simp)).trans c, d⟩
      rw [hd, List.filter_cons_of_neg (by simp [q])]
      exact b
    | true =>
      dsimp only
      rw [hel _ hm h3 I3]
      have e2 : small (acc.length + 1) = true := by simp [small]; omega
      have dl : D < h3.length := (List.getElem?_eq_some_iff.mp D3).1
      have FS : Fr [D] h3 (h3.set D (.lst (acc ++ [f xs[i]]))) := ⟨by simp, fun m u hn e => by
        rw [List.getElem?_set_ne (by simpa using fun z => hn (by simp [z]))]; exact e⟩
      obtain ⟨h', a, b, c, d⟩ := turnsC_fr I st hn hput htt hel sm k (i + 1) (h3.set D (.lst (acc ++ [f xs[i]]))) (acc ++ [f xs[i]]) (by omega) (by simp; omega) (List.getElem?_set_self dl) (st _ _ I3 FS)
      refine ⟨h', ?_, ?_, (F3.weak (by simp)).trans (FS.trans c), d⟩
      · dsimp only
        rw [D3]
        dsimp only
        rw [e2]
        exact a
      · rw [hd, List.filter_cons_of_pos (by simp [q])]
        rw [b]
        simp
theorem lc_fr {mi : MI} {it : Itm} {t : Tgt} {vs : List Nat} {tt : MT} {el : ME} {σ : Sg} {xs : List VI} {h h1 : Hi} (I : Hi → Prop) (τ : VI → Sg) (p : VI → Bool) (f : VI → VI) (hmi : mi σ h = .ok it h1) (hfu : it.fuel h1 = xs.length)
    (st : ∀ h2 h3, I h2 → Fr [h1.length] h2 h3 → I h3) (I0 : I (h1 ++ [.lst []])) (hn : ∀ i h2, I h2 → it.nxt i h2 = some xs[i]?) (hput : ∀ x ∈ xs, t.put x (wipeM σ vs) = some (τ x))
    (htt : ∀ x ∈ xs, ∀ h2, I h2 → ∃ h3, tt (τ x) h2 = .ok (p x) h3 ∧ Fr [] h2 h3) (hel : ∀ x ∈ xs, ∀ h2, I h2 → el (τ x) h2 = .ok (f x) h2) (sm : xs.length ≤ 100000) :
    ∃ h', eLc mi t vs tt el σ h = .ok (.ref h1.length) h' ∧ h'[h1.length]? = some (.lst ((xs.filter p).map f)) ∧ I h' ∧ Fr [] h1 h' := by
  obtain ⟨h', a, b, c, d⟩ := turnsC_fr (D := h1.length) I st hn hput htt hel sm xs.length 0 (h1 ++ [.lst []]) [] (by omega) (by simp) (by simp) I0
  refine ⟨h', ?_, ?_, d, ?_⟩
  · unfold eLc
    rw [hmi]
    show (match turnsC it t vs tt el h1.length σ (it.fuel h1) 0 (h1 ++ [.lst []]) with | some h2 => Res.ok (VI.ref h1.length) h2 | none => .err) = _
    rw [hfu, a]
  · simpa using b
  · have := c.len
    simp at this
    exact ⟨by omega, fun m o _ e => c.at_ m o (by have := (List.getElem?_eq_some_iff.mp e).1; simp; omega) (by rw [List.getElem?_append_left (List.getElem?_eq_some_iff.mp e).1]; exact e)⟩
theorem nxt_tup (xs : List VI) (i : Nat) (h : Hi) : (Itm.tup xs).nxt i h = some xs[i]? := rfl
theorem nxt_lst {n : Nat} {xs : List VI} {h : Hi} (e : h[n]? = some (.lst xs)) (i : Nat) : (Itm.lst n).nxt i h = some xs[i]? := by simp [Itm.nxt, listAt, e]
theorem fuel_lst {n : Nat} {xs : List VI} {h : Hi} (e : h[n]? = some (.lst xs)) : (Itm.lst n).fuel h = xs.length := by simp [Itm.fuel, listAt, e]
theorem seq_lst {n : Nat} {xs : List VI} {h : Hi} (e : h[n]? = some (.lst xs)) : seqOf (.ref n) h = some (.lst n) := by simp [seqOf, listAt, e]
theorem iSeq_l {e : ME} {σ : Sg} {h h1 : Hi} {n : Nat} {xs : List VI} (q : e σ h = .ok (.ref n) h1) (k : h1[n]? = some (.lst xs)) : iSeq e σ h = .ok (.lst n) h1 := by
  show (e σ h).bind _ = _
  rw [q]
  show ofI (seqOf (.ref n) h1) h1 = _
  rw [seq_lst k]; rfl
end ML
end

section
set_option Elab.async false
set_option linter.all false
set_option maxRecDepth 100000
set_option maxHeartbeats 4000000
namespace Lw
open PySem L2 ML
/-- the choices at word i behind the values vs -/
def chl (c i : Nat) (vs : List VI) : List VI := match c, i with
  | 3, 0 => chs s_epochs
  | 3, 1 => match vs with
    | .int e :: _ => bhs e.toNat
    | _ => []
  | 3, 2 => bools
  | 3, 3 => lAB
  | 3, 4 => lMark
  | 3, 5 => lTest
  | 3, 6 => lStep
  | 3, 7 => bools
  | 4, 0 => bools
  | 4, 1 => lAB
  | 4, 2 => lChain
  | 5, 0 => chs s_counts
  | 5, 1 => lStill
  | 5, 2 => lAB
  | 5, 3 => lSleep
  | _, _ => []
theorem drwl_of {c i : Nat} {vs : List VI} (w : S) (l : List VI) (hl2 : chl c i vs = l) (F : ∀ v ∈ vs, ML.flatV v = true) (hi : i < 8) (hl : vs.length = i) (at_ : (wsC c)[i]? = some w) (ch : chOk w l (kvP c ((wsC c).take i) vs)) (fl : flatVs l = true) (n0 : l ≠ []) (n1 : l.length < 1000)
    (sm : small ((kvP c ((wsC c).take i) vs).length + 1) = true) (go : ∀ v ∈ l, putD (.str w) v (kvP c ((wsC c).take i) vs) = kvP c ((wsC c).take (i + 1)) (vs ++ [v]) ∧ ∃ rest, Vd c (vs ++ [v] ++ rest)) : ∃ w, Drw c i vs w (chl c i vs) :=
  ⟨w, by rw [hl2]; exact ⟨at_, ch, by simp only [kvP, flatK, ML.flatV, Bool.true_and]; exact flK_of (c := c) F, fl, n0, n1, sm, go⟩⟩
theorem drwl {c i : Nat} {vs rest : List VI} (V : Vd c (vs ++ rest)) (hl : vs.length = i) (hi : i < (wsC c).length) : ∃ w, Drw c i vs w (chl c i vs) := by
  have F : ∀ v ∈ vs, ML.flatV v = true := fun v hv => V.flats v (List.mem_append_left _ hv)
  have ht : vs = (vs ++ rest).take i := by rw [← hl]; simp
  generalize vs ++ rest = q at V ht
  cases V with
  | @e e b v2 v3 v4 v5 v6 v7 e2 e6 b1 be h2 h3 h4 h5 h6 h7 =>
    match i, hi with
    | 0, _ =>
      subst ht
      exact drwl_of s_epochs (chs s_epochs) rfl F (by omega) rfl rfl (ch_s _ _ (by simp)) rfl (by simp [chs, lkS]) (by decide) rfl fun v hv => ⟨rfl, by
        obtain ⟨e', rfl, x, y⟩ := eps_mem hv
        exact ⟨[.int (1 : Nat), v2, v3, v4, v5, v6, v7], .e x y (by omega) (by omega) h2 h3 h4 h5 h6 h7⟩⟩
    | 1, _ =>
      subst ht
      exact drwl_of s_behind (bhs e) rfl F (by omega) rfl rfl (ch_b _ _ _ (by omega)) (bhs_fl _) (by intro z; have := congrArg List.length z; simp [bhs] at this; omega) (by simp [bhs]; omega) rfl fun v hv => ⟨rfl, by
        obtain ⟨e', rfl, x, y⟩ := bhs_mem hv
        exact ⟨[v2, v3, v4, v5, v6, v7], .e e2 e6 x y h2 h3 h4 h5 h6 h7⟩⟩
    | 2, _ =>
      subst ht
      exact drwl_of s_check bools rfl F (by omega) rfl rfl (ch_s _ _ (by simp)) rfl (by simp [bools]) (by decide) rfl fun v hv => ⟨rfl, [v3, v4, v5, v6, v7], .e e2 e6 b1 be hv h3 h4 h5 h6 h7⟩
    | 3, _ =>
      subst ht
      exact drwl_of s_fetch lAB rfl F (by omega) rfl rfl (ch_s _ _ (by simp)) rfl (by simp) (by decide) rfl fun v hv => ⟨rfl, [v4, v5, v6, v7], .e e2 e6 b1 be h2 hv h4 h5 h6 h7⟩
    | 4, _ =>
      subst ht
      exact drwl_of s_mark lMark rfl F (by omega) rfl rfl (ch_s _ _ (by simp)) rfl (by simp) (by decide) rfl fun v hv => ⟨rfl, [v5, v6, v7], .e e2 e6 b1 be h2 h3 hv h5 h6 h7⟩
    | 5, _ =>
      subst ht
      exact drwl_of s_test lTest rfl F (by omega) rfl rfl (ch_s _ _ (by simp)) rfl (by simp) (by decide) rfl fun v hv => ⟨rfl, [v6, v7], .e e2 e6 b1 be h2 h3 h4 hv h6 h7⟩
    | 6, _ =>
      subst ht
      exact drwl_of s_step lStep rfl F (by omega) rfl rfl (ch_s _ _ (by simp)) rfl (by simp) (by decide) rfl fun v hv => ⟨rfl, [v7], .e e2 e6 b1 be h2 h3 h4 h5 hv h7⟩
    | 7, _ =>
      subst ht
      exact drwl_of s_told bools rfl F (by omega) rfl rfl (ch_s _ _ (by simp)) rfl (by simp [bools]) (by decide) rfl fun v hv => ⟨rfl, [], .e e2 e6 b1 be h2 h3 h4 h5 h6 hv⟩
  | @l v0 v1 v2 h0 h1 h2 =>
    match i, hi with
    | 0, _ =>
      subst ht
      exact drwl_of s_check bools rfl F (by omega) rfl rfl (ch_s _ _ (by simp)) rfl (by simp [bools]) (by decide) rfl fun v hv => ⟨rfl, [v1, v2], .l hv h1 h2⟩
    | 1, _ =>
      subst ht
      exact drwl_of s_look lAB rfl F (by omega) rfl rfl (ch_s _ _ (by simp)) rfl (by simp) (by decide) rfl fun v hv => ⟨rfl, [v2], .l h0 hv h2⟩
    | 2, _ =>
      subst ht
      exact drwl_of s_chain lChain rfl F (by omega) rfl rfl (ch_s _ _ (by simp)) rfl (by simp) (by decide) rfl fun v hv => ⟨rfl, [], .l h0 h1 hv⟩
  | @t k v1 v2 v3 k1 k4 h1 h2 h3 =>
    match i, hi with
    | 0, _ =>
      subst ht
      exact drwl_of s_counts (chs s_counts) rfl F (by omega) rfl rfl (ch_s _ _ (by simp)) rfl (show ([.int 1, .int 2, .int 3, .int 4] : List VI) ≠ [] by simp) (by decide) rfl fun v hv => ⟨rfl, by
        obtain ⟨e', rfl, x, y⟩ := cnt_mem hv
        exact ⟨[v1, v2, v3], .t x y h1 h2 h3⟩⟩
    | 1, _ =>
      subst ht
      exact drwl_of s_still lStill rfl F (by omega) rfl rfl (ch_s _ _ (by simp)) rfl (by simp) (by decide) rfl fun v hv => ⟨rfl, [v2, v3], .t k1 k4 hv h2 h3⟩
    | 2, _ =>
      subst ht
      exact drwl_of s_read lAB rfl F (by omega) rfl rfl (ch_s _ _ (by simp)) rfl (by simp) (by decide) rfl fun v hv => ⟨rfl, [v3], .t k1 k4 h1 hv h3⟩
    | 3, _ =>
      subst ht
      exact drwl_of s_sleep lSleep rfl F (by omega) rfl rfl (ch_s _ _ (by simp)) rfl (by simp) (by decide) rfl fun v hv => ⟨rfl, [], .t k1 k4 h1 h2 hv⟩
/-- the law's dicts of the first i values -/
def Cfs (h : Hi) (c i : Nat) : List Nat → List (List VI) → Prop
  | [], [] => True
  | d :: ds, vs :: cs => h[d]? = some (.dic (kvP c ((wsC c).take i) vs)) ∧ Cfs h c i ds cs
  | _, _ => False
theorem Cfs.len {h : Hi} {c i : Nat} : ∀ {ds : List Nat} {cs : List (List VI)}, Cfs h c i ds cs → ds.length = cs.length
  | [], [], _ => rfl
  | _ :: _, _ :: _, q => by simp [Cfs.len q.2]
  | [], _ :: _, q => q.elim
  | _ :: _, [], q => q.elim
theorem Cfs.app {h : Hi} {c i : Nat} : ∀ {ds es : List Nat} {cs fs : List (List VI)}, Cfs h c i ds cs → Cfs h c i es fs → Cfs h c i (ds ++ es) (cs ++ fs)
  | [], _, [], _, _, b => b
  | _ :: _, _, _ :: _, _, a, b => ⟨a.1, Cfs.app a.2 b⟩
  | [], _, _ :: _, _, q, _ => q.elim
  | _ :: _, _, [], _, q, _ => q.elim
/-- lists among the changed ones do not matter -/
theorem Cfs.fr {h h' : Hi} {c i : Nat} {ps : List Nat} (F : Fr ps h h') (ok : ∀ p ∈ ps, ∀ kv, h[p]? ≠ some (.dic kv)) : ∀ {ds : List Nat} {cs : List (List VI)}, Cfs h c i ds cs → Cfs h' c i ds cs
  | [], [], _ => trivial
  | d :: _, _ :: _, q => ⟨F.get q.1 (fun z => ok d z _ q.1), Cfs.fr F ok q.2⟩
  | [], _ :: _, q => q.elim
  | _ :: _, [], q => q.elim
theorem Cfs.get {h : Hi} {c i : Nat} : ∀ {ds : List Nat} {cs : List (List VI)} {k d : Nat}, Cfs h c i ds cs → ds[k]? = some d → ∃ vs, cs[k]? = some vs ∧ h[d]? = some (.dic (kvP c ((wsC c).take i) vs))
  | [], [], _, _, _, e => by simp at e
  | _ :: _, vs :: _, 0, _, q, e => by simp at e; subst e; exact ⟨vs, rfl, q.1⟩
  | _ :: _, _ :: _, k + 1, _, q, e => by
    obtain ⟨vs, a, b⟩ := Cfs.get (k := k) q.2 (by simpa using e)
    exact ⟨vs, by simpa using a, b⟩
  | [], _ :: _, _, _, q, _ => q.elim
  | _ :: _, [], _, _, q, _ => q.elim
/-- the innermost loop: one dict, all values -/
abbrev bodyB : MS := (sSeq (sAsg (eCB cDict (aCons (eV 4) aNil)) (gNm 7)) (sSeq (sAsg (eV 6) (gIxU sT (eV 7) (eV 2))) (sSeq (sDrop (eBM .lst mAppend (eV 3) (aCons (eV 7) aNil))) sNx)))
theorem loopB {h : Hi} {d fa la od sa c i : Nat} {w : S} {vs l : List VI} {L : List Nat} {x6 x7 : Option VI} (hL : h[la]? = some (.lst (L.map .ref))) (hod : h[od]? = some (.dic (kvP c ((wsC c).take i) vs))) (hsa : h[sa]? = some (.lst l)) (ns : sa ≠ la)
    (sm : small ((kvP c ((wsC c).take i) vs).length + 1) = true) (go : ∀ v ∈ l, putD (.str w) v (kvP c ((wsC c).take i) vs) = kvP c ((wsC c).take (i + 1)) (vs ++ [v])) (sz : L.length + l.length ≤ 1000) :
    ∃ σ' h' es, turns (.lst sa) (gNm 6) bodyB l.length 0 [some (.ref d), some (.ref fa), some (.str w), some (.ref la), some (.ref od), some (.ref sa), x6, x7] h = .nx σ' h' ∧ (∃ x y, σ' = [some (.ref d), some (.ref fa), some (.str w), some (.ref la), some (.ref od), some (.ref sa), x, y]) ∧
      h'[la]? = some (.lst ((L ++ es).map .ref)) ∧ Cfs h' c (i + 1) es (l.map fun v => vs ++ [v]) ∧ Fr [la] h h' := by
  have no : od ≠ la := fun z => by subst z; rw [hod] at hL; cases hL
  obtain ⟨σ', h', e, es, x, y, e1, e2, e3, e4⟩ := turns_inv (it := .lst sa) (g := gNm 6) (body := bodyB) l.length
    (fun k σ h2 => ∃ es x y, σ = [some (.ref d), some (.ref fa), some (.str w), some (.ref la), some (.ref od), some (.ref sa), x, y] ∧ h2[la]? = some (.lst ((L ++ es).map .ref)) ∧ Cfs h2 c (i + 1) es ((l.take k).map fun v => vs ++ [v]) ∧ Fr [la] h h2)
    (fun k σ h2 hk ⟨es, x, y, e1, e2, e3, F⟩ => by
      subst e1
      have od2 := F.get hod (by simpa using no)
      have sa2 := F.get hsa (by simpa using ns)
      have le := e3.len
      simp only [List.length_map, List.length_take] at le
      have ll : es.length = k := by omega
      have cd : cDict [.ref od] h2 = some (.ref h2.length, h2 ++ [.dic (kvP c ((wsC c).take i) vs)]) := by simp [cDict, od2]
      have g1 : (h2 ++ [OI.dic (kvP c ((wsC c).take i) vs)])[h2.length]? = some (.dic (kvP c ((wsC c).take i) vs)) := by simp
      have ic : insC (.ref h2.length) (h2 ++ [OI.dic (kvP c ((wsC c).take i) vs)]) = none := by simp [insC]
      have p1 := put_d (w := w) (v := l[k]) g1 sm
      rw [go l[k] (List.getElem_mem hk)] at p1
      have s1 : (h2 ++ [OI.dic (kvP c ((wsC c).take i) vs)]).set h2.length (OI.dic (kvP c ((wsC c).take (i + 1)) (vs ++ [l[k]]))) = h2 ++ [OI.dic (kvP c ((wsC c).take (i + 1)) (vs ++ [l[k]]))] := by simp
      rw [s1] at p1
      have la3 : (h2 ++ [OI.dic (kvP c ((wsC c).take (i + 1)) (vs ++ [l[k]]))])[la]? = some (.lst ((L ++ es).map .ref)) := at_app e2
      have lt := at_lt e2
      have F1 : Fr [la] h2 (h2 ++ [OI.dic (kvP c ((wsC c).take (i + 1)) (vs ++ [l[k]]))]) := .app
      have F2 : Fr [la] (h2 ++ [OI.dic (kvP c ((wsC c).take (i + 1)) (vs ++ [l[k]]))]) ((h2 ++ [OI.dic (kvP c ((wsC c).take (i + 1)) (vs ++ [l[k]]))]).set la (.lst ((L ++ es).map .ref ++ [.ref h2.length]))) := .set
      have s2 : small (((L ++ es).map VI.ref).length + 1) = true := by simp [small]; omega
      have ap : mAppend (.ref la) [.ref h2.length] (h2 ++ [OI.dic (kvP c ((wsC c).take (i + 1)) (vs ++ [l[k]]))]) = some (.non, (h2 ++ [OI.dic (kvP c ((wsC c).take (i + 1)) (vs ++ [l[k]]))]).set la (.lst ((L ++ es).map .ref ++ [.ref h2.length]))) := by
        simp only [mAppend, la3, s2]
      have kk : kOk .lst (.ref la) (h2 ++ [OI.dic (kvP c ((wsC c).take (i + 1)) (vs ++ [l[k]]))]) = true := by simp only [kOk, la3]
      have nl : ∀ kv, h2[la]? ≠ some (.dic kv) := fun kv z => by rw [e2] at z; cases z
      refine ⟨l[k], _, h2, _, _, ?_, rfl, ?_, ⟨es ++ [h2.length], some l[k], some (.ref h2.length), rfl, ?_, ?_, (F.trans F1).trans F2⟩⟩
      · rw [nxt_lst sa2, List.getElem?_eq_getElem hk]
      · simp only [bodyB, x_sSeq, x_sAsg, x_eCB, x_aCons, x_eV, List.getElem?_cons_succ, List.getElem?_cons_zero, List.set_cons_succ, List.set_cons_zero, x_bind, x_aNil, cd, x_ofO, x_bindS, x_gNm, x_nx, gIxU, ic, p1, x_nxO, x_sDrop, eBM, kk, ap, x_sNx]
      · rw [List.getElem?_set_self (by simp; omega)]
        simp
      · have nl2 : ∀ p ∈ [la], ∀ kv, (h2 ++ [OI.dic (kvP c ((wsC c).take (i + 1)) (vs ++ [l[k]]))])[p]? ≠ some (.dic kv) := fun p hp kv z => by
          rw [List.mem_singleton.mp hp, la3] at z; cases z
        have a := (e3.fr F1 (fun p hp kv => by rw [List.mem_singleton.mp hp]; exact nl kv)).fr F2 nl2
        have tk : l.take (k + 1) = l.take k ++ [l[k]] := by rw [List.take_succ, List.getElem?_eq_getElem hk]; rfl
        have em : (l.take (k + 1)).map (fun v => vs ++ [v]) = (l.take k).map (fun v => vs ++ [v]) ++ [vs ++ [l[k]]] := by rw [tk, List.map_append]; rfl
        rw [em]
        have z : Cfs ((h2 ++ [OI.dic (kvP c ((wsC c).take (i + 1)) (vs ++ [l[k]]))]).set la (.lst ((L ++ es).map .ref ++ [.ref h2.length]))) c (i + 1) [h2.length] [vs ++ [l[k]]] := ⟨F2.get (by simp) (by simp; omega), trivial⟩
        exact a.app z)
    (fun σ h2 ⟨es, x, y, e1, e2, e3, F⟩ => by
      have sa2 := F.get hsa (by simpa using ns)
      rw [nxt_lst sa2]
      simp) l.length 0 [some (.ref d), some (.ref fa), some (.str w), some (.ref la), some (.ref od), some (.ref sa), x6, x7] h (by omega) ⟨[], _, _, rfl, by simpa using hL, by simp [Cfs], .refl⟩
  rw [List.take_length] at e3
  exact ⟨σ', h', es, e, ⟨x, y, e1⟩, e2, e3, e4⟩
end Lw
end

section
set_option Elab.async false
set_option linter.all false
set_option maxRecDepth 100000
set_option maxHeartbeats 4000000
namespace Lw
open PySem L2 ML
/-- the values gone through at word i: the own one for epochs and counts -/
def isFix (c i : Nat) : Bool := (c == 3 || c == 5) && i == 0
def nxl (c i : Nat) (v0 : VI) (vs : List VI) : List VI := if isFix c i then [v0] else chl c i vs
def allC (c : Nat) (v0 : VI) : Nat → List (List VI)
  | 0 => [[]]
  | i + 1 => (allC c v0 i).flatMap fun vs => (nxl c i v0 vs).map fun v => vs ++ [v]
abbrev someE : ME := (eIf (tOf (eBin fIn (eV 2) (eLst (aCons (eC (.str s_epochs)) (aCons (eC (.str s_counts)) aNil))))) (eLst (aCons (eIxU gT (eV 0) (eV 2)) aNil)) (eCall f__law_choices (aCons (eV 2) (aCons (eV 4) aNil))))
/-- word i, the own value v0 first -/
structure WdAt (c i : Nat) (vs : List VI) (w : S) : Prop where
  at_ : (wsC c)[i]? = some w
  fx : ∀ h : Hi, ∀ n, h[n]? = some (.lst [.str s_epochs, .str s_counts]) → fIn (.str w) (.ref n) h = some (.bl (isFix c i), h)
theorem wd_at {c i : Nat} (hc : isC c) (hi : i < (wsC c).length) {w : S} (hw : (wsC c)[i]? = some w) : ∀ h : Hi, ∀ n, h[n]? = some (.lst [.str s_epochs, .str s_counts]) → fIn (.str w) (.ref n) h = some (.bl (isFix c i), h) := by
  intro h n e
  have key : ∀ b, (flI (.str w) && alF [.str s_epochs, .str s_counts]) = true → inI (.str w) [.str s_epochs, .str s_counts] = b → fIn (.str w) (.ref n) h = some (.bl b, h) := fun b a b' => by
    simp only [fIn, inM, e, a, b']
  rcases hc with rfl | rfl | rfl
  · match i, hi, hw with
    | 0, _, rfl => exact key _ rfl rfl
    | 1, _, rfl => exact key _ rfl rfl
    | 2, _, rfl => exact key _ rfl rfl
    | 3, _, rfl => exact key _ rfl rfl
    | 4, _, rfl => exact key _ rfl rfl
    | 5, _, rfl => exact key _ rfl rfl
    | 6, _, rfl => exact key _ rfl rfl
    | 7, _, rfl => exact key _ rfl rfl
  · match i, hi, hw with
    | 0, _, rfl => exact key _ rfl rfl
    | 1, _, rfl => exact key _ rfl rfl
    | 2, _, rfl => exact key _ rfl rfl
  · match i, hi, hw with
    | 0, _, rfl => exact key _ rfl rfl
    | 1, _, rfl => exact key _ rfl rfl
    | 2, _, rfl => exact key _ rfl rfl
    | 3, _, rfl => exact key _ rfl rfl
theorem some_g {h : Hi} {d c i fa la od : Nat} {own vs rest : List VI} {hv mv : VI} {w : S} {v0 : VI} {x5 x6 x7 : Option VI} (O : Own h d c own hv mv) (h0 : own[0]? = some v0) (hi : i < (wsC c).length) (hl : vs.length = i) (V : Vd c (vs ++ rest)) (hw : (wsC c)[i]? = some w) (hod : h[od]? = some (.dic (kvP c ((wsC c).take i) vs))) :
    ∃ n h', someE [some (.ref d), some (.ref fa), some (.str w), some (.ref la), some (.ref od), x5, x6, x7] h = .ok (.ref n) h' ∧ h.length ≤ n ∧ h'[n]? = some (.lst (nxl c i v0 vs)) ∧ Fr [] h h' := by
  have hc := O.vd.isC
  have F0 : Fr [] h (h ++ [OI.lst [.str s_epochs, .str s_counts]]) := .app
  have fx := wd_at hc hi hw (h ++ [OI.lst [.str s_epochs, .str s_counts]]) h.length (by simp)
  have s2 : small 2 = true := rfl
  have s1 : small 1 = true := rfl
  unfold nxl
  cases q : isFix c i with
  | true =>
    rw [q] at fx
    have i0 : i = 0 := by
      simp [isFix] at q
      exact q.2
    subst i0
    have O1 := O.fr F0 (by simp)
    have ov := O1.val hw h0
    have oi := O1.ic
    refine ⟨(h ++ [OI.lst [.str s_epochs, .str s_counts]]).length, (h ++ [OI.lst [.str s_epochs, .str s_counts]]) ++ [OI.lst [v0]], ?_, by simp, by simp, F0.trans .app⟩
    simp only [someE, x_eIf, x_tOf, x_eBin, x_eV, x_eC, eLst, eIxU, x_aCons, x_aNil, List.getElem?_cons_succ, List.getElem?_cons_zero, x_bind, List.length_cons, List.length_nil, s2, s1, fx, x_ofO, oi, ov, Nat.zero_add, Nat.reduceAdd]
  | false =>
    rw [q] at fx
    obtain ⟨w', D⟩ := drwl V hl hi
    have : w' = w := by
      have := D.at_
      rw [hw] at this
      exact (Option.some.inj this).symm
    subst this
    obtain ⟨n, h2, e2, l2, g2, F2⟩ := ch_g D.ch D.fk D.fl (F0.get hod (by simp))
    simp only [List.length_append, List.length_cons, List.length_nil] at l2
    refine ⟨n, h2, ?_, by omega, by simpa using g2, F0.trans F2⟩
    simp only [someE, x_eIf, x_tOf, x_eBin, x_eV, x_eC, eLst, eIxU, x_eCall, x_aCons, x_aNil, List.getElem?_cons_succ, List.getElem?_cons_zero, x_bind, List.length_cons, List.length_nil, s2, s1, fx, x_ofO, e2, Nat.zero_add, Nat.reduceAdd]
/-- what the dicts so far may be -/
def PreOk (c i : Nat) (cs : List (List VI)) : Prop := ∀ vs ∈ cs, vs.length = i ∧ ∃ rest, Vd c (vs ++ rest)
theorem nxl_go {c i : Nat} {own vs rest : List VI} {w : S} {v0 : VI} (V0 : Vd c own) (h0 : own[0]? = some v0) (V : Vd c (vs ++ rest)) (hl : vs.length = i) (hi : i < (wsC c).length) (hw : (wsC c)[i]? = some w) :
    small ((kvP c ((wsC c).take i) vs).length + 1) = true ∧ ∀ v ∈ nxl c i v0 vs, putD (.str w) v (kvP c ((wsC c).take i) vs) = kvP c ((wsC c).take (i + 1)) (vs ++ [v]) ∧ ∃ rest, Vd c (vs ++ [v] ++ rest) := by
  obtain ⟨w', D⟩ := drwl V hl hi
  have : w' = w := by
    have := D.at_
    rw [hw] at this
    exact (Option.some.inj this).symm
  subst this
  refine ⟨D.sm, fun v hv => ?_⟩
  unfold nxl at hv
  cases q : isFix c i with
  | false => rw [q] at hv; exact D.go v (by simpa using hv)
  | true =>
    rw [q] at hv
    have : v = v0 := by simpa using hv
    subst this
    have i0 : i = 0 := by
      simp [isFix] at q
      exact q.2
    subst i0
    refine D.go v ?_
    cases V0 with
    | @e e b v2 v3 v4 v5 v6 v7 e2 e6 _ _ _ _ _ _ _ _ =>
      have := Option.some.inj h0
      subst this
      rcases (by omega : e = 2 ∨ e = 3 ∨ e = 4 ∨ e = 5 ∨ e = 6) with rfl | rfl | rfl | rfl | rfl <;> simp [chl, chs, lkS]
    | l _ _ _ => simp [isFix] at q
    | @t k _ _ _ k1 k4 _ _ _ =>
      have := Option.some.inj h0
      subst this
      have e : chl 5 0 vs = [.int 1, .int 2, .int 3, .int 4] := rfl
      rw [e]
      rcases (by omega : k = 1 ∨ k = 2 ∨ k = 3 ∨ k = 4) with rfl | rfl | rfl | rfl <;> simp
theorem Own.ne {h : Hi} {l m c : Nat} {vs : List VI} {hv mv : VI} {o : OI} (O : Own h l c vs hv mv) (e : h[m]? = some o) (k : ∀ kv, o ≠ .dic kv) : l ≠ m := fun z => by
  subst z
  rw [O.at_] at e
  cases e
  exact k _ rfl
/-- the loop over the dicts so far -/
abbrev bodyA : MS := (sSeq (sAsg someE (gNm 5)) (sSeq (sFor (iSeq (eV 5)) (gNm 6) bodyB) sNx))
theorem loopA {h : Hi} {d fa la c i : Nat} {own : List VI} {hv mv v0 : VI} {w : S} {ds : List Nat} {cs : List (List VI)} {x4 x5 x6 x7 : Option VI} (O : Own h d c own hv mv) (h0 : own[0]? = some v0) (hi : i < (wsC c).length) (hw : (wsC c)[i]? = some w)
    (hf : h[fa]? = some (.lst (ds.map .ref))) (hL : h[la]? = some (.lst [])) (nf : fa ≠ la) (C : Cfs h c i ds cs) (pre : PreOk c i cs) (sz : (cs.flatMap fun vs => (nxl c i v0 vs).map fun v => vs ++ [v]).length ≤ 1000) :
    ∃ σ' h' es, turns (.lst fa) (gNm 4) bodyA ds.length 0 [some (.ref d), some (.ref fa), some (.str w), some (.ref la), x4, x5, x6, x7] h = .nx σ' h' ∧ (∃ a b x y, σ' = [some (.ref d), some (.ref fa), some (.str w), some (.ref la), a, b, x, y]) ∧
      h'[la]? = some (.lst (es.map .ref)) ∧ Cfs h' c (i + 1) es (cs.flatMap fun vs => (nxl c i v0 vs).map fun v => vs ++ [v]) ∧ Fr [la] h h' := by
  have nd : d ≠ la := O.ne hL (fun _ z => by cases z)
  have nl : ∀ p ∈ [la], ∀ kv, h[p]? ≠ some (.dic kv) := fun p hp kv z => by
    rw [List.mem_singleton.mp hp, hL] at z; cases z
  have lc := C.len
  obtain ⟨σ', h', e, es, a, b, x, y, e1, e2, e3, e4⟩ := turns_inv (it := .lst fa) (g := gNm 4) (body := bodyA) ds.length
    (fun k σ h2 => ∃ es a b x y, σ = [some (.ref d), some (.ref fa), some (.str w), some (.ref la), a, b, x, y] ∧ h2[la]? = some (.lst (es.map .ref)) ∧ Cfs h2 c (i + 1) es ((cs.take k).flatMap fun vs => (nxl c i v0 vs).map fun v => vs ++ [v]) ∧ Fr [la] h h2)
    (fun k σ h2 hk ⟨es, a, b, x, y, e1, e2, e3, F⟩ => by
      subst e1
      have hk2 : k < cs.length := by omega
      have O2 := O.fr F (by simpa using nd)
      have fa2 := F.get hf (by simpa using nf)
      have C2 := C.fr F nl
      obtain ⟨vs, hvs, hod⟩ := C2.get (k := k) (d := ds[k]) (List.getElem?_eq_getElem hk)
      have hcs : cs[k] = vs := by
        rw [List.getElem?_eq_getElem hk2] at hvs
        exact Option.some.inj hvs
      obtain ⟨p1, rest, V⟩ := pre vs (by rw [← hcs]; exact List.getElem_mem hk2)
      obtain ⟨n, h3, e4, l4, g4, F4⟩ := some_g (fa := fa) (la := la) (x5 := b) (x6 := x) (x7 := y) O2 h0 hi p1 V hw hod
      obtain ⟨sm, go⟩ := nxl_go O.vd h0 V p1 hi hw
      have la3 := F4.get e2 (by simp)
      have la2l := at_lt e2
      have tk : cs.take (k + 1) = cs.take k ++ [vs] := by rw [List.take_succ, List.getElem?_eq_getElem hk2, hcs]; rfl
      have sz2 : es.length + (nxl c i v0 vs).length ≤ 1000 := by
        have q := e3.len
        have split : cs = cs.take (k + 1) ++ cs.drop (k + 1) := (List.take_append_drop _ _).symm
        rw [split, tk] at sz
        simp only [List.flatMap_append, List.length_append, List.flatMap_cons, List.flatMap_nil, List.append_nil, List.length_map] at sz
        omega
      obtain ⟨σ5, h5, es5, e5, ⟨x5, y5, s5⟩, g5, C5, F5⟩ := loopB (d := d) (fa := fa) (w := w) (x6 := x) (x7 := y) la3 (F4.get hod (by simp)) g4 (by omega) sm (fun v hv => (go v hv).1) sz2
      subst s5
      have fl3 := fuel_lst g4
      have sq3 := seq_lst g4
      have nl2 : ∀ p ∈ [la], ∀ kv, h3[p]? ≠ some (.dic kv) := fun p hp kv z => by
        rw [List.mem_singleton.mp hp, la3] at z; cases z
      have lk : (Itm.lst fa).nxt k h2 = some (some (.ref ds[k])) := by
        rw [nxt_lst fa2, List.getElem?_map, List.getElem?_eq_getElem hk]; rfl
      refine ⟨.ref ds[k], _, h2, _, h5, lk, rfl, ?_, ⟨es ++ es5, some (.ref ds[k]), some (.ref n), x5, y5, rfl, g5, ?_, ?_⟩⟩
      · show bodyA [some (.ref d), some (.ref fa), some (.str w), some (.ref la), some (.ref ds[k]), b, x, y] h2 = _
        simp only [bodyA, x_sSeq, x_sAsg, e4, x_bindS, x_gNm, x_nx, List.set_cons_succ, List.set_cons_zero, x_sFor, x_iSeq, x_eV, List.getElem?_cons_succ, List.getElem?_cons_zero, x_bind, sq3, x_ofI, fl3, e5, x_sNx]
      · rw [tk, List.flatMap_append]
        have a := (e3.fr F4 (by simp)).fr F5 nl2
        exact a.app (by simpa using C5)
      · exact (F.trans (F4.weak (by simp))).trans F5)
    (fun σ h2 ⟨es, a, b, x, y, e1, e2, e3, F⟩ => by
      have fa2 := F.get hf (by simpa using nf)
      rw [nxt_lst fa2]
      simp) ds.length 0 [some (.ref d), some (.ref fa), some (.str w), some (.ref la), x4, x5, x6, x7] h (by omega) ⟨[], _, _, _, _, rfl, by simpa using hL, by simp [Cfs], .refl⟩
  rw [lc, List.take_length] at e3
  exact ⟨σ', h', es, e, ⟨a, b, x, y, e1⟩, e2, e3, e4⟩
end Lw
end

section
set_option Elab.async false
set_option linter.all false
set_option maxRecDepth 100000
set_option maxHeartbeats 4000000
namespace Lw
open PySem L2 ML
/-- a number: how many dicts at most -/
theorem all_sz {c : Nat} {own : List VI} {v0 : VI} (V : Vd c own) (h0 : own[0]? = some v0) : ∀ i, i ≤ (wsC c).length → (allC c v0 i).length ≤ 1000 := by
  have key : ∀ c v0 n, ((List.range (n + 1)).all fun i => Nat.ble (allC c v0 i).length 1000) = true → ∀ i, i ≤ n → (allC c v0 i).length ≤ 1000 := fun c v0 n q i hi =>
    Nat.le_of_ble_eq_true (List.all_eq_true.mp q i (by simp; omega))
  cases V with
  | @e e b v2 v3 v4 v5 v6 v7 e2 e6 _ _ _ _ _ _ _ _ =>
    have := Option.some.inj h0
    subst this
    rcases (by omega : e = 2 ∨ e = 3 ∨ e = 4 ∨ e = 5 ∨ e = 6) with rfl | rfl | rfl | rfl | rfl <;> exact key _ _ 8 (by kernel_rfl)
  | @l v0 v1 v2 _ _ _ =>
    intro i hi
    have : ∀ i, (allC 4 v0 i) = allC 4 .non i := fun i => by
      induction i with
      | zero => rfl
      | succ i ih =>
        simp only [allC, ih]
        rfl
    have := Option.some.inj h0
    subst this
    rw [this]
    exact key 4 .non 3 (by kernel_rfl) i hi
  | @t k _ _ _ k1 k4 _ _ _ =>
    have := Option.some.inj h0
    subst this
    rcases (by omega : k = 1 ∨ k = 2 ∨ k = 3 ∨ k = 4) with rfl | rfl | rfl | rfl <;> exact key _ _ 4 (by kernel_rfl)
theorem all_pre {c : Nat} {own : List VI} {v0 : VI} (V : Vd c own) (h0 : own[0]? = some v0) : ∀ i, i ≤ (wsC c).length → PreOk c i (allC c v0 i)
  | 0, _ => fun vs hv => by
    simp only [allC, List.mem_singleton] at hv
    subst hv
    exact ⟨rfl, own, by simpa using V⟩
  | i + 1, hi => fun vs hv => by
    simp only [allC, List.mem_flatMap, List.mem_map] at hv
    obtain ⟨us, hu, v, hv, rfl⟩ := hv
    obtain ⟨l, rest, Vu⟩ := all_pre V h0 i (by omega) us hu
    obtain ⟨_, go⟩ := nxl_go V h0 Vu l (show i < (wsC c).length by omega) (List.getElem?_eq_getElem (show i < (wsC c).length by omega))
    exact ⟨by simp [l], (go v hv).2⟩
abbrev bodyW : MS := (sSeq (sAsg (eLst aNil) (gNm 3)) (sSeq (sFor (iSeq (eV 1)) (gNm 4) bodyA) (sSeq (sAsg (eCB cList (aCons (eV 3) aNil)) (gNm 1)) sNx)))
theorem all_g {h : Hi} {d c : Nat} {own : List VI} {hv mv v0 : VI} (O : Own h d c own hv mv) (h0 : own[0]? = some v0) : ∃ h' fa ds, f__law_all [.ref d] h = .ok (.ref fa) h' ∧ h'[fa]? = some (.lst (ds.map .ref)) ∧ Cfs h' c (wsC c).length ds (allC c v0 (wsC c).length) ∧ Fr [] h h' := by
  have V := O.vd
  have hc := V.isC
  have ow := O.way
  have oi := O.ic
  have s1 : small 1 = true := rfl
  have s0 : small 0 = true := rfl
  -- found = [{'way': ..}]
  have dg := disp_g (ps := [((eC (.str s_way)), (eIxU gT (eV 0) (eC (.str s_way))))]) (σ := [some (.ref d), none, none, none, none, none, none, none]) (h := h) (kv := kvP c [] []) (by
    have F0 : Fr [] h (h ++ [OI.dic []]) := .app
    have O0 := O.fr F0 (by simp)
    have ow0 := O0.way
    have oi0 := O0.ic
    simp [eIxU, oi0, ow0]
    rfl) rfl rfl
  obtain ⟨H1, eH1⟩ : ∃ H1, H1 = (h ++ [OI.dic (kvP c [] [])]) ++ [OI.lst [.ref h.length]] := ⟨_, rfl⟩
  have F1 : Fr [] h H1 := by rw [eH1]; exact Fr.trans .app .app
  have f1 : H1[h.length + 1]? = some (.lst ([h.length].map .ref)) := by rw [eH1]; simp
  have d1 : H1[h.length]? = some (.dic (kvP c [] [])) := by rw [eH1]; simp
  have O1 := O.fr F1 (by simp)
  obtain ⟨s, H2, e2, l2, g2, F2⟩ := sw_c hc H1
  have hl := at_lt f1
  obtain ⟨σ', h', e, fa, ds, x2, x3, x4, x5, x6, x7, e1, ef, C, F⟩ := turns_inv (it := .lst s) (g := gNm 2) (body := bodyW) (wsC c).length
    (fun i σ h2 => ∃ fa ds x2 x3 x4 x5 x6 x7, σ = [some (.ref d), some (.ref fa), x2, x3, x4, x5, x6, x7] ∧ h2[fa]? = some (.lst (ds.map .ref)) ∧ Cfs h2 c i ds (allC c v0 i) ∧ Fr [] H2 h2)
    (fun i σ h2 hi ⟨fa, ds, x2, x3, x4, x5, x6, x7, e1, ef, C, F⟩ => by
      subst e1
      have gs := F.get g2 (by simp)
      have O2 := (O1.fr F2 (by simp)).fr F (by simp)
      have F3 : Fr [] h2 (h2 ++ [OI.lst []]) := .app
      have O3 := O2.fr F3 (by simp)
      have C3 := C.fr F3 (by simp)
      have ef3 := F3.get ef (by simp)
      have fl := at_lt ef
      have nx : (Itm.lst s).nxt i h2 = some (some (.str (wsC c)[i])) := by
        rw [nxt_lst gs, List.getElem?_map, List.getElem?_eq_getElem hi]; rfl
      obtain ⟨σ4, h4, es, e4, ⟨a, b, x, y, s4⟩, g4, C4, F4⟩ := loopA (w := (wsC c)[i]) (la := h2.length) (x4 := x4) (x5 := x5) (x6 := x6) (x7 := x7) O3 h0 hi (List.getElem?_eq_getElem hi) ef3 (by simp) (by omega) C3 (all_pre V h0 i (by omega)) (all_sz V h0 (i + 1) (by omega))
      subst s4
      have sq := seq_lst ef3
      have fu := fuel_lst ef3
      rw [List.length_map] at fu
      have cl : cList [.ref h2.length] h4 = some (.ref h4.length, h4 ++ [.lst (es.map .ref)]) := by simp only [cList, g4]
      have FF : Fr [] h2 h4 := ⟨by have := F4.len; simp at this; omega, fun m u _ q => F4.get (F3.get q (by simp)) (by have := at_lt q; simp; omega)⟩
      refine ⟨.str (wsC c)[i], _, h2, _, h4 ++ [.lst (es.map .ref)], nx, rfl, ?_, ⟨h4.length, es, some (.str (wsC c)[i]), some (.ref h2.length), a, b, x, y, rfl, by simp, C4.fr (ps := []) .app (by simp), (F.trans FF).trans .app⟩⟩
      show bodyW [some (.ref d), some (.ref fa), some (.str (wsC c)[i]), x3, x4, x5, x6, x7] h2 = _
      simp only [bodyW, x_sSeq, x_sAsg, eLst, x_aNil, x_bind, List.length_nil, s0, x_bindS, x_gNm, x_nx, List.set_cons_succ, List.set_cons_zero, x_sFor, x_iSeq, x_eV, List.getElem?_cons_succ, List.getElem?_cons_zero, sq, x_ofI, fu, e4, x_eCB, x_aCons, cl, x_ofO, x_sNx])
    (fun σ h2 ⟨fa, ds, x2, x3, x4, x5, x6, x7, e1, ef, C, F⟩ => by
      have gs := F.get g2 (by simp)
      rw [nxt_lst gs]
      simp) (wsC c).length 0 [some (.ref d), some (.ref (h.length + 1)), none, none, none, none, none, none] H2 (by omega)
    ⟨h.length + 1, [h.length], _, _, _, _, _, _, rfl, F2.get f1 (by simp), ⟨by simpa using F2.get d1 (by simp), trivial⟩, .refl⟩
  refine ⟨h', fa, ds, ?_, ef, C, (F1.trans F2).trans F⟩
  subst e1
  have ow1 := O1.way
  have oi1 := O1.ic
  have fu := fuel_lst g2
  rw [List.length_map] at fu
  have sq := seq_lst g2
  have el : (eLst (aCons (eDisp [((eC (.str s_way)), (eIxU gT (eV 0) (eC (.str s_way))))]) aNil)) [some (.ref d), none, none, none, none, none, none, none] h = .ok (.ref (h.length + 1)) H1 := by
    rw [eH1]
    simp only [eLst, x_aCons, dg, x_bind, x_aNil, List.length_cons, List.length_nil, s1, Nat.zero_add, List.length_append]
  unfold f__law_all m__law_all
  rw [x_run1]
  show endB (sSeq _ _ [some (.ref d), none, none, none, none, none, none, none] h) = _
  rw [x_sSeq, x_sAsg, el]
  simp only [x_bindS, x_gNm, x_nx, List.set_cons_succ, List.set_cons_zero, x_sSeq, x_sFor, x_iSeq, x_eCall, x_aCons, eIxU, x_eV, x_eC, x_aNil, List.getElem?_cons_zero, x_bind, oi1, ow1, x_ofO, e2, sq, x_ofI, fu, e, x_sRet, List.getElem?_cons_succ, x_rt, x_endR]
end Lw
end

section
set_option Elab.async false
set_option linter.all false
set_option maxRecDepth 100000
set_option maxHeartbeats 4000000
namespace Lw
open PySem L2 ML
def safeKv (kv : List (VI × VI)) : Bool := match f__law_is_safe [.ref 0] [.dic kv] with
  | .ok (.bl b) _ => b
  | _ => false
abbrev safeV (c : Nat) (vs : List VI) : Bool := safeKv (kvP c (wsC c) vs)
def SfOk (c : Nat) (vs : List VI) (r : List (VI × VI)) : Prop := ∃ s', f__law_is_safe [.ref 0] [.dic (kvP c (wsC c) vs ++ r)] = .ok (.bl (safeV c vs)) s' ∧ s'[0]? = some (.dic (kvP c (wsC c) vs ++ r))
theorem sfOk_of {c : Nat} {vs : List VI} {r : List (VI × VI)} (a : f__law_is_safe [.ref 0] [.dic (kvP c (wsC c) vs ++ r)] = .ok (.bl (safeV c vs)) (hpOf (f__law_is_safe [.ref 0] [.dic (kvP c (wsC c) vs ++ r)]))) (b : (hpOf (f__law_is_safe [.ref 0] [.dic (kvP c (wsC c) vs ++ r)]))[0]? = some (.dic (kvP c (wsC c) vs ++ r))) : SfOk c vs r := ⟨_, a, b⟩
set_option maxHeartbeats 0 in
theorem sfOk {c : Nat} {vs : List VI} (V : Vd c vs) (r : List (VI × VI)) : SfOk c vs r := by
  cases V with
  | @e e b v2 v3 v4 v5 v6 v7 e2 e6 b1 be h2 h3 h4 h5 h6 h7 =>
    have hb : b = 1 ∨ b = 2 ∨ b = 3 ∨ b = 4 ∨ b = 5 ∨ b = 6 := by omega
    rcases m2 h3 with rfl | rfl
    · exact sfOk_of (by kernel_rfl) (by kernel_rfl)
    · rcases m2 h7 with rfl | rfl
      · exact sfOk_of (by kernel_rfl) (by kernel_rfl)
      · rcases m3 h6 with rfl | rfl | rfl
        · exact sfOk_of (by kernel_rfl) (by kernel_rfl)
        all_goals
          rcases m2 h2 with rfl | rfl
          · rcases m2 h4 with rfl | rfl
            · exact sfOk_of (by kernel_rfl) (by kernel_rfl)
            · rcases m2 h5 with rfl | rfl
              · exact sfOk_of (by kernel_rfl) (by kernel_rfl)
              · rcases hb with rfl | rfl | rfl | rfl | rfl | rfl <;> exact sfOk_of (by kernel_rfl) (by kernel_rfl)
          · rcases m2 h4 with rfl | rfl
            · rcases hb with rfl | rfl | rfl | rfl | rfl | rfl <;> exact sfOk_of (by kernel_rfl) (by kernel_rfl)
            · rcases hb with rfl | rfl | rfl | rfl | rfl | rfl <;> exact sfOk_of (by kernel_rfl) (by kernel_rfl)
  | @l v0 v1 v2 h0 h1 h2 =>
    rcases m2 h0 with rfl | rfl <;> rcases m2 h1 with rfl | rfl <;> rcases m3 h2 with rfl | rfl | rfl <;> exact sfOk_of (by kernel_rfl) (by kernel_rfl)
  | @t k v1 v2 v3 k1 k4 h1 h2 h3 =>
    rcases (by omega : k = 1 ∨ k = 2 ∨ k = 3 ∨ k = 4) with rfl | rfl | rfl | rfl <;> rcases m2 h1 with rfl | rfl <;> rcases m2 h2 with rfl | rfl <;> rcases m4 h3 with rfl | rfl | rfl | rfl <;> exact sfOk_of (by kernel_rfl) (by kernel_rfl)
theorem safe_g {c : Nat} {vs : List VI} (V : Vd c vs) (r : List (VI × VI)) (fl : flatK (kvP c (wsC c) vs ++ r) = true) {h : Hi} {d : Nat} (hd : h[d]? = some (.dic (kvP c (wsC c) vs ++ r))) : ∃ h', f__law_is_safe [.ref d] h = .ok (.bl (safeV c vs)) h' ∧ Fr [] h h' := by
  obtain ⟨s', e1, e2⟩ := sfOk V r
  obtain ⟨r', h', v', f1, f2, f3, f4, f5⟩ := lift_fr (r := [d]) (vs' := [.ref d]) [] e1 (.one hd (.self _ fl)) (.cons (.ref rfl) .nil) (fun i o hi ho => by
    cases i with
    | zero => cases ho; exact ⟨e2, fl⟩
    | succ i => simp at ho)
  cases f4
  exact ⟨h', f1, f5⟩
theorem flP {c : Nat} {vs : List VI} (V : Vd c vs) : flatK (kvP c (wsC c) vs ++ []) = true := by
  rw [List.append_nil]
  have f := V.flat
  simp only [kvP, flatK, ML.flatV, Bool.true_and]
  exact f
theorem getP {c i : Nat} {vs : List VI} (V : Vd c vs) {w : S} {v : VI} (hw : (wsC c)[i]? = some w) (e : vs[i]? = some v) : getD (.str w) (kvP c (wsC c) vs) = some v := by
  cases V with
  | e _ _ _ _ _ _ _ _ _ _ => match i, hw, e with
    | 0, rfl, rfl => rfl
    | 1, rfl, rfl => rfl
    | 2, rfl, rfl => rfl
    | 3, rfl, rfl => rfl
    | 4, rfl, rfl => rfl
    | 5, rfl, rfl => rfl
    | 6, rfl, rfl => rfl
    | 7, rfl, rfl => rfl
  | l _ _ _ => match i, hw, e with
    | 0, rfl, rfl => rfl
    | 1, rfl, rfl => rfl
    | 2, rfl, rfl => rfl
  | t _ _ _ _ _ => match i, hw, e with
    | 0, rfl, rfl => rfl
    | 1, rfl, rfl => rfl
    | 2, rfl, rfl => rfl
    | 3, rfl, rfl => rfl
/-- a bool, an int, a text -/
def okS (s : S) : Bool := SeqAt.shaped (.str (toStr s))
def kd : VI → Nat
  | .bl _ => 0
  | .int _ => 1
  | .str s => match okS s with
    | true => 2
    | false => 3
  | _ => 3
def kds (c : Nat) : List Nat := match c with
  | 3 => [1, 1, 0, 2, 2, 2, 2, 0]
  | 4 => [0, 2, 2]
  | _ => [1, 2, 2, 2]
theorem Vd.kd {c : Nat} {vs : List VI} (V : Vd c vs) : vs.map Lw.kd = kds c := by
  have of : ∀ (l : List VI) k, (l.all fun v => Lw.kd v == k) = true → ∀ v ∈ l, Lw.kd v = k := fun l k h v hv => by simpa using List.all_eq_true.mp h v hv
  cases V with
  | e _ _ _ _ h2 h3 h4 h5 h6 h7 =>
    have a2 := of _ 0 (by kernel_rfl) _ h2
    have a3 := of _ 2 (by kernel_rfl) _ h3
    have a4 := of _ 2 (by kernel_rfl) _ h4
    have a5 := of _ 2 (by kernel_rfl) _ h5
    have a6 := of _ 2 (by kernel_rfl) _ h6
    have a7 := of _ 0 (by kernel_rfl) _ h7
    simp only [List.map_cons, List.map_nil, a2, a3, a4, a5, a6, a7]
    rfl
  | l h2 h3 h4 =>
    have a2 := of _ 0 (by kernel_rfl) _ h2
    have a3 := of _ 2 (by kernel_rfl) _ h3
    have a4 := of _ 2 (by kernel_rfl) _ h4
    simp only [List.map_cons, List.map_nil, a2, a3, a4]
    rfl
  | t _ _ h2 h3 h4 =>
    have a2 := of _ 2 (by kernel_rfl) _ h2
    have a3 := of _ 2 (by kernel_rfl) _ h3
    have a4 := of _ 2 (by kernel_rfl) _ h4
    simp only [List.map_cons, List.map_nil, a2, a3, a4]
    rfl
theorem Vd.kd2 {c i : Nat} {us vs : List VI} (U : Vd c us) (V : Vd c vs) {u v : VI} (a : us[i]? = some u) (b : vs[i]? = some v) : Lw.kd u = Lw.kd v ∧ Lw.kd u < 3 := by
  have e := U.kd.trans V.kd.symm
  have e2 := congrArg (·[i]?) e
  simp only [List.getElem?_map, a, b, Option.map_some, Option.some.injEq] at e2
  refine ⟨e2, ?_⟩
  have z := congrArg (·[i]?) U.kd
  simp only [List.getElem?_map, a, Option.map_some] at z
  have m := List.mem_of_getElem? z.symm
  have : ∀ k ∈ kds c, k < 3 := by
    rcases U.isC with rfl | rfl | rfl <;> decide
  exact this _ m
def eqF (x y : VI) : Bool := match fEq x y [] with
  | some (.bl b, _) => b
  | _ => false
theorem eqF_ok : ∀ {x y : VI}, kd x = kd y ∧ kd x < 3 → ∀ h : Hi, fEqX x y h = some (.bl (eqF x y), h)
  | .bl true, .bl true, _, h => by kernel_rfl
  | .bl true, .bl false, _, h => by kernel_rfl
  | .bl false, .bl true, _, h => by kernel_rfl
  | .bl false, .bl false, _, h => by kernel_rfl
  | .int i, .int j, _, h => by kernel_rfl
  | .str i, .str j, k, h => by
    have a : okS i = true := by
      cases z : okS i with
      | true => rfl
      | false => exact absurd k.2 (by simp [kd, z])
    have b : okS j = true := by
      cases z : okS j with
      | true => rfl
      | false => exact absurd k.2 (by rw [k.1]; simp [kd, z])
    unfold okS at a b
    simp only [fEqX, eqF, fEq, eqD, dat, a, b, Bool.and_self]
  | .bl _, .int _, k, _ => by cases k.1
  | .bl _, .str s, k, _ => absurd k.1 (by simp only [kd]; split <;> simp)
  | .int _, .bl _, k, _ => by cases k.1
  | .int _, .str s, k, _ => absurd k.1 (by simp only [kd]; split <;> simp)
  | .str s, .bl _, k, _ => absurd k.1 (by simp only [kd]; split <;> simp)
  | .str s, .int _, k, _ => absurd k.1 (by simp only [kd]; split <;> simp)
  | .non, _, k, _ => absurd k.2 (by simp [kd])
  | .ref _, _, k, _ => absurd k.2 (by simp [kd])
  | .glo _, _, k, _ => absurd k.2 (by simp [kd])
  | .tup _, _, k, _ => absurd k.2 (by simp [kd])
  | x, .non, k, _ => absurd k.2 (by rw [k.1]; simp [kd])
  | x, .ref _, k, _ => absurd k.2 (by rw [k.1]; simp [kd])
  | x, .glo _, k, _ => absurd k.2 (by rw [k.1]; simp [kd])
  | x, .tup _, k, _ => absurd k.2 (by rw [k.1]; simp [kd])
theorem insF {x : VI} (a : kd x < 3) (h : Hi) : insC x h = none := by
  cases x <;> first | rfl | exact absurd a (by simp [kd])
theorem eqz {h : Hi} {a b : Nat} {xs : List VI} (ha : h[a]? = some (.lst xs)) (hb : h[b]? = some (.lst [])) : fEqZ (.ref a) (.ref b) h = some (.bl xs.isEmpty, h) := by
  cases xs with
  | cons x xs =>
    have : Nat.beq (xs.length + 1) 0 = false := rfl
    simp only [fEqZ, ha, hb, List.length_cons, List.length_nil, this, List.isEmpty_cons]
  | nil =>
    have d1 : dat 66 h (.ref a) = some (.list []) := by simp only [dat, ha, datL, Option.map]
    have d2 : dat 66 h (.ref b) = some (.list []) := by simp only [dat, hb, datL, Option.map]
    have s : SeqAt.shaped (.list []) = true := by kernel_rfl
    have q : PyData.eqv (.list []) (.list []) = true := by kernel_rfl
    have n : Nat.beq 0 0 = true := rfl
    simp only [fEqZ, ha, hb, List.length_nil, n, fEqX, fEq, eqD, d1, d2, s, q, Bool.and_self, List.isEmpty_nil]
theorem Cfs.filt {h : Hi} {c i : Nat} {p : VI → Bool} {q : List VI → Bool} : ∀ {ds : List Nat} {cs : List (List VI)}, Cfs h c i ds cs → (∀ d vs, vs ∈ cs → h[d]? = some (.dic (kvP c ((wsC c).take i) vs)) → p (.ref d) = q vs) → ∃ es : List Nat, (ds.map VI.ref).filter p = es.map .ref ∧ Cfs h c i es (cs.filter q)
  | [], [], _, _ => ⟨[], rfl, trivial⟩
  | d :: ds, vs :: cs, C, k => by
    obtain ⟨es, e1, e2⟩ := Cfs.filt (ds := ds) (cs := cs) C.2 (fun d vs hv hd => k d vs (List.mem_cons_of_mem _ hv) hd)
    have kk := k d vs (List.mem_cons_self ..) C.1
    rw [List.map_cons]
    cases z : q vs with
    | true =>
      rw [z] at kk
      refine ⟨d :: es, ?_, ?_⟩
      · rw [List.filter_cons_of_pos (by simpa using kk), e1]; rfl
      · rw [List.filter_cons_of_pos (by simpa using z)]; exact ⟨C.1, e2⟩
    | false =>
      rw [z] at kk
      refine ⟨es, ?_, ?_⟩
      · rw [List.filter_cons_of_neg (by simp [kk]), e1]
      · rw [List.filter_cons_of_neg (by simp [z])]; exact e2
  | [], _ :: _, C, _ => C.elim
  | _ :: _, [], C, _ => C.elim
end Lw
end

section
set_option Elab.async false
set_option linter.all false
set_option maxRecDepth 100000
set_option maxHeartbeats 4000000
namespace Lw
open PySem L2 ML
/-- the safe ones of all -/
def goodC (c : Nat) (v0 : VI) : List (List VI) := (allC c v0 (wsC c).length).filter (safeV c)
/-- whether no safe one has the value v at word i -/
def noneV (c : Nat) (v0 : VI) (i : Nat) (v : VI) : Bool := ((goodC c v0).filter fun us => eqF (us.getD i .non) v).isEmpty
def dueI (c : Nat) (v0 : VI) (vs : List VI) (i : Nat) : Bool := !isFix c i && noneV c v0 i (vs.getD i .non)
def dueL (c : Nat) (v0 : VI) (vs : List VI) (k : Nat) : List S := (List.range k).flatMap fun i => if dueI c v0 vs i then ((wsC c).take (i + 1)).drop i else []
theorem good_g {h : Hi} {d c : Nat} {own : List VI} {hv mv v0 : VI} {x2 x3 x4 x5 : Option VI} (O : Own h d c own hv mv) (h0 : own[0]? = some v0) :
    ∃ n h' gs, eLc (iSeq (eCall f__law_all (aCons (eV 0) aNil))) (.one 2) [2] (tOf (eCall f__law_is_safe (aCons (eV 2) aNil))) (eV 2) [some (.ref d), none, x2, x3, x4, x5] h = .ok (.ref n) h' ∧ h'[n]? = some (.lst (gs.map .ref)) ∧ Cfs h' c (wsC c).length gs (goodC c v0) ∧ Fr [] h h' ∧ h.length ≤ n := by
  have V := O.vd
  obtain ⟨h1, fa, ds, e1, f1, C1, F1⟩ := all_g O h0
  have pre := all_pre V h0 (wsC c).length (Nat.le_refl _)
  have hp : ∀ e k vs, ds[k]? = some e → (allC c v0 (wsC c).length)[k]? = some vs → Vd c vs := fun e k vs _ hv => by
    obtain ⟨l, rest, V'⟩ := pre vs (List.mem_of_getElem? hv)
    have : rest = [] := by
      have := V'.len
      simp only [List.length_append] at this
      exact List.length_eq_zero_iff.mp (by omega)
    subst this
    simpa using V'
  obtain ⟨p, hpd⟩ : ∃ p : VI → Bool, p = fun x => match x with
    | .ref e => match h1[e]? with
      | some (.dic kv) => safeKv kv
      | _ => false
    | _ => false := ⟨_, rfl⟩
  have sz := all_sz V h0 (wsC c).length (Nat.le_refl _)
  have ld := C1.len
  obtain ⟨h', a, b, I, F⟩ := lc_fr (mi := iSeq (eCall f__law_all (aCons (eV 0) aNil))) (t := .one 2) (vs := [2]) (tt := tOf (eCall f__law_is_safe (aCons (eV 2) aNil))) (el := eV 2) (σ := [some (.ref d), none, x2, x3, x4, x5]) (h := h) (h1 := h1) (it := .lst fa) (xs := ds.map .ref)
    (fun h2 => Fr [] h1 h2) (fun x => [some (.ref d), none, some x, x3, x4, x5]) p id
    (by simp only [x_iSeq, x_eCall, x_aCons, x_eV, List.getElem?_cons_zero, x_bind, x_aNil, e1, seq_lst f1, x_ofI])
    (fuel_lst f1) (fun h2 h3 I F => ⟨Nat.le_trans I.len F.len, fun m o _ q => F.get (I.get q (by simp)) (by have := at_lt q; simp; omega)⟩) .app (fun i h2 I => nxt_lst (I.get f1 (by simp)) i) (fun x _ => rfl)
    (fun x hx h2 I => by
      obtain ⟨k, hk⟩ := List.mem_iff_getElem?.mp hx
      rw [List.getElem?_map] at hk
      obtain ⟨e, he, rfl⟩ := Option.map_eq_some_iff.mp hk
      obtain ⟨vs, hvs, hd⟩ := C1.get he
      rw [List.take_length] at hd
      have Ve := hp e k vs he hvs
      obtain ⟨h3, e3, F3⟩ := safe_g Ve [] (flP Ve) (d := e) (h := h2) (by rw [List.append_nil]; exact I.get hd (by simp))
      refine ⟨h3, ?_, F3⟩
      have pp : p (.ref e) = safeV c vs := by rw [hpd]; simp only [hd]
      rw [pp]
      simp only [x_tOf, x_eCall, x_aCons, x_eV, List.getElem?_cons_zero, List.getElem?_cons_succ, x_bind, x_aNil, e3])
    (fun x _ h2 _ => rfl) (by simp; omega)
  obtain ⟨gs, g1, g2⟩ := C1.filt (p := p) (q := safeV c) (fun e vs hv hd => by
    rw [List.take_length] at hd
    rw [hpd]; simp only [hd])
  rw [List.map_id, g1] at b
  refine ⟨_, h', gs, a, b, g2.fr F (by simp), F1.trans F, F1.len⟩
/-- the test of one word -/
theorem alike_g {h : Hi} {d c i gn : Nat} {own : List VI} {hv mv : VI} {gs : List Nat} {cs : List (List VI)} {w : S} {v : VI} {x2 x3 x5 : Option VI} (O : Own h d c own hv mv) (hi : i < (wsC c).length) (hw : (wsC c)[i]? = some w) (he : own[i]? = some v) (hg : h[gn]? = some (.lst (gs.map .ref)))
    (C : Cfs h c (wsC c).length gs cs) (hV : ∀ us ∈ cs, Vd c us) (sz : cs.length ≤ 1000) :
    ∃ h' es, eLc (iSeq (eV 1)) (.one 2) [2] (tOf (eCmpU [3, 4, 5] (lkT [(3, f_BookD_eqD), (4, f_BookD_eqD), (5, f_BookD_eqD)]) fEqX (eIxU gT (eV 2) (eV 4)) (eIxU gT (eV 0) (eV 4)))) (eV 2) [some (.ref d), some (.ref gn), x2, x3, some (.str w), x5] h = .ok (.ref h.length) h' ∧
      h'[h.length]? = some (.lst es) ∧ es.isEmpty = (cs.filter fun us => eqF (us.getD i .non) v).isEmpty ∧ Fr [] h h' := by
  have V := O.vd
  obtain ⟨p, hpd⟩ : ∃ p : VI → Bool, p = fun x => match x with
    | .ref e => match h[e]? with
      | some (.dic kv) => match getD (.str w) kv with
        | some u => eqF u v
        | none => false
      | _ => false
    | _ => false := ⟨_, rfl⟩
  have ld := C.len
  have rd : ∀ e us, us ∈ cs → h[e]? = some (.dic (kvP c ((wsC c).take (wsC c).length) us)) → p (.ref e) = eqF (us.getD i .non) v ∧ getD (.str w) (kvP c (wsC c) us) = some (us.getD i .non) ∧ kd (us.getD i .non) = kd v ∧ kd (us.getD i .non) < 3 := fun e us hu hd => by
    rw [List.take_length] at hd
    have Vu := hV us hu
    have iu : i < us.length := by rw [Vu.len]; exact hi
    have g := getP Vu hw (List.getElem?_eq_getElem iu)
    have ue : us.getD i .non = us[i] := by simp [List.getD, List.getElem?_eq_getElem iu]
    rw [ue]
    refine ⟨?_, g, Vu.kd2 V (List.getElem?_eq_getElem iu) he⟩
    rw [hpd]
    simp only [hd, g]
  obtain ⟨h', a, b, I, F⟩ := lc_fr (mi := iSeq (eV 1)) (t := .one 2) (vs := [2]) (tt := tOf (eCmpU [3, 4, 5] (lkT [(3, f_BookD_eqD), (4, f_BookD_eqD), (5, f_BookD_eqD)]) fEqX (eIxU gT (eV 2) (eV 4)) (eIxU gT (eV 0) (eV 4)))) (el := eV 2) (σ := [some (.ref d), some (.ref gn), x2, x3, some (.str w), x5]) (h := h) (h1 := h) (it := .lst gn) (xs := gs.map .ref)
    (fun h2 => Fr [] h h2) (fun x => [some (.ref d), some (.ref gn), some x, x3, some (.str w), x5]) p id
    (by simp only [x_iSeq, x_eV, List.getElem?_cons_zero, List.getElem?_cons_succ, x_bind, seq_lst hg, x_ofI])
    (fuel_lst hg) (fun h2 h3 I F => ⟨Nat.le_trans I.len F.len, fun m o _ q => F.get (I.get q (by simp)) (by have := at_lt q; simp; omega)⟩) .app (fun i h2 I => nxt_lst (I.get hg (by simp)) i) (fun x _ => rfl)
    (fun x hx h2 I => by
      obtain ⟨k, hk⟩ := List.mem_iff_getElem?.mp hx
      rw [List.getElem?_map] at hk
      obtain ⟨e, he2, rfl⟩ := Option.map_eq_some_iff.mp hk
      obtain ⟨us, hus, hd⟩ := C.get he2
      obtain ⟨q1, q2, q3⟩ := rd e us (List.mem_of_getElem? hus) hd
      rw [List.take_length] at hd
      have hd2 := I.get hd (by simp)
      have O2 := O.fr I (by simp)
      have ov := O2.val hw he
      have oi := O2.ic
      have ie : insC (.ref e) h2 = none := by simp [insC, hd2]
      have xe : fIx (.ref e) (.str w) h2 = some (us.getD i .non, h2) := by simp [fIx, hd2, isKey, q2]
      have i2 := insF q3.2 h2
      have eq := eqF_ok q3 h2
      refine ⟨h2, ?_, .refl⟩
      rw [q1]
      simp only [x_tOf, eCmpU, eIxU, x_eV, List.getElem?_cons_zero, List.getElem?_cons_succ, x_bind, ie, xe, x_ofO, oi, ov, i2, eq])
    (fun x _ h2 _ => rfl) (by simp; omega)
  obtain ⟨es, g1, g2⟩ := C.filt (p := p) (q := fun us => eqF (us.getD i .non) v) (fun e us hu hd => (rd e us hu hd).1)
  rw [List.map_id, g1] at b
  refine ⟨h', _, a, b, ?_, F⟩
  have := g2.len
  cases es <;> cases z : (cs.filter fun us => eqF (us.getD i .non) v) <;> first | rfl | (rw [z] at this; simp at this)
end Lw
end

section
set_option Elab.async false
set_option linter.all false
set_option maxRecDepth 100000
set_option maxHeartbeats 4000000
namespace Lw
open PySem L2 ML
theorem wd_ni {c i : Nat} (hc : isC c) (hi : i < (wsC c).length) {w : S} (hw : (wsC c)[i]? = some w) (h : Hi) (n : Nat) (e : h[n]? = some (.lst [.str s_epochs, .str s_counts])) : fNotIn (.str w) (.ref n) h = some (.bl (!isFix c i), h) := by
  have a := wd_at hc hi hw h n e
  unfold fIn at a
  unfold fNotIn
  cases z : inM (.str w) (.ref n) h with
  | none => rw [z] at a; cases a
  | some b =>
    rw [z] at a
    simp only [Option.some.injEq, Prod.mk.injEq, VI.bl.injEq, and_true] at a
    rw [a]
abbrev bodyF : MS := (sSeq (sAsg (eLc (iSeq (eV 1)) (.one 2) [2] (tOf (eCmpU [3, 4, 5] (lkT [(3, f_BookD_eqD), (4, f_BookD_eqD), (5, f_BookD_eqD)]) fEqX (eIxU gT (eV 2) (eV 4)) (eIxU gT (eV 0) (eV 4)))) (eV 2)) (gNm 5))
  (sSeq (sIf (tAndM (tOf (eBin fNotIn (eV 4) (eLst (aCons (eC (.str s_epochs)) (aCons (eC (.str s_counts)) aNil))))) (tOf (eBin fEqZ (eV 5) (eLst aNil)))) (sDrop (eBM .lst mAppend (eV 3) (aCons (eV 4) aNil))) sNx) sNx))
theorem dueL_s {c : Nat} {v0 : VI} {vs : List VI} {k : Nat} (hk : k < (wsC c).length) : dueL c v0 vs (k + 1) = dueL c v0 vs k ++ (if dueI c v0 vs k then [(wsC c)[k]] else []) := by
  unfold dueL
  rw [List.range_succ, List.flatMap_append]
  have : ((wsC c).take (k + 1)).drop k = [(wsC c)[k]] := by
    rw [List.drop_take, show k + 1 - k = 1 by omega, List.drop_eq_getElem_cons hk]
    rfl
  simp [this]
theorem dueL_len {c : Nat} {v0 : VI} {vs : List VI} : ∀ k, k ≤ (wsC c).length → (dueL c v0 vs k).length ≤ k
  | 0, _ => by simp [dueL]
  | k + 1, h => by
    rw [dueL_s (by omega)]
    have := dueL_len (c := c) (v0 := v0) (vs := vs) k (by omega)
    rw [List.length_append]
    split <;> simp <;> omega
theorem wsC_len (c : Nat) : (wsC c).length ≤ 8 := by
  unfold wsC
  split <;> simp [wsE, wsL, wsT]
theorem faults_l {h : Hi} {d c : Nat} {own : List VI} {hv mv v0 : VI} (O : Own h d c own hv mv) (h0 : own[0]? = some v0) : ∃ n h', f__law_faults [.ref d] h = .ok (.ref n) h' ∧ h'[n]? = some (.lst ((dueL c v0 own (wsC c).length).map .str)) ∧ Fr [] h h' ∧ h.length ≤ n := by
  have V := O.vd
  have hc := V.isC
  obtain ⟨gn, h1, gs, e1, g1, C1, F1, l1⟩ := good_g (x2 := none) (x3 := none) (x4 := none) (x5 := none) O h0
  have s0 : small 0 = true := rfl
  have s2 : small 2 = true := rfl
  have O1 := O.fr F1 (by simp)
  have F2 : Fr [] h1 (h1 ++ [OI.lst []]) := .app
  have O2 := O1.fr F2 (by simp)
  obtain ⟨s, h3, e3, l3, g3, F3⟩ := sw_c hc (h1 ++ [OI.lst []])
  simp only [List.length_append, List.length_cons, List.length_nil] at l3
  have O3 := O2.fr F3 (by simp)
  have d3 : h3[h1.length]? = some (.lst []) := F3.get (by simp) (by simp)
  have gn3 := F3.get (F2.get g1 (by simp)) (by simp)
  have C3 := (C1.fr F2 (by simp)).fr F3 (by simp)
  have gnl := at_lt g1
  have nd : d ≠ h1.length := by
    have := at_lt O1.at_
    omega
  have nl : ∀ p ∈ [h1.length], ∀ kv, h3[p]? ≠ some (.dic kv) := fun p hp kv z => by
    rw [List.mem_singleton.mp hp, d3] at z; cases z
  have goodV : ∀ us ∈ goodC c v0, Vd c us := fun us hu => by
    have := all_pre V h0 (wsC c).length (Nat.le_refl _) us (List.mem_filter.mp hu).1
    obtain ⟨l, rest, V'⟩ := this
    have : rest = [] := by
      have := V'.len
      simp only [List.length_append] at this
      exact List.length_eq_zero_iff.mp (by omega)
    subst this
    simpa using V'
  have sz : (goodC c v0).length ≤ 1000 := Nat.le_trans (List.length_filter_le _ _) (all_sz V h0 _ (Nat.le_refl _))
  obtain ⟨σ', h', e, x2, x4, x5, es, ef, F⟩ := turns_inv (it := .lst s) (g := gNm 4) (body := bodyF) (wsC c).length
    (fun k σ h2 => ∃ x2 x4 x5, σ = [some (.ref d), some (.ref gn), x2, some (.ref h1.length), x4, x5] ∧ h2[h1.length]? = some (.lst ((dueL c v0 own k).map .str)) ∧ Fr [h1.length] h3 h2)
    (fun k σ h2 hk ⟨x2, x4, x5, es, ef, F⟩ => by
      subst es
      have gs2 := F.get g3 (by simp; omega)
      have O4 := O3.fr F (by simpa using nd)
      have gn4 := F.get gn3 (by simp; omega)
      have C4 := C3.fr F nl
      have ko : k < own.length := by rw [V.len]; exact hk
      have hwk : (wsC c)[k]? = some (wsC c)[k] := List.getElem?_eq_getElem hk
      have hok : own[k]? = some own[k] := List.getElem?_eq_getElem ko
      have ow : own.getD k .non = own[k] := by simp [List.getD, hok]
      obtain ⟨h4, al, e4, f4, em, F4⟩ := alike_g (x2 := x2) (x3 := some (.ref h1.length)) (x5 := x5) O4 hk hwk hok gn4 C4 goodV sz
      have nx : (Itm.lst s).nxt k h2 = some (some (.str (wsC c)[k])) := by
        rw [nxt_lst gs2, List.getElem?_map, List.getElem?_eq_getElem hk]; rfl
      have due4 := F4.get ef (by simp)
      have due4l := at_lt due4
      have F5 : Fr [] h4 (h4 ++ [OI.lst [.str s_epochs, .str s_counts]]) := .app
      have ni := wd_ni hc hk hwk (h4 ++ [OI.lst [.str s_epochs, .str s_counts]]) h4.length (by simp)
      have de : dueI c v0 own k = (!isFix c k && al.isEmpty) := by
        unfold dueI noneV
        rw [em, ow]
      have le := dueL_len (c := c) (v0 := v0) (vs := own) k (by omega)
      have w8 := wsC_len c
      cases fx : isFix c k with
      | true =>
        rw [fx] at ni de
        refine ⟨.str (wsC c)[k], _, h2, _, h4 ++ [.lst [.str s_epochs, .str s_counts]], nx, rfl, ?_, ⟨x2, some (.str (wsC c)[k]), some (.ref h2.length), rfl, ?_, (F.trans (F4.weak (by simp))).trans .app⟩⟩
        · simp only [bodyF, List.set_cons_succ, List.set_cons_zero, x_sSeq, x_sAsg, e4, x_bindS, x_gNm, x_nx, x_sIf, x_tAnd, x_tOf, x_eBin, x_eV, List.getElem?_cons_succ, List.getElem?_cons_zero, eLst, x_aCons, x_eC, x_aNil, x_bind, List.length_cons, List.length_nil, s2, Nat.zero_add, Nat.reduceAdd, ni, x_ofO, Bool.not_true, x_sNx]
        · rw [dueL_s hk, de]
          simp only [Bool.not_true, Bool.false_and, Bool.false_eq_true, if_false, List.append_nil]
          exact F5.get due4 (by simp)
      | false =>
        rw [fx] at ni de
        have F6 : Fr [] (h4 ++ [OI.lst [.str s_epochs, .str s_counts]]) ((h4 ++ [OI.lst [.str s_epochs, .str s_counts]]) ++ [OI.lst []]) := .app
        have z1 := F6.get (F5.get f4 (by simp)) (by simp)
        have z2 : ((h4 ++ [OI.lst [.str s_epochs, .str s_counts]]) ++ [OI.lst []])[(h4 ++ [OI.lst [.str s_epochs, .str s_counts]]).length]? = some (.lst []) := by simp
        have ez := eqz z1 z2
        have due6 := F6.get (F5.get due4 (by simp)) (by simp)
        cases ae : al.isEmpty with
        | false =>
          rw [ae] at ez de
          refine ⟨.str (wsC c)[k], _, h2, _, (h4 ++ [.lst [.str s_epochs, .str s_counts]]) ++ [.lst []], nx, rfl, ?_, ⟨x2, some (.str (wsC c)[k]), some (.ref h2.length), rfl, ?_, (F.trans (F4.weak (by simp))).trans (Fr.trans .app .app)⟩⟩
          · simp only [bodyF, List.set_cons_succ, List.set_cons_zero, x_sSeq, x_sAsg, e4, x_bindS, x_gNm, x_nx, x_sIf, x_tAnd, x_tOf, x_eBin, x_eV, List.getElem?_cons_succ, List.getElem?_cons_zero, eLst, x_aCons, x_eC, x_aNil, x_bind, List.length_cons, List.length_nil, s2, s0, Nat.zero_add, Nat.reduceAdd, ni, x_ofO, Bool.not_false, ez, x_sNx]
          · rw [dueL_s hk, de]
            simp only [Bool.not_false, Bool.true_and, Bool.false_eq_true, if_false, List.append_nil]
            exact due6
        | true =>
          rw [ae] at ez de
          have sm : small (((dueL c v0 own k).map VI.str).length + 1) = true := by simp [small]; omega
          have kk : kOk .lst (.ref h1.length) ((h4 ++ [OI.lst [.str s_epochs, .str s_counts]]) ++ [OI.lst []]) = true := by simp only [kOk, due6]
          have ap : mAppend (.ref h1.length) [.str (wsC c)[k]] ((h4 ++ [OI.lst [.str s_epochs, .str s_counts]]) ++ [OI.lst []]) = some (.non, ((h4 ++ [OI.lst [.str s_epochs, .str s_counts]]) ++ [OI.lst []]).set h1.length (.lst ((dueL c v0 own k).map .str ++ [.str (wsC c)[k]]))) := by
            simp only [mAppend, due6, sm]
          refine ⟨.str (wsC c)[k], _, h2, _, ((h4 ++ [OI.lst [.str s_epochs, .str s_counts]]) ++ [OI.lst []]).set h1.length (.lst ((dueL c v0 own k).map .str ++ [.str (wsC c)[k]])), nx, rfl, ?_, ⟨x2, some (.str (wsC c)[k]), some (.ref h2.length), rfl, ?_, ((F.trans (F4.weak (by simp))).trans (Fr.trans .app .app)).trans .set⟩⟩
          · simp only [bodyF, List.set_cons_succ, List.set_cons_zero, x_sSeq, x_sAsg, e4, x_bindS, x_gNm, x_nx, x_sIf, x_tAnd, x_tOf, x_eBin, x_eV, List.getElem?_cons_succ, List.getElem?_cons_zero, eLst, x_aCons, x_eC, x_aNil, x_bind, List.length_cons, List.length_nil, s2, s0, Nat.zero_add, Nat.reduceAdd, ni, x_ofO, Bool.not_false, ez, x_sDrop, eBM, kk, ap, x_sNx]
          · rw [dueL_s hk, de, List.getElem?_set_self (by simp; omega)]
            simp)
    (fun σ h2 ⟨x2, x4, x5, es, ef, F⟩ => by
      have gs2 := F.get g3 (by simp; omega)
      rw [nxt_lst gs2]
      simp) (wsC c).length 0 [some (.ref d), some (.ref gn), none, some (.ref h1.length), none, none] h3 (by omega) ⟨_, _, _, rfl, by simpa [dueL] using d3, .refl⟩
  refine ⟨h1.length, h', ?_, ef, ?_, F1.len⟩
  · have ow2 := O2.way
    have oi2 := O2.ic
    have fu := fuel_lst g3
    rw [List.length_map] at fu
    have sq := seq_lst g3
    subst es
    unfold f__law_faults m__law_faults
    rw [x_run1]
    show endB (sSeq _ _ [some (.ref d), none, none, none, none, none] h) = _
    rw [x_sSeq, x_sAsg, e1]
    simp only [x_bindS, x_gNm, x_nx, List.set_cons_succ, List.set_cons_zero, x_sSeq, x_sAsg, eLst, x_aNil, x_bind, List.length_nil, s0, x_sFor, x_iSeq, x_eCall, x_aCons, eIxU, x_eV, x_eC, List.getElem?_cons_zero, oi2, ow2, x_ofO, e3, sq, x_ofI, fu, e, x_sRet, List.getElem?_cons_succ, x_rt, x_endR]
  · exact ⟨Nat.le_trans F1.len (Nat.le_trans F2.len (Nat.le_trans F3.len F.len)), fun m o _ q => by
      have a := at_lt (F1.get q (by simp))
      exact F.get (F3.get (F2.get (F1.get q (by simp)) (by simp)) (by simp)) (by simp; omega)⟩
end Lw
end

section
set_option Elab.async false
set_option linter.all false
set_option maxRecDepth 100000
set_option maxHeartbeats 4000000
namespace Lw
open PySem L2 ML
def isB (v : VI) : Bool := match v with
  | .bl b => b
  | _ => false
def fl6 (q1 q2 q3 q4 q6 q7 : Bool) : List VI := [.tup [.str s_behind, .bl q1], .tup [.str s_check, .bl q2], .tup [.str s_fetch, .bl q3], .tup [.str s_mark, .bl q4], .tup [.str s_step, .bl q6], .tup [.str s_told, .bl q7]]
def pr6 (q1 q2 q3 q4 q6 q7 : Bool) : List S := (if q1 then [s_behind] else []) ++ ((if q2 then [s_check] else []) ++ ((if q3 then [s_fetch] else []) ++ ((if q4 then [s_mark] else []) ++ ((if q6 then [s_step] else []) ++ (if q7 then [s_told] else [])))))
def prL : List VI → List S
  | [v0, v1, v2, v3, v4, _, v6, v7] => pr6 (eqF v1 (.int 1)) (eqF v0 (.int 2) && !isB v2) (eqF v3 (.str s_ahead)) (eqF v0 (.int 2) && eqF v4 (.str s_own)) (eqF v6 (.str s_add)) (!isB v7)
  | _ => []
theorem ef_g {h : Hi} {b d o : Nat} {v0 v1 v2 v3 v4 v5 v6 v7 : VI} (B : Bk h b 3 [v0, v1, v2, v3, v4, v5, v6, v7] d o) :
    f_epoch_faults [.ref b] h = .ok (.ref h.length) (h ++ [.lst (fl6 (eqF v1 (.int 1)) (eqF v0 (.int 2) && !isB v2) (eqF v3 (.str s_ahead)) (eqF v0 (.int 2) && eqF v4 (.str s_own)) (eqF v6 (.str s_add)) (!isB v7))]) := by
  have bi := B.ic
  have gs : gT 3 = some f_BookD_getitemD := rfl
  have g (i : Nat) (w : S) (v : VI) (hw : wsE[i]? = some w) (hv : [v0, v1, v2, v3, v4, v5, v6, v7][i]? = some v) : f_BookD_getitemD [.ref b, .str w] h = .ok v h := get_g B.at_ (.inl rfl) (List.mem_of_getElem? (show (wsC 3)[i]? = some w from hw)) (B.val hw hv)
  have g0 := g 0 s_epochs v0 rfl rfl
  have g1 := g 1 s_behind v1 rfl rfl
  have g2 := g 2 s_check v2 rfl rfl
  have g3 := g 3 s_fetch v3 rfl rfl
  have g4 := g 4 s_mark v4 rfl rfl
  have g6 := g 6 s_step v6 rfl rfl
  have g7 := g 7 s_told v7 rfl rfl
  have V := B.vd
  obtain ⟨e0, e1, e3, e4, e6, ⟨q2, e2⟩, ⟨q7, e7⟩⟩ : fEq v0 (.int 2) h = some (.bl (eqF v0 (.int 2)), h) ∧ fEq v1 (.int 1) h = some (.bl (eqF v1 (.int 1)), h) ∧ fEq v3 (.str s_ahead) h = some (.bl (eqF v3 (.str s_ahead)), h) ∧ fEq v4 (.str s_own) h = some (.bl (eqF v4 (.str s_own)), h) ∧ fEq v6 (.str s_add) h = some (.bl (eqF v6 (.str s_add)), h) ∧ (∃ q, v2 = .bl q) ∧ (∃ q, v7 = .bl q) := by
    cases V with
    | @e e b _ _ _ _ _ _ e2 e6 b1 be h2 h3 h4 h5 h6 h7 =>
      refine ⟨by kernel_rfl, by kernel_rfl, ?_, ?_, ?_, ?_, ?_⟩
      · rcases m2 h3 with rfl | rfl <;> kernel_rfl
      · rcases m2 h4 with rfl | rfl <;> kernel_rfl
      · rcases m3 h6 with rfl | rfl | rfl <;> kernel_rfl
      · rcases m2 h2 with rfl | rfl <;> exact ⟨_, rfl⟩
      · rcases m2 h7 with rfl | rfl <;> exact ⟨_, rfl⟩
  subst e2
  subst e7
  have s2 : small 2 = true := rfl
  have s6 : small 6 = true := rfl
  unfold f_epoch_faults m_epoch_faults fl6
  cases q0 : eqF v0 (.int 2) <;> rw [q0] at e0 <;>
  simp only [x_run1, x_rep1, x_sSeq, x_sAsg, x_eBin, eIxU, x_eV, x_eC, List.getElem?_cons_zero, List.getElem?_cons_succ, x_bind, bi, gs, g0, g1, g2, g3, g4, g6, g7, e0, e1, e3, e4, e6, x_ofO, x_bindS, x_gNm, x_nx, List.set_cons_succ, List.set_cons_zero, x_sRet, eLst, eTup, x_aCons, x_aNil, eAnd, eNot, List.length_cons, List.length_nil, s2, s6, Nat.zero_add, Nat.reduceAdd, x_rt, x_endR, isB, Bool.true_and, Bool.false_and]
theorem look_g {h : Hi} {b c d o : Nat} {vs : List VI} (B : Bk h b c vs d o) : f_look_at_book [.ref b] h = .ok .non h := by
  have hb := B.at_.ins
  have i1 : isT i_EpochBook_LookBook_StillBook.t (.ref b) h = some true := by
    unfold isT
    rcases B.vd.isC with rfl | rfl | rfl <;> simp [hb] <;> rfl
  unfold f_look_at_book m_look_at_book f_is_book m_is_book
  simp [eIsi, i1]
theorem way_g {h : Hi} {b c d o : Nat} {vs : List VI} (B : Bk h b c vs d o) : f_Book_way [.ref b] h = .ok (.str (Wn c)) h := by
  have hb := B.at_.ins
  have nw : getF s_WAY [(s_own, .ref d), (s_order, .ref o)] = none := rfl
  unfold f_Book_way m_Book_way
  have t : lkT [(2, (VI.str s_empty)), (3, (.str s_epochs)), (4, (.str s_looks)), (5, (.str s_still))] c = some (.str (Wn c)) := by
    rcases B.vd.isC with rfl | rfl | rfl <;> rfl
  simp [eCon, hb, nw, t]
theorem fl6_f (q1 q2 q3 q4 q6 q7 : Bool) : ((fl6 q1 q2 q3 q4 q6 q7).filter fun x => match x with | .tup [_, .bl b] => b | _ => false).map (fun x => match x with | .tup [w, _] => w | _ => .non) = (pr6 q1 q2 q3 q4 q6 q7).map .str := by
  cases q1 <;> cases q2 <;> cases q3 <;> cases q4 <;> cases q6 <;> cases q7 <;> rfl
theorem fl6_m {q1 q2 q3 q4 q6 q7 : Bool} {x : VI} (hx : x ∈ fl6 q1 q2 q3 q4 q6 q7) : ∃ w q, x = .tup [.str w, .bl q] := by
  simp only [fl6, List.mem_cons, List.mem_nil_iff, or_false] at hx
  rcases hx with rfl | rfl | rfl | rfl | rfl | rfl <;> exact ⟨_, _, rfl⟩
theorem prog3 {h : Hi} {b d o : Nat} {v0 v1 v2 v3 v4 v5 v6 v7 : VI} (B : Bk h b 3 [v0, v1, v2, v3, v4, v5, v6, v7] d o) :
    ∃ n h', f_faults [.ref b] h = .ok (.ref n) h' ∧ h'[n]? = some (.lst ((prL [v0, v1, v2, v3, v4, v5, v6, v7]).map .str)) ∧ Fr [] h h' ∧ h.length ≤ n := by
  have lk := look_g B
  have wy := way_g B
  have ef := ef_g B
  have hb := B.at_.ins
  obtain ⟨T, eT⟩ : ∃ T, T = fl6 (eqF v1 (.int 1)) (eqF v0 (.int 2) && !isB v2) (eqF v3 (.str s_ahead)) (eqF v0 (.int 2) && eqF v4 (.str s_own)) (eqF v6 (.str s_add)) (!isB v7) := ⟨_, rfl⟩
  have hm : ∀ x ∈ T, ∃ w q, x = .tup [.str w, .bl q] := fun x hx => fl6_m (by rw [eT] at hx; exact hx)
  have eF : (T.filter fun x => match x with | .tup [_, .bl b] => b | _ => false).map (fun x => match x with | .tup [w, _] => w | _ => .non) = (prL [v0, v1, v2, v3, v4, v5, v6, v7]).map .str := by rw [eT]; exact fl6_f ..
  have lT : T.length = 6 := by rw [eT]; rfl
  rw [← eT] at ef
  have f1 : (h ++ [OI.lst T])[h.length]? = some (.lst T) := by simp
  have kf : lkF [(s_epoch_faults, f_epoch_faults), (s_look_faults, f_look_faults), (s_still_faults, f_still_faults)] s_epoch_faults = some f_epoch_faults := rfl
  obtain ⟨h', a, bb, I, F⟩ := lc_fr (mi := iSeq (eCallL 1 (lkF [(s_epoch_faults, f_epoch_faults), (s_look_faults, f_look_faults), (s_still_faults, f_still_faults)]) (aCons (eV 0) aNil))) (t := .many [2, 3]) (vs := [2, 3]) (tt := tOf (eV 3)) (el := eV 2) (σ := [some (.ref b), some (.glo s_epoch_faults), none, none]) (h := h) (h1 := h ++ [.lst T]) (it := .lst h.length) (xs := T)
    (fun h2 => Fr [] (h ++ [.lst T]) h2) (fun x => match x with | .tup [w, q] => [some (.ref b), some (.glo s_epoch_faults), some w, some q] | _ => []) (fun x => match x with | .tup [_, .bl b] => b | _ => false) (fun x => match x with | .tup [w, _] => w | _ => .non)
    (by simp only [x_iSeq, eCallL, List.getElem?_cons_zero, List.getElem?_cons_succ, kf, x_aCons, x_eV, x_bind, x_aNil, ef, seq_lst f1, x_ofI])
    (fuel_lst f1) (fun h2 h3 I F => ⟨Nat.le_trans I.len F.len, fun m o _ q => F.get (I.get q (by simp)) (by have := at_lt q; simp at this ⊢; omega)⟩) .app (fun i h2 I => nxt_lst (I.get f1 (by simp)) i)
    (fun x hx => by
      obtain ⟨w, q, rfl⟩ := hm x hx
      rfl)
    (fun x hx h2 I => by
      obtain ⟨w, q, rfl⟩ := hm x hx
      exact ⟨h2, rfl, .refl⟩)
    (fun x hx h2 I => by
      obtain ⟨w, q, rfl⟩ := hm x hx
      rfl) (by omega)
  rw [eF] at bb
  have wt : lkT [(2, f_Book_way), (3, f_Book_way), (4, f_Book_way), (5, f_Book_way)] 3 = some f_Book_way := rfl
  have wt2 : lkS tb_FAULTS (Wn 3) = some (.glo s_epoch_faults) := by kernel_rfl
  refine ⟨_, h', ?_, bb, (Fr.app).trans F, by simp⟩
  unfold f_faults m_faults
  rw [x_run1]
  show endB (sSeq _ _ [some (.ref b), none, none, none] h) = _
  simp only [x_sSeq, x_sDrop, x_eCall, x_aCons, x_eV, List.getElem?_cons_zero, x_bind, x_aNil, lk, x_bindS, x_nx, x_sAsg, eKd, eProp, hb, wt, wy, x_okM, wt2, x_gNm, List.set_cons_succ, List.set_cons_zero, x_sRet, a, x_rt, x_endR]
end Lw
end

section
set_option Elab.async false
set_option linter.all false
set_option maxRecDepth 100000
set_option maxHeartbeats 4000000
namespace Lw
open PySem L2 ML
def goodE (e : Nat) : List (List VI) :=
  (List.range e).flatMap fun b => [false, true].flatMap fun ck => [false, true].flatMap fun fr => [s_last, s_equal].flatMap fun ts => [s_set, s_still].flatMap fun st =>
    match (match ck with | true => Nat.ble (match fr with | true => 1 | false => 2) b | false => fr && (match ts with | 101 :: _ => true | _ => false) && Nat.ble 2 b) with
    | true => [[.int e, .int (b + 1 : Nat), .bl ck, .str s_behind, .str (match fr with | true => s_fresh | false => s_own), .str ts, .str st, .bl true]]
    | false => []
theorem good2 : goodC 3 (.int (2 : Nat)) = goodE 2 := by kernel_rfl
theorem good3 : goodC 3 (.int (3 : Nat)) = goodE 3 := by kernel_rfl
theorem good4 : goodC 3 (.int (4 : Nat)) = goodE 4 := by kernel_rfl
theorem good5 : goodC 3 (.int (5 : Nat)) = goodE 5 := by kernel_rfl
theorem good6 : goodC 3 (.int (6 : Nat)) = goodE 6 := by kernel_rfl
theorem noneE {e : Nat} (e2 : 2 ≤ e) (e6 : e ≤ 6) (i : Nat) (v : VI) : noneV 3 (.int e) i v = ((goodE e).filter fun us => eqF (us.getD i .non) v).isEmpty := by
  unfold noneV
  rcases (by omega : e = 2 ∨ e = 3 ∨ e = 4 ∨ e = 5 ∨ e = 6) with rfl | rfl | rfl | rfl | rfl
  · rw [good2]
  · rw [good3]
  · rw [good4]
  · rw [good5]
  · rw [good6]
theorem n1 {e b : Nat} (e2 : 2 ≤ e) (e6 : e ≤ 6) (b1 : 1 ≤ b) (be : b ≤ e) : noneV 3 (.int e) 1 (.int b) = eqF (.int b) (.int 1) := by
  rw [noneE e2 e6]
  rcases (by omega : e = 2 ∨ e = 3 ∨ e = 4 ∨ e = 5 ∨ e = 6) with rfl | rfl | rfl | rfl | rfl
  · rcases (by omega : b = 1 ∨ b = 2) with rfl | rfl <;> kernel_rfl
  · rcases (by omega : b = 1 ∨ b = 2 ∨ b = 3) with rfl | rfl | rfl <;> kernel_rfl
  · rcases (by omega : b = 1 ∨ b = 2 ∨ b = 3 ∨ b = 4) with rfl | rfl | rfl | rfl <;> kernel_rfl
  · rcases (by omega : b = 1 ∨ b = 2 ∨ b = 3 ∨ b = 4 ∨ b = 5) with rfl | rfl | rfl | rfl | rfl <;> kernel_rfl
  · rcases (by omega : b = 1 ∨ b = 2 ∨ b = 3 ∨ b = 4 ∨ b = 5 ∨ b = 6) with rfl | rfl | rfl | rfl | rfl | rfl <;> kernel_rfl
theorem n2 {e : Nat} {v : VI} (e2 : 2 ≤ e) (e6 : e ≤ 6) (h : v ∈ bools) : noneV 3 (.int e) 2 v = (eqF (.int e) (.int 2) && !isB v) := by
  rw [noneE e2 e6]
  rcases (by omega : e = 2 ∨ e = 3 ∨ e = 4 ∨ e = 5 ∨ e = 6) with rfl | rfl | rfl | rfl | rfl <;> rcases m2 h with rfl | rfl <;> kernel_rfl
theorem n3 {e : Nat} {v : VI} (e2 : 2 ≤ e) (e6 : e ≤ 6) (h : v ∈ lAB) : noneV 3 (.int e) 3 v = eqF v (.str s_ahead) := by
  rw [noneE e2 e6]
  rcases (by omega : e = 2 ∨ e = 3 ∨ e = 4 ∨ e = 5 ∨ e = 6) with rfl | rfl | rfl | rfl | rfl <;> rcases m2 h with rfl | rfl <;> kernel_rfl
theorem n4 {e : Nat} {v : VI} (e2 : 2 ≤ e) (e6 : e ≤ 6) (h : v ∈ lMark) : noneV 3 (.int e) 4 v = (eqF (.int e) (.int 2) && eqF v (.str s_own)) := by
  rw [noneE e2 e6]
  rcases (by omega : e = 2 ∨ e = 3 ∨ e = 4 ∨ e = 5 ∨ e = 6) with rfl | rfl | rfl | rfl | rfl <;> rcases m2 h with rfl | rfl <;> kernel_rfl
theorem n5 {e : Nat} {v : VI} (e2 : 2 ≤ e) (e6 : e ≤ 6) (h : v ∈ lTest) : noneV 3 (.int e) 5 v = false := by
  rw [noneE e2 e6]
  rcases (by omega : e = 2 ∨ e = 3 ∨ e = 4 ∨ e = 5 ∨ e = 6) with rfl | rfl | rfl | rfl | rfl <;> rcases m2 h with rfl | rfl <;> kernel_rfl
theorem n6 {e : Nat} {v : VI} (e2 : 2 ≤ e) (e6 : e ≤ 6) (h : v ∈ lStep) : noneV 3 (.int e) 6 v = eqF v (.str s_add) := by
  rw [noneE e2 e6]
  rcases (by omega : e = 2 ∨ e = 3 ∨ e = 4 ∨ e = 5 ∨ e = 6) with rfl | rfl | rfl | rfl | rfl <;> rcases m3 h with rfl | rfl | rfl <;> kernel_rfl
theorem n7 {e : Nat} {v : VI} (e2 : 2 ≤ e) (e6 : e ≤ 6) (h : v ∈ bools) : noneV 3 (.int e) 7 v = !isB v := by
  rw [noneE e2 e6]
  rcases (by omega : e = 2 ∨ e = 3 ∨ e = 4 ∨ e = 5 ∨ e = 6) with rfl | rfl | rfl | rfl | rfl <;> rcases m2 h with rfl | rfl <;> kernel_rfl
theorem dI {c : Nat} (v0 : VI) (vs : List VI) (i : Nat) (f : isFix c i = false) : dueI c v0 vs i = noneV c v0 i (vs.getD i .non) := by
  unfold dueI
  rw [f]
  rfl
theorem due3 (v0 : VI) (vs : List VI) : dueL 3 v0 vs 8 = (if dueI 3 v0 vs 0 then [s_epochs] else []) ++ ((if dueI 3 v0 vs 1 then [s_behind] else []) ++ ((if dueI 3 v0 vs 2 then [s_check] else []) ++ ((if dueI 3 v0 vs 3 then [s_fetch] else []) ++ ((if dueI 3 v0 vs 4 then [s_mark] else []) ++ ((if dueI 3 v0 vs 5 then [s_test] else []) ++ ((if dueI 3 v0 vs 6 then [s_step] else []) ++ ((if dueI 3 v0 vs 7 then [s_told] else []) ++ []))))))) := rfl
theorem due_pr {e b : Nat} {v2 v3 v4 v5 v6 v7 : VI} (V : Vd 3 [.int e, .int b, v2, v3, v4, v5, v6, v7]) : prL [.int e, .int b, v2, v3, v4, v5, v6, v7] = dueL 3 (.int e) [.int e, .int b, v2, v3, v4, v5, v6, v7] 8 := by
  cases V with
  | e e2 e6 b1 be h2 h3 h4 h5 h6 h7 =>
    have d0 : dueI 3 (.int e) [.int e, .int b, v2, v3, v4, v5, v6, v7] 0 = false := by
      unfold dueI
      rw [show isFix 3 0 = true from rfl]
      rfl
    have d1 : dueI 3 (.int e) [.int e, .int b, v2, v3, v4, v5, v6, v7] 1 = noneV 3 (.int e) 1 (.int b) := dI _ _ _ rfl
    have d2 : dueI 3 (.int e) [.int e, .int b, v2, v3, v4, v5, v6, v7] 2 = noneV 3 (.int e) 2 v2 := dI _ _ _ rfl
    have d3 : dueI 3 (.int e) [.int e, .int b, v2, v3, v4, v5, v6, v7] 3 = noneV 3 (.int e) 3 v3 := dI _ _ _ rfl
    have d4 : dueI 3 (.int e) [.int e, .int b, v2, v3, v4, v5, v6, v7] 4 = noneV 3 (.int e) 4 v4 := dI _ _ _ rfl
    have d5 : dueI 3 (.int e) [.int e, .int b, v2, v3, v4, v5, v6, v7] 5 = noneV 3 (.int e) 5 v5 := dI _ _ _ rfl
    have d6 : dueI 3 (.int e) [.int e, .int b, v2, v3, v4, v5, v6, v7] 6 = noneV 3 (.int e) 6 v6 := dI _ _ _ rfl
    have d7 : dueI 3 (.int e) [.int e, .int b, v2, v3, v4, v5, v6, v7] 7 = noneV 3 (.int e) 7 v7 := dI _ _ _ rfl
    rw [due3, d0, d1, d2, d3, d4, d5, d6, d7, n1 e2 e6 b1 be, n2 e2 e6 h2, n3 e2 e6 h3, n4 e2 e6 h4, n5 e2 e6 h5, n6 e2 e6 h6, n7 e2 e6 h7]
    simp [prL, pr6]
/-- no fault where the book is safe -/
theorem pr_safe {e b : Nat} {v2 v3 v4 v5 v6 v7 : VI} (V : Vd 3 [.int e, .int b, v2, v3, v4, v5, v6, v7]) : prL [.int e, .int b, v2, v3, v4, v5, v6, v7] = [] ∨ safeV 3 [.int e, .int b, v2, v3, v4, v5, v6, v7] = false := by
  cases V with
  | e e2 e6 b1 be h2 h3 h4 h5 h6 h7 =>
    rcases m2 h3 with rfl | rfl
    · exact .inr (by kernel_rfl)
    · rcases m2 h7 with rfl | rfl
      · exact .inr (by kernel_rfl)
      · rcases m3 h6 with rfl | rfl | rfl
        · exact .inr (by kernel_rfl)
        all_goals
          rcases m2 h2 with rfl | rfl <;> rcases m2 h4 with rfl | rfl <;> rcases m2 h5 with rfl | rfl <;> rcases (by omega : e = 2 ∨ e = 3 ∨ e = 4 ∨ e = 5 ∨ e = 6) with rfl | rfl | rfl | rfl | rfl <;> rcases (by omega : b = 1 ∨ b = 2 ∨ b = 3 ∨ b = 4 ∨ b = 5 ∨ b = 6) with rfl | rfl | rfl | rfl | rfl | rfl <;> first | exact absurd be (by decide) | exact .inl (by decide +kernel) | exact .inr (by decide +kernel)
end Lw
end

section
set_option Elab.async false
set_option linter.all false
set_option maxRecDepth 100000
set_option maxHeartbeats 4000000
namespace Lw
open PySem L2 ML
def PgOk (c : Nat) (vs : List VI) (hv mv : VI) (l : List S) : Prop := ∃ n s', f_faults [.ref 0] (sTold c vs hv mv) = .ok (.ref (n + 4)) s' ∧ s'.take 4 = sTold c vs hv mv ∧ s'[n + 4]? = some (.lst (l.map .str))
theorem pgOk_of {c : Nat} {vs : List VI} {hv mv : VI} {l : List S} (a : f_faults [.ref 0] (sTold c vs hv mv) = .ok (.ref (refOf (f_faults [.ref 0] (sTold c vs hv mv)) - 4 + 4)) (hpOf (f_faults [.ref 0] (sTold c vs hv mv))))
    (b : (hpOf (f_faults [.ref 0] (sTold c vs hv mv))).take 4 = sTold c vs hv mv) (d : (hpOf (f_faults [.ref 0] (sTold c vs hv mv)))[refOf (f_faults [.ref 0] (sTold c vs hv mv)) - 4 + 4]? = some (.lst (l.map .str))) : PgOk c vs hv mv l := ⟨_, _, a, b, d⟩
theorem pg4 {v0 v1 v2 : VI} (V : Vd 4 [v0, v1, v2]) (hv mv : VI) : PgOk 4 [v0, v1, v2] hv mv (dueL 4 v0 [v0, v1, v2] 3) ∧ (dueL 4 v0 [v0, v1, v2] 3 = [] ∨ safeV 4 [v0, v1, v2] = false) := by
  cases V with
  | l h0 h1 h2 => rcases m2 h0 with rfl | rfl <;> rcases m2 h1 with rfl | rfl <;> rcases m3 h2 with rfl | rfl | rfl <;> exact ⟨pgOk_of (by kernel_rfl) (by kernel_rfl) (by kernel_rfl), by first | exact .inl (by decide +kernel) | exact .inr (by decide +kernel)⟩
theorem pg5 {k : Nat} {v1 v2 v3 : VI} (V : Vd 5 [.int k, v1, v2, v3]) (hv mv : VI) : PgOk 5 [.int k, v1, v2, v3] hv mv (dueL 5 (.int k) [.int k, v1, v2, v3] 4) ∧ (dueL 5 (.int k) [.int k, v1, v2, v3] 4 = [] ∨ safeV 5 [.int k, v1, v2, v3] = false) := by
  cases V with
  | t k1 k4 h1 h2 h3 => rcases (by omega : k = 1 ∨ k = 2 ∨ k = 3 ∨ k = 4) with rfl | rfl | rfl | rfl <;> rcases m2 h1 with rfl | rfl <;> rcases m2 h2 with rfl | rfl <;> rcases m4 h3 with rfl | rfl | rfl | rfl <;> exact ⟨pgOk_of (by kernel_rfl) (by kernel_rfl) (by kernel_rfl), by first | exact .inl (by decide +kernel) | exact .inr (by decide +kernel)⟩
theorem flS : ∀ l : List S, flatVs (l.map .str) = true
  | [] => rfl
  | a :: l => by simp [flatVs, ML.flatV, flS l]
theorem pg_g {h : Hi} {b c d o l : Nat} {vs : List VI} {hv mv : VI} {w : List S} (B : Bk h b c vs d o) (O : Own h l c vs hv mv) (db : d ≠ b) (ob : o ≠ b) (dl : d ≠ l) (k : PgOk c vs hv mv w) : ∃ n h', f_faults [.ref b] h = .ok (.ref n) h' ∧ h'[n]? = some (.lst (w.map .str)) ∧ Fr [] h h' ∧ h.length ≤ n := by
  obtain ⟨n, s', e1, e2, e3⟩ := k
  obtain ⟨r', h', v', f1, f2, f3, f4, f5⟩ := lift_fr2 (r := [b, d, o, l]) (vs' := [.ref b]) [] e1 (told_ag B O db ob dl) (.cons (.ref rfl) .nil) (fun i u _ q => by
      have il := at_lt q
      rw [← e2] at q
      rw [List.getElem?_take] at q
      split at q
      · exact q
      · cases q)
  cases f4 with
  | ref q =>
    obtain ⟨o', g1, g2⟩ := f3.at_ e3 q
    cases g2.flat (flS w)
    exact ⟨_, h', f1, g1, f5, f2.fresh q (by simp)⟩
/-- the book's faults are those of the law -/
theorem prog_g {h : Hi} {b c d o l : Nat} {vs : List VI} {hv mv : VI} (B : Bk h b c vs d o) (O : Own h l c vs hv mv) (db : d ≠ b) (ob : o ≠ b) (dl : d ≠ l) : ∃ v0 w, vs[0]? = some v0 ∧ w = dueL c v0 vs (wsC c).length ∧ w.length ≤ 8 ∧ (w = [] ∨ safeV c vs = false) ∧ ∀ {h2 : Hi}, Bk h2 b c vs d o → Own h2 l c vs hv mv → ∃ n h', f_faults [.ref b] h2 = .ok (.ref n) h' ∧ h'[n]? = some (.lst (w.map .str)) ∧ Fr [] h2 h' ∧ h2.length ≤ n := by
  have V := B.vd
  have wl : ∀ v0, (dueL c v0 vs (wsC c).length).length ≤ 8 := fun v0 => Nat.le_trans (dueL_len _ (Nat.le_refl _)) (wsC_len c)
  cases V with
  | @e e k v2 v3 v4 v5 v6 v7 e2 e6 b1 be h2 h3 h4 h5 h6 h7 =>
    have V := B.vd
    have q := due_pr V
    exact ⟨.int e, _, rfl, rfl, wl _, by rw [show (wsC 3).length = 8 from rfl, ← q]; exact pr_safe V, fun B2 O2 => by
      obtain ⟨n, h', a, b', c', d'⟩ := prog3 B2
      rw [q] at b'
      exact ⟨n, h', a, b', c', d'⟩⟩
  | @l v0 v1 v2 h0 h1 h2 =>
    have V := B.vd
    exact ⟨v0, _, rfl, rfl, wl _, (pg4 V hv mv).2, fun B2 O2 => pg_g B2 O2 db ob dl (pg4 V hv mv).1⟩
  | @t k v1 v2 v3 k1 k4 h1 h2 h3 =>
    have V := B.vd
    exact ⟨.int k, _, rfl, rfl, wl _, (pg5 V hv mv).2, fun B2 O2 => pg_g B2 O2 db ob dl (pg5 V hv mv).1⟩
/-- lists of words compared -/
theorem okW {c : Nat} {v0 : VI} {vs : List VI} (hc : isC c) : ∀ s ∈ dueL c v0 vs (wsC c).length, okS s = true := by
  have key : ∀ s ∈ wsC c, okS s = true := by
    have of : ∀ l : List S, l.all okS = true → ∀ s ∈ l, okS s = true := fun l h => List.all_eq_true.mp h
    rcases hc with rfl | rfl | rfl
    · exact of _ (by kernel_rfl)
    · exact of _ (by kernel_rfl)
    · exact of _ (by kernel_rfl)
  intro s hs
  unfold dueL at hs
  simp only [List.mem_flatMap] at hs
  obtain ⟨i, _, hi⟩ := hs
  split at hi
  · exact key s (List.mem_of_mem_take (List.mem_of_mem_drop hi))
  · cases hi
end Lw
end

section
set_option Elab.async false
set_option linter.all false
set_option maxRecDepth 100000
set_option maxHeartbeats 100000
namespace Lw
open PySem L2 ML
theorem ls_d (n : Nat) (h : Hi) : ∀ w : List S, datL (dat (n + 1) h) (w.map .str) = some (w.map fun s => PyData.str (toStr s))
  | [] => rfl
  | s :: w => by
    have := ls_d n h w
    simp only [List.map_cons, datL, this]
    rfl
theorem ls_lay : ∀ w : List S, (∀ s ∈ w, okS s = true) → PyData.canLayAll0 (w.map fun s => PyData.str (toStr s)) = true ∧ PyData.depthAll (w.map fun s => PyData.str (toStr s)) = 0
  | [], _ => ⟨rfl, rfl⟩
  | s :: w, k => by
    have a := ls_lay w fun s hs => k s (List.mem_cons_of_mem _ hs)
    have b := SeqAt.canLay_of_shaped (k s (List.mem_cons_self ..))
    refine ⟨by simp [PyData.canLayAll0, a.1, b], ?_⟩
    simp [PyData.depthAll, a.2, PyData.depth]
theorem ls_eq : ∀ w : List S, PyData.eqvAll (w.map fun s => PyData.str (toStr s)) (w.map fun s => PyData.str (toStr s)) = true
  | [] => by simp [PyData.eqvAll]
  | s :: w => by simp [PyData.eqvAll, PyData.eqv, ls_eq w]
theorem dat_lst {h : Hi} {a : Nat} {xs : List VI} (n : Nat) (ha : h[a]? = some (.lst xs)) : dat (n + 1) h (.ref a) = (datL (dat n h) xs).map .list := by
  rw [dat]
  simp only [ha]
theorem eqLs {h : Hi} {a b : Nat} {w : List S} (ha : h[a]? = some (.lst (w.map .str))) (hb : h[b]? = some (.lst (w.map .str))) (k : ∀ s ∈ w, okS s = true) : eqD h (.ref a) (.ref b) = some true := by
  have z : datL (dat 65 h) (w.map .str) = some (w.map fun s => PyData.str (toStr s)) := ls_d 64 h w
  have d1 : dat 66 h (.ref a) = some (.list (w.map fun s => PyData.str (toStr s))) := (dat_lst 65 ha).trans (by rw [z]; rfl)
  have d2 : dat 66 h (.ref b) = some (.list (w.map fun s => PyData.str (toStr s))) := (dat_lst 65 hb).trans (by rw [z]; rfl)
  have l := ls_lay w k
  have s : SeqAt.shaped (.list (w.map fun s => PyData.str (toStr s))) = true := by
    simp [SeqAt.shaped, PyData.canLay0, l.1, PyData.depth, l.2]
  unfold eqD
  rw [d1, d2]
  dsimp only
  rw [s]
  simp only [Bool.and_self, PyData.eqv, ls_eq]
theorem neLs {h : Hi} {a b : Nat} {w : List S} (ha : h[a]? = some (.lst (w.map .str))) (hb : h[b]? = some (.lst (w.map .str))) (k : ∀ s ∈ w, okS s = true) : fNe (.ref a) (.ref b) h = some (.bl false, h) := by
  unfold fNe
  rw [eqLs ha hb k]
  rfl
theorem eqXs {h : Hi} {a b : Nat} {w : List S} (ha : h[a]? = some (.lst (w.map .str))) (hb : h[b]? = some (.lst (w.map .str))) (k : ∀ s ∈ w, okS s = true) : fEqX (.ref a) (.ref b) h = some (.bl true, h) := by
  simp only [fEqX, ha, hb]
  unfold fEq
  rw [eqLs ha hb k]
theorem sp_ne {v : VI} (k : spK v) (h : Hi) : fNe v v h = some (.bl false, h) ∧ insC v h = none ∧ isT i_bool.t v h = some false := by
  rcases k with rfl | rfl | rfl
  · exact ⟨by kernel_rfl, rfl, rfl⟩
  · exact ⟨by kernel_rfl, rfl, rfl⟩
  · exact ⟨by kernel_rfl, rfl, rfl⟩
theorem insL {h : Hi} {a : Nat} {xs : List VI} (ha : h[a]? = some (.lst xs)) : insC (.ref a) h = none := by simp [insC, ha]
end Lw
end

section
set_option Elab.async false
set_option linter.all false
set_option maxRecDepth 100000
set_option maxHeartbeats 400000
namespace Lw
open PySem L2 ML
theorem right_g {h : Hi} {p : Nat} (P : PoolAt h p) : ∃ h', f__law_right [.ref p] h = .ok (.bl true) h' ∧ Fr [p] h h' := by
  obtain ⟨h1, d, c, vs, hv, mv, e1, hc, O1, P1, F1, l1⟩ := any_g P
  have V := O1.vd
  obtain ⟨h2, b, db, ob, e2, B2, F2, lb, ldb, lob, nb, no⟩ := book_g O1
  have O2 := O1.fr F2 (by simp)
  have dl1 := at_lt O1.at_
  have dbd : db ≠ d := by omega
  obtain ⟨v, h3, kv, e3, F3, spl⟩ := span_g B2 O2 nb no dbd
  have B3 := B2.fr F3 (by simp) (by simp) (by simp)
  have O3 := O2.fr F3 (by simp)
  obtain ⟨h4, e4, F4⟩ := spl h3 B3 O3
  have B4 := B3.fr F4 (by simp) (by simp) (by simp)
  have O4 := O3.fr F4 (by simp)
  obtain ⟨v0, w, hv0, ew, wl, ws, fg⟩ := prog_g B4 O4 nb no dbd
  have ok : ∀ s ∈ w, okS s = true := by rw [ew]; exact okW hc
  obtain ⟨n5, h5, e5, g5, F5, l5⟩ := fg B4 O4
  have B5 := B4.fr F5 (by simp) (by simp) (by simp)
  have O5 := O4.fr F5 (by simp)
  obtain ⟨n6, h6, e6, g6, F6, l6⟩ := faults_l O5 hv0
  rw [← ew] at g6
  have B6 := B5.fr F6 (by simp) (by simp) (by simp)
  have O6 := O5.fr F6 (by simp)
  have g56 := F6.get g5 (by simp)
  have n5l := at_lt g5
  -- append
  have F7 : Fr [n5] h6 (h6.set n5 (.lst (w.map .str ++ [.str s_empty]))) := .set
  have B6l := at_lt B4.at_.ins
  have B6d := at_lt B4.at_.dic
  have B6o := at_lt B4.ord
  have dl4 := at_lt O4.at_
  have B7 := B6.fr F7 (by simp; omega) (by simp; omega) (by simp; omega)
  have O7 := O6.fr F7 (by simp; omega)
  have g67 := F7.get g6 (by simp; omega)
  obtain ⟨n8, h8, e8, g8, F8, l8⟩ := fg B7 O7
  have g68 := F8.get g67 (by simp)
  have O8 := O7.fr F8 (by simp)
  have eqx := eqXs g8 g68 ok
  have F9 : Fr [] h8 (h8 ++ [OI.lst []]) := .app
  have ez := eqz (F9.get g68 (by simp)) (show (h8 ++ [OI.lst []])[h8.length]? = some (.lst []) by simp)
  have O9 := O8.fr F9 (by simp)
  have O9' : (h8 ++ [OI.lst []])[d]? = some (.dic (kvP c (wsC c) vs ++ [(.str s_hands, hv), (.str s_most, mv)])) := O9.at_
  obtain ⟨h9, e9, F10⟩ := safe_g V [(.str s_hands, hv), (.str s_most, mv)] (flO V O1.fh O1.fm) O9'
  obtain ⟨n1, n2, n3⟩ := sp_ne kv h4
  have ne6 := neLs g56 g6 ok
  have i6 := insL g56
  have i8 := insL g8
  have il : isT i_list.t (.ref n5) h6 = some true := by
    unfold isT
    simp [g56]
    rfl
  have s0 : small 0 = true := rfl
  have kk : kOk .lst (.ref n5) h6 = true := by simp only [kOk, g56]
  have sm : small ((w.map VI.str).length + 1) = true := by simp [small]; omega
  have ap : mAppend (.ref n5) [.str s_empty] h6 = some (.non, h6.set n5 (.lst (w.map .str ++ [.str s_empty]))) := by simp only [mAppend, g56, sm]
  have FA : Fr [p] h h6 := ((((F1.trans F2.nil).trans F3.nil).trans F4.nil).trans F5.nil).trans F6.nil
  have hp := P.lt
  have le1 := F1.len
  have le2 := F2.len
  have le3 := F3.len
  have le4 := F4.len
  have FB : Fr [p] h (h6.set n5 (.lst (w.map .str ++ [.str s_empty]))) := ⟨by simpa using FA.len, fun m u hn q => by
    have := at_lt q
    rw [List.getElem?_set_ne (by omega)]
    exact FA.get q hn⟩
  have top : ∀ {q hz}, (eAnd (eCmpU [3, 4, 5] (lkT [(3, f_BookD_eqD), (4, f_BookD_eqD), (5, f_BookD_eqD)]) fEqX (eCall f_faults (aCons (eV 2) aNil)) (eV 4)) (eOr (eBin fEqZ (eV 4) (eLst aNil)) (eNot (eCall f__law_is_safe (aCons (eV 1) aNil))))) [some (.ref p), some (.ref d), some (.ref b), some v, some (.ref n6), some (.ref n5)] (h6.set n5 (.lst (w.map .str ++ [.str s_empty]))) = .ok q hz → f__law_right [.ref p] h = .ok q hz := by
    intro q hz eq
    unfold f__law_right m__law_right
    rw [x_run1]
    show endB (sSeq _ _ [some (.ref p), none, none, none, none, none] h) = _
    simp only [x_sSeq, x_sAsg, x_eCall, x_aCons, x_aNil, x_eV, List.getElem?_cons_zero, List.getElem?_cons_succ, x_bind, e1, e2, x_bindS, x_gNm, x_nx, List.set_cons_succ, List.set_cons_zero, sPar, e3, e4, x_sIf, x_tOr, x_tOf, eNeU, n1, n2, x_ofO, eIsi, n3, x_sNx, e5, e6, x_tNot, il, Bool.not_true, i6, ne6, x_sDrop, eBM, kk, x_eC, ap, x_sRet]
    rw [eq]
    rfl
  cases we : (w.map VI.str).isEmpty with
  | true =>
    rw [we] at ez
    refine ⟨h8 ++ [.lst []], top ?_, ?_⟩
    · simp only [eAnd, eOr, eCmpU, x_eCall, x_aCons, x_aNil, x_eV, List.getElem?_cons_zero, List.getElem?_cons_succ, x_bind, e8, i8, eqx, x_ofO, x_eBin, eLst, List.length_nil, s0, ez]
    · exact (FB.trans F8.nil).trans .app
  | false =>
    rw [we] at ez
    have sv : safeV c vs = false := by
      rcases ws with rfl | ws
      · simp at we
      · exact ws
    rw [sv] at e9
    refine ⟨h9, top ?_, ?_⟩
    · simp only [eAnd, eOr, eNot, eCmpU, x_eCall, x_aCons, x_aNil, x_eV, List.getElem?_cons_zero, List.getElem?_cons_succ, x_bind, e8, i8, eqx, x_ofO, x_eBin, eLst, List.length_nil, s0, ez, e9, Bool.not_false]
    · exact ((FB.trans F8.nil).trans .app).trans F10.nil
end Lw
end

section
set_option Elab.async false
set_option linter.all false
set_option maxRecDepth 100000
set_option maxHeartbeats 4000000
namespace Lw
open PySem L2 ML
theorem max_nn (x : Int) : 0 ≤ (if -1 - x > x then -1 - x else x) := by split <;> omega
theorem pool_g {h : Hi} {ns : List Int} {k : Nat} (hs : h[0]? = some (.scr (ns.map VI.int))) (k1 : k ≤ 100) : ∃ h' p, f__law_pool [.ref 0, .int k] h = .ok (.ref p) h' ∧ PoolAt h' p ∧ Fr [] h h' ∧ h.length ≤ p := by
  -- the cell
  have cell : ∃ x : Int, (sIf (tOf (eBin fLt (eV 1) (eLenU (lkT [(3, f_BookD_lenD), (4, f_BookD_lenD), (5, f_BookD_lenD)]) (eV 0)))) (sAsg (eIxU gT (eV 0) (eV 1)) (gNm 2)) sNx) [some (.ref 0), some (.int k), some (.int 0), none, none] h = .nx [some (.ref 0), some (.int k), some (.int x), none, none] h := by
    have cl : cLen [.ref 0] h = some (.int ns.length, h) := by simp [cLen, hs]
    by_cases q : k < ns.length
    · refine ⟨ns[k], ?_⟩
      have ix : ixL (ns.map VI.int) k = some (.int ns[k]) := by
        have e : ixI ns.length (k : Int) = some k := by simp [ixI, q]
        simp [ixL, e, q]
      simp [eLenU, cl, fLt, fInt, q, eIxU, insC, hs, fIx, ix]
    · refine ⟨0, ?_⟩
      simp [eLenU, insC, hs, cl, fLt, fInt, q]
  obtain ⟨x, ce⟩ := cell
  obtain ⟨z, hz⟩ : ∃ z : Int, z = (if -1 - x > x then -1 - x else x) := ⟨_, rfl⟩
  have z0 : 0 ≤ z := by rw [hz]; exact max_nn x
  have mx : ∀ h : Hi, cMax [.int x, .int (-1 - x)] h = some (.int z, h) := fun h => by simp [cMax, hz]
  have ci : ∀ (i : Int) (h : Hi), cInt [.int i] h = some (.int i, h) := fun _ _ => rfl
  have cb : ∀ (b : Bool) (h : Hi), cInt [.bl b] h = some (.int (if b then 1 else 0), h) := fun _ _ => rfl
  have m1 := Int.emod_nonneg z (show (2147483629 : Int) ≠ 0 by omega)
  have m2 := Int.emod_lt_of_pos z (show (0 : Int) < 2147483629 by omega)
  obtain ⟨s, es⟩ : ∃ s : Int, s = z % 2147483629 + 7919 * k + 104729 := ⟨_, rfl⟩
  have s0 : 0 ≤ s := by omega
  have b1 : bnd 7919 = true := by decide
  have b2 : bnd 48271 = true := by decide
  obtain ⟨j, ej, j0, jb⟩ : ∃ j : Int, j = (if decide (1000000000000000000 ≤ z) = true then 1 else 0) ∧ 0 ≤ j ∧ bnd j = true := ⟨_, rfl, by split <;> omega, by split <;> rfl⟩
  have pw : ∀ h : Hi, fPow (.int 10) (.int 18) h = some (.int 1000000000000000000, h) := fun h => by kernel_rfl
  have s2 : small 2 = true := rfl
  refine ⟨h ++ [.lst [.int (z * j), .int (s * 48271 % 2147483647)]], h.length, ?_, ⟨z * j, s * 48271 % 2147483647, by simp, Int.mul_nonneg z0 j0, Int.emod_nonneg _ (by omega), Int.emod_lt_of_pos _ (by omega)⟩, .app, Nat.le_refl _⟩
  unfold f__law_pool m__law_pool
  rw [x_run2, x_rep3, x_sSeq, x_sAsg, x_eC]
  simp only [x_bindS, x_gNm, x_nx, List.set_cons_succ, List.set_cons_zero]
  rw [x_sSeq, ce, x_nx]
  have md : ∀ h : Hi, fMod (.int z) (.int 2147483629) h = some (.int (z % 2147483629), h) := fun h => by simp [fMod]
  have ml : ∀ h : Hi, fMul (.int 7919) (.int k) h = some (.int (7919 * k), h) := fun h => by simp [fMul, b1]
  have ml2 : ∀ h : Hi, fMul (.int z) (.int j) h = some (.int (z * j), h) := fun h => by simp [fMul, jb]
  have ml3 : ∀ h : Hi, fMul (.int s) (.int 48271) h = some (.int (s * 48271), h) := fun h => by simp [fMul, b2]
  have md2 : ∀ h : Hi, fMod (.int (s * 48271)) (.int 2147483647) h = some (.int (s * 48271 % 2147483647), h) := fun h => by simp [fMod]
  have ge : ∀ h : Hi, fGe (.int z) (.int 1000000000000000000) h = some (.bl (decide (1000000000000000000 ≤ z)), h) := fun h => rfl
  have ng : ∀ (σ : Sg) (h : Hi), eNeg (eC (.int 1)) σ h = .ok (.int (-1)) h := fun _ _ => rfl
  have sb : ∀ (h : Hi), fSub (.int (-1)) (.int x) h = some (.int (-1 - x), h) := fun _ => rfl
  have ad : ∀ (i j : Int) (h : Hi), fAdd (.int i) (.int j) h = some (.int (i + j), h) := fun _ _ _ => rfl
  have cb2 : ∀ h : Hi, cInt [.bl (decide (1000000000000000000 ≤ z))] h = some (.int j, h) := fun h => by rw [cb, ← ej]
  simp [ng, sb, mx, ci, md, ml, ad, ← es, ge, pw, cb2, ml2, ml3, md2, eLst, s2]
theorem pure_law (ns : List Int) (hl : ns.length ≤ 63) : ∃ h', f_law [.ref 0] [.scr (ns.map VI.int)] = .ok (.bl true) h' := by
  obtain ⟨n, en⟩ : ∃ n : Int, n = (if (if (ns.length : Int) < 6 then (ns.length : Int) else 6) > 1 then (if (ns.length : Int) < 6 then (ns.length : Int) else 6) else 1) := ⟨_, rfl⟩
  have n1 : 1 ≤ n ∧ n ≤ 6 := by rw [en]; split <;> split <;> omega
  have c1 : cLen [.ref 0] [.scr (ns.map VI.int)] = some (.int ns.length, [.scr (ns.map VI.int)]) := by simp [cLen]
  have c2 : cMin [.int 6, .int ns.length] [.scr (ns.map VI.int)] = some (.int (if (ns.length : Int) < 6 then (ns.length : Int) else 6), [.scr (ns.map VI.int)]) := rfl
  have c3 : cMax [.int 1, .int (if (ns.length : Int) < 6 then (ns.length : Int) else 6)] [.scr (ns.map VI.int)] = some (.int n, [.scr (ns.map VI.int)]) := by rw [en]; rfl
  have rg : rngOf [.int n] = some (.rng 0 n.toNat) := by
    have a : decide (-(2 ^ 62 : Int) ≤ n) = true := by simp; omega
    have b : decide (n < (2 ^ 62 : Int)) = true := by simp; omega
    simp only [rngOf, a, b, Bool.and_self]
  obtain ⟨σ', h', e, ⟨x, e1⟩, _⟩ := turns_inv (it := .rng 0 n.toNat) (g := gNm 1) (body := (sIf (tNotM (tOf (eCall f__law_right (aCons (eCall f__law_pool (aCons (eV 0) (aCons (eV 1) aNil))) aNil)))) (sRet (eC (.bl false))) sNx)) n.toNat
    (fun i σ h2 => (∃ x, σ = [some (.ref 0), x]) ∧ h2[0]? = some (.scr (ns.map VI.int)))
    (fun i σ h2 hi ⟨⟨x, e1⟩, hs⟩ => by
      subst e1
      obtain ⟨h3, p, e3, P3, F3, l3⟩ := pool_g (k := i) hs (by omega)
      obtain ⟨h4, e4, F4⟩ := right_g P3
      have l0 := at_lt hs
      refine ⟨.int (0 + i), [some (.ref 0), some (.int (0 + i))], h2, [some (.ref 0), some (.int (0 + i))], h4, ?_, rfl, ?_, ⟨_, rfl⟩, F4.get (F3.get hs (by simp)) (by simp; omega)⟩
      · have : Nat.blt i n.toNat = true := by simpa [Nat.blt_eq] using hi
        simp [Itm.nxt, this]
      · have z : ((0 : Int) + (i : Int)) = (i : Int) := by omega
        rw [z]
        simp [e3, e4])
    (fun σ h2 _ => by
      have : Nat.blt n.toNat n.toNat = false := by
        cases q : Nat.blt n.toNat n.toNat with
        | false => rfl
        | true => rw [Nat.blt_eq] at q; omega
      simp [Itm.nxt, this]) n.toNat 0 [some (.ref 0), none] [.scr (ns.map VI.int)] (by omega) ⟨⟨_, rfl⟩, rfl⟩
  have hi0 : insC (.ref 0) [OI.scr (ns.map VI.int)] = none := rfl
  refine ⟨h', ?_⟩
  subst e1
  unfold f_law m_law
  rw [x_run1, x_rep1, x_sSeq, x_sFor, x_iRng]
  simp only [x_aCons, x_eCB, x_aNil, x_eC, eLenU, hi0, x_eV, List.getElem?_cons_zero, x_bind, c1, x_ofO, c2, c3, rg, x_ofI, x_bindS, Itm.fuel, e, x_nx, x_sSeq, x_sRet, x_rt, x_endR]
end Lw
end

set_option Elab.async false
set_option linter.all false
set_option maxRecDepth 100000
set_option maxHeartbeats 0
namespace Lw
open PySem PySem.Spec PyProof.Rows L2 He ML
abbrev Rr : PySem.W.OpenRow := PySem.W.OpenLaw.row PySem.Challenge.rw_epochrooms_k42_spans_and_faults
def adL : List Addr := [2, 3, 6, 4, 21, 31, 53, 74, 95, 104, 105, 123, 130, 135, 142, 243, 431, 532, 650, 659, 666, 673, 680, 687, 694, 695, 700, 707, 714, 721, 728, 733, 740, 747, 754, 761, 768, 773, 780, 787, 794, 0, 20, 30, 52, 73, 94, 103, 106, 107, 108, 109, 110, 111, 112, 113, 114, 115, 116, 122, 129, 134, 141, 242, 430, 531, 649, 658, 665, 672, 679, 686, 693, 699, 706, 713, 720, 727, 732, 739, 746, 753, 760, 767, 772, 779, 786, 793, 15, 16, 17, 18, 19, 29, 32, 50, 51, 71, 72, 92, 93, 98, 99, 100, 101, 102, 117, 118, 119, 120, 121, 124, 125, 126, 127, 128, 131, 132, 133, 136, 137, 138, 139, 140, 150, 157, 164, 172, 179, 184, 191, 198, 205, 212, 219, 226, 233, 240, 241, 244, 245, 256, 265, 274, 284, 292, 309, 326, 343, 360, 377, 394, 411, 428, 429, 442, 451, 460, 470, 478, 495, 512, 529, 530, 543, 552, 561, 571, 579, 596, 613, 630, 647, 648, 653, 654, 655, 656, 657, 660, 661, 662, 663, 664, 667, 668, 669, 670, 671, 674, 675, 676, 677, 678, 681, 682, 683, 684, 685, 688, 689, 690, 691, 692, 696, 697, 698, 701, 702, 703, 704, 705, 708, 709, 710, 711, 712, 715, 716, 717, 718, 719, 722, 723, 724, 725, 726, 729, 730, 731, 734, 735, 736, 737, 738, 741, 742, 743, 744, 745, 748, 749, 750, 751, 752, 755, 756, 757, 758, 759, 762, 763, 764, 765, 766, 769, 770, 771, 774, 775, 776, 777, 778, 781, 782, 783, 784, 785, 788, 789, 790, 791, 792, 49, 38, 70, 59, 91, 80, 156, 163, 171, 178, 183, 190, 197, 204, 211, 218, 225, 232, 239, 264, 257, 251, 272, 273, 282, 283, 291, 299, 308, 316, 325, 333, 342, 350, 359, 367, 376, 384, 393, 401, 410, 418, 427, 450, 443, 437, 458, 459, 468, 469, 477, 485, 494, 502, 511, 519, 528, 551, 544, 538, 559, 560, 569, 570, 578, 586, 595, 603, 612, 620, 629, 637, 646, 44, 45, 46, 47, 48, 65, 66, 67, 68, 69, 86, 87, 88, 89, 90, 151, 152, 153, 154, 155, 158, 159, 160, 161, 162, 170, 173, 174, 175, 176, 177, 180, 181, 182, 185, 186, 187, 188, 189, 192, 193, 194, 195, 196, 199, 200, 201, 202, 203, 206, 207, 208, 209, 210, 213, 214, 215, 216, 217, 220, 221, 222, 223, 224, 227, 228, 229, 230, 231, 234, 235, 236, 237, 238, 259, 260, 261, 262, 263, 271, 275, 281, 285, 286, 287, 288, 289, 290, 298, 307, 315, 324, 332, 341, 349, 358, 366, 375, 383, 392, 400, 409, 417, 426, 445, 446, 447, 448, 449, 457, 461, 467, 471, 472, 473, 474, 475, 476, 484, 493, 501, 510, 518, 527, 546, 547, 548, 549, 550, 558, 562, 568, 572, 573, 574, 575, 576, 577, 585, 594, 602, 611, 619, 628, 636, 645, 165, 166, 167, 168, 169, 266, 267, 268, 269, 270, 276, 277, 278, 279, 280, 293, 294, 295, 296, 297, 302, 303, 304, 305, 306, 310, 311, 312, 313, 314, 319, 320, 321, 322, 323, 327, 328, 329, 330, 331, 336, 337, 338, 339, 340, 344, 345, 346, 347, 348, 353, 354, 355, 356, 357, 361, 362, 363, 364, 365, 370, 371, 372, 373, 374, 378, 379, 380, 381, 382, 387, 388, 389, 390, 391, 395, 396, 397, 398, 399, 404, 405, 406, 407, 408, 412, 413, 414, 415, 416, 421, 422, 423, 424, 425, 452, 453, 454, 455, 456, 462, 463, 464, 465, 466, 479, 480, 481, 482, 483, 488, 489, 490, 491, 492, 496, 497, 498, 499, 500, 505, 506, 507, 508, 509, 513, 514, 515, 516, 517, 522, 523, 524, 525, 526, 553, 554, 555, 556, 557, 563, 564, 565, 566, 567, 580, 581, 582, 583, 584, 589, 590, 591, 592, 593, 597, 598, 599, 600, 601, 606, 607, 608, 609, 610, 614, 615, 616, 617, 618, 623, 624, 625, 626, 627, 631, 632, 633, 634, 635, 640, 641, 642, 643, 644]
abbrev hk : PySem.W.Hook := hookL adL spec
def ob (s : PySem.W.SharedT) : AlM := obsLG adL spec (HandSHeadRun.getT s)
theorem ob_eq (s : PySem.W.SharedT) : ob s = hk.obs s.abs := obsLG_eq (HandSHeadRun.getT_eq s)
def lo0 : List Str := ["_wall", "RoomsError", "NoSwitch", "NoValue", "NoBook", "is_whole", "ORDERS", "LEAST_EPOCHS", "MOST_EPOCHS", "MOST_COUNTS", "values_at", "is_same", "is_value", "care", "Book", "EpochBook", "LookBook", "StillBook", "is_book", "look_at_book", "span", "epoch_faults", "still_faults", "look_faults", "FAULTS", "faults", "_law_pool", "_law_take", "_law_one", "_law_switches"]
def lo1 : List Str := ["_law_choices", "_law_own", "_law_any_own", "_law_book", "_law_is_safe", "_law_all", "_law_faults", "_law_span", "_law_right"]
def loA : List Str := lo0 ++ lo1
def lawD : DefRec := HandSHeadRun.topDef Rr.prog 44
theorem runF (w : World) : HandSHeadRun.RunEq Rr (PySem.W.view Rr.prog [44]) hk ob 20000 loA (w.withFollow "special-get-raises" false) := by
  intro os
  kernel_rfl
theorem runT (w : World) : HandSHeadRun.RunEq Rr (PySem.W.view Rr.prog [44]) hk ob 20000 loA (w.withFollow "special-get-raises" true) := by
  intro os
  kernel_rfl
theorem run (w : World) : HandSHeadRun.RunEq Rr (PySem.W.view Rr.prog [44]) hk ob 20000 loA w :=
  PySem.W.byRow2 "special-get-raises" (P := fun w => HandSHeadRun.RunEq Rr (PySem.W.view Rr.prog [44]) hk ob 20000 loA w) runF runT w
theorem facts {w : World} {K : PySem.W.Frag} {h : Heap} {mg : Str → Option Value} {f : Addr} (X : K.In h) (Gn : h.Ns mainGlobals mg) (hfa : mg ("law" : Str) = some (.ref f)) (c : SaysM spec w K) :
    ∃ fd : FuncData, (∀ (s : Shared) (v : Value), BindsTo s fd ⟨[v], []⟩ [("_law_script", v)]) ∧ ∀ base : Heap, K.In base → base.Ns mainGlobals mg → FnOk P w K mg base CX0 37 f fd ["_law_script"] (fun vs H Q _ => spM (GxOf K mg nm) 1 f_law vs H Q fun _ _ _ => False) := by
  have E : Ev spec w K mg := ⟨c, h, X, Gn⟩
  have e := hfa.symm.trans (glo_ok X Gn (c.ex 116 (f := fun K => (Fa.glo "law").ok K) rfl))
  cases e
  have b := FunD.bindsA (ps := ["_law_script"]) (c.def_ 32 (d := gd_law) rfl) fun _ _ _ _ _ _ us hl => match us, hl with | [_], _ => rfl
  exact ⟨_, fun s v => b s [v] rfl, fun base _ _ => fn_cx0 (ok_law (base := base) E).ok⟩
end Lw
open PySem PySem.W PySem.Calls PyProof.Rows
theorem PySem.Challenge.cw_epochrooms_k42_spans_and_faults_holds : PySem.Challenge.rw_epochrooms_k42_spans_and_faults.Holds := by
  w_on; o_law
  refine HandSHeadRun.head_any (r := OpenLaw.row PySem.Challenge.rw_epochrooms_k42_spans_and_faults) (q := view (OpenLaw.row PySem.Challenge.rw_epochrooms_k42_spans_and_faults).prog [44]) (H := Lw.hk) (ob := Lw.ob) (M := 20000) (loose := Lw.loA) (d := HandSHeadRun.topDef (OpenLaw.row PySem.Challenge.rw_epochrooms_k42_spans_and_faults).prog 44) (kwd := []) Lw.ob_eq
    (by kernel_rfl) (fun s => by kernel_rfl) Lw.run (by kernel_rfl) (by kernel_rfl) (by kernel_rfl) (by rfl) (by first | assumption | decide +kernel) (by decide +kernel) ⟨rfl, rfl, rfl, rfl, rfl, by decide +kernel⟩ ?hw ?hc
  case hw => w_witness2
  case hc =>
    refine L2.walk_ofE (l := PySem.Challenge.rw_epochrooms_k42_spans_and_faults) (n := 63) (k := 37) (x := "_law_script") (CX := L2.CX0) rfl (by decide) (by kernel_rfl) ⟨rfl, by decide, by decide⟩ ?F (fun _ _ _ _ z => z)
    intro w mg fa h Y G hmg0
    obtain ⟨K, KX, c⟩ := Y
    have hmg : mg ("law" : PySem.Str) = some (.ref fa) := by
      have e : (HandSHeadRun.topDef (OpenLaw.row PySem.Challenge.rw_epochrooms_k42_spans_and_faults).prog 44).name = ("law" : PySem.Str) := by kernel_rfl
      rw [← e]
      exact hmg0
    obtain ⟨fd, hb, hF⟩ := Lw.facts (w := w) KX G hmg c
    exact ⟨K, fd, _, KX, hb, fun H a ns hl hO hS => by
      obtain ⟨h', e⟩ := Lw.pure_law ns hl
      exact ML.law_sp (c.ex 117 (f := ML.noLstB) rfl) hO hS e, hF⟩
