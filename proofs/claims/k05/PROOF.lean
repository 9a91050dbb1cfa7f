import PyProof.Rows.All
import Wide.All
import OpenK.AllK
import Wide.FinOn
import HandS.DictEq
import HandS.Base
import HandS.Call
import HandS.List
import HandS.Comp
import HandS.Ends
import HandS.Dict
import HandS.More
import HandS.Conv
import HandS.Small
import HandS.Deep
import HandS.TupAny
import HandS.IsInst
import HandS.Iter
import HandS.WordsDict
import KE.KStateDown
import HandS.Exc
import HandS.ExcOwn
import HandS.Property
import HandS.Nested
import HandS.Words
import HandS.Defaults
import HandS.Head0
import HandS.Head1
import HandS.Head2
import HandS.HeadEnd
import HandS.Style
import HandS.HeadHook1
import HandS.HeadHook2
import HandS.HeadHook3
import PyProof.DictUpdate
import KE.KDictCopyH
import HandS.TupMul
import HandS.ClsMeth
import KE.KSuper
import KE.KSuperObj
import KE.KOpsOwn
import HandS.MakeKw
import HandS.MakeKwOnly
import HandS.HeadNt
import HandS.SortKw
import KE.KExcIs
import HandS.ExcIs
import HandS.ExcInit
import HandS.ExcField
import HandS.TryMany
import KE.KExcSuper
import KE.KSortKeyAny
import PyProof.TupleOfSeq
import KE.KMinBuiltin
import PyProof.WalkInts
import PyProof.WalksMore
import KE.KCallOwn
import HandS.Star
import HandS.TryOnly
import HandS.RaiseMore
import PyProof.ReprRoads
import KE.GoesMore
import PySem.Challenge.RW_epochrooms_k05_books_refused
set_option Elab.async false
set_option linter.all false
set_option maxRecDepth 100000
set_option maxHeartbeats 4000000
section
namespace MB
open PySem
section
variable {prog : Program} {w : World} {K : Type} [DecidableEq K] {kk : KeyKind prog w K} {A : Around} {E : Value → Shared → Prop} {s : Shared}
theorem put_one {d : Addr} {old : List (K × Value)} {k : K} {key v : Value} {Q : Unit → Shared → Prop} (ik : kk.is k key = true) (D : s.heap.DictOf kk d old) (few : old.length ≤ sizeLine)
    (q : ∀ h', h'.DictOf kk d (stored old k v) → Heap.SameBut d s.heap h' → Q () { s with heap := h' }) : wpAny (model prog w) A (dictPut d (kk.hash k) key v) Q E s := by
  obtain ⟨ob, ents, ep, e1, e2, e3, e4, e5, e6⟩ := D
  have len : ents.size ≤ sizeLine := by
    have a1 := e5.length
    have a2 : ents.toList.length = ents.size := by simp
    omega
  unfold dictPut
  refine wpAny_bind (wpAny_dictFind_of ik e1 e3 e4 ?_)
  have same : (ents.findIdx? fun x => kk.is k x.key) = old.findIdx? fun y => decide (y.1 = k) := by
    have := e5.findIdx k
    obtain ⟨l⟩ := ents
    simpa using this
  cases z : ents.findIdx? fun x => kk.is k x.key with
  | none =>
    have out : k ∉ old.map (·.1) := not_mem_of_findIdx_none (same ▸ z)
    have no : ¬ (old.any fun y => decide (y.1 = k)) = true := fun t => by
      obtain ⟨y, hy, hk⟩ := List.any_eq_true.mp t
      exact out (List.mem_map.mpr ⟨y, hy, of_decide_eq_true hk⟩)
    refine wpAny_updateDictKeys (hz := len) e1 e3 (q _ ⟨_, _, ep + 1, Heap.get?_update_self _ e1 (Obj.isFreed_of_dict (Obj.data_mapDictKeys e3 _)), e2.mapDictKeys _, Obj.data_mapDictKeys e3 _, e4.push ik _, ?_, ?_⟩ (Heap.SameBut.update ..))
    · have t := e5.append ik (kk.hash k) v
      rw [stored, if_neg no]
      obtain ⟨l⟩ := ents
      simpa using t
    · rw [stored, if_neg no, List.map_append, List.nodup_append]
      refine ⟨e6, by simp, fun x hx y hy => ?_⟩
      have ey : y = k := by simpa using hy
      subst ey
      exact fun e => out (e ▸ hx)
  | some i =>
    have yes := any_of_findIdx_some (same ▸ z)
    refine wpAny_updateDict e1 e3 (q _ ⟨_, _, ep, Heap.get?_update_self _ e1 (Obj.isFreed_of_dict (Obj.data_mapDict e3 _)), e2.mapDict _, Obj.data_mapDict e3 _, e4.modify _ _, ?_, ?_⟩ (Heap.SameBut.update ..))
    · have l1 : (ents.toList.findIdx? fun x => kk.is k x.key) = some i := by
        rw [← z]
        obtain ⟨l⟩ := ents
        simp
      have t := e5.modify e6 l1 v
      rw [stored, if_pos yes]
      obtain ⟨l⟩ := ents
      simpa using t
    · rw [stored, if_pos yes, keys_map_store]
      exact e6
theorem find_no {d : Addr} {old : List (K × Value)} {k : K} {key : Value} {Q : Option Nat → Shared → Prop} (ik : kk.is k key = true) (D : s.heap.DictOf kk d old) (out : k ∉ old.map (·.1)) (q : Q none s) : wpAny (model prog w) A (dictFind d key (kk.hash k)) Q E s := by
  obtain ⟨ob, ents, ep, e1, e2, e3, e4, e5, e6⟩ := D
  refine wpAny_dictFind_of ik e1 e3 e4 ?_
  have same : (ents.findIdx? fun x => kk.is k x.key) = old.findIdx? fun y => decide (y.1 = k) := by
    have := e5.findIdx k
    obtain ⟨l⟩ := ents
    simpa using this
  rw [same]
  have : (old.findIdx? fun y => decide (y.1 = k)) = none := by
    rw [List.findIdx?_eq_none_iff]
    intro y hy
    exact decide_eq_false fun t => out (List.mem_map.mpr ⟨y, hy, t⟩)
  rw [this]
  exact q
theorem merge_two {d o : Addr} {old new : List (K × Value)} {unique : Bool} {Q : Unit → Shared → Prop} (ne : d ≠ o) (low : (o == sysModules) = false) (nr : ∀ k key, kk.is k key = true → ∀ a, key ≠ .ref a)
    (D : s.heap.DictOf kk d old) (O : s.heap.DictOf kk o new) (few : old.length + new.length ≤ sizeLine) (un : unique = true → ((old ++ new).map (·.1)).Nodup)
    (q : ∀ h', h'.DictOf kk d (merged old new) → Heap.SameBut d s.heap h' → Q () { s with heap := h' }) : wpAny (model prog w) A (mergeMapping d (.ref o) unique) Q E s := by
  obtain ⟨od, esd, epd, d1, d2, d3, d4, d5, d6⟩ := id D
  obtain ⟨oo, eso, epo, o1, o2, o3, o4, o5, o6⟩ := id O
  have ty : s.TypeIs (.ref o) "dict" := ⟨oo, o1, o2.1⟩
  have sz : new.length = eso.size := by rw [← o5.length]; simp
  unfold mergeMapping
  have sub : isSubtype (.type "dict") (.type "dict") = pure true := by rw [isSubtype_type]; kernel_rfl
  refine wpAny_bind (wpAny_isInstance ty sub ?_)
  rw [if_pos rfl]
  refine wpAny_bind (wpAny_specialOf ty F.slot_dict_iter.lookup (wpAny_bind (wpAny_pure ?_)))
  show wpAny _ _ (if (o == sysModules) = true then _ else _) _ _ _
  rw [if_neg (by rw [low]; exact Bool.false_ne_true)]
  refine wpAny_bind (wpAny_dictEntries d1 d3 ?_)
  -- the walk over the new pairs
  have walk : wpAny (model prog w) A (do
      let l0 ← dictEntries o
      let ep0 ← dictEpoch o
      forIn (List.range l0.size) PUnit.unit fun i (_ : PUnit) => (do
        let l1 ← dictEntries o
        match l1[i]? with
        | some x => do
          holding [x.key, x.val] (if unique = true then (do
              let r ← dictFind d x.key x.hash
              if r.isSome = true then (do
                rule "dict.merge.duplicate-key"
                let y ← newExc (.type "KeyError") [x.key]
                let _ ← (raiseNew y : Sem PUnit)
                dictPut d x.hash x.key x.val)
              else dictPut d x.hash x.key x.val)
            else dictPut d x.hash x.key x.val)
          let ep1 ← dictEpoch o
          if (ep1 != ep0) = true then (do
            (unsupported "dict.changed-during-merge" : Sem PUnit)
            pure (ForInStep.yield PUnit.unit))
          else pure (ForInStep.yield PUnit.unit)
        | _ => do
          (unsupported "dict.changed-during-merge" : Sem PUnit)
          pure (ForInStep.yield PUnit.unit) : Sem (ForInStep PUnit))
      pure ()) Q E s := by
    refine wpAny_bind (wpAny_dictEntries o1 o3 (wpAny_bind (wpAny_dictEpoch o1 o3 (wpAny_bind ?_))))
    rw [List.range_eq_range']
    refine wpAny_forIn_list _ (fun rest _ s' => ∃ h' i, s' = { s with heap := h' } ∧ rest = List.range' i (eso.size - i) ∧ i ≤ eso.size ∧ h'.DictOf kk d (merged old (new.take i)) ∧ h'.get? o = some oo ∧ Heap.SameBut d s.heap h') _ ?_ ?_ _ _
      ⟨s.heap, 0, rfl, by simp, Nat.zero_le _, by simpa [merged] using D, o1, Heap.SameBut.refl _ _⟩
    · rintro i0 rest _ _ ⟨h', i, rfl, er, le, D', o1', sb⟩
      have lt : i < eso.size := Nat.lt_of_not_le fun z => by
        rw [Nat.sub_eq_zero_of_le z] at er
        cases er
      have e0 : eso.size - i = (eso.size - (i + 1)) + 1 := by omega
      rw [e0, List.range'_succ] at er
      injection er with t1 t2
      subst t1
      refine wpAny_bind (wpAny_dictEntries o1' o3 ?_)
      rw [Array.getElem?_eq_getElem lt]
      have lt2 : i0 < new.length := by rw [sz]; exact lt
      obtain ⟨⟨k, v⟩, kv⟩ : ∃ y, new[i0]? = some y := ⟨_, List.getElem?_eq_getElem lt2⟩
      obtain ⟨ik, iv⟩ := o5.get? (e := eso[i0]) (by simp [lt]) kv
      obtain ⟨k', ik', ih⟩ := o4 eso[i0] (Array.getElem_mem lt)
      have ek : k' = k := kk.inj _ _ _ ik' ik
      subst ek
      have m1 : (merged old (new.take i0)).length ≤ sizeLine := by
        have a1 := merged_length_le old (new.take i0)
        have a2 : (new.take i0).length ≤ new.length := by rw [List.length_take]; omega
        omega
      dsimp only
      rw [ih, iv]
      have put : wpAny (model prog w) A (dictPut d (kk.hash k') eso[i0].key v) (fun _ s' => wpAny (model prog w) A (do
          let ep1 ← dictEpoch o
          if (ep1 != epo) = true then (do
            (unsupported "dict.changed-during-merge" : Sem PUnit)
            pure (ForInStep.yield PUnit.unit))
          else pure (ForInStep.yield PUnit.unit) : Sem (ForInStep PUnit)) (fun r s' => match r with
            | .yield _ => ∃ h' i, s' = { s with heap := h' } ∧ rest = List.range' i (eso.size - i) ∧ i ≤ eso.size ∧ h'.DictOf kk d (merged old (new.take i)) ∧ h'.get? o = some oo ∧ Heap.SameBut d s.heap h'
            | .done _ => False) E s') E { s with heap := h' } :=
        put_one ik' D' m1 fun h2 D2 sb2 => by
          have o2' : h2.get? o = some oo := (sb2.2 o ne.symm).trans o1'
          refine wpAny_bind (wpAny_dictEpoch o2' o3 ?_)
          rw [if_neg (by simp)]
          exact wpAny_pure ⟨h2, i0 + 1, rfl, t2, lt, by rw [merged_take_succ old new i0 (k', v) kv]; exact D2, o2', sb.trans sb2⟩
      cases unique with
      | false =>
        rw [if_neg Bool.false_ne_true]
        refine wpAny_bind (wpAny_holding (wpAny_mono put (fun _ _ z => wpAny_mono z (fun r s2 y => ?_) fun _ _ z => z) fun _ _ z => z))
        cases r with
        | yield _ => exact y
        | done _ => exact y.elim
      | true =>
        rw [if_pos rfl]
        refine wpAny_bind (wpAny_holding (wpAny_bind (find_no ik' D' ?_ ?_)))
        · have nd := un rfl
          rw [merged_append_of_fresh old (new.take i0) ?_]
          · have hsub : ((old ++ new.take i0).map (·.1)) ++ [k'] = (old ++ new.take (i0 + 1)).map (·.1) := by
              rw [List.take_add_one, kv]
              simp
            have nd2 : ((old ++ new.take (i0 + 1)).map (·.1)).Nodup := by
              refine List.Nodup.sublist ?_ nd
              exact ((List.Sublist.refl old).append (List.take_sublist ..)).map _
            rw [← hsub, List.nodup_append] at nd2
            exact fun z => nd2.2.2 _ z k' (by simp) rfl
          · refine List.Nodup.sublist ?_ nd
            exact ((List.Sublist.refl old).append (List.take_sublist ..)).map _
        · rw [if_neg (by simp)]
          refine wpAny_mono put (fun _ _ z => wpAny_mono z (fun r s2 y => ?_) fun _ _ z => z) fun _ _ z => z
          cases r with
          | yield _ => exact y
          | done _ => exact y.elim
    · rintro _ _ ⟨h', i, rfl, er, le, D', o1', sb⟩
      have e : i = eso.size := by
        rcases Nat.lt_or_ge i eso.size with z | z
        · have e0 : eso.size - i = (eso.size - (i + 1)) + 1 := by omega
          rw [e0, List.range'_succ] at er
          cases er
        · exact Nat.le_antisymm le z
      rw [e, ← sz, List.take_length] at D'
      exact wpAny_pure (q h' D' sb)
  have walk2 := walk
  cases hz : esd.isEmpty with
  | false =>
    rw [if_neg Bool.false_ne_true]
    exact walk2
  | true =>
    rw [if_pos rfl]
    refine wpAny_bind (wpAny_dictEntries o1 o3 (wpAny_bind ?_))
    obtain ⟨l⟩ := eso
    rw [List.forIn_toArray]
    refine wpAny_forIn_list _ (fun rest _ s' => s' = s ∧ ∀ x ∈ rest, x ∈ l) _ ?_ ?_ _ _ ⟨rfl, fun _ h => h⟩
    · rintro x rest b s' ⟨rfl, sub⟩
      have hx : x ∈ l := sub x (by simp)
      obtain ⟨k, ik, _⟩ := o4 x (by simpa using hx)
      have := nr k x.key ik
      cases hk : x.key with
      | ref a => exact absurd hk (this a)
      | _ => exact wpAny_pure ⟨rfl, fun y hy => sub y (List.mem_cons_of_mem _ hy)⟩
    · rintro b s' ⟨rfl, _⟩
      exact walk2
end
end MB
end
section
namespace ML
open PySem L2
abbrev S := List Nat
def toStr (s : S) : Str := ⟨s.toArray⟩
theorem toStr_inj {a b : S} (h : toStr a = toStr b) : a = b := by
  unfold toStr at h
  injection h with h
  have := congrArg Array.toList h
  simpa using this
inductive VI where
  | non | bl (b : Bool) | int (i : Int) | str (s : S) | glo (g : S) | ref (n : Nat) | tup (xs : List VI)
inductive OI where
  | lst (xs : List VI) | dic (kvs : List (VI × VI)) | ins (c : Nat) (fs : List (S × VI)) | xd (fs : List (S × VI)) | scr (xs : List VI)
abbrev Hi := List OI
inductive Res (α : Type) where
  | ok (a : α) (h : Hi) | ex (c n : Nat) (h : Hi) | err
structure Gx where
  K : PySem.W.Frag
  mg : Str → Option Value
  ct : Nat → Option Addr
mutual
inductive RV (G : Gx) (ρ : List Addr) (H : Hp) : VI → V → Prop
  | non : RV G ρ H .non .non
  | bl (b : Bool) : RV G ρ H (.bl b) (.bl b)
  | int (i : Int) : RV G ρ H (.int i) (.int i)
  | str {s : S} {x : Str} (e : x = toStr s) : RV G ρ H (.str s) (.str x)
  | glo {g : S} {a : Addr} (e : G.mg (toStr g) = some (.ref a)) : RV G ρ H (.glo g) (.ref a)
  | ref {n : Nat} {a : Addr} (e : ρ[n]? = some a) : RV G ρ H (.ref n) (.ref a)
  | tup {xs : List VI} {ys : List V} {a : Addr} (t : SqT G.K H a ys) (r : RVs G ρ H xs ys) : RV G ρ H (.tup xs) (.ref a)
inductive RVs (G : Gx) (ρ : List Addr) (H : Hp) : List VI → List V → Prop
  | nil : RVs G ρ H [] []
  | cons {v : VI} {x : V} {vs : List VI} {xs : List V} (h : RV G ρ H v x) (t : RVs G ρ H vs xs) : RVs G ρ H (v :: vs) (x :: xs)
end
structure Stp (G : Gx) (ρ : List Addr) (H : Hp) (ρ' : List Addr) (H' : Hp) : Prop where
  pre : ∀ (n : Nat) (a : Addr), ρ[n]? = some a → ρ'[n]? = some a
  tup : ∀ a xs, SqT G.K H a xs → SqT G.K H' a xs
theorem Stp.refl {G : Gx} {ρ : List Addr} {H : Hp} : Stp G ρ H ρ H := ⟨fun _ _ h => h, fun _ _ h => h⟩
theorem Stp.trans {G : Gx} {ρ ρ1 ρ2 : List Addr} {H H1 H2 : Hp} (a : Stp G ρ H ρ1 H1) (b : Stp G ρ1 H1 ρ2 H2) : Stp G ρ H ρ2 H2 :=
  ⟨fun n x h => b.pre n x (a.pre n x h), fun x xs h => b.tup x xs (a.tup x xs h)⟩
section
variable {G : Gx} {ρ ρ' : List Addr} {H H' : Hp}
mutual
theorem RV.mono (st : Stp G ρ H ρ' H') : ∀ {v : VI} {x : V}, RV G ρ H v x → RV G ρ' H' v x
  | _, _, .non => .non
  | _, _, .bl b => .bl b
  | _, _, .int i => .int i
  | _, _, .str e => .str e
  | _, _, .glo e => .glo e
  | _, _, .ref e => .ref (st.pre _ _ e)
  | _, _, .tup t r => .tup (st.tup _ _ t) (RVs.mono st r)
theorem RVs.mono (st : Stp G ρ H ρ' H') : ∀ {v : List VI} {x : List V}, RVs G ρ H v x → RVs G ρ' H' v x
  | _, _, .nil => .nil
  | _, _, .cons h t => .cons (RV.mono st h) (RVs.mono st t)
end
theorem RVs.length : ∀ {v : List VI} {x : List V}, RVs G ρ H v x → v.length = x.length
  | _, _, .nil => rfl
  | _, _, .cons _ t => by rw [List.length_cons, List.length_cons, t.length]
theorem RVs.get : ∀ {v : List VI} {x : List V} {i : Nat} {a : VI}, RVs G ρ H v x → v[i]? = some a → ∃ b, x[i]? = some b ∧ RV G ρ H a b
  | _, _, _, _, .nil, e => by simp at e
  | _, _, 0, _, .cons h _, e => by simp at e; subst e; exact ⟨_, rfl, h⟩
  | _, _, i + 1, _, .cons _ t, e => by
    obtain ⟨b, h1, h2⟩ := RVs.get (i := i) t (by simpa using e)
    exact ⟨b, by simpa using h1, h2⟩
theorem RVs.append : ∀ {v w : List VI} {x y : List V}, RVs G ρ H v x → RVs G ρ H w y → RVs G ρ H (v ++ w) (x ++ y)
  | _, _, _, _, .nil, h => h
  | _, _, _, _, .cons h t, k => .cons h (RVs.append t k)
theorem RVs.set : ∀ {v : List VI} {x : List V} {a : VI} {b : V} (i : Nat), RVs G ρ H v x → RV G ρ H a b → RVs G ρ H (v.set i a) (x.set i b)
  | _, _, _, _, _, .nil, _ => .nil
  | _, _, _, _, 0, .cons _ t, r => .cons r t
  | _, _, _, _, i + 1, .cons h t, r => .cons h (RVs.set i t r)
theorem RVs.take : ∀ {v : List VI} {x : List V} (n : Nat), RVs G ρ H v x → RVs G ρ H (v.take n) (x.take n)
  | _, _, 0, _ => .nil
  | _, _, _ + 1, .nil => .nil
  | _, _, n + 1, .cons h t => .cons h (RVs.take n t)
theorem RVs.drop : ∀ {v : List VI} {x : List V} (n : Nat), RVs G ρ H v x → RVs G ρ H (v.drop n) (x.drop n)
  | _, _, 0, r => r
  | _, _, _ + 1, .nil => .nil
  | _, _, n + 1, .cons _ t => RVs.drop n t
end
inductive RFs (G : Gx) (ρ : List Addr) (H : Hp) : List (S × VI) → List (Str × V) → Prop
  | nil : RFs G ρ H [] []
  | cons {f : S} {g : Str} {v : VI} {x : V} {fs : List (S × VI)} {gs : List (Str × V)} (e : g = toStr f) (h : RV G ρ H v x) (t : RFs G ρ H fs gs) : RFs G ρ H ((f, v) :: fs) ((g, x) :: gs)
def RK : VI → Key → Prop
  | .int i, k => k = .inl i
  | .str s, k => k = .inr (toStr s)
  | _, _ => False
inductive RKs (G : Gx) (ρ : List Addr) (H : Hp) : List (VI × VI) → List (Key × V) → Prop
  | nil : RKs G ρ H [] []
  | cons {a : VI} {k : Key} {v : VI} {x : V} {as : List (VI × VI)} {ks : List (Key × V)} (e : RK a k) (h : RV G ρ H v x) (t : RKs G ρ H as ks) : RKs G ρ H ((a, v) :: as) ((k, x) :: ks)
section
variable {G : Gx} {ρ ρ' : List Addr} {H H' : Hp}
theorem RFs.mono (st : Stp G ρ H ρ' H') : ∀ {v : List (S × VI)} {x : List (Str × V)}, RFs G ρ H v x → RFs G ρ' H' v x
  | _, _, .nil => .nil
  | _, _, .cons e h t => .cons e (h.mono st) (RFs.mono st t)
theorem RKs.mono (st : Stp G ρ H ρ' H') : ∀ {v : List (VI × VI)} {x : List (Key × V)}, RKs G ρ H v x → RKs G ρ' H' v x
  | _, _, .nil => .nil
  | _, _, .cons e h t => .cons e (h.mono st) (RKs.mono st t)
theorem RFs.length : ∀ {v : List (S × VI)} {x : List (Str × V)}, RFs G ρ H v x → v.length = x.length
  | _, _, .nil => rfl
  | _, _, .cons _ _ t => by rw [List.length_cons, List.length_cons, t.length]
theorem RKs.length : ∀ {v : List (VI × VI)} {x : List (Key × V)}, RKs G ρ H v x → v.length = x.length
  | _, _, .nil => rfl
  | _, _, .cons _ _ t => by rw [List.length_cons, List.length_cons, t.length]
end
def OR (G : Gx) (ρ : List Addr) (H : Hp) (a : Addr) : OI → Prop
  | .lst xs => ∃ ys, H a = some (.lst ys) ∧ RVs G ρ H xs ys
  | .dic kvs => ∃ ks, H a = some (.dK ks) ∧ RKs G ρ H kvs ks
  | .ins c fs => ∃ C dx gs, G.ct c = some C ∧ H a = some (.ins C dx gs) ∧ RFs G ρ H fs gs
  | .xd fs => ∃ gs, H a = some (.xd gs) ∧ RFs G ρ H fs gs
  | .scr xs => ∃ o ys, H a = some (.frz o (.lst ys)) ∧ RVs G ρ H xs ys
theorem OR.mono {G : Gx} {ρ ρ' : List Addr} {H H' : Hp} {a : Addr} (st : Stp G ρ H ρ' H') (e : H' a = H a) : ∀ {o : OI}, OR G ρ H a o → OR G ρ' H' a o
  | .lst _, ⟨ys, h, r⟩ => ⟨ys, e.trans h, r.mono st⟩
  | .dic _, ⟨ks, h, r⟩ => ⟨ks, e.trans h, r.mono st⟩
  | .ins _ _, ⟨C, dx, gs, c, h, r⟩ => ⟨C, dx, gs, c, e.trans h, r.mono st⟩
  | .xd _, ⟨gs, h, r⟩ => ⟨gs, e.trans h, r.mono st⟩
  | .scr _, ⟨o, ys, h, r⟩ => ⟨o, ys, e.trans h, r.mono st⟩
theorem OR.some {G : Gx} {ρ : List Addr} {H : Hp} {a : Addr} : ∀ {o : OI}, OR G ρ H a o → ∃ u, H a = some u ∧ (∀ xs, u ≠ .tup xs) ∧ ∀ ob xs, u ≠ .frz ob (.tup xs)
  | .lst _, ⟨ys, h, _⟩ => ⟨_, h, (fun _ z => by cases z), (fun _ _ z => by cases z)⟩
  | .dic _, ⟨ks, h, _⟩ => ⟨_, h, (fun _ z => by cases z), (fun _ _ z => by cases z)⟩
  | .ins _ _, ⟨C, dx, gs, _, h, _⟩ => ⟨_, h, (fun _ z => by cases z), (fun _ _ z => by cases z)⟩
  | .xd _, ⟨gs, h, _⟩ => ⟨_, h, (fun _ z => by cases z), (fun _ _ z => by cases z)⟩
  | .scr _, ⟨o, ys, h, _⟩ => ⟨_, h, (fun _ z => by cases z), (fun _ _ z => by cases z)⟩
structure Ag (G : Gx) (ρ : List Addr) (h : Hi) (H : Hp) : Prop where
  nd : ρ.Nodup
  len : ρ.length = h.length
  ob : ∀ (n : Nat) (o : OI), h[n]? = some o → ∃ a, ρ[n]? = some a ∧ OR G ρ H a o
structure AgS (G : Gx) (ρ : List Addr) (H : Hp) (σi : List (Option VI)) (σ : St) : Prop where
  len : σi.length = σ.length
  at_ : ∀ (i : Nat) (v : VI), σi[i]? = some (some v) → ∃ x, σ[i]? = some (some x) ∧ RV G ρ H v x
section
variable {G : Gx} {ρ ρ' : List Addr} {H H' : Hp} {h : Hi} {σi : List (Option VI)} {σ : St}
theorem AgS.mono (st : Stp G ρ H ρ' H') (a : AgS G ρ H σi σ) : AgS G ρ' H' σi σ := ⟨a.len, fun i v e => let ⟨x, h1, h2⟩ := a.at_ i v e; ⟨x, h1, h2.mono st⟩⟩
theorem AgS.set (a : AgS G ρ H σi σ) {v : VI} {x : V} (r : RV G ρ H v x) (i : Nat) : AgS G ρ H (σi.set i (some v)) (σ.set i (some x)) := by
  refine ⟨by simp [a.len], fun j w e => ?_⟩
  rw [List.getElem?_set] at e ⊢
  by_cases hj : i = j
  · subst hj
    rw [if_pos rfl] at e ⊢
    by_cases hl : i < σi.length
    · rw [if_pos hl] at e
      rw [if_pos (by rw [← a.len]; exact hl)]
      cases e
      exact ⟨x, rfl, r⟩
    · rw [if_neg hl] at e
      cases e
  · rw [if_neg hj] at e ⊢
    exact a.at_ j w e
theorem AgS.lose (a : AgS G ρ H σi σ) (i : Nat) (y : Option V) : AgS G ρ H (σi.set i none) (σ.set i y) := by
  refine ⟨by simp [a.len], fun j w e => ?_⟩
  rw [List.getElem?_set] at e ⊢
  by_cases hj : i = j
  · subst hj
    rw [if_pos rfl] at e
    by_cases hl : i < σi.length
    · rw [if_pos hl] at e; cases e
    · rw [if_neg hl] at e; cases e
  · rw [if_neg hj] at e ⊢
    exact a.at_ j w e
theorem sqt_ne {K : PySem.W.Frag} {H : Hp} {p : Addr} {o : HO} (hp : H p = none ∨ ∃ u, H p = some u ∧ (∀ xs, u ≠ .tup xs) ∧ ∀ ob xs, u ≠ .frz ob (.tup xs)) : ∀ a xs, SqT K H a xs → SqT K (upd H p o) a xs := by
  intro a xs q
  have hne : ∀ u, H a = some u → ((∃ xs, u = .tup xs) ∨ ∃ ob xs, u = .frz ob (.tup xs)) → a ≠ p := by
    intro u hu k z
    subst z
    rcases hp with hp | ⟨u', hp, n1, n2⟩
    · rw [hu] at hp; cases hp
    · rw [hu] at hp; cases hp
      rcases k with ⟨xs, rfl⟩ | ⟨ob, xs, rfl⟩
      · exact n1 _ rfl
      · exact n2 _ _ rfl
  rcases q with (q | ⟨ob, q⟩) | q
  · exact .inl (.inl (by rw [upd_ne (hne _ q (.inl ⟨_, rfl⟩))]; exact q))
  · exact .inl (.inr ⟨ob, by rw [upd_ne (hne _ q (.inr ⟨_, _, rfl⟩))]; exact q⟩)
  · exact .inr q
theorem Ag.at_ (ag : Ag G ρ h H) {n : Nat} {a : Addr} {o : OI} (e : h[n]? = some o) (p : ρ[n]? = some a) : OR G ρ H a o := by
  obtain ⟨b, hb, r⟩ := ag.ob n o e
  rw [p] at hb
  cases hb
  exact r
theorem Ag.fresh (a : Ag G ρ h H) {p : Addr} (hp : H p = none) : p ∉ ρ := by
  intro hm
  obtain ⟨n, hn, e⟩ := List.mem_iff_getElem.mp hm
  have hl : n < h.length := by rw [← a.len]; exact hn
  obtain ⟨b, hb, r⟩ := a.ob n h[n] (by simp [hl])
  obtain ⟨u, hu, _⟩ := r.some
  have : b = p := by
    have : ρ[n]? = some ρ[n] := by simp [hn]
    rw [this] at hb
    cases hb
    exact e
  subst this
  rw [hp] at hu
  cases hu
theorem Stp.new {p : Addr} {o : HO} (hp : H p = none) : Stp G ρ H (ρ ++ [p]) (upd H p o) :=
  ⟨fun n a e => by rw [List.getElem?_append_left (List.getElem?_eq_some_iff.mp e).1]; exact e, sqt_ne (.inl hp)⟩
theorem Stp.more {p : Addr} {o : HO} (hp : H p = none) : Stp G ρ H ρ (upd H p o) := ⟨fun _ _ e => e, sqt_ne (.inl hp)⟩
theorem Ag.more (a : Ag G ρ h H) {p : Addr} {o : HO} (hp : H p = none) : Ag G ρ h (upd H p o) :=
  ⟨a.nd, a.len, fun n u e => by
    obtain ⟨b, hb, r⟩ := a.ob n u e
    obtain ⟨_, hu, _⟩ := r.some
    exact ⟨b, hb, r.mono (Stp.more hp) (upd_ne (ne_of_none hu hp))⟩⟩
theorem Ag.new (a : Ag G ρ h H) {p : Addr} {o : HO} {u : OI} (hp : H p = none) (r : OR G (ρ ++ [p]) (upd H p o) p u) : Ag G (ρ ++ [p]) (h ++ [u]) (upd H p o) := by
  refine ⟨?_, by simp [a.len], fun n v e => ?_⟩
  · rw [List.nodup_append]
    refine ⟨a.nd, by simp, fun x hx y hy => ?_⟩
    rw [List.mem_singleton] at hy
    subst hy
    intro z
    subst z
    exact a.fresh hp hx
  · by_cases hn : n < h.length
    · rw [List.getElem?_append_left hn] at e
      obtain ⟨b, hb, q⟩ := a.ob n v e
      obtain ⟨_, hu, _⟩ := q.some
      exact ⟨b, (Stp.new (G := G) (o := o) hp).pre n b hb, q.mono (Stp.new hp) (upd_ne (ne_of_none hu hp))⟩
    · have hle : h.length ≤ n := Nat.le_of_not_lt hn
      rw [List.getElem?_append_right hle] at e
      have hz : n - h.length = 0 := by
        have := (List.getElem?_eq_some_iff.mp e).1
        simp at this
        omega
      rw [hz] at e
      simp at e
      subst e
      have : n = ρ.length := by rw [a.len]; omega
      exact ⟨p, by rw [this]; simp, r⟩
theorem Stp.wr {p : Addr} {o : HO} {n : Nat} {u : OI} (a : Ag G ρ h H) (hn : h[n]? = some u) (hp : ρ[n]? = some p) : Stp G ρ H ρ (upd H p o) :=
  ⟨fun _ _ e => e, by
    obtain ⟨b, hb, r⟩ := a.ob n u hn
    rw [hp] at hb
    cases hb
    exact sqt_ne (.inr r.some)⟩
theorem Ag.wr (a : Ag G ρ h H) {p : Addr} {o : HO} {n : Nat} {u u' : OI} (hn : h[n]? = some u) (hp : ρ[n]? = some p) (r : OR G ρ (upd H p o) p u') : Ag G ρ (h.set n u') (upd H p o) := by
  refine ⟨a.nd, by simp [a.len], fun m v e => ?_⟩
  rw [List.getElem?_set] at e
  by_cases hm : n = m
  · subst hm
    rw [if_pos rfl, if_pos (List.getElem?_eq_some_iff.mp hn).1] at e
    cases e
    exact ⟨p, hp, r⟩
  · rw [if_neg hm] at e
    obtain ⟨b, hb, q⟩ := a.ob m v e
    have hne : b ≠ p := by
      intro z
      subst z
      obtain ⟨h1, e1⟩ := List.getElem?_eq_some_iff.mp hp
      obtain ⟨h2, e2⟩ := List.getElem?_eq_some_iff.mp hb
      have pw := List.pairwise_iff_getElem.mp a.nd
      rcases Nat.lt_trichotomy n m with l | l | l
      · exact pw n m h1 h2 l (e1.trans e2.symm)
      · exact hm l
      · exact pw m n h2 h1 l (e2.trans e1.symm)
    exact ⟨b, hb, q.mono (Stp.wr a hn hp) (upd_ne hne)⟩
end
end ML
end
section
namespace ML
open PySem L2
abbrev Sg := List (Option VI)
abbrev ME := Sg → Hi → Res VI
abbrev MT := Sg → Hi → Res Bool
abbrev MA := Sg → Hi → Res (List VI)
def Res.bind {α β : Type} (r : Res α) (f : α → Hi → Res β) : Res β := match r with
  | .ok a h => f a h
  | .ex c n h => .ex c n h
  | .err => .err
def FinG {α β : Type} (G : Gx) (ρ : List Addr) (H : Hp) (R : List Addr → Hp → α → β → Prop) (Q : β → Hp → Prop) (W : Value → Option Addr → Hp → Prop) : Res α → Prop
  | .ok v h' => ∀ ρ' H' x, Stp G ρ H ρ' H' → Ag G ρ' h' H' → R ρ' H' v x → Q x H'
  | .ex c n h' => ∀ ρ' H' d C, Stp G ρ H ρ' H' → Ag G ρ' h' H' → ρ'[n]? = some d → G.ct c = some C → W (.ref C) (some d) H'
  | .err => False
def rdG {α β : Type} (G : Gx) (R : List Addr → Hp → α → β → Prop) (W : WX) (m : Sg → Hi → Res α) : St → Hp → (β → Hp → Prop) → Prop := fun σ H Q =>
  ∃ ρ σi h, AgS G ρ H σi σ ∧ Ag G ρ h H ∧ FinG G ρ H R Q (fun c d H' => W c d σ H') (m σi h)
abbrev rdE (G : Gx) (W : WX) (m : ME) : TE := rdG G (RV G) W m
abbrev rdT (G : Gx) (W : WX) (m : MT) : TT := rdG G (fun _ _ (b c : Bool) => b = c) W m
abbrev rdA (G : Gx) (W : WX) (m : MA) : TA := rdG G (RVs G) W m
section
variable {G : Gx} {ρ ρ1 : List Addr} {H H1 : Hp} {α β γ δ : Type} {W : WX} {σ : St}
theorem FinG.later {R : List Addr → Hp → α → β → Prop} {Q : β → Hp → Prop} {W : Value → Option Addr → Hp → Prop} (st : Stp G ρ H ρ1 H1) : ∀ {r : Res α}, FinG G ρ H R Q W r → FinG G ρ1 H1 R Q W r
  | .ok _ _, f => fun ρ' H' x s a r => f ρ' H' x (st.trans s) a r
  | .ex _ _ _, f => fun ρ' H' d C s a e c => f ρ' H' d C (st.trans s) a e c
  | .err, f => f
theorem rdG_go {R : List Addr → Hp → α → β → Prop} {R' : List Addr → Hp → γ → δ → Prop} {m : Sg → Hi → Res α} {k : α → Hi → Res γ} {Q : δ → Hp → Prop} {N : β → Hp → Prop} {σi : Sg} {h : Hi}
    (as : AgS G ρ H σi σ) (a : Ag G ρ h H) (f : FinG G ρ H R' Q (fun c d H' => W c d σ H') ((m σi h).bind k))
    (nx : ∀ ρ1 H1 h1 x y, Stp G ρ H ρ1 H1 → AgS G ρ1 H1 σi σ → Ag G ρ1 h1 H1 → R ρ1 H1 x y → FinG G ρ1 H1 R' Q (fun c d H' => W c d σ H') (k x h1) → N y H1) : rdG G R W m σ H N := by
  refine ⟨ρ, σi, h, as, a, ?_⟩
  cases e : m σi h with
  | err => rw [e] at f; exact f
  | ex c n h' => rw [e] at f; exact f
  | ok v h' =>
    rw [e] at f
    exact fun ρ' H' x st a' r => nx ρ' H' h' v x st (as.mono st) a' r (FinG.later st f)
theorem FinG.ok {R : List Addr → Hp → α → β → Prop} {Q : β → Hp → Prop} {W : Value → Option Addr → Hp → Prop} {v : α} {h : Hi} {x : β} (f : FinG G ρ H R Q W (.ok v h)) (a : Ag G ρ h H) (r : R ρ H v x) : Q x H := f ρ H x .refl a r
end
section
variable {X : Cx} {e a b : Expr} {pos : Pos}
theorem PE.imp' {t t' : TE} (h : PE X e t) (i : ∀ σ H Q, t' σ H Q → t σ H Q) : PE X e t' := ⟨fun pins s σ H Q I q => h.run pins s σ H Q I (i σ H Q q)⟩
theorem PT.imp' {t t' : TT} (h : PT X e t) (i : ∀ σ H Q, t' σ H Q → t σ H Q) : PT X e t' := ⟨fun pins s σ H Q I q => h.run pins s σ H Q I (i σ H Q q)⟩
theorem PW.imp' {t t' : TT} (h : PW X e t) (i : ∀ σ H Q, t' σ H Q → t σ H Q) : PW X e t' := ⟨fun wh pins s σ H Q I q => h.run wh pins s σ H Q I (i σ H Q q)⟩
theorem PA.imp' {es : List Expr} {t t' : TA} (h : PA X es t) (i : ∀ σ H Q, t' σ H Q → t σ H Q) : PA X es t' := ⟨fun p pins s σ H Q I q => h.run p pins s σ H Q I (i σ H Q q)⟩
theorem PS.imp' {st : Stmt} {t t' : TS} (h : PS X st t) (i : ∀ D σ H, t' D σ H → t D σ H) : PS X st t' := ⟨fun pins s σ H D I q => h.run pins s σ H D I (i D σ H q)⟩
theorem PSs.imp' {st : List Stmt} {t t' : TS} (h : PSs X st t) (i : ∀ D σ H, t' D σ H → t D σ H) : PSs X st t' := ⟨fun pins s σ H D I q => h.run pins s σ H D I (i D σ H q)⟩
end
def eV (i : Nat) : ME := fun σ h => match σ[i]? with
  | some (some v) => .ok v h
  | _ => .err
def eC (v : VI) : ME := fun _ h => .ok v h
def aNil : MA := fun _ h => .ok [] h
def aCons (a : ME) (r : MA) : MA := fun σ h => (a σ h).bind fun x h1 => (r σ h1).bind fun xs h2 => .ok (x :: xs) h2
def small (n : Nat) : Bool := Nat.ble n 100000
theorem small_ok {n : Nat} (h : small n = true) : n ≤ sizeLine := Nat.le_trans (Nat.le_of_ble_eq_true h) (by decide)
def eTup (a : MA) : ME := fun σ h => (a σ h).bind fun xs h1 => match small xs.length with
  | true => .ok (.tup xs) h1
  | false => .err
def eLst (a : MA) : ME := fun σ h => (a σ h).bind fun xs h1 => match small xs.length with
  | true => .ok (.ref h1.length) (h1 ++ [.lst xs])
  | false => .err
section
variable {G : Gx} {W : WX} {X : Cx} {e a b : Expr} {es : List Expr} {pos : Pos} {me ma mb : ME} {mr : MA}
theorem me_var {i : Nat} {x : Str} (hN : X.N[i]? = some x) (hv : Vis X.env.scope x) (hd : (x == ("__debug__" : Str)) = false := by decide) (hcd : (x == ("__classdict__" : Str)) = false := by decide) : PE X (.Name x pos) (rdE G W (eV i)) :=
  PE.imp' (pe_var hN hv hd hcd) fun σ H Q ⟨ρ, σi, h, as, ag, f⟩ => by
    unfold eV at f
    cases e : σi[i]? with
    | none => rw [e] at f; exact f.elim
    | some o =>
      rw [e] at f
      cases o with
      | none => exact f.elim
      | some v =>
        obtain ⟨x, h1, r⟩ := as.at_ i v e
        exact ⟨x, h1, f.ok ag r⟩
theorem me_c {v : VI} {x : V} (he : PE X e (tC x)) (r : ∀ ρ H, RV G ρ H v x) : PE X e (rdE G W (eC v)) :=
  PE.imp' he fun σ H Q ⟨ρ, σi, h, as, ag, f⟩ => f.ok ag (r ρ H)
theorem me_int {i : Int} {j} : PE X (.Constant (.int i) j pos) (rdE G W (eC (.int i))) := me_c pe_int fun _ _ => .int i
theorem me_bl {i : Bool} {j} : PE X (.Constant (.bool i) j pos) (rdE G W (eC (.bl i))) := me_c pe_bl fun _ _ => .bl i
theorem me_non {j} : PE X (.Constant .none j pos) (rdE G W (eC .non)) := me_c pe_non fun _ _ => .non
theorem me_str {s : S} {x : Str} {j} (h : x = toStr s) : PE X (.Constant (.str x) j pos) (rdE G W (eC (.str s))) := me_c pe_str fun _ _ => .str h
theorem ma_nil : PA X [] (rdA G W aNil) := PA.imp' pa_nil fun σ H Q ⟨ρ, σi, h, as, ag, f⟩ => f.ok ag .nil
theorem ma_cons (ha : PE X e (rdE G W me)) (hr : PA X es (rdA G W mr)) (hs : starEach (e :: es) X.env = (false, eval e X.env) :: starEach es X.env := by rfl) : PA X (e :: es) (rdA G W (aCons me mr)) :=
  PA.imp' (pa_cons ha hr hs) fun σ H Q ⟨ρ, σi, h, as, ag, f⟩ => rdG_go as ag f fun ρ1 H1 h1 x y st as ag r f => rdG_go as ag f fun ρ2 H2 h2 xs ys st2 as ag rs f => f.ok ag (.cons (r.mono st2) rs)
theorem me_tup {x1} (h : PA X es (rdA G W mr)) : PE X (.Tuple es x1 pos) (rdE G W (eTup mr)) :=
  PE.imp' (pe_tup h) fun σ H Q ⟨ρ, σi, h, as, ag, f⟩ => rdG_go as ag f fun ρ1 H1 h1 xs ys st as ag rs f => by
    cases e : small xs.length with
    | false => rw [e] at f; exact f.elim
    | true =>
      rw [e] at f
      refine ⟨by rw [← rs.length]; exact small_ok e, fun p hp => ?_⟩
      exact f ρ1 _ _ (Stp.more hp) (ag.more hp) (.tup (.inl (.inl upd_same)) (rs.mono (Stp.more hp)))
theorem me_lst (h : PA X es (rdA G W mr)) : PE X (.List es pos) (rdE G W (eLst mr)) :=
  PE.imp' (pe_lst h) fun σ H Q ⟨ρ, σi, h, as, ag, f⟩ => rdG_go as ag f fun ρ1 H1 h1 xs ys st as ag rs f => by
    cases e : small xs.length with
    | false => rw [e] at f; exact f.elim
    | true =>
      rw [e] at f
      refine ⟨by rw [← rs.length]; exact small_ok e, fun p hp => ?_⟩
      exact f (ρ1 ++ [p]) _ _ (Stp.new hp) (ag.new hp ⟨ys, upd_same, rs.mono (Stp.new hp)⟩) (.ref (by rw [← ag.len]; simp))
end
end ML
end
section
namespace ML
open PySem L2
def datL (f : VI → Option PyData) : List VI → Option (List PyData)
  | [] => some []
  | x :: xs => match f x with
    | some d => match datL f xs with
      | some ds => some (d :: ds)
      | none => none
    | none => none
def dat : Nat → Hi → VI → Option PyData
  | 0, _, _ => none
  | n + 1, h, v => match v with
    | .non => some .none
    | .bl b => some (.bool b)
    | .int i => some (.int i)
    | .str s => some (.str (toStr s))
    | .glo _ => none
    | .tup xs => (datL (dat n h) xs).map .tuple
    | .ref a => match h[a]? with
      | some (.lst xs) => (datL (dat n h) xs).map .list
      | some (.scr xs) => (datL (dat n h) xs).map .list
      | _ => none
section
variable {G : Gx} {ρ : List Addr} {h : Hi} {H : Hp}
theorem datL_ok {f : VI → Option PyData} (ih : ∀ v x d, RV G ρ H v x → f v = some d → Dp G.K H x d) : ∀ {vs xs ds}, RVs G ρ H vs xs → datL f vs = some ds → DpAll G.K H xs ds
  | _, _, _, .nil, e => by cases e; exact .nil
  | _, _, _, .cons (v := v) (vs := vs) r t, e => by
    unfold datL at e
    cases e1 : f v with
    | none => rw [e1] at e; cases e
    | some d =>
      rw [e1] at e
      cases e2 : datL f vs with
      | none => rw [e2] at e; cases e
      | some ds =>
        rw [e2] at e
        cases e
        exact .cons (ih _ _ _ r e1) (datL_ok ih t e2)
theorem dat_ok (ag : Ag G ρ h H) : ∀ (n : Nat) (v : VI) (x : V) (d : PyData), RV G ρ H v x → dat n h v = some d → Dp G.K H x d
  | 0, _, _, _, _, e => by cases e
  | n + 1, v, x, d, r, e => by
    cases r with
    | non => cases e; exact .non
    | bl b => cases e; exact .bl b
    | int i => cases e; exact .int i
    | str q => cases e; subst q; exact .str _
    | glo q => cases e
    | @tup xs ys a t rs =>
      have e' : (datL (dat n h) xs).map PyData.tuple = some d := e
      cases e1 : datL (dat n h) xs with
      | none => rw [e1] at e'; cases e'
      | some ds =>
        rw [e1] at e'
        cases e'
        exact .tup t (datL_ok (fun v x d => dat_ok ag n v x d) rs e1)
    | @ref k a q =>
      cases e0 : h[k]? with
      | none => unfold dat at e; dsimp only at e; rw [e0] at e; cases e
      | some o =>
        obtain ⟨b, hb, ob⟩ := ag.ob k o e0
        rw [q] at hb
        cases hb
        unfold dat at e
        dsimp only at e
        rw [e0] at e
        cases o with
        | lst xs =>
          obtain ⟨ys, hy, rs⟩ := ob
          have e' : (datL (dat n h) xs).map PyData.list = some d := e
          cases e1 : datL (dat n h) xs with
          | none => rw [e1] at e'; cases e'
          | some ds =>
            rw [e1] at e'
            cases e'
            exact .lst (.inl (.inl hy)) (datL_ok (fun v x d => dat_ok ag n v x d) rs e1)
        | scr xs =>
          obtain ⟨ob, ys, hy, rs⟩ := ob
          have e' : (datL (dat n h) xs).map PyData.list = some d := e
          cases e1 : datL (dat n h) xs with
          | none => rw [e1] at e'; cases e'
          | some ds =>
            rw [e1] at e'
            cases e'
            exact .lst (.inl (.inr ⟨_, hy⟩)) (datL_ok (fun v x d => dat_ok ag n v x d) rs e1)
        | dic kvs => cases e
        | ins c fs => cases e
        | xd fs => cases e
end
abbrev Op2 := VI → VI → Hi → Option (VI × Hi)
def ofO {α : Type} : Option (α × Hi) → Res α
  | some (a, h) => .ok a h
  | none => .err
def eBin (f : Op2) (a b : ME) : ME := fun σ h => (a σ h).bind fun x h1 => (b σ h1).bind fun y h2 => ofO (f x y h2)
def FinO {α β : Type} (G : Gx) (ρ : List Addr) (H : Hp) (R : List Addr → Hp → α → β → Prop) (Q : β → Hp → Prop) : Option (α × Hi) → Prop
  | some (v, h') => ∀ ρ' H' x, Stp G ρ H ρ' H' → Ag G ρ' h' H' → R ρ' H' v x → Q x H'
  | none => False
def rd2 (G : Gx) (f : Op2) : R2 := fun x y H Q => ∃ ρ h xi yi, Ag G ρ h H ∧ RV G ρ H xi x ∧ RV G ρ H yi y ∧ FinO G ρ H (RV G) Q (f xi yi h)
section
variable {G : Gx} {ρ : List Addr} {h : Hi} {H : Hp} {W : WX} {X : Cx} {e a b c : Expr} {pos : Pos} {ma mb mc : ME} {f : Op2}
theorem FinO.of {α β : Type} {R : List Addr → Hp → α → β → Prop} {Q : β → Hp → Prop} {W : Value → Option Addr → Hp → Prop} {r : Option (α × Hi)} (f : FinG G ρ H R Q W (ofO r)) : FinO G ρ H R Q r := by
  cases r with
  | none => exact f
  | some p => exact f
theorem FinO.ok {α β : Type} {R : List Addr → Hp → α → β → Prop} {Q : β → Hp → Prop} {v : α} {x : β} (f : FinO G ρ H R Q (some (v, h))) (a : Ag G ρ h H) (r : R ρ H v x) : Q x H := f ρ H x .refl a r
theorem me_bin {op : Operator} (ho : OpR X (binaryOp op) (rd2 G f)) (ha : PE X a (rdE G W ma)) (hb : PE X b (rdE G W mb)) : PE X (.BinOp a op b pos) (rdE G W (eBin f ma mb)) :=
  PE.imp' (pe_op ho ha hb) fun σ H Q ⟨ρ, σi, h, as, ag, f⟩ => rdG_go as ag f fun ρ1 H1 h1 x x' st as ag r f => rdG_go as ag f fun ρ2 H2 h2 y y' st2 as ag rs f => ⟨ρ2, h2, x, y, ag, r.mono st2, rs, FinO.of f⟩
theorem me_cmp {op : CmpOp} (ho : OpR X (compareOp op) (rd2 G f)) (ha : PE X a (rdE G W ma)) (hb : PE X b (rdE G W mb)) (hm : behindInMarks op b = false) : PE X (.Compare a [op] [b] pos) (rdE G W (eBin f ma mb)) :=
  PE.imp' (pe_cmpR ho ha hb hm) fun σ H Q ⟨ρ, σi, h, as, ag, f⟩ => rdG_go as ag f fun ρ1 H1 h1 x x' st as ag r f => rdG_go as ag f fun ρ2 H2 h2 y y' st2 as ag rs f => ⟨ρ2, h2, x, y, ag, r.mono st2, rs, FinO.of f⟩
theorem OpR.imp' {g : Value → Value → Sem Value} {r r' : R2} (h : OpR X g r) (i : ∀ x y H Q, r' x y H Q → r x y H Q) : OpR X g r' := fun pins s σ H x y v u Q I r1 r2 q => h pins s σ H x y v u Q I r1 r2 (i x y H Q q)
theorem opR_at {g : Value → Value → Sem Value} (h : ∀ ρ h H xi yi x y Q, Ag G ρ h H → RV G ρ H xi x → RV G ρ H yi y → FinO G ρ H (RV G) Q (f xi yi h) → ∃ r : R2, OpR X g r ∧ r x y H Q) : OpR X g (rd2 G f) :=
  fun pins s σ H x y v u Q I r1 r2 ⟨ρ, hi, xi, yi, ag, a1, a2, q⟩ => by
    obtain ⟨r, ho, hr⟩ := h ρ hi H xi yi x y Q ag a1 a2 q
    exact ho pins s σ H x y v u Q I r1 r2 hr
end
def fAdd : Op2 := fun x y h => match x, y with
  | .int i, .int j => some (.int (i + j), h)
  | .str s, .str t => match small (s.length + t.length) with
    | true => some (.str (s ++ t), h)
    | false => none
  | .tup xs, .tup ys => match small (xs.length + ys.length) with
    | true => some (.tup (xs ++ ys), h)
    | false => none
  | .ref a, .ref b => match h[a]?, h[b]? with
    | some (.lst xs), some (.lst ys) => match small (xs.length + ys.length) with
      | true => some (.ref h.length, h ++ [.lst (xs ++ ys)])
      | false => none
    | _, _ => none
  | _, _ => none
def fSub : Op2 := fun x y h => match x, y with
  | .int i, .int j => some (.int (i - j), h)
  | _, _ => none
def bnd (i : Int) : Bool := decide (-(2 ^ 64) < i) && decide (i < 2 ^ 64)
def repL (xs : List VI) : Nat → List VI
  | 0 => []
  | n + 1 => xs ++ repL xs n
def fMul : Op2 := fun x y h => match x, y with
  | .int i, .int j => match bnd i || bnd j with
    | true => some (.int (i * j), h)
    | false => none
  | .ref a, .int k => match h[a]? with
    | some (.lst xs) => match (decide (0 ≤ k) && decide (k ≤ 1000)) && small (xs.length * k.toNat) with
      | true => some (.ref h.length, h ++ [.lst (repL xs k.toNat)])
      | false => none
    | _ => none
  | .tup xs, .int k => match (decide (2 ≤ k) && decide (k ≤ 1000)) && (Nat.ble xs.length 1000 && !xs.isEmpty) with
    | true => some (.tup (repL xs k.toNat), h)
    | false => none
  | _, _ => none
def fMod : Op2 := fun x y h => match x, y with
  | .int i, .int j => match decide (0 < j) with
    | true => some (.int (i % j), h)
    | false => none
  | _, _ => none
def fFdiv : Op2 := fun x y h => match x, y with
  | .int i, .int j => match decide (0 < j) && decide (j < 1073741824) with
    | true => some (.int (i / j), h)
    | false => none
  | _, _ => none
def fPow : Op2 := fun x y h => match x, y with
  | .int i, .int j => match decide (0 ≤ j) && (decide (j ≤ 1000) && decide (i.natAbs < 2 ^ 64)) with
    | true => some (.int (i ^ j.toNat), h)
    | false => none
  | _, _ => none
theorem toStr_append (s t : S) : toStr s ++ toStr t = toStr (s ++ t) := by
  show PySem.Str.append (toStr s) (toStr t) = _
  unfold PySem.Str.append toStr
  simp
theorem toStr_length (s : S) : (toStr s).length = s.length := by
  show (toStr s).cps.size = _
  unfold toStr
  simp
section
variable {G : Gx} {ρ : List Addr} {H : Hp}
theorem RVs.rep {xs : List VI} {ys : List V} (r : RVs G ρ H xs ys) : ∀ n, RVs G ρ H (repL xs n) (List.replicate n ys).flatten
  | 0 => .nil
  | n + 1 => by
    rw [List.replicate_succ, List.flatten_cons]
    exact RVs.append r (RVs.rep r n)
variable {X : Cx}
theorem RVs.nil_iff {xs : List VI} {ys : List V} (r : RVs G ρ H xs ys) : xs = [] ↔ ys = [] := by
  cases r with
  | nil => exact ⟨fun _ => rfl, fun _ => rfl⟩
  | cons _ _ => exact ⟨fun z => (by cases z), fun z => (by cases z)⟩
theorem FinO.new {h : Hi} {Q : VK} {p : Addr} {o : HO} {u : OI} (f : FinO G ρ H (RV G) Q (some (.ref h.length, h ++ [u]))) (ag : Ag G ρ h H) (hp : H p = none) (r : OR G (ρ ++ [p]) (upd H p o) p u) : Q (.ref p) (upd H p o) :=
  f (ρ ++ [p]) _ _ (Stp.new hp) (ag.new hp r) (.ref (by rw [← ag.len]; simp))
theorem mo_add (hG : G.K = X.K) : OpR X (binaryOp .Add) (rd2 G fAdd) := opR_at fun ρ h H xi yi x y Q ag r1 r2 f => by
  unfold fAdd at f
  cases r1 with
  | int i =>
    cases r2 with
    | int j => exact ⟨_, op_add, i, j, rfl, rfl, f.ok ag (.int _)⟩
    | _ => exact f.elim
  | @str s _ e =>
    cases r2 with
    | @str t _ e' =>
      subst e e'
      dsimp only at f
      cases q : small (s.length + t.length) with
      | false => rw [q] at f; exact f.elim
      | true =>
        rw [q] at f
        exact ⟨_, op_add_str, _, _, rfl, rfl, by rw [toStr_length, toStr_length]; exact small_ok q, f.ok ag (.str (toStr_append s t))⟩
    | _ => exact f.elim
  | @tup xs ys a t1 s1 =>
    cases r2 with
    | @tup xs2 ys2 b t2 s2 =>
      dsimp only at f
      cases q : small (xs.length + xs2.length) with
      | false => rw [q] at f; exact f.elim
      | true =>
        rw [q] at f
        refine ⟨_, op_catA, a, b, ys, ys2, rfl, rfl, hG ▸ t1, hG ▸ t2, by rw [← s1.length, ← s2.length]; exact small_ok q, fun z => ?_, fun z1 z2 => ?_, fun z1 z2 p hp => ?_⟩
        · have e := s1.nil_iff.mpr z
          subst e
          exact f.ok ag (.tup t2 s2)
        · have e := s2.nil_iff.mpr z2
          subst e
          rw [List.append_nil] at f
          exact f.ok ag (.tup t1 s1)
        · exact f ρ _ _ (Stp.more hp) (ag.more hp) (.tup (.inl (.inl upd_same)) ((s1.append s2).mono (Stp.more hp)))
    | _ => exact f.elim
  | @ref n a e =>
    cases r2 with
    | @ref m b e' =>
      dsimp only at f
      cases q : h[n]? with
      | none => rw [q] at f; exact f.elim
      | some o =>
        rw [q] at f
        cases o with
        | lst xs =>
          cases q2 : h[m]? with
          | none => rw [q2] at f; exact f.elim
          | some o2 =>
            rw [q2] at f
            cases o2 with
            | lst ys =>
              dsimp only at f
              obtain ⟨xv, hx, rx⟩ := ag.at_ q e
              obtain ⟨yv, hy, ry⟩ := ag.at_ q2 e'
              cases z : small (xs.length + ys.length) with
              | false => rw [z] at f; exact f.elim
              | true =>
                rw [z] at f
                exact ⟨_, op_cat, a, b, xv, yv, rfl, rfl, hx, hy, by rw [← rx.length, ← ry.length]; exact small_ok z, fun p hp => FinO.new f ag hp ⟨_, upd_same, (rx.append ry).mono (Stp.new hp)⟩⟩
            | _ => exact f.elim
        | _ => exact f.elim
    | _ => exact f.elim
  | _ => exact f.elim
theorem bnd_ok {i : Int} (h : bnd i = true) : -(2 ^ 64) < i ∧ i < 2 ^ 64 := by
  unfold bnd at h
  obtain ⟨h1, h2⟩ := Bool.and_eq_true_iff.mp h
  exact ⟨of_decide_eq_true h1, of_decide_eq_true h2⟩
theorem mo_mul (hG : G.K = X.K) : OpR X (binaryOp .Mult) (rd2 G fMul) := opR_at fun ρ h H xi yi x y Q ag r1 r2 f => by
  unfold fMul at f
  cases r1 with
  | int i =>
    cases r2 with
    | int j =>
      dsimp only at f
      cases q : bnd i || bnd j with
      | false => rw [q] at f; exact f.elim
      | true =>
        rw [q] at f
        exact ⟨_, op_mul, i, j, rfl, rfl, (Bool.or_eq_true_iff.mp q).elim (fun z => .inl (bnd_ok z)) (fun z => .inr (bnd_ok z)), f.ok ag (.int _)⟩
    | _ => exact f.elim
  | @tup xs ys a t1 s1 =>
    cases r2 with
    | int k =>
      dsimp only at f
      cases q : (decide (2 ≤ k) && decide (k ≤ 1000)) && (Nat.ble xs.length 1000 && !xs.isEmpty) with
      | false => rw [q] at f; exact f.elim
      | true =>
        rw [q] at f
        obtain ⟨q1, q2⟩ := Bool.and_eq_true_iff.mp q
        obtain ⟨k1, k2⟩ := Bool.and_eq_true_iff.mp q1
        obtain ⟨l1, l2⟩ := Bool.and_eq_true_iff.mp q2
        refine ⟨_, op_repT, a, k, ys, rfl, rfl, hG ▸ t1, fun z => ?_, of_decide_eq_true k1, of_decide_eq_true k2, by rw [← s1.length]; exact Nat.le_of_ble_eq_true l1, fun p hp => ?_⟩
        · have e := s1.nil_iff.mpr z
          subst e
          cases l2
        · exact f ρ _ _ (Stp.more hp) (ag.more hp) (.tup (.inl (.inl upd_same)) ((s1.rep _).mono (Stp.more hp)))
    | _ => exact f.elim
  | @ref n a e =>
    cases r2 with
    | int k =>
      dsimp only at f
      cases q : h[n]? with
      | none => rw [q] at f; exact f.elim
      | some o =>
        rw [q] at f
        cases o with
        | lst xs =>
          dsimp only at f
          obtain ⟨xv, hx, rx⟩ := ag.at_ q e
          cases z : (decide (0 ≤ k) && decide (k ≤ 1000)) && small (xs.length * k.toNat) with
          | false => rw [z] at f; exact f.elim
          | true =>
            rw [z] at f
            obtain ⟨q1, q2⟩ := Bool.and_eq_true_iff.mp z
            obtain ⟨k1, k2⟩ := Bool.and_eq_true_iff.mp q1
            have k1 := of_decide_eq_true k1
            have k2 := of_decide_eq_true k2
            exact ⟨_, op_rep, a, k, xv, rfl, rfl, hx, by omega, by omega, by rw [← rx.length]; exact small_ok q2, fun p hp => FinO.new f ag hp ⟨_, upd_same, (rx.rep _).mono (Stp.new hp)⟩⟩
        | _ => exact f.elim
    | _ => cases q : h[n]? <;> exact f.elim
  | _ => exact f.elim
theorem mo_pow : OpR X (binaryOp .Pow) (rd2 G fPow) := opR_at fun ρ h H xi yi x y Q ag r1 r2 f => by
  unfold fPow at f
  cases r1 with
  | int i =>
    cases r2 with
    | int j =>
      dsimp only at f
      cases q : decide (0 ≤ j) && (decide (j ≤ 1000) && decide (i.natAbs < 2 ^ 64)) with
      | false => rw [q] at f; exact f.elim
      | true =>
        rw [q] at f
        obtain ⟨q1, q2⟩ := Bool.and_eq_true_iff.mp q
        obtain ⟨q2, q3⟩ := Bool.and_eq_true_iff.mp q2
        have q2 := of_decide_eq_true q2
        exact ⟨_, op_pow, i, j, rfl, rfl, ⟨of_decide_eq_true q1, by omega, of_decide_eq_true q3⟩, f.ok ag (.int _)⟩
    | _ => exact f.elim
  | _ => exact f.elim
def eqD (h : Hi) (x y : VI) : Option Bool := match dat 66 h x, dat 66 h y with
  | some d, some e => match SeqAt.shaped d && SeqAt.shaped e with
    | true => some (PyData.eqv d e)
    | false => none
  | _, _ => none
def fEq : Op2 := fun x y h => match eqD h x y with
  | some b => some (.bl b, h)
  | none => none
def fNe : Op2 := fun x y h => match eqD h x y with
  | some b => some (.bl (!b), h)
  | none => none
def fInt (p : Int → Int → Bool) : Op2 := fun x y h => match x, y with
  | .int i, .int j => some (.bl (p i j), h)
  | _, _ => none
def fLt : Op2 := fInt fun i j => decide (i < j)
def fLe : Op2 := fInt fun i j => decide (i ≤ j)
def fGt : Op2 := fInt fun i j => decide (j < i)
def fGe : Op2 := fInt fun i j => decide (j ≤ i)
def fIsN : Op2 := fun x y h => match y with
  | .non => some (.bl (match x with | .non => true | _ => false), h)
  | _ => none
def fNotN : Op2 := fun x y h => match y with
  | .non => some (.bl (match x with | .non => false | _ => true), h)
  | _ => none
theorem eqD_ok {h : Hi} {xi yi : VI} {x y : V} {b : Bool} (ag : Ag G ρ h H) (r1 : RV G ρ H xi x) (r2 : RV G ρ H yi y) (e : eqD h xi yi = some b) : ∃ d d', Dp G.K H x d ∧ Dp G.K H y d' ∧ SeqAt.shaped d = true ∧ SeqAt.shaped d' = true ∧ b = PyData.eqv d d' := by
  unfold eqD at e
  cases e1 : dat 66 h xi with
  | none => rw [e1] at e; cases e
  | some d =>
    cases e2 : dat 66 h yi with
    | none => rw [e1, e2] at e; cases e
    | some d' =>
      rw [e1, e2] at e
      dsimp only at e
      cases q : SeqAt.shaped d && SeqAt.shaped d' with
      | false => rw [q] at e; cases e
      | true =>
        rw [q] at e
        cases e
        obtain ⟨q1, q2⟩ := Bool.and_eq_true_iff.mp q
        exact ⟨d, d', dat_ok ag _ _ _ _ r1 e1, dat_ok ag _ _ _ _ r2 e2, q1, q2, rfl⟩
theorem mo_eq (hG : G.K = X.K) (hu : X.A.units + 64 < cLine) : OpR X (compareOp .Eq) (rd2 G fEq) := opR_at fun ρ h H xi yi x y Q ag r1 r2 f => by
  unfold fEq at f
  cases e : eqD h xi yi with
  | none => rw [e] at f; exact f.elim
  | some b =>
    rw [e] at f
    obtain ⟨d, d', p1, p2, s1, s2, rfl⟩ := eqD_ok ag r1 r2 e
    exact ⟨_, op_eqD hu, d, d', hG ▸ p1, hG ▸ p2, s1, s2, f.ok ag (.bl _)⟩
theorem mo_ne (hG : G.K = X.K) (hu : X.A.units + 64 < cLine) : OpR X (compareOp .NotEq) (rd2 G fNe) := opR_at fun ρ h H xi yi x y Q ag r1 r2 f => by
  unfold fNe at f
  cases e : eqD h xi yi with
  | none => rw [e] at f; exact f.elim
  | some b =>
    rw [e] at f
    obtain ⟨d, d', p1, p2, s1, s2, rfl⟩ := eqD_ok ag r1 r2 e
    exact ⟨_, op_neD hu, d, d', hG ▸ p1, hG ▸ p2, s1, s2, f.ok ag (.bl _)⟩
theorem mo_isN : OpR X (compareOp .Is) (rd2 G fIsN) := opR_at fun ρ h H xi yi x y Q ag r1 r2 f => by
  unfold fIsN at f
  cases r2 with
  | non => cases r1 <;> exact ⟨_, op_isN, rfl, f.ok ag (.bl _)⟩
  | _ => exact f.elim
theorem mo_notN : OpR X (compareOp .IsNot) (rd2 G fNotN) := opR_at fun ρ h H xi yi x y Q ag r1 r2 f => by
  unfold fNotN at f
  cases r2 with
  | non => cases r1 <;> exact ⟨_, op_notN, rfl, f.ok ag (.bl _)⟩
  | _ => exact f.elim
end
end ML
end
section
namespace ML
open PySem L2
def tOf (e : ME) : MT := fun σ h => (e σ h).bind fun v h1 => match v with
  | .bl b => .ok b h1
  | _ => .err
def tAndM (a b : MT) : MT := fun σ h => (a σ h).bind fun c h1 => match c with
  | true => b σ h1
  | false => .ok false h1
def tOrM (a b : MT) : MT := fun σ h => (a σ h).bind fun c h1 => match c with
  | true => .ok true h1
  | false => b σ h1
def tNotM (a : MT) : MT := fun σ h => (a σ h).bind fun c h1 => .ok (!c) h1
def eAnd (a b : ME) : ME := fun σ h => (a σ h).bind fun v h1 => match v with
  | .bl true => b σ h1
  | .bl false => .ok (.bl false) h1
  | _ => .err
def eOr (a b : ME) : ME := fun σ h => (a σ h).bind fun v h1 => match v with
  | .bl true => .ok (.bl true) h1
  | .bl false => b σ h1
  | _ => .err
def eNot (a : ME) : ME := fun σ h => (a σ h).bind fun v h1 => match v with
  | .bl b => .ok (.bl (!b)) h1
  | _ => .err
def eIf (t : MT) (a b : ME) : ME := fun σ h => (t σ h).bind fun c h1 => match c with
  | true => a σ h1
  | false => b σ h1
section
variable {G : Gx} {W : WX} {X : Cx} {e a b c : Expr} {rest : List Expr} {pos : Pos} {me ma mb : ME} {ta tb : MT}
theorem rdG_at {α β : Type} {R : List Addr → Hp → α → β → Prop} {m : Sg → Hi → Res α} {Q : β → Hp → Prop} {ρ : List Addr} {σi : Sg} {h : Hi} {H : Hp} {σ : St} (as : AgS G ρ H σi σ) (a : Ag G ρ h H) (f : FinG G ρ H R Q (fun c d H' => W c d σ H') (m σi h)) : rdG G R W m σ H Q := ⟨ρ, σi, h, as, a, f⟩
theorem mt_val (h : PE X e (rdE G W me)) (he : ∀ whole, isTrue e X.env whole = (do let v ← whole; standAt e.pos; holding [v] (truthy v)) := by intro _; rfl) : PT X e (rdT G W (tOf me)) :=
  PT.imp' (pt_val h he) fun σ H Q ⟨ρ, σi, h, as, ag, f⟩ => rdG_go as ag f fun ρ1 H1 h1 x x' st as ag r f => by
    cases r with
    | bl b => exact ⟨b, rfl, f.ok ag rfl⟩
    | _ => exact f.elim
theorem mw_or1 (ha : PT X a (rdT G W ta)) : PW X (.BoolOp .Or [a] pos) (rdT G W ta) := pw_or1 ha
theorem mw_or (ha : PT X a (rdT G W ta)) (hb : PW X (.BoolOp .Or (b :: rest) pos) (rdT G W tb)) : PW X (.BoolOp .Or (a :: b :: rest) pos) (rdT G W (tOrM ta tb)) :=
  PW.imp' (pw_or ha hb) fun σ H Q ⟨ρ, σi, h, as, ag, f⟩ => rdG_go as ag f fun ρ1 H1 h1 x x' st as ag r f => by
    subst r
    cases x with
    | true => rw [if_pos rfl]; exact f.ok ag rfl
    | false => rw [if_neg Bool.false_ne_true]; exact rdG_at as ag f
theorem mt_not (ha : PT X a (rdT G W ta)) : PT X (.UnaryOp .Not a pos) (rdT G W (tNotM ta)) :=
  PT.imp' (pt_not ha) fun σ H Q ⟨ρ, σi, h, as, ag, f⟩ => rdG_go as ag f fun ρ1 H1 h1 x x' st as ag r f => by
    subst r
    exact f.ok ag rfl
theorem me_one {op} (h : PE X a (rdE G W me)) : PE X (.BoolOp op [a] pos) (rdE G W me) := pe_one h
theorem me_and (ha : PE X a (rdE G W ma)) (hb : PE X (.BoolOp .And (b :: rest) pos) (rdE G W mb)) : PE X (.BoolOp .And (a :: b :: rest) pos) (rdE G W (eAnd ma mb)) :=
  PE.imp' (pe_and ha hb) fun σ H Q ⟨ρ, σi, h, as, ag, f⟩ => rdG_go as ag f fun ρ1 H1 h1 x x' st as ag r f => by
    cases r with
    | bl b =>
      refine ⟨b, rfl, ?_⟩
      cases b with
      | true => rw [if_pos rfl]; exact rdG_at as ag f
      | false => rw [if_neg Bool.false_ne_true]; exact f.ok ag (.bl _)
    | _ => exact f.elim
theorem me_not (ha : PE X a (rdE G W ma)) : PE X (.UnaryOp .Not a pos) (rdE G W (eNot ma)) :=
  PE.imp' (pe_not ha) fun σ H Q ⟨ρ, σi, h, as, ag, f⟩ => rdG_go as ag f fun ρ1 H1 h1 x x' st as ag r f => by
    cases r with
    | bl b => exact ⟨b, rfl, f.ok ag (.bl _)⟩
    | _ => exact f.elim
theorem me_if (hc : PT X c (rdT G W ta)) (ha : PE X a (rdE G W ma)) (hb : PE X b (rdE G W mb)) : PE X (.IfExp c a b pos) (rdE G W (eIf ta ma mb)) :=
  PE.imp' (pe_ifExp hc ha hb) fun σ H Q ⟨ρ, σi, h, as, ag, f⟩ => rdG_go as ag f fun ρ1 H1 h1 x x' st as ag r f => by
    subst r
    cases x with
    | true => rw [if_pos rfl]; exact rdG_at as ag f
    | false => rw [if_neg Bool.false_ne_true]; exact rdG_at as ag f
end
inductive RS where
  | nx (σ : Sg) (h : Hi) | rt (v : VI) (h : Hi) | bk (σ : Sg) (h : Hi) | ct (σ : Sg) (h : Hi) | ex (c n : Nat) (σ : Sg) (h : Hi) | err
abbrev MS := Sg → Hi → RS
def Res.bindS {α : Type} (r : Res α) (σ : Sg) (f : α → Hi → RS) : RS := match r with
  | .ok a h => f a h
  | .ex c n h => .ex c n σ h
  | .err => .err
def RS.andThen (r : RS) (f : MS) : RS := match r with
  | .nx σ h => f σ h
  | o => o
def FinS (G : Gx) (ρ : List Addr) (H : Hp) (D : Ends) (W : WX) : RS → Prop
  | .nx σ' h' => ∀ ρ' H' σ, Stp G ρ H ρ' H' → Ag G ρ' h' H' → AgS G ρ' H' σ' σ → D.nx σ H'
  | .bk σ' h' => ∀ ρ' H' σ, Stp G ρ H ρ' H' → Ag G ρ' h' H' → AgS G ρ' H' σ' σ → D.bk σ H'
  | .ct σ' h' => ∀ ρ' H' σ, Stp G ρ H ρ' H' → Ag G ρ' h' H' → AgS G ρ' H' σ' σ → D.ct σ H'
  | .rt v h' => ∀ ρ' H' x, Stp G ρ H ρ' H' → Ag G ρ' h' H' → RV G ρ' H' v x → D.rt x H'
  | .ex c n σ' h' => ∀ ρ' H' d C σ, Stp G ρ H ρ' H' → Ag G ρ' h' H' → AgS G ρ' H' σ' σ → ρ'[n]? = some d → G.ct c = some C → W (.ref C) (some d) σ H'
  | .err => False
def rdS (G : Gx) (W : WX) (m : MS) : TS := fun D σ H => ∃ ρ σi h, AgS G ρ H σi σ ∧ Ag G ρ h H ∧ FinS G ρ H D W (m σi h)
def sNx : MS := fun σ h => .nx σ h
def sSeq (a b : MS) : MS := fun σ h => (a σ h).andThen b
def sBk : MS := fun σ h => .bk σ h
def sCt : MS := fun σ h => .ct σ h
def sRet (e : ME) : MS := fun σ h => (e σ h).bindS σ fun v h1 => .rt v h1
def sRetN : MS := fun σ h => .rt .non h
def sDrop (e : ME) : MS := fun σ h => (e σ h).bindS σ fun _ h1 => .nx σ h1
def sIf (t : MT) (a b : MS) : MS := fun σ h => (t σ h).bindS σ fun c h1 => match c with
  | true => a σ h1
  | false => b σ h1
abbrev MG := VI → Sg → Hi → RS
def gNm (i : Nat) : MG := fun v σ h => .nx (σ.set i (some v)) h
def sAsg (e : ME) (g : MG) : MS := fun σ h => (e σ h).bindS σ fun v h1 => g v σ h1
section
variable {G : Gx} {W : WX} {X : Cx} {ρ ρ1 : List Addr} {H H1 : Hp} {σ : St} {σi : Sg} {h : Hi} {D : Ends} {e : Expr} {st : Stmt} {pos : Pos} {me : ME} {ms mr : MS} {mt : MT} {rest : List Stmt}
theorem FinS.later (st : Stp G ρ H ρ1 H1) : ∀ {r : RS}, FinS G ρ H D W r → FinS G ρ1 H1 D W r
  | .nx _ _, f => fun ρ' H' x s => f ρ' H' x (st.trans s)
  | .bk _ _, f => fun ρ' H' x s => f ρ' H' x (st.trans s)
  | .ct _ _, f => fun ρ' H' x s => f ρ' H' x (st.trans s)
  | .rt _ _, f => fun ρ' H' x s => f ρ' H' x (st.trans s)
  | .ex _ _ _ _, f => fun ρ' H' d C x s => f ρ' H' d C x (st.trans s)
  | .err, f => f
theorem rdS_go {α β : Type} {R : List Addr → Hp → α → β → Prop} {m : Sg → Hi → Res α} {k : α → Hi → RS} {N : β → Hp → Prop}
    (as : AgS G ρ H σi σ) (a : Ag G ρ h H) (f : FinS G ρ H D W ((m σi h).bindS σi k))
    (nx : ∀ ρ1 H1 h1 x y, Stp G ρ H ρ1 H1 → AgS G ρ1 H1 σi σ → Ag G ρ1 h1 H1 → R ρ1 H1 x y → FinS G ρ1 H1 D W (k x h1) → N y H1) : rdG G R W m σ H N := by
  refine ⟨ρ, σi, h, as, a, ?_⟩
  cases e : m σi h with
  | err => rw [e] at f; exact f
  | ex c n h' =>
    rw [e] at f
    exact fun ρ' H' d C st a' hn hc => f ρ' H' d C σ st a' (as.mono st) hn hc
  | ok v h' =>
    rw [e] at f
    exact fun ρ' H' x st a' r => nx ρ' H' h' v x st (as.mono st) a' r (FinS.later st f)
theorem FinS.nx (f : FinS G ρ H D W (.nx σi h)) (a : Ag G ρ h H) (as : AgS G ρ H σi σ) : D.nx σ H := f ρ H σ .refl a as
theorem ms_nil : PSs X [] (rdS G W sNx) := PSs.imp' pss_nil fun D σ H ⟨ρ, σi, h, as, ag, f⟩ => f.nx ag as
theorem ms_cons (h1 : PS X st (rdS G W ms)) (h2 : PSs X rest (rdS G W mr)) : PSs X (st :: rest) (rdS G W (sSeq ms mr)) :=
  PSs.imp' (pss_cons h1 h2) fun D σ H ⟨ρ, σi, h, as, ag, f⟩ => by
    refine ⟨ρ, σi, h, as, ag, ?_⟩
    have f' : FinS G ρ H D W ((ms σi h).andThen mr) := f
    cases e : ms σi h with
    | nx σ' h' =>
      rw [e] at f'
      exact fun ρ' H' σ2 st ag2 as2 => ⟨ρ', σ', h', as2, ag2, FinS.later st f'⟩
    | bk σ' h' => rw [e] at f'; exact f'
    | ct σ' h' => rw [e] at f'; exact f'
    | rt v h' => rw [e] at f'; exact f'
    | ex c n σ' h' => rw [e] at f'; exact f'
    | err => rw [e] at f'; exact f'
theorem ms_one (h1 : PS X st (rdS G W ms)) : PSs X [st] (rdS G W ms) := pss_one h1
theorem ms_expr (he : PE X e (rdE G W me)) (hs : swapsWith e none pos.line X.env = pure false := by rfl) : PS X (.Expr e pos) (rdS G W (sDrop me)) :=
  PS.imp' (ps_expr he hs) fun D σ H ⟨ρ, σi, h, as, ag, f⟩ => rdS_go as ag f fun ρ1 H1 h1 x x' st as ag r f => f.nx ag as
theorem ms_ret (he : PE X e (rdE G W me)) : PS X (.Return (some e) pos) (rdS G W (sRet me)) :=
  PS.imp' (ps_ret he) fun D σ H ⟨ρ, σi, h, as, ag, f⟩ => rdS_go as ag f fun ρ1 H1 h1 x x' st as ag r f => f ρ1 H1 x' .refl ag r
theorem ms_if {c : Expr} {a b : List Stmt} {ma mb : MS} (hc : PT X c (rdT G W mt)) (ha : PSs X a (rdS G W ma)) (hb : PSs X b (rdS G W mb)) : PS X (.If c a b pos) (rdS G W (sIf mt ma mb)) :=
  PS.imp' (ps_if hc ha hb) fun D σ H ⟨ρ, σi, h, as, ag, f⟩ => rdS_go as ag f fun ρ1 H1 h1 x x' st as ag r f => by
    subst r
    cases x with
    | true => rw [if_pos rfl]; exact ⟨ρ1, _, h1, as, ag, f⟩
    | false => rw [if_neg Bool.false_ne_true]; exact ⟨ρ1, _, h1, as, ag, f⟩
def rdGt (G : Gx) (W : WX) (g : MG) : TG := fun v σ H Q => ∃ ρ σi h vi, AgS G ρ H σi σ ∧ Ag G ρ h H ∧ RV G ρ H vi v ∧ FinS G ρ H { nx := Q, rt := fun _ _ => False } W (g vi σi h)
theorem mg_name {i : Nat} {x : Str} (hN : X.N.Nodup) (hi : X.N[i]? = some x) (hx : Loc X.env.scope x) (hf : X.fn x = true ∨ X.env.scope.names.lookup x = some .local := by first | exact .inl rfl | exact .inr rfl | assumption) : PG X (.Name x pos) (rdGt G W (gNm i)) :=
  ⟨fun pins s σ H v u Q I r ⟨ρ, σi, h, vi, as, ag, rv, f⟩ => (pg_name hN hi hx hf).run pins s σ H v u Q I r (f.nx ag (as.set rv i))⟩
def OnlyNx (g : MG) : Prop := ∀ v σ h, (∃ σ' h', g v σ h = .nx σ' h') ∨ (∃ c n σ' h', g v σ h = .ex c n σ' h') ∨ g v σ h = .err
theorem FinS.ends {D' : Ends} {r : RS} (hn : (∃ σ' h', r = .nx σ' h') ∨ (∃ c n σ' h', r = .ex c n σ' h') ∨ r = .err) (f : FinS G ρ H D W r) (e : D'.nx = D.nx) : FinS G ρ H D' W r := by
  rcases hn with ⟨σ', h', q⟩ | ⟨c, n, σ', h', q⟩ | q
  · rw [q] at f ⊢; exact fun ρ' H' σ s a as => by rw [e]; exact f ρ' H' σ s a as
  · rw [q] at f ⊢; exact f
  · rw [q] at f ⊢; exact f
theorem onlyNx_name (i : Nat) : OnlyNx (gNm i) := fun _ _ _ => .inl ⟨_, _, rfl⟩
theorem ms_asg {tg : Expr} {mg : MG} (he : PE X e (rdE G W me)) (hg : PG X tg (rdGt G W mg)) (on : OnlyNx mg) (hs : swapsWithSole [tg] e pos.line X.env = pure false := by rfl) (hw : swappedStores [tg] e X.env = pure none := by rfl)
    (h1 : (assignEach [tg] X.env).map (·.2) = [assign tg X.env] := by rfl) : PS X (.Assign [tg] e pos) (rdS G W (sAsg me mg)) :=
  PS.imp' (ps_asg he hg hs hw h1) fun D σ H ⟨ρ, σi, h, as, ag, f⟩ => rdS_go as ag f fun ρ1 H1 h1 x x' st as ag r f => ⟨ρ1, _, h1, x, as, ag, r, FinS.ends (on _ _ _) f rfl⟩
theorem ms_set {i : Nat} {x : Str} {pos' : Pos} (hN : X.N.Nodup) (hi : X.N[i]? = some x) (hx : Loc X.env.scope x) (he : PE X e (rdE G W me)) (hs : swapsWith e (some (.Name x pos')) pos.line X.env = pure false := by rfl) (hf : X.fn x = true ∨ X.env.scope.names.lookup x = some .local := by first | exact .inl rfl | exact .inr rfl | assumption) :
    PS X (.Assign [.Name x pos'] e pos) (rdS G W (sAsg me (gNm i))) :=
  PS.imp' (ps_set hN hi hx he hs hf) fun D σ H ⟨ρ, σi, h, as, ag, f⟩ => rdS_go as ag f fun ρ1 H1 h1 x x' st as ag r f => f.nx ag (as.set r i)
end
end ML
end
section
namespace ML
open PySem L2 PyProof.Rows
abbrev MF := List VI → Hi → Res VI
def endB : RS → Res VI
  | .nx _ h' => .ok .non h'
  | .rt v h' => .ok v h'
  | .ex c k _ h' => .ex c k h'
  | _ => .err
def runB (np n : Nat) (body : MS) : MF := fun vs h => match Nat.beq vs.length np with
  | true => endB (body (vs.map some ++ List.replicate n none) h)
  | false => .err
def spM (G : Gx) (np : Nat) (f : MF) : Sp := fun vs H Q E => ∃ ρ h args, args.length = np ∧ Ag G ρ h H ∧ RVs G ρ H args vs ∧ FinG G ρ H (RV G) Q (fun c d H' => E c d H') (f args h)
def CallM (X : Cx) (G : Gx) (W : WX) (fv : Value) (f : MF) : Prop :=
  ∀ (pins : List (Addr × Obj)) (s : Shared) (σ : L2.St) (H : Hp) (us : List Value) (vs : List V) (args : List VI) (ρ : List Addr) (h : Hi) (Q : VK), Inv X pins σ H s → Vals vs us → RVs G ρ H args vs → Ag G ρ h H →
    FinG G ρ H (RV G) Q (fun c d H' => W c d σ H') (f args h) → wpAny (model X.prog X.w) X.A (call fv us) (EP X pins σ Q) X.xe s
section
variable {G : Gx} {W : WX} {X : Cx} {ρ : List Addr} {h : Hi} {H : Hp} {σ : L2.St} {k np : Nat} {f C : Addr} {fd : FuncData} {ps : List Str} {g : MF}
theorem spM_len {vs : List V} {Q : VK} {E : XK} (h : spM G np g vs H Q E) : vs.length = np := by
  obtain ⟨_, _, args, l, _, r, _⟩ := h
  rw [← r.length, l]
theorem RVs.some_all : ∀ {vs : List VI} {xs : List V}, RVs G ρ H vs xs → ∀ (i : Nat) (v : VI), (vs.map some)[i]? = some (some v) → ∃ x, (xs.map some)[i]? = some (some x) ∧ RV G ρ H v x := fun {vs xs} r i v e => by
  rw [List.getElem?_map] at e
  cases q : vs[i]? with
  | none => rw [q] at e; cases e
  | some w =>
    rw [q] at e
    cases e
    obtain ⟨b, hb, rb⟩ := r.get q
    exact ⟨b, by rw [List.getElem?_map, hb] <;> rfl, rb⟩
theorem ags_start {N : List Str} {n : Nat} {args : List VI} {vs : List V} (r : RVs G ρ H args vs) (hn : N.length = vs.length + n) : AgS G ρ H (args.map some ++ List.replicate n none) (L2.start N vs) := by
  have hz : N.length - vs.length = n := by omega
  have hl : (args.map (some : VI → Option VI)).length = (vs.map (some : V → Option V)).length := by simp [r.length]
  unfold L2.start
  rw [hz]
  refine ⟨by simp [r.length], fun i v e => ?_⟩
  by_cases q : i < (args.map (some : VI → Option VI)).length
  · rw [List.getElem?_append_left q] at e
    rw [List.getElem?_append_left (by rw [← hl]; exact q)]
    exact r.some_all i v e
  · rw [List.getElem?_append_right (Nat.le_of_not_lt q)] at e
    have := List.mem_of_getElem? e
    rw [List.mem_replicate] at this
    cases this.2
theorem fn_M {P : Program} {w : World} {K : PySem.W.Frag} {mg : Str → Option Value} {base : Heap} {x qual : Str} {params : Arguments} {body : List Stmt} {scope : Scope} {dvs : List V} {kws : List (Str × V)} {N : List Str} {n : Nat} {mb : MS}
    (F : FunD K x qual params body scope dvs kws f fd) (S : FnScope N ps scope) (hn : N.length = ps.length + n)
    (hb : ∀ (cdv : Value) (A : Around) (outer : List Env) (s : Shared) (H : Hp) (E : XK), Room k (cxOf (L2.CX P w) P w K mg base N qual scope f cdv A outer s H E).A →
      Takes (cxOf (L2.CX P w) P w K mg base N qual scope f cdv A outer s H E) (fun c d _ H => E c d H) →
      PassesOwn (model P w) (cxOf (L2.CX P w) P w K mg base N qual scope f cdv A outer s H E).A (cxOf (L2.CX P w) P w K mg base N qual scope f cdv A outer s H E).env (cxOf (L2.CX P w) P w K mg base N qual scope f cdv A outer s H E).xe →
      PSs (cxOf (L2.CX P w) P w K mg base N qual scope f cdv A outer s H E) body (rdS G (fun c d _ H => E c d H) mb)) : FnOk P w K mg base (L2.CX P w) (k + 1) f fd ps (spM G ps.length (runB ps.length n mb)) := by
  refine F.ok S (fun vs H Q E h => spM_len h) (fun cdv A outer s H vs Q E hr hsp => ?_)
  obtain ⟨ρ, h, args, l, ag, r, fin⟩ := hsp
  refine ⟨_, hb cdv A outer s H E hr (takes_of rfl rfl rfl rfl) (passes_of rfl), ?_⟩
  refine ⟨ρ, _, h, ags_start r (by rw [← r.length, l]; exact hn), ag, ?_⟩
  unfold runB at fin
  rw [show Nat.beq args.length ps.length = true from by rw [l]; exact Nat.beq_refl _] at fin
  dsimp only at fin
  cases e : mb (args.map some ++ List.replicate n none) h with
  | nx σ' h' => rw [e] at fin; exact fun ρ' H' σ2 st a' as' => fin ρ' H' .non st a' .non
  | rt v h' => rw [e] at fin; exact fin
  | bk σ' h' => rw [e] at fin; exact fin.elim
  | ct σ' h' => rw [e] at fin; exact fin.elim
  | ex c n σ' h' => rw [e] at fin; exact fun ρ' H' d C σ2 st a' as' hn hc => fin ρ' H' d C st a' hn hc
  | err => rw [e] at fin; exact fin
def Arity (np : Nat) (g : MF) : Prop := ∀ vs h, vs.length ≠ np → g vs h = .err
theorem arity_runB {n : Nat} {mb : MS} : Arity np (runB np n mb) := fun vs h hl => by
  unfold runB
  rw [show Nat.beq vs.length np = false from Bool.eq_false_iff.mpr fun z => hl (Nat.eq_of_beq_eq_true z)]
theorem callM_fn (F : FnOk X.prog X.w X.K X.mg X.base (L2.CX X.prog X.w) k f fd ps (spM G ps.length g)) (ar : Arity ps.length g) (hr : Room k X.A) (hb : Binds X.K fd ps []) (tk : Takes X W) : CallM X G W (.ref f) g := by
  intro pins s σ H us vs args ρ h Q I r ra ag fin
  by_cases hl : args.length = ps.length
  · have hsp : spM G ps.length g vs H Q (WE W σ) := ⟨ρ, h, args, hl, ag, ra, fin⟩
    have lu : us.length = ps.length := by rw [← r.length, ← ra.length]; exact hl
    have b := hb s us I.kIn (by rw [List.append_nil]; exact lu)
    rw [List.append_nil] at b
    refine wpAny_call (codeAny_mono (F.run _ _ s H ⟨us, []⟩ us vs Q (WE W σ) hr I.env0 b r hsp) fun res s' hq => ?_)
    match res, hq with
    | .error e, hq => exact passAt tk σ pins H s e s' I hq
    | .ok (.ret u), hq => exact I.after hq
  · rw [ar args h hl] at fin
    exact fin.elim
end
end ML
end
section
namespace ML
open PySem L2 PyProof.Rows
def eCall (g : MF) (ma : MA) : ME := fun σ h => (ma σ h).bind fun vs h1 => g vs h1
def getF (f : S) : List (S × VI) → Option VI
  | [] => none
  | (g, v) :: r => match decide (g = f) with
    | true => some v
    | false => getF f r
def setF (f : S) (v : VI) : List (S × VI) → List (S × VI)
  | [] => [(f, v)]
  | (g, x) :: r => match decide (g = f) with
    | true => (g, v) :: r
    | false => (g, x) :: setF f v r
section
variable {G : Gx} {ρ : List Addr} {H : Hp}
theorem RFs.getF : ∀ {fs : List (S × VI)} {gs : List (Str × V)} (f : S), RFs G ρ H fs gs → match ML.getF f fs with
    | some v => ∃ x, gs.lookup (toStr f) = some x ∧ RV G ρ H v x
    | none => gs.lookup (toStr f) = none
  | _, _, f, .nil => rfl
  | _, _, f, .cons (f := k) (g := g) (fs := fs) (gs := gs) e h t => by
    subst e
    unfold ML.getF
    by_cases q : k = f
    · subst q
      rw [decide_eq_true rfl]
      exact ⟨_, by simp [List.lookup], h⟩
    · rw [decide_eq_false q]
      have hb : (toStr f == toStr k) = false := beq_eq_false_iff_ne.mpr fun z => q (toStr_inj z).symm
      dsimp only
      have ih := RFs.getF f t
      simp only [List.lookup, hb]
      exact ih
theorem RFs.setF : ∀ {fs : List (S × VI)} {gs : List (Str × V)} {v : VI} {x : V} (f : S), RFs G ρ H fs gs → RV G ρ H v x → RFs G ρ H (ML.setF f v fs) (putF (toStr f) x gs)
  | _, _, _, _, f, .nil, r => .cons rfl r .nil
  | _, _, v, x, f, .cons (f := k) (g := g) (fs := fs) (gs := gs) e h t, r => by
    subst e
    unfold ML.setF
    by_cases q : k = f
    · subst q
      rw [decide_eq_true rfl]
      show RFs G ρ H _ (if toStr k = toStr k then _ else _)
      rw [if_pos rfl]
      exact .cons rfl r t
    · rw [decide_eq_false q]
      show RFs G ρ H _ (if toStr k = toStr f then _ else _)
      rw [if_neg fun z => q (toStr_inj z)]
      exact .cons rfl h (RFs.setF f t r)
end
def eFld (cs : List Nat) (f : S) (e : ME) : ME := fun σ h => (e σ h).bind fun x h1 => match x with
  | .ref n => match h1[n]? with
    | some (.ins c fs) => match cs.contains c, getF f fs with
      | true, some v => .ok v h1
      | _, _ => .err
    | _ => .err
  | _ => .err
def FldOk (K : PySem.W.Frag) (G : Gx) (cs : List Nat) (f : S) : Prop := ∀ c C, cs.contains c = true → G.ct c = some C → Cls K C ∧ NoAttr K C (toStr f)
def eCon (tbl : Nat → Option VI) (f : S) (e : ME) : ME := fun σ h => (e σ h).bind fun x h1 => match x with
  | .ref n => match h1[n]? with
    | some (.ins c fs) => match tbl c, getF f fs with
      | some v, none => .ok v h1
      | _, _ => .err
    | _ => .err
  | _ => .err
def ConOk (K : PySem.W.Frag) (G : Gx) (tbl : Nat → Option VI) (f : S) : Prop := ∀ c C v, tbl c = some v → G.ct c = some C → Cls K C ∧ ∃ x u, Con K C (toStr f) x u ∧ ∀ ρ H, RV G ρ H v x
def sFldM (cs : List Nat) (f : S) (o v : ME) : MS := fun σ h => (v σ h).bindS σ fun y h1 => (o σ h1).bindS σ fun x h2 => match x with
  | .ref n => match h2[n]? with
    | some (.ins c fs) => match cs.contains c && Nat.blt fs.length 1000 with
      | true => .nx σ (h2.set n (.ins c (setF f y fs)))
      | false => .err
    | _ => .err
  | _ => .err
def eMeth (tbl : Nat → Option MF) (m : S) (o : ME) (ma : MA) : ME := fun σ h => (o σ h).bind fun x h1 => match x with
  | .ref n => match h1[n]? with
    | some (.ins c fs) => match tbl c, getF m fs with
      | some g, none => (ma σ h1).bind fun vs h2 => g (.ref n :: vs) h2
      | _, _ => .err
    | _ => .err
  | _ => .err
def MethOk (X : Cx) (G : Gx) (W : WX) (tbl : Nat → Option MF) (m : S) : Prop := ∀ c C g, tbl c = some g → G.ct c = some C → Cls X.K C ∧ ∃ f, Meth X.K C (toStr m) f ∧ CallM X G W (.ref f) g
section
variable {G : Gx} {W : WX} {X : Cx} {ρ : List Addr} {h : Hi} {H : Hp} {σ : L2.St} {k : Nat} {f C : Addr} {fd : FuncData} {ps : List Str} {g : MF} {x : Str} {p pos apos pos' : Pos} {e o v : Expr} {es : List Expr} {ma : MA} {me mo mv : ME}
theorem me_call (c : CallM X G W (.ref f) g) (hg : Gl X x) (hm : X.mg x = some (.ref f)) (hk : PySem.W.keepIn X.K (.ref f) = true) (ha : PA X (e :: es) (rdA G W ma)) (hdb : (x == ("__debug__" : Str)) = false := by decide)
    (he : starEach (e :: es) X.env = (false, eval e X.env) :: starEach es X.env := by rfl) (hpl : (backTo pos (starEach es X.env)).any (·.1) = false := by rfl) : PE X (.Call (.Name x p) (e :: es) [] pos) (rdE G W (eCall g ma)) := by
  refine ⟨fun pins s σ H Q I ⟨ρ, σi, h, as, ag, fin⟩ => ?_⟩
  refine wpAny_Call_Name_kw (ld_glob I hg hm ?_ hdb)
  have A : rdA G W ma σ H fun vs H1 => ∃ ρ1 h1 args, RVs G ρ1 H1 args vs ∧ Ag G ρ1 h1 H1 ∧ FinG G ρ1 H1 (RV G) Q (fun c d H' => W c d σ H') (g args h1) :=
    rdG_go as ag fin fun ρ1 H1 h1 xs ys st as ag r f => ⟨ρ1, h1, xs, r, ag, f⟩
  refine PySem.W.callWith_K (h₀ := X.base) I.ok.mod.kin hk (thn (ha.run pos pins s σ H _ I A) fun us s1 ⟨vs, H1, I1, r, q⟩ => ⟨I1.kIn, ?_⟩) he hpl
  obtain ⟨ρ1, h1, args, ra, ag1, f1⟩ := q
  exact c pins s1 σ H1 us vs args ρ1 h1 Q I1 r ra ag1 f1
theorem me_call0 (c : CallM X G W (.ref f) g) (hg : Gl X x) (hm : X.mg x = some (.ref f)) (hk : PySem.W.keepIn X.K (.ref f) = true) (hdb : (x == ("__debug__" : Str)) = false := by decide) : PE X (.Call (.Name x p) [] [] pos) (rdE G W (eCall g aNil)) := by
  refine ⟨fun pins s σ H Q I ⟨ρ, σi, h, as, ag, fin⟩ => ?_⟩
  refine wpAny_Call_Name_kw (ld_glob I hg hm ?_ hdb)
  exact PySem.W.callWith_K0 I.kIn hk (c pins s σ H [] [] [] ρ h Q I .nil .nil ag fin)
theorem insAt (ag : Ag G ρ h H) {n : Nat} {a : Addr} {c : Nat} {fl : List (S × VI)} (q : h[n]? = some (.ins c fl)) (e : ρ[n]? = some a) : ∃ C dx gs, G.ct c = some C ∧ H a = some (.ins C dx gs) ∧ RFs G ρ H fl gs := ag.at_ q e
theorem me_fld {cs : List Nat} {fn : S} {fs : Str} (ef : fs = toStr fn) (hF : FldOk X.K G cs fn) (he : PE X e (rdE G W me)) (hb : attributeBase e fs X.env (eval e X.env) = eval e X.env) : PE X (.Attribute e fs pos) (rdE G W (eFld cs fn me)) := by
  subst ef
  refine PE.imp' (pe_fld he hb) fun σ H Q ⟨ρ, σi, h, as, ag, fin⟩ => rdG_go as ag fin fun ρ1 H1 h1 x y st as ag r fi => ?_
  cases r with
  | @ref n a e =>
    dsimp only at fi
    cases q : h1[n]? with
    | none => rw [q] at fi; exact fi.elim
    | some ob =>
      rw [q] at fi
      cases ob with
      | ins c fl =>
        dsimp only at fi
        obtain ⟨C, dx, gs, hc, hH, rf⟩ := insAt ag q e
        have gf := RFs.getF fn rf
        cases q1 : cs.contains c with
        | false => rw [q1] at fi; exact fi.elim
        | true =>
          cases q2 : getF fn fl with
          | none => rw [q1, q2] at fi; exact fi.elim
          | some w =>
            rw [q2] at gf
            obtain ⟨z, hz, rz⟩ := gf
            rw [q1, q2] at fi
            obtain ⟨k1, k2⟩ := hF c C q1 hc
            exact ⟨a, C, dx, gs, z, rfl, hH, k1, k2, hz, fi.ok ag rz⟩
      | _ => exact fi.elim
  | _ => exact fi.elim
theorem me_con {tbl : Nat → Option VI} {fn : S} {fs : Str} (ef : fs = toStr fn) (hF : ConOk X.K G tbl fn) (he : PE X e (rdE G W me)) (hb : attributeBase e fs X.env (eval e X.env) = eval e X.env) : PE X (.Attribute e fs pos) (rdE G W (eCon tbl fn me)) := by
  subst ef
  refine PE.imp' (pe_con he hb) fun σ H Q ⟨ρ, σi, h, as, ag, fin⟩ => rdG_go as ag fin fun ρ1 H1 h1 x y st as ag r fi => ?_
  cases r with
  | @ref n a e =>
    dsimp only at fi
    cases q : h1[n]? with
    | none => rw [q] at fi; exact fi.elim
    | some ob =>
      rw [q] at fi
      cases ob with
      | ins c fl =>
        dsimp only at fi
        obtain ⟨C, dx, gs, hc, hH, rf⟩ := insAt ag q e
        have gf := RFs.getF fn rf
        cases q1 : tbl c with
        | none => rw [q1] at fi; exact fi.elim
        | some v =>
          cases q2 : getF fn fl with
          | some w => rw [q1, q2] at fi; exact fi.elim
          | none =>
            rw [q2] at gf
            rw [q1, q2] at fi
            obtain ⟨k1, z, u, k2, k3⟩ := hF c C v q1 hc
            exact ⟨a, C, dx, gs, z, u, rfl, hH, k1, k2, gf, fi.ok ag (k3 _ _)⟩
      | _ => exact fi.elim
  | _ => exact fi.elim
theorem ms_fld {cs : List Nat} {fn : S} {fs : Str} (ef : fs = toStr fn) (hF : FldOk X.K G cs fn) (ho : PE X o (rdE G W mo)) (hv : PE X v (rdE G W mv)) (hs : swapsWith v (some (.Attribute o fs pos')) pos.line X.env = pure false) : PS X (.Assign [.Attribute o fs pos'] v pos) (rdS G W (sFldM cs fn mo mv)) := by
  subst ef
  refine PS.imp' (ps_fld ho hv hs) fun D σ H ⟨ρ, σi, h, as, ag, fin⟩ => rdS_go as ag fin fun ρ1 H1 h1 y y' st as ag ry fin => rdS_go as ag fin fun ρ2 H2 h2 x x' st2 as ag r fi => ?_
  cases r with
  | @ref n a e =>
    dsimp only at fi
    cases q : h2[n]? with
    | none => rw [q] at fi; exact fi.elim
    | some ob =>
      rw [q] at fi
      cases ob with
      | ins c fl =>
        dsimp only at fi
        obtain ⟨C, dx, gs, hc, hH, rf⟩ := insAt ag q e
        cases q1 : cs.contains c && Nat.blt fl.length 1000 with
        | false => rw [q1] at fi; exact fi.elim
        | true =>
          rw [q1] at fi
          obtain ⟨q2, q3⟩ := Bool.and_eq_true_iff.mp q1
          obtain ⟨k1, k2⟩ := hF c C q2 hc
          have st3 : Stp G ρ2 H2 ρ2 (upd H2 a (.ins C dx (putF (toStr fn) y' gs))) := Stp.wr ag q e
          exact ⟨a, C, dx, gs, rfl, hH, k1, k2, by rw [← rf.length]; exact Nat.le_of_ble_eq_true q3,
            fi ρ2 _ σ st3 (ag.wr q e ⟨C, dx, _, hc, upd_same, RFs.setF fn (rf.mono st3) (ry.mono (st2.trans st3))⟩) (as.mono st3)⟩
      | _ => exact fi.elim
  | _ => exact fi.elim
theorem me_meth {tbl : Nat → Option MF} {m : S} {mm : Str} (em : mm = toStr m) (hM : MethOk X G W tbl m) (ho : PE X o (rdE G W mo)) (ha : PA X (e :: es) (rdA G W ma)) {pl : Sem Bool}
    (hst : starEach (e :: es) X.env = (false, eval e X.env) :: starEach es X.env := by rfl) (hpl : (backTo pos (starEach es X.env)).any (·.1) = false := by rfl)
    (ht : eval (.Call (.Attribute o mm apos) (e :: es) [] pos) X.env = (do
      let ov ← eval o X.env
      standAt apos.atName
      let (f, first) ← holding [ov] (getMethod ov mm pl)
      callWith pos f first (backTo pos (starEach (e :: es) X.env)) (backToKw pos (keywordEach [] X.env))) := by rfl) :
    PE X (.Call (.Attribute o mm apos) (e :: es) [] pos) (rdE G W (eMeth tbl m mo ma)) := by
  subst em
  refine ⟨fun pins s σ H Q I ⟨ρ, σi, h, as, ag, fin⟩ => ?_⟩
  have A : rdE G W mo σ H fun x H1 => ∃ ρ1 h1 n a c fl g, x = .ref a ∧ AgS G ρ1 H1 σi σ ∧ Ag G ρ1 h1 H1 ∧ ρ1[n]? = some a ∧ h1[n]? = some (.ins c fl) ∧ tbl c = some g ∧ getF m fl = none ∧
      FinG G ρ1 H1 (RV G) Q (fun c d H' => W c d σ H') ((ma σi h1).bind fun vs h2 => g (.ref n :: vs) h2) :=
    rdG_go as ag fin fun ρ1 H1 h1 x y st as ag r fi => by
      cases r with
      | @ref n a e =>
        dsimp only at fi
        cases q : h1[n]? with
        | none => rw [q] at fi; exact fi.elim
        | some ob =>
          rw [q] at fi
          cases ob with
          | ins c fl =>
            dsimp only at fi
            cases q1 : tbl c with
            | none => rw [q1] at fi; exact fi.elim
            | some g =>
              cases q2 : getF m fl with
              | some w => rw [q1, q2] at fi; exact fi.elim
              | none =>
                rw [q1, q2] at fi
                exact ⟨ρ1, h1, n, a, c, fl, g, rfl, as, ag, e, q, q1, q2, fi⟩
          | _ => exact fi.elim
      | _ => exact fi.elim
  refine PySem.W.methodCall_KW (pl := pl) (thn (ho.run pins s σ H _ I A) fun u s1 ⟨x, H1, I1, rx, ρ1, h1, n, a, c, fl, g, ex, as1, ag1, hn, hh, ht, hl, f1⟩ => ?_) ht
  subst ex
  obtain rfl : u = Value.ref a := rx
  obtain ⟨C, dx, gs, hc, hH, rf⟩ := insAt ag1 hh hn
  have gf := RFs.getF m rf
  rw [hl] at gf
  obtain ⟨k1, fa, k2, k3⟩ := hM c C g ht hc
  refine getmeth_ok I1 hH k1 k2 gf ?_
  have B : rdA G W ma σ H1 fun vs H2 => ∃ ρ2 h2 args, RVs G ρ2 H2 (.ref n :: args) (.ref a :: vs) ∧ Ag G ρ2 h2 H2 ∧ FinG G ρ2 H2 (RV G) Q (fun c d H' => W c d σ H') (g (.ref n :: args) h2) :=
    rdG_go as1 ag1 f1 fun ρ2 H2 h2 xs ys st as ag r f => ⟨ρ2, h2, xs, .cons (.ref (st.pre _ _ hn)) r, ag, f⟩
  refine PySem.W.callWith_K (first := [.ref a]) (h₀ := X.base) I.ok.mod.kin k2.kp (thn (ha.run pos pins s1 σ H1 _ I1 B) fun us s2 ⟨vs, H2, I2, r, q⟩ => ⟨I2.kIn, ?_⟩) hst hpl
  obtain ⟨ρ2, h2, args, ra, ag2, f2⟩ := q
  exact k3 pins s2 σ H2 (.ref a :: us) (.ref a :: vs) _ ρ2 h2 Q I2 (.cons rfl r) ra ag2 f2
theorem me_meth0 {tbl : Nat → Option MF} {m : S} {mm : Str} (em : mm = toStr m) (hM : MethOk X G W tbl m) (ho : PE X o (rdE G W mo)) {pl : Sem Bool}
    (ht : eval (.Call (.Attribute o mm apos) [] [] pos) X.env = (do
      let ov ← eval o X.env
      standAt apos.atName
      let (f, first) ← holding [ov] (getMethod ov mm pl)
      callWith pos f first (backTo pos (starEach [] X.env)) (backToKw pos (keywordEach [] X.env))) := by rfl) :
    PE X (.Call (.Attribute o mm apos) [] [] pos) (rdE G W (eMeth tbl m mo aNil)) := by
  subst em
  refine ⟨fun pins s σ H Q I ⟨ρ, σi, h, as, ag, fin⟩ => ?_⟩
  have A : rdE G W mo σ H fun x H1 => ∃ ρ1 h1 n a c fl g, x = .ref a ∧ Ag G ρ1 h1 H1 ∧ ρ1[n]? = some a ∧ h1[n]? = some (.ins c fl) ∧ tbl c = some g ∧ getF m fl = none ∧
      FinG G ρ1 H1 (RV G) Q (fun c d H' => W c d σ H') (g [.ref n] h1) :=
    rdG_go as ag fin fun ρ1 H1 h1 x y st as ag r fi => by
      cases r with
      | @ref n a e =>
        dsimp only at fi
        cases q : h1[n]? with
        | none => rw [q] at fi; exact fi.elim
        | some ob =>
          rw [q] at fi
          cases ob with
          | ins c fl =>
            dsimp only at fi
            cases q1 : tbl c with
            | none => rw [q1] at fi; exact fi.elim
            | some g =>
              cases q2 : getF m fl with
              | some w => rw [q1, q2] at fi; exact fi.elim
              | none =>
                rw [q1, q2] at fi
                exact ⟨ρ1, h1, n, a, c, fl, g, rfl, ag, e, q, q1, q2, fi⟩
          | _ => exact fi.elim
      | _ => exact fi.elim
  refine PySem.W.methodCall_KW (pl := pl) (thn (ho.run pins s σ H _ I A) fun u s1 ⟨x, H1, I1, rx, ρ1, h1, n, a, c, fl, g, ex, ag1, hn, hh, ht, hl, f1⟩ => ?_) ht
  subst ex
  obtain rfl : u = Value.ref a := rx
  obtain ⟨C, dx, gs, hc, hH, rf⟩ := insAt ag1 hh hn
  have gf := RFs.getF m rf
  rw [hl] at gf
  obtain ⟨k1, fa, k2, k3⟩ := hM c C g ht hc
  refine getmeth_ok I1 hH k1 k2 gf ?_
  exact PySem.W.callWith_K0 (first := [.ref a]) I1.kIn k2.kp (k3 pins s1 σ H1 [.ref a] [.ref a] [.ref n] ρ1 h1 Q I1 (.cons rfl .nil) (.cons (.ref hn) .nil) ag1 f1)
end
end ML
end
section
namespace ML
open PySem L2 PyProof.Rows
section
variable {G : Gx} {W : WX} {X : Cx} {ρ : List Addr} {h : Hi} {H : Hp} {σ : L2.St} {k : Nat} {f C : Addr} {fd : FuncData} {ps : List Str} {g : MF} {x : Str} {p pos apos pos' : Pos} {e o v : Expr} {es : List Expr} {ma : MA} {me mo mv : ME}
def mkM (c : Nat) (g : MF) : MF := fun vs h => match g (.ref h.length :: vs) (h ++ [.ins c []]) with
  | .ok .non h2 => .ok (.ref h.length) h2
  | .ex c n h2 => .ex c n h2
  | _ => .err
def okM : Res VI → Res VI
  | .ok v h => .ok v h
  | _ => .err
def eProp (tbl : Nat → Option MF) (e : ME) : ME := fun σ h => (e σ h).bind fun x h1 => match x with
  | .ref n => match h1[n]? with
    | some (.ins c fs) => match tbl c with
      | some g => okM (g [.ref n] h1)
      | none => .err
    | _ => .err
  | _ => .err
end
end ML
end
section
namespace ML
open PySem L2
theorem PE.dispatch {X : Cx} {e : Expr} {t : TE} (h : ∀ σ H Q, t σ H Q → ∃ t', PE X e t' ∧ t' σ H Q) : PE X e t := ⟨fun pins s σ H Q I q => let ⟨_, p, q'⟩ := h σ H Q q; p.run pins s σ H Q I q'⟩
theorem PS.dispatch {X : Cx} {e : Stmt} {t : TS} (h : ∀ D σ H, t D σ H → ∃ t', PS X e t' ∧ t' D σ H) : PS X e t := ⟨fun pins s σ H D I q => let ⟨_, p, q'⟩ := h D σ H q; p.run pins s σ H D I q'⟩
abbrev OpC := List VI → Hi → Option (VI × Hi)
def rdC (G : Gx) (f : OpC) : List V → Hp → VK → Prop := fun xs H Q => ∃ ρ h args, Ag G ρ h H ∧ RVs G ρ H args xs ∧ FinO G ρ H (RV G) Q (f args h)
def eCB (f : OpC) (ma : MA) : ME := fun σ h => (ma σ h).bind fun vs h1 => ofO (f vs h1)
section
variable {G : Gx} {ρ : List Addr} {h : Hi} {H : Hp} {W : WX} {X : Cx} {e a b c o i : Expr} {es : List Expr} {pos p pos' apos : Pos} {me mi mo ma mb mv : ME} {mr : MA} {f : OpC} {x : Str} {id T : String}
theorem callR_at {fv : Value} (h : ∀ ρ h H args xs Q, Ag G ρ h H → RVs G ρ H args xs → FinO G ρ H (RV G) Q (f args h) → ∃ r, CallR X fv r ∧ r xs H Q) : CallR X fv (rdC G f) :=
  fun pins s σ H xs us Q I r ⟨ρ, hi, args, ag, ra, q⟩ => by
    obtain ⟨r', ho, hr⟩ := h ρ hi H args xs Q ag ra q
    exact ho pins s σ H xs us Q I r hr
theorem me_cb (hc : CallR X (.builtin id) (rdC G f)) (hg : Gl X x) (hm : X.mg x = none) (hv : bootBuiltins x = some (.builtin id)) (ha : PA X (e :: es) (rdA G W mr)) (hn : x ≠ "__name__" := by decide) (hdb : (x == ("__debug__" : Str)) = false := by decide)
    (he : starEach (e :: es) X.env = (false, eval e X.env) :: starEach es X.env := by rfl) (hpl : (backTo pos (starEach es X.env)).any (·.1) = false := by rfl) : PE X (.Call (.Name x p) (e :: es) [] pos) (rdE G W (eCB f mr)) :=
  PE.imp' (pe_callB hc hg hm hv ha hn hdb he hpl) fun σ H Q ⟨ρ, σi, h, as, ag, fin⟩ => rdG_go as ag fin fun ρ1 H1 h1 vs ys st as ag r fi => ⟨ρ1, h1, vs, ag, r, FinO.of fi⟩
theorem me_cty (hc : CallR X (.type T) (rdC G f)) (hg : Gl X x) (hm : X.mg x = none) (hv : bootBuiltins x = some (.type T)) (ha : PA X (e :: es) (rdA G W mr)) (hn : x ≠ "__name__" := by decide) (hdb : (x == ("__debug__" : Str)) = false := by decide)
    (he : starEach (e :: es) X.env = (false, eval e X.env) :: starEach es X.env := by rfl) (hpl : (backTo pos (starEach es X.env)).any (·.1) = false := by rfl) : PE X (.Call (.Name x p) (e :: es) [] pos) (rdE G W (eCB f mr)) :=
  PE.imp' (pe_callTy hc hg hm hv ha hn hdb he hpl) fun σ H Q ⟨ρ, σi, h, as, ag, fin⟩ => rdG_go as ag fin fun ρ1 H1 h1 vs ys st as ag r fi => ⟨ρ1, h1, vs, ag, r, FinO.of fi⟩
def cLen : OpC := fun vs h => match vs with
  | [.tup xs] => some (.int xs.length, h)
  | [.str s] => match small s.length with
    | true => some (.int s.length, h)
    | false => none
  | [.ref n] => match h[n]? with
    | some (.lst xs) => some (.int xs.length, h)
    | some (.scr xs) => some (.int xs.length, h)
    | some (.dic kvs) => some (.int kvs.length, h)
    | _ => none
  | _ => none
def cInt : OpC := fun vs h => match vs with
  | [.int i] => some (.int i, h)
  | [.bl b] => some (.int (if b then 1 else 0), h)
  | _ => none
def cMax : OpC := fun vs h => match vs with
  | [.int i, .int j] => some (.int (if j > i then j else i), h)
  | _ => none
def cMin : OpC := fun vs h => match vs with
  | [.int i, .int j] => some (.int (if j < i then j else i), h)
  | _ => none
def cList : OpC := fun vs h => match vs with
  | [.tup xs] => some (.ref h.length, h ++ [.lst xs])
  | [.ref n] => match h[n]? with
    | some (.lst xs) => some (.ref h.length, h ++ [.lst xs])
    | some (.scr xs) => some (.ref h.length, h ++ [.lst xs])
    | some (.dic kvs) => some (.ref h.length, h ++ [.lst (kvs.map (·.1))])
    | _ => none
  | _ => none
theorem RK.rv {a : VI} {k : Key} (r : RK a k) {H : Hp} {ρ : List Addr} : RV G ρ H a (kV k) := by
  cases a with
  | int i => cases r; exact .int i
  | str s => cases r; exact .str rfl
  | _ => exact r.elim
theorem RKs.keys {ρ : List Addr} {H : Hp} : ∀ {kvs : List (VI × VI)} {ks : List (Key × V)}, RKs G ρ H kvs ks → RVs G ρ H (kvs.map (·.1)) (ks.map fun kv => kV kv.1)
  | _, _, .nil => .nil
  | _, _, .cons e _ t => .cons (RK.rv e) (RKs.keys t)
theorem mc_list (hG : G.K = X.K) (hc : X.calm = true) : CallR X (.type "list") (rdC G cList) := callR_at fun ρ h H args xs Q ag ra fi => by
  unfold cList at fi
  cases ra with
  | nil => exact fi.elim
  | cons r t =>
    cases t with
    | cons _ _ => cases r <;> exact fi.elim
    | nil =>
      cases r with
      | @tup xs ys a t1 s1 => exact ⟨_, call_list_of, a, ys, rfl, .inr (hG ▸ t1), fun l hl => FinO.new fi ag hl ⟨_, upd_same, s1.mono (Stp.new hl)⟩⟩
      | @ref n a q =>
        dsimp only at fi
        cases q1 : h[n]? with
        | none => rw [q1] at fi; exact fi.elim
        | some ob =>
          rw [q1] at fi
          cases ob with
          | lst xs =>
            obtain ⟨ys, hy, rs⟩ := ag.at_ q1 q
            exact ⟨_, call_list_of, a, ys, rfl, .inl (.inl (.inl hy)), fun l hl => FinO.new fi ag hl ⟨_, upd_same, rs.mono (Stp.new hl)⟩⟩
          | scr xs =>
            obtain ⟨ob, ys, hy, rs⟩ := ag.at_ q1 q
            exact ⟨_, call_list_of, a, ys, rfl, .inl (.inl (.inr ⟨_, hy⟩)), fun l hl => FinO.new fi ag hl ⟨_, upd_same, rs.mono (Stp.new hl)⟩⟩
          | dic kvs =>
            obtain ⟨ks, hy, rs⟩ := ag.at_ q1 q
            exact ⟨_, call_list_dK hc, a, ks, rfl, hy, fun l hl => FinO.new fi ag hl ⟨_, upd_same, rs.keys.mono (Stp.new hl)⟩⟩
          | _ => exact fi.elim
      | _ => exact fi.elim
def cTuple : OpC := fun vs h => match vs with
  | [.tup xs] => some (.tup xs, h)
  | [.ref n] => match h[n]? with
    | some (.lst xs) => some (.tup xs, h)
    | some (.scr xs) => some (.tup xs, h)
    | _ => none
  | _ => none
def cDict : OpC := fun vs h => match vs with
  | [.ref n] => match h[n]? with
    | some (.dic kvs) => some (.ref h.length, h ++ [.dic kvs])
    | _ => none
  | _ => none
end
end ML
end
section
namespace ML
open PySem L2
def keyEq : VI → VI → Bool
  | .int i, .int j => decide (i = j)
  | .str s, .str t => decide (s = t)
  | _, _ => false
def isKey : VI → Bool
  | .int _ => true
  | .str _ => true
  | _ => false
def getD (k : VI) : List (VI × VI) → Option VI
  | [] => none
  | (a, v) :: r => match keyEq a k with
    | true => some v
    | false => getD k r
def hasD (k : VI) : List (VI × VI) → Bool
  | [] => false
  | (a, _) :: r => match keyEq a k with
    | true => true
    | false => hasD k r
def repD (k v : VI) : List (VI × VI) → List (VI × VI)
  | [] => []
  | (a, x) :: r => match keyEq a k with
    | true => (a, v) :: repD k v r
    | false => (a, x) :: repD k v r
def putD (k v : VI) (d : List (VI × VI)) : List (VI × VI) := match hasD k d with
  | true => repD k v d
  | false => d ++ [(k, v)]
theorem keyEq_ok {a b : VI} {k l : Key} (ra : RK a k) (rb : RK b l) : keyEq a b = decide (k = l) := by
  cases a with
  | int i =>
    cases ra
    cases b with
    | int j => cases rb; simp [keyEq]
    | str t => cases rb; simp [keyEq]
    | _ => exact rb.elim
  | str s =>
    cases ra
    cases b with
    | int j => cases rb; simp [keyEq]
    | str t =>
      cases rb
      unfold keyEq
      by_cases e : s = t
      · subst e; simp
      · have : ¬ toStr s = toStr t := fun z => e (toStr_inj z)
        simp [e, this]
    | _ => exact rb.elim
  | _ => exact ra.elim
section
variable {G : Gx} {ρ : List Addr} {H : Hp}
theorem RKs.getD {b : VI} {l : Key} (rb : RK b l) : ∀ {kvs : List (VI × VI)} {ks : List (Key × V)}, RKs G ρ H kvs ks → match ML.getD b kvs with
    | some v => ∃ x, valV ks l = some x ∧ RV G ρ H v x
    | none => valV ks l = none
  | _, _, .nil => rfl
  | _, _, .cons (a := a) (k := k) (as := as) (ks := ks) e h t => by
    unfold ML.getD
    rw [keyEq_ok e rb]
    by_cases q : k = l
    · rw [decide_eq_true q]
      exact ⟨_, valV_pos q, h⟩
    · rw [decide_eq_false q]
      have ih := RKs.getD rb t
      rw [valV_neg q]
      exact ih
theorem RKs.hasD {b : VI} {l : Key} (rb : RK b l) : ∀ {kvs : List (VI × VI)} {ks : List (Key × V)}, RKs G ρ H kvs ks → ML.hasD b kvs = ks.any fun kv => decide (kv.1 = l)
  | _, _, .nil => rfl
  | _, _, .cons (a := a) (k := k) (as := as) (ks := ks) e h t => by
    unfold ML.hasD
    rw [keyEq_ok e rb, List.any_cons]
    by_cases q : k = l
    · rw [decide_eq_true q]
      rfl
    · rw [decide_eq_false q, Bool.false_or]
      exact RKs.hasD rb t
theorem RKs.repD {b v : VI} {x : V} {l : Key} (rb : RK b l) (rv : RV G ρ H v x) : ∀ {kvs : List (VI × VI)} {ks : List (Key × V)}, RKs G ρ H kvs ks → RKs G ρ H (ML.repD b v kvs) (ks.map fun kv => if kv.1 = l then (kv.1, x) else kv)
  | _, _, .nil => .nil
  | _, _, .cons (a := a) (k := k) (as := as) (ks := ks) e h t => by
    unfold ML.repD
    rw [keyEq_ok e rb, List.map_cons]
    by_cases q : k = l
    · rw [decide_eq_true q, if_pos q]
      exact .cons e rv (RKs.repD rb rv t)
    · rw [decide_eq_false q, if_neg q]
      exact .cons e h (RKs.repD rb rv t)
theorem RKs.snoc {b v : VI} {x : V} {l : Key} (rb : RK b l) (rv : RV G ρ H v x) : ∀ {kvs : List (VI × VI)} {ks : List (Key × V)}, RKs G ρ H kvs ks → RKs G ρ H (kvs ++ [(b, v)]) (ks ++ [(l, x)])
  | _, _, .nil => .cons rb rv .nil
  | _, _, .cons e h t => .cons e h (RKs.snoc rb rv t)
theorem RKs.putD {b v : VI} {x : V} {l : Key} (rb : RK b l) (rv : RV G ρ H v x) {kvs : List (VI × VI)} {ks : List (Key × V)} (r : RKs G ρ H kvs ks) : RKs G ρ H (ML.putD b v kvs) (putK ks l x) := by
  unfold ML.putD putK
  rw [r.hasD rb]
  cases ks.any fun kv => decide (kv.1 = l) with
  | true => rw [if_pos rfl]; exact r.repD rb rv
  | false => rw [if_neg Bool.false_ne_true]; exact r.snoc rb rv
theorem RV.key {b : VI} {y : V} (r : RV G ρ H b y) (hk : isKey b = true) : ∃ k, RK b k ∧ y = kV k := by
  cases r with
  | int i => exact ⟨.inl i, rfl, rfl⟩
  | str e => exact ⟨.inr _, rfl, by rw [e]; rfl⟩
  | _ => cases hk
end
def ixI (n : Nat) (i : Int) : Option Nat := if 0 ≤ i then (if i < n then some i.toNat else none) else if -(n : Int) ≤ i then some (i + n).toNat else none
def ixL (xs : List VI) (i : Int) : Option VI := match ixI xs.length i with
  | some j => xs[j]?
  | none => none
def fIx : Op2 := fun x y h => match x with
  | .tup xs => match y with
    | .int i => match ixL xs i with
      | some v => some (v, h)
      | none => none
    | _ => none
  | .ref n => match h[n]? with
    | some (.lst xs) => match y with
      | .int i => match ixL xs i with
        | some v => some (v, h)
        | none => none
      | _ => none
    | some (.scr xs) => match y with
      | .int i => match ixL xs i with
        | some v => some (v, h)
        | none => none
      | _ => none
    | some (.dic kvs) => match isKey y, getD y kvs with
      | true, some v => some (v, h)
      | _, _ => none
    | _ => none
  | _ => none
section
variable {G : Gx} {ρ : List Addr} {h : Hi} {H : Hp} {W : WX} {X : Cx} {e a b c o i v : Expr} {es : List Expr} {pos p pos' apos : Pos} {me mi mo ma mb mv : ME} {mr : MA}
theorem ixI_eq (n : Nat) (i : Int) : ixI n i = ixN n i := rfl
theorem RVs.ixL {xs : List VI} {ys : List V} {i : Int} {v : VI} (r : RVs G ρ H xs ys) (e : ML.ixL xs i = some v) : ∃ y, atI ys i = some y ∧ RV G ρ H v y := by
  unfold ML.ixL at e
  rw [ixI_eq, r.length] at e
  cases q : ixN ys.length i with
  | none => rw [q] at e; cases e
  | some j =>
    rw [q] at e
    obtain ⟨y, hy, ry⟩ := r.get e
    exact ⟨y, by unfold atI; rw [q]; exact hy, ry⟩
inductive IxK (X : Cx) (H : Hp) (x y : V) (Q : VK) : Prop
  | ix (r : R2) (h : IxR X r) (q : r x y H Q)
  | dict (a : Addr) (v : V) (e : x = .ref a) (g : DGet H a y (some v)) (q : Q v H)
theorem ix_kind (hG : G.K = X.K) {xi yi : VI} {x y : V} {Q : VK} (ag : Ag G ρ h H) (r1 : RV G ρ H xi x) (r2 : RV G ρ H yi y) (fi : FinO G ρ H (RV G) Q (fIx xi yi h)) : IxK X H x y Q := by
  unfold fIx at fi
  cases r1 with
  | @tup xs ys a t1 s1 =>
    cases r2 with
    | int j =>
      dsimp only at fi
      cases q : ixL xs j with
      | none => rw [q] at fi; exact fi.elim
      | some v =>
        rw [q] at fi
        obtain ⟨z, hz, rz⟩ := s1.ixL q
        exact .ix _ ix_tup ⟨a, ys, j, z, rfl, rfl, hG ▸ t1, hz, fi.ok ag rz⟩
    | _ => exact fi.elim
  | @ref n a e =>
    dsimp only at fi
    cases q1 : h[n]? with
    | none => rw [q1] at fi; exact fi.elim
    | some ob =>
      rw [q1] at fi
      cases ob with
      | lst xs =>
        obtain ⟨ys, hy, rs⟩ := ag.at_ q1 e
        cases r2 with
        | int j =>
          dsimp only at fi
          cases q : ixL xs j with
          | none => rw [q] at fi; exact fi.elim
          | some v =>
            rw [q] at fi
            obtain ⟨z, hz, rz⟩ := rs.ixL q
            exact .ix _ ix_list ⟨a, ys, j, z, rfl, rfl, .inl (.inl hy), hz, fi.ok ag rz⟩
        | _ => exact fi.elim
      | scr xs =>
        obtain ⟨ob, ys, hy, rs⟩ := ag.at_ q1 e
        cases r2 with
        | int j =>
          dsimp only at fi
          cases q : ixL xs j with
          | none => rw [q] at fi; exact fi.elim
          | some v =>
            rw [q] at fi
            obtain ⟨z, hz, rz⟩ := rs.ixL q
            exact .ix _ ix_list ⟨a, ys, j, z, rfl, rfl, .inl (.inr ⟨_, hy⟩), hz, fi.ok ag rz⟩
        | _ => exact fi.elim
      | dic kvs =>
        obtain ⟨ks, hy, rs⟩ := ag.at_ q1 e
        dsimp only at fi
        cases q2 : isKey yi with
        | false => rw [q2] at fi; exact fi.elim
        | true =>
          obtain ⟨k, rk, ey⟩ := r2.key q2
          have gd := rs.getD rk
          cases q3 : getD yi kvs with
          | none => rw [q2, q3] at fi; exact fi.elim
          | some v =>
            rw [q3] at gd
            rw [q2, q3] at fi
            obtain ⟨z, hz, rz⟩ := gd
            subst ey
            exact .dict a z rfl (by rw [← hz]; exact DGet.k hy) (fi.ok ag rz)
      | _ => exact fi.elim
  | _ => exact fi.elim
theorem me_ix (hG : G.K = X.K) (hu : X.A.units + 1 < cLine) (ha : PE X a (rdE G W ma)) (hb : PE X b (rdE G W mb)) (hs : PlainIx b) : PE X (.Subscript a b pos) (rdE G W (eBin fIx ma mb)) := by
  refine ⟨fun pins s σ H Q I ⟨ρ, σi, h, as, ag, fin⟩ => ?_⟩
  refine PyProof.Rows.Subscript_ (binT ha hb I (R := fun x y H2 => IxK X H2 x y Q) ?_ fun v u s2 x y H2 I2 rx ry q => ?_)
  · exact rdG_go as ag fin fun ρ1 H1 h1 x x' st as ag r f => rdG_go as ag f fun ρ2 H2 h2 y y' st2 as ag rs f => ix_kind hG ag (r.mono st2) rs (FinO.of f)
  · cases q with
    | ix r hr q => exact hr a b pins s2 σ H2 x y v u Q I2 rx ry q (hs _ _)
    | dict d w e g q =>
      subst e
      obtain rfl : v = Value.ref d := rx
      exact PyProof.Rows.tail_any (dict_typeIs I2 g) PySem.F.slot_dict_getitem.lookup (d_getItem hu I2 g ry fun w' s3 I3 rw' => ⟨w, H2, I3, rw', q⟩) (hs _ _)
end
end ML
end
section
namespace ML
open PySem L2
def putIx (o i v : VI) (h : Hi) : Option Hi := match o with
  | .ref n => match h[n]? with
    | some (.lst xs) => match i with
      | .int k => match ixI xs.length k with
        | some j => some (h.set n (.lst (xs.set j v)))
        | none => none
      | _ => none
    | some (.dic kvs) => match isKey i && small (kvs.length + 1) with
      | true => some (h.set n (.dic (putD i v kvs)))
      | false => none
    | _ => none
  | _ => none
def nxO (σ : Sg) : Option Hi → RS
  | some h => .nx σ h
  | none => .err
def gIx (o i : ME) : MG := fun v σ h => (o σ h).bindS σ fun x h1 => (i σ h1).bindS σ fun y h2 => nxO σ (putIx x y v h2)
def rdSet (G : Gx) : TSet := fun o i v H Q => ∃ ρ h oi ii vi, Ag G ρ h H ∧ RV G ρ H oi o ∧ RV G ρ H ii i ∧ RV G ρ H vi v ∧ match putIx oi ii vi h with
  | some h' => ∀ ρ' H', Stp G ρ H ρ' H' → Ag G ρ' h' H' → Q H'
  | none => False
section
variable {G : Gx} {ρ : List Addr} {h : Hi} {H : Hp} {W : WX} {X : Cx} {e a b c o i v : Expr} {es : List Expr} {pos p pos' apos cpos : Pos} {me mi mo ma mb mv : ME} {mr : MA}
theorem small_lt {n : Nat} (h : small (n + 1) = true) : n < sizeLine := small_ok h
theorem set_M (hu : X.A.units + 1 < cLine) : PSet X (rdSet G) := by
  intro pins s σ H o i v ov iv u Q I ro ri rv ⟨ρ, h, oi, ii, vi, ag, r1, r2, r3, q⟩
  unfold putIx at q
  cases r1 with
  | @ref n a e =>
    dsimp only at q
    cases q1 : h[n]? with
    | none => rw [q1] at q; exact q.elim
    | some ob =>
      rw [q1] at q
      cases ob with
      | lst xs =>
        obtain ⟨ys, hy, rs⟩ := ag.at_ q1 e
        cases r2 with
        | int k =>
          dsimp only at q
          cases q2 : ixI xs.length k with
          | none => rw [q2] at q; exact q.elim
          | some j =>
            rw [q2] at q
            have st : Stp G ρ H ρ (upd H a (.lst (ys.set j v))) := Stp.wr ag q1 e
            refine set_list pins s σ H _ _ _ ov iv u Q I ro ri rv ⟨a, ys, k, j, rfl, rfl, hy, by rw [← rs.length]; exact q2, ?_⟩
            exact q ρ _ st (ag.wr q1 e ⟨_, upd_same, (rs.mono st).set j (r3.mono st)⟩)
        | _ => exact q.elim
      | dic kvs =>
        obtain ⟨ks, hy, rs⟩ := ag.at_ q1 e
        dsimp only at q
        cases q2 : isKey ii && small (kvs.length + 1) with
        | false => rw [q2] at q; exact q.elim
        | true =>
          rw [q2] at q
          obtain ⟨q3, q4⟩ := Bool.and_eq_true_iff.mp q2
          obtain ⟨k, rk, ey⟩ := r2.key q3
          subst ey
          have st : Stp G ρ H ρ (upd H a (.dK (putK ks k v))) := Stp.wr ag q1 e
          refine set_dict hu pins s σ H _ _ _ ov iv u Q I ro ri rv ⟨a, _, rfl, DPut.k hy (by rw [← rs.length]; exact small_lt q4), ?_⟩
          exact q ρ _ st (ag.wr q1 e ⟨_, upd_same, RKs.putD rk (r3.mono st) (rs.mono st)⟩)
      | _ => exact q.elim
  | _ => exact q.elim
theorem onlyNx_bindS {α : Type} {r : Res α} {σ : Sg} {k : α → Hi → RS} (hk : ∀ x h, (∃ σ' h', k x h = .nx σ' h') ∨ (∃ c n σ' h', k x h = .ex c n σ' h') ∨ k x h = .err) : (∃ σ' h', r.bindS σ k = .nx σ' h') ∨ (∃ c n σ' h', r.bindS σ k = .ex c n σ' h') ∨ r.bindS σ k = .err := by
  cases r with
  | ok a h => exact hk a h
  | ex c n h => exact .inr (.inl ⟨c, n, σ, h, rfl⟩)
  | err => exact .inr (.inr rfl)
def gFld (cs : List Nat) (f : S) (o : ME) : MG := fun y σ h => (o σ h).bindS σ fun x h2 => match x with
  | .ref n => match h2[n]? with
    | some (.ins c fs) => match cs.contains c && Nat.blt fs.length 1000 with
      | true => .nx σ (h2.set n (.ins c (setF f y fs)))
      | false => .err
    | _ => .err
  | _ => .err
def sPut (o i v : ME) : MS := fun σ h => (v σ h).bindS σ fun z h1 => (o σ h1).bindS σ fun x h2 => (i σ h2).bindS σ fun y h3 => nxO σ (putIx x y z h3)
def eGet2 (d k x : ME) : ME := fun σ h => (d σ h).bind fun a h1 => match a with
  | .ref n => match h1[n]? with
    | some (.dic _) => (k σ h1).bind fun y h2 => (x σ h2).bind fun z h3 => match h3[n]?, isKey y with
      | some (.dic kvs), true => .ok (match getD y kvs with | some v => v | none => z) h3
      | _, _ => .err
    | _ => .err
  | _ => .err
def aPairs : List (ME × ME) → Sg → Hi → Res (List (VI × VI))
  | [], _, h => .ok [] h
  | (k, v) :: r, σ, h => (k σ h).bind fun x h1 => (v σ h1).bind fun y h2 => (aPairs r σ h2).bind fun ps h3 => .ok ((x, y) :: ps) h3
def putAll (ps : List (VI × VI)) (d : List (VI × VI)) : List (VI × VI) := match ps with
  | [] => d
  | (k, v) :: r => putAll r (putD k v d)
def keysOk : List (VI × VI) → Bool
  | [] => true
  | (k, _) :: r => isKey k && keysOk r
def eDisp (ps : List (ME × ME)) : ME := fun σ h => (aPairs ps σ (h ++ [.dic []])).bind fun kvs h1 => match h1[h.length]? with
  | some (.dic []) => match keysOk kvs && Nat.ble kvs.length 15 with
    | true => .ok (.ref h.length) (h1.set h.length (.dic (putAll kvs [])))
    | false => .err
  | _ => .err
inductive RPs (G : Gx) (ρ : List Addr) (H : Hp) : List (VI × VI) → List (V × V) → Prop
  | nil : RPs G ρ H [] []
  | cons {a b : VI} {x y : V} {as : List (VI × VI)} {xs : List (V × V)} (h1 : RV G ρ H a x) (h2 : RV G ρ H b y) (t : RPs G ρ H as xs) : RPs G ρ H ((a, b) :: as) ((x, y) :: xs)
theorem RPs.mono {ρ' : List Addr} {H' : Hp} (st : Stp G ρ H ρ' H') : ∀ {as : List (VI × VI)} {xs : List (V × V)}, RPs G ρ H as xs → RPs G ρ' H' as xs
  | _, _, .nil => .nil
  | _, _, .cons h1 h2 t => .cons (h1.mono st) (h2.mono st) (RPs.mono st t)
theorem RPs.keys : ∀ {as : List (VI × VI)} {xs : List (V × V)}, RPs G ρ H as xs → keysOk as = true → ∃ kvs : List (Key × V), xs = kvs.map (fun kv => (kV kv.1, kv.2)) ∧ RKs G ρ H as kvs
  | _, _, .nil, _ => ⟨[], rfl, .nil⟩
  | _, _, .cons h1 h2 t, k => by
    obtain ⟨k1, k2⟩ := Bool.and_eq_true_iff.mp k
    obtain ⟨l, rk, e⟩ := h1.key k1
    obtain ⟨kvs, e2, r⟩ := RPs.keys t k2
    subst e e2
    exact ⟨(l, _) :: kvs, rfl, .cons rk h2 r⟩
theorem RKs.putAll : ∀ {as : List (VI × VI)} {kvs : List (Key × V)} {d : List (VI × VI)} {ks : List (Key × V)}, RKs G ρ H as kvs → RKs G ρ H d ks → RKs G ρ H (ML.putAll as d) (mergeK ks kvs)
  | _, _, _, _, .nil, r => r
  | _, _, _, _, .cons (k := k) (x := x) e h t, r => by
    unfold ML.putAll
    have q := RKs.putAll t (RKs.putD e h r)
    exact q
theorem pairs_go {σ : L2.St} {σi : Sg} : ∀ {ps : List (ME × ME)} {trs : List (TE × TE)} (_ : trs = ps.map fun p => (rdE G W p.1, rdE G W p.2)) {γ δ : Type} {R' : List Addr → Hp → γ → δ → Prop} {Q : δ → Hp → Prop} {k : List (VI × VI) → Hi → Res γ} {N : List (V × V) → Hp → Prop} {ρ : List Addr} {h : Hi} {H : Hp},
    AgS G ρ H σi σ → Ag G ρ h H → FinG G ρ H R' Q (fun c d H' => W c d σ H') ((aPairs ps σi h).bind k) →
    (∀ ρ1 H1 h1 xs ys, Stp G ρ H ρ1 H1 → AgS G ρ1 H1 σi σ → Ag G ρ1 h1 H1 → RPs G ρ1 H1 xs ys → FinG G ρ1 H1 R' Q (fun c d H' => W c d σ H') (k xs h1) → N ys H1) → tPairs trs σ H N
  | [], _, rfl, _, _, _, _, _, _, ρ, h, H, as, ag, f, nx => nx ρ H h [] [] .refl as ag .nil f
  | (mk, mv) :: r, _, rfl, _, _, _, Q, k, N, ρ, h, H, as, ag, f, nx => by
    have e : (aPairs ((mk, mv) :: r) σi h).bind k = (mk σi h).bind fun x h1 => (mv σi h1).bind fun y h2 => (aPairs r σi h2).bind fun ps h3 => k ((x, y) :: ps) h3 := by
      show ((mk σi h).bind fun x h1 => (mv σi h1).bind fun y h2 => (aPairs r σi h2).bind fun ps h3 => .ok ((x, y) :: ps) h3).bind k = _
      cases mk σi h with
      | err => rfl
      | ex c n h1 => rfl
      | ok x h1 =>
        show ((mv σi h1).bind fun y h2 => (aPairs r σi h2).bind fun ps h3 => .ok ((x, y) :: ps) h3).bind k = _
        show _ = (mv σi h1).bind fun y h2 => (aPairs r σi h2).bind fun ps h3 => k ((x, y) :: ps) h3
        cases mv σi h1 with
        | err => rfl
        | ex c n h2 => rfl
        | ok y h2 =>
          show ((aPairs r σi h2).bind fun ps h3 => .ok ((x, y) :: ps) h3).bind k = (aPairs r σi h2).bind fun ps h3 => k ((x, y) :: ps) h3
          cases aPairs r σi h2 <;> rfl
    rw [e] at f
    exact rdG_go as ag f fun ρ1 H1 h1 x x' st as ag r1 f => rdG_go as ag f fun ρ2 H2 h2 y y' st2 as ag r2 f =>
      pairs_go rfl as ag f fun ρ3 H3 h3 xs ys st3 as ag rs f => nx ρ3 H3 h3 _ _ ((st.trans st2).trans st3) as ag (.cons (r1.mono (st2.trans st3)) (r2.mono st3) rs) f
theorem me_disp {keys : List (Option Expr)} {values : List Expr} {ps : List (ME × ME)} (h : PPs X pos keys values (ps.map fun p => (rdE G W p.1, rdE G W p.2))) (hall : keys.all (·.isSome) = true) (hl : keys.length = values.length) (h0 : keys ≠ []) (h15 : keys.length ≤ 15) :
    PE X (.Dict keys values pos) (rdE G W (eDisp ps)) :=
  PE.imp' (pe_disp h hall hl h0 h15) fun σ H Q ⟨ρ, σi, h, as, ag, fin⟩ p hp => by
    have st0 : Stp G ρ H (ρ ++ [p]) (upd H p (.dK [])) := Stp.new hp
    have ag0 : Ag G (ρ ++ [p]) (h ++ [.dic []]) (upd H p (.dK [])) := ag.new hp ⟨[], upd_same, .nil⟩
    have hx : (ρ ++ [p])[h.length]? = some p := by rw [← ag.len]; simp
    refine pairs_go rfl (as.mono st0) ag0 (FinG.later st0 fin) fun ρ1 H1 h1 xs ys st as ag rs fi => ?_
    cases q : h1[h.length]? with
    | none => rw [q] at fi; exact fi.elim
    | some ob =>
      rw [q] at fi
      cases ob with
      | dic kvs =>
        cases kvs with
        | cons _ _ => exact fi.elim
        | nil =>
          dsimp only at fi
          have hp1 := st.pre _ _ hx
          obtain ⟨ks, hy, rk⟩ := ag.at_ q hp1
          cases rk
          cases q2 : keysOk xs && Nat.ble xs.length 15 with
          | false => rw [q2] at fi; exact fi.elim
          | true =>
            rw [q2] at fi
            obtain ⟨q3, q4⟩ := Bool.and_eq_true_iff.mp q2
            obtain ⟨kvs, e, rk⟩ := rs.keys q3
            have st2 : Stp G ρ1 H1 ρ1 (upd H1 p (.dK (mergeK [] kvs))) := Stp.wr ag q hp1
            refine ⟨hy, kvs, e, by rw [← rk.length]; exact Nat.le_of_ble_eq_true q4, ?_⟩
            exact fi ρ1 _ _ st2 (ag.wr q hp1 ⟨_, upd_same, RKs.putAll (rk.mono st2) .nil⟩) (.ref hp1)
      | _ => exact fi.elim
theorem mp_nil : PPs X pos [] [] (([] : List (ME × ME)).map fun p => (rdE G W p.1, rdE G W p.2)) := pps_nil
theorem mp_cons {k v : Expr} {ks : List (Option Expr)} {vs : List Expr} {mk mv : ME} {ps : List (ME × ME)} (hk : PE X k (rdE G W mk)) (hv : PE X v (rdE G W mv)) (hr : PPs X pos ks vs (ps.map fun p => (rdE G W p.1, rdE G W p.2))) :
    PPs X pos (some k :: ks) (v :: vs) (((mk, mv) :: ps).map fun p => (rdE G W p.1, rdE G W p.2)) := pps_cons hk hv hr
def eDisp0 : ME := fun _ h => .ok (.ref h.length) (h ++ [.dic []])
end
end ML
end
section
namespace ML
open PySem L2
inductive Itm where
  | tup (xs : List VI) | lst (n : Nat) | rng (lo : Int) (k : Nat) | enl (n : Nat) | zip (a b : Nat) | zlt (a : Nat) (ys : List VI)
def listAt (n : Nat) (h : Hi) : Option (List VI) := match h[n]? with
  | some (.lst xs) => some xs
  | some (.scr xs) => some xs
  | _ => none
def Itm.nxt (it : Itm) (i : Nat) (h : Hi) : Option (Option VI) := match it with
  | .tup xs => some xs[i]?
  | .lst n => match listAt n h with
    | some xs => some xs[i]?
    | none => none
  | .rng lo k => some (match Nat.blt i k with
    | true => some (.int (lo + i))
    | false => none)
  | .enl n => match listAt n h with
    | some xs => some (match xs[i]? with
      | some x => some (.tup [.int i, x])
      | none => none)
    | none => none
  | .zip a b => match listAt a h, listAt b h with
    | some xs, some ys => some (match xs[i]?, ys[i]? with
      | some x, some y => some (.tup [x, y])
      | _, _ => none)
    | _, _ => none
  | .zlt a ys => match listAt a h with
    | some xs => match Nat.ble i xs.length && Nat.ble i ys.length with
      | true => some (match xs[i]?, ys[i]? with
        | some x, some y => some (.tup [x, y])
        | _, _ => none)
      | false => none
    | none => none
def Itm.fuel (it : Itm) (h : Hi) : Nat := match it with
  | .tup xs => xs.length
  | .lst n => match listAt n h with
    | some xs => xs.length
    | none => 0
  | .rng _ k => k
  | .enl n => match listAt n h with
    | some xs => xs.length
    | none => 0
  | .zip a _ => match listAt a h with
    | some xs => xs.length
    | none => 0
  | .zlt a _ => match listAt a h with
    | some xs => xs.length
    | none => 0
abbrev MI := Sg → Hi → Res Itm
def turns (it : Itm) (g : MG) (body : MS) : Nat → Nat → MS
  | 0, i, σ, h => match it.nxt i h with
    | some none => .nx σ h
    | _ => .err
  | k + 1, i, σ, h => match it.nxt i h with
    | some none => .nx σ h
    | some (some x) => (g x σ h).andThen fun σ1 h1 => match body σ1 h1 with
      | .nx σ2 h2 => turns it g body k (i + 1) σ2 h2
      | .ct σ2 h2 => turns it g body k (i + 1) σ2 h2
      | .bk σ2 h2 => .nx σ2 h2
      | r => r
    | none => .err
def sFor (mi : MI) (g : MG) (body : MS) : MS := fun σ h => (mi σ h).bindS σ fun it h1 => turns it g body (it.fuel h1) 0 σ h1
def ItOk (G : Gx) (ρ : List Addr) (H : Hp) (J : It) (it : Itm) : Prop := ∀ (i : Nat) (ρ1 : List Addr) (h1 : Hi) (H1 : Hp), Stp G ρ H ρ1 H1 → Ag G ρ1 h1 H1 → match it.nxt i h1 with
  | none => True
  | some none => J.stop i H1
  | some (some v) => J.go i H1 ∧ ∀ x H2, J.yld i H1 x H2 → Stp G ρ1 H1 ρ1 H2 ∧ Ag G ρ1 h1 H2 ∧ RV G ρ1 H2 v x
def rdI (G : Gx) (W : WX) (mi : MI) : TI := fun σ H R => ∃ ρ σi h, AgS G ρ H σi σ ∧ Ag G ρ h H ∧ match mi σi h with
  | .ok it h1 => ∀ ρ1 H1 J, Stp G ρ H ρ1 H1 → Ag G ρ1 h1 H1 → ItOk G ρ1 H1 J it → R J H1
  | .ex c n h1 => ∀ ρ' H' d C, Stp G ρ H ρ' H' → Ag G ρ' h1 H' → ρ'[n]? = some d → G.ct c = some C → W (.ref C) (some d) σ H'
  | .err => False
section
variable {G : Gx} {W : WX} {X : Cx} {ρ ρ1 : List Addr} {H H1 : Hp} {σ : L2.St} {σi : Sg} {h : Hi} {D : Ends} {tg iter e : Expr} {body : List Stmt} {pos p : Pos} {me : ME} {mi : MI} {mg : MG} {mb : MS} {ma : MA}
theorem rdI_go {k : Itm → Hi → RS} {N : It → Hp → Prop} (as : AgS G ρ H σi σ) (a : Ag G ρ h H) (f : FinS G ρ H D W ((mi σi h).bindS σi k))
    (nx : ∀ ρ1 H1 h1 it J, Stp G ρ H ρ1 H1 → AgS G ρ1 H1 σi σ → Ag G ρ1 h1 H1 → ItOk G ρ1 H1 J it → FinS G ρ1 H1 D W (k it h1) → N J H1) : rdI G W mi σ H N := by
  refine ⟨ρ, σi, h, as, a, ?_⟩
  cases e : mi σi h with
  | err => rw [e] at f; exact f
  | ex c n h' =>
    rw [e] at f
    exact fun ρ' H' d C st a' hn hc => f ρ' H' d C σ st a' (as.mono st) hn hc
  | ok it h' =>
    rw [e] at f
    exact fun ρ' H' J st a' io => nx ρ' H' h' it J st (as.mono st) a' io (FinS.later st f)
theorem ItOk.later {J : It} {it : Itm} (st : Stp G ρ H ρ1 H1) (o : ItOk G ρ H J it) : ItOk G ρ1 H1 J it := fun i ρ2 h2 H2 s a => o i ρ2 h2 H2 (st.trans s) a
theorem ms_for (hp : PassesOwn (model X.prog X.w) X.A X.env X.xe) (hc : X.calm = true) (hi : PI X tg iter (rdI G W mi)) (hg : PG X tg (rdGt G W mg)) (on : OnlyNx mg) (hb : PSs X body (rdS G W mb))
    (hs : ∀ x, foldedSetIterable iter X.env x = pure x := by intro _; rfl) : PS X (.For tg iter body [] pos) (rdS G W (sFor mi mg mb)) :=
  PS.imp' (ps_for hp hc hi hg hb hs) fun D σ H ⟨ρ, σi, h, as, ag, fin⟩ => rdI_go as ag fin fun ρ1 H1 h1 it J st as1 ag1 io fi => by
    refine ⟨fun i m σ2 H2 => ∃ ρ2 σi2 h2, Stp G ρ1 H1 ρ2 H2 ∧ AgS G ρ2 H2 σi2 σ2 ∧ Ag G ρ2 h2 H2 ∧ FinS G ρ2 H2 D W (turns it mg mb m i σi2 h2), ⟨_, ρ1, σi, h1, .refl, as1, ag1, fi⟩, ?_⟩
    rintro i m σ2 H2 ⟨ρ2, σi2, h2, st2, as2, ag2, f2⟩
    have ok := io i ρ2 h2 H2 st2 ag2
    cases q : it.nxt i h2 with
    | none =>
      cases m with
      | zero => unfold turns at f2; rw [q] at f2; exact f2.elim
      | succ k => unfold turns at f2; rw [q] at f2; exact f2.elim
    | some o =>
      rw [q] at ok
      cases o with
      | none =>
        refine .inl ⟨ok, ?_⟩
        cases m with
        | zero => unfold turns at f2; rw [q] at f2; exact f2.nx ag2 as2
        | succ k => unfold turns at f2; rw [q] at f2; exact f2.nx ag2 as2
      | some v =>
        cases m with
        | zero => unfold turns at f2; rw [q] at f2; exact f2.elim
        | succ k =>
          unfold turns at f2
          rw [q] at f2
          dsimp only at f2
          obtain ⟨go, yl⟩ := ok
          refine .inr ⟨go, fun σ' H' => ∃ ρ2 σi2 h2, Stp G ρ1 H1 ρ2 H' ∧ AgS G ρ2 H' σi2 σ' ∧ Ag G ρ2 h2 H' ∧ FinS G ρ2 H' D W (turns it mg mb k (i + 1) σi2 h2), fun σ' H' w => ⟨k, Nat.lt_succ_self k, w⟩, fun x H3 y => ?_⟩
          obtain ⟨st3, ag3, rv⟩ := yl x H3 y
          refine ⟨ρ2, σi2, h2, v, as2.mono st3, ag3, rv, ?_⟩
          have f3 := FinS.later st3 f2
          have st13 := st2.trans st3
          rcases on v σi2 h2 with ⟨σ4, h4, e⟩ | ⟨c, n, σ4, h4, e⟩ | e
          · rw [e] at f3 ⊢
            refine fun ρ4 H4 σ5 s4 a4 as4 => ⟨ρ4, σ4, h4, as4, a4, ?_⟩
            have f4 := FinS.later s4 f3
            have st14 := st13.trans s4
            dsimp only [RS.andThen] at f4
            cases e5 : mb σ4 h4 with
            | nx σ6 h6 => rw [e5] at f4; exact fun ρ' H' σ' s a as => ⟨ρ', σ6, h6, st14.trans s, as, a, FinS.later s f4⟩
            | ct σ6 h6 => rw [e5] at f4; exact fun ρ' H' σ' s a as => ⟨ρ', σ6, h6, st14.trans s, as, a, FinS.later s f4⟩
            | bk σ6 h6 => rw [e5] at f4; exact f4
            | rt v6 h6 => rw [e5] at f4; exact f4
            | ex c6 n6 σ6 h6 => rw [e5] at f4; exact f4
            | err => rw [e5] at f4; exact f4
          · rw [e] at f3 ⊢; exact f3
          · rw [e] at f3 ⊢; exact f3
theorem PI.dispatch {t : TI} (h : ∀ σ H Q, t σ H Q → ∃ t', PI X tg iter t' ∧ t' σ H Q) : PI X tg iter t := ⟨fun pins s σ H Q I q => let ⟨_, p, q'⟩ := h σ H Q q; p.run pins s σ H Q I q'⟩
theorem PI.imp' {t t' : TI} (h : PI X tg iter t) (i : ∀ σ H Q, t' σ H Q → t σ H Q) : PI X tg iter t' := ⟨fun pins s σ H Q I q => h.run pins s σ H Q I (i σ H Q q)⟩
def seqOf : VI → Hi → Option Itm := fun v h => match v with
  | .tup xs => some (.tup xs)
  | .ref n => match listAt n h with
    | some _ => some (.lst n)
    | none => none
  | _ => none
def ofI : Option Itm → Hi → Res Itm
  | some it, h => .ok it h
  | none, _ => .err
def iSeq (e : ME) : MI := fun σ h => (e σ h).bind fun v h1 => ofI (seqOf v h1) h1
theorem listAt_ok (K : PySem.W.Frag) (ag : Ag G ρ h H) {n : Nat} {a : Addr} {xs : List VI} (e : listAt n h = some xs) (p : ρ[n]? = some a) : ∃ ys, SqL K H a ys ∧ RVs G ρ H xs ys := by
  unfold listAt at e
  cases q : h[n]? with
  | none => rw [q] at e; cases e
  | some ob =>
    rw [q] at e
    cases ob with
    | lst zs => cases e; obtain ⟨ys, hy, rs⟩ := ag.at_ q p; exact ⟨ys, .inl (.inl hy), rs⟩
    | scr zs => cases e; obtain ⟨ob, ys, hy, rs⟩ := ag.at_ q p; exact ⟨ys, .inl (.inr ⟨_, hy⟩), rs⟩
    | _ => cases e
theorem itOk_lst (hG : G.K = X.K) {n : Nat} {a : Addr} (p : ρ[n]? = some a) : ItOk G ρ H (Itl X.K a) (.lst n) := fun i ρ1 h1 H1 st ag => by
  unfold Itm.nxt
  dsimp only
  cases q : listAt n h1 with
  | none => trivial
  | some xs =>
    obtain ⟨ys, hy, rs⟩ := listAt_ok X.K ag q (st.pre _ _ p)
    dsimp only
    cases q2 : xs[i]? with
    | none =>
      have : xs.length ≤ i := List.getElem?_eq_none_iff.mp q2
      exact ⟨ys, hy, by rw [← rs.length]; exact this⟩
    | some v =>
      obtain ⟨y, hy2, ry⟩ := rs.get q2
      refine ⟨⟨ys, y, hy, hy2⟩, fun x H2 ⟨e, k⟩ => ?_⟩
      subst e
      have := k ys hy
      rw [hy2] at this
      cases this
      exact ⟨.refl, ag, ry⟩
theorem itOk_tup (hG : G.K = X.K) {a : Addr} {xs : List VI} {ys : List V} (t : SqT G.K H a ys) (rs : RVs G ρ H xs ys) : ItOk G ρ H (Itt X.K a) (.tup xs) := fun i ρ1 h1 H1 st ag => by
  unfold Itm.nxt
  have t1 := st.tup _ _ t
  rw [hG] at t1
  have rs1 := rs.mono st
  dsimp only
  cases q2 : xs[i]? with
  | none =>
    have : xs.length ≤ i := List.getElem?_eq_none_iff.mp q2
    exact ⟨ys, t1, by rw [← rs.length]; exact this⟩
  | some v =>
    obtain ⟨y, hy2, ry⟩ := rs1.get q2
    refine ⟨⟨ys, y, t1, hy2⟩, fun x H2 ⟨e, k⟩ => ?_⟩
    subst e
    have := k ys t1
    rw [hy2] at this
    cases this
    exact ⟨.refl, ag, ry⟩
theorem itOk_rng {lo : Int} {k : Nat} : ItOk G ρ H (Itr lo k) (.rng lo k) := fun i ρ1 h1 H1 st ag => by
  unfold Itm.nxt
  dsimp only
  cases q : Nat.blt i k with
  | true => exact ⟨Nat.le_of_ble_eq_true q, fun x H2 ⟨e, z⟩ => by subst e z; exact ⟨.refl, ag, .int _⟩⟩
  | false =>
    refine Nat.le_of_not_lt fun z => ?_
    have : Nat.blt i k = true := Nat.ble_eq_true_of_le z
    rw [q] at this
    cases this
theorem mi_seq (hG : G.K = X.K) (he : PE X e (rdE G W me)) : PI X tg e (rdI G W (iSeq me)) := PI.dispatch fun σ H R ⟨ρ, σi, h, as, ag, fin⟩ => by
  unfold iSeq at fin
  cases q : me σi h with
  | err => rw [q] at fin; exact fin.elim
  | ex c n h1 =>
    rw [q] at fin
    exact ⟨_, pi_list he, ρ, σi, h, as, ag, by rw [q]; exact fin⟩
  | ok v h1 =>
    rw [q] at fin
    dsimp only [Res.bind] at fin
    cases v with
    | tup xs =>
      refine ⟨_, pi_tup he, ρ, σi, h, as, ag, ?_⟩
      rw [q]
      intro ρ1 H1 x st a1 r
      cases r with
      | @tup _ ys a t rs => exact ⟨a, rfl, ⟨ys, hG ▸ t⟩, fin ρ1 H1 _ st a1 (itOk_tup hG t rs)⟩
    | ref n =>
      unfold seqOf at fin
      dsimp only at fin
      cases q2 : listAt n h1 with
      | none => rw [q2] at fin; exact fin.elim
      | some xs =>
        rw [q2] at fin
        refine ⟨_, pi_list he, ρ, σi, h, as, ag, ?_⟩
        rw [q]
        intro ρ1 H1 x st a1 r
        cases r with
        | @ref _ a p =>
          obtain ⟨ys, hy, rs⟩ := listAt_ok X.K a1 q2 p
          exact ⟨a, rfl, ⟨ys, hy⟩, fin ρ1 H1 _ st a1 (itOk_lst hG p)⟩
    | _ => exact fin.elim
def rngOf : List VI → Option Itm
  | [.int j] => match decide (-(2 ^ 62) ≤ j) && decide (j < 2 ^ 62) with
    | true => some (.rng 0 j.toNat)
    | false => none
  | [.int i, .int j] => match (decide (-(2 ^ 62) ≤ i) && decide (i < 2 ^ 62)) && (decide (-(2 ^ 62) ≤ j) && decide (j < 2 ^ 62)) with
    | true => some (.rng i (j - i).toNat)
    | false => none
  | _ => none
def iRng (a : MA) : MI := fun σ h => (a σ h).bind fun vs h1 => ofI (rngOf vs) h1
theorem mi_rng1 {a : Expr} {mr : MA} (hg : Gl X "range") (hm : X.mg "range" = none) (ha : PA X [a] (rdA G W mr)) (hs : starEach [a] X.env = [(false, eval a X.env)] := by rfl) (one : ∀ σ h vs h1, mr σ h = .ok vs h1 → vs.length = 1) : PI X tg (.Call (.Name "range" p) [a] [] pos) (rdI G W (iRng mr)) :=
  PI.imp' (pi_range1 hg hm ha hs) fun σ H R ⟨ρ, σi, h, as, ag, fin⟩ => by
    refine ⟨ρ, σi, h, as, ag, ?_⟩
    unfold iRng at fin
    cases q : mr σi h with
    | err => rw [q] at fin; exact fin.elim
    | ex c n h1 => rw [q] at fin; exact fin
    | ok vs h1 =>
      rw [q] at fin
      have l := one _ _ _ _ q
      intro ρ1 H1 xs st a1 r
      match vs, l, r, fin with
      | [v], _, .cons r .nil, fin =>
        cases r with
        | int j =>
          dsimp only [Res.bind, rngOf] at fin
          cases z : decide (-(2 ^ 62) ≤ j) && decide (j < 2 ^ 62) with
          | false => rw [z] at fin; exact fin.elim
          | true =>
            rw [z] at fin
            obtain ⟨z1, z2⟩ := Bool.and_eq_true_iff.mp z
            exact ⟨j, rfl, of_decide_eq_true z1, of_decide_eq_true z2, fin ρ1 H1 _ st a1 itOk_rng⟩
        | _ => exact fin.elim
end
end ML
end
section
namespace ML
open PySem L2
inductive Tgt where
  | one (i : Nat) | many (is : List Nat)
def putMany : List Nat → List VI → Sg → Option Sg
  | [], [], σ => some σ
  | i :: is, x :: xs, σ => putMany is xs (σ.set i (some x))
  | _, _, _ => none
def Tgt.put (t : Tgt) (v : VI) (σ : Sg) : Option Sg := match t with
  | .one i => some (σ.set i (some v))
  | .many is => match v with
    | .tup xs => putMany is xs σ
    | _ => none
def Tgt.slots : Tgt → List Nat
  | .one i => [i]
  | .many is => is
def gTgt (t : Tgt) : MG := fun v σ h => match t.put v σ with
  | some σ' => .nx σ' h
  | none => .err
def gNames : List Nat → TGs
  | [] => gNil
  | i :: is => gCons (gName i) (gNames is)
def Tgt.tg (K : PySem.W.Frag) : Tgt → TG
  | .one i => gName i
  | .many is => gTup K is.length (gNames is)
def wipeM (σ : Sg) : List Nat → Sg
  | [] => σ
  | i :: r => (wipeM σ r).set i none
section
variable {G : Gx} {ρ : List Addr} {H : Hp} {h : Hi} {X : Cx} {W : WX} {σ : L2.St} {σi : Sg}
theorem names_put : ∀ {is : List Nat} {xs : List VI} {ys : List V} {σi σ2 : Sg} {σ : L2.St} {N : L2.St → Hp → Prop}, AgS G ρ H σi σ → RVs G ρ H xs ys → putMany is xs σi = some σ2 →
    (∀ σ', AgS G ρ H σ2 σ' → (∀ j, j ∉ is → σ'[j]? = σ[j]?) → σ'.length = σ.length → N σ' H) → gNames is ys σ H N
  | [], [], _, σi, σ2, σ, N, as, .nil, e, k => by
    cases e
    exact ⟨rfl, k σ as (fun _ _ => rfl) rfl⟩
  | i :: is, x :: xs, _, σi, σ2, σ, N, as, .cons r rs, e, k => by
    refine ⟨_, _, rfl, ?_⟩
    show gNames is _ _ H N
    refine names_put (as.set r i) rs e fun σ' as' hj hl => k σ' as' (fun j hj' => ?_) (by rw [hl, List.length_set])
    rw [hj j (fun z => hj' (List.mem_cons_of_mem _ z))]
    rw [List.getElem?_set_ne (fun z => hj' (by rw [← z]; exact List.mem_cons_self))]
  | [], _ :: _, _, _, _, _, _, _, _, e, _ => by cases e
  | _ :: _, [], _, _, _, _, _, _, _, e, _ => by cases e
theorem tgt_put (hG : G.K = X.K) {t : Tgt} {v : VI} {x : V} {σ2 : Sg} {N : L2.St → Hp → Prop} (as : AgS G ρ H σi σ) (r : RV G ρ H v x) (e : t.put v σi = some σ2)
    (k : ∀ σ', AgS G ρ H σ2 σ' → (∀ j, j ∉ t.slots → σ'[j]? = σ[j]?) → σ'.length = σ.length → N σ' H) : t.tg X.K x σ H N := by
  cases t with
  | one i =>
    cases e
    exact k _ (as.set r i) (fun j hj => List.getElem?_set_ne (fun z => hj (by rw [← z]; exact List.mem_cons_self))) (List.length_set ..)
  | many is =>
    cases r with
    | @tup xs ys a t rs =>
      have e' : putMany is xs σi = some σ2 := e
      refine ⟨a, ys, rfl, hG ▸ t, ?_, names_put as rs e' k⟩
      have : ∀ {is : List Nat} {xs : List VI} {σi σ2 : Sg}, putMany is xs σi = some σ2 → xs.length = is.length := fun {is} => by
        induction is with
        | nil => intro xs σi σ2 q; cases xs with | nil => rfl | cons _ _ => cases q
        | cons i r ih => intro xs σi σ2 q; cases xs with | nil => cases q | cons y ys => rw [List.length_cons, List.length_cons, ih q]
      rw [← rs.length]
      exact this e'
    | _ => cases e
theorem AgS.wipe : ∀ (vs : List Nat) {σi : Sg} {σ : L2.St}, AgS G ρ H σi σ → AgS G ρ H (wipeM σi vs) (L2.wipe σ vs)
  | [], _, _, a => a
  | i :: r, _, _, a => (AgS.wipe r a).lose i none
theorem wipe_in : ∀ (vs : List Nat) (σ : L2.St) (j : Nat), j ∈ vs → (L2.wipe σ vs)[j]? = if j < σ.length then some none else none
  | i :: r, σ, j, hj => by
    show ((L2.wipe σ r).set i none)[j]? = _
    rw [List.getElem?_set, L2.wipe_length]
    by_cases z : i = j
    · subst z
      rw [if_pos rfl]
    · rw [if_neg z]
      exact wipe_in r σ j ((List.mem_cons.mp hj).resolve_left fun w => z w.symm)
theorem wipe_eq (vs : List Nat) {σ τ : L2.St} (hl : τ.length = σ.length) (k : ∀ j, j ∉ vs → τ[j]? = σ[j]?) : L2.wipe τ vs = L2.wipe σ vs := by
  refine List.ext_getElem? fun j => ?_
  by_cases z : j ∈ vs
  · rw [wipe_in vs τ j z, wipe_in vs σ j z, hl]
  · rw [L2.wipe_out z, L2.wipe_out z]
    exact k j z
end
def turnsC (it : Itm) (t : Tgt) (vs : List Nat) (tt : MT) (el : ME) (D : Nat) (σ : Sg) : Nat → Nat → Hi → Option Hi
  | 0, i, h => match it.nxt i h with
    | some none => some h
    | _ => none
  | k + 1, i, h => match it.nxt i h with
    | some none => some h
    | some (some x) => match t.put x (wipeM σ vs) with
      | some σ2 => match tt σ2 h with
        | .ok true h2 => match el σ2 h2 with
          | .ok y h3 => match h3[D]? with
            | some (.lst acc) => match small (acc.length + 1) with
              | true => turnsC it t vs tt el D σ k (i + 1) (h3.set D (.lst (acc ++ [y])))
              | false => none
            | _ => none
          | _ => none
        | .ok false h2 => turnsC it t vs tt el D σ k (i + 1) h2
        | _ => none
      | none => none
    | none => none
def tYesM : MT := fun _ h => .ok true h
def eLc (mi : MI) (t : Tgt) (vs : List Nat) (tt : MT) (el : ME) : ME := fun σ h => (mi σ h).bind fun it h1 => match turnsC it t vs tt el h1.length σ (it.fuel h1) 0 (h1 ++ [.lst []]) with
  | some h2 => .ok (.ref h1.length) h2
  | none => .err
abbrev W0 : WX := fun _ _ _ _ => False
section
variable {G : Gx} {W : WX} {X : Cx} {ρ ρ1 : List Addr} {H H1 : Hp} {h : Hi} {tg iter elt : Expr} {ifs : List Expr} {scope : Scope} {own : List (Str × Nat)} {pos : Pos} {mi : MI} {mt : MT} {ml : ME} {t : Tgt}
theorem rdI_goE {α β : Type} {R' : List Addr → Hp → α → β → Prop} {Q : β → Hp → Prop} {k : Itm → Hi → Res α} {N : It → Hp → Prop} {σ : L2.St} {σi : Sg} (as : AgS G ρ H σi σ) (a : Ag G ρ h H) (f : FinG G ρ H R' Q (fun c d H' => W c d σ H') ((mi σi h).bind k))
    (nx : ∀ ρ1 H1 h1 it J, Stp G ρ H ρ1 H1 → AgS G ρ1 H1 σi σ → Ag G ρ1 h1 H1 → ItOk G ρ1 H1 J it → FinG G ρ1 H1 R' Q (fun c d H' => W c d σ H') (k it h1) → N J H1) : rdI G W mi σ H N := by
  refine ⟨ρ, σi, h, as, a, ?_⟩
  cases e : mi σi h with
  | err => rw [e] at f; exact f
  | ex c n h' =>
    rw [e] at f
    exact fun ρ' H' d C st a' hn hc => f ρ' H' d C st a' hn hc
  | ok it h' =>
    rw [e] at f
    exact fun ρ' H' J st a' io => nx ρ' H' h' it J st (as.mono st) a' io (FinG.later st f)
theorem lc_rd (hG : G.K = X.K) (vs : List Nat) (hsl : ∀ j ∈ t.slots, j ∈ vs) {tt : TT} (htt : ∀ σ H Q, rdT G W0 mt σ H Q → tt σ H Q) : ∀ σ H Q, rdE G W (eLc mi t vs mt ml) σ H Q → tLc (rdI G W mi) (t.tg X.K) tt (rdE G W0 ml) vs σ H Q := fun σ H Q ⟨ρ, σi, h, as, ag, fin⟩ =>
  rdI_goE as ag fin fun ρ1 H1 h1 it J st as1 ag1 io fi D hD => by
    have st0 : Stp G ρ1 H1 (ρ1 ++ [D]) (upd H1 D (.lst [])) := Stp.new hD
    have ag0 : Ag G (ρ1 ++ [D]) (h1 ++ [.lst []]) (upd H1 D (.lst [])) := ag1.new hD ⟨[], upd_same, .nil⟩
    have hx : (ρ1 ++ [D])[h1.length]? = some D := by rw [← ag1.len]; simp
    cases e0 : turnsC it t vs mt ml h1.length σi (it.fuel h1) 0 (h1 ++ [.lst []]) with
    | none => rw [e0] at fi; exact fi.elim
    | some hf =>
      rw [e0] at fi
      refine ⟨fun i m H2 => ∃ ρ2 h2, Stp G (ρ1 ++ [D]) (upd H1 D (.lst [])) ρ2 H2 ∧ Ag G ρ2 h2 H2 ∧ turnsC it t vs mt ml h1.length σi m i h2 = some hf, ⟨_, ρ1 ++ [D], _, .refl, ag0, e0⟩, ?_⟩
      rintro i m H2 ⟨ρ2, h2, st2, ag2, f2⟩
      have ok := io i ρ2 h2 H2 (st0.trans st2) ag2
      have as2 : AgS G ρ2 H2 σi σ := as1.mono (st0.trans st2)
      have fin' : ∀ {h}, hf = h → Ag G ρ2 h H2 → Q (.ref D) H2 := fun {h} e a => by
        subst e
        exact fi ρ2 H2 _ (st0.trans st2) a (.ref (st2.pre _ _ hx))
      cases q : it.nxt i h2 with
      | none =>
        cases m with
        | zero => unfold turnsC at f2; rw [q] at f2; cases f2
        | succ k => unfold turnsC at f2; rw [q] at f2; cases f2
      | some o =>
        rw [q] at ok
        cases o with
        | none =>
          refine .inl ⟨ok, ?_⟩
          cases m with
          | zero => unfold turnsC at f2; rw [q] at f2; exact fin' (Option.some.inj f2).symm ag2
          | succ k => unfold turnsC at f2; rw [q] at f2; exact fin' (Option.some.inj f2).symm ag2
        | some v =>
          cases m with
          | zero => unfold turnsC at f2; rw [q] at f2; cases f2
          | succ k =>
            unfold turnsC at f2
            rw [q] at f2
            dsimp only at f2
            obtain ⟨go, yl⟩ := ok
            refine .inr ⟨go, fun H' => ∃ ρ2 h2, Stp G (ρ1 ++ [D]) (upd H1 D (.lst [])) ρ2 H' ∧ Ag G ρ2 h2 H' ∧ turnsC it t vs mt ml h1.length σi k (i + 1) h2 = some hf, fun H' w => ⟨k, Nat.lt_succ_self k, w⟩, fun x H3 y => ?_⟩
            obtain ⟨st3, ag3, rv⟩ := yl x H3 y
            cases e1 : t.put v (wipeM σi vs) with
            | none => rw [e1] at f2; cases f2
            | some σ4 =>
              rw [e1] at f2
              dsimp only at f2
              refine tgt_put hG ((as2.mono st3).wipe vs) rv e1 fun σ5 as5 hj hl => ?_
              refine ⟨wipe_eq vs hl (fun j hn => hj j fun z => hn (hsl j z)) |>.trans ?_, ?_⟩
              · exact wipe_eq vs (L2.wipe_length σ vs) fun j hn => L2.wipe_out hn
              · refine htt _ _ _ ⟨ρ2, σ4, h2, as5, ag3, ?_⟩
                cases e2 : mt σ4 h2 with
                | err => rw [e2] at f2; cases f2
                | ex c n h' => rw [e2] at f2; cases f2
                | ok b h4 =>
                  rw [e2] at f2
                  intro ρ6 H6 b' st6 ag6 eb
                  subst eb
                  cases b with
                  | false =>
                    rw [if_neg Bool.false_ne_true]
                    exact ⟨ρ6, h4, (st2.trans st3).trans st6, ag6, f2⟩
                  | true =>
                    rw [if_pos rfl]
                    dsimp only at f2
                    refine ⟨ρ6, σ4, h4, as5.mono st6, ag6, ?_⟩
                    cases e3 : ml σ4 h4 with
                    | err => rw [e3] at f2; cases f2
                    | ex c n h' => rw [e3] at f2; cases f2
                    | ok z h5 =>
                      rw [e3] at f2
                      dsimp only at f2
                      intro ρ7 H7 z' st7 ag7 rz
                      cases e4 : h5[h1.length]? with
                      | none => rw [e4] at f2; cases f2
                      | some ob =>
                        rw [e4] at f2
                        cases ob with
                        | lst acc =>
                          dsimp only at f2
                          cases e5 : small (acc.length + 1) with
                          | false => rw [e5] at f2; cases f2
                          | true =>
                            rw [e5] at f2
                            have stA := ((st2.trans st3).trans st6).trans st7
                            have hD7 := stA.pre _ _ hx
                            obtain ⟨ys, hy, rs⟩ := ag7.at_ e4 hD7
                            have stW : Stp G ρ7 H7 ρ7 (upd H7 D (.lst (ys ++ [z']))) := Stp.wr ag7 e4 hD7
                            refine ⟨ys, hy, by rw [← rs.length]; exact small_lt e5, ρ7, _, stA.trans stW, ag7.wr (u' := .lst (acc ++ [z])) e4 hD7 ⟨_, upd_same, (rs.append (.cons rz .nil)).mono stW⟩, f2⟩
                        | _ => cases f2
end
end ML
end
section
namespace ML
open PySem L2
section
variable {G : Gx} {W : WX} {X : Cx} {tg iter elt c : Expr} {ifs : List Expr} {scope : Scope} {own : List (Str × Nat)} {pos spos py : Pos} {mi : MI} {mt : MT} {ml : ME} {t : Tgt} {i : Nat} {y : Str}
theorem yes_rd : ∀ σ H Q, rdT G W0 tYesM σ H Q → tYes σ H Q := fun σ H Q ⟨ρ, σi, h, as, ag, f⟩ => f ρ H true .refl ag rfl
theorem me_lc0 (hG : G.K = X.K) (hc : X.calm = true) (hN : X.N.Nodup) (hi : PI X tg iter (rdI G W mi)) (ok : BlkOk X.N X.env.scope scope own) (hsl : ∀ j ∈ t.slots, j ∈ own.map (·.2))
    (hg : ∀ (s : Shared) (H : Hp) (C : Addr) (cl : List (Str × Addr)) (fp : List Addr), PG (X.blk s H scope (compEnvC scope cl C X.env) fp) tg (t.tg X.K))
    (he : ∀ (s : Shared) (H : Hp) (C : Addr) (cl : List (Str × Addr)) (fp : List Addr), PE (X.blk s H scope (compEnvC scope cl C X.env) fp) elt (rdE G W0 ml)) (hs : ∀ x, foldedSetIterable iter X.env x = pure x := by intro _; rfl) :
    PE X (.ListComp elt [⟨tg, iter, [], 0⟩] scope pos) (rdE G W (eLc mi t (own.map (·.2)) tYesM ml)) :=
  PE.imp' (pe_lc hc hN hi ok hg (fun _ _ _ _ _ => pts_nil) he hs) (lc_rd hG _ hsl yes_rd)
theorem me_lc1 (hG : G.K = X.K) (hc : X.calm = true) (hN : X.N.Nodup) (hi : PI X tg iter (rdI G W mi)) (ok : BlkOk X.N X.env.scope scope own) (hsl : ∀ j ∈ t.slots, j ∈ own.map (·.2))
    (hg : ∀ (s : Shared) (H : Hp) (C : Addr) (cl : List (Str × Addr)) (fp : List Addr), PG (X.blk s H scope (compEnvC scope cl C X.env) fp) tg (t.tg X.K))
    (ht : ∀ (s : Shared) (H : Hp) (C : Addr) (cl : List (Str × Addr)) (fp : List Addr), PT (X.blk s H scope (compEnvC scope cl C X.env) fp) c (rdT G W0 mt))
    (he : ∀ (s : Shared) (H : Hp) (C : Addr) (cl : List (Str × Addr)) (fp : List Addr), PE (X.blk s H scope (compEnvC scope cl C X.env) fp) elt (rdE G W0 ml)) (hs : ∀ x, foldedSetIterable iter X.env x = pure x := by intro _; rfl) :
    PE X (.ListComp elt [⟨tg, iter, [c], 0⟩] scope pos) (rdE G W (eLc mi t (own.map (·.2)) mt ml)) :=
  PE.imp' (pe_lc hc hN hi ok hg (fun s H C cl fp => pts_one (ht s H C cl fp)) he hs) (lc_rd hG _ hsl fun _ _ _ z => z)
def eErr : ME := fun _ _ => .err
def sErr : MS := fun _ _ => .err
def tErr : MT := fun _ _ => .err
end
end ML
end
section
namespace ML
open PySem L2
def eNeg (a : ME) : ME := fun σ h => (a σ h).bind fun v h1 => match v with
  | .int i => .ok (.int (-i)) h1
  | _ => .err
abbrev MO := Sg → Hi → Res (Option Int)
def oNo : MO := fun _ h => .ok none h
def oSome (e : ME) : MO := fun σ h => (e σ h).bind fun v h1 => match v with
  | .int i => .ok (some i) h1
  | _ => .err
def sIxI (n d : Nat) : Option Int → Nat
  | none => d
  | some v => if v < 0 then (v + (n : Int)).toNat else Nat.min v.toNat n
def cutI (xs : List VI) (lo hi : Option Int) : List VI := (xs.drop (sIxI xs.length 0 lo)).take (sIxI xs.length xs.length hi - sIxI xs.length 0 lo)
def sliceM (x : VI) (lo hi : Option Int) (h : Hi) : Option (VI × Hi) := match x with
  | .tup xs => some (.tup (cutI xs lo hi), h)
  | .ref n => match h[n]? with
    | some (.lst xs) => some (.ref h.length, h ++ [.lst (cutI xs lo hi)])
    | some (.scr xs) => some (.ref h.length, h ++ [.lst (cutI xs lo hi)])
    | _ => none
  | _ => none
def eSl (e : ME) (lo hi : MO) : ME := fun σ h => (e σ h).bind fun x h1 => (lo σ h1).bind fun l h2 => (hi σ h2).bind fun u h3 => ofO (sliceM x l u h3)
section
variable {G : Gx} {ρ : List Addr} {h : Hi} {H : Hp} {W : WX} {X : Cx} {e a b c o i v : Expr} {lo hi : Option Expr} {es : List Expr} {pos p p2 pos' apos cpos : Pos} {me mi mo ma mb mv : ME} {ml mh : MO} {mr : MA}
theorem me_neg (ha : PE X a (rdE G W ma)) : PE X (.UnaryOp .USub a pos) (rdE G W (eNeg ma)) :=
  PE.imp' (pe_un un_neg ha) fun σ H Q ⟨ρ, σi, h, as, ag, fin⟩ => rdG_go as ag fin fun ρ1 H1 h1 x x' st as ag r f => by
    cases r with
    | int i => exact ⟨i, rfl, f.ok ag (.int _)⟩
    | _ => exact f.elim
theorem PO.imp' {e : Option Expr} {t t' : TO} (h : PO X e t) (i : ∀ σ H Q, t' σ H Q → t σ H Q) : PO X e t' := ⟨fun pins s σ H Q I q => h.run pins s σ H Q I (i σ H Q q)⟩
theorem sIxI_eq (n d : Nat) (o : Option Int) : sIxI n d o = HT.sIx n d o := by cases o <;> rfl
theorem RVs.cut {xs : List VI} {ys : List V} (r : RVs G ρ H xs ys) (lo hi : Option Int) : RVs G ρ H (cutI xs lo hi) (cutV ys lo hi) := by
  unfold cutI cutV
  rw [sIxI_eq, sIxI_eq, r.length]
  exact (r.drop _).take _
end
inductive Knd where
  | lst | dic | str
def Knd.ty : Knd → String
  | .lst => "list"
  | .dic => "dict"
  | .str => "str"
def kOk (k : Knd) (v : VI) (h : Hi) : Bool := match v with
  | .str _ => match k with | .str => true | _ => false
  | .ref n => match h[n]? with
    | some (.lst _) => match k with | .lst => true | _ => false
    | some (.scr _) => match k with | .lst => true | _ => false
    | some (.dic _) => match k with | .dic => true | _ => false
    | _ => false
  | _ => false
abbrev OpM := VI → List VI → Hi → Option (VI × Hi)
def eBM (k : Knd) (f : OpM) (o : ME) (ma : MA) : ME := fun σ h => (o σ h).bind fun x h1 => match kOk k x h1 with
  | true => (ma σ h1).bind fun vs h2 => ofO (f x vs h2)
  | false => .err
def mAppend : OpM := fun x vs h => match x with
  | .ref n => match h[n]? with
    | some (.lst xs) => match vs with
      | [y] => match small (xs.length + 1) with
        | true => some (.non, h.set n (.lst (xs ++ [y])))
        | false => none
      | _ => none
    | _ => none
  | _ => none
def mExtend : OpM := fun x vs h => match x with
  | .ref n => match h[n]? with
    | some (.lst xs) => match vs with
      | [.ref m] => match h[m]? with
        | some (.lst ys) => match small (xs.length + ys.length) with
          | true => some (.non, h.set n (.lst (xs ++ ys)))
          | false => none
        | _ => none
      | _ => none
    | _ => none
  | _ => none
def mPop : OpM := fun x vs h => match x with
  | .ref n => match h[n]? with
    | some (.lst xs) => match vs with
      | [] => match xs[xs.length - 1]? with
        | some y => some (y, h.set n (.lst xs.dropLast))
        | none => none
      | _ => none
    | _ => none
  | _ => none
section
variable {G : Gx} {ρ : List Addr} {h : Hi} {H : Hp} {W : WX} {X : Cx} {e a b c o i v : Expr} {es : List Expr} {pos p pos' apos cpos : Pos} {me mi mo ma mb mv : ME} {mr : MA} {k : Knd} {f : OpM} {name : Str} {id T : String}
theorem RVs.dropLast {xs : List VI} {ys : List V} (r : RVs G ρ H xs ys) : RVs G ρ H xs.dropLast ys.dropLast := by
  rw [List.dropLast_eq_take, List.dropLast_eq_take, r.length]
  exact r.take _
end
def flI : VI → Bool
  | .non => true
  | .bl _ => true
  | .int _ => true
  | .str _ => true
  | _ => false
def b2i (b : Bool) : Int := match b with
  | true => 1
  | false => 0
def eqI : VI → VI → Bool
  | .non, .non => true
  | .bl a, .bl b => a == b
  | .bl a, .int b => decide (b2i a = b)
  | .int a, .bl b => decide (a = b2i b)
  | .int a, .int b => decide (a = b)
  | .str a, .str b => decide (a = b)
  | _, _ => false
def inI (x : VI) : List VI → Bool
  | [] => false
  | y :: r => match eqI y x with
    | true => true
    | false => inI x r
def alF : List VI → Bool
  | [] => true
  | y :: r => match flI y with
    | true => alF r
    | false => false
def inDl (h : Hi) (x : VI) (ys : List VI) : Option Bool := match dat 66 h x, datL (dat 65 h) ys with
  | some d, some ds => match SeqAt.shaped d && SeqAt.shaped (.list ds) with
    | true => some (ds.any fun z => PyData.eqv z d)
    | false => none
  | _, _ => none
def inM (x y : VI) (h : Hi) : Option Bool := match y with
  | .tup ys => match flI x && alF ys with
    | true => some (inI x ys)
    | false => none
  | .ref n => match h[n]? with
    | some (.lst ys) => match flI x && alF ys with
      | true => some (inI x ys)
      | false => inDl h x ys
    | some (.scr ys) => match flI x && alF ys with
      | true => some (inI x ys)
      | false => inDl h x ys
    | some (.dic kvs) => match isKey x with
      | true => some (match getD x kvs with | some _ => true | none => false)
      | false => none
    | _ => none
  | _ => none
def fIn : Op2 := fun x y h => match inM x y h with
  | some b => some (.bl b, h)
  | none => none
def fNotIn : Op2 := fun x y h => match inM x y h with
  | some b => some (.bl (!b), h)
  | none => none
section
variable {G : Gx} {ρ : List Addr} {h : Hi} {H : Hp} {X : Cx}
theorem RV.flat {v : VI} {x : V} (r : RV G ρ H v x) (e : flI v = true) : flatV x = true := by cases r <;> first | rfl | cases e
theorem RV.eqI {v w : VI} {x y : V} (r : RV G ρ H v x) (r2 : RV G ρ H w y) (e : flI v = true) (e2 : flI w = true) : ML.eqI v w = eqV x y := by
  cases r with
  | non => cases r2 <;> first | rfl | cases e2
  | bl b => cases r2 <;> first | rfl | (cases b <;> rfl) | cases e2
  | int i =>
    cases r2 with
    | bl b => cases b <;> rfl
    | _ => first | rfl | cases e2
  | @str s1 _ q =>
    cases r2 with
    | @str s2 _ q2 =>
      subst q q2
      show decide (s1 = s2) = (toStr s1 == toStr s2)
      by_cases z : s1 = s2
      · subst z; simp
      · rw [decide_eq_false z, beq_eq_false_iff_ne.mpr fun w => z (toStr_inj w)]
    | _ => first | rfl | cases e2
  | _ => cases e
theorem RVs.flats : ∀ {vs : List VI} {xs : List V}, RVs G ρ H vs xs → alF vs = true → xs.all flatV = true
  | _, _, .nil, _ => rfl
  | _, _, .cons (v := v) r t, e => by
    unfold alF at e
    cases q : flI v with
    | false => rw [q] at e; cases e
    | true =>
      rw [q] at e
      rw [List.all_cons, r.flat q, t.flats e]
      rfl
theorem RVs.inI {w : VI} {y : V} (r2 : RV G ρ H w y) (e2 : flI w = true) : ∀ {vs : List VI} {xs : List V}, RVs G ρ H vs xs → alF vs = true → ML.inI w vs = inV y xs
  | _, _, .nil, _ => rfl
  | _, _, .cons (v := v) (x := x) (xs := xs) r t, e => by
    unfold alF at e
    cases q : flI v with
    | false => rw [q] at e; cases e
    | true =>
      rw [q] at e
      unfold ML.inI
      rw [r.eqI r2 q e2]
      show _ = (List.any (x :: xs) fun z => eqV z y)
      rw [List.any_cons]
      cases eqV x y with
      | true => rfl
      | false => rw [Bool.false_or]; exact RVs.inI r2 e2 t e
theorem in_kind (hG : G.K = X.K) (hu : X.A.units + 65 < cLine) {neg : Bool} {op : CmpOp} {xi yi : VI} {x y : V} {Q : VK} (ag : Ag G ρ h H) (r1 : RV G ρ H xi x) (r2 : RV G ρ H yi y)
    (h1 : OpR X (compareOp op) (rIn X.K neg)) (h2 : OpR X (compareOp op) (fun x y H Q => ∃ d ds, Dp X.K H x d ∧ Dp X.K H y (.list ds) ∧ SeqAt.shaped d = true ∧ SeqAt.shaped (.list ds) = true ∧ Q (.bl (if neg then !(ds.any fun z => PyData.eqv z d) else ds.any fun z => PyData.eqv z d)) H))
    (h3 : OpR X (compareOp op) (fun y x H Q => ∃ a o, x = .ref a ∧ DGet H a y o ∧ Q (.bl (if neg then !o.isSome else o.isSome)) H))
    (fi : FinO G ρ H (RV G) Q (match inM xi yi h with | some b => some (VI.bl (if neg then !b else b), h) | none => none)) : ∃ r : R2, OpR X (compareOp op) r ∧ r x y H Q := by
  unfold inM at fi
  have lst : ∀ {ys : List VI} {zs : List V} {a : Addr}, RVs G ρ H ys zs → SqL G.K H a zs → FinO G ρ H (RV G) Q (match (match flI xi && alF ys with | true => some (inI xi ys) | false => inDl h xi ys) with | some b => some (VI.bl (if neg then !b else b), h) | none => none) → ∃ r : R2, OpR X (compareOp op) r ∧ r x (.ref a) H Q := by
    intro ys zs a rs sq fi
    cases q : flI xi && alF ys with
    | true =>
      rw [q] at fi
      obtain ⟨q1, q2⟩ := Bool.and_eq_true_iff.mp q
      exact ⟨_, h1, a, zs, rfl, .inl (hG ▸ sq), r1.flat q1, rs.flats q2, by rw [← rs.inI r1 q1 q2]; exact fi.ok ag (.bl _)⟩
    | false =>
      rw [q] at fi
      dsimp only at fi
      unfold inDl at fi
      cases e1 : dat 66 h xi with
      | none => rw [e1] at fi; exact fi.elim
      | some d =>
        cases e2 : datL (dat 65 h) ys with
        | none => rw [e1, e2] at fi; exact fi.elim
        | some ds =>
          rw [e1, e2] at fi
          dsimp only at fi
          cases z : SeqAt.shaped d && SeqAt.shaped (.list ds) with
          | false => rw [z] at fi; exact fi.elim
          | true =>
            rw [z] at fi
            obtain ⟨z1, z2⟩ := Bool.and_eq_true_iff.mp z
            exact ⟨_, h2, d, ds, hG ▸ dat_ok ag _ _ _ _ r1 e1, hG ▸ .lst sq (datL_ok (fun v x d => dat_ok ag 65 v x d) rs e2), z1, z2, fi.ok ag (.bl _)⟩
  cases r2 with
  | @tup xs ys a t1 s1 =>
    dsimp only at fi
    cases q : flI xi && alF xs with
    | false => rw [q] at fi; exact fi.elim
    | true =>
      rw [q] at fi
      obtain ⟨q1, q2⟩ := Bool.and_eq_true_iff.mp q
      exact ⟨_, h1, a, ys, rfl, .inr (hG ▸ t1), r1.flat q1, s1.flats q2, by rw [← s1.inI r1 q1 q2]; exact fi.ok ag (.bl _)⟩
  | @ref n a e =>
    dsimp only at fi
    cases q1 : h[n]? with
    | none => rw [q1] at fi; exact fi.elim
    | some ob =>
      rw [q1] at fi
      cases ob with
      | lst xs =>
        obtain ⟨ys, hy, rs⟩ := ag.at_ q1 e
        exact lst rs (.inl (.inl hy)) fi
      | scr xs =>
        obtain ⟨ob, ys, hy, rs⟩ := ag.at_ q1 e
        exact lst rs (.inl (.inr ⟨_, hy⟩)) fi
      | dic kvs =>
        obtain ⟨ks, hy, rs⟩ := ag.at_ q1 e
        dsimp only at fi
        cases q2 : isKey xi with
        | false => rw [q2] at fi; exact fi.elim
        | true =>
          rw [q2] at fi
          obtain ⟨k, rk, ey⟩ := r1.key q2
          subst ey
          have gd := rs.getD rk
          refine ⟨_, h3, a, _, rfl, DGet.k hy, ?_⟩
          cases q3 : getD xi kvs with
          | none => rw [q3] at gd fi; rw [gd]; exact fi.ok ag (.bl _)
          | some w =>
            rw [q3] at gd fi
            obtain ⟨z, hz, _⟩ := gd
            rw [hz]
            exact fi.ok ag (.bl _)
      | _ => exact fi.elim
  | _ => exact fi.elim
theorem op_dNotIn (hu : X.A.units + 1 < cLine) : OpR X (compareOp .NotIn) (fun y x H Q => ∃ a o, x = .ref a ∧ DGet H a y o ∧ Q (.bl (!o.isSome)) H) := by
  intro pins s σ H y x v u Q I ry rx ⟨a, ov, ex, g, q⟩
  subst ex
  obtain rfl : u = Value.ref a := rx
  exact d_notIn hu I g ry fun s3 I3 => ⟨.bl (!ov.isSome), H, I3, rfl, q⟩
theorem mo_notIn (hG : G.K = X.K) (hu : X.A.units + 65 < cLine) : OpR X (compareOp .NotIn) (rd2 G fNotIn) := opR_at fun ρ h H xi yi x y Q ag r1 r2 f =>
  in_kind (neg := true) hG hu ag r1 r2 op_notIn_seq (op_notInD hu) (op_dNotIn (by omega)) (by unfold fNotIn at f; cases q : inM xi yi h <;> rw [q] at f <;> exact f)
end
end ML
end
section
namespace ML
open PySem L2
structure IsT where
  non : Option Bool
  bl : Option Bool
  int : Option Bool
  str : Option Bool
  lst : Option Bool
  tup : Option Bool
  dic : Option Bool
  ins : Nat → Option Bool
def isT (T : IsT) (v : VI) (h : Hi) : Option Bool := match v with
  | .non => T.non
  | .bl _ => T.bl
  | .int _ => T.int
  | .str _ => T.str
  | .tup _ => T.tup
  | .ref n => match h[n]? with
    | some (.lst _) => T.lst
    | some (.scr _) => T.lst
    | some (.dic _) => T.dic
    | some (.ins c _) => T.ins c
    | _ => none
  | _ => none
def eIsi (T : IsT) (e : ME) : ME := fun σ h => (e σ h).bind fun v h1 => match isT T v h1 with
  | some b => .ok (.bl b) h1
  | none => .err
structure IsOk (K : PySem.W.Frag) (G : Gx) (us : List Value) (T : IsT) : Prop where
  non : ∀ b, T.non = some b → PySem.W.kitAny K (.type "NoneType") us = some b
  bl : ∀ b, T.bl = some b → PySem.W.kitAny K (.type "bool") us = some b
  int : ∀ b, T.int = some b → PySem.W.kitAny K (.type "int") us = some b
  str : ∀ b, T.str = some b → PySem.W.kitAny K (.type "str") us = some b
  lst : ∀ b, T.lst = some b → PySem.W.kitAny K (.type "list") us = some b
  tup : ∀ b, T.tup = some b → PySem.W.kitAny K (.type "tuple") us = some b
  dic : ∀ b, T.dic = some b → PySem.W.kitAny K (.type "dict") us = some b
  ins : ∀ c C b, T.ins c = some b → G.ct c = some C → Cls K C ∧ PySem.W.findIn K (.ref C) "__class__" = some (some (.builtin "object.__class__")) ∧ PySem.W.mroIn K C (.type "object") = some true ∧ PySem.W.kitAny K (.ref C) us = some b
  gs : PySem.W.specialIn K (.builtin "object.__class__") "__get__" = some (some (.builtin "getset_descriptor.__get__"))
  tk : PySem.W.takesIn K (.builtin "object.__class__") = some true
section
variable {G : Gx} {ρ : List Addr} {h : Hi} {H : Hp} {W : WX} {X : Cx} {e a b c o i v : Expr} {es : List Expr} {pos p p2 pos' apos cpos tpos : Pos} {me mi mo ma mb mv : ME} {mr : MA} {T : IsT} {us : List Value} {k : Nat}
theorem kit_one {K : PySem.W.Frag} {t u : Value} {b : Bool} (h : PySem.W.kitAny K t [u] = some b) : PySem.W.kitOne K t u = some b := by
  unfold PySem.W.kitAny at h
  cases q : PySem.W.kitOne K t u with
  | none => rw [q] at h; cases h
  | some z =>
    rw [q] at h
    cases z with
    | true => exact h
    | false => exact h
theorem isT_ok (hG : G.K = X.K) (ok : IsOk X.K G us T) {vi : VI} {x : V} {bb : Bool} (ag : Ag G ρ h H) (r : RV G ρ H vi x) (e : isT T vi h = some bb) : ∃ t, TyX X.K H x t ∧ PySem.W.kitAny X.K t us = some bb := by
  unfold isT at e
  cases r with
  | non => exact ⟨_, .base .non, ok.non _ e⟩
  | bl b => exact ⟨_, .base (.bl b), ok.bl _ e⟩
  | int b => exact ⟨_, .base (.int b), ok.int _ e⟩
  | str b => exact ⟨_, .base (.str _), ok.str _ e⟩
  | glo q => cases e
  | @tup xs ys a t rs =>
    refine ⟨_, ?_, ok.tup _ e⟩
    rw [hG] at t
    rcases t with (t | ⟨ob, t⟩) | ⟨o, its, n, k1, k2, _⟩
    · exact .base (.tup t)
    · exact .fTuple t
    · exact .kTuple k1 k2
  | @ref n a q =>
    dsimp only at e
    cases q1 : h[n]? with
    | none => rw [q1] at e; cases e
    | some ob =>
      rw [q1] at e
      cases ob with
      | lst xs => obtain ⟨ys, hy, rs⟩ := ag.at_ q1 q; exact ⟨_, .base (.lst hy), ok.lst _ e⟩
      | scr xs => obtain ⟨ob, ys, hy, rs⟩ := ag.at_ q1 q; exact ⟨_, .base (.frz hy), ok.lst _ e⟩
      | dic kvs => obtain ⟨ks, hy, rs⟩ := ag.at_ q1 q; exact ⟨_, .base (.dK hy), ok.dic _ e⟩
      | ins c fs =>
        obtain ⟨C, dx, gs, hc, hH, rf⟩ := insAt ag q1 q
        obtain ⟨k1, k2, k3, k4⟩ := ok.ins c C bb e hc
        exact ⟨_, .base (.ins hH k1 k2 ok.gs ok.tk k3), k4⟩
      | xd fs => cases e
theorem me_isi (hG : G.K = X.K) {cv : V} {u : Value} (ok : IsOk X.K G [u] T) (hg : Gl X "isinstance") (hm : X.mg "isinstance" = none) (he : PE X e (rdE G W me)) (hc : PE X c (tC cv)) (cl : ClsV cv u)
    (hs1 : starEach [e, c] X.env = (false, eval e X.env) :: starEach [c] X.env := by rfl) (hs2 : starEach [c] X.env = (false, eval c X.env) :: starEach [] X.env := by rfl) (hpl : (backTo pos (starEach [c] X.env)).any (·.1) = false := by rfl) :
    PE X (.Call (.Name "isinstance" p) [e, c] [] pos) (rdE G W (eIsi T me)) :=
  PE.imp' (pe_callB (r := rIsi X.K) call_isi hg hm PyProof.Rows.boot_isinstance (pa_cons he (pa_cons hc pa_nil hs2) hs1) (by decide) (by decide) hs1 hpl) fun σ H Q ⟨ρ, σi, h, as, ag, fin⟩ => rdG_go as ag fin fun ρ1 H1 h1 x x' st as ag r f => by
    cases q : isT T x h1 with
    | none => rw [q] at f; exact f.elim
    | some bb =>
      rw [q] at f
      obtain ⟨t, ty, kt⟩ := isT_ok hG ok ag r q
      exact ⟨x', cv, t, u, bb, rfl, cl, ty, kit_one kt, f.ok ag (.bl _)⟩
def tCs (cvs : List V) : TA := fun _ H Q => Q cvs H
theorem pa_c0 : PA X [] (tCs []) := pa_nil
theorem pa_c1 {cv : V} {cvs : List V} (h : PE X c (tC cv)) (t : PA X es (tCs cvs)) (hs : starEach (c :: es) X.env = (false, eval c X.env) :: starEach es X.env := by rfl) : PA X (c :: es) (tCs (cv :: cvs)) := pa_cons h t hs
theorem me_isiT (hG : G.K = X.K) {cvs : List V} (ok : IsOk X.K G us T) (hg : Gl X "isinstance") (hm : X.mg "isinstance" = none) (he : PE X e (rdE G W me)) (hc : PA X es (tCs cvs)) (cl : Paired ClsV cvs us) (hl : small cvs.length = true)
    (hs1 : starEach [e, .Tuple es k tpos] X.env = (false, eval e X.env) :: starEach [.Tuple es k tpos] X.env := by rfl) (hs2 : starEach [.Tuple es k tpos] X.env = (false, eval (.Tuple es k tpos) X.env) :: starEach [] X.env := by rfl) (hpl : (backTo pos (starEach [.Tuple es k tpos] X.env)).any (·.1) = false := by rfl) :
    PE X (.Call (.Name "isinstance" p) [e, .Tuple es k tpos] [] pos) (rdE G W (eIsi T me)) :=
  PE.imp' (pe_callB (r := rIsiT X.K) call_isiT hg hm PyProof.Rows.boot_isinstance (pa_cons he (pa_cons (pe_tup hc) pa_nil hs2) hs1) (by decide) (by decide) hs1 hpl) fun σ H Q ⟨ρ, σi, h, as, ag, fin⟩ => rdG_go as ag fin fun ρ1 H1 h1 x x' st as ag r f => by
    refine ⟨small_ok hl, fun p hp => ?_⟩
    cases q : isT T x h1 with
    | none => rw [q] at f; exact f.elim
    | some bb =>
      rw [q] at f
      have ag2 : Ag G ρ1 h1 (upd H1 p (.tup cvs)) := ag.more hp
      obtain ⟨t, ty, kt⟩ := isT_ok hG ok ag2 (r.mono (Stp.more hp)) q
      exact ⟨x', p, cvs, t, us, bb, rfl, upd_same, cl, ty, kt, f ρ1 _ _ (Stp.more hp) ag2 (.bl _)⟩
theorem pe_ty {x : Str} {n : String} (hg : Gl X x) (hm : X.mg x = none) (hv : bootBuiltins x = some (.type n)) (hn : x ≠ "__name__" := by decide) (hd : (x == ("__debug__" : Str)) = false := by decide) : PE X (.Name x pos) (tC (.ty n)) := pe_bltn hg hm hv rfl hn hd
theorem pe_cl {x : Str} {C : Addr} (hg : Gl X x) (hm : X.mg x = some (.ref C)) (hd : (x == ("__debug__" : Str)) = false := by decide) : PE X (.Name x pos) (tC (.ref C)) := pe_glob hg hm rfl hd
theorem me_glob {x : Str} {v : VI} {y : V} {u : Value} (hg : Gl X x) (hm : X.mg x = some u) (r : RelV y u) (rv : ∀ ρ H, RV G ρ H v y) (hd : (x == ("__debug__" : Str)) = false := by decide) : PE X (.Name x pos) (rdE G W (eC v)) := me_c (pe_glob hg hm r hd) rv
def eKd (tbl : S → Option VI) (b : ME) : ME := fun σ h => (b σ h).bind fun v h1 => match v with
  | .str s => match tbl s with
    | some w => .ok w h1
    | none => .err
  | _ => .err
def KdOk (X : Cx) (G : Gx) (d : Addr) (tbl : S → Option VI) : Prop := ∀ s w, tbl s = some w → ∃ x, KDct X.K X.w d (toStr s) x ∧ ∀ ρ H, RV G ρ H w x
theorem me_kd {x : Str} {d : Addr} {tbl : S → Option VI} (ok : KdOk X G d tbl) (hg : Gl X x) (hm : X.mg x = some (.ref d)) (hb : PE X b (rdE G W mb)) (hs : PlainIx b) (hd : (x == ("__debug__" : Str)) = false := by decide) : PE X (.Subscript (.Name x p) b pos) (rdE G W (eKd tbl mb)) :=
  ⟨fun pins s σ H Q I ⟨ρ, σi, h, as, ag, fin⟩ => by
    have ha : PE X (.Name x p) (tC (.ref d)) := pe_glob hg hm rfl hd
    refine PyProof.Rows.Subscript_ (binT ha hb I (R := fun x y H2 => ∃ s' w z, x = .ref d ∧ y = .str (toStr s') ∧ KDct X.K X.w d (toStr s') w ∧ w = z ∧ Q z H2) ?_ fun v u s2 x y H2 I2 rx ry q => ?_)
    · exact rdG_go as ag fin fun ρ1 H1 h1 y y' st as ag r f => by
        cases r with
        | @str s1 z e =>
          dsimp only at f
          cases q : tbl s1 with
          | none => rw [q] at f; exact f.elim
          | some w =>
            rw [q] at f
            obtain ⟨wv, k1, k2⟩ := ok s1 w q
            exact ⟨s1, wv, wv, rfl, by rw [e], k1, rfl, f.ok ag (k2 _ _)⟩
        | _ => exact f.elim
    · obtain ⟨s', w, z, e1, e2, k, rfl, q⟩ := q
      subst e1
      subst e2
      exact ix_kdict (.Name x p) b pins s2 σ H2 _ _ v u Q I2 rx ry ⟨d, toStr s', w, rfl, rfl, k, q⟩ (hs _ _)⟩
def rgI (a b : Int) : List VI := (List.range (b - a).toNat).map fun i => VI.int (a + (i : Nat))
def rgOk (a b : Int) : Bool := (decide (-(2 ^ 62) ≤ a) && decide (a < 2 ^ 62)) && ((decide (-(2 ^ 62) ≤ b) && decide (b < 2 ^ 62)) && decide ((b - a).toNat ≤ 2 ^ 24))
theorem rgOk_ok {a b : Int} (h : rgOk a b = true) : RgOk a b := by
  unfold rgOk at h
  obtain ⟨h1, h2⟩ := Bool.and_eq_true_iff.mp h
  obtain ⟨h3, h4⟩ := Bool.and_eq_true_iff.mp h1
  obtain ⟨h5, h6⟩ := Bool.and_eq_true_iff.mp h2
  obtain ⟨h7, h8⟩ := Bool.and_eq_true_iff.mp h5
  exact ⟨of_decide_eq_true h3, of_decide_eq_true h4, of_decide_eq_true h7, of_decide_eq_true h8, of_decide_eq_true h6⟩
theorem rvs_map {ρ : List Addr} {H : Hp} (f : Nat → VI) (g : Nat → V) (hfg : ∀ i, RV G ρ H (f i) (g i)) : ∀ l : List Nat, RVs G ρ H (l.map f) (l.map g)
  | [] => .nil
  | i :: r => .cons (hfg i) (rvs_map f g hfg r)
theorem rgI_ok {ρ : List Addr} {H : Hp} (a b : Int) : RVs G ρ H (rgI a b) (rgV a b) := rvs_map _ _ (fun i => .int _) _
def eTupRg (a b : ME) : ME := fun σ h => (a σ h).bind fun x h1 => (b σ h1).bind fun y h2 => match x, y with
  | .int i, .int j => match rgOk i j with
    | true => .ok (.tup (rgI i j)) h2
    | false => .err
  | _, _ => .err
def eLstRg (a b : ME) : ME := fun σ h => (a σ h).bind fun x h1 => (b σ h1).bind fun y h2 => match x, y with
  | .int i, .int j => match rgOk i j with
    | true => .ok (.ref h2.length) (h2 ++ [.lst (rgI i j)])
    | false => .err
  | _, _ => .err
def eTupRg1 (b : ME) : ME := fun σ h => (b σ h).bind fun y h2 => match y with
  | .int j => match rgOk 0 j with
    | true => .ok (.tup (rgI 0 j)) h2
    | false => .err
  | _ => .err
def eLstRg1 (b : ME) : ME := fun σ h => (b σ h).bind fun y h2 => match y with
  | .int j => match rgOk 0 j with
    | true => .ok (.ref h2.length) (h2 ++ [.lst (rgI 0 j)])
    | false => .err
  | _ => .err
theorem me_tupRg2 {rp : Pos} (hc : X.calm = true) (hg : Gl X "tuple") (hm : X.mg "tuple" = none) (hg2 : Gl X "range") (hm2 : X.mg "range" = none) (ha : PE X a (rdE G W ma)) (hb : PE X b (rdE G W mb))
    (na : starEach [a, b] X.env = (false, eval a X.env) :: starEach [b] X.env := by rfl) (nb : starEach [b] X.env = (false, eval b X.env) :: starEach [] X.env := by rfl) (hp : (backTo pos' (starEach [b] X.env)).any (·.1) = false := by rfl)
    (nr : starEach [.Call (.Name "range" rp) [a, b] [] pos'] X.env = (false, eval (.Call (.Name "range" rp) [a, b] [] pos') X.env) :: starEach [] X.env := by rfl) :
    PE X (.Call (.Name "tuple" p) [.Call (.Name "range" rp) [a, b] [] pos'] [] pos) (rdE G W (eTupRg ma mb)) :=
  PE.imp' (pe_tupRg hc hg hm (prg_2 hg2 hm2 ha hb na nb hp) nr) fun σ H Q ⟨ρ, σi, h, as, ag, fin⟩ => rdG_go as ag fin fun ρ1 H1 h1 x x' st as ag r f => rdG_go as ag f fun ρ2 H2 h2 y y' st2 as ag r2 f => by
    cases r with
    | int i =>
      cases r2 with
      | int j =>
        dsimp only at f
        cases q : rgOk i j with
        | false => rw [q] at f; exact f.elim
        | true =>
          rw [q] at f
          exact ⟨i, j, rfl, rfl, rgOk_ok q, fun p hp => f ρ2 _ _ (Stp.more hp) (ag.more hp) (.tup (.inl (.inl upd_same)) (rgI_ok i j))⟩
      | _ => exact f.elim
    | _ => exact f.elim
def eChain (f g : Op2) (a b c : ME) : ME := fun σ h => (a σ h).bind fun x h1 => (b σ h1).bind fun y h2 => (ofO (f x y h2)).bind fun z h3 => match z with
  | .bl true => (c σ h3).bind fun w h4 => ofO (g y w h4)
  | .bl false => .ok (.bl false) h3
  | _ => .err
end
section
variable {G : Gx} {W : WX} {X : Cx} {c : Expr} {body : List Stmt} {pos : Pos} {mt : MT} {mb : MS}
end
def iAdd : Op2 := fun x y h => match x, y with
  | .int i, .int j => some (.int (i + j), h)
  | _, _ => none
def iSub : Op2 := fun x y h => match x, y with
  | .int i, .int j => some (.int (i - j), h)
  | _, _ => none
def sAug (i : Nat) (f : Op2) (e : ME) : MS := fun σ h => match σ[i]? with
  | some (some x) => (e σ h).bindS σ fun y h1 => match f x y h1 with
    | some (z, h2) => .nx (σ.set i (some z)) h2
    | none => .err
  | _ => .err
section
variable {G : Gx} {ρ : List Addr} {h : Hi} {H : Hp} {W : WX} {X : Cx} {e a b o : Expr} {pos pos' : Pos} {me ma mb : ME} {i : Nat} {x : Str} {f : Op2}
end
end ML
end
section
namespace ML
open PySem L2 PyProof.Rows
def tMrg (td tk tv : TE) : TE := fun σ H Q => ∀ d, H d = none → td σ (upd H d (.dK [])) fun x H1 => ∃ a kvs, x = .ref a ∧ a ≠ d ∧ H1 d = some (.dK []) ∧ Rd H1 a (.dK kvs) ∧ kvs.length + 1 ≤ sizeLine ∧
  ∀ c, (upd H1 d (.dK (mergeK [] kvs))) c = none → tk σ (upd (upd H1 d (.dK (mergeK [] kvs))) c (.dK [])) fun y H2 => tv σ H2 fun z H3 => ∃ k kvs2, y = kV k ∧ c ≠ d ∧ H3 d = some (.dK kvs2) ∧ H3 c = some (.dK []) ∧ kvs2.length + 1 ≤ sizeLine ∧
    Q (.ref d) (upd (upd H3 c (.dK [(k, z)])) d (.dK (putK kvs2 k z)))
theorem key_nr {P : Program} {w : World} : ∀ k key, (mixKind P w).is k key = true → ∀ a, key ≠ .ref a := fun k key h a e => by
  rcases keyIs_shape h with ⟨i, t, _, e2⟩ | ⟨x, t, _, e2⟩
  · rw [e2] at e; cases e
  · rw [e2] at e; cases e
section
variable {X : Cx} {e k v : Expr} {pos : Pos} {td tk tv : TE}
theorem disp_shape (env : Env) : (evalEachOpt [none, some k] env).zip ((evalEach [e, v] env).map fun v => do let x ← v; standAt pos; pure x) =
    [(none, do let x ← eval e env; standAt pos; pure x), (some (eval k env), do let x ← eval v env; standAt pos; pure x)] := by
  first | rfl | with_unfolding_all rfl
theorem pe_mrg (hd : PE X e td) (hk : PE X k tk) (hv : PE X v tv) : PE X (.Dict [none, some k] [e, v] pos) (tMrg td tk tv) := by
  refine ⟨fun pins s σ H Q I h => ?_⟩
  rw [arm_eval_Dict, disp_shape]
  refine wpAny_bind (wpAny_standAt ?_)
  unfold dictDisplay
  simp only [List.forIn_cons, List.forIn_nil]
  refine wpAny_bind (wpAny_bind (wpAny_bind ?_))
  rw [if_pos (show (([] : List (Sem Value × Sem Value)).isEmpty = true) from rfl)]
  refine wpAny_pure ?_
  dsimp only
  refine wpAny_bind (wpAny_alloc (wpAny_bind (wpAny_holding (wpAny_bind ?_))))
  have hn := I.hok.fresh (Nat.le_refl s.heap.objs.size)
  have I1 := I.laid (a := s.heap.objs.size) (o := .dK []) (h' := s.heap.push { cls := .type "dict", data := .dict #[] }) (t' := s.toks) (fun _ _ q => Heap.get?_push_of_some _ q) (Nat.le_refl _) (dk_empty s.heap I.big)
  generalize s.heap.objs.size = d at hn I1 ⊢
  refine thn (hd.run pins _ σ _ _ I1 (h d hn)) fun m s1 ⟨x, H1, I2, rx, a, kvs, ex, ne, e1, e2, l1, q1⟩ => ?_
  subst ex
  obtain rfl : m = Value.ref a := rx
  refine wpAny_bind (wpAny_standAt (wpAny_pure ?_))
  obtain ⟨z1, low1, vs1, r1, dd1⟩ := dk_of I2.hok e1
  cases r1
  obtain ⟨z2, low2, vs2, r2, dd2⟩ := dk_rd I2.hok e2
  have len2 : vs2.length = kvs.length := (Paired.length r2).symm
  refine wpAny_bind (wpAny_onRaise (wpAny_tryCatch (wpAny_onRaise (wpAny_holding (MB.merge_two (Ne.symm ne) low2 key_nr dd1 dd2 (by rw [List.length_nil, len2]; omega) (fun z => nomatch z) fun h' D' sb => ?_)))))
  have he : ∃ q, h'.get? d = some q := let ⟨q, _, _, hq, _⟩ := D'; ⟨q, hq⟩
  have hz : (mergeK [] kvs).length ≤ sizeLine := by
    have := length_mergeK kvs []
    rw [List.length_nil] at this
    omega
  have I3 : Inv X pins σ (upd H1 d (.dK (mergeK [] kvs))) { s1 with heap := h' } := d_write I2 (by rw [e1]; exact True.intro) sb he (dk_new hz low1 (r2.merge .nil) D')
  refine wpAny_pure ?_
  dsimp only
  refine wpAny_bind ?_
  rw [if_neg (by simp)]
  refine wpAny_pure (wpAny_pure ?_)
  dsimp only
  refine wpAny_bind ?_
  rw [if_neg (by simp)]
  have hc := I3.hok.fresh (Nat.le_refl h'.objs.size)
  have I4 := I3.laid (a := h'.objs.size) (o := .dK []) (h' := h'.push { cls := .type "dict", data := .dict #[] }) (t' := s1.toks) (fun _ _ q => Heap.get?_push_of_some _ q) (Nat.le_refl _) (dk_empty h' I3.big)
  refine wpAny_bind (wpAny_holding (wpAny_subDict (knd := mixKind X.prog X.w) (by simp) ?_))
  dsimp only [List.nil_append]
  generalize h'.objs.size = c at hc I4 ⊢
  refine evalPairs_cons (thn (hk.run pins _ σ _ _ I4 (q1 c hc)) fun ku s2 ⟨y, H2, I5, ry, q2⟩ => ?_)
  refine wpAny_bind (thn (hv.run pins _ σ _ _ I5 q2) fun vu s3 ⟨z, H3, I6, rz, k0, kvs2, ey, cd, e4, e5, l2, q3⟩ => wpAny_bind (wpAny_standAt (wpAny_pure (evalPairs_nil ?_))))
  subst ey
  obtain ⟨z3, low3, vs3, r3, dd3⟩ := dk_of I6.hok e5
  cases r3
  refine ⟨[(k0, vu)], ⟨kV_is ry, rfl, True.intro⟩, dd3, fun h5 D5 sb5 => ?_⟩
  have I7 : Inv X pins σ (upd H3 c (.dK [(k0, z)])) { s3 with heap := h5, toks := s3.toks + 1 } :=
    d_write I6 (by rw [e5]; exact True.intro) sb5 (let ⟨q, _, _, hq, _⟩ := D5; ⟨q, hq⟩) (dk_new (show 1 ≤ sizeLine by decide) low3 (.cons ⟨rfl, rz⟩ .nil) D5)
  have e6 : (upd H3 c (.dK [(k0, z)])) d = some (.dK kvs2) := by rw [upd_ne (Ne.symm cd)]; exact e4
  obtain ⟨z4, low4, vs4, r4, dd4⟩ := dk_of I7.hok e6
  obtain ⟨z5, low5, vs5, r5, dd5⟩ := dk_of I7.hok (show (upd H3 c (.dK [(k0, z)])) c = some (.dK [(k0, z)]) from upd_same)
  have len4 : vs4.length = kvs2.length := (Paired.length r4).symm
  refine wpAny_bind (wpAny_onRaise (wpAny_holding (MB.merge_two (Ne.symm cd) low3 key_nr dd4 dd5 (by rw [len4, ← Paired.length r5]; exact l2) (fun z => nomatch z) fun h6 D6 sb6 => ?_)))
  have hz6 : (putK kvs2 k0 z).length ≤ sizeLine := by have := length_putK kvs2 k0 z; omega
  have I8 : Inv X pins σ (upd (upd H3 c (.dK [(k0, z)])) d (.dK (putK kvs2 k0 z))) { s3 with heap := h6, toks := s3.toks + 1 } :=
    d_write (s := { s3 with heap := h5, toks := s3.toks + 1 }) I7 (by rw [e6]; exact True.intro) sb6 (let ⟨q, _, _, hq, _⟩ := D6; ⟨q, hq⟩) (dk_new hz6 low4 (r5.merge r4) D6)
  exact wpAny_pure (wpAny_pure ⟨.ref d, _, I8, rfl, q3⟩)
end
def mrgTail (n c : Nat) (k v : ME) : ME := fun σ h2 => (k σ h2).bind fun y h3 => (v σ h3).bind fun z h4 => match isKey y, h4[n]?, h4[c]? with
  | true, some (.dic kvs2), some (.dic []) => match small (kvs2.length + 1) with
    | true => .ok (.ref n) ((h4.set c (.dic [(y, z)])).set n (.dic (putD y z kvs2)))
    | false => .err
  | _, _, _ => .err
def eMrg (e k v : ME) : ME := fun σ h => (e σ (h ++ [.dic []])).bind fun x h1 => match x with
  | .ref m => match Nat.beq m h.length, h1[h.length]?, h1[m]? with
    | false, some (.dic []), some (.dic kvs) => match small (kvs.length + 1) with
      | true => mrgTail h.length h1.length k v σ (h1.set h.length (.dic (putAll kvs [])) ++ [.dic []])
      | false => .err
    | _, _, _ => .err
  | _ => .err
section
variable {G : Gx} {ρ : List Addr} {h : Hi} {H : Hp} {W : WX} {X : Cx} {e k v : Expr} {pos : Pos} {me mk mv : ME}
theorem Ag.ne (ag : Ag G ρ h H) {m n : Nat} {a b : Addr} (hm : ρ[m]? = some a) (hn : ρ[n]? = some b) (q : m ≠ n) : a ≠ b := fun z => by
  subst z
  obtain ⟨h1, e1⟩ := List.getElem?_eq_some_iff.mp hm
  obtain ⟨h2, e2⟩ := List.getElem?_eq_some_iff.mp hn
  have pw := List.pairwise_iff_getElem.mp ag.nd
  rcases Nat.lt_trichotomy m n with l | l | l
  · exact pw m n h1 h2 l (e1.trans e2.symm)
  · exact q l
  · exact pw n m h2 h1 l (e2.trans e1.symm)
theorem me_mrg (he : PE X e (rdE G W me)) (hk : PE X k (rdE G W mk)) (hv : PE X v (rdE G W mv)) : PE X (.Dict [none, some k] [e, v] pos) (rdE G W (eMrg me mk mv)) :=
  PE.imp' (pe_mrg he hk hv) fun σ H Q ⟨ρ, σi, h, as, ag, fin⟩ d hd => by
    have st0 : Stp G ρ H (ρ ++ [d]) (upd H d (.dK [])) := Stp.new hd
    have ag0 : Ag G (ρ ++ [d]) (h ++ [.dic []]) (upd H d (.dK [])) := ag.new hd ⟨[], upd_same, .nil⟩
    have hx : (ρ ++ [d])[h.length]? = some d := by rw [← ag.len]; simp
    refine rdG_go (as.mono st0) ag0 (FinG.later st0 fin) fun ρ1 H1 h1 x x' st1 as1 ag1 r f1 => ?_
    cases r with
    | @ref m a q =>
      dsimp only at f1
      cases q1 : Nat.beq m h.length with
      | true => rw [q1] at f1; exact f1.elim
      | false =>
        cases q2 : h1[h.length]? with
        | none => rw [q1, q2] at f1; exact f1.elim
        | some ob =>
          cases q3 : h1[m]? with
          | none => rw [q1, q2, q3] at f1; cases ob with
            | dic l => cases l <;> exact f1.elim
            | _ => exact f1.elim
          | some ob3 =>
            rw [q1, q2, q3] at f1
            cases ob with
            | dic l =>
              cases l with
              | cons _ _ => exact f1.elim
              | nil =>
                cases ob3 with
                | dic kvs =>
                  dsimp only at f1
                  cases q4 : small (kvs.length + 1) with
                  | false => rw [q4] at f1; exact f1.elim
                  | true =>
                    rw [q4] at f1
                    have hd1 := st1.pre _ _ hx
                    obtain ⟨ks0, e0, r0⟩ := ag1.at_ q2 hd1
                    cases r0
                    obtain ⟨ks, e1, r1⟩ := ag1.at_ q3 q
                    have hne : m ≠ h.length := fun z => by rw [z, Nat.beq_refl] at q1; cases q1
                    refine ⟨a, ks, rfl, ag1.ne q hd1 hne, e0, .inl e1, by rw [← r1.length]; exact small_ok q4, fun c hc => ?_⟩
                    have stA : Stp G ρ1 H1 ρ1 (upd H1 d (.dK (mergeK [] ks))) := Stp.wr ag1 q2 hd1
                    have agA : Ag G ρ1 (h1.set h.length (.dic (putAll kvs []))) (upd H1 d (.dK (mergeK [] ks))) := ag1.wr q2 hd1 ⟨_, upd_same, RKs.putAll (r1.mono stA) .nil⟩
                    have stB := Stp.new (G := G) (ρ := ρ1) (o := .dK []) hc
                    have agB := agA.new (u := .dic []) hc ⟨[], upd_same, .nil⟩
                    have hcB : (ρ1 ++ [c])[h1.length]? = some c := by
                      have l := agA.len
                      rw [List.length_set] at l
                      rw [← l]
                      simp
                    have f2 := FinG.later (stA.trans stB) f1
                    unfold mrgTail at f2
                    refine rdG_go ((as1.mono stA).mono stB) agB f2 fun ρ2 H2 h3 y y' st2 as2 ag2 r2 f3 => rdG_go as2 ag2 f3 fun ρ3 H3 h4 z z' st3 as3 ag3 r3 f4 => ?_
                    cases q5 : isKey y with
                    | false => rw [q5] at f4; exact f4.elim
                    | true =>
                      rw [q5] at f4
                      have st23 := st2.trans st3
                      have hd3 := st23.pre _ _ (stB.pre _ _ hd1)
                      have hc3 := st23.pre _ _ hcB
                      cases q6 : h4[h.length]? with
                      | none => rw [q6] at f4; exact f4.elim
                      | some ob6 =>
                        cases q7 : h4[h1.length]? with
                        | none => rw [q6, q7] at f4; cases ob6 <;> exact f4.elim
                        | some ob7 =>
                          rw [q6, q7] at f4
                          cases ob6 with
                          | dic kvs2 =>
                            cases ob7 with
                            | dic l7 =>
                              cases l7 with
                              | cons _ _ => exact f4.elim
                              | nil =>
                                dsimp only at f4
                                cases q8 : small (kvs2.length + 1) with
                                | false => rw [q8] at f4; exact f4.elim
                                | true =>
                                  rw [q8] at f4
                                  obtain ⟨k2, rk, ey⟩ := (r2.mono st3).key q5
                                  obtain ⟨ks2, e6, r6⟩ := ag3.at_ q6 hd3
                                  obtain ⟨ks7, e7, r7⟩ := ag3.at_ q7 hc3
                                  cases r7
                                  have cne : c ≠ d := by
                                    refine ag3.ne hc3 hd3 fun z => ?_
                                    have := (List.getElem?_eq_some_iff.mp q2).1
                                    omega
                                  refine ⟨k2, ks2, ey, cne, e6, e7, by rw [← r6.length]; exact small_ok q8, ?_⟩
                                  have stC : Stp G ρ3 H3 ρ3 (upd H3 c (.dK [(k2, z')])) := Stp.wr ag3 q7 hc3
                                  have agC : Ag G ρ3 (h4.set h1.length (.dic [(y, z)])) (upd H3 c (.dK [(k2, z')])) := ag3.wr q7 hc3 ⟨_, upd_same, .cons rk (r3.mono stC) .nil⟩
                                  have q9 : (h4.set h1.length (.dic [(y, z)]))[h.length]? = some (.dic kvs2) := by
                                    rw [List.getElem?_set_ne]
                                    · exact q6
                                    · have := (List.getElem?_eq_some_iff.mp q2).1
                                      omega
                                  have stD : Stp G ρ3 (upd H3 c (.dK [(k2, z')])) ρ3 (upd (upd H3 c (.dK [(k2, z')])) d (.dK (putK ks2 k2 z'))) := Stp.wr agC q9 hd3
                                  have agD := agC.wr (u' := .dic (putD y z kvs2)) (o := .dK (putK ks2 k2 z')) q9 hd3 ⟨_, upd_same, RKs.putD rk ((r3.mono stC).mono stD) ((r6.mono stC).mono stD)⟩
                                  exact f4 ρ3 _ _ (stC.trans stD) agD (.ref hd3)
                            | _ => exact f4.elim
                          | _ => exact f4.elim
                | _ => exact f1.elim
            | _ => exact f1.elim
    | _ => exact f1.elim
end
end ML
end
section
namespace ML
open PySem L2 PyProof.Rows
structure FnP (X : Cx) (G : Gx) (k : Nat) (f : Addr) (fd : FuncData) (ps : List Str) (g : MF) : Prop where
  ok : FnOk X.prog X.w X.K X.mg X.base (L2.CX X.prog X.w) k f fd ps (spM G ps.length g)
  ar : Arity ps.length g
  room : Room (k + 2) X.A
def CallAt (X : Cx) (A : Around) (G : Gx) (W : WX) (fv : Value) (g : MF) : Prop :=
  ∀ (pins : List (Addr × Obj)) (s : Shared) (σ : L2.St) (H : Hp) (us : List Value) (vs : List V) (args : List VI) (ρ : List Addr) (h : Hi) (Q : VK), Inv X pins σ H s → Vals vs us → RVs G ρ H args vs → Ag G ρ h H →
    FinG G ρ H (RV G) Q (fun c d H' => W c d σ H') (g args h) → wpAny (model X.prog X.w) A (call fv us) (EP X pins σ Q) X.xe s
section
variable {G : Gx} {W : WX} {X : Cx} {A : Around} {ρ : List Addr} {h : Hi} {H : Hp} {σ : L2.St} {k np : Nat} {f C : Addr} {fd : FuncData} {ps : List Str} {g : MF}
theorem env0_at (e : Env0 X.prog X.w X.K X.mg X.base X.A X.stack s H) (fr : A.frames = X.A.frames) : Env0 X.prog X.w X.K X.mg X.base A X.stack s H := ⟨by rw [fr]; exact e.frames, e.mod, e.bs, e.bsz, e.funs, e.frf, e.hok, e.bare⟩
theorem callAt_of (F : FnOk X.prog X.w X.K X.mg X.base (L2.CX X.prog X.w) k f fd ps (spM G ps.length g)) (ar : Arity ps.length g) (hr : Room k A) (fr : A.frames = X.A.frames) (hb : Binds X.K fd ps []) (tk : Takes X W) : CallAt X A G W (.ref f) g := by
  intro pins s σ H us vs args ρ h Q I r ra ag fin
  by_cases hl : args.length = ps.length
  · have hsp : spM G ps.length g vs H Q (WE W σ) := ⟨ρ, h, args, hl, ag, ra, fin⟩
    have lu : us.length = ps.length := by rw [← r.length, ← ra.length]; exact hl
    have b := hb s us I.kIn (by rw [List.append_nil]; exact lu)
    rw [List.append_nil] at b
    refine wpAny_call (codeAny_mono (F.run _ _ s H ⟨us, []⟩ us vs Q (WE W σ) hr (env0_at I.env0 fr) b r hsp) fun res s' hq => ?_)
    match res, hq with
    | .error e, hq => exact passAt tk σ pins H s e s' I hq
    | .ok (.ret u), hq => exact I.after hq
  · rw [ar args h hl] at fin
    exact fin.elim
theorem FnP.call (F : FnP X G k f fd ps g) (hb : Binds X.K fd ps []) (tk : Takes X W) : CallM X G W (.ref f) g := callM_fn F.ok F.ar (F.room.mono (by omega)) hb tk
theorem FnP.at0 (F : FnP X G k f fd ps g) (hb : Binds X.K fd ps []) (tk : Takes X W) : CallAt X X.A G W (.ref f) g := callAt_of F.ok F.ar (F.room.mono (by omega)) rfl hb tk
theorem FnP.at1 (F : FnP X G k f fd ps g) (hb : Binds X.K fd ps []) (tk : Takes X W) : CallAt X X.A.in1 G W (.ref f) g := callAt_of F.ok F.ar ((F.room.mono (show k + 1 ≤ k + 2 by omega)).in1) rfl hb tk
end
structure Bnd (G : Gx) (K : PySem.W.Frag) (fd : FuncData) (ps : List Str) (n : Nat) (ks : List Str) (arr : List VI → List VI → List VI) : Prop where
  ex : ∃ (gu : List Value → List Value → List Value) (gV : List V → List V → List V), KBn K fd ps n ks gu gV ∧
    ∀ (ρ : List Addr) (H : Hp) (args zargs : List VI) (vs zs : List V), RVs G ρ H args vs → RVs G ρ H zargs zs → args.length = n → zargs.length = ks.length → RVs G ρ H (arr args zargs) (gV vs zs)
abbrev MK := List VI → List VI → Hi → Res VI
def CallK (X : Cx) (G : Gx) (W : WX) (fv : Value) (n : Nat) (ks : List Str) (g : MK) : Prop :=
  ∀ (pins : List (Addr × Obj)) (s : Shared) (σ : L2.St) (H : Hp) (us ws : List Value) (vs zs : List V) (args zargs : List VI) (ρ : List Addr) (h : Hi) (Q : VK), Inv X pins σ H s → Vals vs us → Vals zs ws → RVs G ρ H args vs → RVs G ρ H zargs zs → Ag G ρ h H →
    args.length = n → zargs.length = ks.length → FinG G ρ H (RV G) Q (fun c d H' => W c d σ H') (g args zargs h) → wpAny (model X.prog X.w) X.A (call fv us (ks.zip ws)) (EP X pins σ Q) X.xe s
def fnK (g : MF) (arr : List VI → List VI → List VI) : MK := fun vs zs h => g (arr vs zs) h
def mkK (c : Nat) (g : MF) (arr : List VI → List VI → List VI) : MK := fun vs zs h => match g (arr (.ref h.length :: vs) zs) (h ++ [.ins c []]) with
  | .ok .non h2 => .ok (.ref h.length) h2
  | .ex c n h2 => .ex c n h2
  | _ => .err
def eCallK (n m : Nat) (g : MK) (ma mk : MA) : ME := fun σ h => (ma σ h).bind fun vs h1 => (mk σ h1).bind fun zs h2 => match Nat.beq vs.length n && Nat.beq zs.length m with
  | true => g vs zs h2
  | false => .err
section
variable {G : Gx} {W : WX} {X : Cx} {A : Around} {ρ : List Addr} {h : Hi} {H : Hp} {σ : L2.St} {k n : Nat} {f C : Addr} {fd : FuncData} {ps ks : List Str} {g : MF} {gk : MK} {arr : List VI → List VI → List VI} {x : Str} {p pos kpos : Pos} {e : Expr} {es : List Expr} {kws : List Keyword} {ma mk : MA} {me : ME} {nm : Option Str} {fv : Value}
theorem mk_nil : PK X [] (rdA G W aNil) := ⟨fun pos pins s σ H Q I ⟨ρ, σi, h, as, ag, f⟩ => pk_nil.run pos pins s σ H Q I (f.ok ag .nil)⟩
theorem mk_cons (ha : PE X e (rdE G W me)) (hr : PK X kws (rdA G W mk)) : PK X (⟨nm, e, kpos⟩ :: kws) (rdA G W (aCons me mk)) :=
  ⟨fun pos pins s σ H Q I ⟨ρ, σi, h, as, ag, f⟩ => (pk_cons ha hr).run pos pins s σ H Q I (rdG_go as ag f fun ρ1 H1 h1 x y st as ag r f => rdG_go as ag f fun ρ2 H2 h2 xs ys st2 as ag rs f => f.ok ag (.cons (r.mono st2) rs))⟩
theorem callK_make {c : Nat} (M : Mk X.K C f) (hc : G.ct c = some C) (F : FnP X G k f fd ps g) (hb : Bnd G X.K fd ps (n + 1) ks arr) (tk : Takes X W) : CallK X G W (.ref C) n ks (mkK c g arr) := by
  intro pins s σ H us ws vs zs args zargs ρ h Q I r rz ra rza ag l1 l2 fin
  obtain ⟨gu, gV, kb, hrel⟩ := hb.ex
  have n0 : H (s.heap.objs.size + 1) = none := I.hok.fresh (Nat.le_succ _)
  have n1 : H s.heap.objs.size = none := I.hok.fresh (Nat.le_refl _)
  have ne : s.heap.objs.size ≠ s.heap.objs.size + 1 := Nat.ne_of_lt (Nat.lt_succ_self _)
  have I2 := L2.Inv.made (C := C) I
  have st1 : Stp G ρ H ρ (upd H s.heap.objs.size (.own (s.heap.objs.size + 1))) := Stp.more n1
  have a1 : Ag G ρ h (upd H s.heap.objs.size (.own (s.heap.objs.size + 1))) := ag.more n1
  have n2 : upd H s.heap.objs.size (.own (s.heap.objs.size + 1)) (s.heap.objs.size + 1) = none := by rw [upd_ne ne.symm]; exact n0
  have st2 := Stp.new (G := G) (ρ := ρ) (o := .ins C s.heap.objs.size []) n2
  have a2 := a1.new (o := .ins C s.heap.objs.size []) (u := .ins c []) n2 ⟨C, s.heap.objs.size, [], hc, upd_same, .nil⟩
  have st := st1.trans st2
  have hx : (ρ ++ [s.heap.objs.size + 1])[h.length]? = some (s.heap.objs.size + 1) := by rw [← ag.len]; simp
  have rA := hrel _ _ (VI.ref h.length :: args) zargs (V.ref (s.heap.objs.size + 1) :: vs) zs (.cons (.ref hx) (ra.mono st)) (rza.mono st) (by rw [List.length_cons, l1]) l2
  unfold mkK at fin
  by_cases hl : (arr (VI.ref h.length :: args) zargs).length = ps.length
  · have hsp : spM G ps.length g (gV (.ref (s.heap.objs.size + 1) :: vs) zs) (upd (upd H s.heap.objs.size (.own (s.heap.objs.size + 1))) (s.heap.objs.size + 1) (.ins C s.heap.objs.size [])) (fun v H2 => v = .non ∧ Q (.ref (s.heap.objs.size + 1)) H2) (WE W σ) := by
      refine ⟨_, _, _, hl, a2, rA, ?_⟩
      cases q : g (arr (.ref h.length :: args) zargs) (h ++ [.ins c []]) with
      | err => rw [q] at fin; exact fin.elim
      | ex c' n h2 => rw [q] at fin; exact fun ρ' H' d C' s a hn hc => fin ρ' H' d C' (st.trans s) a hn hc
      | ok v h2 =>
        rw [q] at fin
        cases v with
        | non =>
          exact fun ρ' H' x s a rx => by
            cases rx
            exact ⟨rfl, fin ρ' H' _ (st.trans s) a (.ref (s.pre _ _ hx))⟩
        | _ => exact fin.elim
    have r1 : Vals (V.ref (s.heap.objs.size + 1) :: vs) (Value.ref (s.heap.objs.size + 1) :: us) := .cons rfl r
    have lu : (Value.ref (s.heap.objs.size + 1) :: us).length = n + 1 := by rw [List.length_cons, ← r.length, ← ra.length, l1]
    have lw : ws.length = ks.length := by rw [← rz.length, ← rza.length]; exact l2
    have hr : Room (k + 1) X.A := F.room.mono (by omega)
    refine wpAny_call (make_map (f := f) I.kIn M.makes M.init (beq_iff_eq.mp M.fn) (codeAny_mono (F.ok.run _ _ _ _ ⟨Value.ref (s.heap.objs.size + 1) :: us, ks.zip ws⟩ _ _ _ (WE W σ) (hr.make C us (ks.zip ws)) (I2.env0.make C us (ks.zip ws)) (kb.to _ _ ws I2.kIn lu lw) (kb.rel r1 rz) hsp) fun res s' hq => ?_))
    match res, hq with
    | .error e, hq => exact passAt tk σ pins _ _ e s' I2 hq
    | .ok (.ret u), hq =>
      obtain ⟨v, H', I3, rv, ev, q3⟩ := I2.after hq
      subst ev
      exact ⟨rv, ⟨V.ref (s.heap.objs.size + 1), H', I3, rfl, q3⟩⟩
  · rw [F.ar _ _ hl] at fin
    exact fin.elim
theorem me_callK (c : CallK X G W fv n ks gk) (hg : Gl X x) (hm : X.mg x = some fv) (hkp : PySem.W.keepIn X.K fv = true) (ha : PA X (e :: es) (rdA G W ma)) (hkw : PK X kws (rdA G W mk))
    (hall : (backToKw pos (keywordEach kws X.env)).all (·.1.isSome) = true := by rfl) (hks : (backToKw pos (keywordEach kws X.env)).filterMap (·.1) = ks := by rfl) (hdb : (x == ("__debug__" : Str)) = false := by decide)
    (he : starEach (e :: es) X.env = (false, eval e X.env) :: starEach es X.env := by rfl) (hpl : ((backTo pos (starEach (e :: es) X.env)).any (·.1) || (backToKw pos (keywordEach kws X.env)).any (·.1.isNone)) = false := by rfl) :
    PE X (.Call (.Name x p) (e :: es) kws pos) (rdE G W (eCallK n ks.length gk ma mk)) := by
  refine ⟨fun pins s σ H Q I ⟨ρ, σi, h, as, ag, fin⟩ => ?_⟩
  refine wpAny_Call_Name_kw (ld_glob I hg hm ?_ hdb)
  have B : rdA G W ma σ H fun vs H1 => rdA G W mk σ H1 fun zs H2 => ∃ ρ2 h2 args zargs, RVs G ρ2 H2 args vs ∧ RVs G ρ2 H2 zargs zs ∧ Ag G ρ2 h2 H2 ∧ args.length = n ∧ zargs.length = ks.length ∧ FinG G ρ2 H2 (RV G) Q (fun c d H' => W c d σ H') (gk args zargs h2) :=
    rdG_go as ag fin fun ρ1 H1 h1 xs ys st as ag r f => rdG_go as ag f fun ρ2 H2 h2 zs ws st2 as ag rz f => by
      cases q : Nat.beq xs.length n && Nat.beq zs.length ks.length with
      | false => rw [q] at f; exact f.elim
      | true =>
        rw [q] at f
        obtain ⟨q1, q2⟩ := Bool.and_eq_true_iff.mp q
        exact ⟨ρ2, h2, xs, zs, r.mono st2, rz, ag, Nat.eq_of_beq_eq_true q1, Nat.eq_of_beq_eq_true q2, f⟩
  refine PySem.W.callWith_KW (h₀ := X.base) I.ok.mod.kin hkp hall (thn (ha.run pos pins s σ H _ I B) fun us s1 ⟨vs, H1, I1, r, q⟩ => ?_) hpl he
  refine thn (hkw.run pos pins s1 σ H1 _ I1 q) fun ws s2 ⟨zs, H2, I2, rz, ρ2, h2, args, zargs, ra, rza, ag2, l1, l2, f2⟩ => ⟨I2.kIn, ?_⟩
  rw [hks]
  exact c pins s2 σ H2 us ws vs zs args zargs ρ2 h2 Q I2 r rz ra rza ag2 l1 l2 f2
theorem me_callK0 (c : CallK X G W fv 0 ks gk) (hg : Gl X x) (hm : X.mg x = some fv) (hkp : PySem.W.keepIn X.K fv = true) (hkw : PK X kws (rdA G W mk))
    (hall : (backToKw pos (keywordEach kws X.env)).all (·.1.isSome) = true := by rfl) (hks : (backToKw pos (keywordEach kws X.env)).filterMap (·.1) = ks := by rfl) (hdb : (x == ("__debug__" : Str)) = false := by decide)
    (hpl : ((backTo pos (starEach [] X.env)).any (·.1) || (backToKw pos (keywordEach kws X.env)).any (·.1.isNone)) = false := by rfl) :
    PE X (.Call (.Name x p) [] kws pos) (rdE G W (eCallK 0 ks.length gk aNil mk)) := by
  refine ⟨fun pins s σ H Q I ⟨ρ, σi, h, as, ag, fin⟩ => ?_⟩
  refine wpAny_Call_Name_kw (ld_glob I hg hm ?_ hdb)
  have B : rdA G W mk σ H fun zs H2 => ∃ ρ2 h2 zargs, RVs G ρ2 H2 zargs zs ∧ Ag G ρ2 h2 H2 ∧ zargs.length = ks.length ∧ FinG G ρ2 H2 (RV G) Q (fun c d H' => W c d σ H') (gk [] zargs h2) :=
    rdG_go as ag (show FinG G ρ H (RV G) Q (fun c d H' => W c d σ H') ((mk _ h).bind _) from fin) fun ρ2 H2 h2 zs ws st2 as ag rz f => by
      cases q : Nat.beq ([] : List VI).length 0 && Nat.beq zs.length ks.length with
      | false => rw [q] at f; exact f.elim
      | true =>
        rw [q] at f
        obtain ⟨q1, q2⟩ := Bool.and_eq_true_iff.mp q
        exact ⟨ρ2, h2, zs, rz, ag, Nat.eq_of_beq_eq_true q2, f⟩
  refine PySem.W.callWith_KW0 (h₀ := X.base) I.ok.mod.kin hkp hall ?_ hpl
  refine thn (hkw.run pos pins s σ H _ I B) fun ws s2 ⟨zs, H2, I2, rz, ρ2, h2, zargs, rza, ag2, l2, f2⟩ => ⟨I2.kIn, ?_⟩
  rw [hks]
  exact c pins s2 σ H2 [] ws [] zs [] zargs ρ2 h2 Q I2 .nil rz .nil rza ag2 rfl l2 f2
end
end ML
end
section
namespace ML
open PySem L2 PyProof.Rows
structure SpOk (X : Cx) (A : Around) (G : Gx) (W : WX) (tbl : Nat → Option MF) (nm : Str) : Prop where
  at_ : ∀ c C g, tbl c = some g → G.ct c = some C → ∃ f, PySem.W.noSeq X.K C = true ∧ PySem.W.findIn X.K (.ref C) nm = some (some (.ref f)) ∧ PySem.W.fnIn X.K f = true ∧ PySem.W.isFn X.K (.ref f) = true ∧ CallAt X A G W (.ref f) g
def insC (x : VI) (h : Hi) : Option Nat := match x with
  | .ref n => match h[n]? with
    | some (.ins c _) => some c
    | _ => none
  | _ => none
def eIxU (tbl : Nat → Option MF) (a b : ME) : ME := fun σ h => (a σ h).bind fun x h1 => (b σ h1).bind fun y h2 => match insC x h2 with
  | some c => match tbl c with
    | some g => g [x, y] h2
    | none => .err
  | none => ofO (fIx x y h2)
section
variable {G : Gx} {ρ : List Addr} {h : Hi} {H : Hp} {W : WX} {X : Cx} {A : Around} {e a b c o i v : Expr} {es : List Expr} {pos p pos' apos : Pos} {me mi mo ma mb mv : ME} {mr : MA} {tbl : Nat → Option MF} {σ : L2.St}
theorem insC_ok {x : VI} {y : V} {cn : Nat} (ag : Ag G ρ h H) (r : RV G ρ H x y) (q : insC x h = some cn) : ∃ a C dx gs, y = .ref a ∧ G.ct cn = some C ∧ H a = some (.ins C dx gs) := by
  unfold insC at q
  cases r with
  | @ref n a e =>
    dsimp only at q
    cases q1 : h[n]? with
    | none => rw [q1] at q; cases q
    | some ob =>
      rw [q1] at q
      cases ob with
      | ins c fs =>
        cases q
        obtain ⟨C, dx, gs, hc, hH, _⟩ := insAt ag q1 e
        exact ⟨a, C, dx, gs, rfl, hc, hH⟩
      | _ => cases q
  | _ => cases q
theorem insC_look {pins : List (Addr × Obj)} {s : Shared} {a C dx : Addr} {gs : List (Str × V)} (I : Inv X pins σ H s) (hH : H a = some (.ins C dx gs)) : ∃ m, Fr X.base X.env.locals s.heap m ∧ ∃ ox od, PySem.W.InstAt s.heap a ox C od := by
  obtain ⟨mA, O, _, _, _, _⟩ := ins_get I.hok hH
  obtain ⟨od, J, _⟩ := O.look
  obtain ⟨m, hF⟩ := I.fr
  exact ⟨m, hF, _, _, J⟩
theorem me_ixU (hG : G.K = X.K) (hu : X.A.units + 1 < cLine) (sp : SpOk X X.A.in1 G W tbl "__getitem__") (ha : PE X a (rdE G W ma)) (hb : PE X b (rdE G W mb)) (hs : PlainIx b)
    (hsl : ∀ x i, subscripted b true (.ref x) i = runValue (.builtin "lifetime.subscript" ⟨[.ref x, i], []⟩) := by intros; with_unfolding_all rfl) : PE X (.Subscript a b pos) (rdE G W (eIxU tbl ma mb)) := by
  refine ⟨fun pins s σ H Q I ⟨ρ, σi, h, as, ag, fin⟩ => ?_⟩
  refine PyProof.Rows.Subscript_ (binT ha hb I (R := fun x y H2 => IxK X H2 x y Q ∨ ∃ ρ2 h2 xi yi cn g, Ag G ρ2 h2 H2 ∧ RV G ρ2 H2 xi x ∧ RV G ρ2 H2 yi y ∧ insC xi h2 = some cn ∧ tbl cn = some g ∧ FinG G ρ2 H2 (RV G) Q (fun c d H' => W c d σ H') (g [xi, yi] h2)) ?_ fun v u s2 x y H2 I2 rx ry q => ?_)
  · exact rdG_go as ag fin fun ρ1 H1 h1 x x' st as ag r f => rdG_go as ag f fun ρ2 H2 h2 y y' st2 as ag rs f => by
      cases q1 : insC x h2 with
      | none => rw [q1] at f; exact .inl (ix_kind hG ag (r.mono st2) rs (FinO.of f))
      | some cn =>
        rw [q1] at f
        dsimp only at f
        cases q2 : tbl cn with
        | none => rw [q2] at f; exact f.elim
        | some g => rw [q2] at f; exact .inr ⟨ρ2, h2, x, y, cn, g, ag, r.mono st2, rs, q1, q2, f⟩
  · rcases q with q | ⟨ρ2, h2, xi, yi, cn, g, ag2, r1, r2, q1, q2, f⟩
    · cases q with
      | ix r hr q => exact hr a b pins s2 σ H2 x y v u Q I2 rx ry q (hs _ _)
      | dict d w e g q =>
        subst e
        obtain rfl : v = Value.ref d := rx
        exact PyProof.Rows.tail_any (dict_typeIs I2 g) PySem.F.slot_dict_getitem.lookup (d_getItem hu I2 g ry fun w' s3 I3 rw' => ⟨w, H2, I3, rw', q⟩) (hs _ _)
    · obtain ⟨ad, C, dx, gs, ex, hc, hH⟩ := insC_ok ag2 r1 q1
      subst ex
      obtain rfl : v = Value.ref ad := rx
      obtain ⟨f', k1, k2, k3, k4, k5⟩ := sp.at_ cn C g q2 hc
      obtain ⟨m, hF, ox, od, J⟩ := insC_look I2 hH
      exact PySem.W.sub_K hF I2.ok.mod.kin J k2 k3 k4 (k5 pins s2 σ H2 [.ref ad, u] [.ref ad, y] [xi, yi] ρ2 h2 Q I2 (.cons rfl (.cons ry .nil)) (.cons r1 (.cons r2 .nil)) ag2 f) (hsl _ _)
end
def dropV (σ : Sg) : Res VI → RS
  | .ok _ h => .nx σ h
  | .ex c n h => .ex c n σ h
  | .err => .err
def gIxU (tbl : Nat → Option MF) (o i : ME) : MG := fun v σ h => (o σ h).bindS σ fun x h1 => (i σ h1).bindS σ fun y h2 => match insC x h2 with
  | some c => match tbl c with
    | some g => dropV σ (g [x, y, v] h2)
    | none => .err
  | none => nxO σ (putIx x y v h2)
def rdSetU (G : Gx) (W : WX) (σ : L2.St) (tbl : Nat → Option MF) : TSet := fun o i v H Q => ∃ ρ h oi ii vi, Ag G ρ h H ∧ RV G ρ H oi o ∧ RV G ρ H ii i ∧ RV G ρ H vi v ∧ match insC oi h with
  | some c => match tbl c with
    | some g => FinG G ρ H (RV G) (fun _ H' => Q H') (fun c d H' => W c d σ H') (g [oi, ii, vi] h)
    | none => False
  | none => match putIx oi ii vi h with
    | some h' => ∀ ρ' H', Stp G ρ H ρ' H' → Ag G ρ' h' H' → Q H'
    | none => False
section
variable {G : Gx} {ρ : List Addr} {h : Hi} {H : Hp} {W : WX} {X : Cx} {A : Around} {e a b c o i v : Expr} {es : List Expr} {pos p pos' apos : Pos} {me mi mo ma mb mv : ME} {mr : MA} {tbl : Nat → Option MF}
theorem mg_ixU (hu : X.A.units + 1 < cLine) (sp : SpOk X X.A G W tbl "__setitem__") (ho : PE X o (rdE G W mo)) (hi : PE X i (rdE G W mi))
    (ha : ∀ v, assign (.Subscript o i pos) X.env v = (do
      let ov ← holding [v] (eval o X.env)
      let iv ← holding [v, ov] (eval i X.env)
      standAt pos
      holding [v, ov, iv] (setItem ov iv v)
      release [v, ov, iv] []) := by intro _; rfl) : PG X (.Subscript o i pos) (rdGt G W (gIxU tbl mo mi)) := by
  refine ⟨fun pins s σ H v u Q I r ⟨ρ, σi, h, vi, as, ag, rv, f⟩ => ?_⟩
  have ps : ∀ (H' : Hp) (s' : Shared) (o i : V) (ov iv : Value) (Q' : Hp → Prop), Inv X pins σ H' s' → RelV o ov → RelV i iv → rdSetU G W σ tbl o i v H' Q' →
      wpAny (model X.prog X.w) X.A (setItem ov iv u) (fun _ s' => ∃ H', Inv X pins σ H' s' ∧ Q' H') X.xe s' := by
    intro H' s' o i ov iv Q' I' ro ri ⟨ρ2, h2, oi, ii, vi2, ag2, r1, r2, r3, q⟩
    cases q1 : insC oi h2 with
    | none =>
      rw [q1] at q
      exact set_M (G := G) hu pins s' σ H' o i v ov iv u Q' I' ro ri r ⟨ρ2, h2, oi, ii, vi2, ag2, r1, r2, r3, q⟩
    | some cn =>
      rw [q1] at q
      dsimp only at q
      cases q2 : tbl cn with
      | none => rw [q2] at q; exact q.elim
      | some g =>
        rw [q2] at q
        obtain ⟨ad, C, dx, gs, ex, hc, hH⟩ := insC_ok ag2 r1 q1
        subst ex
        obtain rfl : ov = Value.ref ad := ro
        obtain ⟨f', k1, k2, k3, k4, k5⟩ := sp.at_ cn C g q2 hc
        obtain ⟨m, hF, ox, od, J⟩ := insC_look I' hH
        refine PySem.W.ksp_setItem hF I'.ok.mod.kin J k1 k2 k4 (thn (k5 pins s' σ H' [.ref ad, iv, u] [.ref ad, i, v] [oi, ii, vi2] ρ2 h2 (fun _ H' => Q' H') I' (.cons rfl (.cons ri (.cons r .nil))) (.cons r1 (.cons r2 (.cons r3 .nil))) ag2 q) fun w s2 ⟨z, H2, I2, _, q⟩ => ⟨H2, I2, q⟩)
  have go : rdE G W mo σ H fun x H1 => rdE G W mi σ H1 fun y H2 => rdSetU G W σ tbl x y v H2 fun H3 => Q σ H3 :=
    rdS_go as ag f fun ρ1 H1 h1 x x' st as ag r1 f => rdS_go as ag f fun ρ2 H2 h2 y y' st2 as ag r2 f => ⟨ρ2, h2, x, y, vi, ag, r1.mono st2, r2, rv.mono (st.trans st2), by
      cases q1 : insC x h2 with
      | none =>
        rw [q1] at f
        dsimp only at f
        cases q : putIx x y vi h2 with
        | none => rw [q] at f; exact f
        | some h' => rw [q] at f; exact fun ρ' H' s a => f ρ' H' σ s a (as.mono s)
      | some cn =>
        rw [q1] at f
        dsimp only at f ⊢
        cases q2 : tbl cn with
        | none => rw [q2] at f; exact f
        | some g =>
          rw [q2] at f
          dsimp only at f ⊢
          cases q3 : g [x, y, vi] h2 with
          | err => rw [q3] at f; exact f
          | ex c n h3 => rw [q3] at f; exact fun ρ' H' d C s a hn hc => f ρ' H' d C σ s a (as.mono s) hn hc
          | ok w h3 => rw [q3] at f; exact fun ρ' H' z s a _ => f ρ' H' σ s a (as.mono s)⟩
  rw [ha]
  refine wpAny_bind (wpAny_holding (thn (ho.run pins s σ H _ I go) fun ov s1 ⟨x, H1, I1, r1, q1⟩ => ?_))
  refine wpAny_bind (wpAny_holding (thn (hi.run pins s1 σ H1 _ I1 q1) fun iv s2 ⟨y, H2, I2, r2, q2⟩ => ?_))
  refine wpAny_bind (wpAny_standAt (wpAny_bind (wpAny_holding (thn (ps H2 s2 x y ov iv _ I2 r1 r2 q2) fun _ s3 ⟨H3, I3, q3⟩ => ?_))))
  exact wpAny_release ⟨σ, H3, I3, q3⟩
end
end ML
end
section
namespace ML
open PySem L2 NdefX
open PyProof.Rows hiding wpAt
structure PSsT (X : Cx) (body st : List Stmt) (t : TS) : Prop where
  run : ∀ (pins : List (Addr × Obj)) (s : Shared) (σ : L2.St) (H : Hp) (D : Ends), Inv X pins σ H s → t D σ H → wpAt (model X.prog X.w) X.A (.func body X.env) (execs st X.env) (SP X pins D) X.xe s
structure PST (X : Cx) (body : List Stmt) (st : Stmt) (t : TS) : Prop where
  run : ∀ (pins : List (Addr × Obj)) (s : Shared) (σ : L2.St) (H : Hp) (D : Ends), Inv X pins σ H s → t D σ H → wpAt (model X.prog X.w) X.A (.func body X.env) (exec st X.env) (SP X pins D) X.xe s
theorem PSsT.of {X : Cx} {body st : List Stmt} {t : TS} (h : PSs X st t) : PSsT X body st t := ⟨fun pins s σ H D I q => wpAt_of_wpAny (h.run pins s σ H D I q)⟩
theorem PST.of {X : Cx} {body : List Stmt} {st : Stmt} {t : TS} (h : PS X st t) : PST X body st t := ⟨fun pins s σ H D I q => wpAt_of_wpAny (h.run pins s σ H D I q)⟩
theorem PSsT.imp' {X : Cx} {body st : List Stmt} {t t' : TS} (h : PSsT X body st t) (i : ∀ D σ H, t' D σ H → t D σ H) : PSsT X body st t' := ⟨fun pins s σ H D I q => h.run pins s σ H D I (i D σ H q)⟩
theorem PST.imp' {X : Cx} {body : List Stmt} {st : Stmt} {t t' : TS} (h : PST X body st t) (i : ∀ D σ H, t' D σ H → t D σ H) : PST X body st t' := ⟨fun pins s σ H D I q => h.run pins s σ H D I (i D σ H q)⟩
structure FunS (K : PySem.W.Frag) (x qual : Str) (params : Arguments) (body : List Stmt) (scope : Scope) (dvs : List V) (kws : List (Str × V)) (f : Addr) (fd : FuncData) (cc D c : Addr) (file : Str) : Prop where
  ex : ∃ (oc : Value) (od : Option Addr) (dV kV doc pm : Value) (an : Option Addr) (ct : Value) (osl : Array (Option Value)),
    fd = PySem.W.fnX x qual params body scope [("__class__", cc)] dV kV doc pm an (.ref c) ct ∧ K.lookup f = some ⟨oc, od, .func fd, osl⟩ ∧ DflV K dV dvs ∧ KwdV K kV kws
  code : PySem.W.codeIn K (.ref c) qual = true
  file : ∃ (o : Obj) (vs : Array Value) (tf : Tok), K.lookup c = some o ∧ o.data = .fields vs ∧ vs[2]? = some (.str file tf)
  cell : ∃ o : Obj, K.lookup cc = some o ∧ o.data = .cell (some (.ref D))
  kp : PySem.W.keepIn K (.ref f) = true
abbrev nfS (x qual : Str) (params : Arguments) (body : List Stmt) (scope : Scope) (cc c : Addr) : NF := ⟨x, qual, params, body, scope, [("__class__", cc)], c⟩
section
variable {P : Program} {w : World} {K : PySem.W.Frag} {mg : Str → Option Value} {base : Heap} {x qual : Str} {params : Arguments} {body : List Stmt} {scope : Scope} {dvs : List V} {kws : List (Str × V)} {f cc D c : Addr} {fd : FuncData} {file : Str} {N ps : List Str} {k : Nat} {sp : Sp} {CX : CXT}
theorem FunS.cells {A : Around} {outer : List Env} {s : Shared} {H : Hp} (F : FunS K x qual params body scope dvs kws f fd cc D c file) (e0 : Env0 P w K mg base A outer s H) : CellsAt [("__class__", cc)] ["__class__"] [some (.ref D)] s.heap H := by
  obtain ⟨o, lo, od⟩ := F.cell
  have hb := e0.mod.kin cc o lo
  obtain ⟨hs, hn⟩ := e0.bs cc o hb
  have cellAt : s.heap.IsCell cc (some (.ref D)) := ⟨o, hs, od⟩
  refine ⟨rfl, fun y c' e => ?_, fun x y c' e1 e2 => ?_, fun i y e => ?_⟩
  · simp only [List.lookup] at e
    split at e
    · cases e; exact ⟨hn, _, cellAt⟩
    · cases e
  · simp only [List.lookup] at e1 e2
    split at e1
    · rename_i h1
      split at e2
      · rename_i h2
        rw [beq_iff_eq.mp h1, beq_iff_eq.mp h2]
      · cases e2
    · cases e1
  · cases i with
    | zero =>
      simp at e
      subst e
      refine ⟨cc, by simp [List.lookup], fun v hv => ?_⟩
      simp at hv
      subst hv
      exact ⟨_, rfl, cellAt⟩
    | succ i => simp at e
theorem FunS.ok (F : FunS K x qual params body scope dvs kws f fd cc D c file) (S : NScope N ps ["__class__"] scope) (len : ∀ vs H Q E, sp vs H Q E → vs.length = ps.length)
    (hbody : ∀ (A : Around) (outer : List Env) (s : Shared) (H : Hp) (vs : List V) (Q : VK) (E : XK), Room k (A.deeper (envF (nfS x qual params body scope cc c) f s.heap.objs.size)) → sp vs H Q E →
      ∃ t, PSsT (ncx CX P w K mg base N (nfS x qual params body scope cc c) f A outer s H E) body body t ∧ t { nx := fun _ H' => Q .non H', rt := Q } (startF N vs [some (.ref D)]) H) : FnOk P w K mg base CX (k + 1) f fd ps sp := by
  obtain ⟨oc, od, dV, kV, doc, pm, an, ct, osl, rfl, lk, _, _⟩ := F.ex
  refine ⟨len, fun A outer s H args us vs Q E hr e0 hb r hsp => ?_⟩
  have hl := len _ _ _ _ hsp
  have KX : K.In s.heap := e0.mod.kin.keeps fun b o e => (e0.bs b o e).1
  have lim : s.heap.NoLimit := e0.mod.nolimit.keeps fun b o e => (e0.bs b o e).1
  refine ks_codeAny_call_defAt (body := body) (binds := ps.zip us) hr.depth (KX _ _ lk) rfl lim (PySem.W.codeRec_of KX F.code) rfl hb S.nocell (fun ⟨n, _⟩ hy => S.par n (List.of_mem_zip hy).1) (fun h₁ hns kp => ?_) S.co S.gen S.kind
  obtain ⟨t, ht, hq⟩ := hbody A outer s H vs Q E (hr.deeper _) hsp
  have I : Inv (ncx CX P w K mg base N (nfS x qual params body scope cc c) f A outer s H E) [] (startF N vs [some (.ref D)]) H { s with heap := h₁, toks := s.toks + (ps.zip us).length } := inv_startN S hr.hd e0 hl r (F.cells e0) hns kp
  refine ks_wpAt_mono (ht.run [] _ (startF N vs [some (.ref D)]) H _ I hq) (fun fl s' hs => ?_) fun e s' hs => hs
  have fin : ∀ {σ' : L2.St} {H' : Hp} {v : V} {u : Value}, Inv (ncx CX P w K mg base N (nfS x qual params body scope cc c) f A outer s H E) [] σ' H' s' → L2.RelV v u → Q v H' → CE outer P w H s Q u s' :=
    fun {σ' H' v u} J rv q => ⟨v, H', J.os, J.bare, J.base, J.hok, rv, q⟩
  cases fl with
  | ret u =>
    obtain ⟨v, σ', H', J, rv, q⟩ := hs
    exact fin J rv q
  | next =>
    obtain ⟨σ', H', J, q⟩ := hs
    exact fin (v := V.non) (u := Value.none) J rfl q
  | brk =>
    obtain ⟨_, _, _, q⟩ := hs
    exact False.elim q
  | cont =>
    obtain ⟨_, _, _, q⟩ := hs
    exact False.elim q
end
end ML
end
section
namespace ML
open PySem L2 NdefX
open PyProof.Rows hiding wpAt
abbrev rdSP (G : Gx) (W : WX) (P : L2.St → Prop) (m : MS) : TS := fun D σ H => P σ ∧ rdS G W m D σ H
theorem mst_cons {G : Gx} {W : WX} {X : Cx} {P : L2.St → Prop} {body : List Stmt} {st : Stmt} {rest : List Stmt} {ms mr : MS} (h : PST X body st (rdSP G W P ms)) (h2 : PSs X rest (rdS G W mr)) : PSsT X body (st :: rest) (rdSP G W P (sSeq ms mr)) := ⟨fun pins s σ H D I ⟨hp, ρ, σi, hh, as, ag, f⟩ => by
  refine ks_wpAt_execs_cons (ks_wpAt_mono (h.run pins s σ H { D with nx := fun σ' H' => rdS G W mr D σ' H' } I ⟨hp, ?_⟩) (fun fl s' q => ?_) fun _ _ z => z)
  · refine ⟨ρ, σi, hh, as, ag, ?_⟩
    have f' : FinS G ρ H D W ((ms σi hh).andThen mr) := f
    cases e : ms σi hh with
    | nx σ' h' => rw [e] at f'; exact fun ρ' H' σ2 st ag2 as2 => ⟨ρ', σ', h', as2, ag2, FinS.later st f'⟩
    | bk σ' h' => rw [e] at f'; exact f'
    | ct σ' h' => rw [e] at f'; exact f'
    | rt v h' => rw [e] at f'; exact f'
    | ex c n σ' h' => rw [e] at f'; exact f'
    | err => rw [e] at f'; exact f'
  · cases fl with
    | next => obtain ⟨σ', H', J, q⟩ := q; exact wpAt_of_wpAny (h2.run pins s' σ' H' D J q)
    | ret u => exact q
    | brk => exact q
    | cont => exact q⟩
theorem boot_super : bootBuiltins "super" = some (.type "super") := by decide +kernel
theorem load_slot {X : Cx} {pins : List (Addr × Obj)} {σ : L2.St} {H : Hp} {s : Shared} {i : Nat} {x : Str} {v : V} {E : Value → Shared → Prop} {Q : Value → Shared → Prop} (I : Inv X pins σ H s) (hN : X.N[i]? = some x) (e : σ[i]? = some (some v)) (hv : Vis X.env.scope x) (hcd : (x == ("__classdict__" : Str)) = false)
    (h : ∀ u, RelV v u → Q u s) : wpAny (model X.prog X.w) X.A (loadName X.env x) Q E s := by
  obtain ⟨m, hn, hl⟩ := I.loc
  obtain ⟨u, r, l⟩ := hl i x v hN e hv
  rcases l with ⟨hk, hm⟩ | ⟨hk, c, hc, hcell⟩
  · exact wpAny_loadName_local I.ok.kind hk hn hm (h u r)
  · rcases hk with hk | hk
    · exact wpAny_loadName_cell I.ok.kind hk hc hcell (h u r)
    · exact wpAny_loadName_free I.ok.kind hk hc hcell (h u r) hcd
theorem load_blt {X : Cx} {pins : List (Addr × Obj)} {s : Shared} {σ : L2.St} {H : Hp} {x : Str} {u : Value} {E : Value → Shared → Prop} {Q : Value → Shared → Prop} (I : Inv X pins σ H s) (hg : Gl X x) (hm : X.mg x = none) (hv : bootBuiltins x = some u) (hn : x ≠ "__name__") (h : Q u s) : wpAny (model X.prog X.w) X.A (loadName X.env x) Q E s := by
  obtain ⟨mb, h1, h2⟩ := I.mod.blt
  exact PySem.W.ks_loadName_global I.ok.kind hg (Calls.loadGlobal_builtin (by rw [I.ok.glob]; exact I.mod.glob.keeps I.bk) hm (by rw [I.ok.blt]; exact h1.keeps I.bk) ((h2 x hn).trans hv) h)
def CodeM (X : Cx) (G : Gx) (W : WX) (fv : Value) (g : MF) : Prop :=
  ∀ (pins : List (Addr × Obj)) (s : Shared) (σ : L2.St) (H : Hp) (us : List Value) (vs : List V) (args : List VI) (ρ : List Addr) (h : Hi) (Q : VK), Inv X pins σ H s → Vals vs us → RVs G ρ H args vs → Ag G ρ h H →
    FinG G ρ H (RV G) Q (fun c d H' => W c d σ H') (g args h) → codeAny (model X.prog X.w) X.A (.call fv ⟨us, []⟩) (fun r s' => match r with | .ok (.ret v) => EP X pins σ Q v s' | .ok _ => False | .error e => X.xe e s') s
theorem FnP.code {X : Cx} {G : Gx} {W : WX} {k : Nat} {f : Addr} {fd : FuncData} {ps : List Str} {g : MF} (F : FnP X G k f fd ps g) (hb : Binds X.K fd ps []) (tk : Takes X W) : CodeM X G W (.ref f) g := by
  intro pins s σ H us vs args ρ h Q I r ra ag fin
  by_cases hl : args.length = ps.length
  · have hsp : spM G ps.length g vs H Q (WE W σ) := ⟨ρ, h, args, hl, ag, ra, fin⟩
    have lu : us.length = ps.length := by rw [← r.length, ← ra.length]; exact hl
    have b := hb s us I.kIn (by rw [List.append_nil]; exact lu)
    rw [List.append_nil] at b
    refine codeAny_mono (F.ok.run _ _ s H ⟨us, []⟩ us vs Q (WE W σ) (F.room.mono (by omega)) I.env0 b r hsp) fun res s' hq => ?_
    match res, hq with
    | .error e, hq => exact passAt tk σ pins H s e s' I hq
    | .ok (.ret u), hq => exact I.after hq
  · rw [F.ar args h hl] at fin
    exact fin.elim
structure SupOk (X : Cx) (G : Gx) (W : WX) (known : Nat → Bool) (f D : Addr) (slf : Str) (g : MF) : Prop where
  fn : X.env.func = some f
  at_ : ∃ (o : Obj) (fd : FuncData) (ar : Arg), X.K.lookup f = some o ∧ o.data = .func fd ∧ (fd.params.posonlyargs ++ fd.params.args).head? = some ar ∧ ar.arg = slf
  code : ∃ (c : Addr) (o : Obj) (vs : Array Value) (file : Str) (tf : Tok), X.env.code = .ref c ∧ X.K.lookup c = some o ∧ o.data = .fields vs ∧ vs[2]? = some (.str file tf) ∧ ((X.prog.main.file : Str) == file) = true
  top : (X.prog.main.scope.names.lookup ("super" : Str)).isSome = false
  cls : ∃ cd, PySem.W.clsIn X.K D = some cd
  any : PySem.W.nsIn X.K cStatics "thirdparty.any" = some none
  sub : ∀ c C, known c = true → G.ct c = some C → (∃ cd, PySem.W.clsIn X.K C = some cd) ∧ PySem.W.mroIn X.K C (.ref D) = some true ∧ ∃ f2, PySem.W.ks_superIn X.K C D "__init__" = some (some (.ref f2)) ∧ PySem.W.typeIn X.K (.ref f2) = some (.type "function") ∧ PySem.W.fnIn X.K f2 = true ∧ CodeM X G W (.ref f2) g
def sSuper (known : Nat → Bool) (i : Nat) (g : MF) (ma : MA) : MS := fun σ h => match σ[i]? with
  | some (some (.ref n)) => match h[n]? with
    | some (.ins c _) => match known c with
      | true => (ma σ h).bindS σ fun vs h1 => dropV σ (g (.ref n :: vs) h1)
      | false => .err
    | _ => .err
  | _ => .err
section
variable {G : Gx} {W : WX} {X : Cx} {body : List Stmt} {known : Nat → Bool} {f D : Addr} {slf : Str} {g : MF} {i j : Nat} {e : Expr} {es : List Expr} {ma : MA} {p0 p1 apos cpos spos : Pos}
theorem mst_super (S : SupOk X G W known f D slf g) (hks : Gl X "super") (hm : X.mg "super" = none) (hkc : X.env.kindOf "__class__" = some .free) (hNc : X.N[j]? = some "__class__") (hvc : Vis X.env.scope "__class__")
    (hNs : X.N[i]? = some slf) (hvs : Vis X.env.scope slf) (hcs : (slf == ("__classdict__" : Str)) = false) (ha : PA X (e :: es) (rdA G W ma)) (hi : interactive X.env = false)
    (hst : starEach (e :: es) X.env = (false, eval e X.env) :: starEach es X.env := by rfl) (hpl : (backTo cpos (starEach es X.env)).any (·.1) = false := by rfl)
    (hsw : swapsWith (.Call (.Attribute (.Call (.Name "super" p0) [] [] p1) "__init__" apos) (e :: es) [] cpos) none spos.line X.env = pure false := by rfl)
    (ht : eval (.Call (.Attribute (.Call (.Name "super" p0) [] [] p1) "__init__" apos) (e :: es) [] cpos) X.env = (do
      let ov ← attributeBase (.Call (.Name "super" p0) [] [] p1) "__init__" X.env (eval (.Call (.Name "super" p0) [] [] p1) X.env)
      standAt apos.atName
      let (f, first) ← holding [ov] (getMethod ov "__init__" (pure false))
      callWith cpos f first (backTo cpos (starEach (e :: es) X.env)) []) := by rfl) :
    PST X body (.Expr (.Call (.Attribute (.Call (.Name "super" p0) [] [] p1) "__init__" apos) (e :: es) [] cpos) spos)
      (rdSP G W (fun σ => σ[j]? = some (some (.ref D))) (sSuper known i g ma)) := by
  refine ⟨fun pins s σ H Dn I ⟨hD, ρ, σi, h, as, ag, fin⟩ => ?_⟩
  unfold sSuper at fin
  cases q1 : σi[i]? with
  | none => rw [q1] at fin; exact fin.elim
  | some ov =>
    rw [q1] at fin
    cases ov with
    | none => exact fin.elim
    | some v =>
      cases v with
      | ref n =>
        dsimp only at fin
        cases q2 : h[n]? with
        | none => rw [q2] at fin; exact fin.elim
        | some ob =>
          rw [q2] at fin
          cases ob with
          | ins c fs =>
            dsimp only at fin
            cases q3 : known c with
            | false => rw [q3] at fin; exact fin.elim
            | true =>
              rw [q3] at fin
              dsimp only at fin
              obtain ⟨xv, hxs, rx⟩ := as.at_ i _ q1
              cases rx with
              | @ref _ a hn =>
                obtain ⟨C, dx, gs, hc, hH, rf⟩ := insAt ag q2 hn
                obtain ⟨⟨cdC, hcC⟩, hmro, f2, hsup, hty, hfn, hcall⟩ := S.sub c C q3 hc
                obtain ⟨m, hF, ox, od, J⟩ := insC_look I hH
                obtain ⟨of, fd, ar, hf1, hf2, hf3, hf4⟩ := S.at_
                obtain ⟨cc, oc, vs, file, tf, hc1, hc2, hc3, hc4, hc5⟩ := S.code
                obtain ⟨cdD, hcD⟩ := S.cls
                have KX := I.kIn
                refine ks_wpAt_Expr_any (ks_wpAt_MethodCall (args := e :: es) (pl := pure false) ?_ ht) hi hsw
                refine ks_wpAt_super_base hks hkc rfl S.fn (KX _ _ hf1) hf2 hf3 hc1 (KX _ _ hc2) hc3 hc4 hc5 S.top ?_
                refine load_blt I hks hm boot_super (by decide +kernel) ⟨rfl, ?_⟩
                refine load_slot I hNc hD hvc (by decide) fun u ru => ?_
                obtain rfl : u = Value.ref D := ru
                rw [hf4]
                refine load_slot I hNs hxs hvs hcs fun u2 ru2 => ?_
                obtain rfl : u2 = Value.ref a := ru2
                obtain ⟨hD1o, hD1, hD2⟩ : ∃ oD, s.heap.get? D = some oD ∧ oD.data = .cls cdD := by
                  unfold PySem.W.clsIn at hcD
                  split at hcD
                  · rename_i c' d' cd' sl' ho
                    cases hcD
                    exact ⟨_, KX _ _ ho, rfl⟩
                  · cases hcD
                obtain ⟨of2, hof2, hof2c⟩ : ∃ o, X.K.lookup f2 = some o ∧ o.cls = .type "function" := by
                  have t : (X.K.lookup f2).map (·.cls) = some (.type "function") := hty
                  cases z : X.K.lookup f2 with
                  | none => rw [z] at t; cases t
                  | some o => rw [z] at t; exact ⟨o, rfl, Option.some.inj t⟩
                have hxC : a ≠ C := PySem.W.ks_ne KX J hcC
                obtain ⟨hh, gg, dd, tt, os⟩ := s
                refine PySem.ks_wpAny_isType_cls hD1 hD2 ⟨rfl, ?_⟩
                refine PySem.ks_wpAny_call_super hD1 hD2 J.at_ J.cls (fun c' e' => ?_) (PySem.W.looks_mroIn KX hmro) (fun h' eq kp => ?_)
                · have := J.no
                  unfold PySem.W.notCls at this
                  rw [e'] at this
                  exact Bool.noConfusion this
                have I2 : Inv X pins σ H ⟨h', gg, dd, tt, os⟩ := Inv.kept (s := ⟨hh, gg, dd, tt, os⟩) (t' := tt) I kp
                have KX2 := I2.kIn
                unfold PySem.W.ks_superIn at hsup
                rw [hcC] at hsup
                have hmr : PySem.W.Looks (model X.prog X.w) h' (mroOf (.ref C)) cdC.mro := fun A Q E s k q => wpAny_bind ((PySem.W.looks_clsIn KX2 hcC) A _ E s k (wpAny_pure q))
                refine PySem.ks_wpAny_getMethod_super eq (PySem.W.looks_opaque KX2 S.any) hmr rfl KX2 hsup (KX2 _ _ hof2) hof2c hxC rfl ?_
                -- the bound method is pinned
                have I3 : Inv X ((h'.objs.size, PySem.W.methodObj (.ref f2) (.ref a)) :: pins) σ H ⟨h'.push (PySem.W.methodObj (.ref f2) (.ref a)), gg, dd, tt + 1, os⟩ :=
                  ClX.pin_new I2 (fun _ _ z => Heap.get?_push_of_some _ z) (Nat.le_refl _) (Heap.get?_push_size h' rfl) (fun v z => nomatch z)
                generalize h'.objs.size = b at I3 ⊢
                have A : rdA G W ma σ H fun vs H1 => ∃ ρ1 h1 args, RVs G ρ1 H1 (.ref n :: args) (.ref a :: vs) ∧ Ag G ρ1 h1 H1 ∧ AgS G ρ1 H1 σi σ ∧ FinS G ρ1 H1 Dn W (dropV σi (g (.ref n :: args) h1)) :=
                  rdS_go as ag fin fun ρ1 H1 h1 xs ys st as ag r f => ⟨ρ1, h1, xs, .cons (.ref (st.pre _ _ hn)) r, ag, as, f⟩
                refine thn (Q := EP X pins σ fun _ H' => Dn.nx σ H') ?_ fun v s' ⟨z, H', I', _, q⟩ => ⟨σ, H', I', q⟩
                show wpAny _ _ (callWith cpos (.ref b) [] (backTo cpos (starEach (e :: es) X.env)) []) _ _ _
                have run := ha.run cpos _ _ σ H _ I3 A
                rw [hst] at run ⊢
                refine PySem.W.callWith_of (P := PySem.W.MethP X.K b f2 (.ref a)) (by show ((false || (backTo cpos (starEach es X.env)).any (·.1)) || false) = false; rw [hpl]; rfl) (PySem.W.keeps_M hfn)
                  (Calls.evalArgs_plain (thn run fun us s4 ⟨vs, H4, I4, r4, ρ4, h4, args, ra, ag4, as4, f4⟩ => ?_))
                have hb4 : s4.heap.get? b = some (PySem.W.methodObj (.ref f2) (.ref a)) := ClX.pin_at I4
                refine ⟨⟨hb4, I4.kIn⟩, ?_⟩
                have I5 : Inv X pins σ H4 s4 := ClX.unpin I4
                cases ra with
                | cons r0 rr =>
                  have cm := hcall pins s4 σ H4 (.ref a :: us) (.ref a :: vs) (.ref n :: args) ρ4 h4 (fun _ H' => Dn.nx σ H') I5 (.cons rfl r4) (.cons r0 rr) ag4 (by
                    cases q5 : g (.ref n :: args) h4 with
                    | err => rw [q5] at f4; exact f4
                    | ex c5 n5 h5 => rw [q5] at f4; exact fun ρ' H' d C s a hn hc => f4 ρ' H' d C σ s a (as4.mono s) hn hc
                    | ok w5 h5 => rw [q5] at f4; exact fun ρ' H' z s a _ => f4 ρ' H' σ s a (as4.mono s))
                  exact wpAny_call (PySem.W.method_call hb4 cm)
              | _ => exact fin.elim
          | _ => exact fin.elim
      | _ => exact fin.elim
end
section
variable {P : Program} {w : World} {K : PySem.W.Frag} {mg : Str → Option Value} {base : Heap} {x qual : Str} {params : Arguments} {body : List Stmt} {scope : Scope} {dvs : List V} {kws : List (Str × V)} {f cc D c : Addr} {fd : FuncData} {file : Str} {N ps : List Str} {k n : Nat} {G : Gx} {mb : MS}
theorem agsF {ρ : List Addr} {H : Hp} {args : List VI} {vs : List V} {ws : List (Option V)} (r : RVs G ρ H args vs) (hn : N.length = vs.length + n) (hw : ws.length ≤ n) : AgS G ρ H (args.map some ++ List.replicate n none) (startF N vs ws) := by
  unfold startF
  refine ⟨by simp [r.length]; omega, fun i v e => ?_⟩
  have hl : (args.map (some : VI → Option VI)).length = (vs.map (some : V → Option V)).length := by simp [r.length]
  by_cases q : i < (args.map (some : VI → Option VI)).length
  · rw [List.getElem?_append_left q] at e
    rw [List.getElem?_append_left (by rw [← hl]; exact q)]
    exact r.some_all i v e
  · rw [List.getElem?_append_right (Nat.le_of_not_lt q)] at e
    have := List.mem_of_getElem? e
    rw [List.mem_replicate] at this
    cases this.2
theorem fnS_M (F : FunS K x qual params body scope dvs kws f fd cc D c file) (S : NScope N ps ["__class__"] scope) (hn : N.length = ps.length + n) (h1 : 1 ≤ n)
    (hb : ∀ (A : Around) (outer : List Env) (s : Shared) (H : Hp) (E : XK), Room k (ncx (L2.CX P w) P w K mg base N (nfS x qual params body scope cc c) f A outer s H E).A →
      Takes (ncx (L2.CX P w) P w K mg base N (nfS x qual params body scope cc c) f A outer s H E) (fun c d _ H => E c d H) →
      PassesOwn (model P w) (ncx (L2.CX P w) P w K mg base N (nfS x qual params body scope cc c) f A outer s H E).A (ncx (L2.CX P w) P w K mg base N (nfS x qual params body scope cc c) f A outer s H E).env (ncx (L2.CX P w) P w K mg base N (nfS x qual params body scope cc c) f A outer s H E).xe →
      PSsT (ncx (L2.CX P w) P w K mg base N (nfS x qual params body scope cc c) f A outer s H E) body body (rdSP G (fun c d _ H => E c d H) (fun σ => σ[ps.length]? = some (some (.ref D))) mb)) : FnOk P w K mg base (L2.CX P w) (k + 1) f fd ps (spM G ps.length (runB ps.length n mb)) := by
  refine F.ok S (fun vs H Q E h => spM_len h) (fun A outer s H vs Q E hr hsp => ?_)
  have hlv := spM_len hsp
  obtain ⟨ρ, h, args, l, ag, r, fin⟩ := hsp
  refine ⟨_, hb A outer s H E hr (takes_of rfl rfl rfl rfl) (passes_of rfl), ?_, ?_⟩
  · show (startF N vs [some (.ref D)])[ps.length]? = _
    unfold startF
    rw [List.getElem?_append_right (by simp [hlv])]
    simp [hlv]
  refine ⟨ρ, _, h, agsF r (by rw [hlv]; exact hn) (by simpa using h1), ag, ?_⟩
  unfold runB at fin
  rw [show Nat.beq args.length ps.length = true from by rw [l]; exact Nat.beq_refl _] at fin
  dsimp only at fin
  cases e : mb (args.map some ++ List.replicate n none) h with
  | nx σ' h' => rw [e] at fin; exact fun ρ' H' σ2 st a' as' => fin ρ' H' .non st a' .non
  | rt v h' => rw [e] at fin; exact fin
  | bk σ' h' => rw [e] at fin; exact fin.elim
  | ct σ' h' => rw [e] at fin; exact fin.elim
  | ex c n σ' h' => rw [e] at fin; exact fun ρ' H' d C σ2 st a' as' hn hc => fin ρ' H' d C st a' hn hc
  | err => rw [e] at fin; exact fin
end
end ML
end
section
namespace MB
open PySem L2
end MB
namespace ML
open PySem L2 PyProof.Rows
section
variable {X : Cx} {e : Expr} {x : Str} {p pos kp : Pos} {fv : Value} {td : TE}
end
def keysAre : List S → List (VI × VI) → Bool
  | [], [] => true
  | s :: ss, (.str t, _) :: r => decide (s = t) && keysAre ss r
  | _, _ => false
def eKwD (ks : List S) (gk : MK) (e : ME) : ME := fun σ h => (e σ (h ++ [.dic []])).bind fun x h1 => match x with
  | .ref m => match Nat.beq m h.length, h1[h.length]?, h1[m]? with
    | false, some (.dic []), some (.dic kvs) => match keysAre ks kvs with
      | true => gk [] (kvs.map (·.2)) (h1.set h.length (.dic (putAll kvs [])))
      | false => .err
    | _, _, _ => .err
  | _ => .err
section
variable {G : Gx} {ρ : List Addr} {h : Hi} {H : Hp} {W : WX} {X : Cx} {e : Expr} {x : Str} {p pos kp : Pos} {fv : Value} {ks : List S} {gk : MK} {me : ME}
end
def gSeq : List MG → List VI → Sg → Hi → RS
  | [], [], σ, h => .nx σ h
  | g :: gs, v :: vs, σ, h => (g v σ h).andThen fun σ1 h1 => gSeq gs vs σ1 h1
  | _, _, _, _ => .err
def gTupM (gs : List MG) : MG := fun v σ h => match v with
  | .tup xs => match Nat.beq xs.length gs.length with
    | true => gSeq gs xs σ h
    | false => .err
  | _ => .err
section
variable {G : Gx} {ρ : List Addr} {h : Hi} {H : Hp} {W : WX} {X : Cx} {e : Expr} {es : List Expr} {pos : Pos} {g : MG} {gs : List MG} {k n : Nat}
theorem PGs.imp' {t t' : TGs} (h : PGs X es t) (i : ∀ vs σ H Q, t' vs σ H Q → t vs σ H Q) : PGs X es t' := ⟨fun pins s σ H vs us Q I r q => h.run pins s σ H vs us Q I r (i vs σ H Q q)⟩
theorem onlyNx_ixU (tbl : Nat → Option MF) (o i : ME) : OnlyNx (gIxU tbl o i) := fun v σ h => onlyNx_bindS fun x h1 => onlyNx_bindS fun y h2 => by
  cases insC x h2 with
  | none => dsimp only; cases putIx x y v h2 with
    | none => exact .inr (.inr rfl)
    | some h' => exact .inl ⟨σ, h', rfl⟩
  | some c =>
    dsimp only
    cases tbl c with
    | none => exact .inr (.inr rfl)
    | some g => dsimp only; cases g [x, y, v] h2 with
      | ok w h3 => exact .inl ⟨σ, h3, rfl⟩
      | ex c n h3 => exact .inr (.inl ⟨c, n, σ, h3, rfl⟩)
      | err => exact .inr (.inr rfl)
end
end ML
end
section
namespace ML
open PySem PySem.Spec PyProof.Rows L2 He
def lkT {α : Type} : List (Nat × α) → Nat → Option α
  | [], _ => none
  | (d, x) :: r, c => match Nat.beq d c with
    | true => some x
    | false => lkT r c
theorem lkT_cons {α : Type} {d c : Nat} {x g : α} {r : List (Nat × α)} (h : lkT ((d, x) :: r) c = some g) : (c = d ∧ g = x) ∨ lkT r c = some g := by
  unfold lkT at h
  cases q : Nat.beq d c with
  | true => rw [q] at h; exact .inl ⟨(Nat.eq_of_beq_eq_true q).symm, (Option.some.inj h).symm⟩
  | false => rw [q] at h; exact .inr h
abbrev GxOf (K : PySem.W.Frag) (mg : Str → Option Value) (nm : Nat → Option Str) : Gx := ⟨K, mg, fun c => (nm c).map (ga K)⟩
theorem gx_ct {K : PySem.W.Frag} {mg : Str → Option Value} {nm : Nat → Option Str} {c : Nat} {C : Addr} {x : Str} (h : (GxOf K mg nm).ct c = some C) (e : nm c = some x) : C = ga K x := by
  have h' : (nm c).map (ga K) = some C := h
  rw [e] at h'
  exact (Option.some.inj h').symm
def viAll (f : VI → Value → Bool) : List VI → List Value → Bool
  | [], [] => true
  | v :: vs, u :: us => f v u && viAll f vs us
  | _, _ => false
def viB : Nat → PySem.W.Frag → VI → Value → Bool
  | 0, _, _, _ => false
  | n + 1, K, v, u => match v, u with
    | .non, .none => true
    | .bl a, .bool b => a == b
    | .int i, .int j _ => decide (i = j)
    | .str s, .str x _ => decide (x = toStr s)
    | .glo g, .ref a => eqO (PySem.W.nsIn K mainGlobals (toStr g)) (some (some (.ref a)))
    | .tup xs, .ref a => (match K.lookup a with
      | some ⟨.type c, _, .seq its _, _⟩ => decide (c = "tuple") && (decide (its.size ≤ sizeLine) && viAll (viB n K) xs its.toList)
      | _ => false)
    | _, _ => false
section
variable {K : PySem.W.Frag} {h : Heap} {mg : Str → Option Value} {nm : Nat → Option Str}
theorem viAll_ok {f : VI → Value → Bool} (ih : ∀ v u, f v u = true → ∃ x, RelV x u ∧ ∀ ρ H, RV (GxOf K mg nm) ρ H v x) : ∀ {vs : List VI} {us : List Value}, viAll f vs us = true → ∃ xs, Vals xs us ∧ ∀ ρ H, RVs (GxOf K mg nm) ρ H vs xs
  | [], [], _ => ⟨[], .nil, fun _ _ => .nil⟩
  | v :: vs, u :: us, e => by
    obtain ⟨e1, e2⟩ := ba (show (f v u && viAll f vs us) = true from e)
    obtain ⟨x, r, rv⟩ := ih v u e1
    obtain ⟨xs, rs, rvs⟩ := viAll_ok ih e2
    exact ⟨x :: xs, .cons r rs, fun ρ H => .cons (rv ρ H) (rvs ρ H)⟩
  | [], _ :: _, e => nomatch e
  | _ :: _, [], e => nomatch e
theorem viB_ok (X : K.In h) (Gn : h.Ns mainGlobals mg) : ∀ (n : Nat) (v : VI) (u : Value), viB n K v u = true → ∃ x, RelV x u ∧ ∀ ρ H, RV (GxOf K mg nm) ρ H v x
  | 0, _, _, e => nomatch e
  | n + 1, v, u, e => by
    unfold viB at e
    split at e
    · exact ⟨.non, rfl, fun _ _ => .non⟩
    · rename_i a b
      rw [eq_of_beq e]
      exact ⟨.bl b, rfl, fun _ _ => .bl b⟩
    · rename_i i j t
      rw [of_decide_eq_true e]
      exact ⟨.int j, ⟨t, rfl⟩, fun _ _ => .int j⟩
    · rename_i s x t
      have := of_decide_eq_true e
      subst this
      exact ⟨.str (toStr s), ⟨t, rfl⟩, fun _ _ => .str rfl⟩
    · rename_i g a
      exact ⟨.ref a, rfl, fun _ _ => .glo (PySem.W.mg_of X Gn (eqO_ok e))⟩
    · rename_i xs a
      split at e
      · rename_i c dd its m sl q
        obtain ⟨h1, h2⟩ := ba e
        obtain ⟨h3, h4⟩ := ba h2
        obtain ⟨ys, rs, rvs⟩ := viAll_ok (fun v u => viB_ok X Gn n v u) h4
        refine ⟨.ref a, rfl, fun ρ H => .tup (ys := ys) (.inr ⟨_, its, m, q, congrArg Value.type (of_decide_eq_true h1), rfl, of_decide_eq_true h3, rs⟩) (rvs ρ H)⟩
      · cases e
    · cases e
def fldB (K : PySem.W.Frag) (x f : Str) : Bool := (Fa.cls x).ok K && (Fa.noat x f).ok K
theorem fldOk_nil {f : S} : FldOk K (GxOf K mg nm) [] f := fun c C h _ => nomatch h
theorem fldOk_cons {f : S} {c : Nat} {x : Str} {r : List Nat} (hn : nm c = some x) (hB : fldB K x (toStr f) = true) (t : FldOk K (GxOf K mg nm) r f) : FldOk K (GxOf K mg nm) (c :: r) f := fun d C h e => by
  rw [List.contains_cons] at h
  rcases Bool.or_eq_true_iff.mp h with q | q
  · have hd : d = c := by simpa using q
    subst hd
    rw [gx_ct e hn]
    obtain ⟨b1, b2⟩ := ba hB
    exact ⟨cls_ok b1, noat_ok b2⟩
  · exact t d C q e
def conVB (K : PySem.W.Frag) (x f : Str) (v : VI) : Bool := (Fa.cls x).ok K && (match PySem.W.findIn K (.ref (ga K x)) f with
  | some (some u) => viB 8 K v u && (eqO (PySem.W.specialIn K u "__get__") (some none) && !PySem.W.copiedNames.contains f)
  | _ => false)
theorem conOk_nil {f : S} : ConOk K (GxOf K mg nm) (lkT []) f := fun c C v h _ => nomatch h
theorem conOk_cons (X : K.In h) (Gn : h.Ns mainGlobals mg) {f : S} {c : Nat} {v : VI} {x : Str} {r : List (Nat × VI)} (hn : nm c = some x) (hB : conVB K x (toStr f) v = true) (t : ConOk K (GxOf K mg nm) (lkT r) f) : ConOk K (GxOf K mg nm) (lkT ((c, v) :: r)) f := fun d C w h e => by
  rcases lkT_cons h with ⟨q1, q2⟩ | q
  · subst q1 q2
    rw [gx_ct e hn]
    obtain ⟨b1, b2⟩ := ba hB
    refine ⟨cls_ok b1, ?_⟩
    split at b2
    · rename_i u q
      obtain ⟨b3, b4⟩ := ba b2
      obtain ⟨b5, b6⟩ := ba b4
      obtain ⟨y, ry, rv⟩ := viB_ok X Gn 8 w u b3
      exact ⟨y, u, ⟨q, ry, eqO_ok b5, by simpa using b6⟩, rv⟩
    · cases b2
  · exact t d C w q e
def methB (K : PySem.W.Frag) (x m : Str) (d : PySem.W.Frag → Addr) : Bool := (Fa.cls x).ok K && (eqO (PySem.W.findIn K (.ref (ga K x)) m) (some (some (.ref (d K)))) && (PySem.W.isFn K (.ref (d K)) && PySem.W.keepIn K (.ref (d K))))
theorem methOk_nil {Y : Cx} {W : WX} {m : S} : MethOk Y (GxOf Y.K mg nm) W (lkT []) m := fun c C v h _ => nomatch h
theorem methOk_cons {Y : Cx} {W : WX} {m : S} {c : Nat} {g : MF} {x : Str} {d : PySem.W.Frag → Addr} {r : List (Nat × MF)} (hn : nm c = some x) (hB : methB Y.K x (toStr m) d = true) (cm : CallM Y (GxOf Y.K mg nm) W (.ref (d Y.K)) g)
    (t : MethOk Y (GxOf Y.K mg nm) W (lkT r) m) : MethOk Y (GxOf Y.K mg nm) W (lkT ((c, g) :: r)) m := fun c' C w h e => by
  rcases lkT_cons h with ⟨q1, q2⟩ | q
  · subst q1 q2
    rw [gx_ct e hn]
    obtain ⟨b1, b2⟩ := ba hB
    obtain ⟨b3, b4⟩ := ba b2
    obtain ⟨b5, b6⟩ := ba b4
    exact ⟨cls_ok b1, _, ⟨eqO_ok b3, b5, b6⟩, cm⟩
  · exact t c' C w q e
def spB (K : PySem.W.Frag) (x m : Str) (d : PySem.W.Frag → Addr) : Bool := PySem.W.noSeq K (ga K x) && (eqO (PySem.W.findIn K (.ref (ga K x)) m) (some (some (.ref (d K)))) && (PySem.W.fnIn K (d K) && PySem.W.isFn K (.ref (d K))))
theorem spOk_nil {Y : Cx} {A : Around} {W : WX} {m : Str} : SpOk Y A (GxOf Y.K mg nm) W (lkT []) m := ⟨fun c C v h _ => nomatch h⟩
theorem spOk_cons {Y : Cx} {A : Around} {W : WX} {m : Str} {c : Nat} {g : MF} {x : Str} {d : PySem.W.Frag → Addr} {r : List (Nat × MF)} (hn : nm c = some x) (hB : spB Y.K x m d = true) (cm : CallAt Y A (GxOf Y.K mg nm) W (.ref (d Y.K)) g)
    (t : SpOk Y A (GxOf Y.K mg nm) W (lkT r) m) : SpOk Y A (GxOf Y.K mg nm) W (lkT ((c, g) :: r)) m := ⟨fun c' C w h e => by
  rcases lkT_cons h with ⟨q1, q2⟩ | q
  · subst q1 q2
    rw [gx_ct e hn]
    obtain ⟨b1, b2⟩ := ba hB
    obtain ⟨b3, b4⟩ := ba b2
    obtain ⟨b5, b6⟩ := ba b4
    exact ⟨_, b1, eqO_ok b3, b5, b6, cm⟩
  · exact t.at_ c' C w q e⟩
inductive ClsR where
  | ty (n : String) | own (x : Str)
def ClsR.val (K : PySem.W.Frag) : ClsR → Value
  | .ty n => .type n
  | .own x => .ref (ga K x)
def ClsR.v (K : PySem.W.Frag) : ClsR → V
  | .ty n => .ty n
  | .own x => .ref (ga K x)
theorem ClsR.ok (K : PySem.W.Frag) (c : ClsR) : ClsV (c.v K) (c.val K) := by
  cases c with
  | ty n => exact .ty n
  | own x => exact .own _
theorem ClsR.all (K : PySem.W.Frag) : ∀ cs : List ClsR, Paired ClsV (cs.map (ClsR.v K)) (cs.map (ClsR.val K))
  | [] => .nil
  | c :: r => .cons (c.ok K) (ClsR.all K r)
def isT1 (K : PySem.W.Frag) (cs : List ClsR) (T : String) (o : Option Bool) : Bool := match o with
  | some b => decide (PySem.W.kitAny K (.type T) (cs.map (ClsR.val K)) = some b)
  | none => true
def isI (K : PySem.W.Frag) (nm : Nat → Option Str) (cs : List ClsR) : List (Nat × Bool) → Bool
  | [] => true
  | (c, b) :: r => (match nm c with
    | some x => (Fa.cls x).ok K && (eqO (PySem.W.findIn K (.ref (ga K x)) "__class__") (some (some (.builtin "object.__class__"))) && (decide (PySem.W.mroIn K (ga K x) (.type "object") = some true) && decide (PySem.W.kitAny K (.ref (ga K x)) (cs.map (ClsR.val K)) = some b)))
    | none => false) && isI K nm cs r
structure IsS where
  non : Option Bool
  bl : Option Bool
  int : Option Bool
  str : Option Bool
  lst : Option Bool
  tup : Option Bool
  dic : Option Bool
  ins : List (Nat × Bool)
def IsS.t (s : IsS) : IsT := ⟨s.non, s.bl, s.int, s.str, s.lst, s.tup, s.dic, lkT s.ins⟩
def isB (K : PySem.W.Frag) (nm : Nat → Option Str) (cs : List ClsR) (s : IsS) : Bool := (isT1 K cs "NoneType" s.non && (isT1 K cs "bool" s.bl && (isT1 K cs "int" s.int && (isT1 K cs "str" s.str && (isT1 K cs "list" s.lst && (isT1 K cs "tuple" s.tup && (isT1 K cs "dict" s.dic))))))) &&
  (isI K nm cs s.ins && (eqO (PySem.W.specialIn K (.builtin "object.__class__") "__get__") (some (some (.builtin "getset_descriptor.__get__"))) && decide (PySem.W.takesIn K (.builtin "object.__class__") = some true)))
theorem isT1_ok {cs : List ClsR} {T : String} {o : Option Bool} (h : isT1 K cs T o = true) : ∀ b, o = some b → PySem.W.kitAny K (.type T) (cs.map (ClsR.val K)) = some b := fun b e => by
  subst e
  exact of_decide_eq_true h
theorem isI_ok {cs : List ClsR} : ∀ {l : List (Nat × Bool)}, isI K nm cs l = true → ∀ c C b, lkT l c = some b → (GxOf K mg nm).ct c = some C → Cls K C ∧ PySem.W.findIn K (.ref C) "__class__" = some (some (.builtin "object.__class__")) ∧ PySem.W.mroIn K C (.type "object") = some true ∧ PySem.W.kitAny K (.ref C) (cs.map (ClsR.val K)) = some b
  | [], _, c, C, b, h, _ => nomatch h
  | (d, v) :: r, hB, c, C, b, h, e => by
    obtain ⟨b1, b2⟩ := ba hB
    rcases lkT_cons h with ⟨q1, q2⟩ | q
    · subst q1 q2
      cases z : nm c with
      | none => rw [z] at b1; cases b1
      | some x =>
        rw [z] at b1
        obtain ⟨b3, b4⟩ := ba b1
        obtain ⟨b5, b6⟩ := ba b4
        obtain ⟨b7, b8⟩ := ba b6
        rw [gx_ct e z]
        exact ⟨cls_ok b3, eqO_ok b5, of_decide_eq_true b7, of_decide_eq_true b8⟩
    · exact isI_ok b2 c C b q e
theorem isOk_of {cs : List ClsR} {s : IsS} (h : isB K nm cs s = true) : IsOk K (GxOf K mg nm) (cs.map (ClsR.val K)) s.t := by
  obtain ⟨h1, h2⟩ := ba h
  obtain ⟨a1, h1⟩ := ba h1
  obtain ⟨a2, h1⟩ := ba h1
  obtain ⟨a3, h1⟩ := ba h1
  obtain ⟨a4, h1⟩ := ba h1
  obtain ⟨a5, h1⟩ := ba h1
  obtain ⟨a6, a7⟩ := ba h1
  obtain ⟨b1, b2⟩ := ba h2
  obtain ⟨b3, b4⟩ := ba b2
  exact ⟨isT1_ok a1, isT1_ok a2, isT1_ok a3, isT1_ok a4, isT1_ok a5, isT1_ok a6, isT1_ok a7, isI_ok b1, eqO_ok b3, of_decide_eq_true b4⟩
end
end ML
end
section
namespace ML
open PySem PySem.Spec PyProof.Rows L2 He
def lkS {α : Type} : List (S × α) → S → Option α
  | [], _ => none
  | (d, x) :: r, c => match decide (d = c) with
    | true => some x
    | false => lkS r c
def kdB (K : PySem.W.Frag) (d : Addr) : List (S × VI) → Bool
  | [] => true
  | (s, v) :: r => (match PySem.W.nsIn K d (toStr s) with
    | some (some u) => viB 8 K v u
    | _ => false) && kdB K d r
section
variable {K : PySem.W.Frag} {h : Heap} {mg : Str → Option Value} {nm : Nat → Option Str}
theorem kdB_ok (X : K.In h) (Gn : h.Ns mainGlobals mg) {d : Addr} : ∀ {l : List (S × VI)}, kdB K d l = true → ∀ s v, lkS l s = some v → ∃ u x, PySem.W.nsIn K d (toStr s) = some (some u) ∧ RelV x u ∧ ∀ ρ H, RV (GxOf K mg nm) ρ H v x
  | [], _, s, v, e => nomatch e
  | (a, b) :: r, hB, s, v, e => by
    obtain ⟨b1, b2⟩ := ba hB
    unfold lkS at e
    cases q : decide (a = s) with
    | false => rw [q] at e; exact kdB_ok X Gn b2 s v e
    | true =>
      rw [q] at e
      cases e
      have := of_decide_eq_true q
      subst this
      split at b1
      · rename_i u z
        obtain ⟨x, rx, rv⟩ := viB_ok X Gn 8 b u b1
        exact ⟨u, x, z, rx, rv⟩
      · cases b1
theorem kdOk_of {Y : Cx} (X : Y.K.In h) (Gn : h.Ns mainGlobals mg) {d : Addr} {l : List (S × VI)} (D : ∃ es n, KDict Y.K Y.w d es n) (hB : kdB Y.K d l = true) : KdOk Y (GxOf Y.K mg nm) d (lkS l) := fun s w e => by
  obtain ⟨es, n, D⟩ := D
  obtain ⟨u, x, h1, h2, h3⟩ := kdB_ok X Gn hB s w e
  exact ⟨x, ⟨es, n, u, D.at_, D.lit, h1, h2⟩, h3⟩
end
structure GDef where
  at_ : PySem.W.Frag → Addr
  name : Str
  qual : Str
  params : Arguments
  body : List Stmt
  scope : Scope
  dfl : List Dv := []
  kwd : List (Str × Dv) := []
def fnG (K : PySem.W.Frag) (p : PySem.W.Frag → Addr) : FnW := match K.lookup (p K) with
  | some ⟨_, _, .func fd, _⟩ => some (fd.name, fd.qualname, fd.params, fd.body, fd.scope, fd.globals, fd.closure, fd.builtins)
  | _ => none
def GDef.val (d : GDef) : FnW := some (d.name, d.qual, d.params, .stmts d.body, d.scope, mainGlobals, [], builtinsNs)
def GDef.dvs (K : PySem.W.Frag) (d : GDef) : List V := d.dfl.map (Dv.v K)
def GDef.kws (K : PySem.W.Frag) (d : GDef) : List (Str × V) := d.kwd.map fun q => (q.1, q.2.v K)
def GDef.ok (K : PySem.W.Frag) (d : GDef) : Bool := PySem.W.keepIn K (.ref (d.at_ K)) && (match K.lookup (d.at_ K) with
  | some ⟨_, _, .func fd, _⟩ => PySem.W.codeIn K fd.code d.qual && (dflB K fd.defaults (d.dvs K) && kwdB K fd.kwdefaults (d.kws K))
  | _ => false)
theorem GDef.funD {K : PySem.W.Frag} {d : GDef} (e : fnG K d.at_ = d.val) (c : d.ok K = true) : ∃ fd, FunD K d.name d.qual d.params d.body d.scope (d.dvs K) (d.kws K) (d.at_ K) fd := by
  obtain ⟨kp, c2⟩ := ba c
  unfold fnG at e
  cases q : K.lookup (d.at_ K) with
  | none => rw [q] at c2; cases c2
  | some o =>
    obtain ⟨oc, od, dt, osl⟩ := o
    rw [q] at c2 e
    cases dt with
    | func fd =>
      obtain ⟨n1, n2, n3, n4, n5, n6, n7, n8, n9, n10, n11, n12, n13, n14, n15⟩ := fd
      have e2 : (some (n1, n2, n3, n4, n5, n6, n7, n15) : FnW) = some (d.name, d.qual, d.params, .stmts d.body, d.scope, mainGlobals, [], builtinsNs) := e
      simp only [Option.some.injEq, Prod.mk.injEq] at e2
      obtain ⟨h1, h2, h3, h4, h5, h6, h7, h8⟩ := e2
      subst h1 h2 h3 h4 h5 h6 h7 h8
      obtain ⟨k1, k2⟩ := ba (show (PySem.W.codeIn K n13 d.qual && (dflB K n8 (d.dvs K) && kwdB K n9 (d.kws K))) = true from c2)
      obtain ⟨k3, k4⟩ := ba k2
      exact ⟨_, ⟨oc, od, n8, n9, n10, n11, n12, n13, n14, osl, rfl, q, k1, dflB_ok k3, kwdB_ok k4⟩, kp⟩
    | _ => cases c2
structure SDef where
  at_ : PySem.W.Frag → Addr
  name : Str
  qual : Str
  params : Arguments
  body : List Stmt
  scope : Scope
  kwd : List (Str × Dv) := []
  cls : Str
  file : Str
abbrev FnS : Type := Option (Str × Str × Arguments × FuncBody × Scope × Addr × Addr)
def fnS (K : PySem.W.Frag) (p : PySem.W.Frag → Addr) : FnS := match K.lookup (p K) with
  | some ⟨_, _, .func fd, _⟩ => some (fd.name, fd.qualname, fd.params, fd.body, fd.scope, fd.globals, fd.builtins)
  | _ => none
def SDef.val (d : SDef) : FnS := some (d.name, d.qual, d.params, .stmts d.body, d.scope, mainGlobals, builtinsNs)
def SDef.kws (K : PySem.W.Frag) (d : SDef) : List (Str × V) := d.kwd.map fun q => (q.1, q.2.v K)
def fdOf (K : PySem.W.Frag) (p : PySem.W.Frag → Addr) : FuncData := match K.lookup (p K) with
  | some ⟨_, _, .func fd, _⟩ => fd
  | _ => PySem.W.fnX Str.empty Str.empty ⟨[], [], none, [], [], none, []⟩ [] ⟨.function, [], false, false, []⟩ [] .none .none .none .none none .none .none
def cdAd (K : PySem.W.Frag) (p : PySem.W.Frag → Addr) : Addr := match (fdOf K p).code with
  | .ref c => c
  | _ => 0
def clAd (K : PySem.W.Frag) (p : PySem.W.Frag → Addr) : Addr := match (fdOf K p).closure with
  | [(_, c)] => c
  | _ => 0
def SDef.ok (K : PySem.W.Frag) (d : SDef) : Bool := PySem.W.keepIn K (.ref (d.at_ K)) && ((match K.lookup (d.at_ K) with
  | some ⟨_, _, .func fd, _⟩ => decide (fd.closure = [(("__class__" : Str), clAd K d.at_)]) && (decide (fd.code = .ref (cdAd K d.at_)) && (dflB K fd.defaults [] && kwdB K fd.kwdefaults (d.kws K)))
  | _ => false) && (PySem.W.codeIn K (.ref (cdAd K d.at_)) d.qual && ((match K.lookup (cdAd K d.at_) with
    | some ⟨_, _, .fields vs, _⟩ => (match (vs[2]? : Option Value) with
      | some (.str f _) => decide (f = d.file)
      | _ => false)
    | _ => false) && (match K.lookup (clAd K d.at_) with
      | some ⟨_, _, .cell (some (.ref D)), _⟩ => decide (D = ga K d.cls)
      | _ => false))))
theorem SDef.funS {K : PySem.W.Frag} {d : SDef} (e : fnS K d.at_ = d.val) (c : d.ok K = true) : FunS K d.name d.qual d.params d.body d.scope [] (d.kws K) (d.at_ K) (fdOf K d.at_) (clAd K d.at_) (ga K d.cls) (cdAd K d.at_) d.file := by
  obtain ⟨kp, c⟩ := ba c
  obtain ⟨c1, c⟩ := ba c
  obtain ⟨c2, c⟩ := ba c
  obtain ⟨c3, c4⟩ := ba c
  refine ⟨?_, c2, ?_, ?_, kp⟩
  · unfold fnS at e
    unfold fdOf
    cases q : K.lookup (d.at_ K) with
    | none => rw [q] at c1; cases c1
    | some o =>
      obtain ⟨oc, od, dt, osl⟩ := o
      rw [q] at c1 e
      cases dt with
      | func fd =>
        obtain ⟨n1, n2, n3, n4, n5, n6, n7, n8, n9, n10, n11, n12, n13, n14, n15⟩ := fd
        have e2 : (some (n1, n2, n3, n4, n5, n6, n15) : FnS) = some (d.name, d.qual, d.params, .stmts d.body, d.scope, mainGlobals, builtinsNs) := e
        simp only [Option.some.injEq, Prod.mk.injEq] at e2
        obtain ⟨h1, h2, h3, h4, h5, h6, h8⟩ := e2
        subst h1 h2 h3 h4 h5 h6 h8
        obtain ⟨k1, c5⟩ := ba (show (decide (n7 = [(("__class__" : Str), clAd K d.at_)]) && (decide (n13 = .ref (cdAd K d.at_)) && (dflB K n8 [] && kwdB K n9 (d.kws K)))) = true from c1)
        obtain ⟨k2, c6⟩ := ba c5
        obtain ⟨k3, k4⟩ := ba c6
        have k1 := of_decide_eq_true k1
        have k2 := of_decide_eq_true k2
        subst k1 k2
        exact ⟨oc, od, n8, n9, n10, n11, n12, n14, osl, rfl, rfl, dflB_ok k3, kwdB_ok k4⟩
      | _ => cases c1
  · cases q : K.lookup (cdAd K d.at_) with
    | none => rw [q] at c3; cases c3
    | some o =>
      obtain ⟨oc, od, dt, osl⟩ := o
      rw [q] at c3
      cases dt with
      | fields vs =>
        dsimp only at c3
        split at c3
        · rename_i f t z
          rw [← of_decide_eq_true c3]
          exact ⟨_, vs, t, rfl, rfl, z⟩
        · cases c3
      | _ => cases c3
  · split at c4
    · rename_i D sl q
      rw [← of_decide_eq_true c4]
      exact ⟨_, q, rfl⟩
    · cases c4
def supB (K : PySem.W.Frag) (xD : Str) (d2 : PySem.W.Frag → Addr) (l : List Str) : Bool := (PySem.W.clsIn K (ga K xD)).isSome && (eqO (PySem.W.nsIn K cStatics "thirdparty.any") (some none) && (decide (PySem.W.typeIn K (.ref (d2 K)) = some (.type "function")) && (PySem.W.fnIn K (d2 K) &&
  l.all fun x => (PySem.W.clsIn K (ga K x)).isSome && (decide (PySem.W.mroIn K (ga K x) (.ref (ga K xD)) = some true) && eqO (PySem.W.ks_superIn K (ga K x) (ga K xD) "__init__") (some (some (.ref (d2 K))))))))
def noLstB (K : PySem.W.Frag) : Bool := K.all fun p => match p.2.cls with
  | .type t => !decide (t = "list")
  | _ => true
theorem mem_lk {a : Addr} {o : Obj} : ∀ {K : List (Addr × Obj)}, K.lookup a = some o → (a, o) ∈ K
  | [], h => by cases h
  | (b, u) :: r, h => by
    rw [List.lookup_cons] at h
    cases q : a == b with
    | true =>
      rw [q] at h
      cases h
      rw [beq_iff_eq.mp q]
      exact List.mem_cons_self
    | false =>
      rw [q] at h
      exact List.mem_cons_of_mem _ (mem_lk h)
theorem noLst_ok {K : PySem.W.Frag} (h : noLstB K = true) {a : Addr} {o : Obj} (e : K.lookup a = some o) : o.cls ≠ .type "list" := fun z => by
  have m : (a, o) ∈ K := mem_lk e
  have := List.all_eq_true.mp h _ m
  dsimp only at this
  rw [z] at this
  cases this
structure MSpec where
  fn : List GDef
  sf : List SDef
  ts : List Tab
  ex : List (PySem.W.Frag → Bool)
abbrev AlM : Type := Bool × List FnW × List FnS × List (Option (List (Option (Str × Int))))
def obsM (m : MSpec) (K : PySem.W.Frag) : AlM := ((m.ex.all fun f => f K) && ((m.fn.all fun d => d.ok K) && (m.sf.all fun d => d.ok K)), m.fn.map fun d => fnG K d.at_, m.sf.map fun d => fnS K d.at_, m.ts.map fun t => dicW K (t.1 K))
def valM (m : MSpec) (w : World) : AlM := (true, m.fn.map GDef.val, m.sf.map SDef.val, m.ts.map fun t => some (keysIn w.params t.2))
def SaysM (m : MSpec) (w : World) (K : PySem.W.Frag) : Prop := obsM m K = valM m w
section
variable {m : MSpec} {w : World} {K : PySem.W.Frag}
theorem SaysM.b (c : SaysM m w K) : (m.ex.all fun f => f K) = true ∧ (m.fn.all fun d => d.ok K) = true ∧ (m.sf.all fun d => d.ok K) = true := by
  have e : ((m.ex.all fun f => f K) && ((m.fn.all fun d => d.ok K) && (m.sf.all fun d => d.ok K))) = true := congrArg (fun z : AlM => z.1) c
  obtain ⟨e1, e2⟩ := ba e
  obtain ⟨e3, e4⟩ := ba e2
  exact ⟨e1, e3, e4⟩
theorem SaysM.ex (c : SaysM m w K) (i : Nat) {f : PySem.W.Frag → Bool} (h : m.ex[i]? = some f := by rfl) : f K = true := List.all_eq_true.mp c.b.1 f (List.mem_of_getElem? h)
theorem SaysM.def_ (c : SaysM m w K) (i : Nat) {d : GDef} (h : m.fn[i]? = some d := by rfl) : FunD K d.name d.qual d.params d.body d.scope (d.dvs K) (d.kws K) (d.at_ K) (fdOf K d.at_) := by
  have e : m.fn.map (fun d => fnG K d.at_) = m.fn.map GDef.val := congrArg (fun z : AlM => z.2.1) c
  have e2 : (m.fn.map fun d => fnG K d.at_)[i]? = (m.fn.map GDef.val)[i]? := by rw [e]
  rw [List.getElem?_map, List.getElem?_map, h] at e2
  obtain ⟨fd, F⟩ := GDef.funD (Option.some.inj e2) (List.all_eq_true.mp c.b.2.1 d (List.mem_of_getElem? h))
  have : fdOf K d.at_ = fd := by
    obtain ⟨oc, od, dV, kV, doc, pm, an, cdv, ct, osl, _, lk, _⟩ := F.ex
    unfold fdOf
    rw [lk]
  rw [this]
  exact F
theorem SaysM.sup (c : SaysM m w K) (i : Nat) {d : SDef} (h : m.sf[i]? = some d := by rfl) : FunS K d.name d.qual d.params d.body d.scope [] (d.kws K) (d.at_ K) (fdOf K d.at_) (clAd K d.at_) (ga K d.cls) (cdAd K d.at_) d.file := by
  have e : m.sf.map (fun d => fnS K d.at_) = m.sf.map SDef.val := congrArg (fun z : AlM => z.2.2.1) c
  have e2 : (m.sf.map fun d => fnS K d.at_)[i]? = (m.sf.map SDef.val)[i]? := by rw [e]
  rw [List.getElem?_map, List.getElem?_map, h] at e2
  exact SDef.funS (Option.some.inj e2) (List.all_eq_true.mp c.b.2.2 d (List.mem_of_getElem? h))
theorem SaysM.tab (c : SaysM m w K) (i : Nat) {t : Tab} (h : m.ts[i]? = some t := by rfl) : ∃ es n, KDict K w (t.1 K) es n := by
  have e : m.ts.map (fun t => dicW K (t.1 K)) = m.ts.map fun t => some (keysIn w.params t.2) := congrArg (fun z : AlM => z.2.2.2) c
  have e2 : (m.ts.map fun t => dicW K (t.1 K))[i]? = (m.ts.map fun t => some (keysIn w.params t.2))[i]? := by rw [e]
  rw [List.getElem?_map, List.getElem?_map, h] at e2
  exact dicW_ok (Option.some.inj e2)
end
end ML
end
section
namespace ML
open PySem PySem.Spec PyProof.Rows L2 He
abbrev Defn := PySem.W.Frag → Addr
abbrev gA (x : Str) : Defn := fun K => ga K x
abbrev mA (x m : Str) : Defn := fun K => He.ma K (ga K x) m
structure Ev (m : MSpec) (w : World) (K : PySem.W.Frag) (mg : Str → Option Value) : Prop where
  says : SaysM m w K
  hh : ∃ h : Heap, K.In h ∧ h.Ns mainGlobals mg
section
variable {m : MSpec} {w : World} {K : PySem.W.Frag} {mg : Str → Option Value}
theorem Ev.glo (e : Ev m w K mg) (i : Nat) {x : Str} (h : m.ex[i]? = some (fun K => (Fa.glo x).ok K) := by rfl) : mg x = some (.ref (ga K x)) := let ⟨_, X, G⟩ := e.hh; glo_ok X G (e.says.ex i h)
theorem Ev.free (e : Ev m w K mg) (i : Nat) {x : Str} (h : m.ex[i]? = some (fun K => (Fa.free x).ok K) := by rfl) : mg x = none := let ⟨_, X, G⟩ := e.hh; free_ok X G (e.says.ex i h)
def mkB (K : PySem.W.Frag) (x : Str) (q : PySem.W.Frag → Addr) : Bool := (Fa.mkr x).ok K && decide (He.ma K (ga K x) "__init__" = q K)
def gvB (K : PySem.W.Frag) (x : Str) (v : VI) : Bool := match PySem.W.nsIn K mainGlobals x with
  | some (some u) => viB 8 K v u
  | _ => false
end
section
variable {G : Gx} {W : WX} {X : Cx} {e a b : Expr} {es : List Expr} {pos p : Pos} {ma : MA} {x : Str} {m : MSpec} {nm : Nat → Option Str}
theorem takes0 : Takes X W0 := fun _ _ h => let ⟨_, _, _, _, _, _, _, _, _, _, _, _, _, _, _, _, w⟩ := h; w.elim
theorem xv (i : Nat) (hN : X.N[i]? = some x := by rfl) (hv : Vis X.env.scope x := by first | exact .inl rfl | exact .inr (.inl rfl) | exact .inr (.inr rfl)) (hd : (x == ("__debug__" : Str)) = false := by decide) (hcd : (x == ("__classdict__" : Str)) = false := by decide) :
    PE X (.Name x pos) (rdE G W (eV i)) := me_var hN hv hd hcd
theorem xval {v : VI} (E : Ev m X.w X.K X.mg) (i : Nat) (hg : Gl X x) (h : m.ex[i]? = some (fun K => gvB K x v) := by rfl) (hd : (x == ("__debug__" : Str)) = false := by decide) : PE X (.Name x pos) (rdE (GxOf X.K X.mg nm) W (eC v)) := by
  have q := E.says.ex i h
  obtain ⟨hp, XI, Gn⟩ := E.hh
  unfold gvB at q
  split at q
  · rename_i u z
    obtain ⟨y, ry, rv⟩ := viB_ok XI Gn 8 v u q
    exact me_glob hg (PySem.W.mg_of XI Gn z) ry rv hd
  · cases q
structure DOk (P : Program) (w : World) (K : PySem.W.Frag) (mg : Str → Option Value) (base : Heap) (nm : Nat → Option Str) (k : Nat) (p : Defn) (ps : List Str) (g : MF) : Prop where
  ok : FnOk P w K mg base (L2.CX P w) k (p K) (fdOf K p) ps (spM (GxOf K mg nm) ps.length g)
  ar : Arity ps.length g
  kp : PySem.W.keepIn K (.ref (p K)) = true
abbrev XOk (X : Cx) (nm : Nat → Option Str) (k : Nat) (p : Defn) (ps : List Str) (g : MF) : Prop := DOk X.prog X.w X.K X.mg X.base nm k p ps g
abbrev BOk (K : PySem.W.Frag) (p : Defn) (ps : List Str) : Prop := Binds K (fdOf K p) ps []
theorem DOk.fp {k k' : Nat} {q : Defn} {ps : List Str} {g : MF} (d : XOk X nm k q ps g) (hr : Room k' X.A) (h : k + 2 ≤ k' := by decide) : FnP X (GxOf X.K X.mg nm) k (q X.K) (fdOf X.K q) ps g := ⟨d.ok, d.ar, hr.mono h⟩
theorem xcm {k k' : Nat} {q : Defn} {ps : List Str} {g : MF} (d : XOk X nm k q ps g) (bn : BOk X.K q ps) (hr : Room k' X.A) (tk : Takes X W) (h : k + 2 ≤ k' := by decide) : CallM X (GxOf X.K X.mg nm) W (.ref (q X.K)) g := (d.fp hr h).call bn tk
theorem xca1 {k k' : Nat} {q : Defn} {ps : List Str} {g : MF} (d : XOk X nm k q ps g) (bn : BOk X.K q ps) (hr : Room k' X.A) (tk : Takes X W) (h : k + 2 ≤ k' := by decide) : CallAt X X.A.in1 (GxOf X.K X.mg nm) W (.ref (q X.K)) g := (d.fp hr h).at1 bn tk
theorem xca0 {k k' : Nat} {q : Defn} {ps : List Str} {g : MF} (d : XOk X nm k q ps g) (bn : BOk X.K q ps) (hr : Room k' X.A) (tk : Takes X W) (h : k + 2 ≤ k' := by decide) : CallAt X X.A (GxOf X.K X.mg nm) W (.ref (q X.K)) g := (d.fp hr h).at0 bn tk
theorem xcall {k k' : Nat} {x : Str} {ps : List Str} {g : MF} (d : XOk X nm k (gA x) ps g) (bn : BOk X.K (gA x) ps) (hr : Room k' X.A) (tk : Takes X W) (hm : X.mg x = some (.ref (ga X.K x))) (ha : PA X (e :: es) (rdA (GxOf X.K X.mg nm) W ma)) (h : k + 2 ≤ k' := by decide)
    (hg : Gl X x := by rfl) (hdb : (x == ("__debug__" : Str)) = false := by decide) (he : starEach (e :: es) X.env = (false, eval e X.env) :: starEach es X.env := by rfl) (hpl : (backTo pos (starEach es X.env)).any (·.1) = false := by rfl) :
    PE X (.Call (.Name x p) (e :: es) [] pos) (rdE (GxOf X.K X.mg nm) W (eCall g ma)) := me_call (xcm d bn hr tk h) hg hm d.kp ha hdb he hpl
theorem xcall0 {k k' : Nat} {x : Str} {ps : List Str} {g : MF} (d : XOk X nm k (gA x) ps g) (bn : BOk X.K (gA x) ps) (hr : Room k' X.A) (tk : Takes X W) (hm : X.mg x = some (.ref (ga X.K x))) (h : k + 2 ≤ k' := by decide)
    (hg : Gl X x := by rfl) (hdb : (x == ("__debug__" : Str)) = false := by decide) : PE X (.Call (.Name x p) [] [] pos) (rdE (GxOf X.K X.mg nm) W (eCall g aNil)) := me_call0 (xcm d bn hr tk h) hg hm d.kp hdb
theorem xmkK {k k' c n : Nat} {x : Str} {q : Defn} {ps ks : List Str} {g : MF} {arr : List VI → List VI → List VI} (E : Ev m X.w X.K X.mg) (d : XOk X nm k q ps g) (bn : Bnd (GxOf X.K X.mg nm) X.K (fdOf X.K q) ps (n + 1) ks arr) (hr : Room k' X.A) (tk : Takes X W) (j : Nat) (hc : nm c = some x)
    (hj : m.ex[j]? = some (fun K => mkB K x q) := by rfl) (h : k + 2 ≤ k' := by decide) : CallK X (GxOf X.K X.mg nm) W (.ref (ga X.K x)) n ks (mkK c g arr) ∧ PySem.W.keepIn X.K (.ref (ga X.K x)) = true := by
  obtain ⟨h1, h2⟩ := ba (E.says.ex j hj)
  have M := mkr_ok h1
  rw [of_decide_eq_true h2] at M
  exact ⟨callK_make M (by show (nm c).map _ = _; rw [hc]; rfl) (d.fp hr h) bn tk, M.kp⟩
end
end ML
end
section
namespace ML
open PySem PySem.Spec PyProof.Rows L2 He
def knw (cs : List Nat) (c : Nat) : Bool := cs.any (Nat.beq c)
def knB (nm : Nat → Option Str) (l : List Str) (cs : List Nat) : Bool := cs.all fun c => match nm c with
  | some x => l.contains x
  | none => false
theorem knw_ok {nm : Nat → Option Str} {l : List Str} {cs : List Nat} (h : knB nm l cs = true) (c : Nat) (q : knw cs c = true) : ∃ x, nm c = some x ∧ x ∈ l := by
  obtain ⟨d, hd, e⟩ := List.any_eq_true.mp q
  have := Nat.eq_of_beq_eq_true e
  subst this
  have z := List.all_eq_true.mp h c hd
  cases y : nm c with
  | none => rw [y] at z; cases z
  | some x => rw [y] at z; exact ⟨x, rfl, by simpa using z⟩
theorem supOk_of {X : Cx} {W : WX} {nm : Nat → Option Str} {x qual : Str} {params : Arguments} {body : List Stmt} {scope : Scope} {dvs : List V} {kws : List (Str × V)} {f cc c : Addr} {fd : FuncData} {file xD sf : Str} {cs : List Nat} {l : List Str} {d2 : Defn} {g : MF} {ar : Arg} {m : MSpec}
    (E : Ev m X.w X.K X.mg) (F : FunS X.K x qual params body scope dvs kws f fd cc (ga X.K xD) c file) (i : Nat) (cm : CodeM X (GxOf X.K X.mg nm) W (.ref (d2 X.K)) g) (hk : knB nm l cs = true) (hfn : X.env.func = some f) (hcode : X.env.code = .ref c)
    (har : (params.posonlyargs ++ params.args).head? = some ar) (hs : ar.arg = sf) (hfile : ((X.prog.main.file : Str) == file) = true) (htop : (X.prog.main.scope.names.lookup ("super" : Str)).isSome = false) (hB : m.ex[i]? = some (fun K => supB K xD d2 l) := by rfl) : SupOk X (GxOf X.K X.mg nm) W (knw cs) f (ga X.K xD) sf g := by
  obtain ⟨b1, b2⟩ := ba (E.says.ex i hB)
  obtain ⟨b3, b4⟩ := ba b2
  obtain ⟨b5, b6⟩ := ba b4
  obtain ⟨b7, b8⟩ := ba b6
  obtain ⟨oc, od, dV, kV, doc, pm, an, ct, osl, e1, e2, _, _⟩ := F.ex
  obtain ⟨o, vs, tf, e3, e4, e5⟩ := F.file
  refine ⟨hfn, ⟨_, fd, ar, e2, rfl, by rw [e1]; exact har, hs⟩, ⟨c, o, vs, file, tf, hcode, e3, e4, e5, hfile⟩, htop, Option.isSome_iff_exists.mp b1, eqO_ok b3, fun c' C q e => ?_⟩
  obtain ⟨y, hy, hm⟩ := knw_ok hk c' q
  rw [gx_ct e hy]
  obtain ⟨a1, a2⟩ := ba (List.all_eq_true.mp b8 y hm)
  obtain ⟨a3, a4⟩ := ba a2
  exact ⟨Option.isSome_iff_exists.mp a1, of_decide_eq_true a3, _, eqO_ok a4, of_decide_eq_true b5, b7, cm⟩
theorem aCons1 {a : ME} : ∀ σ h vs h1, aCons a aNil σ h = .ok vs h1 → vs.length = 1 := fun σ h vs h1 e => by
  unfold aCons at e
  cases q : a σ h with
  | ok x h2 => rw [q] at e; cases e; rfl
  | ex c n h2 => rw [q] at e; cases e
  | err => rw [q] at e; cases e
def enlOf : VI → Hi → Option Itm := fun v h => match v with
  | .ref n => match listAt n h with
    | some _ => some (.enl n)
    | none => none
  | _ => none
def iEnumM (e : ME) : MI := fun σ h => (e σ h).bind fun v h1 => ofI (enlOf v h1) h1
section
variable {G : Gx} {W : WX} {X : Cx} {e : Expr} {me : ME} {ρ : List Addr} {H : Hp} {p pos tpos : Pos} {elts : List Expr} {kk : Nat}
end
theorem hu1 {k : Nat} {A : Around} (r : Room k A) : A.units + 1 < cLine := by have := r.un; omega
theorem hu64 {k : Nat} {A : Around} (r : Room k A) : A.units + 64 < cLine := by have := r.un; omega
theorem hu65 {k : Nat} {A : Around} (r : Room k A) : A.units + 65 < cLine := by have := r.un; omega
section
variable {K : PySem.W.Frag} {x qual : Str} {params : Arguments} {body : List Stmt} {scope : Scope} {dvs : List V} {kws : List (Str × V)} {f cc D c : Addr} {fd : FuncData} {file : Str} {ps : List Str}
theorem FunS.bindsN (F : FunS K x qual params body scope [] kws f fd cc D c file)
    (h : ∀ (kV doc pm : Value) (an : Option Addr) (cdv ct : Value) (us : List Value), us.length = ps.length → bindArgs (PySem.W.fnX x qual params body scope [("__class__", cc)] .none kV doc pm an cdv ct) ⟨us, []⟩ = pure (ps.zip us)) : Binds K fd ps [] := by
  obtain ⟨oc, od, dV, kV, doc, pm, an, ct, osl, rfl, lk, hD, hK⟩ := F.ex
  rcases hD with ⟨_, rfl⟩ | ⟨e, _⟩
  · exact .all (h kV doc pm an _ ct)
  · exact absurd rfl e
theorem FunS.kbinds0 (F : FunS K x qual params body scope [] kws f fd cc D c file) (n : Nat) (ks : List Str) (ms : List (Str × V)) (g : {α : Type} → List α → List α → List α → List α) (hk : kws ≠ []) (hms : ∀ q ∈ ms, q ∈ kws)
    (hrel : ∀ {vs mz zs : List V} {us mv ws : List Value}, Vals vs us → Vals mz mv → Vals zs ws → Vals (g vs mz zs) (g us mv ws))
    (h : ∀ (D : Addr) (doc pm : Value) (an : Option Addr) (cdv ct : Value) (us mv ws : List Value), us.length = n → mv.length = ms.length → ws.length = ks.length →
      KwChain D ((ms.map (·.1)).zip mv) (bindArgs (PySem.W.fnX x qual params body scope [("__class__", cc)] .none (.ref D) doc pm an cdv ct) ⟨us, ks.zip ws⟩) (ps.zip (g us mv ws))) :
    ∃ mv : List Value, KBn K fd ps n ks (fun us ws => g us mv ws) (fun vs zs => g vs (ms.map (·.2)) zs) := by
  obtain ⟨oc, od, dV, kV, doc, pm, an, ct, osl, rfl, lk, hD, hK⟩ := F.ex
  rcases hD with ⟨_, rfl⟩ | ⟨e, _⟩
  · rcases hK with e | ⟨D, rfl, hq⟩
    · exact absurd e hk
    · obtain ⟨mv, hl, rk, hks⟩ := kwd_vals (ms := ms) fun q hm => hq q (hms q hm)
      exact ⟨mv, ⟨fun s us ws X l1 l2 => BindsTo.of_looks fun M => KwChain.looks X hks (h D doc pm an _ ct us mv ws l1 hl l2), fun r1 r2 => hrel r1 rk r2⟩⟩
  · exact absurd rfl e
end
section
variable {G : Gx} {W : WX} {X : Cx} {a b c : Expr} {pos : Pos} {ma mb mc : ME} {f g : Op2}
theorem tOf_rd {me : ME} {σ : L2.St} {H : Hp} {Q : Bool → Hp → Prop} (r : rdT G W (tOf me) σ H Q) : rdE G W me σ H fun x H' => ∃ k, x = .bl k ∧ Q k H' :=
  let ⟨_, _, _, as, ag, f⟩ := r
  rdG_go as ag f fun ρ1 H1 h1 x x' st as ag r f => by
    cases r with
    | bl b => exact ⟨b, rfl, f.ok ag rfl⟩
    | _ => exact f.elim
theorem mt_cmpR {op : CmpOp} (ho : OpR X (compareOp op) (rd2 G f)) (ha : PE X a (rdE G W ma)) (hb : PE X b (rdE G W mb)) (hm : behindInMarks op b = false) : PT X (.Compare a [op] [b] pos) (rdT G W (tOf (eBin f ma mb))) :=
  PT.imp' (pt_cmpR ho ha hb hm) fun σ H Q r => by
    obtain ⟨ρ, σi, h, as, ag, f⟩ := tOf_rd r
    exact rdG_go as ag f fun ρ1 H1 h1 x x' st as ag r f => rdG_go as ag f fun ρ2 H2 h2 y y' st2 as ag rs f => ⟨ρ2, h2, x, y, ag, r.mono st2, rs, FinO.of f⟩
end
def sPar (i j : Nat) (ma : MA) : MS := fun σ h => (ma σ h).bindS σ fun vs h1 => match vs with
  | [v, w] => .nx ((σ.set i (some v)).set j (some w)) h1
  | _ => .err
def sPar3 (i j l : Nat) (ma : MA) : MS := fun σ h => (ma σ h).bindS σ fun vs h1 => match vs with
  | [u, v, w] => .nx (((σ.set i (some u)).set j (some v)).set l (some w)) h1
  | _ => .err
section
variable {G : Gx} {W : WX} {X : Cx} {a b c : Expr} {pos : Pos} {ma : MA} {i j l : Nat} {x y z : Str} {px py pz pt : Pos} {kt : Nat} {k2 : Nat} {pt2 : Pos}
end
def pk3 {α : Type} (us ms ws : List α) (q : Nat × Nat) : Option α := match q.1 with
  | 0 => us[q.2]?
  | 1 => ms[q.2]?
  | _ => ws[q.2]?
def arr3 {α : Type} : List (Nat × Nat) → List α → List α → List α → List α
  | [], _, _, _ => []
  | q :: r, us, ms, ws => match pk3 us ms ws q with
    | some x => x :: arr3 r us ms ws
    | none => arr3 r us ms ws
theorem vals_at {xs : List V} {us : List Value} (r : Vals xs us) (i : Nat) : (∃ x u, xs[i]? = some x ∧ us[i]? = some u ∧ RelV x u) ∨ (xs[i]? = none ∧ us[i]? = none) := by
  cases e : xs[i]? with
  | none => exact .inr ⟨rfl, by rw [List.getElem?_eq_none_iff] at e ⊢; rw [← r.length]; exact e⟩
  | some x =>
    obtain ⟨u, h1, h2⟩ := r.get e
    exact .inl ⟨x, u, rfl, h1, h2⟩
theorem arr3_vals {vs mz zs : List V} {us mv ws : List Value} (r1 : Vals vs us) (r2 : Vals mz mv) (r3 : Vals zs ws) : ∀ sel : List (Nat × Nat), Vals (arr3 sel vs mz zs) (arr3 sel us mv ws)
  | [] => .nil
  | (k, i) :: r => by
    have t := arr3_vals r1 r2 r3 r
    have key : (∃ x u, pk3 vs mz zs (k, i) = some x ∧ pk3 us mv ws (k, i) = some u ∧ RelV x u) ∨ (pk3 vs mz zs (k, i) = none ∧ pk3 us mv ws (k, i) = none) := by
      unfold pk3
      match k with
      | 0 => exact vals_at r1 i
      | 1 => exact vals_at r2 i
      | k + 2 => exact vals_at r3 i
    unfold arr3
    rcases key with ⟨x, u, h1, h2, h3⟩ | ⟨h1, h2⟩
    · rw [h1, h2]; exact .cons h3 t
    · rw [h1, h2]; exact t
theorem rvs_at {G : Gx} {ρ : List Addr} {H : Hp} {xs : List VI} {us : List V} (r : RVs G ρ H xs us) (i : Nat) : (∃ x u, xs[i]? = some x ∧ us[i]? = some u ∧ RV G ρ H x u) ∨ (xs[i]? = none ∧ us[i]? = none) := by
  cases e : xs[i]? with
  | none => exact .inr ⟨rfl, by rw [List.getElem?_eq_none_iff] at e ⊢; rw [← r.length]; exact e⟩
  | some x =>
    obtain ⟨u, h1, h2⟩ := r.get e
    exact .inl ⟨x, u, rfl, h1, h2⟩
theorem arr3_rvs {G : Gx} {ρ : List Addr} {H : Hp} {vs mz zs : List VI} {us mv ws : List V} (r1 : RVs G ρ H vs us) (r2 : RVs G ρ H mz mv) (r3 : RVs G ρ H zs ws) : ∀ sel : List (Nat × Nat), RVs G ρ H (arr3 sel vs mz zs) (arr3 sel us mv ws)
  | [] => .nil
  | (k, i) :: r => by
    have t := arr3_rvs r1 r2 r3 r
    have key : (∃ x u, pk3 vs mz zs (k, i) = some x ∧ pk3 us mv ws (k, i) = some u ∧ RV G ρ H x u) ∨ (pk3 vs mz zs (k, i) = none ∧ pk3 us mv ws (k, i) = none) := by
      unfold pk3
      match k with
      | 0 => exact rvs_at r1 i
      | 1 => exact rvs_at r2 i
      | k + 2 => exact rvs_at r3 i
    unfold arr3
    rcases key with ⟨x, u, h1, h2, h3⟩ | ⟨h1, h2⟩
    · rw [h1, h2]; exact .cons h3 t
    · rw [h1, h2]; exact t
end ML
end
section
namespace ML
open PySem PySem.Spec PyProof.Rows L2 He
inductive TyI where
  | bt (T : String) | own (c : Nat)
def tyI (y : VI) (h : Hi) : Option TyI := match y with
  | .non => some (.bt "NoneType")
  | .bl _ => some (.bt "bool")
  | .int _ => some (.bt "int")
  | .str _ => some (.bt "str")
  | .tup _ => some (.bt "tuple")
  | .ref n => match h[n]? with
    | some (.lst _) => some (.bt "list")
    | some (.scr _) => some (.bt "list")
    | some (.dic _) => some (.bt "dict")
    | some (.ins c _) => some (.own c)
    | _ => none
  | .glo _ => none
def boolR : Res VI → Res VI
  | .ok (.bl b) h => .ok (.bl b) h
  | .ex c n h => .ex c n h
  | _ => .err
def nfI (cs : List Nat) : Option TyI → Bool
  | some (.bt _) => true
  | some (.own c) => cs.contains c
  | none => false
def eCmpU (cs : List Nat) (tbl : Nat → Option MF) (f : Op2) (a b : ME) : ME := fun σ h => (a σ h).bind fun x h1 => (b σ h1).bind fun y h2 => match insC x h2 with
  | some c => match tbl c, nfI cs (tyI y h2) with
    | some g, true => boolR (g [x, y] h2)
    | _, _ => .err
  | none => ofO (f x y h2)
structure NfOk (K : PySem.W.Frag) (G : Gx) (cs : List Nat) (tbl : Nat → Option MF) : Prop where
  bt : ∀ c C g T, tbl c = some g → G.ct c = some C → T ∈ ["NoneType", "bool", "int", "str", "tuple", "list", "dict"] → PySem.W.notFirst K C (.type T) = true
  own : ∀ c C g c' C', tbl c = some g → G.ct c = some C → cs.contains c' = true → G.ct c' = some C' → PySem.W.notFirst K C (.ref C') = true
section
variable {G : Gx} {ρ : List Addr} {h : Hi} {H : Hp} {W : WX} {X : Cx} {A : Around} {e a b c o i v : Expr} {es : List Expr} {pos p pos' apos : Pos} {me mi mo ma mb mv : ME} {mr : MA} {tbl : Nat → Option MF} {σ : L2.St} {cs : List Nat} {f : Op2}
theorem looks_at {M : Model} {hp : Heap} {a : Addr} {ob : Obj} {t : Value} (e : hp.get? a = some ob) (ec : ob.cls = t) : PySem.W.Looks M hp (typeOf (.ref a)) t := fun A Q E s k q => wpAny_typeOf_ref (k _ _ e) (by rw [ec]; exact q)
theorem tyI_ok (hG : G.K = X.K) {pins : List (Addr × Obj)} {s : Shared} (I : Inv X pins σ H s) {y : VI} {x : V} {u : Value} (ag : Ag G ρ h H) (r : RV G ρ H y x) (ru : RelV x u) {T : TyI} (e : tyI y h = some T) :
    (∃ t, T = .bt t ∧ t ∈ ["NoneType", "bool", "int", "str", "tuple", "list", "dict"] ∧ PySem.W.Looks (model X.prog X.w) s.heap (typeOf u) (.type t)) ∨ (∃ c C, T = .own c ∧ G.ct c = some C ∧ PySem.W.Looks (model X.prog X.w) s.heap (typeOf u) (.ref C)) := by
  unfold tyI at e
  cases r with
  | non => cases e; cases (show u = Value.none from ru); exact .inl ⟨_, rfl, by simp, .now⟩
  | bl q => cases e; cases (show u = Value.bool q from ru); exact .inl ⟨_, rfl, by simp, .now⟩
  | int q => cases e; obtain ⟨t, z⟩ := (show ∃ t, u = Value.int q t from ru); subst z; exact .inl ⟨_, rfl, by simp, .now⟩
  | str q => cases e; obtain ⟨t, z⟩ := (show ∃ t, u = Value.str _ t from ru); subst z; exact .inl ⟨_, rfl, by simp, .now⟩
  | glo q => cases e
  | @tup xs ys ad t rs =>
    cases e
    cases (show u = Value.ref ad from ru)
    rw [hG] at t
    obtain ⟨its, _, ⟨ob, h1, h2, _⟩, _⟩ := I.tuple t
    exact .inl ⟨_, rfl, by simp, looks_at h1 h2⟩
  | @ref n ad q =>
    cases (show u = Value.ref ad from ru)
    dsimp only at e
    cases q1 : h[n]? with
    | none => rw [q1] at e; cases e
    | some ob =>
      rw [q1] at e
      cases ob with
      | lst xs =>
        cases e
        obtain ⟨ys, hy, _⟩ := ag.at_ q1 q
        obtain ⟨⟨ob, h1, h2⟩, _⟩ := tyV_is (T := "list") I (x := .ref ad) (v := .ref ad) rfl (.inl ⟨rfl, ys, .inl (.inl hy)⟩)
        exact .inl ⟨_, rfl, by simp, looks_at h1 h2⟩
      | scr xs =>
        cases e
        obtain ⟨ob, ys, hy, _⟩ := ag.at_ q1 q
        obtain ⟨⟨ob, h1, h2⟩, _⟩ := tyV_is (T := "list") I (x := .ref ad) (v := .ref ad) rfl (.inl ⟨rfl, ys, .inl (.inr ⟨_, hy⟩)⟩)
        exact .inl ⟨_, rfl, by simp, looks_at h1 h2⟩
      | dic xs =>
        cases e
        obtain ⟨ys, hy, _⟩ := ag.at_ q1 q
        obtain ⟨⟨ob, h1, h2⟩, _⟩ := tyV_is (T := "dict") I (x := .ref ad) (v := .ref ad) rfl (.inr (.inr (.inl ⟨rfl, .inl ⟨_, hy⟩⟩)))
        exact .inl ⟨_, rfl, by simp, looks_at h1 h2⟩
      | ins c fs =>
        cases e
        obtain ⟨C, dx, gs, hc, hH, rf⟩ := insAt ag q1 q
        obtain ⟨m, hF, ox, od, J⟩ := insC_look I hH
        exact .inr ⟨c, C, rfl, hc, J.type⟩
      | xd fs => cases e
theorem boolR_fin {Q : VK} {W : Value → Option Addr → Hp → Prop} (r : Res VI) (fr : FinG G ρ H (RV G) Q W (boolR r)) : FinG G ρ H (RV G) (fun x H' => ∃ b, x = V.bl b ∧ Q x H') W r := by
  cases r with
  | ok v h' =>
    cases v with
    | bl b =>
      intro ρ' H' x st ag' rx
      cases rx
      exact ⟨b, rfl, fr ρ' H' _ st ag' (.bl b)⟩
    | _ => exact fr.elim
  | ex c n h' => exact fr
  | err => exact fr.elim
def RdU (G : Gx) (W : WX) (σ : L2.St) (cs : List Nat) (tbl : Nat → Option MF) (f : Op2) (Q : VK) (x y : V) (H2 : Hp) : Prop :=
  rd2 G f x y H2 Q ∨ ∃ ρ2 h2 xi yi cn g, Ag G ρ2 h2 H2 ∧ RV G ρ2 H2 xi x ∧ RV G ρ2 H2 yi y ∧ insC xi h2 = some cn ∧ tbl cn = some g ∧ nfI cs (tyI yi h2) = true ∧ FinG G ρ2 H2 (RV G) Q (fun c d H' => W c d σ H') (boolR (g [xi, yi] h2))
theorem cmpU_rd {Q : VK} (q : rdE G W (eCmpU cs tbl f ma mb) σ H Q) : rdE G W ma σ H fun x H1 => rdE G W mb σ H1 fun y H2 => RdU G W σ cs tbl f Q x y H2 := by
  obtain ⟨ρ, σi, h, as, ag, fin⟩ := q
  exact rdG_go as ag fin fun ρ1 H1 h1 x x' st as ag r f => rdG_go as ag f fun ρ2 H2 h2 y y' st2 as ag rs f => by
      cases q1 : insC x h2 with
      | none => rw [q1] at f; exact .inl ⟨ρ2, h2, x, y, ag, r.mono st2, rs, FinO.of f⟩
      | some cn =>
        rw [q1] at f
        dsimp only at f
        cases q2 : tbl cn with
        | none => rw [q2] at f; exact f.elim
        | some g =>
          rw [q2] at f
          cases q3 : nfI cs (tyI y h2) with
          | false => rw [q3] at f; exact f.elim
          | true => rw [q3] at f; exact .inr ⟨ρ2, h2, x, y, cn, g, ag, r.mono st2, rs, q1, q2, q3, f⟩
theorem cmpU_run {op : CmpOp} {nm : Str} (hop : ∀ a b, compareOp op a b = richCompare op a b) (hnm : (cmpInfo op).2.1 = nm) (hG : G.K = X.K) (hu : X.A.units < cLine) (sp : SpOk X X.A G W tbl nm) (nf : NfOk X.K G cs tbl) (ho : OpR X (compareOp op) (rd2 G f))
    {pins : List (Addr × Obj)} {s2 : Shared} {H2 : Hp} {x y : V} {v u : Value} {Q : VK} (I2 : Inv X pins σ H2 s2) (rx : RelV x v) (ry : RelV y u) (q : RdU G W σ cs tbl f Q x y H2) : wpAny (model X.prog X.w) X.A (compareOp op v u) (EP X pins σ Q) X.xe s2 := by
  rcases q with q | ⟨ρ2, h2, xi, yi, cn, g, ag2, r1, r2, q1, q2, q3, fi⟩
  · exact ho pins s2 σ H2 x y v u Q I2 rx ry q
  · obtain ⟨ad, C, dx, gs, ex, hc, hH⟩ := insC_ok ag2 r1 q1
    subst ex
    obtain rfl : v = Value.ref ad := rx
    obtain ⟨f', k1, k2, k3, k4, k5⟩ := sp.at_ cn C g q2 hc
    obtain ⟨m, hF, ox, od, J⟩ := insC_look I2 hH
    have ty : ∃ t, PySem.W.Looks (model X.prog X.w) s2.heap (typeOf u) t ∧ PySem.W.notFirst X.K C t = true := by
      cases q4 : tyI yi h2 with
      | none => rw [q4] at q3; cases q3
      | some T =>
        rcases tyI_ok hG I2 ag2 r2 ry q4 with ⟨t, rfl, mt, lt⟩ | ⟨c', C', rfl, hc', lt⟩
        · exact ⟨_, lt, nf.bt cn C g t q2 hc mt⟩
        · rw [q4] at q3
          exact ⟨_, lt, nf.own cn C g c' C' q2 hc q3 hc'⟩
    obtain ⟨t, lt, nt⟩ := ty
    rw [hop]
    refine PySem.W.cmp_K (op := op) (tb := t) hu hF I2.ok.mod.kin J lt nt (by rw [hnm]; exact k2) k4 ?_
    have key := boolR_fin (G := G) (ρ := ρ2) (H := H2) (Q := Q) (W := fun c d H' => W c d σ H') (g [xi, yi] h2) fi
    refine wpAny_mono (k5 pins s2 σ H2 [.ref ad, u] [.ref ad, y] [xi, yi] ρ2 h2 _ I2 (.cons rfl (.cons ry .nil)) (.cons r1 (.cons r2 .nil)) ag2 key) (fun z s3 hz => ?_) fun _ _ z => z
    obtain ⟨x', H', I', rx', b, eb, q'⟩ := hz
    subst eb
    cases (show z = Value.bool b from rx')
    exact ⟨.bl b, H', I', rfl, q'⟩
theorem me_cmpU {op : CmpOp} {nm : Str} (hop : ∀ a b, compareOp op a b = richCompare op a b) (hnm : (cmpInfo op).2.1 = nm) (hG : G.K = X.K) (hu : X.A.units < cLine) (sp : SpOk X X.A G W tbl nm) (nf : NfOk X.K G cs tbl) (ho : OpR X (compareOp op) (rd2 G f)) (ha : PE X a (rdE G W ma)) (hb : PE X b (rdE G W mb))
    (hm : behindInMarks op b = false) : PE X (.Compare a [op] [b] pos) (rdE G W (eCmpU cs tbl f ma mb)) := ⟨fun pins s σ H Q I h =>
  wpAny_Compare1 (binT ha hb I (cmpU_rd h) fun v u s2 x y H2 I2 rx ry q => cmpU_run hop hnm hG hu sp nf ho I2 rx ry q) hm⟩
end
def nfB1 (K : PySem.W.Frag) (nm : Nat → Option Str) (x : Str) (cs : List Nat) : Bool := (["NoneType", "bool", "int", "str", "tuple", "list", "dict"].all fun T => PySem.W.notFirst K (ga K x) (.type T)) && cs.all fun c => match nm c with
  | some y => PySem.W.notFirst K (ga K x) (.ref (ga K y))
  | none => false
section
variable {K : PySem.W.Frag} {mg : Str → Option Value} {nm : Nat → Option Str} {cs : List Nat}
theorem nfOk_nil : NfOk K (GxOf K mg nm) cs (lkT ([] : List (Nat × MF))) := ⟨(fun _ _ _ _ h => nomatch h), (fun _ _ _ _ _ h => nomatch h)⟩
theorem nfOk_cons {c : Nat} {g : MF} {x : Str} {r : List (Nat × MF)} (hn : nm c = some x) (hB : nfB1 K nm x cs = true) (t : NfOk K (GxOf K mg nm) cs (lkT r)) : NfOk K (GxOf K mg nm) cs (lkT ((c, g) :: r)) := by
  obtain ⟨b1, b2⟩ := ba hB
  refine ⟨fun c' C w T h e m => ?_, fun c' C w d D h e k e2 => ?_⟩
  · rcases lkT_cons h with ⟨q1, q2⟩ | q
    · subst q1 q2
      rw [gx_ct e hn]
      exact List.all_eq_true.mp b1 T m
    · exact t.bt c' C w T q e m
  · rcases lkT_cons h with ⟨q1, q2⟩ | q
    · subst q1 q2
      rw [gx_ct e hn]
      have z := List.all_eq_true.mp b2 d (by simpa using k)
      cases q3 : nm d with
      | none => rw [q3] at z; cases z
      | some y =>
        rw [q3] at z
        rw [gx_ct e2 q3]
        exact z
    · exact t.own c' C w d D q e k e2
end
end ML
end
section
namespace ML
open PySem PySem.Spec PyProof.Rows L2 He
def flK : List (VI × VI) → Bool
  | [] => true
  | (_, v) :: r => flI v && flK r
def allK (kb : List (VI × VI)) : List (VI × VI) → Bool
  | [] => true
  | (k, v) :: r => match getD k kb with
    | some w => eqI v w && allK kb r
    | none => false
def fEqX : Op2 := fun x y h => match x, y with
  | .ref a, .ref b => match h[a]?, h[b]? with
    | some (.dic ka), some (.dic kb) => match flK ka && flK kb with
      | true => some (.bl (Nat.beq ka.length kb.length && allK kb ka), h)
      | false => none
    | _, _ => fEq x y h
  | _, _ => fEq x y h
section
variable {G : Gx} {ρ : List Addr} {h : Hi} {H : Hp} {X : Cx} {Q : VK}
theorem flK_get {b : VI} : ∀ {kvs : List (VI × VI)} {v : VI}, flK kvs = true → getD b kvs = some v → flI v = true
  | [], _, _, e => by cases e
  | (k, u) :: r, v, f, e => by
    unfold flK at f
    obtain ⟨f1, f2⟩ := Bool.and_eq_true_iff.mp f
    unfold getD at e
    split at e
    · cases e; exact f1
    · exact flK_get f2 e
theorem hits_ok {P : Program} {w : World} {A : Around} {s : Shared} {kb : List (VI × VI)} {lb : List (Key × V)} {vb : List (Key × Value)} (rb : RKs G ρ H kb lb) (vbr : KV lb vb) (fb : flK kb = true) :
    ∀ {ka : List (VI × VI)} {la : List (Key × V)} {va : List (Key × Value)}, RKs G ρ H ka la → KV la va → flK ka = true → PySem.W.KeqHitsP P w A s vb va (allK kb ka)
  | _, _, _, .nil, k, _ => by
    cases k
    exact .nil
  | _, _, _, .cons (a := a) (k := k) (v := v) (x := x) (as := as) (ks := ks) e r t, kv, f => by
    unfold flK at f
    obtain ⟨f1, f2⟩ := Bool.and_eq_true_iff.mp f
    unfold KV at kv
    cases kv with
    | @cons p q ps qs h1 tl =>
      obtain ⟨key, val⟩ := q
      obtain ⟨h2, h3⟩ := h1
      have h2' : k = key := h2
      subst h2'
      have g := RKs.getD (b := a) (l := k) e rb
      have rv := vbr.val k
      unfold allK
      cases z : getD a kb with
      | none =>
        rw [z] at g
        have g' : valV lb k = none := g
        rw [g'] at rv
        exact .miss rv.none_of
      | some u =>
        rw [z] at g
        obtain ⟨y, g1, g2⟩ := g
        have g1' : valV lb k = some y := g1
        rw [g1'] at rv
        obtain ⟨yv, hy, ry⟩ := rv.some_of
        have fu := flK_get fb z
        dsimp only
        rw [r.eqI g2 f1 fu]
        exact .hit hy (eqAt_V h3 ry (r.flat f1) (g2.flat fu)).eqP (hits_ok rb vbr fb t tl f2)
theorem beqN (n m : Nat) : (n == m) = Nat.beq n m := by
  cases q : Nat.beq n m with
  | true => simp [Nat.eq_of_beq_eq_true q]
  | false => simp [Nat.ne_of_beq_eq_false q]
theorem mo_eqX (hG : G.K = X.K) (hu : X.A.units + 64 < cLine) : OpR X (compareOp .Eq) (rd2 G fEqX) := fun pins s σ H x y v u Q I rx ry q => by
  obtain ⟨ρ, h, xi, yi, ag, r1, r2, f⟩ := q
  have old : FinO G ρ H (RV G) Q (fEq xi yi h) → wpAny (model X.prog X.w) X.A (compareOp .Eq v u) (EP X pins σ Q) X.xe s := fun f => mo_eq hG hu pins s σ H x y v u Q I rx ry ⟨ρ, h, xi, yi, ag, r1, r2, f⟩
  unfold fEqX at f
  cases r1 with
  | @ref n a q1 =>
    cases r2 with
    | @ref m b q2 =>
      dsimp only at f
      split at f
      · rename_i ka kb z1 z2
        cases fl : flK ka && flK kb with
        | false => rw [fl] at f; exact f.elim
        | true =>
          rw [fl] at f
          obtain ⟨fa, fb⟩ := Bool.and_eq_true_iff.mp fl
          obtain ⟨la, ha, ra⟩ := ag.at_ z1 q1
          obtain ⟨lb, hb, rb⟩ := ag.at_ z2 q2
          cases (show v = Value.ref a from rx)
          cases (show u = Value.ref b from ry)
          obtain ⟨_, ya, va, kva, da⟩ := (show ObjOk X.prog X.w H s.heap a (.dK la) from I.hok a _ ha)
          obtain ⟨_, yb, vb, kvb, db⟩ := (show ObjOk X.prog X.w H s.heap b (.dK lb) from I.hok b _ hb)
          refine PySem.W.rcP_dicts (knd := mixKind X.prog X.w) (r := allK kb ka) ya yb da db (by omega) (fun _ => hits_ok rb kvb fb ra kva fa) _ _ ?_
          have e : (va.length == vb.length) = Nat.beq ka.length kb.length := by
            rw [ra.length, rb.length, kva.length, kvb.length]
            exact beqN _ _
          rw [e]
          exact ⟨.bl _, H, I, rfl, f.ok ag (.bl _)⟩
      · exact old f
    | _ => exact old (by simpa [fEqX] using f)
  | _ => exact old (by simpa [fEqX] using f)
end
end ML
end
section
namespace ML
open PySem L2
mutual
inductive RV2 (r : List Nat) : VI → VI → Prop
  | non : RV2 r .non .non
  | bl (b : Bool) : RV2 r (.bl b) (.bl b)
  | int (i : Int) : RV2 r (.int i) (.int i)
  | str (s : S) : RV2 r (.str s) (.str s)
  | glo (g : S) : RV2 r (.glo g) (.glo g)
  | ref {n m : Nat} (e : r[n]? = some m) : RV2 r (.ref n) (.ref m)
  | tup {xs ys : List VI} (t : RVs2 r xs ys) : RV2 r (.tup xs) (.tup ys)
inductive RVs2 (r : List Nat) : List VI → List VI → Prop
  | nil : RVs2 r [] []
  | cons {v x : VI} {vs xs : List VI} (h : RV2 r v x) (t : RVs2 r vs xs) : RVs2 r (v :: vs) (x :: xs)
end
structure Ex2 (r : List Nat) (h : Hi) (r' : List Nat) (h' : Hi) : Prop where
  more : ∃ q, r' = r ++ q ∧ ∀ m ∈ q, h.length ≤ m
  len : h.length ≤ h'.length
  rest : ∀ m, m ∉ r → m < h.length → h'[m]? = h[m]?
theorem Ex2.refl {r : List Nat} {h : Hi} : Ex2 r h r h := ⟨⟨[], by simp, fun _ z => by cases z⟩, Nat.le_refl _, fun _ _ _ => rfl⟩
theorem Ex2.pre {r r' : List Nat} {h h' : Hi} (e : Ex2 r h r' h') {n m : Nat} (q : r[n]? = some m) : r'[n]? = some m := by
  obtain ⟨l, rfl, _⟩ := e.more
  rw [List.getElem?_append_left (List.getElem?_eq_some_iff.mp q).1]
  exact q
theorem Ex2.trans {r r1 r2 : List Nat} {h h1 h2 : Hi} (a : Ex2 r h r1 h1) (b : Ex2 r1 h1 r2 h2) : Ex2 r h r2 h2 := by
  obtain ⟨l, rfl, hl⟩ := a.more
  obtain ⟨l2, rfl, hl2⟩ := b.more
  refine ⟨⟨l ++ l2, by simp, fun m hm => ?_⟩, Nat.le_trans a.len b.len, fun m hm hlt => ?_⟩
  · rcases List.mem_append.mp hm with z | z
    · exact hl m z
    · exact Nat.le_trans a.len (hl2 m z)
  · rw [b.rest m (fun z => ?_) (Nat.lt_of_lt_of_le hlt a.len)]
    · exact a.rest m hm hlt
    · rcases List.mem_append.mp z with z | z
      · exact hm z
      · exact absurd (hl m z) (Nat.not_le.mpr hlt)
section
variable {r r' : List Nat} {h h' : Hi}
mutual
theorem RV2.mono (e : Ex2 r h r' h') : ∀ {v x : VI}, RV2 r v x → RV2 r' v x
  | _, _, .non => .non
  | _, _, .bl b => .bl b
  | _, _, .int i => .int i
  | _, _, .str s => .str s
  | _, _, .glo g => .glo g
  | _, _, .ref q => .ref (e.pre q)
  | _, _, .tup t => .tup (RVs2.mono e t)
theorem RVs2.mono (e : Ex2 r h r' h') : ∀ {v x : List VI}, RVs2 r v x → RVs2 r' v x
  | _, _, .nil => .nil
  | _, _, .cons a t => .cons (RV2.mono e a) (RVs2.mono e t)
end
theorem RVs2.length : ∀ {v x : List VI}, RVs2 r v x → v.length = x.length
  | _, _, .nil => rfl
  | _, _, .cons _ t => by rw [List.length_cons, List.length_cons, t.length]
theorem RVs2.get : ∀ {v x : List VI} {i : Nat} {a : VI}, RVs2 r v x → v[i]? = some a → ∃ b, x[i]? = some b ∧ RV2 r a b
  | _, _, _, _, .nil, e => by simp at e
  | _, _, 0, _, .cons h _, e => by simp at e; subst e; exact ⟨_, rfl, h⟩
  | _, _, i + 1, _, .cons _ t, e => by
    obtain ⟨b, h1, h2⟩ := RVs2.get (i := i) t (by simpa using e)
    exact ⟨b, by simpa using h1, h2⟩
theorem RVs2.none {v x : List VI} {i : Nat} (t : RVs2 r v x) (e : v[i]? = none) : x[i]? = none := by
  rw [List.getElem?_eq_none_iff] at e ⊢
  rw [← t.length]
  exact e
theorem RVs2.append : ∀ {v w x y : List VI}, RVs2 r v x → RVs2 r w y → RVs2 r (v ++ w) (x ++ y)
  | _, _, _, _, .nil, k => k
  | _, _, _, _, .cons a t, k => .cons a (RVs2.append t k)
theorem RVs2.set : ∀ {v x : List VI} {a b : VI} (i : Nat), RVs2 r v x → RV2 r a b → RVs2 r (v.set i a) (x.set i b)
  | _, _, _, _, _, .nil, _ => .nil
  | _, _, _, _, 0, .cons _ t, k => .cons k t
  | _, _, _, _, i + 1, .cons a t, k => .cons a (RVs2.set i t k)
theorem RVs2.take : ∀ {v x : List VI} (n : Nat), RVs2 r v x → RVs2 r (v.take n) (x.take n)
  | _, _, 0, _ => .nil
  | _, _, _ + 1, .nil => .nil
  | _, _, n + 1, .cons a t => .cons a (RVs2.take n t)
theorem RVs2.drop : ∀ {v x : List VI} (n : Nat), RVs2 r v x → RVs2 r (v.drop n) (x.drop n)
  | _, _, 0, k => k
  | _, _, _ + 1, .nil => .nil
  | _, _, n + 1, .cons _ t => RVs2.drop n t
end
inductive RFs2 (r : List Nat) : List (S × VI) → List (S × VI) → Prop
  | nil : RFs2 r [] []
  | cons {f : S} {v x : VI} {fs gs : List (S × VI)} (h : RV2 r v x) (t : RFs2 r fs gs) : RFs2 r ((f, v) :: fs) ((f, x) :: gs)
inductive RKs2 (r : List Nat) : List (VI × VI) → List (VI × VI) → Prop
  | nil : RKs2 r [] []
  | cons {a b v x : VI} {fs gs : List (VI × VI)} (k : RV2 r a b) (h : RV2 r v x) (t : RKs2 r fs gs) : RKs2 r ((a, v) :: fs) ((b, x) :: gs)
inductive RO2 (r : List Nat) : OI → OI → Prop
  | lst {xs ys : List VI} (h : RVs2 r xs ys) : RO2 r (.lst xs) (.lst ys)
  | scr {xs ys : List VI} (h : RVs2 r xs ys) : RO2 r (.scr xs) (.scr ys)
  | dic {xs ys : List (VI × VI)} (h : RKs2 r xs ys) : RO2 r (.dic xs) (.dic ys)
  | ins {c : Nat} {xs ys : List (S × VI)} (h : RFs2 r xs ys) : RO2 r (.ins c xs) (.ins c ys)
  | xd {xs ys : List (S × VI)} (h : RFs2 r xs ys) : RO2 r (.xd xs) (.xd ys)
section
variable {r r' : List Nat} {h h' s : Hi}
theorem RFs2.mono (e : Ex2 r h r' h') : ∀ {v x : List (S × VI)}, RFs2 r v x → RFs2 r' v x
  | _, _, .nil => .nil
  | _, _, .cons a t => .cons (a.mono e) (RFs2.mono e t)
theorem RKs2.mono (e : Ex2 r h r' h') : ∀ {v x : List (VI × VI)}, RKs2 r v x → RKs2 r' v x
  | _, _, .nil => .nil
  | _, _, .cons k a t => .cons (k.mono e) (a.mono e) (RKs2.mono e t)
theorem RO2.mono (e : Ex2 r h r' h') : ∀ {v x : OI}, RO2 r v x → RO2 r' v x
  | _, _, .lst t => .lst (t.mono e)
  | _, _, .scr t => .scr (t.mono e)
  | _, _, .dic t => .dic (t.mono e)
  | _, _, .ins t => .ins (t.mono e)
  | _, _, .xd t => .xd (t.mono e)
theorem RFs2.length : ∀ {v x : List (S × VI)}, RFs2 r v x → v.length = x.length
  | _, _, .nil => rfl
  | _, _, .cons _ t => by rw [List.length_cons, List.length_cons, t.length]
theorem RKs2.length : ∀ {v x : List (VI × VI)}, RKs2 r v x → v.length = x.length
  | _, _, .nil => rfl
  | _, _, .cons _ _ t => by rw [List.length_cons, List.length_cons, t.length]
structure Ag2 (r : List Nat) (s h : Hi) : Prop where
  nd : r.Nodup
  len : r.length = s.length
  ob : ∀ (n : Nat) (o : OI), s[n]? = some o → ∃ (m : Nat) (o' : OI), r[n]? = some m ∧ h[m]? = some o' ∧ RO2 r o o'
theorem Ag2.at_ (a : Ag2 r s h) {n m : Nat} {o : OI} (e : s[n]? = some o) (p : r[n]? = some m) : ∃ o', h[m]? = some o' ∧ RO2 r o o' := by
  obtain ⟨m', o', h1, h2, h3⟩ := a.ob n o e
  rw [p] at h1
  cases h1
  exact ⟨o', h2, h3⟩
theorem Ag2.lt (a : Ag2 r s h) {m : Nat} (hm : m ∈ r) : m < h.length := by
  obtain ⟨n, hn, e⟩ := List.mem_iff_getElem.mp hm
  have hl : n < s.length := by rw [← a.len]; exact hn
  obtain ⟨m', o', h1, h2, _⟩ := a.ob n s[n] (by simp [hl])
  have : r[n]? = some r[n] := by simp [hn]
  rw [this] at h1
  cases h1
  rw [e] at h2
  exact (List.getElem?_eq_some_iff.mp h2).1
theorem Ag2.new (a : Ag2 r s h) {o o' : OI} (k : RO2 (r ++ [h.length]) o o') : Ag2 (r ++ [h.length]) (s ++ [o]) (h ++ [o']) ∧ Ex2 r h (r ++ [h.length]) (h ++ [o']) := by
  have ext : Ex2 r h (r ++ [h.length]) (h ++ [o']) := ⟨⟨[h.length], rfl, fun m hm => by rw [List.mem_singleton] at hm; omega⟩, by simp, fun m _ hlt => List.getElem?_append_left hlt⟩
  refine ⟨⟨?_, by simp [a.len], fun n u e => ?_⟩, ext⟩
  · rw [List.nodup_append]
    refine ⟨a.nd, by simp, fun x hx y hy => ?_⟩
    rw [List.mem_singleton] at hy
    have := a.lt hx
    omega
  · by_cases hn : n < s.length
    · rw [List.getElem?_append_left hn] at e
      obtain ⟨m, u', h1, h2, h3⟩ := a.ob n u e
      refine ⟨m, u', ext.pre h1, ?_, h3.mono ext⟩
      rw [List.getElem?_append_left (List.getElem?_eq_some_iff.mp h2).1]
      exact h2
    · have hle := Nat.le_of_not_lt hn
      rw [List.getElem?_append_right hle] at e
      have hz : n - s.length = 0 := by
        have := (List.getElem?_eq_some_iff.mp e).1
        simp at this
        omega
      rw [hz] at e
      simp at e
      subst e
      have : n = r.length := by rw [a.len]; omega
      exact ⟨h.length, o', by rw [this]; simp, by simp, k⟩
theorem Ag2.idx (a : Ag2 r s h) : (r ++ [h.length])[s.length]? = some h.length := by rw [← a.len]; simp
theorem Ag2.wr (a : Ag2 r s h) {n m : Nat} {u o o' : OI} (hn : s[n]? = some u) (p : r[n]? = some m) (k : RO2 r o o') : Ag2 r (s.set n o) (h.set m o') ∧ Ex2 r h r (h.set m o') := by
  have hm : m ∈ r := List.mem_of_getElem? p
  refine ⟨⟨a.nd, by simp [a.len], fun j v e => ?_⟩, ⟨⟨[], by simp, fun _ z => by cases z⟩, by simp, fun j hj hlt => List.getElem?_set_ne (by intro z; subst z; exact hj hm)⟩⟩
  rw [List.getElem?_set] at e
  by_cases hj : n = j
  · subst hj
    rw [if_pos rfl, if_pos (List.getElem?_eq_some_iff.mp hn).1] at e
    cases e
    exact ⟨m, o', p, List.getElem?_set_self (a.lt hm), k⟩
  · rw [if_neg hj] at e
    obtain ⟨m', v', h1, h2, h3⟩ := a.ob j v e
    refine ⟨m', v', h1, ?_, h3⟩
    rw [List.getElem?_set_ne]
    · exact h2
    · intro z
      subst z
      obtain ⟨l1, e1⟩ := List.getElem?_eq_some_iff.mp p
      obtain ⟨l2, e2⟩ := List.getElem?_eq_some_iff.mp h1
      have pw := List.pairwise_iff_getElem.mp a.nd
      rcases Nat.lt_trichotomy n j with l | l | l
      · exact pw n j l1 l2 l (e1.trans e2.symm)
      · exact hj l
      · exact pw j n l2 l1 l (e2.trans e1.symm)
structure AS2 (r : List Nat) (σ σ' : Sg) : Prop where
  len : σ.length = σ'.length
  at_ : ∀ (i : Nat) (v : VI), σ[i]? = some (some v) → ∃ x : VI, σ'[i]? = some (some x) ∧ RV2 r v x
theorem AS2.mono {σ σ' : Sg} (a : AS2 r σ σ') (e : Ex2 r h r' h') : AS2 r' σ σ' := ⟨a.len, fun i v q => let ⟨x, h1, h2⟩ := a.at_ i v q; ⟨x, h1, h2.mono e⟩⟩
theorem AS2.set {σ σ' : Sg} (a : AS2 r σ σ') {v x : VI} (k : RV2 r v x) (i : Nat) : AS2 r (σ.set i (some v)) (σ'.set i (some x)) := by
  refine ⟨by simp [a.len], fun j w e => ?_⟩
  rw [List.getElem?_set] at e ⊢
  by_cases hj : i = j
  · subst hj
    rw [if_pos rfl] at e ⊢
    by_cases hl : i < σ.length
    · rw [if_pos hl] at e
      rw [if_pos (by rw [← a.len]; exact hl)]
      cases e
      exact ⟨x, rfl, k⟩
    · rw [if_neg hl] at e; cases e
  · rw [if_neg hj] at e ⊢
    exact a.at_ j w e
theorem AS2.lose {σ σ' : Sg} (a : AS2 r σ σ') (i : Nat) : AS2 r (σ.set i none) (σ'.set i none) := by
  refine ⟨by simp [a.len], fun j w e => ?_⟩
  rw [List.getElem?_set] at e ⊢
  by_cases hj : i = j
  · subst hj
    rw [if_pos rfl] at e
    by_cases hl : i < σ.length
    · rw [if_pos hl] at e; cases e
    · rw [if_neg hl] at e; cases e
  · rw [if_neg hj] at e ⊢
    exact a.at_ j w e
def L2R {α : Type} (R : List Nat → α → α → Prop) (r : List Nat) (h : Hi) (a a' : Res α) : Prop := match a with
  | .ok v s' => ∃ r' h' v', a' = .ok v' h' ∧ Ex2 r h r' h' ∧ Ag2 r' s' h' ∧ R r' v v'
  | .ex c n s' => ∃ r' h' m, a' = .ex c m h' ∧ Ex2 r h r' h' ∧ Ag2 r' s' h' ∧ r'[n]? = some m
  | .err => True
def L2O {α : Type} (R : List Nat → α → α → Prop) (r : List Nat) (h : Hi) (a a' : Option (α × Hi)) : Prop := match a with
  | some (v, s') => ∃ r' h' v', a' = some (v', h') ∧ Ex2 r h r' h' ∧ Ag2 r' s' h' ∧ R r' v v'
  | none => True
theorem L2R.bind {α β : Type} {R : List Nat → α → α → Prop} {R' : List Nat → β → β → Prop} {a a' : Res α} {k k' : α → Hi → Res β} (h1 : L2R R r h a a')
    (h2 : ∀ r1 s1 h1 x x', Ex2 r h r1 h1 → Ag2 r1 s1 h1 → R r1 x x' → L2R R' r1 h1 (k x s1) (k' x' h1)) : L2R R' r h (a.bind k) (a'.bind k') := by
  cases a with
  | err => trivial
  | ex c n s' =>
    obtain ⟨r', h', m, rfl, e, g, q⟩ := h1
    exact ⟨r', h', m, rfl, e, g, q⟩
  | ok v s' =>
    obtain ⟨r', h', v', rfl, e, g, q⟩ := h1
    have t := h2 r' s' h' v v' e g q
    show L2R R' r h (k v s') (k' v' h')
    cases z : k v s' with
    | err => trivial
    | ex c n s2 => rw [z] at t; obtain ⟨r2, h2, m, e1, e2, g2, q2⟩ := t; exact ⟨r2, h2, m, e1, e.trans e2, g2, q2⟩
    | ok w s2 => rw [z] at t; obtain ⟨r2, h2, w', e1, e2, g2, q2⟩ := t; exact ⟨r2, h2, w', e1, e.trans e2, g2, q2⟩
theorem L2R.ok {α : Type} {R : List Nat → α → α → Prop} {v v' : α} (g : Ag2 r s h) (k : R r v v') : L2R R r h (.ok v s) (.ok v' h) := ⟨r, h, v', rfl, .refl, g, k⟩
theorem L2R.ofO {α : Type} {R : List Nat → α → α → Prop} {a a' : Option (α × Hi)} (h1 : L2O R r h a a') : L2R R r h (ofO a) (ofO a') := by
  cases a with
  | none => trivial
  | some p =>
    obtain ⟨v, s'⟩ := p
    obtain ⟨r', h', v', rfl, e, g, q⟩ := h1
    exact ⟨r', h', v', rfl, e, g, q⟩
theorem L2O.ok {α : Type} {R : List Nat → α → α → Prop} {v v' : α} (g : Ag2 r s h) (k : R r v v') : L2O R r h (some (v, s)) (some (v', h)) := ⟨r, h, v', rfl, .refl, g, k⟩
theorem L2O.new {o o' : OI} (g : Ag2 r s h) (k : ∀ r', Ex2 r h r' (h ++ [o']) → RO2 r' o o') : L2O RV2 r h (some (.ref s.length, s ++ [o])) (some (.ref h.length, h ++ [o'])) := by
  have e0 : Ex2 r h (r ++ [h.length]) (h ++ [o']) := ⟨⟨[h.length], rfl, fun m hm => by rw [List.mem_singleton] at hm; omega⟩, by simp, fun m _ hlt => List.getElem?_append_left hlt⟩
  obtain ⟨g', e⟩ := g.new (k _ e0)
  exact ⟨_, _, _, rfl, e, g', .ref g.idx⟩
theorem L2R.new {o o' : OI} (g : Ag2 r s h) (k : ∀ r', Ex2 r h r' (h ++ [o']) → RO2 r' o o') : L2R RV2 r h (.ok (.ref s.length) (s ++ [o])) (.ok (.ref h.length) (h ++ [o'])) := L2R.ofO (L2O.new g k)
end
class LF (f : MF) : Prop where
  run : ∀ r s h vs vs', Ag2 r s h → RVs2 r vs vs' → L2R RV2 r h (f vs s) (f vs' h)
class LE (m : ME) : Prop where
  run : ∀ r s h σ σ', Ag2 r s h → AS2 r σ σ' → L2R RV2 r h (m σ s) (m σ' h)
class LT (m : MT) : Prop where
  run : ∀ r s h σ σ', Ag2 r s h → AS2 r σ σ' → L2R (fun _ (a b : Bool) => a = b) r h (m σ s) (m σ' h)
class LA (m : MA) : Prop where
  run : ∀ r s h σ σ', Ag2 r s h → AS2 r σ σ' → L2R RVs2 r h (m σ s) (m σ' h)
class LO (m : MO) : Prop where
  run : ∀ r s h σ σ', Ag2 r s h → AS2 r σ σ' → L2R (fun _ (a b : Option Int) => a = b) r h (m σ s) (m σ' h)
class LOp (f : Op2) : Prop where
  run : ∀ r s h x y x' y', Ag2 r s h → RV2 r x x' → RV2 r y y' → L2O RV2 r h (f x y s) (f x' y' h)
class LOc (f : OpC) : Prop where
  run : ∀ r s h vs vs', Ag2 r s h → RVs2 r vs vs' → L2O RV2 r h (f vs s) (f vs' h)
class LOm (f : OpM) : Prop where
  run : ∀ r s h x x' vs vs', Ag2 r s h → RV2 r x x' → RVs2 r vs vs' → L2O RV2 r h (f x vs s) (f x' vs' h)
class CV (v : VI) : Prop where
  self : ∀ r, RV2 r v v
class CVs (v : List VI) : Prop where
  self : ∀ r, RVs2 r v v
instance : CV .non := ⟨fun _ => .non⟩
instance {b : Bool} : CV (.bl b) := ⟨fun _ => .bl b⟩
instance {b : Int} : CV (.int b) := ⟨fun _ => .int b⟩
instance {b : S} : CV (.str b) := ⟨fun _ => .str b⟩
instance {b : S} : CV (.glo b) := ⟨fun _ => .glo b⟩
instance : CVs [] := ⟨fun _ => .nil⟩
instance {v : VI} {vs : List VI} [a : CV v] [b : CVs vs] : CVs (v :: vs) := ⟨fun r => .cons (a.self r) (b.self r)⟩
instance {vs : List VI} [b : CVs vs] : CV (.tup vs) := ⟨fun r => .tup (b.self r)⟩
section
variable {ma mb mc : ME} {ta tb : MT} {aa : MA} {f g : Op2}
instance {i : Nat} : LE (eV i) := ⟨fun r s h σ σ' g a => by
  unfold eV
  cases e : σ[i]? with
  | none => trivial
  | some o =>
    cases o with
    | none => trivial
    | some v =>
      obtain ⟨x, h1, h2⟩ := a.at_ i v e
      rw [h1]
      exact .ok g h2⟩
instance {v : VI} [c : CV v] : LE (eC v) := ⟨fun r s h σ σ' g a => .ok g (c.self r)⟩
instance : LA aNil := ⟨fun r s h σ σ' g a => .ok g .nil⟩
instance [x : LE ma] [y : LA aa] : LA (aCons ma aa) := ⟨fun r s h σ σ' g a => (x.run r s h σ σ' g a).bind fun r1 s1 h1 v v' e1 g1 q1 => (y.run _ _ _ _ _ g1 (a.mono e1)).bind fun r2 s2 h2 vs vs' e2 g2 q2 => .ok g2 (.cons (q1.mono e2) q2)⟩
instance [y : LA aa] : LE (eTup aa) := ⟨fun r s h σ σ' g a => (y.run r s h σ σ' g a).bind fun r1 s1 h1 v v' e1 g1 q1 => by
  rw [q1.length]
  cases small v'.length with
  | true => exact .ok g1 (.tup q1)
  | false => trivial⟩
instance [y : LA aa] : LE (eLst aa) := ⟨fun r s h σ σ' g a => (y.run r s h σ σ' g a).bind fun r1 s1 h1 v v' e1 g1 q1 => by
  rw [q1.length]
  cases small v'.length with
  | true => exact .new g1 fun r' e => .lst (q1.mono e)
  | false => trivial⟩
instance [x : LE ma] [y : LE mb] [o : LOp f] : LE (eBin f ma mb) := ⟨fun r s h σ σ' g a => (x.run r s h σ σ' g a).bind fun r1 s1 h1 v v' e1 g1 q1 => (y.run _ _ _ _ _ g1 (a.mono e1)).bind fun r2 s2 h2 w w' e2 g2 q2 => .ofO (o.run _ _ _ _ _ _ _ g2 (q1.mono e2) q2)⟩
instance [x : LE ma] : LT (tOf ma) := ⟨fun r s h σ σ' g a => (x.run r s h σ σ' g a).bind fun r1 s1 h1 v v' e1 g1 q1 => by
  cases q1 with
  | bl b => exact .ok g1 rfl
  | _ => trivial⟩
instance [x : LT ta] [y : LT tb] : LT (tAndM ta tb) := ⟨fun r s h σ σ' g a => (x.run r s h σ σ' g a).bind fun r1 s1 h1 v v' e1 g1 q1 => by
  subst q1
  cases v with
  | true => exact y.run _ _ _ _ _ g1 (a.mono e1)
  | false => exact .ok g1 rfl⟩
instance [x : LT ta] [y : LT tb] : LT (tOrM ta tb) := ⟨fun r s h σ σ' g a => (x.run r s h σ σ' g a).bind fun r1 s1 h1 v v' e1 g1 q1 => by
  subst q1
  cases v with
  | false => exact y.run _ _ _ _ _ g1 (a.mono e1)
  | true => exact .ok g1 rfl⟩
instance [x : LT ta] : LT (tNotM ta) := ⟨fun r s h σ σ' g a => (x.run r s h σ σ' g a).bind fun r1 s1 h1 v v' e1 g1 q1 => by
  subst q1
  exact .ok g1 rfl⟩
instance : LT tYesM := ⟨fun r s h σ σ' g a => .ok g rfl⟩
instance [x : LE ma] [y : LE mb] : LE (eAnd ma mb) := ⟨fun r s h σ σ' g a => (x.run r s h σ σ' g a).bind fun r1 s1 h1 v v' e1 g1 q1 => by
  cases q1 with
  | bl b =>
    cases b with
    | true => exact y.run _ _ _ _ _ g1 (a.mono e1)
    | false => exact .ok g1 (.bl _)
  | _ => trivial⟩
instance [x : LE ma] [y : LE mb] : LE (eOr ma mb) := ⟨fun r s h σ σ' g a => (x.run r s h σ σ' g a).bind fun r1 s1 h1 v v' e1 g1 q1 => by
  cases q1 with
  | bl b =>
    cases b with
    | false => exact y.run _ _ _ _ _ g1 (a.mono e1)
    | true => exact .ok g1 (.bl _)
  | _ => trivial⟩
instance [x : LE ma] : LE (eNot ma) := ⟨fun r s h σ σ' g a => (x.run r s h σ σ' g a).bind fun r1 s1 h1 v v' e1 g1 q1 => by
  cases q1 with
  | bl b => exact .ok g1 (.bl _)
  | _ => trivial⟩
instance [x : LT ta] [y : LE ma] [z : LE mb] : LE (eIf ta ma mb) := ⟨fun r s h σ σ' g a => (x.run r s h σ σ' g a).bind fun r1 s1 h1 v v' e1 g1 q1 => by
  subst q1
  cases v with
  | true => exact y.run _ _ _ _ _ g1 (a.mono e1)
  | false => exact z.run _ _ _ _ _ g1 (a.mono e1)⟩
instance [x : LE ma] : LE (eNeg ma) := ⟨fun r s h σ σ' g a => (x.run r s h σ σ' g a).bind fun r1 s1 h1 v v' e1 g1 q1 => by
  cases q1 with
  | int b => exact .ok g1 (.int _)
  | _ => trivial⟩
instance [x : LE ma] [y : LE mb] [z : LE mc] [o : LOp f] [p : LOp g] : LE (eChain f g ma mb mc) := ⟨fun r s h σ σ' gg a => (x.run r s h σ σ' gg a).bind fun r1 s1 h1 v v' e1 g1 q1 => (y.run _ _ _ _ _ g1 (a.mono e1)).bind fun r2 s2 h2 w w' e2 g2 q2 =>
  (L2R.ofO (o.run _ _ _ _ _ _ _ g2 (q1.mono e2) q2)).bind fun r3 s3 h3 u u' e3 g3 q3 => by
    cases q3 with
    | bl b =>
      cases b with
      | true => exact (z.run _ _ _ _ _ g3 (((a.mono e1).mono e2).mono e3)).bind fun r4 s4 h4 t t' e4 g4 q4 => .ofO (p.run _ _ _ _ _ _ _ g4 ((q2.mono e3).mono e4) q4)
      | false => exact .ok g3 (.bl _)
    | _ => trivial⟩
instance {k : MF} [x : LF k] [y : LA aa] : LE (eCall k aa) := ⟨fun r s h σ σ' g a => (y.run r s h σ σ' g a).bind fun r1 s1 h1 v v' e1 g1 q1 => x.run _ _ _ _ _ g1 q1⟩
instance {k : OpC} [x : LOc k] [y : LA aa] : LE (eCB k aa) := ⟨fun r s h σ σ' g a => (y.run r s h σ σ' g a).bind fun r1 s1 h1 v v' e1 g1 q1 => .ofO (x.run _ _ _ _ _ g1 q1)⟩
instance {k : OpM} {d : Knd} [z : LE ma] [x : LOm k] [y : LA aa] : LE (eBM d k ma aa) := ⟨fun r s h σ σ' g a => (z.run r s h σ σ' g a).bind fun r1 s1 h1 v v' e1 g1 q1 => by
  have same : kOk d v s1 = true → kOk d v' h1 = true := fun q => by
    unfold kOk at q ⊢
    cases q1 with
    | str _ => exact q
    | @ref n m p =>
      dsimp only at q ⊢
      cases z : s1[n]? with
      | none => rw [z] at q; cases q
      | some o =>
        obtain ⟨o', k1, k2⟩ := g1.at_ z p
        rw [z] at q
        rw [k1]
        cases k2 <;> exact q
    | _ => exact q
  cases q : kOk d v s1 with
  | false => trivial
  | true =>
    rw [same q]
    exact (y.run _ _ _ _ _ g1 (a.mono e1)).bind fun r2 s2 h2 w w' e2 g2 q2 => .ofO (x.run _ _ _ _ _ _ _ g2 (q1.mono e2) q2)⟩
instance : LE eErr := ⟨fun r s h σ σ' g a => trivial⟩
instance : LO oNo := ⟨fun r s h σ σ' g a => .ok g rfl⟩
instance [x : LE ma] : LO (oSome ma) := ⟨fun r s h σ σ' g a => (x.run r s h σ σ' g a).bind fun r1 s1 h1 v v' e1 g1 q1 => by
  cases q1 with
  | int b => exact .ok g1 rfl
  | _ => trivial⟩
end
end ML
end
section
namespace ML
open PySem L2
section
variable {r r' : List Nat} {h h' s : Hi}
theorem keyEq2 {a b k l : VI} (p : RV2 r a b) (q : RV2 r k l) : keyEq b l = keyEq a k := by
  cases p <;> cases q <;> rfl
theorem isKey2 {a b : VI} (p : RV2 r a b) : isKey b = isKey a := by cases p <;> rfl
theorem flI2 {a b : VI} (p : RV2 r a b) : flI b = flI a := by cases p <;> rfl
theorem eqI2 {a b k l : VI} (p : RV2 r a b) (q : RV2 r k l) : eqI b l = eqI a k := by
  cases p <;> cases q <;> rfl
def ROp2 (r : List Nat) : Option VI → Option VI → Prop
  | some a, some b => RV2 r a b
  | none, none => True
  | _, _ => False
theorem getD2 {k l : VI} (q : RV2 r k l) : ∀ {xs ys : List (VI × VI)}, RKs2 r xs ys → ROp2 r (getD k xs) (getD l ys)
  | _, _, .nil => trivial
  | _, _, .cons p v t => by
    unfold getD
    rw [keyEq2 p q]
    split
    · exact v
    · exact getD2 q t
theorem hasD2 {k l : VI} (q : RV2 r k l) : ∀ {xs ys : List (VI × VI)}, RKs2 r xs ys → hasD l ys = hasD k xs
  | _, _, .nil => rfl
  | _, _, .cons p v t => by
    unfold hasD
    rw [keyEq2 p q, hasD2 q t]
theorem repD2 {k l v w : VI} (q : RV2 r k l) (u : RV2 r v w) : ∀ {xs ys : List (VI × VI)}, RKs2 r xs ys → RKs2 r (repD k v xs) (repD l w ys)
  | _, _, .nil => .nil
  | _, _, .cons p x t => by
    unfold repD
    rw [keyEq2 p q]
    split
    · exact .cons p u (repD2 q u t)
    · exact .cons p x (repD2 q u t)
theorem RKs2.append : ∀ {v w x y : List (VI × VI)}, RKs2 r v x → RKs2 r w y → RKs2 r (v ++ w) (x ++ y)
  | _, _, _, _, .nil, k => k
  | _, _, _, _, .cons a b t, k => .cons a b (RKs2.append t k)
theorem putD2 {k l v w : VI} (q : RV2 r k l) (u : RV2 r v w) {xs ys : List (VI × VI)} (t : RKs2 r xs ys) : RKs2 r (putD k v xs) (putD l w ys) := by
  unfold putD
  rw [hasD2 q t]
  split
  · exact repD2 q u t
  · exact t.append (.cons q u .nil)
theorem putAll2 : ∀ {ps qs xs ys : List (VI × VI)}, RKs2 r ps qs → RKs2 r xs ys → RKs2 r (putAll ps xs) (putAll qs ys)
  | _, _, _, _, .nil, t => t
  | _, _, _, _, .cons k v p, t => by
    unfold putAll
    exact putAll2 p (putD2 k v t)
theorem keysOk2 : ∀ {xs ys : List (VI × VI)}, RKs2 r xs ys → keysOk ys = keysOk xs
  | _, _, .nil => rfl
  | _, _, .cons p _ t => by unfold keysOk; rw [isKey2 p, keysOk2 t]
theorem inI2 {a b : VI} (p : RV2 r a b) : ∀ {xs ys : List VI}, RVs2 r xs ys → inI b ys = inI a xs
  | _, _, .nil => rfl
  | _, _, .cons q t => by unfold inI; rw [eqI2 q p, inI2 p t]
theorem alF2 : ∀ {xs ys : List VI}, RVs2 r xs ys → alF ys = alF xs
  | _, _, .nil => rfl
  | _, _, .cons q t => by unfold alF; rw [flI2 q, alF2 t]
theorem getF2 {f : S} : ∀ {xs ys : List (S × VI)}, RFs2 r xs ys → ROp2 r (getF f xs) (getF f ys)
  | _, _, .nil => trivial
  | _, _, .cons v t => by
    unfold getF
    split
    · exact v
    · exact getF2 t
theorem setF2 {f : S} {v w : VI} (u : RV2 r v w) : ∀ {xs ys : List (S × VI)}, RFs2 r xs ys → RFs2 r (setF f v xs) (setF f w ys)
  | _, _, .nil => .cons u .nil
  | _, _, .cons x t => by
    unfold setF
    split
    · exact .cons u t
    · exact .cons x (setF2 u t)
theorem datL2 {f g : VI → Option PyData} (e : ∀ v w d, RV2 r v w → f v = some d → g w = some d) : ∀ {xs ys : List VI} {ds : List PyData}, RVs2 r xs ys → datL f xs = some ds → datL g ys = some ds
  | _, _, _, .nil, q => q
  | _, _, _, .cons (v := v) (x := x) p t, q => by
    unfold datL at q ⊢
    cases z : f v with
    | none => rw [z] at q; cases q
    | some d =>
      rw [z] at q
      rw [e _ _ _ p z]
      dsimp only at q ⊢
      cases z2 : datL f _ with
      | none => rw [z2] at q; cases q
      | some ds =>
        rw [z2] at q
        rw [datL2 e t z2]
        exact q
theorem dat2 (a : Ag2 r s h) : ∀ (n : Nat) (v w : VI) (d : PyData), RV2 r v w → dat n s v = some d → dat n h w = some d
  | 0, _, _, _, _, q => by cases q
  | n + 1, v, w, d, p, q => by
    have ih := dat2 a n
    have lft : ∀ {xs ys : List VI} {F : List PyData → PyData}, RVs2 r xs ys → (datL (dat n s) xs).map F = some d → (datL (dat n h) ys).map F = some d := by
      intro xs ys F t k
      cases z : datL (dat n s) xs with
      | none => rw [z] at k; cases k
      | some ds => rw [z] at k; rw [datL2 ih t z]; exact k
    unfold dat at q ⊢
    cases p with
    | non => exact q
    | bl b => exact q
    | int i => exact q
    | str s => exact q
    | glo g => exact q
    | tup t => exact lft t q
    | @ref i m e =>
      dsimp only at q ⊢
      cases z : s[i]? with
      | none => rw [z] at q; cases q
      | some o =>
        obtain ⟨o', k1, k2⟩ := a.at_ z e
        rw [z] at q
        rw [k1]
        cases k2 with
        | lst t => exact lft t q
        | scr t => exact lft t q
        | dic _ => cases q
        | ins _ => cases q
        | xd _ => cases q
theorem eqD2 (a : Ag2 r s h) {x y x' y' : VI} {b : Bool} (p : RV2 r x x') (q : RV2 r y y') (e : eqD s x y = some b) : eqD h x' y' = some b := by
  unfold eqD at e ⊢
  cases z : dat 66 s x with
  | none => rw [z] at e; cases e
  | some d =>
    cases z2 : dat 66 s y with
    | none => rw [z, z2] at e; cases e
    | some d2 =>
      rw [z, z2] at e
      rw [dat2 a _ _ _ _ p z, dat2 a _ _ _ _ q z2]
      exact e
theorem inDl2 (a : Ag2 r s h) {x x' : VI} {ys ys' : List VI} {b : Bool} (p : RV2 r x x') (q : RVs2 r ys ys') (e : inDl s x ys = some b) : inDl h x' ys' = some b := by
  unfold inDl at e ⊢
  cases z : dat 66 s x with
  | none => rw [z] at e; cases e
  | some d =>
    cases z2 : datL (dat 65 s) ys with
    | none => rw [z, z2] at e; cases e
    | some d2 =>
      rw [z, z2] at e
      rw [dat2 a _ _ _ _ p z, datL2 (dat2 a 65) q z2]
      exact e
theorem inM2 (a : Ag2 r s h) {x y x' y' : VI} {b : Bool} (p : RV2 r x x') (q : RV2 r y y') (e : inM x y s = some b) : inM x' y' h = some b := by
  unfold inM at e ⊢
  cases q with
  | tup t =>
    dsimp only at e ⊢
    rw [flI2 p, alF2 t, inI2 p t]
    exact e
  | @ref i m pp =>
    dsimp only at e ⊢
    cases z : s[i]? with
    | none => rw [z] at e; cases e
    | some o =>
      obtain ⟨o', k1, k2⟩ := a.at_ z pp
      rw [z] at e
      rw [k1]
      cases k2 with
      | lst t =>
        dsimp only at e ⊢
        rw [flI2 p, alF2 t, inI2 p t]
        split at e
        · exact e
        · exact inDl2 a p t e
      | scr t =>
        dsimp only at e ⊢
        rw [flI2 p, alF2 t, inI2 p t]
        split at e
        · exact e
        · exact inDl2 a p t e
      | dic t =>
        dsimp only at e ⊢
        rw [isKey2 p]
        have k := getD2 p t
        split at e
        · rw [← e]
          cases z1 : getD x _ with
          | none => rw [z1] at k; cases z2 : getD x' _ with
            | none => rfl
            | some _ => rw [z2] at k; exact k.elim
          | some _ => rw [z1] at k; cases z2 : getD x' _ with
            | none => rw [z2] at k; exact k.elim
            | some _ => rfl
        · cases e
      | ins _ => cases e
      | xd _ => cases e
  | non => cases e
  | bl _ => cases e
  | int _ => cases e
  | str _ => cases e
  | glo _ => cases e
theorem ixL2 {xs ys : List VI} (t : RVs2 r xs ys) (i : Int) : ROp2 r (ixL xs i) (ixL ys i) := by
  unfold ixL
  rw [t.length]
  cases ixI ys.length i with
  | none => trivial
  | some j =>
    dsimp only
    cases z : xs[j]? with
    | none => rw [t.none z]; trivial
    | some v => obtain ⟨b, h1, h2⟩ := t.get z; rw [h1]; exact h2
theorem dropLast2 : ∀ {xs ys : List VI}, RVs2 r xs ys → RVs2 r xs.dropLast ys.dropLast
  | _, _, .nil => .nil
  | _, _, .cons _ .nil => .nil
  | _, _, .cons a (.cons b t) => .cons a (dropLast2 (.cons b t))
theorem isEmp2 {xs ys : List VI} (t : RVs2 r xs ys) : xs.isEmpty = ys.isEmpty := by cases t <;> rfl
theorem repL2 {xs ys : List VI} (t : RVs2 r xs ys) : ∀ n, RVs2 r (repL xs n) (repL ys n)
  | 0 => .nil
  | n + 1 => t.append (repL2 t n)
theorem cutI2 {xs ys : List VI} (t : RVs2 r xs ys) (lo hi : Option Int) : RVs2 r (cutI xs lo hi) (cutI ys lo hi) := by
  unfold cutI
  rw [t.length]
  exact (t.drop _).take _
theorem keys2 : ∀ {xs ys : List (VI × VI)}, RKs2 r xs ys → RVs2 r (xs.map (·.1)) (ys.map (·.1))
  | _, _, .nil => .nil
  | _, _, .cons a _ t => .cons a (keys2 t)
theorem vals2 : ∀ {xs ys : List (VI × VI)}, RKs2 r xs ys → RVs2 r (xs.map (·.2)) (ys.map (·.2))
  | _, _, .nil => .nil
  | _, _, .cons _ a t => .cons a (vals2 t)
theorem ints2 {α : Type} (f : α → Int) : ∀ l : List α, RVs2 r (l.map fun i => VI.int (f i)) (l.map fun i => VI.int (f i))
  | [] => .nil
  | _ :: l => .cons (.int _) (ints2 f l)
theorem rgI2 (a b : Int) : RVs2 r (rgI a b) (rgI a b) := ints2 (fun i : Nat => a + (i : Int)) _
theorem Ag2.no (a : Ag2 r s h) {n m : Nat} (p : r[n]? = some m) : ∃ o o', s[n]? = some o ∧ h[m]? = some o' ∧ RO2 r o o' := by
  have hn : n < s.length := by rw [← a.len]; exact (List.getElem?_eq_some_iff.mp p).1
  have e : s[n]? = some s[n] := by simp [hn]
  obtain ⟨o', h1, h2⟩ := a.at_ e p
  exact ⟨_, o', e, h1, h2⟩
theorem L2O.wr {n m : Nat} {u o o' : OI} {v w : VI} (g : Ag2 r s h) (hn : s[n]? = some u) (p : r[n]? = some m) (k : RO2 r o o') (q : RV2 r v w) : L2O RV2 r h (some (v, s.set n o)) (some (w, h.set m o')) := by
  obtain ⟨g', e⟩ := g.wr hn p k
  exact ⟨_, _, _, rfl, e, g', q⟩
instance : LOp fEq := ⟨fun r s h x y x' y' g p q => by
  unfold fEq
  cases z : eqD s x y with
  | none => trivial
  | some b => rw [eqD2 g p q z]; exact .ok g (.bl b)⟩
instance : LOp fNe := ⟨fun r s h x y x' y' g p q => by
  unfold fNe
  cases z : eqD s x y with
  | none => trivial
  | some b => rw [eqD2 g p q z]; exact .ok g (.bl _)⟩
instance : LOp fIn := ⟨fun r s h x y x' y' g p q => by
  unfold fIn
  cases z : inM x y s with
  | none => trivial
  | some b => rw [inM2 g p q z]; exact .ok g (.bl b)⟩
instance : LOp fNotIn := ⟨fun r s h x y x' y' g p q => by
  unfold fNotIn
  cases z : inM x y s with
  | none => trivial
  | some b => rw [inM2 g p q z]; exact .ok g (.bl _)⟩
instance : LOp fAdd := ⟨fun r s h x y x' y' g p q => by
  unfold fAdd
  cases p with
  | int i =>
    cases q with
    | int j => exact .ok g (.int _)
    | _ => trivial
  | str i =>
    cases q with
    | str j =>
      dsimp only
      split
      · exact .ok g (.str _)
      · trivial
    | _ => trivial
  | tup i =>
    cases q with
    | tup j =>
      dsimp only
      rw [i.length, j.length]
      split
      · exact .ok g (.tup (i.append j))
      · trivial
    | _ => trivial
  | ref i =>
    cases q with
    | ref j =>
      obtain ⟨o, o', e1, e2, e3⟩ := g.no i
      obtain ⟨u, u', f1, f2, f3⟩ := g.no j
      dsimp only
      rw [e1, e2, f1, f2]
      cases e3 with
      | lst t =>
        cases f3 with
        | lst t2 =>
          dsimp only
          rw [t.length, t2.length]
          split
          · exact .new g fun r' e => .lst ((t.mono e).append (t2.mono e))
          · trivial
        | _ => trivial
      | _ => trivial
    | _ => trivial
  | _ => trivial⟩
instance : LOp fSub := ⟨fun r s h x y x' y' g p q => by
  unfold fSub
  cases p <;> cases q <;> first | trivial | exact .ok g (.int _)⟩
instance : LOp fMul := ⟨fun r s h x y x' y' g p q => by
  unfold fMul
  cases p with
  | int i =>
    cases q with
    | int j =>
      dsimp only
      split
      · exact .ok g (.int _)
      · trivial
    | _ => trivial
  | tup i =>
    cases q with
    | int j =>
      dsimp only
      rw [isEmp2 i, i.length]
      split
      · exact .ok g (.tup (repL2 i _))
      · trivial
    | _ => trivial
  | ref i =>
    cases q with
    | int j =>
      obtain ⟨o, o', e1, e2, e3⟩ := g.no i
      dsimp only
      rw [e1, e2]
      cases e3 with
      | lst t =>
        dsimp only
        rw [t.length]
        split
        · exact .new g fun r' e => .lst (repL2 (t.mono e) _)
        · trivial
      | _ => trivial
    | _ => trivial
  | _ => trivial⟩
instance : LOp fMod := ⟨fun r s h x y x' y' g p q => by
  unfold fMod
  cases p with
  | int i =>
    cases q with
    | int j =>
      dsimp only
      split
      · exact .ok g (.int _)
      · trivial
    | _ => trivial
  | _ => trivial⟩
instance : LOp fFdiv := ⟨fun r s h x y x' y' g p q => by
  unfold fFdiv
  cases p with
  | int i =>
    cases q with
    | int j =>
      dsimp only
      split
      · exact .ok g (.int _)
      · trivial
    | _ => trivial
  | _ => trivial⟩
instance : LOp fPow := ⟨fun r s h x y x' y' g p q => by
  unfold fPow
  cases p with
  | int i =>
    cases q with
    | int j =>
      dsimp only
      split
      · exact .ok g (.int _)
      · trivial
    | _ => trivial
  | _ => trivial⟩
instance {f : Int → Int → Bool} : LOp (fInt f) := ⟨fun r s h x y x' y' g p q => by
  unfold fInt
  cases p <;> cases q <;> first | trivial | exact .ok g (.bl _)⟩
instance : LOp fLt := inferInstanceAs (LOp (fInt _))
instance : LOp fLe := inferInstanceAs (LOp (fInt _))
instance : LOp fGt := inferInstanceAs (LOp (fInt _))
instance : LOp fGe := inferInstanceAs (LOp (fInt _))
instance : LOp fIsN := ⟨fun r s h x y x' y' g p q => by
  unfold fIsN
  cases q <;> first | trivial | (cases p <;> exact .ok g (.bl _))⟩
instance : LOp fNotN := ⟨fun r s h x y x' y' g p q => by
  unfold fNotN
  cases q <;> first | trivial | (cases p <;> exact .ok g (.bl _))⟩
theorem L2O.op {a b : Option VI} (g : Ag2 r s h) (k : ROp2 r a b) : L2O RV2 r h (match (generalizing := false) a with | some v => some (v, s) | none => none) (match (generalizing := false) b with | some v => some (v, h) | none => none) := by
  cases a with
  | none => trivial
  | some v => cases b with
    | none => exact k.elim
    | some w => exact .ok g k
instance : LOp fIx := ⟨fun r s h x y x' y' g p q => by
  unfold fIx
  cases p with
  | tup t =>
    cases q with
    | int i => exact .op g (ixL2 t i)
    | _ => trivial
  | ref i =>
    obtain ⟨o, o', e1, e2, e3⟩ := g.no i
    dsimp only
    rw [e1, e2]
    cases e3 with
    | lst t =>
      cases q with
      | int i => exact .op g (ixL2 t i)
      | _ => trivial
    | scr t =>
      cases q with
      | int i => exact .op g (ixL2 t i)
      | _ => trivial
    | dic t =>
      dsimp only
      rw [isKey2 q]
      have k := getD2 q t
      cases isKey y with
      | false => trivial
      | true =>
        cases z1 : getD y _ with
        | none => trivial
        | some v => rw [z1] at k; cases z2 : getD y' _ with
          | none => rw [z2] at k; exact k.elim
          | some w => rw [z2] at k; exact .ok g k
    | _ => trivial
  | _ => trivial⟩
instance : LOc cLen := ⟨fun r s h vs vs' g t => by
  unfold cLen
  cases t with
  | nil => trivial
  | cons p t =>
    cases t with
    | cons _ _ => cases p <;> trivial
    | nil =>
      cases p with
      | tup t => dsimp only; rw [t.length]; exact .ok g (.int _)
      | str x =>
        dsimp only
        split
        · exact .ok g (.int _)
        · trivial
      | ref i =>
        obtain ⟨o, o', e1, e2, e3⟩ := g.no i
        dsimp only
        rw [e1, e2]
        cases e3 with
        | lst t => dsimp only; rw [t.length]; exact .ok g (.int _)
        | scr t => dsimp only; rw [t.length]; exact .ok g (.int _)
        | dic t => dsimp only; rw [t.length]; exact .ok g (.int _)
        | _ => trivial
      | _ => trivial⟩
instance : LOc cInt := ⟨fun r s h vs vs' g t => by
  unfold cInt
  cases t with
  | nil => trivial
  | cons p t =>
    cases t with
    | cons _ _ => cases p <;> trivial
    | nil =>
      cases p with
      | int i => exact .ok g (.int _)
      | bl b => exact .ok g (.int _)
      | _ => trivial⟩
instance : LOc cMax := ⟨fun r s h vs vs' g t => by
  unfold cMax
  cases t with
  | nil => trivial
  | cons p t =>
    cases t with
    | nil => cases p <;> trivial
    | cons q t =>
      cases t with
      | cons _ _ => cases p <;> cases q <;> trivial
      | nil => cases p <;> cases q <;> first | trivial | exact .ok g (.int _)⟩
instance : LOc cMin := ⟨fun r s h vs vs' g t => by
  unfold cMin
  cases t with
  | nil => trivial
  | cons p t =>
    cases t with
    | nil => cases p <;> trivial
    | cons q t =>
      cases t with
      | cons _ _ => cases p <;> cases q <;> trivial
      | nil => cases p <;> cases q <;> first | trivial | exact .ok g (.int _)⟩
instance : LOc cList := ⟨fun r s h vs vs' g t => by
  unfold cList
  cases t with
  | nil => trivial
  | cons p t =>
    cases t with
    | cons _ _ => cases p <;> trivial
    | nil =>
      cases p with
      | tup t => exact .new g fun r' e => .lst (t.mono e)
      | ref i =>
        obtain ⟨o, o', e1, e2, e3⟩ := g.no i
        dsimp only
        rw [e1, e2]
        cases e3 with
        | lst t => exact .new g fun r' e => .lst (t.mono e)
        | scr t => exact .new g fun r' e => .lst (t.mono e)
        | dic t => exact .new g fun r' e => .lst ((keys2 t).mono e)
        | _ => trivial
      | _ => trivial⟩
instance : LOc cTuple := ⟨fun r s h vs vs' g t => by
  unfold cTuple
  cases t with
  | nil => trivial
  | cons p t =>
    cases t with
    | cons _ _ => cases p <;> trivial
    | nil =>
      cases p with
      | tup t => exact .ok g (.tup t)
      | ref i =>
        obtain ⟨o, o', e1, e2, e3⟩ := g.no i
        dsimp only
        rw [e1, e2]
        cases e3 with
        | lst t => exact .ok g (.tup t)
        | scr t => exact .ok g (.tup t)
        | _ => trivial
      | _ => trivial⟩
instance : LOc cDict := ⟨fun r s h vs vs' g t => by
  unfold cDict
  cases t with
  | nil => trivial
  | cons p t =>
    cases t with
    | cons _ _ => cases p <;> trivial
    | nil =>
      cases p with
      | ref i =>
        obtain ⟨o, o', e1, e2, e3⟩ := g.no i
        dsimp only
        rw [e1, e2]
        cases e3 with
        | dic t => exact .new g fun r' e => .dic (t.mono e)
        | _ => trivial
      | _ => trivial⟩
instance : LOm mAppend := ⟨fun r s h x x' vs vs' g p t => by
  unfold mAppend
  cases p with
  | ref i =>
    obtain ⟨o, o', e1, e2, e3⟩ := g.no i
    dsimp only
    rw [e1, e2]
    cases e3 with
    | lst l =>
      cases t with
      | nil => trivial
      | cons q t =>
        cases t with
        | cons _ _ => trivial
        | nil =>
          dsimp only
          rw [l.length]
          split
          · exact .wr g e1 i (.lst (l.append (.cons q .nil))) .non
          · trivial
    | _ => trivial
  | _ => trivial⟩
instance : LOm mExtend := ⟨fun r s h x x' vs vs' g p t => by
  unfold mExtend
  cases p with
  | ref i =>
    obtain ⟨o, o', e1, e2, e3⟩ := g.no i
    dsimp only
    rw [e1, e2]
    cases e3 with
    | lst l =>
      cases t with
      | nil => trivial
      | cons q t =>
        cases t with
        | cons _ _ => cases q <;> trivial
        | nil =>
          cases q with
          | ref j =>
            obtain ⟨u, u', f1, f2, f3⟩ := g.no j
            dsimp only
            rw [f1, f2]
            cases f3 with
            | lst l2 =>
              dsimp only
              rw [l.length, l2.length]
              split
              · exact .wr g e1 i (.lst (l.append l2)) .non
              · trivial
            | _ => trivial
          | _ => trivial
    | _ => trivial
  | _ => trivial⟩
instance : LOm mPop := ⟨fun r s h x x' vs vs' g p t => by
  unfold mPop
  cases p with
  | ref i =>
    obtain ⟨o, o', e1, e2, e3⟩ := g.no i
    dsimp only
    rw [e1, e2]
    cases e3 with
    | @lst xs ys l =>
      cases t with
      | cons _ _ => trivial
      | nil =>
        dsimp only
        cases z : xs[xs.length - 1]? with
        | none => trivial
        | some y =>
          obtain ⟨b, k1, k2⟩ := l.get z
          rw [← l.length, k1]
          exact .wr g e1 i (.lst (dropLast2 l)) k2
    | _ => trivial
  | _ => trivial⟩
end
end ML
end
section
namespace ML
open PySem L2
section
variable {r r' : List Nat} {h h' s : Hi}
def L2S (r : List Nat) (h : Hi) (a a' : RS) : Prop := match a with
  | .nx σ s' => ∃ r' h' σ', a' = .nx σ' h' ∧ Ex2 r h r' h' ∧ Ag2 r' s' h' ∧ AS2 r' σ σ'
  | .bk σ s' => ∃ r' h' σ', a' = .bk σ' h' ∧ Ex2 r h r' h' ∧ Ag2 r' s' h' ∧ AS2 r' σ σ'
  | .ct σ s' => ∃ r' h' σ', a' = .ct σ' h' ∧ Ex2 r h r' h' ∧ Ag2 r' s' h' ∧ AS2 r' σ σ'
  | .rt v s' => ∃ r' h' v', a' = .rt v' h' ∧ Ex2 r h r' h' ∧ Ag2 r' s' h' ∧ RV2 r' v v'
  | .ex c n σ s' => ∃ r' h' σ' m, a' = .ex c m σ' h' ∧ Ex2 r h r' h' ∧ Ag2 r' s' h' ∧ AS2 r' σ σ' ∧ r'[n]? = some m
  | .err => True
theorem L2S.ext {a a' : RS} (x : Ex2 r h r' h') (k : L2S r' h' a a') : L2S r h a a' := by
  cases a with
  | err => trivial
  | nx σ s' => obtain ⟨r2, h2, m, e1, e2, e3⟩ := k; exact ⟨r2, h2, m, e1, x.trans e2, e3⟩
  | bk σ s' => obtain ⟨r2, h2, m, e1, e2, e3⟩ := k; exact ⟨r2, h2, m, e1, x.trans e2, e3⟩
  | ct σ s' => obtain ⟨r2, h2, m, e1, e2, e3⟩ := k; exact ⟨r2, h2, m, e1, x.trans e2, e3⟩
  | rt σ s' => obtain ⟨r2, h2, m, e1, e2, e3⟩ := k; exact ⟨r2, h2, m, e1, x.trans e2, e3⟩
  | ex c n σ s' => obtain ⟨r2, h2, m, m2, e1, e2, e3⟩ := k; exact ⟨r2, h2, m, m2, e1, x.trans e2, e3⟩
theorem L2R.ext {α : Type} {R : List Nat → α → α → Prop} {a a' : Res α} (x : Ex2 r h r' h') (k : L2R R r' h' a a') : L2R R r h a a' := by
  cases a with
  | err => trivial
  | ok σ s' => obtain ⟨r2, h2, m, e1, e2, e3⟩ := k; exact ⟨r2, h2, m, e1, x.trans e2, e3⟩
  | ex c n s' => obtain ⟨r2, h2, m, e1, e2, e3⟩ := k; exact ⟨r2, h2, m, e1, x.trans e2, e3⟩
theorem L2S.nx {σ σ' : Sg} (g : Ag2 r s h) (a : AS2 r σ σ') : L2S r h (.nx σ s) (.nx σ' h) := ⟨_, _, _, rfl, .refl, g, a⟩
theorem L2R.bindS {α : Type} {R : List Nat → α → α → Prop} {a a' : Res α} {σ σ' : Sg} {k k' : α → Hi → RS} (h1 : L2R R r h a a') (as : AS2 r σ σ')
    (h2 : ∀ r1 s1 h1 x x', Ex2 r h r1 h1 → Ag2 r1 s1 h1 → R r1 x x' → L2S r1 h1 (k x s1) (k' x' h1)) : L2S r h (a.bindS σ k) (a'.bindS σ' k') := by
  cases a with
  | err => trivial
  | ex c n s' =>
    obtain ⟨r', h', m, rfl, e, g, q⟩ := h1
    exact ⟨r', h', σ', m, rfl, e, g, as.mono e, q⟩
  | ok v s' =>
    obtain ⟨r', h', v', rfl, e, g, q⟩ := h1
    exact (h2 r' s' h' v v' e g q).ext e
theorem L2S.andThen {a a' : RS} {f f' : MS} (k : L2S r h a a') (t : ∀ r1 s1 h1 σ σ', Ex2 r h r1 h1 → Ag2 r1 s1 h1 → AS2 r1 σ σ' → L2S r1 h1 (f σ s1) (f' σ' h1)) : L2S r h (a.andThen f) (a'.andThen f') := by
  cases a with
  | err => trivial
  | nx σ s' => obtain ⟨r2, h2, m, rfl, e2, e3, e4⟩ := k; exact (t _ _ _ _ _ e2 e3 e4).ext e2
  | bk σ s' => obtain ⟨r2, h2, m, rfl, e2, e3⟩ := k; exact ⟨r2, h2, m, rfl, e2, e3⟩
  | ct σ s' => obtain ⟨r2, h2, m, rfl, e2, e3⟩ := k; exact ⟨r2, h2, m, rfl, e2, e3⟩
  | rt σ s' => obtain ⟨r2, h2, m, rfl, e2, e3⟩ := k; exact ⟨r2, h2, m, rfl, e2, e3⟩
  | ex c n σ s' => obtain ⟨r2, h2, m, m2, rfl, e2, e3⟩ := k; exact ⟨r2, h2, m, m2, rfl, e2, e3⟩
theorem L2R.dropV {a a' : Res VI} {σ σ' : Sg} (k : L2R RV2 r h a a') (as : AS2 r σ σ') : L2S r h (dropV σ a) (dropV σ' a') := by
  cases a with
  | err => trivial
  | ok v s' => obtain ⟨r2, h2, m, rfl, e, g, _⟩ := k; exact ⟨r2, h2, σ', rfl, e, g, as.mono e⟩
  | ex c n s' => obtain ⟨r2, h2, m, rfl, e, g, q⟩ := k; exact ⟨r2, h2, σ', m, rfl, e, g, as.mono e, q⟩
end
class LS (m : MS) : Prop where
  run : ∀ r s h σ σ', Ag2 r s h → AS2 r σ σ' → L2S r h (m σ s) (m σ' h)
class LG (g : MG) : Prop where
  run : ∀ r s h σ σ' v v', Ag2 r s h → AS2 r σ σ' → RV2 r v v' → L2S r h (g v σ s) (g v' σ' h)
class LTb (tbl : Nat → Option MF) : Prop where
  run : ∀ c g, tbl c = some g → LF g
class CTb (tbl : Nat → Option VI) : Prop where
  run : ∀ c v, tbl c = some v → ∀ r, RV2 r v v
instance : LTb (lkT []) := ⟨fun c g e => by cases e⟩
instance {d : Nat} {x : MF} {l : List (Nat × MF)} [a : LF x] [b : LTb (lkT l)] : LTb (lkT ((d, x) :: l)) := ⟨fun c g e => by
  rcases lkT_cons e with ⟨_, rfl⟩ | q
  · exact a
  · exact b.run c g q⟩
instance : CTb (lkT []) := ⟨fun c g e => by cases e⟩
instance {d : Nat} {x : VI} {l : List (Nat × VI)} [a : CV x] [b : CTb (lkT l)] : CTb (lkT ((d, x) :: l)) := ⟨fun c g e => by
  rcases lkT_cons e with ⟨_, rfl⟩ | q
  · exact a.self
  · exact b.run c g q⟩
class CTs (tbl : S → Option VI) : Prop where
  run : ∀ c v, tbl c = some v → ∀ r, RV2 r v v
instance : CTs (lkS []) := ⟨fun c g e => by cases e⟩
instance {d : S} {x : VI} {l : List (S × VI)} [a : CV x] [b : CTs (lkS l)] : CTs (lkS ((d, x) :: l)) := ⟨fun c v e => by
  unfold lkS at e
  split at e
  · cases e; exact a.self
  · exact b.run c v e⟩
section
variable {ma mb mc : ME} {ta tb : MT} {aa ab : MA} {sa sb : MS} {ga : MG}
instance {cs : List Nat} {f : S} [x : LE ma] : LE (eFld cs f ma) := ⟨fun r s h σ σ' g a => (x.run r s h σ σ' g a).bind fun r1 s1 h1 v v' e1 g1 q1 => by
  cases q1 with
  | ref p =>
    obtain ⟨o, o', z1, z2, z3⟩ := g1.no p
    dsimp only
    rw [z1, z2]
    cases z3 with
    | @ins c xs ys t =>
      dsimp only
      have k := getF2 (f := f) t
      cases cs.contains c with
      | false => trivial
      | true =>
        cases w1 : getF f xs with
        | none => trivial
        | some v => cases w2 : getF f ys with
          | none => rw [w1, w2] at k; exact k.elim
          | some w => rw [w1, w2] at k; exact .ok g1 k
    | _ => trivial
  | _ => trivial⟩
instance {tbl : Nat → Option VI} {f : S} [c : CTb tbl] [x : LE ma] : LE (eCon tbl f ma) := ⟨fun r s h σ σ' g a => (x.run r s h σ σ' g a).bind fun r1 s1 h1 v v' e1 g1 q1 => by
  cases q1 with
  | ref p =>
    obtain ⟨o, o', z1, z2, z3⟩ := g1.no p
    dsimp only
    rw [z1, z2]
    cases z3 with
    | @ins d xs ys t =>
      dsimp only
      have k := getF2 (f := f) t
      cases w0 : tbl d with
      | none => trivial
      | some u =>
        cases w1 : getF f xs with
        | some v => trivial
        | none => cases w2 : getF f ys with
          | some _ => rw [w1, w2] at k; exact k.elim
          | none => exact .ok g1 (c.run _ _ w0 _)
    | _ => trivial
  | _ => trivial⟩
instance {tbl : Nat → Option MF} {f : S} [c : LTb tbl] [x : LE ma] [y : LA aa] : LE (eMeth tbl f ma aa) := ⟨fun r s h σ σ' g a => (x.run r s h σ σ' g a).bind fun r1 s1 h1 v v' e1 g1 q1 => by
  cases q1 with
  | ref p =>
    obtain ⟨o, o', z1, z2, z3⟩ := g1.no p
    dsimp only
    rw [z1, z2]
    cases z3 with
    | @ins d xs ys t =>
      dsimp only
      have k := getF2 (f := f) t
      cases w0 : tbl d with
      | none => trivial
      | some u =>
        cases w1 : getF f xs with
        | some v => trivial
        | none => cases w2 : getF f ys with
          | some _ => rw [w1, w2] at k; exact k.elim
          | none => exact (y.run _ _ _ _ _ g1 (a.mono e1)).bind fun r2 s2 h2 w w' e2 g2 q2 => (c.run _ _ w0).run _ _ _ _ _ g2 (.cons (.ref (e2.pre p)) q2)
    | _ => trivial
  | _ => trivial⟩
theorem L2R.okM {r : List Nat} {h : Hi} {a a' : Res VI} (k : L2R RV2 r h a a') : L2R RV2 r h (okM a) (okM a') := by
  cases a with
  | err => trivial
  | ok v s' => obtain ⟨r2, h2, m, rfl, e⟩ := k; exact ⟨r2, h2, m, rfl, e⟩
  | ex c n s' => trivial
instance {tbl : Nat → Option MF} [c : LTb tbl] [x : LE ma] : LE (eProp tbl ma) := ⟨fun r s h σ σ' g a => (x.run r s h σ σ' g a).bind fun r1 s1 h1 v v' e1 g1 q1 => by
  cases q1 with
  | ref p =>
    obtain ⟨o, o', z1, z2, z3⟩ := g1.no p
    dsimp only
    rw [z1, z2]
    cases z3 with
    | @ins d xs ys t =>
      dsimp only
      cases w0 : tbl d with
      | none => trivial
      | some u => exact ((c.run _ _ w0).run _ _ _ _ _ g1 (.cons (.ref p) .nil)).okM
    | _ => trivial
  | _ => trivial⟩
theorem mk2 {f : MF} [x : LF f] {c : Nat} {r : List Nat} {s h : Hi} {vs vs' : List VI} (g : Ag2 r s h) (q : Ex2 r h (r ++ [h.length]) (h ++ [.ins c []]) → RVs2 (r ++ [h.length]) vs vs') :
    L2R RV2 r h (match f vs (s ++ [.ins c []]) with | .ok .non h2 => .ok (.ref s.length) h2 | .ex c n h2 => .ex c n h2 | _ => .err) (match f vs' (h ++ [.ins c []]) with | .ok .non h2 => .ok (.ref h.length) h2 | .ex c n h2 => .ex c n h2 | _ => .err) := by
  obtain ⟨g', e⟩ := g.new (o := .ins c []) (o' := .ins c []) (.ins .nil)
  have k := x.run _ _ _ _ _ g' (q e)
  cases z : f vs (s ++ [.ins c []]) with
  | err => trivial
  | ex d n s2 => rw [z] at k; obtain ⟨r2, h2, m, k1, k2, k3, k4⟩ := k; rw [k1]; exact ⟨r2, h2, m, rfl, e.trans k2, k3, k4⟩
  | ok v s2 =>
    rw [z] at k
    obtain ⟨r2, h2, m, k1, k2, k3, k4⟩ := k
    rw [k1]
    cases k4 with
    | non => exact ⟨r2, h2, _, rfl, e.trans k2, k3, .ref (k2.pre g.idx)⟩
    | _ => trivial
instance {c : Nat} {f : MF} [x : LF f] : LF (mkM c f) := ⟨fun r s h vs vs' g q => mk2 g fun e => .cons (.ref g.idx) (q.mono e)⟩
class LK (k : MK) : Prop where
  run : ∀ r s h vs vs' zs zs', Ag2 r s h → RVs2 r vs vs' → RVs2 r zs zs' → L2R RV2 r h (k vs zs s) (k vs' zs' h)
class LAr (f : List VI → List VI → List VI) : Prop where
  run : ∀ r vs vs' zs zs', RVs2 r vs vs' → RVs2 r zs zs' → RVs2 r (f vs zs) (f vs' zs')
theorem pk32 {r : List Nat} {us us' ms ms' ws ws' : List VI} (a : RVs2 r us us') (b : RVs2 r ms ms') (c : RVs2 r ws ws') (q : Nat × Nat) : ROp2 r (pk3 us ms ws q) (pk3 us' ms' ws' q) := by
  have gt : ∀ {xs ys : List VI} (i : Nat), RVs2 r xs ys → ROp2 r xs[i]? ys[i]? := by
    intro xs ys i t
    cases z : xs[i]? with
    | none => rw [t.none z]; trivial
    | some v => obtain ⟨w, h1, h2⟩ := t.get z; rw [h1]; exact h2
  unfold pk3
  split
  · exact gt _ a
  · exact gt _ b
  · exact gt _ c
theorem arr32 {r : List Nat} {us us' ms ms' ws ws' : List VI} (a : RVs2 r us us') (b : RVs2 r ms ms') (c : RVs2 r ws ws') : ∀ se, RVs2 r (arr3 se us ms ws) (arr3 se us' ms' ws')
  | [] => .nil
  | q :: l => by
    have k := pk32 a b c q
    unfold arr3
    cases z : pk3 us ms ws q with
    | none => rw [z] at k; cases z2 : pk3 us' ms' ws' q with
      | none => exact arr32 a b c l
      | some _ => rw [z2] at k; exact k.elim
    | some v => rw [z] at k; cases z2 : pk3 us' ms' ws' q with
      | none => rw [z2] at k; exact k.elim
      | some w => rw [z2] at k; exact .cons k (arr32 a b c l)
instance {f : MF} {arr : List VI → List VI → List VI} [x : LF f] [y : LAr arr] : LK (fnK f arr) := ⟨fun r s h vs vs' zs zs' g p q => x.run _ _ _ _ _ g (y.run _ _ _ _ _ p q)⟩
instance {c : Nat} {f : MF} {arr : List VI → List VI → List VI} [x : LF f] [y : LAr arr] : LK (mkK c f arr) := ⟨fun r s h vs vs' zs zs' g p q => mk2 g fun e => y.run _ _ _ _ _ (.cons (.ref g.idx) (p.mono e)) (q.mono e)⟩
instance {n m : Nat} {k : MK} [x : LK k] [y : LA aa] [z : LA ab] : LE (eCallK n m k aa ab) := ⟨fun r s h σ σ' g a => (y.run r s h σ σ' g a).bind fun r1 s1 h1 v v' e1 g1 q1 => (z.run _ _ _ _ _ g1 (a.mono e1)).bind fun r2 s2 h2 w w' e2 g2 q2 => by
  rw [q1.length, q2.length]
  split
  · exact x.run _ _ _ _ _ _ _ g2 (q1.mono e2) q2
  · trivial⟩
theorem ins2 {r : List Nat} {s h : Hi} (g : Ag2 r s h) {x y : VI} (p : RV2 r x y) : insC y h = insC x s := by
  cases p with
  | ref i =>
    obtain ⟨o, o', z1, z2, z3⟩ := g.no i
    unfold insC
    dsimp only
    rw [z1, z2]
    cases z3 <;> rfl
  | _ => rfl
instance {tbl : Nat → Option MF} [c : LTb tbl] [x : LE ma] [y : LE mb] : LE (eIxU tbl ma mb) := ⟨fun r s h σ σ' g a => (x.run r s h σ σ' g a).bind fun r1 s1 h1 v v' e1 g1 q1 => (y.run _ _ _ _ _ g1 (a.mono e1)).bind fun r2 s2 h2 w w' e2 g2 q2 => by
  rw [ins2 g2 (q1.mono e2)]
  cases z : insC v s2 with
  | none => exact .ofO (LOp.run (f := fIx) _ _ _ _ _ _ _ g2 (q1.mono e2) q2)
  | some d =>
    dsimp only
    cases w0 : tbl d with
    | none => trivial
    | some u => exact (c.run _ _ w0).run _ _ _ _ _ g2 (.cons (q1.mono e2) (.cons q2 .nil))⟩
theorem putIx2 {r : List Nat} {s h s' : Hi} (g : Ag2 r s h) {x x' y y' z z' : VI} (p : RV2 r x x') (q : RV2 r y y') (k : RV2 r z z') (e : putIx x y z s = some s') : ∃ h', putIx x' y' z' h = some h' ∧ Ex2 r h r h' ∧ Ag2 r s' h' := by
  unfold putIx at e ⊢
  cases p with
  | ref i =>
    obtain ⟨o, o', z1, z2, z3⟩ := g.no i
    dsimp only at e ⊢
    rw [z1] at e
    rw [z2]
    cases z3 with
    | lst t =>
      cases q with
      | int j =>
        dsimp only at e ⊢
        rw [← t.length]
        split at e
        · cases e
          obtain ⟨a, b⟩ := g.wr z1 i (.lst (t.set _ k))
          exact ⟨_, rfl, b, a⟩
        · cases e
      | _ => cases e
    | dic t =>
      dsimp only at e ⊢
      rw [isKey2 q, ← t.length]
      split at e
      · cases e
        obtain ⟨a, b⟩ := g.wr z1 i (.dic (putD2 q k t))
        exact ⟨_, rfl, b, a⟩
      · cases e
    | _ => cases e
  | _ => cases e
theorem nxO2 {r : List Nat} {s h : Hi} {σ σ' : Sg} (g : Ag2 r s h) (as : AS2 r σ σ') {x x' y y' z z' : VI} (p : RV2 r x x') (q : RV2 r y y') (k : RV2 r z z') : L2S r h (nxO σ (putIx x y z s)) (nxO σ' (putIx x' y' z' h)) := by
  cases e : putIx x y z s with
  | none => trivial
  | some s' => obtain ⟨h', e1, e2, e3⟩ := putIx2 g p q k e; rw [e1]; exact ⟨_, _, _, rfl, e2, e3, as.mono e2⟩
instance {tbl : Nat → Option MF} [c : LTb tbl] [x : LE ma] [y : LE mb] : LG (gIxU tbl ma mb) := ⟨fun r s h σ σ' u u' g a q => (x.run r s h σ σ' g a).bindS a fun r1 s1 h1 v v' e1 g1 q1 => (y.run _ _ _ _ _ g1 (a.mono e1)).bindS (a.mono e1) fun r2 s2 h2 w w' e2 g2 q2 => by
  rw [ins2 g2 (q1.mono e2)]
  have a2 := (a.mono e1).mono e2
  cases z : insC v s2 with
  | none => exact nxO2 g2 a2 (q1.mono e2) q2 ((q.mono e1).mono e2)
  | some d =>
    dsimp only
    cases w0 : tbl d with
    | none => trivial
    | some f => exact ((c.run _ _ w0).run _ _ _ _ _ g2 (.cons (q1.mono e2) (.cons q2 (.cons ((q.mono e1).mono e2) .nil)))).dropV a2⟩
instance [x : LE ma] [y : LE mb] : LG (gIx ma mb) := ⟨fun r s h σ σ' u u' g a q => (x.run r s h σ σ' g a).bindS a fun r1 s1 h1 v v' e1 g1 q1 => (y.run _ _ _ _ _ g1 (a.mono e1)).bindS (a.mono e1) fun r2 s2 h2 w w' e2 g2 q2 => nxO2 g2 ((a.mono e1).mono e2) (q1.mono e2) q2 ((q.mono e1).mono e2)⟩
instance {i : Nat} : LG (gNm i) := ⟨fun r s h σ σ' u u' g a q => .nx g (a.set q i)⟩
theorem fld2 {r : List Nat} {s h : Hi} {σ σ' : Sg} {cs : List Nat} {f : S} {x x' y y' : VI} (g2 : Ag2 r s h) (as : AS2 r σ σ') (p : RV2 r x x') (q : RV2 r y y') : L2S r h
    (match (generalizing := false) x with | .ref n => (match (generalizing := false) s[n]? with | some (.ins c fs) => (match (generalizing := false) cs.contains c && Nat.blt fs.length 1000 with | true => .nx σ (s.set n (.ins c (setF f y fs))) | false => .err) | _ => .err) | _ => .err)
    (match (generalizing := false) x' with | .ref n => (match (generalizing := false) h[n]? with | some (.ins c fs) => (match (generalizing := false) cs.contains c && Nat.blt fs.length 1000 with | true => .nx σ' (h.set n (.ins c (setF f y' fs))) | false => .err) | _ => .err) | _ => .err) := by
  cases p with
  | ref i =>
    obtain ⟨o, o', z1, z2, z3⟩ := g2.no i
    dsimp only
    rw [z1, z2]
    cases z3 with
    | ins t =>
      dsimp only
      rw [t.length]
      split
      · obtain ⟨a, b⟩ := g2.wr z1 i (.ins (setF2 q t))
        exact ⟨_, _, _, rfl, b, a, as.mono b⟩
      · trivial
    | _ => trivial
  | _ => trivial
instance {cs : List Nat} {f : S} [x : LE ma] [y : LE mb] : LS (sFldM cs f ma mb) := ⟨fun r s h σ σ' g a => (y.run r s h σ σ' g a).bindS a fun r1 s1 h1 v v' e1 g1 q1 => (x.run _ _ _ _ _ g1 (a.mono e1)).bindS (a.mono e1) fun r2 s2 h2 w w' e2 g2 q2 => fld2 g2 ((a.mono e1).mono e2) q2 (q1.mono e2)⟩
instance {cs : List Nat} {f : S} [x : LE ma] : LG (gFld cs f ma) := ⟨fun r s h σ σ' u u' g a q => (x.run r s h σ σ' g a).bindS a fun r2 s2 h2 w w' e2 g2 q2 => fld2 g2 (a.mono e2) q2 (q.mono e2)⟩
instance [z : LE mc] [x : LE ma] [y : LE mb] : LS (sPut ma mb mc) := ⟨fun r s h σ σ' g a => (z.run r s h σ σ' g a).bindS a fun r0 s0 h0 u u' e0 g0 q0 => (x.run _ _ _ _ _ g0 (a.mono e0)).bindS (a.mono e0) fun r1 s1 h1 v v' e1 g1 q1 => (y.run _ _ _ _ _ g1 ((a.mono e0).mono e1)).bindS ((a.mono e0).mono e1) fun r2 s2 h2 w w' e2 g2 q2 => nxO2 g2 (((a.mono e0).mono e1).mono e2) (q1.mono e2) q2 ((q0.mono e1).mono e2)⟩
instance : LS sNx := ⟨fun r s h σ σ' g a => .nx g a⟩
instance : LS sErr := ⟨fun r s h σ σ' g a => trivial⟩
instance : LT tErr := ⟨fun r s h σ σ' g a => trivial⟩
instance : LS sBk := ⟨fun r s h σ σ' g a => ⟨_, _, _, rfl, .refl, g, a⟩⟩
instance : LS sCt := ⟨fun r s h σ σ' g a => ⟨_, _, _, rfl, .refl, g, a⟩⟩
instance : LS sRetN := ⟨fun r s h σ σ' g a => ⟨_, _, _, rfl, .refl, g, .non⟩⟩
instance [x : LS sa] [y : LS sb] : LS (sSeq sa sb) := ⟨fun r s h σ σ' g a => (x.run r s h σ σ' g a).andThen fun r1 s1 h1 t t' e1 g1 q1 => y.run _ _ _ _ _ g1 q1⟩
instance [x : LE ma] : LS (sRet ma) := ⟨fun r s h σ σ' g a => (x.run r s h σ σ' g a).bindS a fun r1 s1 h1 v v' e1 g1 q1 => ⟨_, _, _, rfl, .refl, g1, q1⟩⟩
instance [x : LE ma] : LS (sDrop ma) := ⟨fun r s h σ σ' g a => (x.run r s h σ σ' g a).bindS a fun r1 s1 h1 v v' e1 g1 q1 => .nx g1 (a.mono e1)⟩
instance [x : LT ta] [y : LS sa] [z : LS sb] : LS (sIf ta sa sb) := ⟨fun r s h σ σ' g a => (x.run r s h σ σ' g a).bindS a fun r1 s1 h1 v v' e1 g1 q1 => by
  subst q1
  cases v with
  | true => exact y.run _ _ _ _ _ g1 (a.mono e1)
  | false => exact z.run _ _ _ _ _ g1 (a.mono e1)⟩
instance [x : LE ma] [y : LG ga] : LS (sAsg ma ga) := ⟨fun r s h σ σ' g a => (x.run r s h σ σ' g a).bindS a fun r1 s1 h1 v v' e1 g1 q1 => y.run _ _ _ _ _ _ _ g1 (a.mono e1) q1⟩
instance {known : Nat → Bool} {i : Nat} {f : MF} [x : LF f] [y : LA aa] : LS (sSuper known i f aa) := ⟨fun r s h σ σ' g a => by
  unfold sSuper
  cases z : σ[i]? with
  | none => trivial
  | some o =>
    cases o with
    | none => trivial
    | some v =>
      obtain ⟨w, k1, k2⟩ := a.at_ i v z
      rw [k1]
      cases k2 with
      | ref p =>
        obtain ⟨o, o', z1, z2, z3⟩ := g.no p
        dsimp only
        rw [z1, z2]
        cases z3 with
        | ins t =>
          dsimp only
          split
          · exact (y.run _ _ _ _ _ g a).bindS a fun r1 s1 h1 v v' e1 g1 q1 => (x.run _ _ _ _ _ g1 (.cons (.ref (e1.pre p)) q1)).dropV (a.mono e1)
          · trivial
        | _ => trivial
      | _ => trivial⟩
instance {i j : Nat} [y : LA aa] : LS (sPar i j aa) := ⟨fun r s h σ σ' g a => (y.run r s h σ σ' g a).bindS a fun r1 s1 h1 v v' e1 g1 q1 => by
  cases q1 with
  | nil => trivial
  | cons p t => cases t with
    | nil => trivial
    | cons q t => cases t with
      | cons _ _ => trivial
      | nil => exact .nx g1 (((a.mono e1).set p i).set q j)⟩
instance {i j l : Nat} [y : LA aa] : LS (sPar3 i j l aa) := ⟨fun r s h σ σ' g a => (y.run r s h σ σ' g a).bindS a fun r1 s1 h1 v v' e1 g1 q1 => by
  cases q1 with
  | nil => trivial
  | cons p t => cases t with
    | nil => trivial
    | cons q t => cases t with
      | nil => trivial
      | cons u t => cases t with
        | cons _ _ => trivial
        | nil => exact .nx g1 ((((a.mono e1).set p i).set q j).set u l)⟩
end
end ML
end
section
set_option maxHeartbeats 400000
namespace ML
open PySem L2
section
variable {ma mb mc : ME} {ta tb : MT} {aa ab : MA} {sa sb : MS} {ga : MG}
instance {T : IsT} [x : LE ma] : LE (eIsi T ma) := ⟨fun r s h σ σ' g a => (x.run r s h σ σ' g a).bind fun r1 s1 h1 v v' e1 g1 q1 => by
  have same : isT T v' h1 = isT T v s1 := by
    unfold isT
    cases q1 with
    | ref i =>
      obtain ⟨o, o', z1, z2, z3⟩ := g1.no i
      dsimp only
      rw [z1, z2]
      cases z3 <;> rfl
    | _ => rfl
  rw [same]
  cases isT T v s1 with
  | none => trivial
  | some b => exact .ok g1 (.bl b)⟩
instance {tbl : S → Option VI} [c : CTs tbl] [x : LE ma] : LE (eKd tbl ma) := ⟨fun r s h σ σ' g a => (x.run r s h σ σ' g a).bind fun r1 s1 h1 v v' e1 g1 q1 => by
  cases q1 with
  | str y =>
    dsimp only
    cases z : tbl y with
    | none => trivial
    | some w => exact .ok g1 (c.run _ _ z _)
  | _ => trivial⟩
instance [x : LE ma] [y : LE mb] : LE (eTupRg ma mb) := ⟨fun r s h σ σ' g a => (x.run r s h σ σ' g a).bind fun r1 s1 h1 v v' e1 g1 q1 => (y.run _ _ _ _ _ g1 (a.mono e1)).bind fun r2 s2 h2 w w' e2 g2 q2 => by
  cases q1 with
  | int i => cases q2 with
    | int j =>
      dsimp only
      split
      · exact .ok g2 (.tup (rgI2 _ _))
      · trivial
    | _ => trivial
  | _ => trivial⟩
instance [x : LE ma] [y : LE mb] : LE (eLstRg ma mb) := ⟨fun r s h σ σ' g a => (x.run r s h σ σ' g a).bind fun r1 s1 h1 v v' e1 g1 q1 => (y.run _ _ _ _ _ g1 (a.mono e1)).bind fun r2 s2 h2 w w' e2 g2 q2 => by
  cases q1 with
  | int i => cases q2 with
    | int j =>
      dsimp only
      split
      · exact .new g2 fun r' e => .lst (rgI2 _ _)
      · trivial
    | _ => trivial
  | _ => trivial⟩
instance [y : LE mb] : LE (eTupRg1 mb) := ⟨fun r s h σ σ' g a => (y.run r s h σ σ' g a).bind fun r2 s2 h2 w w' e2 g2 q2 => by
  cases q2 with
  | int j =>
    dsimp only
    split
    · exact .ok g2 (.tup (rgI2 _ _))
    · trivial
  | _ => trivial⟩
instance [y : LE mb] : LE (eLstRg1 mb) := ⟨fun r s h σ σ' g a => (y.run r s h σ σ' g a).bind fun r2 s2 h2 w w' e2 g2 q2 => by
  cases q2 with
  | int j =>
    dsimp only
    split
    · exact .new g2 fun r' e => .lst (rgI2 _ _)
    · trivial
  | _ => trivial⟩
instance {lo hi : MO} [x : LE ma] [y : LO lo] [z : LO hi] : LE (eSl ma lo hi) := ⟨fun r s h σ σ' g a => (x.run r s h σ σ' g a).bind fun r1 s1 h1 v v' e1 g1 q1 => (y.run _ _ _ _ _ g1 (a.mono e1)).bind fun r2 s2 h2 w w' e2 g2 q2 => (z.run _ _ _ _ _ g2 ((a.mono e1).mono e2)).bind fun r3 s3 h3 u u' e3 g3 q3 => by
  subst q2 q3
  have p := (q1.mono e2).mono e3
  refine .ofO ?_
  unfold sliceM
  cases p with
  | tup t => exact .ok g3 (.tup (cutI2 t _ _))
  | ref i =>
    obtain ⟨o, o', z1, z2, z3⟩ := g3.no i
    dsimp only
    rw [z1, z2]
    cases z3 with
    | lst t => exact .new g3 fun r' e => .lst ((cutI2 t _ _).mono e)
    | scr t => exact .new g3 fun r' e => .lst ((cutI2 t _ _).mono e)
    | _ => trivial
  | _ => trivial⟩
instance [x : LE ma] [y : LE mb] [z : LE mc] : LE (eGet2 ma mb mc) := ⟨fun r s h σ σ' g a => (x.run r s h σ σ' g a).bind fun r1 s1 h1 v v' e1 g1 q1 => by
  cases q1 with
  | ref p =>
    obtain ⟨o, o', z1, z2, z3⟩ := g1.no p
    dsimp only
    rw [z1, z2]
    cases z3 with
    | dic t =>
      dsimp only
      exact (y.run _ _ _ _ _ g1 (a.mono e1)).bind fun r2 s2 h2 w w' e2 g2 q2 => (z.run _ _ _ _ _ g2 ((a.mono e1).mono e2)).bind fun r3 s3 h3 u u' e3 g3 q3 => by
        obtain ⟨o, o', k1, k2, k3⟩ := g3.no (e3.pre (e2.pre p))
        rw [k1, k2, isKey2 q2]
        cases k3 with
        | @dic xs ys t =>
          cases isKey w with
          | false => trivial
          | true =>
            dsimp only
            have k := getD2 (q2.mono e3) t
            cases w1 : getD w xs with
            | none => cases w2 : getD w' ys with
              | none => exact .ok g3 q3
              | some _ => rw [w1, w2] at k; exact k.elim
            | some _ => cases w2 : getD w' ys with
              | none => rw [w1, w2] at k; exact k.elim
              | some _ => rw [w1, w2] at k; exact .ok g3 k
        | _ => cases isKey w <;> trivial
    | _ => trivial
  | _ => trivial⟩
instance : LE eDisp0 := ⟨fun r s h σ σ' g a => .new g fun r' e => .dic .nil⟩
end
end ML
end
section
set_option maxHeartbeats 400000
namespace ML
open PySem L2
inductive RI2 (r : List Nat) : Itm → Itm → Prop
  | tup {xs ys : List VI} (t : RVs2 r xs ys) : RI2 r (.tup xs) (.tup ys)
  | lst {n m : Nat} (p : r[n]? = some m) : RI2 r (.lst n) (.lst m)
  | rng (lo : Int) (k : Nat) : RI2 r (.rng lo k) (.rng lo k)
  | enl {n m : Nat} (p : r[n]? = some m) : RI2 r (.enl n) (.enl m)
  | zip {n m n' m' : Nat} (p : r[n]? = some m) (q : r[n']? = some m') : RI2 r (.zip n n') (.zip m m')
  | zlt {n m : Nat} {xs ys : List VI} (p : r[n]? = some m) (t : RVs2 r xs ys) : RI2 r (.zlt n xs) (.zlt m ys)
class LI (m : MI) : Prop where
  run : ∀ r s h σ σ', Ag2 r s h → AS2 r σ σ' → L2R RI2 r h (m σ s) (m σ' h)
section
variable {r r' : List Nat} {h h' s : Hi}
theorem RI2.mono (e : Ex2 r h r' h') {a b : Itm} (k : RI2 r a b) : RI2 r' a b := by
  cases k with
  | tup t => exact .tup (t.mono e)
  | lst p => exact .lst (e.pre p)
  | rng a b => exact .rng a b
  | enl p => exact .enl (e.pre p)
  | zip p q => exact .zip (e.pre p) (e.pre q)
  | zlt p t => exact .zlt (e.pre p) (t.mono e)
def ROs2 (r : List Nat) : Option (List VI) → Option (List VI) → Prop
  | some a, some b => RVs2 r a b
  | none, none => True
  | _, _ => False
theorem listAt2 (g : Ag2 r s h) {n m : Nat} (p : r[n]? = some m) : ROs2 r (listAt n s) (listAt m h) := by
  obtain ⟨o, o', z1, z2, z3⟩ := g.no p
  unfold listAt
  rw [z1, z2]
  cases z3 with
  | lst t => exact t
  | scr t => exact t
  | _ => trivial
theorem gt2 {xs ys : List VI} (i : Nat) (t : RVs2 r xs ys) : ROp2 r xs[i]? ys[i]? := by
  cases z : xs[i]? with
  | none => rw [t.none z]; trivial
  | some v => obtain ⟨w, h1, h2⟩ := t.get z; rw [h1]; exact h2
def ROO2 (r : List Nat) : Option (Option VI) → Option (Option VI) → Prop
  | some a, some b => ROp2 r a b
  | none, none => True
  | _, _ => False
theorem nxt2 (g : Ag2 r s h) {a b : Itm} (k : RI2 r a b) (i : Nat) : ROO2 r (a.nxt i s) (b.nxt i h) := by
  cases k with
  | tup t => exact gt2 i t
  | @lst n m p =>
    have k := listAt2 g p
    show ROO2 r (match (generalizing := false) listAt n s with | some xs => some xs[i]? | none => none) (match (generalizing := false) listAt m h with | some xs => some xs[i]? | none => none)
    cases z1 : listAt n s with
    | none => cases z2 : listAt m h with
      | none => trivial
      | some _ => rw [z1, z2] at k; exact k.elim
    | some xs => cases z2 : listAt m h with
      | none => rw [z1, z2] at k; exact k.elim
      | some ys => rw [z1, z2] at k; exact gt2 i k
  | rng lo k =>
    unfold Itm.nxt
    dsimp only
    cases Nat.blt i k with
    | true => exact RV2.int (r := r) (lo + (i : Nat))
    | false => trivial
  | @enl n m p =>
    have k := listAt2 g p
    unfold Itm.nxt
    dsimp only
    cases z1 : listAt n s with
    | none => cases z2 : listAt m h with
      | none => trivial
      | some _ => rw [z1, z2] at k; exact k.elim
    | some xs => cases z2 : listAt m h with
      | none => rw [z1, z2] at k; exact k.elim
      | some ys =>
        rw [z1, z2] at k
        have j := gt2 i k
        dsimp only
        cases y1 : xs[i]? with
        | none => cases y2 : ys[i]? with
          | none => trivial
          | some _ => rw [y1, y2] at j; exact j.elim
        | some v => cases y2 : ys[i]? with
          | none => rw [y1, y2] at j; exact j.elim
          | some w => rw [y1, y2] at j; exact RV2.tup (r := r) (.cons (.int _) (.cons j .nil))
  | @zip n m n' m' p q =>
    have k := listAt2 g p
    have k' := listAt2 g q
    unfold Itm.nxt
    dsimp only
    cases z1 : listAt n s with
    | none => cases z2 : listAt m h with
      | none => trivial
      | some _ => rw [z1, z2] at k; exact k.elim
    | some xs => cases z2 : listAt m h with
      | none => rw [z1, z2] at k; exact k.elim
      | some ys =>
        rw [z1, z2] at k
        cases u1 : listAt n' s with
        | none => cases u2 : listAt m' h with
          | none => trivial
          | some _ => rw [u1, u2] at k'; exact k'.elim
        | some xs' => cases u2 : listAt m' h with
          | none => rw [u1, u2] at k'; exact k'.elim
          | some ys' =>
            rw [u1, u2] at k'
            have j := gt2 i k
            have j' := gt2 i k'
            dsimp only
            cases y1 : xs[i]? with
            | none => cases y2 : ys[i]? with
              | none => trivial
              | some _ => rw [y1, y2] at j; exact j.elim
            | some v => cases y2 : ys[i]? with
              | none => rw [y1, y2] at j; exact j.elim
              | some w =>
                rw [y1, y2] at j
                cases x1 : xs'[i]? with
                | none => cases x2 : ys'[i]? with
                  | none => trivial
                  | some _ => rw [x1, x2] at j'; exact j'.elim
                | some v => cases x2 : ys'[i]? with
                  | none => rw [x1, x2] at j'; exact j'.elim
                  | some w =>
                    rw [x1, x2] at j'
                    exact RV2.tup (r := r) (.cons j (.cons j' .nil))
  | @zlt n m xs' ys' p t =>
    have k := listAt2 g p
    unfold Itm.nxt
    dsimp only
    cases z1 : listAt n s with
    | none => cases z2 : listAt m h with
      | none => trivial
      | some _ => rw [z1, z2] at k; exact k.elim
    | some xs => cases z2 : listAt m h with
      | none => rw [z1, z2] at k; exact k.elim
      | some ys =>
        rw [z1, z2] at k
        have k : RVs2 r xs ys := k
        have j := gt2 i k
        have j' := gt2 i t
        dsimp only
        rw [k.length, t.length]
        cases (Nat.ble i ys.length && Nat.ble i ys'.length) with
        | false => trivial
        | true =>
          dsimp only
          cases y1 : xs[i]? with
          | none => cases y2 : ys[i]? with
            | none => trivial
            | some _ => rw [y1, y2] at j; exact j.elim
          | some v => cases y2 : ys[i]? with
            | none => rw [y1, y2] at j; exact j.elim
            | some w =>
              rw [y1, y2] at j
              cases x1 : xs'[i]? with
              | none => cases x2 : ys'[i]? with
                | none => trivial
                | some _ => rw [x1, x2] at j'; exact j'.elim
              | some v => cases x2 : ys'[i]? with
                | none => rw [x1, x2] at j'; exact j'.elim
                | some w =>
                  rw [x1, x2] at j'
                  exact RV2.tup (r := r) (.cons j (.cons j' .nil))
theorem fuel2 (g : Ag2 r s h) {a b : Itm} (k : RI2 r a b) : b.fuel h = a.fuel s := by
  have one : ∀ {n m : Nat}, r[n]? = some m → (match (generalizing := false) listAt m h with | some xs => xs.length | none => 0) = (match (generalizing := false) listAt n s with | some xs => xs.length | none => 0) := by
    intro n m p
    have k := listAt2 g p
    cases z1 : listAt n s with
    | none => cases z2 : listAt m h with
      | none => rfl
      | some _ => rw [z1, z2] at k; exact k.elim
    | some xs => cases z2 : listAt m h with
      | none => rw [z1, z2] at k; exact k.elim
      | some ys => rw [z1, z2] at k; exact k.length.symm
  cases k with
  | tup t => exact t.length.symm
  | lst p => exact one p
  | rng a b => rfl
  | enl p => exact one p
  | zip p q => exact one p
  | zlt p t => exact one p
theorem turns2 {ga : MG} {body : MS} [x : LG ga] [y : LS body] : ∀ (k i : Nat) (r : List Nat) (s h : Hi) (σ σ' : Sg) (a b : Itm), Ag2 r s h → AS2 r σ σ' → RI2 r a b → L2S r h (turns a ga body k i σ s) (turns b ga body k i σ' h)
  | 0, i, r, s, h, σ, σ', a, b, g, as, q => by
    have n := nxt2 g q i
    unfold turns
    cases z1 : a.nxt i s with
    | none => trivial
    | some o => cases z2 : b.nxt i h with
      | none => rw [z1, z2] at n; exact n.elim
      | some o' =>
        rw [z1, z2] at n
        cases o with
        | some _ => trivial
        | none => cases o' with
          | some _ => exact n.elim
          | none => exact .nx g as
  | k + 1, i, r, s, h, σ, σ', a, b, g, as, q => by
    have n := nxt2 g q i
    unfold turns
    cases z1 : a.nxt i s with
    | none => trivial
    | some o => cases z2 : b.nxt i h with
      | none => rw [z1, z2] at n; exact n.elim
      | some o' =>
        rw [z1, z2] at n
        cases o with
        | none => cases o' with
          | some _ => exact n.elim
          | none => exact .nx g as
        | some v => cases o' with
          | none => exact n.elim
          | some v' =>
            refine (x.run _ _ _ _ _ _ _ g as n).andThen fun r1 s1 h1 τ τ' e1 g1 a1 => ?_
            have t := y.run _ _ _ _ _ g1 a1
            cases w : body τ s1 with
            | err => trivial
            | nx σ2 s2 =>
              rw [w] at t
              obtain ⟨r2, h2, σ2', k1, k2, k3, k4⟩ := t
              rw [k1]
              exact (turns2 k (i + 1) _ _ _ _ _ _ _ k3 k4 ((q.mono e1).mono k2)).ext k2
            | ct σ2 s2 =>
              rw [w] at t
              obtain ⟨r2, h2, σ2', k1, k2, k3, k4⟩ := t
              rw [k1]
              exact (turns2 k (i + 1) _ _ _ _ _ _ _ k3 k4 ((q.mono e1).mono k2)).ext k2
            | bk σ2 s2 => rw [w] at t; obtain ⟨r2, h2, σ2', k1, k2⟩ := t; rw [k1]; exact ⟨r2, h2, σ2', rfl, k2⟩
            | rt σ2 s2 => rw [w] at t; obtain ⟨r2, h2, σ2', k1, k2⟩ := t; rw [k1]; exact ⟨r2, h2, σ2', rfl, k2⟩
            | ex c n σ2 s2 => rw [w] at t; obtain ⟨r2, h2, σ2', m, k1, k2⟩ := t; rw [k1]; exact ⟨r2, h2, σ2', m, rfl, k2⟩
instance {mi : MI} {ga : MG} {body : MS} [z : LI mi] [x : LG ga] [y : LS body] : LS (sFor mi ga body) := ⟨fun r s h σ σ' g a => (z.run r s h σ σ' g a).bindS a fun r1 s1 h1 v v' e1 g1 q1 => by
  rw [fuel2 g1 q1]
  exact turns2 _ _ _ _ _ _ _ _ _ g1 (a.mono e1) q1⟩
instance {ma : ME} [x : LE ma] : LI (iSeq ma) := ⟨fun r s h σ σ' g a => (x.run r s h σ σ' g a).bind fun r1 s1 h1 v v' e1 g1 q1 => by
  unfold seqOf
  cases q1 with
  | tup t => exact .ok g1 (.tup t)
  | @ref n m p =>
    have k := listAt2 g1 p
    dsimp only
    cases z1 : listAt n s1 with
    | none => trivial
    | some xs => cases z2 : listAt m h1 with
      | none => rw [z1, z2] at k; exact k.elim
      | some ys => exact .ok g1 (.lst p)
  | _ => trivial⟩
instance {ma : ME} [x : LE ma] : LI (iEnumM ma) := ⟨fun r s h σ σ' g a => (x.run r s h σ σ' g a).bind fun r1 s1 h1 v v' e1 g1 q1 => by
  unfold enlOf
  cases q1 with
  | @ref n m p =>
    have k := listAt2 g1 p
    dsimp only
    cases z1 : listAt n s1 with
    | none => trivial
    | some xs => cases z2 : listAt m h1 with
      | none => rw [z1, z2] at k; exact k.elim
      | some ys => exact .ok g1 (.enl p)
  | _ => trivial⟩
instance {ma : MA} [x : LA ma] : LI (iRng ma) := ⟨fun r s h σ σ' g a => (x.run r s h σ σ' g a).bind fun r1 s1 h1 v v' e1 g1 q1 => by
  cases q1 with
  | nil => trivial
  | cons p t => cases t with
    | nil => cases p with
      | int i =>
        unfold rngOf
        dsimp only
        split
        · exact .ok g1 (.rng _ _)
        · trivial
      | _ => trivial
    | cons q t => cases t with
      | cons _ _ => cases p <;> cases q <;> trivial
      | nil => cases p with
        | int i => cases q with
          | int j =>
            unfold rngOf
            dsimp only
            split
            · exact .ok g1 (.rng _ _)
            · trivial
          | _ => trivial
        | _ => cases q <;> trivial⟩
theorem putMany2 : ∀ (is : List Nat) {xs ys : List VI} {σ σ' τ : Sg}, RVs2 r xs ys → AS2 r σ σ' → putMany is xs σ = some τ → ∃ τ', putMany is ys σ' = some τ' ∧ AS2 r τ τ'
  | [], _, _, _, _, _, .nil, a, e => by cases e; exact ⟨_, rfl, a⟩
  | _ :: is, _, _, _, _, _, .cons p t, a, e => putMany2 is t (a.set p _) e
  | [], _, _, _, _, _, .cons _ _, _, e => by cases e
  | _ :: _, _, _, _, _, _, .nil, _, e => by cases e
theorem put2 (t : Tgt) {v v' : VI} {σ σ' τ : Sg} (p : RV2 r v v') (a : AS2 r σ σ') (e : t.put v σ = some τ) : ∃ τ', t.put v' σ' = some τ' ∧ AS2 r τ τ' := by
  cases t with
  | one i => cases e; exact ⟨_, rfl, a.set p i⟩
  | many is =>
    cases p with
    | tup t => exact putMany2 is t a e
    | _ => cases e
theorem wipe2 {σ σ' : Sg} (a : AS2 r σ σ') : ∀ l : List Nat, AS2 r (wipeM σ l) (wipeM σ' l)
  | [] => a
  | i :: l => (wipe2 a l).lose i
instance {t : Tgt} : LG (gTgt t) := ⟨fun r s h σ σ' v v' g a p => by
  unfold gTgt
  cases z : t.put v σ with
  | none => trivial
  | some τ => obtain ⟨τ', e1, e2⟩ := put2 t p a z; rw [e1]; exact .nx g e2⟩
theorem turnsC2 {t : Tgt} {vs : List Nat} {tt : MT} {el : ME} [x : LT tt] [y : LE el] : ∀ (k i : Nat) (r : List Nat) (s h s' : Hi) (σ σ' : Sg) (a b : Itm) (D D' : Nat), Ag2 r s h → AS2 r σ σ' → RI2 r a b → r[D]? = some D' →
    turnsC a t vs tt el D σ k i s = some s' → ∃ r' h', turnsC b t vs tt el D' σ' k i h = some h' ∧ Ex2 r h r' h' ∧ Ag2 r' s' h'
  | 0, i, r, s, h, s', σ, σ', a, b, D, D', g, as, q, d, e => by
    have n := nxt2 g q i
    unfold turnsC at e ⊢
    cases z1 : a.nxt i s with
    | none => rw [z1] at e; cases e
    | some o =>
      rw [z1] at e n
      cases o with
      | some _ => cases e
      | none => cases z2 : b.nxt i h with
        | none => rw [z2] at n; exact n.elim
        | some o' => cases o' with
          | some _ => rw [z2] at n; exact n.elim
          | none => cases e; exact ⟨r, h, rfl, .refl, g⟩
  | k + 1, i, r, s, h, s', σ, σ', a, b, D, D', g, as, q, d, e => by
    have n := nxt2 g q i
    unfold turnsC at e ⊢
    cases z1 : a.nxt i s with
    | none => rw [z1] at e; cases e
    | some o =>
      rw [z1] at e n
      cases z2 : b.nxt i h with
      | none => rw [z2] at n; exact n.elim
      | some o' =>
        rw [z2] at n
        cases o with
        | none => cases o' with
          | some _ => exact n.elim
          | none => cases e; exact ⟨r, h, rfl, .refl, g⟩
        | some v => cases o' with
          | none => exact n.elim
          | some v' =>
            dsimp only at e ⊢
            cases z3 : t.put v (wipeM σ vs) with
            | none => rw [z3] at e; cases e
            | some τ =>
              obtain ⟨τ', w1, w2⟩ := put2 t n (wipe2 as vs) z3
              rw [z3] at e
              rw [w1]
              dsimp only at e ⊢
              have tk := x.run _ _ _ _ _ g w2
              cases z4 : tt τ s with
              | err => rw [z4] at e; cases e
              | ex _ _ _ => rw [z4] at e; cases e
              | ok c s2 =>
                rw [z4] at tk e
                obtain ⟨r2, h2, c', k1, k2, k3, k4⟩ := tk
                subst k4
                rw [k1]
                cases c with
                | false =>
                  dsimp only at e ⊢
                  obtain ⟨r3, h3, j1, j2, j3⟩ := turnsC2 k (i + 1) _ _ _ _ _ _ _ _ _ _ k3 (as.mono k2) (q.mono k2) (k2.pre d) e
                  exact ⟨r3, h3, j1, k2.trans j2, j3⟩
                | true =>
                  dsimp only at e ⊢
                  have ek := y.run _ _ _ _ _ k3 (w2.mono k2)
                  cases z5 : el τ s2 with
                  | err => rw [z5] at e; cases e
                  | ex _ _ _ => rw [z5] at e; cases e
                  | ok u s3 =>
                    rw [z5] at ek e
                    obtain ⟨r3, h3, u', m1, m2, m3, m4⟩ := ek
                    rw [m1]
                    dsimp only at e ⊢
                    obtain ⟨o, o', v1, v2, v3⟩ := m3.no (m2.pre (k2.pre d))
                    rw [v1] at e
                    rw [v2]
                    cases v3 with
                    | lst l =>
                      dsimp only at e ⊢
                      rw [l.length] at e
                      cases z6 : small _ with
                      | false => rw [z6] at e; cases e
                      | true =>
                        rw [z6] at e
                        dsimp only at e ⊢
                        obtain ⟨g4, e4⟩ := m3.wr v1 (m2.pre (k2.pre d)) (.lst (l.append (.cons m4 .nil)))
                        obtain ⟨r5, h5, j1, j2, j3⟩ := turnsC2 k (i + 1) _ _ _ _ _ _ _ _ _ _ g4 (((as.mono k2).mono m2).mono e4) (((q.mono k2).mono m2).mono e4) (e4.pre (m2.pre (k2.pre d))) e
                        exact ⟨r5, h5, j1, ((k2.trans m2).trans e4).trans j2, j3⟩
                    | _ => cases e
instance {mi : MI} {t : Tgt} {vs : List Nat} {tt : MT} {el : ME} [z : LI mi] [x : LT tt] [y : LE el] : LE (eLc mi t vs tt el) := ⟨fun r s h σ σ' g a => (z.run r s h σ σ' g a).bind fun r1 s1 h1 v v' e1 g1 q1 => by
  obtain ⟨g2, e2⟩ := g1.new (o := .lst []) (o' := .lst []) (.lst .nil)
  rw [fuel2 g1 q1]
  cases w : turnsC v t vs tt el s1.length σ (v.fuel s1) 0 (s1 ++ [.lst []]) with
  | none => trivial
  | some s2 =>
    obtain ⟨r3, h3, j1, j2, j3⟩ := turnsC2 _ _ _ _ _ _ _ _ _ _ _ _ g2 ((a.mono e1).mono e2) (q1.mono e2) g1.idx w
    rw [j1]
    exact ⟨r3, h3, _, rfl, e2.trans j2, j3, .ref (j2.pre g1.idx)⟩⟩
class LPs (ps : List (ME × ME)) : Prop where
  run : ∀ r s h σ σ', Ag2 r s h → AS2 r σ σ' → L2R RKs2 r h (aPairs ps σ s) (aPairs ps σ' h)
instance : LPs [] := ⟨fun r s h σ σ' g a => .ok g .nil⟩
instance {k v : ME} {ps : List (ME × ME)} [x : LE k] [y : LE v] [z : LPs ps] : LPs ((k, v) :: ps) := ⟨fun r s h σ σ' g a => (x.run r s h σ σ' g a).bind fun r1 s1 h1 u u' e1 g1 q1 => (y.run _ _ _ _ _ g1 (a.mono e1)).bind fun r2 s2 h2 w w' e2 g2 q2 => (z.run _ _ _ _ _ g2 ((a.mono e1).mono e2)).bind fun r3 s3 h3 l l' e3 g3 q3 => .ok g3 (.cons ((q1.mono e2).mono e3) (q2.mono e3) q3)⟩
instance {ps : List (ME × ME)} [z : LPs ps] : LE (eDisp ps) := ⟨fun r s h σ σ' g a => by
  obtain ⟨g2, e2⟩ := g.new (o := .dic []) (o' := .dic []) (.dic .nil)
  refine L2R.ext e2 ((z.run _ _ _ _ _ g2 (a.mono e2)).bind fun r1 s1 h1 u u' e1 g1 q1 => ?_)
  have d := e1.pre g.idx
  obtain ⟨o, o', v1, v2, v3⟩ := g1.no d
  rw [v1, v2]
  cases v3 with
  | dic t =>
    cases t with
    | cons _ _ _ => trivial
    | nil =>
      dsimp only
      rw [keysOk2 q1, q1.length]
      split
      · obtain ⟨g4, e4⟩ := g1.wr v1 d (.dic (putAll2 q1 .nil))
        exact ⟨_, _, _, rfl, e4, g4, .ref d⟩
      · trivial
  | _ => trivial⟩
theorem nodup_inj {r : List Nat} (nd : r.Nodup) {i j m : Nat} (p : r[i]? = some m) (q : r[j]? = some m) : i = j := by
  obtain ⟨l1, e1⟩ := List.getElem?_eq_some_iff.mp p
  obtain ⟨l2, e2⟩ := List.getElem?_eq_some_iff.mp q
  have pw := List.pairwise_iff_getElem.mp nd
  rcases Nat.lt_trichotomy i j with l | l | l
  · exact absurd (e1.trans e2.symm) (pw i j l1 l2 l)
  · exact l
  · exact absurd (e2.trans e1.symm) (pw j i l2 l1 l)
theorem beq2 (g : Ag2 r s h) {i j m n : Nat} (p : r[i]? = some m) (q : r[j]? = some n) : Nat.beq m n = Nat.beq i j := by
  by_cases e : i = j
  · subst e
    rw [p] at q
    cases q
    rw [Nat.beq_refl, Nat.beq_refl]
  · have e' : m ≠ n := fun z => e (nodup_inj g.nd p (z ▸ q))
    have f1 : Nat.beq i j = false := by
      cases z : Nat.beq i j with
      | false => rfl
      | true => exact absurd (Nat.eq_of_beq_eq_true z) e
    have f2 : Nat.beq m n = false := by
      cases z : Nat.beq m n with
      | false => rfl
      | true => exact absurd (Nat.eq_of_beq_eq_true z) e'
    rw [f1, f2]
instance {e k v : ME} [x : LE e] [y : LE k] [z : LE v] : LE (eMrg e k v) := ⟨fun r s h σ σ' g a => by
  obtain ⟨g2, e2⟩ := g.new (o := .dic []) (o' := .dic []) (.dic .nil)
  refine L2R.ext e2 ((x.run _ _ _ _ _ g2 (a.mono e2)).bind fun r1 s1 h1 u u' e1 g1 q1 => ?_)
  have d := e1.pre g.idx
  obtain ⟨o, o', v1, v2, v3⟩ := g1.no d
  cases q1 with
  | @ref i j p =>
    dsimp only
    rw [beq2 g1 p d]
    obtain ⟨w, w', u1, u2, u3⟩ := g1.no p
    rw [v1, v2, u1, u2]
    cases Nat.beq i s.length with
    | true => trivial
    | false =>
      cases v3 with
      | dic t =>
        cases t with
        | cons _ _ _ => trivial
        | nil =>
          cases u3 with
          | dic t2 =>
            dsimp only
            rw [t2.length]
            cases small _ with
            | false => trivial
            | true =>
              dsimp only
              obtain ⟨g4, e4⟩ := g1.wr v1 d (.dic (putAll2 t2 .nil))
              obtain ⟨g5, e5⟩ := g4.new (o := .dic []) (o' := .dic []) (.dic .nil)
              have e45 := e4.trans e5
              refine L2R.ext e45 ?_
              have idx := g4.idx
              have D5 := e45.pre d
              unfold mrgTail
              have l1 : ∀ o : OI, (List.set s1 s.length o).length = s1.length := fun o => List.length_set
              have l2 : ∀ o : OI, (List.set h1 h.length o).length = h1.length := fun o => List.length_set
              refine (y.run _ _ _ _ _ g5 (((a.mono e2).mono e1).mono e45)).bind fun r6 s6 h6 ky ky' e6 g6 q6 => (z.run _ _ _ _ _ g6 ((((a.mono e2).mono e1).mono e45).mono e6)).bind fun r7 s7 h7 vz vz' e7 g7 q7 => ?_
              have D7 := e7.pre (e6.pre D5)
              have C7 := e7.pre (e6.pre idx)
              obtain ⟨o1, o1', a1, a2, a3⟩ := g7.no D7
              rw [l1, l2] at C7
              obtain ⟨o2, o2', b1, b2, b3⟩ := g7.no C7
              rw [isKey2 q6, a1, a2, b1, b2]
              cases isKey ky with
              | false => trivial
              | true =>
                cases a3 with
                | dic ta =>
                  cases b3 with
                  | dic tb =>
                    cases tb with
                    | cons _ _ _ => trivial
                    | nil =>
                      dsimp only
                      rw [ta.length]
                      cases small _ with
                      | false => trivial
                      | true =>
                        obtain ⟨g8, e8⟩ := g7.wr b1 C7 (.dic (.cons (q6.mono e7) q7 .nil))
                        have nb : ∃ o, (s7.set s1.length (OI.dic [(ky, vz)]))[s.length]? = some o := by
                          have : s.length < s7.length := (List.getElem?_eq_some_iff.mp a1).1
                          exact ⟨_, List.getElem?_eq_getElem (by simpa using this)⟩
                        obtain ⟨o9, n9⟩ := nb
                        obtain ⟨g9, e9⟩ := g8.wr n9 (e8.pre D7) (.dic (((putD2 (q6.mono e7) q7 ta))))
                        exact ⟨_, _, _, rfl, e8.trans e9, g9, .ref D7⟩
                  | _ => trivial
                | _ => trivial
          | _ => trivial
      | _ => trivial
  | _ => trivial⟩
theorem keysAre2 : ∀ (ks : List S) {xs ys : List (VI × VI)}, RKs2 r xs ys → keysAre ks ys = keysAre ks xs
  | [], _, _, .nil => rfl
  | [], _, _, .cons p _ t => by cases p <;> rfl
  | _ :: _, _, _, .nil => rfl
  | k :: ks, _, _, .cons p _ t => by
    cases p with
    | str s => unfold keysAre; rw [keysAre2 ks t]
    | _ => rfl
instance {ks : List S} {gk : MK} {e : ME} [x : LE e] [y : LK gk] : LE (eKwD ks gk e) := ⟨fun r s h σ σ' g a => by
  obtain ⟨g2, e2⟩ := g.new (o := .dic []) (o' := .dic []) (.dic .nil)
  refine L2R.ext e2 ((x.run _ _ _ _ _ g2 (a.mono e2)).bind fun r1 s1 h1 u u' e1 g1 q1 => ?_)
  have d := e1.pre g.idx
  obtain ⟨o, o', v1, v2, v3⟩ := g1.no d
  cases q1 with
  | @ref i j p =>
    dsimp only
    rw [beq2 g1 p d]
    obtain ⟨w, w', u1, u2, u3⟩ := g1.no p
    rw [v1, v2, u1, u2]
    cases Nat.beq i s.length with
    | true => trivial
    | false =>
      cases v3 with
      | dic t =>
        cases t with
        | cons _ _ _ => trivial
        | nil =>
          cases u3 with
          | dic t2 =>
            dsimp only
            rw [keysAre2 ks t2]
            split
            · obtain ⟨g4, e4⟩ := g1.wr v1 d (.dic (putAll2 t2 .nil))
              exact L2R.ext e4 (y.run _ _ _ _ _ _ _ g4 .nil ((vals2 t2).mono e4))
            · trivial
          | _ => trivial
      | _ => trivial
  | _ => trivial⟩
class LGs (gs : List MG) : Prop where
  run : ∀ r s h σ σ' vs vs', Ag2 r s h → AS2 r σ σ' → RVs2 r vs vs' → L2S r h (gSeq gs vs σ s) (gSeq gs vs' σ' h)
instance : LGs [] := ⟨fun r s h σ σ' vs vs' g a t => by
  cases t with
  | nil => exact .nx g a
  | cons _ _ => trivial⟩
instance {x : MG} {gs : List MG} [p : LG x] [q : LGs gs] : LGs (x :: gs) := ⟨fun r s h σ σ' vs vs' g a t => by
  cases t with
  | nil => trivial
  | cons u t => exact (p.run _ _ _ _ _ _ _ g a u).andThen fun r1 s1 h1 τ τ' e1 g1 a1 => q.run _ _ _ _ _ _ _ g1 a1 (t.mono e1)⟩
instance {gs : List MG} [q : LGs gs] : LG (gTupM gs) := ⟨fun r s h σ σ' v v' g a p => by
  unfold gTupM
  cases p with
  | tup t =>
    dsimp only
    rw [t.length]
    split
    · exact q.run _ _ _ _ _ _ _ g a t
    · trivial
  | _ => trivial⟩
instance {i : Nat} {f : Op2} {e : ME} [x : LOp f] [y : LE e] : LS (sAug i f e) := ⟨fun r s h σ σ' g a => by
  unfold sAug
  cases z : σ[i]? with
  | none => trivial
  | some o =>
    cases o with
    | none => trivial
    | some v =>
      obtain ⟨w, k1, k2⟩ := a.at_ i v z
      rw [k1]
      refine (y.run _ _ _ _ _ g a).bindS a fun r1 s1 h1 u u' e1 g1 q1 => ?_
      have t := x.run _ _ _ _ _ _ _ g1 (k2.mono e1) q1
      cases z2 : f v u s1 with
      | none => trivial
      | some p =>
        rw [z2] at t
        obtain ⟨r2, h2, v', m1, m2, m3, m4⟩ := t
        rw [m1]
        exact ⟨r2, h2, _, rfl, m2, m3, ((a.mono e1).mono m2).set m4 i⟩⟩
theorem endB2 {a a' : RS} (k : L2S r h a a') : L2R RV2 r h (endB a) (endB a') := by
  cases a with
  | err => trivial
  | bk _ _ => trivial
  | ct _ _ => trivial
  | nx σ s => obtain ⟨r2, h2, m, rfl, e, g, _⟩ := k; exact ⟨r2, h2, _, rfl, e, g, .non⟩
  | rt v s => obtain ⟨r2, h2, m, rfl, e, g, q⟩ := k; exact ⟨r2, h2, _, rfl, e, g, q⟩
  | ex c n σ s => obtain ⟨r2, h2, m, m2, rfl, e, g, _, q⟩ := k; exact ⟨r2, h2, _, rfl, e, g, q⟩
theorem slots2 (n : Nat) : ∀ {vs vs' : List VI}, RVs2 r vs vs' → AS2 r (vs.map some ++ List.replicate n none) (vs'.map some ++ List.replicate n none) := by
  intro vs vs' t
  refine ⟨by simp [t.length], fun i v e => ?_⟩
  by_cases hi : i < vs.length
  · rw [List.getElem?_append_left (by simpa using hi), List.getElem?_map] at e
    rw [List.getElem?_append_left (by simpa [← t.length] using hi), List.getElem?_map]
    cases z : vs[i]? with
    | none => rw [z] at e; cases e
    | some u =>
      rw [z] at e
      cases e
      obtain ⟨b, h1, h2⟩ := t.get z
      rw [h1]
      exact ⟨b, rfl, h2⟩
  · rw [List.getElem?_append_right (by simpa using Nat.le_of_not_lt hi), List.getElem?_replicate] at e
    split at e <;> cases e
end
theorem lf_runB {np n : Nat} {b : MS} (x : LS b) : LF (runB np n b) := ⟨fun r s h vs vs' g t => by
  unfold runB
  rw [t.length]
  split
  · exact endB2 (x.run _ _ _ _ _ g (slots2 n t))
  · trivial⟩
end ML
end
section
namespace ML
open PySem L2
theorem ty2 {r : List Nat} {s h : Hi} (g : Ag2 r s h) {x y : VI} (p : RV2 r x y) : tyI y h = tyI x s := by
  cases p with
  | ref i =>
    obtain ⟨o, o', z1, z2, z3⟩ := g.no i
    unfold tyI
    dsimp only
    rw [z1, z2]
    cases z3 <;> rfl
  | _ => rfl
theorem L2R.boolR {r : List Nat} {h : Hi} {a b : Res VI} (k : L2R RV2 r h a b) : L2R RV2 r h (boolR a) (boolR b) := by
  cases a with
  | err => trivial
  | ex c n s' =>
    obtain ⟨r', h', m, rfl, e, g, q⟩ := k
    exact ⟨r', h', m, rfl, e, g, q⟩
  | ok v s' =>
    obtain ⟨r', h', v', rfl, e, g, q⟩ := k
    cases q with
    | bl b => exact ⟨r', h', _, rfl, e, g, .bl b⟩
    | _ => trivial
section
variable {ma mb : ME} {f : Op2}
instance {cs : List Nat} {tbl : Nat → Option MF} [c : LTb tbl] [x : LE ma] [y : LE mb] [o : LOp f] : LE (eCmpU cs tbl f ma mb) := ⟨fun r s h σ σ' g a => (x.run r s h σ σ' g a).bind fun r1 s1 h1 v v' e1 g1 q1 => (y.run _ _ _ _ _ g1 (a.mono e1)).bind fun r2 s2 h2 w w' e2 g2 q2 => by
  rw [ins2 g2 (q1.mono e2), ty2 g2 q2]
  cases z : insC v s2 with
  | none => exact .ofO (o.run _ _ _ _ _ _ _ g2 (q1.mono e2) q2)
  | some d =>
    dsimp only
    cases w0 : tbl d with
    | none => trivial
    | some u =>
      cases w1 : nfI cs (tyI w s2) with
      | false => trivial
      | true => exact ((c.run _ _ w0).run _ _ _ _ _ g2 (.cons (q1.mono e2) (.cons q2 .nil))).boolR⟩
end
end ML
end
section
namespace ML
open PySem L2
section
variable {r : List Nat} {s h : Hi}
theorem flK2 : ∀ {ka kb : List (VI × VI)}, RKs2 r ka kb → flK kb = flK ka
  | _, _, .nil => rfl
  | _, _, .cons _ a t => by simp only [flK, flI2 a, flK2 t]
theorem allK2 {la lb : List (VI × VI)} (q : RKs2 r la lb) (fl : flK la = true) : ∀ {ka kb : List (VI × VI)}, RKs2 r ka kb → flK ka = true → allK lb kb = allK la ka
  | _, _, .nil, _ => rfl
  | _, _, .cons (a := a) (b := b) k p t, f => by
    unfold flK at f
    obtain ⟨f1, f2⟩ := Bool.and_eq_true_iff.mp f
    have g := getD2 k q
    simp only [allK]
    cases z : getD a la with
    | none =>
      rw [z] at g
      cases z2 : getD b lb with
      | none => rfl
      | some w => rw [z2] at g; exact g.elim
    | some u =>
      rw [z] at g
      cases z2 : getD b lb with
      | none => rw [z2] at g; exact g.elim
      | some w =>
        rw [z2] at g
        dsimp only
        rw [eqI2 p g, allK2 q fl t f2]
instance : LOp fEqX := ⟨fun r s h x y x' y' g p q => by
  have old := LOp.run (f := fEq) r s h x y x' y' g p q
  unfold fEqX
  cases p with
  | ref i =>
    cases q with
    | ref j =>
      obtain ⟨o, o', z1, z2, z3⟩ := g.no i
      obtain ⟨u, u', y1, y2, y3⟩ := g.no j
      dsimp only
      rw [z1, z2, y1, y2]
      cases z3 with
      | dic t =>
        cases y3 with
        | dic t' =>
          dsimp only
          rw [flK2 t, flK2 t']
          rename_i ka kb la lb
          cases f : flK ka && flK la with
          | false => trivial
          | true =>
            obtain ⟨f1, f2⟩ := Bool.and_eq_true_iff.mp f
            dsimp only
            rw [← t.length, ← t'.length, allK2 t' f2 t f1]
            exact .ok g (.bl _)
        | _ => exact old
      | _ => exact old
    | _ => exact old
  | _ => exact old⟩
end
end ML
end
section
namespace ML
open PySem PySem.Spec PyProof.Rows L2 He
def okI : VI → Bool
  | .non => true
  | .bl _ => true
  | .int _ => true
  | .str s => PyData.strOk (toStr s)
  | _ => false
def alO : List VI → Bool
  | [] => true
  | y :: r => match okI y with
    | true => alO r
    | false => false
def ixF (y : VI) : List VI → Nat → Option Nat
  | [], _ => none
  | x :: r, j => match eqI x y with
    | true => some j
    | false => ixF y r (j + 1)
def mIndex : OpM := fun x vs h => match x with
  | .ref n => match h[n]? with
    | some (.lst xs) => match vs with
      | [y] => match okI y && alO xs with
        | true => match ixF y xs 0 with
          | some j => some (.int (j : Nat), h)
          | none => none
        | false => none
      | _ => none
    | _ => none
  | _ => none
section
variable {G : Gx} {ρ : List Addr} {h : Hi} {H : Hp} {X : Cx}
end
section
variable {r : List Nat}
theorem okI2 {a b : VI} (p : RV2 r a b) : okI b = okI a := by cases p <;> rfl
theorem alO2 : ∀ {xs ys : List VI}, RVs2 r xs ys → alO ys = alO xs
  | _, _, .nil => rfl
  | _, _, .cons q t => by unfold alO; rw [okI2 q, alO2 t]
theorem ixF2 {a b : VI} (p : RV2 r a b) : ∀ {xs ys : List VI} (k : Nat), RVs2 r xs ys → ixF b ys k = ixF a xs k
  | _, _, _, .nil => rfl
  | _, _, _, .cons q t => by unfold ixF; rw [eqI2 q p, ixF2 p _ t]
end
instance : LOm mIndex := ⟨fun r s h x x' vs vs' g p t => by
  unfold mIndex
  cases p with
  | ref i =>
    obtain ⟨o, o', e1, e2, e3⟩ := g.no i
    dsimp only
    rw [e1, e2]
    cases e3 with
    | lst l =>
      cases t with
      | nil => trivial
      | cons q t =>
        cases t with
        | cons _ _ => trivial
        | nil =>
          dsimp only
          rw [okI2 q, alO2 l, ixF2 q 0 l]
          split
          · split
            · exact .ok g (.int _)
            · trivial
          · trivial
    | _ => trivial
  | _ => trivial⟩
end ML
end
section
namespace PySem.W
open PySem PyProof.Rows
section
variable {prog : Program} {w : World} {A A₀ : Around} {E : Value → Shared → Prop} {s : Shared} {K : Frag} {x C L f : Addr} {h₀ : Heap} {m : Str → Option Value} {ox : Obj} {od : Option Obj} {name : Str} {b tb : Value}
theorem ifBound_B {M : Model} {id : String} {args : List Value} {Q : Option Value → Shared → Prop} (X : K.In s.heap) (I : InstAt s.heap x ox C od) (hs : findIn K (.ref C) name = some (some (.builtin id))) (bd : ∀ v, bindSpecial (.builtin id) v = pure (.builtin id, [v]))
    (h : wpAny M A (call (.builtin id) (.ref x :: args)) (fun v => Q (some v)) E s) : wpAny M A (callSpecialIfBound? (.ref x) name args) Q E s := by
  simp only [callSpecialIfBound?, bindSpecialIfBound?]
  refine wpAny_holding (wpAny_bind (wpAny_bind (wpAny_bind (I.type.here ((looks_findIn X hs).here ?_)))))
  refine wpAny_bind (wpAny_askSetting (wpAny_ite ?_))
  have fin : wpAny M A (call (.builtin id) ([.ref x] ++ args) >>= fun v => pure (some v)) Q E s := wpAny_bind (wpAny_mono h (fun v s' h' => wpAny_pure h') fun _ _ h' => h')
  split
  · exact wpAny_bind (wpAny_of_eq (bd _) (wpAny_pure (by exact fin)))
  · exact wpAny_tryCatch (wpAny_bind (wpAny_of_eq (bd _) (wpAny_pure (by exact fin))))
theorem objNe_K {Q : Fin → Shared → Prop} (X : K.In s.heap) (I : InstAt s.heap x ox C od) (hu : A.units < cLine) (hs : findIn K (.ref C) "__eq__" = some (some (.ref f))) (hf : isFn K (.ref f) = true)
    (hcall : wpAny (model prog w) A (call (.ref f) [.ref x, b]) (fun v s' => ∃ c, v = .bool c ∧ Q (.done (.ret (.bool (!c)))) s') E s) :
    wpAny (model prog w) A (Builtin.«object.__ne__» ⟨[.ref x, b], []⟩) Q E s := by
  unfold Builtin.«object.__ne__»
  repeat (first
    | with_reducible refine wpAny_cRoomFor hu ?_
    | (refine wpAny_bind (m := callSpecialIfBound? (.ref x) (Str.ofString "__eq__") [b])
        (ifBound_K X I hs hf (wpAny_mono hcall (fun r s' hr => by
          obtain ⟨b, rfl, hq⟩ := hr
          repeat (first | exact hq | exact wpAny_pure hq | exact wpAny_truthy_bool hq | (refine wpAny_bind (m := truthy (.bool _)) (wpAny_truthy_bool ?_)) | wp_step)) fun _ _ e => e)))
    | wp_step)
theorem ne_K {Q : Value → Shared → Prop} (hu : A.units + 1 < cLine) (F : Fr h₀ L s.heap m) (X₀ : K.In h₀) (I : InstAt s.heap x ox C od) (hb : Looks (model prog w) s.heap (typeOf b) tb) (hn : notFirst K C tb = true)
    (hne : findIn K (.ref C) "__ne__" = some (some (.builtin "object.__ne__"))) (hsub : subIn K (.ref C) (.type "object") = some true) (hs : findIn K (.ref C) "__eq__" = some (some (.ref f))) (hf : isFn K (.ref f) = true)
    (h : wpAny (model prog w) A.in1 (call (.ref f) [.ref x, b]) (fun v s' => ∃ c, v = .bool c ∧ Q (.bool (!c)) s') E s) : wpAny (model prog w) A (richCompare .NotEq (.ref x) b) Q E s := by
  have X := X₀.keeps F.keep
  have one : wpAny (model prog w) A (tryCompare (.ref x) "__ne__" b) (fun r s' => ∃ v, r = some v ∧ Q v s') E s := by
    unfold tryCompare
    refine wpAny_bind (ifBound_B X I hne (PySem.F.slot_object_ne.bind) (wpAny_call (codeAny_call_builtin PySem.F.slot_object_ne.plain PySem.F.entry_object_ne
      (@check_slot (model prog w) _ _ s "object.__ne__" "object" "__ne__" (.ref x) [b] [] _ (by decide +kernel) (by decide +kernel) (I.type.andThen (looks_subIn X hsub)) (PySem.F.args_object_ne_2 _ _)
        (objNe_K X I (A := A.in1) (by show A.units + 1 < _; omega) hs hf (wpAny_mono h (fun v s' hv => ?_) fun _ _ e => e))))))
    obtain ⟨c, rfl, hq⟩ := hv
    refine ⟨c, rfl, ?_⟩
    first | exact wpAny_pure ⟨_, rfl, hq⟩ | exact ⟨_, rfl, wpAny_pure ⟨_, rfl, hq⟩⟩
  unfold richCompare
  simp only [oneThing_ref]
  refine wpAny_holding (wpAny_bind (wpAny_cRoomFor (by omega) ?_))
  refine wpAny_bind (I.type.here (wpAny_bind (hb.here ?_)))
  split
  · rename_i q
    have e : subIn K tb (.ref C) = some false := by
      rcases Bool.or_eq_true_iff.mp hn with e | e
      · rw [beq_iff_eq.mp e] at q; simp at q
      · exact beq_iff_eq.mp e
    refine wpAny_bind ((looks_subIn X e).here ?_)
    simp only [Bool.false_eq_true, if_false]
    refine wpAny_bind (wpAny_mono one (fun r s' z => ?_) fun _ _ e => e)
    obtain ⟨v, rfl, hq⟩ := z
    exact wpAny_pure hq
  · refine wpAny_bind (wpAny_pure ?_)
    simp only [Bool.false_eq_true, if_false]
    refine wpAny_bind (wpAny_mono one (fun r s' z => ?_) fun _ _ e => e)
    obtain ⟨v, rfl, hq⟩ := z
    exact wpAny_pure hq
end
end PySem.W
namespace ML
open PySem PySem.Spec PyProof.Rows L2 He
def negR : Res VI → Res VI
  | .ok (.bl b) h => .ok (.bl (!b)) h
  | .ex c n h => .ex c n h
  | _ => .err
def eNeU (cs : List Nat) (tbl : Nat → Option MF) (f : Op2) (a b : ME) : ME := fun σ h => (a σ h).bind fun x h1 => (b σ h1).bind fun y h2 => match insC x h2 with
  | some c => match tbl c, nfI cs (tyI y h2) with
    | some g, true => negR (g [x, y] h2)
    | _, _ => .err
  | none => ofO (f x y h2)
def neB (K : PySem.W.Frag) (C : Addr) : Bool := eqO (PySem.W.findIn K (.ref C) "__ne__") (some (some (.builtin "object.__ne__"))) && decide (PySem.W.subIn K (.ref C) (.type "object") = some true)
def NeOk (K : PySem.W.Frag) (G : Gx) (tbl : Nat → Option MF) : Prop := ∀ c C g, tbl c = some g → G.ct c = some C → neB K C = true
section
variable {G : Gx} {ρ : List Addr} {h : Hi} {H : Hp} {W : WX} {X : Cx} {A : Around} {e a b c o i v : Expr} {es : List Expr} {pos p pos' apos : Pos} {me mi mo ma mb mv : ME} {mr : MA} {tbl : Nat → Option MF} {σ : L2.St} {cs : List Nat} {f : Op2}
theorem negR_fin {Q : VK} {W : Value → Option Addr → Hp → Prop} (r : Res VI) (fr : FinG G ρ H (RV G) Q W (negR r)) : FinG G ρ H (RV G) (fun x H' => ∃ b, x = V.bl b ∧ Q (V.bl (!b)) H') W r := by
  cases r with
  | ok v h' =>
    cases v with
    | bl b =>
      intro ρ' H' x st ag' rx
      cases rx
      exact ⟨b, rfl, fr ρ' H' _ st ag' (.bl (!b))⟩
    | _ => exact fr.elim
  | ex c n h' => exact fr
  | err => exact fr.elim
def RdN (G : Gx) (W : WX) (σ : L2.St) (cs : List Nat) (tbl : Nat → Option MF) (f : Op2) (Q : VK) (x y : V) (H2 : Hp) : Prop :=
  rd2 G f x y H2 Q ∨ ∃ ρ2 h2 xi yi cn g, Ag G ρ2 h2 H2 ∧ RV G ρ2 H2 xi x ∧ RV G ρ2 H2 yi y ∧ insC xi h2 = some cn ∧ tbl cn = some g ∧ nfI cs (tyI yi h2) = true ∧ FinG G ρ2 H2 (RV G) Q (fun c d H' => W c d σ H') (negR (g [xi, yi] h2))
theorem neU_rd {Q : VK} (q : rdE G W (eNeU cs tbl f ma mb) σ H Q) : rdE G W ma σ H fun x H1 => rdE G W mb σ H1 fun y H2 => RdN G W σ cs tbl f Q x y H2 := by
  obtain ⟨ρ, σi, h, as, ag, fin⟩ := q
  exact rdG_go as ag fin fun ρ1 H1 h1 x x' st as ag r f => rdG_go as ag f fun ρ2 H2 h2 y y' st2 as ag rs f => by
      cases q1 : insC x h2 with
      | none => rw [q1] at f; exact .inl ⟨ρ2, h2, x, y, ag, r.mono st2, rs, FinO.of f⟩
      | some cn =>
        rw [q1] at f
        dsimp only at f
        cases q2 : tbl cn with
        | none => rw [q2] at f; exact f.elim
        | some g =>
          rw [q2] at f
          cases q3 : nfI cs (tyI y h2) with
          | false => rw [q3] at f; exact f.elim
          | true => rw [q3] at f; exact .inr ⟨ρ2, h2, x, y, cn, g, ag, r.mono st2, rs, q1, q2, q3, f⟩
theorem neU_run (hG : G.K = X.K) (hu : X.A.units + 1 < cLine) (sp : SpOk X X.A.in1 G W tbl "__eq__") (ne : NeOk X.K G tbl) (nf : NfOk X.K G cs tbl) (ho : OpR X (compareOp .NotEq) (rd2 G f))
    {pins : List (Addr × Obj)} {s2 : Shared} {H2 : Hp} {x y : V} {v u : Value} {Q : VK} (I2 : Inv X pins σ H2 s2) (rx : RelV x v) (ry : RelV y u) (q : RdN G W σ cs tbl f Q x y H2) : wpAny (model X.prog X.w) X.A (compareOp .NotEq v u) (EP X pins σ Q) X.xe s2 := by
  rcases q with q | ⟨ρ2, h2, xi, yi, cn, g, ag2, r1, r2, q1, q2, q3, fi⟩
  · exact ho pins s2 σ H2 x y v u Q I2 rx ry q
  · obtain ⟨ad, C, dx, gs, ex, hc, hH⟩ := insC_ok ag2 r1 q1
    subst ex
    obtain rfl : v = Value.ref ad := rx
    obtain ⟨f', k1, k2, k3, k4, k5⟩ := sp.at_ cn C g q2 hc
    obtain ⟨m, hF, ox, od, J⟩ := insC_look I2 hH
    have ty : ∃ t, PySem.W.Looks (model X.prog X.w) s2.heap (typeOf u) t ∧ PySem.W.notFirst X.K C t = true := by
      cases q4 : tyI yi h2 with
      | none => rw [q4] at q3; cases q3
      | some T =>
        rcases tyI_ok hG I2 ag2 r2 ry q4 with ⟨t, rfl, mt, lt⟩ | ⟨c', C', rfl, hc', lt⟩
        · exact ⟨_, lt, nf.bt cn C g t q2 hc mt⟩
        · rw [q4] at q3
          exact ⟨_, lt, nf.own cn C g c' C' q2 hc q3 hc'⟩
    obtain ⟨t, lt, nt⟩ := ty
    obtain ⟨n1, n2⟩ := ba (ne cn C g q2 hc)
    have key := negR_fin (G := G) (ρ := ρ2) (H := H2) (Q := Q) (W := fun c d H' => W c d σ H') (g [xi, yi] h2) fi
    show wpAny (model X.prog X.w) X.A (richCompare .NotEq (.ref ad) u) _ _ s2
    refine PySem.W.ne_K (tb := t) hu hF I2.ok.mod.kin J lt nt (eqO_ok n1) (of_decide_eq_true n2) k2 k4 ?_
    refine wpAny_mono (k5 pins s2 σ H2 [.ref ad, u] [.ref ad, y] [xi, yi] ρ2 h2 _ I2 (.cons rfl (.cons ry .nil)) (.cons r1 (.cons r2 .nil)) ag2 key) (fun z s3 hz => ?_) fun _ _ z => z
    obtain ⟨x', H', I', rx', b, eb, q'⟩ := hz
    subst eb
    cases (show z = Value.bool b from rx')
    exact ⟨b, rfl, .bl (!b), H', I', rfl, q'⟩
theorem mt_neU (hG : G.K = X.K) (hu : X.A.units + 1 < cLine) (sp : SpOk X X.A.in1 G W tbl "__eq__") (ne : NeOk X.K G tbl) (nf : NfOk X.K G cs tbl) (ho : OpR X (compareOp .NotEq) (rd2 G f)) (ha : PE X a (rdE G W ma)) (hb : PE X b (rdE G W mb))
    (hm : behindInMarks .NotEq b = false) : PT X (.Compare a [.NotEq] [b] pos) (rdT G W (tOf (eNeU cs tbl f ma mb))) := ⟨fun pins s σ H Q I h =>
  wpAny_isTrue_Compare1 (thn (ha.run pins s σ H _ I (neU_rd (tOf_rd h))) fun v s1 ⟨x, H1, I1, r1, q1⟩ => thn (hb.run pins s1 σ H1 _ I1 q1) fun u s2 ⟨y, H2, I2, r2, q2⟩ =>
    thn (neU_run hG hu sp ne nf ho I2 r1 r2 q2) fun c s3 ⟨z, H3, I3, r3, k, e, q3⟩ => by
      subst e
      cases r3
      exact wpAny_truthy_bool ⟨H3, I3, q3⟩) hm⟩
end
section
variable {K : PySem.W.Frag} {mg : Str → Option Value} {nm : Nat → Option Str}
theorem neOk_nil : NeOk K (GxOf K mg nm) (lkT ([] : List (Nat × MF))) := fun _ _ _ h => nomatch h
theorem neOk_cons {c : Nat} {g : MF} {x : Str} {r : List (Nat × MF)} (hn : nm c = some x) (hB : neB K (ga K x) = true) (t : NeOk K (GxOf K mg nm) (lkT r)) : NeOk K (GxOf K mg nm) (lkT ((c, g) :: r)) := fun c' C w h e => by
  rcases lkT_cons h with ⟨q1, q2⟩ | q
  · subst q1 q2
    rw [gx_ct e hn]
    exact hB
  · exact t c' C w q e
end
end ML
end
section
namespace ML
open PySem PySem.Spec PyProof.Rows L2 He
structure StatOk (K : PySem.W.Frag) (C : Addr) (m : Str) (p f : Addr) : Prop where
  rd : PySem.W.readsIn K C (.type "type") = true
  ga : PySem.W.specialIn K (.ref C) "__getattribute__" = some (some (.builtin "type.__getattribute__"))
  at_ : PySem.W.findCls K (.ref C) (.type "type") m = some (.get (.builtin "staticmethod.__get__") (.ref p) .none (.ref C))
  rc : ∃ rest, PySem.W.recIn K p "staticmethod" = some (.ref f :: rest)
section
variable {G : Gx} {W : WX} {X : Cx} {e : Expr} {es : List Expr} {ma : MA} {x m : Str} {C p f : Addr} {g : MF} {p0 apos pos : Pos} {pl : Sem Bool}
end
end ML
end
section
namespace ML
open PySem L2 NdefX
open PyProof.Rows hiding wpAt
structure SupX (X : Cx) (C : Addr) : Prop where
  cd : ∃ cd, PySem.W.clsIn X.K C = some cd
  mro : PySem.W.mroIn X.K C (.ref C) = some true
  sup : PySem.W.ks_superIn X.K C C "__init__" = some (some (.builtin "ValueError.__init__"))
  sub : PySem.W.subIn X.K (.ref C) (.type "ValueError") = some true
structure SupD (X : Cx) (f D : Addr) (slf : Str) : Prop where
  fn : X.env.func = some f
  at_ : ∃ (o : Obj) (fd : FuncData) (ar : Arg), X.K.lookup f = some o ∧ o.data = .func fd ∧ (fd.params.posonlyargs ++ fd.params.args).head? = some ar ∧ ar.arg = slf
  code : ∃ (c : Addr) (o : Obj) (vs : Array Value) (file : Str) (tf : Tok), X.env.code = .ref c ∧ X.K.lookup c = some o ∧ o.data = .fields vs ∧ vs[2]? = some (.str file tf) ∧ ((X.prog.main.file : Str) == file) = true
  top : (X.prog.main.scope.names.lookup ("super" : Str)).isSome = false
  any : PySem.W.nsIn X.K cStatics "thirdparty.any" = some none
def tSupX (X : Cx) (j i : Nat) (D : Addr) (ta : TA) : TS := fun Dn σ H => σ[j]? = some (some (.ref D)) ∧ ∃ a, σ[i]? = some (some (.ref a)) ∧ H a = some (exo a D none) ∧ OexC X.K D ∧ SupX X D ∧
  ta σ H fun vs H1 => vs.length ≤ 1000 ∧ H1 a = some (exo a D none) ∧ Dn.nx σ H1
theorem init_bw {X : Cx} {pins : List (Addr × Obj)} {σ : L2.St} {H : Hp} {s : Shared} {A : Around} {E : Value → Shared → Prop} {b a C : Addr} {us : List Value} {Q : Value → Shared → Prop} (T : OexC X.K C) (I : Inv X pins σ H s) (e : H a = some (exo a C none)) (hb : s.heap.get? b = some (PySem.W.kxs_mw "ValueError.__init__" a)) (hl : us.length ≤ sizeLine)
    (h : ∀ s', Inv X pins σ H s' → Q .none s') : wpAny (model X.prog X.w) A (call (.ref b) us) Q E s := by
  obtain ⟨nm, q, N, bs, bm, sn, sub, ab, col, dd, k0, k1, k2, k3, k5, hC, hbm⟩ := T.cls
  obtain ⟨t1, ho⟩ := exo_at I.hok e
  have hC' := I.kIn _ _ hC
  obtain ⟨hh, g, d, tk, os⟩ := s
  have fin : ∀ h', (∀ b o, b ≠ a → hh.get? b = some o → h'.get? b = some o) → h'.get? a = some ({ cls := .ref C, dict := none, data := .fields #[.ref hh.objs.size, .none, .none, .none, .bool false, .none] } : Obj) → Q .none ⟨h', g, d, tk, os⟩ := fun h' k hx => by
    have J := I.write (t' := tk) (x := a) (e := a) (o := exo a C none) (by rw [e]; exact True.intro) (.inl rfl) k ⟨_, hx⟩ (exo_ok hx)
    have eu : upd H a (exo a C none) = H := by
      funext b
      by_cases hb : b = a
      · rw [hb, upd_same, e]
      · rw [upd_ne hb]
    rw [eu] at J
    exact h _ J
  refine wpAny_call (codeAny_of_tree ?_)
  show wpAny _ A.in1 (callAny (.ref b) ⟨us, []⟩) _ _ _
  simp only [callAny]
  refine wpAny_bind (wpAny_load hb ?_)
  simp only [PySem.W.kxs_mw, show (Value.type "method-wrapper" == Value.type "method" || Value.type "method-wrapper" == Value.type "builtin_function_or_method" || Value.type "method-wrapper" == Value.type "method-wrapper") = true by decide, if_true]
  refine PySem.W.KFB.if_so (by decide) ?_
  refine wpAny_bind (PySem.W.check_bound_init F.excBase_ValueError.toExcCallFacts hC' ho rfl ?_)
  refine wpAny_bind (wpAny_pure (wpAny_pure ?_))
  refine ⟨plainId_quiet F.excBase_ValueError.init.plain _, codeAny_builtin F.excBase_ValueError.initEntry ?_⟩
  exact PySem.W.exc_init_tree (cls := .ref C) (t0 := t1) (dv := none) (c2 := .none) (c3 := .none) (b4 := .bool false) ho hl fun h' k hx _ => fin h' k hx
section
variable {X : Cx} {body : List Stmt} {f D : Addr} {slf : Str} {i j : Nat} {e : Expr} {es : List Expr} {ta : TA} {p0 p1 apos cpos spos : Pos}
theorem pst_superX (S : SupD X f D slf) (hks : Gl X "super") (hm : X.mg "super" = none) (hkc : X.env.kindOf "__class__" = some .free) (hNc : X.N[j]? = some "__class__") (hvc : Vis X.env.scope "__class__")
    (hNs : X.N[i]? = some slf) (hvs : Vis X.env.scope slf) (hcs : (slf == ("__classdict__" : Str)) = false) (ha : PA X (e :: es) ta) (hi : interactive X.env = false)
    (hst : starEach (e :: es) X.env = (false, eval e X.env) :: starEach es X.env := by rfl) (hpl : (backTo cpos (starEach es X.env)).any (·.1) = false := by rfl)
    (hsw : swapsWith (.Call (.Attribute (.Call (.Name "super" p0) [] [] p1) "__init__" apos) (e :: es) [] cpos) none spos.line X.env = pure false := by rfl)
    (ht : eval (.Call (.Attribute (.Call (.Name "super" p0) [] [] p1) "__init__" apos) (e :: es) [] cpos) X.env = (do
      let ov ← attributeBase (.Call (.Name "super" p0) [] [] p1) "__init__" X.env (eval (.Call (.Name "super" p0) [] [] p1) X.env)
      standAt apos.atName
      let (f, first) ← holding [ov] (getMethod ov "__init__" (pure false))
      callWith cpos f first (backTo cpos (starEach (e :: es) X.env)) []) := by rfl) :
    PST X body (.Expr (.Call (.Attribute (.Call (.Name "super" p0) [] [] p1) "__init__" apos) (e :: es) [] cpos) spos) (tSupX X j i D ta) := by
  refine ⟨fun pins s σ H Dn I ⟨hD, a, hxs, hH, T, SX, hta⟩ => ?_⟩
  obtain ⟨t1, hoa⟩ := exo_at I.hok hH
  have J : PySem.W.InstAt s.heap a { cls := .ref D, dict := none, data := .fields #[.ref t1, .none, .none, .none, .bool false, .none] } D none := ⟨hoa, rfl, rfl, trivial⟩
  obtain ⟨of, fd, ar, hf1, hf2, hf3, hf4⟩ := S.at_
  obtain ⟨cc, oc, vs, file, tf, hc1, hc2, hc3, hc4, hc5⟩ := S.code
  obtain ⟨cdD, hcD⟩ := SX.cd
  have KX := I.kIn
  refine ks_wpAt_Expr_any (ks_wpAt_MethodCall (args := e :: es) (pl := pure false) ?_ ht) hi hsw
  refine ks_wpAt_super_base hks hkc rfl S.fn (KX _ _ hf1) hf2 hf3 hc1 (KX _ _ hc2) hc3 hc4 hc5 S.top ?_
  refine load_blt I hks hm boot_super (by decide +kernel) ⟨rfl, ?_⟩
  refine load_slot I hNc hD hvc (by decide) fun u ru => ?_
  obtain rfl : u = Value.ref D := ru
  rw [hf4]
  refine load_slot I hNs hxs hvs hcs fun u2 ru2 => ?_
  obtain rfl : u2 = Value.ref a := ru2
  obtain ⟨hD1o, hD1, hD2⟩ : ∃ oD, s.heap.get? D = some oD ∧ oD.data = .cls cdD := by
    unfold PySem.W.clsIn at hcD
    split at hcD
    · rename_i c' d' cd' sl' ho
      cases hcD
      exact ⟨_, KX _ _ ho, rfl⟩
    · cases hcD
  have hxC : a ≠ D := PySem.W.ks_ne KX J hcD
  obtain ⟨hh, gg, dd, tt, os⟩ := s
  refine PySem.ks_wpAny_isType_cls hD1 hD2 ⟨rfl, ?_⟩
  refine PySem.ks_wpAny_call_super hD1 hD2 J.at_ J.cls (fun c' e' => ?_) (PySem.W.looks_mroIn KX SX.mro) (fun h' eq kp => ?_)
  · cases e'
  have I2 : Inv X pins σ H ⟨h', gg, dd, tt, os⟩ := Inv.kept (s := ⟨hh, gg, dd, tt, os⟩) (t' := tt) I kp
  have KX2 := I2.kIn
  have hsup := SX.sup
  unfold PySem.W.ks_superIn at hsup
  rw [hcD] at hsup
  have hmr : PySem.W.Looks (model X.prog X.w) h' (mroOf (.ref D)) cdD.mro := fun A Q E s k q => wpAny_bind ((PySem.W.looks_clsIn KX2 hcD) A _ E s k (wpAny_pure q))
  have J2 : PySem.W.InstAt h' a { cls := .ref D, dict := none, data := .fields #[.ref t1, .none, .none, .none, .bool false, .none] } D none := ⟨kp _ _ hoa, rfl, rfl, trivial⟩
  have hI : PySem.W.Looks (model X.prog X.w) h' (isInstance (.ref a) (.type "ValueError")) true := J2.type.andThen (PySem.W.looks_subIn KX2 SX.sub)
  refine PySem.W.kxs_getMethod PySem.W.kxs_ValueError eq (PySem.W.looks_opaque KX2 S.any) hmr rfl KX2 hsup hI hxC rfl ?_
  have I3 : Inv X ((h'.objs.size, PySem.W.kxs_mw "ValueError.__init__" a) :: pins) σ H ⟨h'.push (PySem.W.kxs_mw "ValueError.__init__" a), gg, dd, tt + 1, os⟩ :=
    ClX.pin_new I2 (fun _ _ z => Heap.get?_push_of_some _ z) (Nat.le_refl _) (Heap.get?_push_size h' rfl) (fun v z => nomatch z)
  generalize h'.objs.size = b at I3 ⊢
  refine thn (Q := EP X pins σ fun _ H' => Dn.nx σ H') ?_ fun v s' ⟨z, H', I', _, q⟩ => ⟨σ, H', I', q⟩
  show wpAny _ _ (callWith cpos (.ref b) [] (backTo cpos (starEach (e :: es) X.env)) []) _ _ _
  have run := ha.run cpos _ _ σ H _ I3 hta
  rw [hst] at run ⊢
  refine PySem.W.kxs_callWith (i := "ValueError.__init__") (x := a) (by show (false || (backTo cpos (starEach es X.env)).any (·.1)) = false; rw [hpl]; rfl)
    (Calls.evalArgs_plain (thn run fun us s4 ⟨vs, H4, I4, r4, hl4, ea4, q4⟩ => ?_))
  have hb4 : s4.heap.get? b = some (PySem.W.kxs_mw "ValueError.__init__" a) := ClX.pin_at I4
  refine ⟨hb4, ?_⟩
  have I5 : Inv X pins σ H4 s4 := ClX.unpin I4
  refine init_bw T I5 ea4 hb4 (by show us.length ≤ sizeLine; rw [← r4.length, sizeLine_eq]; omega) fun s5 I6 => ⟨.non, H4, I6, rfl, q4⟩
end
theorem psst_cons {X : Cx} {body : List Stmt} {st : Stmt} {rest : List Stmt} {t1 t2 : TS} (h : PST X body st t1) (h2 : PSs X rest t2) : PSsT X body (st :: rest) (fun D σ H => t1 { D with nx := fun σ' H' => t2 D σ' H' } σ H) := ⟨fun pins s σ H D I q => by
  refine ks_wpAt_execs_cons (ks_wpAt_mono (h.run pins s σ H _ I q) (fun fl s' q => ?_) fun _ _ z => z)
  cases fl with
  | next => obtain ⟨σ', H', J, q⟩ := q; exact wpAt_of_wpAny (h2.run pins s' σ' H' D J q)
  | ret u => exact q
  | brk => exact q
  | cont => exact q⟩
def spI (D : Addr) (fld : Str) : Sp := fun vs H Q _ => ∃ a y, vs = [.ref a, y] ∧ H a = some (exo a D none) ∧ ∀ dx, H dx = none → dx ≠ a → Q .non (upd (upd H dx (exd dx [(fld, y)])) a (exo a D (some dx)))
def tIni (X : Cx) (D : Addr) (m fld : Str) : TS := fun Dn σ H => tSupX X 2 0 D (tCons (tC (.str m)) tNil) { Dn with nx := fun σ' H' => tOst X.K fld (tVar 0) (tVar 1) Dn σ' H' } σ H
section
variable {P : Program} {w : World} {K : PySem.W.Frag} {mg : Str → Option Value} {base : Heap} {x qual m fld par : Str} {params : Arguments} {body : List Stmt} {scope : Scope} {dvs : List V} {kws : List (Str × V)} {f cc D c : Addr} {fd : FuncData} {file : Str} {N : List Str} {k : Nat}
theorem exFn (F : FunS K x qual params body scope dvs kws f fd cc D c file) (S : NScope ["self", par, "__class__"] ["self", par] ["__class__"] scope) (T : OexC K D) (hno : PySem.W.findIn K (.ref D) fld = some none)
    (SX : ∀ (A : Around) (outer : List Env) (s : Shared) (H : Hp) (E : XK), SupX (ncx (L2.CX P w) P w K mg base ["self", par, "__class__"] (nfS x qual params body scope cc c) f A outer s H E) D)
    (hb : ∀ (A : Around) (outer : List Env) (s : Shared) (H : Hp) (E : XK), PSsT (ncx (L2.CX P w) P w K mg base ["self", par, "__class__"] (nfS x qual params body scope cc c) f A outer s H E) body body
      (tIni (ncx (L2.CX P w) P w K mg base ["self", par, "__class__"] (nfS x qual params body scope cc c) f A outer s H E) D m fld)) : FnOk P w K mg base (L2.CX P w) (k + 1) f fd ["self", par] (spI D fld) :=
  F.ok S (fun vs H Q E ⟨a, y, e, _⟩ => by rw [e] <;> rfl) fun A outer s H vs Q E hr ⟨a, y, e, h1, h2⟩ => by
    subst e
    refine ⟨_, hb A outer s H E, rfl, a, rfl, h1, T, SX A outer s H E, ?_⟩
    refine ⟨by simp, h1, ?_⟩
    exact ⟨y, rfl, .ref a, rfl, a, D, rfl, T, hno, .inl ⟨h1, fun dx n ne => h2 dx n ne⟩⟩
end
end ML
end
section
namespace ML
open PySem PySem.Spec PyProof.Rows L2 He
abbrev goneE (D : Ends) (i : Nat) : Ends := { nx := fun σ' H' => D.nx (σ'.set i none) H', rt := D.rt, bk := fun σ' H' => D.bk (σ'.set i none) H', ct := fun σ' H' => D.ct (σ'.set i none) H' }
def wManyA (K : PySem.W.Frag) (Wout : WX) (D : Ends) : List (Value × Nat × (Addr → Value → Option Addr → TS)) → WX
  | [] => Wout
  | (c, i, ts) :: r => fun cls d σ H => ∃ b, PySem.W.exmOne K cls c = some b ∧ (b = true → ∀ a, H a = none → ts a cls d (goneE D i) (σ.set i (some (.ref a))) H) ∧ (b = false → wManyA K Wout D r cls d σ H)
inductive HdsA (X : Cx) : List ExceptHandler → List (Value × Nat × (Addr → Value → Option Addr → TS)) → Prop
  | nil : HdsA X [] []
  | cons {x n : Str} {i : Nat} {c : Value} {ts : Addr → Value → Option Addr → TS} {b₀ : Stmt} {suite : List Stmt} {np pos' : Pos} {hds : List ExceptHandler} {l : List (Value × Nat × (Addr → Value → Option Addr → TS))} (hc : Names X x c)
      (hi : X.N[i]? = some n) (hln : X.env.kindOf n = some .local)
      (hsu : ∀ (a : Addr) (oe : Obj) (cls : Value) (d : Option Addr) (pn : List (Addr × Obj)), Zc cls d oe → (∃ vs, oe.data = .fields vs) → PSs (X.suite a ((a, oe) :: pn)) (b₀ :: suite) (ts a cls d)) (r : HdsA X hds l) :
      HdsA X (.ExceptHandler (some (.Name x np)) (some n) (b₀ :: suite) pos' :: hds) ((c, i, ts) :: l)
section
variable {X : Cx} {body : List Stmt} {h₀ : ExceptHandler} {hds : List ExceptHandler} {l : List (Value × Nat × (Addr → Value → Option Addr → TS))} {pos : Pos} {tb : WX → TS} {Wout : WX}
theorem ps_try_asMany (hs : X.stack = X.env :: X.outer) (hf : X.env.frame = some X.env.locals) (hN : X.N.Nodup) (tk : Takes X Wout)
    (hb : ∀ (W : WX) (pn : List (Addr × Obj)) (xe : Value → Shared → Prop), Takes (X.tr pn xe) W → PassesOwn (model X.prog X.w) X.A X.env xe → PSs (X.tr pn xe) body (tb W))
    (hh : HdsA X (h₀ :: hds) l) : PS X (.Try body (h₀ :: hds) [] [] pos) (fun D σ H => tb (wManyA X.K Wout D l) D σ H) := by
  refine ⟨fun pins s σ H D I h => ?_⟩
  have ok := I.ok
  have hfr : X.A.frames = some (X.env :: X.outer) := by rw [ok.frames, hs]
  refine wpAny_Try_except ?_
  refine wpAny_mono ((hb (wManyA X.K Wout D l) (X.pn ++ pins) (fun e s₁ => wpAny (model X.prog X.w) X.A (noteFrame e X.env) (fun _ s₂ => wpAny (model X.prog X.w) X.A (setFlight e none) (fun _ s₃ =>
    wpAny (model X.prog X.w) X.A (handleBy e X.env (h₀ :: hds)) (SP X pins D) X.xe s₃) X.xe s₂) X.xe s₁) (fun u s' xx => ?_) PassesOwn.looking).run [] s σ H D (I.toTry _) h) (fun f s1 hsp => ?_) (fun e s1 he => he)
  · -- the catch
    obtain ⟨a, B, sI, pins', σ', H', cls, d, rfl, J', nb, up, sky, na, os, ag, w⟩ := xx
    have J : Inv X pins σ' H' sI := J'.ofTry ok
    have sky' : Sky B (X.env :: X.outer) a (Zc cls d) X.env.locals s'.heap := by rw [← hs]; exact sky
    show wpAny (model X.prog X.w) X.A (noteFrame (.ref a) X.env) _ _ _
    refine Sky.land Zc.steady hfr hf sky' fun h3 fl3 up3 => ?_
    have J3 : Inv X pins σ' H' { s' with heap := h3 } := J.landed nb fl3.1 (up.trans up3) os ag
    obtain ⟨oe3, vs3, he3, hz3, hd3⟩ := fl3.there
    have notFr : ∀ {h : Heap} {o : Obj} {vs : Array Value}, h.FunFrames B (X.env :: X.outer) → h.get? a = some o → o.data = .fields vs → a ∉ frs (X.env :: X.outer) := fun {h o vs} ff e dd hm => by
      obtain ⟨_, o', e', hnf⟩ := ff.mem hm
      rw [e] at e'; cases e'
      exact hnf _ dd
    have nfr := notFr fl3.2.2.1 he3 hd3
    have nL : a ≠ X.env.locals := fun z => nfr (List.mem_filterMap.mpr ⟨X.env, List.mem_cons_self, by rw [hf, z]⟩)
    have nF : a ∉ X.fs := fun hm => by
      obtain ⟨e, he, q⟩ := List.mem_filterMap.mp hm
      exact nfr (List.mem_filterMap.mpr ⟨e, List.mem_cons_of_mem _ he, q⟩)
    have S3 := J3.suite he3 hd3 na nL nF
    have go : ∀ {hds' : List ExceptHandler} {l' : List (Value × Nat × (Addr → Value → Option Addr → TS))}, HdsA X hds' l' → wManyA X.K Wout D l' cls d σ' H' →
        wpAny (model X.prog X.w) X.A (handleBy (.ref a) X.env hds') (SP X pins D) X.xe { s' with heap := h3 } := by
      intro hds' l' hk
      induction hk with
      | nil =>
        intro w
        refine wpAny_handleBy_nil ?_
        obtain ⟨k1, k2, k3, oe, vs, T, oT, ts', he, hz, hd, h1, hr⟩ := id fl3
        unfold PySem.passOn
        refine wpAny_bind (wpAny_field he hd h1 ?_)
        rw [if_neg (show ¬ ((Value.ref T == Value.none) = true) from by simp)]
        have fin : wpAny (model X.prog X.w) X.A (setFlight (.ref a) X.env.frame) (fun _ s4 => wpAny (model X.prog X.w) X.A (throw (.ref a) : Sem Flow) (SP X pins D) X.xe s4) X.xe { s' with heap := h3 } := by
          rw [hf]
          refine HandSPX.setFlight_upZ fl3 fun h4 hh4 up4 => wpAny_throw (tk _ _ ?_)
          exact ⟨a, B, sI, pins, σ', H', cls, d, rfl, J, nb, (up.trans up3).trans up4, .inr (.inr (by rw [hs]; exact hh4)), na, os, ag, w⟩
        first
          | exact wpAny_bind (wpAny_pure (wpAny_bind fin))
          | exact wpAny_bind fin
      | @cons x n i c ts b₀ suite np pos' hds2 l2 hc hi hln hsu r ih =>
        intro w
        obtain ⟨b, hb1, hyes, hno⟩ := w
        have hloc : Loc X.env.scope n := .inl hln
        refine wpAny_handleBy_cons (codeAny_handlers_test ?_) (by intro q; cases q)
        have LT : PySem.W.Looks (model X.prog X.w) h3 (typeOf (.ref a)) cls := fun A Q E s k q => wpAny_typeOf_ref (k _ _ he3) (by rw [hz3.1]; exact q)
        have LM := PySem.W.exm_one (M := model X.prog X.w) (J3.kIn) LT hb1
        have test : ∀ {Q : Value → Shared → Prop} {E : Value → Shared → Prop}, Q c { s' with heap := h3 } → wpAny (model X.prog X.w) (X.A.mark (some (.ref a))) (eval (.Name x np) X.env) Q E { s' with heap := h3 } := fun {Q E} q => by
          obtain ⟨hg, hdbg, hm | ⟨hm, hv, hnn⟩⟩ := hc
          · exact ld_glob (X := X.suite a ((a, oe3) :: (X.pn ++ pins))) S3 hg hm q hdbg
          · exact ld_blt (X := X.suite a ((a, oe3) :: (X.pn ++ pins))) S3 hg hm hv q hnn hdbg
        refine test (LM.here ?_)
        cases b with
        | true =>
          refine codeAny_handlers_suite_as ?_
          refine HandSPX.lands_againZ fl3 fun h4 fl4 up4 => ?_
          have J4 : Inv X pins σ' H' { s' with heap := h4 } := J.landed nb fl4.1 ((up.trans up3).trans up4) os ag
          obtain ⟨oe4, vs4, he4, hz4, hd4⟩ := fl4.there
          have S4 := J4.suite he4 hd4 na nL nF
          refine store_ok (X := X.suite a ((a, oe4) :: (X.pn ++ pins))) (v := .ref a) S4 hN hi hloc rfl (fun s5 S5 => ?_) (.inr hln)
          refine wpAny_mono ((hsu a oe4 cls d (X.pn ++ pins) hz4 ⟨_, hd4⟩).run [] s5 _ H' _ S5 (hyes rfl a na)) (fun f s6 hsp => ?_) (fun _ _ z => False.elim z)
          have end_ : ∀ {σ6 : L2.St} {H6 : Hp} {Q : Shared → Prop}, Inv (X.suite a ((a, oe4) :: (X.pn ++ pins))) [] σ6 H6 s6 → (∀ s7, Inv X pins (σ6.set i none) H6 s7 → Q s7) →
              wpAny (model X.prog X.w) X.A (do bindName X.env n .none; unbindBehindTheSuite X.env n pos') (fun _ s7 => Q s7) X.xe s6 := fun {σ6 H6 Q} S6 hq => gone_ok (S6.unsuite ok) hN hi hln hq
          cases f with
          | next =>
            obtain ⟨σ6, H6, S6, q6⟩ := hsp
            exact end_ S6 fun s7 J7 => ⟨_, _, J7, q6⟩
          | brk =>
            obtain ⟨σ6, H6, S6, q6⟩ := hsp
            exact end_ S6 fun s7 J7 => ⟨_, _, J7, q6⟩
          | cont =>
            obtain ⟨σ6, H6, S6, q6⟩ := hsp
            exact end_ S6 fun s7 J7 => ⟨_, _, J7, q6⟩
          | ret u =>
            obtain ⟨v6, σ6, H6, S6, r6, q6⟩ := hsp
            exact end_ S6 fun s7 J7 => ⟨_, _, _, J7, r6, q6⟩
        | false =>
          show wpAny _ X.A (handleBy (.ref a) X.env hds2) _ _ _
          exact ih (hno rfl)
    exact go hh w
  · cases f with
    | next =>
      obtain ⟨σ', H', J', q⟩ := hsp
      exact wpAny_execs_nil ⟨σ', H', J'.ofTry ok, q⟩
    | brk =>
      obtain ⟨σ', H', J', q⟩ := hsp
      exact ⟨σ', H', J'.ofTry ok, q⟩
    | cont =>
      obtain ⟨σ', H', J', q⟩ := hsp
      exact ⟨σ', H', J'.ofTry ok, q⟩
    | ret u =>
      obtain ⟨v, σ', H', J', r, q⟩ := hsp
      exact ⟨v, σ', H', J'.ofTry ok, r, q⟩
end
def sRaise (c : Nat) (fld : S) (e : ME) : MS := fun σ h => (e σ h).bindS σ fun v h1 => .ex c h1.length σ (h1 ++ [.xd [(fld, v)]])
section
variable {G : Gx} {W : WX} {X : Cx} {e : Expr} {me : ME} {c k : Nat} {C fI : Addr} {fd : FuncData} {ps : List Str} {fld : S} {x : Str} {p pos pos' : Pos}
theorem ms_raise (hc : X.calm = true) (tk : Takes X W) (hct : G.ct c = some C) (T : OexC X.K C) (iC : PySem.W.findIn X.K (.ref C) "__init__" = some (some (.ref fI))) (tI : PySem.W.typeIn X.K (.ref fI) = some (.type "function"))
    (F1 : FnOk X.prog X.w X.K X.mg X.base (L2.CX X.prog X.w) k fI fd ps (spI C (toStr fld))) (hr : Room (k + 1) X.A) (hb : Binds X.K fd ps []) (hg : Gl X x) (hm : X.mg x = some (.ref C)) (he : PE X e (rdE G W me))
    (hdb : (x == ("__debug__" : Str)) = false := by decide) (hst : starEach [e] X.env = (false, eval e X.env) :: starEach [] X.env := by rfl) (hpl : (backTo pos (starEach [] X.env)).any (·.1) = false := by rfl) :
    PS X (.Raise (some (.Call (.Name x p) [e] [] pos)) none pos') (rdS G W (sRaise c fld me)) := by
  have hx : Passes (L2.CX X.prog X.w) X (fun _ _ _ => False) := fun pins σ H s e s' I ⟨_, _, _, _, _, _, _, _, _, _, _, _, z⟩ => z.elim
  have pa : PA X [e] (tCons (rdE G W me) tNil) := pa_cons he pa_nil hst
  refine PS.imp' (ps_raise hc tk (pmk_oex (sp := spI C (toStr fld)) T iC tI F1 hr hb .nil hx hg hm pa hdb hst hpl)) fun D σ H ⟨ρ, σi, h, as, ag, f⟩ => ?_
  refine rdS_go as ag f fun ρ1 H1 h1 v y st as1 ag1 rv f1 => ?_
  show ([y].length ≤ 1000) ∧ _
  refine ⟨by simp, fun a na => ⟨a, y, rfl, upd_same, fun dx ndx ne => ?_⟩⟩
  have n1 : H1 dx = none := by rw [upd_ne ne] at ndx; exact ndx
  refine ⟨rfl, dx, [(toStr fld, y)], upd_same, by rw [upd_ne ne, upd_same], n1, ?_⟩
  have eh : upd (del (upd (upd (upd H1 a (exo a C none)) dx (exd dx [(toStr fld, y)])) a (exo a C (some dx))) a) dx (.xd [(toStr fld, y)]) = upd H1 dx (.xd [(toStr fld, y)]) := by
    funext b
    by_cases h1 : b = dx
    · rw [h1, upd_same, upd_same]
    · rw [upd_ne h1, upd_ne h1]
      by_cases h2 : b = a
      · rw [h2, del_same, na]
      · rw [del_ne h2, upd_ne h2, upd_ne h1, upd_ne h2]
  rw [eh]
  exact f1 (ρ1 ++ [dx]) _ dx C σ (Stp.new n1) (ag1.new n1 ⟨_, upd_same, .cons rfl (rv.mono (Stp.new n1)) .nil⟩) (as1.mono (Stp.new n1)) (by rw [← ag1.len]; simp) hct
end
end ML
end
section
namespace ML
open PySem PySem.Spec PyProof.Rows L2 He
def goneS (i : Nat) : RS → RS
  | .nx σ h => .nx (σ.set i none) h
  | .bk σ h => .bk (σ.set i none) h
  | .ct σ h => .ct (σ.set i none) h
  | .rt v h => .rt v h
  | _ => .err
abbrev Hd := (Nat → Option Bool) × Nat × (Nat → Nat → MS)
def runH : List Hd → Nat → Nat → MS
  | [], c, n => fun σ h => .ex c n σ h
  | (mt, i, su) :: r, c, n => fun σ h => match mt c with
    | some true => match Nat.blt i σ.length with
      | true => goneS i (su c n (σ.set i none) h)
      | false => .err
    | some false => runH r c n σ h
    | none => .err
def sTry (body : MS) (hs : List Hd) : MS := fun σ h => match body σ h with
  | .ex c n σ' h' => runH hs c n σ' h'
  | r => r
def rdGX {α β : Type} (G : Gx) (n : Nat) (dd : Addr) (i : Nat) (a : Addr) (R : List Addr → Hp → α → β → Prop) (W : WX) (m : Sg → Hi → Res α) : L2.St → Hp → (β → Hp → Prop) → Prop := fun σ H Q =>
  ∃ ρ σi h, ρ[n]? = some dd ∧ σ[i]? = some (some (V.ref a)) ∧ AgS G ρ H σi σ ∧ Ag G ρ h H ∧ FinG G ρ H R Q (fun c d H' => W c d σ H') (m σi h)
abbrev rdEX (G : Gx) (n : Nat) (dd : Addr) (i : Nat) (a : Addr) (W : WX) (m : ME) : TE := rdGX G n dd i a (RV G) W m
abbrev rdAX (G : Gx) (n : Nat) (dd : Addr) (i : Nat) (a : Addr) (W : WX) (m : MA) : TA := rdGX G n dd i a (RVs G) W m
def rdSX (G : Gx) (n : Nat) (dd : Addr) (i : Nat) (a : Addr) (W : WX) (m : MS) : TS := fun D σ H =>
  ∃ ρ σi h, ρ[n]? = some dd ∧ σ[i]? = some (some (V.ref a)) ∧ AgS G ρ H σi σ ∧ Ag G ρ h H ∧ FinS G ρ H D W (m σi h)
section
variable {G : Gx} {ρ : List Addr} {H : Hp} {W : WX} {X : Cx} {σ : L2.St} {σi : Sg} {h : Hi} {n i : Nat} {dd a : Addr} {e : Expr} {es : List Expr} {me : ME} {ma mr : MA} {pos : Pos}
theorem rdGX_go {α β γ δ : Type} {R : List Addr → Hp → α → β → Prop} {R' : List Addr → Hp → γ → δ → Prop} {m : Sg → Hi → Res α} {k : α → Hi → Res γ} {Q : δ → Hp → Prop} {N : β → Hp → Prop}
    (hn : ρ[n]? = some dd) (hs : σ[i]? = some (some (V.ref a))) (as : AgS G ρ H σi σ) (ag : Ag G ρ h H) (f : FinG G ρ H R' Q (fun c d H' => W c d σ H') ((m σi h).bind k))
    (nx : ∀ ρ1 H1 h1 x y, Stp G ρ H ρ1 H1 → ρ1[n]? = some dd → AgS G ρ1 H1 σi σ → Ag G ρ1 h1 H1 → R ρ1 H1 x y → FinG G ρ1 H1 R' Q (fun c d H' => W c d σ H') (k x h1) → N y H1) : rdGX G n dd i a R W m σ H N := by
  refine ⟨ρ, σi, h, hn, hs, as, ag, ?_⟩
  cases e : m σi h with
  | err => rw [e] at f; exact f
  | ex c n' h' => rw [e] at f; exact f
  | ok v h' =>
    rw [e] at f
    exact fun ρ' H' x st a' r => nx ρ' H' h' v x st (st.pre _ _ hn) (as.mono st) a' r (FinG.later st f)
theorem mex_of {m : ME} (hp : PE X e (rdE G W m)) : PE X e (rdEX G n dd i a W m) := PE.imp' hp fun σ H Q ⟨ρ, σi, h, _, _, as, ag, f⟩ => ⟨ρ, σi, h, as, ag, f⟩
theorem mex_nil : PA X [] (rdAX G n dd i a W aNil) := PA.imp' pa_nil fun σ H Q ⟨ρ, σi, h, _, _, as, ag, f⟩ => f.ok ag .nil
theorem mex_cons (ha : PE X e (rdEX G n dd i a W me)) (hr : PA X es (rdAX G n dd i a W mr)) (hs : starEach (e :: es) X.env = (false, eval e X.env) :: starEach es X.env := by rfl) : PA X (e :: es) (rdAX G n dd i a W (aCons me mr)) :=
  PA.imp' (pa_cons ha hr hs) fun σ H Q ⟨ρ, σi, h, h1, h2, as, ag, f⟩ => rdGX_go h1 h2 as ag f fun ρ1 H1 h1' x y st k1 as ag r f => rdGX_go k1 h2 as ag f fun ρ2 H2 h2' xs ys st2 k2 as ag rs f => f.ok ag (.cons (r.mono st2) rs)
theorem mex_lst (hp : PA X es (rdAX G n dd i a W mr)) : PE X (.List es pos) (rdEX G n dd i a W (eLst mr)) :=
  PE.imp' (pe_lst hp) fun σ H Q ⟨ρ, σi, h, h1, h2, as, ag, f⟩ => rdGX_go h1 h2 as ag f fun ρ1 H1 h1' xs ys st k1 as ag rs f => by
    cases e : small xs.length with
    | false => rw [e] at f; exact f.elim
    | true =>
      rw [e] at f
      refine ⟨by rw [← rs.length]; exact small_ok e, fun p hp => ?_⟩
      exact f (ρ1 ++ [p]) _ _ (Stp.new hp) (ag.new hp ⟨ys, upd_same, rs.mono (Stp.new hp)⟩) (.ref (by rw [← ag.len]; simp))
theorem mex_cb {f : OpC} {id : String} {x : Str} {p : Pos} (hc : CallR X (.builtin id) (rdC G f)) (hg : Gl X x) (hm : X.mg x = none) (hv : bootBuiltins x = some (.builtin id)) (ha : PA X (e :: es) (rdAX G n dd i a W mr)) (hn : x ≠ "__name__" := by decide) (hdb : (x == ("__debug__" : Str)) = false := by decide)
    (he : starEach (e :: es) X.env = (false, eval e X.env) :: starEach es X.env := by rfl) (hpl : (backTo pos (starEach es X.env)).any (·.1) = false := by rfl) : PE X (.Call (.Name x p) (e :: es) [] pos) (rdEX G n dd i a W (eCB f mr)) :=
  PE.imp' (pe_callB hc hg hm hv ha hn hdb he hpl) fun σ H Q ⟨ρ, σi, h, h1, h2, as, ag, fi⟩ => rdGX_go h1 h2 as ag fi fun ρ1 H1 h1' xs ys st k1 as ag rs f => ⟨ρ1, h1', xs, ag, rs, FinO.of f⟩
def eXf (cs : List Nat) (c n : Nat) (f : S) : ME := fun _ h => match cs.contains c, h[n]? with
  | true, some (.xd fs) => match getF f fs with
    | some v => .ok v h
    | none => .err
  | _, _ => .err
def XcOk (K : PySem.W.Frag) (G : Gx) (cs : List Nat) (f : S) : Prop := ∀ c C, cs.contains c = true → G.ct c = some C → XfC K C ∧ PySem.W.findIn K (.ref C) (toStr f) = some none
theorem mex_fld {cs : List Nat} {c : Nat} {C : Addr} {fn : S} {fs en : Str} {oe : Obj} {pn : List (Addr × Obj)} {np : Pos} (ef : fs = toStr fn) (hX : XcOk X.K G cs fn) (hct : G.ct c = some C) (hz : Zc (.ref C) (some dd) oe) (hf : ∃ vs, oe.data = .fields vs)
    (hN : X.N[i]? = some en) (hv : Vis X.env.scope en) (hb : attributeBase (.Name en np) fs X.env (eval (.Name en np) X.env) = eval (.Name en np) X.env) (hd : (en == ("__debug__" : Str)) = false := by decide) (hcd : (en == ("__classdict__" : Str)) = false := by decide) :
    PE (X.suite a ((a, oe) :: pn)) (.Attribute (.Name en np) fs pos) (rdEX G n dd i a W (eXf cs c n fn)) := by
  subst ef
  refine PE.dispatch fun σ H Q ⟨ρ, σi, h, h1, h2, as, ag, f⟩ => ?_
  unfold eXf at f
  cases q1 : cs.contains c with
  | false => rw [q1] at f; exact f.elim
  | true =>
    rw [q1] at f
    cases q2 : h[n]? with
    | none => rw [q2] at f; exact f.elim
    | some ob =>
      rw [q2] at f
      cases ob with
      | xd gs =>
        dsimp only at f
        obtain ⟨T, hno⟩ := hX c C q1 hct
        obtain ⟨ls, hH, rf⟩ := ag.at_ q2 h1
        have g := RFs.getF fn rf
        cases q3 : getF fn gs with
        | none => rw [q3] at f; exact f.elim
        | some v =>
          rw [q3] at f g
          obtain ⟨x, gx, rx⟩ := g
          exact ⟨_, pe_xf T hno hz hf (pe_var (X := X.suite a ((a, oe) :: pn)) hN hv hd hcd) hb, _, h2, rfl, rfl, dd, ls, x, rfl, hH, gx, f.ok ag rx⟩
      | _ => exact f.elim
end
end ML
end
section
namespace ML
open PySem PySem.Spec PyProof.Rows L2 He
theorem kitx_excD {K : PySem.W.Frag} {x D : Addr} {ox : Obj} {od : Option Obj} (T : ExcC K D) : PySem.W.KitX K (.ref x) (.ref D) (fun h => PySem.W.InstAt h x ox D od) where
  ty := fun _ _ _ I => I.type
  it := fun _ _ X _ => by
    obtain ⟨cdD, hcD, _⟩ := PySem.W.any_some T.hd
    unfold PySem.W.clsIn at hcD
    split at hcD
    · rename_i c' d' cd' sl' ho
      intro A' Q' E' s' k q
      unfold isType loadHead
      exact wpAny_bind (wpAny_loadPart (k _ _ (X _ _ ho)) (wpAny_pure q))
    · cases hcD
  ne := fun h tp dd its n sl X htp => by
    obtain ⟨cdD, hcD, _⟩ := PySem.W.any_some T.hd
    refine Bool.eq_false_iff.mpr fun q => ?_
    have e : D = tp := Value.ref.inj (beq_iff_eq.mp q)
    subst e
    unfold PySem.W.clsIn at hcD
    split at hcD
    · rename_i c' d' cd' sl' ho
      have z := (X _ _ ho).symm.trans htp
      cases z
    · cases hcD
  ca := fun X I k => PySem.W.kx_classE X I T.hg T.hk T.hs (PySem.W.findObj_dataE (by obtain ⟨cd, hc, _⟩ := PySem.W.any_some T.hd; rw [hc]; rfl) T.ha T.hn T.ht) T.hm k
def rIsED (K : PySem.W.Frag) (D a dd : Addr) : List V → Hp → VK → Prop := fun xs H Q => ∃ (c : V) (cv : Value) (b : Bool) (fs : List (Str × V)), xs = [.ref a, c] ∧ H dd = some (.xd fs) ∧ (∀ u, RelV c u → u = cv) ∧ PySem.W.kitOne K (.ref D) cv = some b ∧ Q (.bl b) H
theorem call_isED {X : Cx} {a D dd : Addr} {oe : Obj} {pn : List (Addr × Obj)} (C : ExcC X.K D) (hz : Zc (.ref D) (some dd) oe) (hf : ∃ vs, oe.data = .fields vs) : CallR (X.suite a ((a, oe) :: pn)) (.builtin "isinstance") (rIsED X.K D a dd) := by
  intro pins s σ H xs us Q I r h
  obtain ⟨c, cv, b, fs, rfl, hx, hcv, e, q⟩ := h
  cases r with
  | cons rx rr =>
    cases rr with
    | cons rt rr =>
      cases rr
      cases rx
      have ec := hcv _ rt
      subst ec
      obtain ⟨hget, _⟩ := I.pin (a, oe) (List.mem_append.mpr (.inl List.mem_cons_self))
      obtain ⟨vs, hv⟩ := hf
      have ho : ObjOk X.prog X.w H s.heap dd (.xd fs) := I.hok dd _ hx
      obtain ⟨mA, hns, hr⟩ := ho
      obtain ⟨od, ho, hl⟩ := lookIn_ns hns
      have J : PySem.W.InstAt s.heap a oe D (some od) := ⟨hget, hz.1, by unfold PySem.W.notCls; rw [hv] <;> rfl, by rw [hz.2]; exact ho⟩
      exact PySem.W.kia_one (kitx_excD C) I.kIn J e (fun z => nomatch z) fun tk => ⟨.bl b, H, I.kept (t' := tk) fun _ _ z => z, rfl, q⟩
def eXi (tbl : Nat → Option Bool) (c n : Nat) : ME := fun _ h => match tbl c, h[n]? with
  | some b, some (.xd _) => .ok (.bl b) h
  | _, _ => .err
def XiOk (K : PySem.W.Frag) (G : Gx) (tbl : Nat → Option Bool) (cv : Value) : Prop := ∀ c C b, tbl c = some b → G.ct c = some C → ExcC K C ∧ PySem.W.kitOne K (.ref C) cv = some b
section
variable {G : Gx} {ρ : List Addr} {H : Hp} {W : WX} {X : Cx} {σ : L2.St} {σi : Sg} {h : Hi} {n i : Nat} {dd a : Addr} {e : Expr} {es : List Expr} {me : ME} {ma mr : MA} {pos : Pos}
theorem mex_isi {tbl : Nat → Option Bool} {c : Nat} {C : Addr} {cv : V} {u : Value} {en : Str} {oe : Obj} {pn : List (Addr × Obj)} {np p : Pos} {ce : Expr} (hX : XiOk X.K G tbl u) (hct : G.ct c = some C) (hz : Zc (.ref C) (some dd) oe) (hf : ∃ vs, oe.data = .fields vs)
    (hN : X.N[i]? = some en) (hv : Vis X.env.scope en) (hg : Gl X "isinstance") (hm : X.mg "isinstance" = none) (hc : PE (X.suite a ((a, oe) :: pn)) ce (tC cv)) (cl : ClsV cv u)
    (hs1 : starEach [.Name en np, ce] X.env = (false, eval (.Name en np) X.env) :: starEach [ce] X.env := by rfl) (hs2 : starEach [ce] X.env = (false, eval ce X.env) :: starEach [] X.env := by rfl) (hpl : (backTo pos (starEach [ce] X.env)).any (·.1) = false := by rfl)
    (hd : (en == ("__debug__" : Str)) = false := by decide) (hcd : (en == ("__classdict__" : Str)) = false := by decide) :
    PE (X.suite a ((a, oe) :: pn)) (.Call (.Name "isinstance" p) [.Name en np, ce] [] pos) (rdEX G n dd i a W (eXi tbl c n)) := by
  refine PE.dispatch fun σ H Q ⟨ρ, σi, h, h1, h2, as, ag, f⟩ => ?_
  unfold eXi at f
  cases q1 : tbl c with
  | none => rw [q1] at f; exact f.elim
  | some b =>
    rw [q1] at f
    cases q2 : h[n]? with
    | none => rw [q2] at f; exact f.elim
    | some ob =>
      rw [q2] at f
      cases ob with
      | xd gs =>
        dsimp only at f
        obtain ⟨T, hk⟩ := hX c C b q1 hct
        obtain ⟨ls, hH, rf⟩ := ag.at_ q2 h1
        exact ⟨_, pe_callB (call_isED T hz hf) hg hm boot_isinstance (pa_cons (pe_var (X := X.suite a ((a, oe) :: pn)) hN hv hd hcd) (pa_cons hc pa_nil hs2) hs1) (by decide) (by decide) hs1 hpl, _, h2, _, u, b, ls, rfl, hH, (fun u2 r2 => cl.eq r2), hk, f.ok ag (.bl b)⟩
      | _ => exact f.elim
theorem rdSX_go {α β : Type} {R : List Addr → Hp → α → β → Prop} {m : Sg → Hi → Res α} {k : α → Hi → RS} {D : Ends} {N : β → Hp → Prop}
    (hn : ρ[n]? = some dd) (hs : σ[i]? = some (some (V.ref a))) (as : AgS G ρ H σi σ) (ag : Ag G ρ h H) (f : FinS G ρ H D W ((m σi h).bindS σi k))
    (nx : ∀ ρ1 H1 h1 x y, Stp G ρ H ρ1 H1 → ρ1[n]? = some dd → AgS G ρ1 H1 σi σ → Ag G ρ1 h1 H1 → R ρ1 H1 x y → FinS G ρ1 H1 D W (k x h1) → N y H1) : rdGX G n dd i a R W m σ H N := by
  have z : rdG G R W m σ H fun y H1 => N y H1 ∨ True := rdS_go as ag f fun ρ1 H1 h1 x y st as1 ag1 r f1 => .inr trivial
  refine ⟨ρ, σi, h, hn, hs, as, ag, ?_⟩
  cases e : m σi h with
  | err => rw [e] at f; exact f
  | ex c n' h' => rw [e] at f; exact fun ρ' H' d C st a' q1 q2 => f ρ' H' d C σ st a' (as.mono st) q1 q2
  | ok v h' =>
    rw [e] at f
    exact fun ρ' H' x st a' r => nx ρ' H' h' v x st (st.pre _ _ hn) (as.mono st) a' r (FinS.later st f)
theorem msx_ret (he : PE X e (rdEX G n dd i a W me)) : PS X (.Return (some e) pos) (rdSX G n dd i a W (sRet me)) :=
  PS.imp' (ps_ret he) fun D σ H ⟨ρ, σi, h, h1, h2, as, ag, f⟩ => rdSX_go h1 h2 as ag f fun ρ1 H1 h1' x y st k1 as ag r f => f ρ1 H1 y .refl ag r
theorem msx_one {st : Stmt} {t : TS} (h : PS X st t) : PSs X [st] t := pss_one h
end
def tSu (G : Gx) (mt : Nat → Option Bool) (su : Nat → Nat → MS) (i : Nat) : Addr → Value → Option Addr → TS := fun a cls d D σ H => ∃ c n C dd, cls = .ref C ∧ d = some dd ∧ G.ct c = some C ∧ mt c = some true ∧ rdSX G n dd i a W0 (su c n) D σ H
inductive HdM (X : Cx) (G : Gx) : List ExceptHandler → List Hd → List (Value × Nat × (Addr → Value → Option Addr → TS)) → Prop
  | nil : HdM X G [] [] []
  | cons {x n : Str} {i : Nat} {cv : Value} {mt : Nat → Option Bool} {su : Nat → Nat → MS} {b₀ : Stmt} {suite : List Stmt} {np pos' : Pos} {hds : List ExceptHandler} {hs : List Hd} {l : List (Value × Nat × (Addr → Value → Option Addr → TS))} (hc : Names X x cv)
      (hi : X.N[i]? = some n) (hln : X.env.kindOf n = some .local) (hmt : ∀ c C b, mt c = some b → G.ct c = some C → PySem.W.exmOne X.K (.ref C) cv = some b)
      (hsu : ∀ (a : Addr) (oe : Obj) (C dd : Addr) (pn : List (Addr × Obj)) (c n : Nat), G.ct c = some C → mt c = some true → Zc (.ref C) (some dd) oe → (∃ vs, oe.data = .fields vs) → PSs (X.suite a ((a, oe) :: pn)) (b₀ :: suite) (rdSX G n dd i a W0 (su c n)))
      (r : HdM X G hds hs l) : HdM X G (.ExceptHandler (some (.Name x np)) (some n) (b₀ :: suite) pos' :: hds) ((mt, i, su) :: hs) ((cv, i, tSu G mt su i) :: l)
theorem PSs.dispatch {X : Cx} {st : List Stmt} {t : TS} (h : ∀ D σ H, t D σ H → ∃ t', PSs X st t' ∧ t' D σ H) : PSs X st t := ⟨fun pins s σ H D I q => let ⟨_, p, q'⟩ := h D σ H q; p.run pins s σ H D I q'⟩
theorem HdM.hds {X : Cx} {G : Gx} {hds : List ExceptHandler} {hs : List Hd} {l : List (Value × Nat × (Addr → Value → Option Addr → TS))} (m : HdM X G hds hs l) : HdsA X hds l := by
  induction m with
  | nil => exact .nil
  | cons hc hi hln hmt hsu r ih =>
    refine .cons hc hi hln (fun a oe cls d pn hz hf => PSs.dispatch fun D σ H ⟨c, n, C, dd, e1, e2, hct, hm, q⟩ => ?_) ih
    subst e1 e2
    exact ⟨_, hsu a oe C dd pn c n hct hm hz hf, q⟩
theorem runH_ok {X : Cx} {G : Gx} {W : WX} {D : Ends} {hds : List ExceptHandler} {hs : List Hd} {l : List (Value × Nat × (Addr → Value → Option Addr → TS))} (m : HdM X G hds hs l) : ∀ {ρ : List Addr} {H : Hp} {σi : Sg} {σ : L2.St} {h : Hi} {c n : Nat} {dd C : Addr},
    ρ[n]? = some dd → G.ct c = some C → AgS G ρ H σi σ → Ag G ρ h H → FinS G ρ H D W (runH hs c n σi h) → wManyA X.K W D l (.ref C) (some dd) σ H := by
  induction m with
  | nil => intro ρ H σi σ h c n dd C hn hct as ag f; exact f ρ H dd C σ .refl ag as hn hct
  | @cons x nm i cv mt su b₀ suite np pos' hds hs l hc hi hln hmt hsu r ih =>
    intro ρ H σi σ h c n dd C hn hct as ag f
    unfold runH at f
    cases q : mt c with
    | none => rw [q] at f; exact f.elim
    | some b =>
      rw [q] at f
      refine ⟨b, hmt c C b q hct, fun hb a na => ?_, fun hb => ?_⟩
      · subst hb
        dsimp only at f
        cases ql : Nat.blt i σi.length with
        | false => rw [ql] at f; exact f.elim
        | true =>
          rw [ql] at f
          dsimp only at f
          have hl : i < σ.length := by rw [Nat.blt_eq] at ql; rw [← as.len]; exact ql
          refine ⟨c, n, C, dd, rfl, rfl, hct, q, ρ, σi.set i none, h, hn, by rw [List.getElem?_set_self hl], as.lose i _, ag, ?_⟩
          cases e : su c n (σi.set i none) h with
          | nx σ' h' => rw [e] at f; exact fun ρ' H' σ3 st a' as' => f ρ' H' _ st a' (as'.lose i none)
          | bk σ' h' => rw [e] at f; exact fun ρ' H' σ3 st a' as' => f ρ' H' _ st a' (as'.lose i none)
          | ct σ' h' => rw [e] at f; exact fun ρ' H' σ3 st a' as' => f ρ' H' _ st a' (as'.lose i none)
          | rt v h' => rw [e] at f; exact f
          | ex c' n' σ' h' => rw [e] at f; exact f.elim
          | err => rw [e] at f; exact f.elim
      · subst hb
        exact ih hn hct as ag f
end ML
end
section
namespace ML
open PySem PySem.Spec PyProof.Rows L2 He
section
variable {G : Gx} {W : WX} {X : Cx} {body : List Stmt} {h₀ : ExceptHandler} {hds : List ExceptHandler} {hs : List Hd} {l : List (Value × Nat × (Addr → Value → Option Addr → TS))} {pos : Pos} {mb : MS}
theorem ms_try (tk : Takes X W) (hN : X.N.Nodup) (hb : ∀ (W' : WX) (pn : List (Addr × Obj)) (xe : Value → Shared → Prop), Takes (X.tr pn xe) W' → PassesOwn (model X.prog X.w) X.A X.env xe → PSs (X.tr pn xe) body (rdS G W' mb))
    (hh : HdM X G (h₀ :: hds) hs l) (hst : X.stack = X.env :: X.outer := by rfl) (hf : X.env.frame = some X.env.locals := by rfl) : PS X (.Try body (h₀ :: hds) [] [] pos) (rdS G W (sTry mb hs)) :=
  PS.imp' (ps_try_asMany (tb := fun W' => rdS G W' mb) (Wout := W) hst hf hN tk hb hh.hds) fun D σ H ⟨ρ, σi, h, as, ag, f⟩ => by
    refine ⟨ρ, σi, h, as, ag, ?_⟩
    unfold sTry at f
    cases e : mb σi h with
    | ex c n σ' h' =>
      rw [e] at f
      exact fun ρ' H' d C σ3 st ag' as' hn hct => runH_ok hh hn hct as' ag' (FinS.later st f)
    | nx σ' h' => rw [e] at f; exact f
    | bk σ' h' => rw [e] at f; exact f
    | ct σ' h' => rw [e] at f; exact f
    | rt v h' => rw [e] at f; exact f
    | err => rw [e] at f; exact f.elim
end
end ML
namespace ML
open PySem PySem.Spec PyProof.Rows L2 He
end ML
end
section
namespace ML
open PySem PySem.Spec PyProof.Rows L2 He
def oexB (K : PySem.W.Frag) (C : Addr) : Bool := match K.lookup C with
  | some ⟨.type "type", _, .cls cd, sl⟩ => (match cd.mro, sl.toList with
    | .ref C' :: bm, [_, _, _, _, some (.builtin n), _] => (C' == C && n == "ValueError.__new__" && !cd.hasDel) && (cd.hasDict && PySem.HandSPX.refsVE bm)
    | _, _ => false)
  | _ => false
theorem oexB_ok {K : PySem.W.Frag} {C : Addr} (q : oexB K C = true) : ∃ nm qn N bs bm sn sub ab col dd k0 k1 k2 k3 k5, K.lookup C = some (excClassObj nm qn C N bs bm true sn sub ab col dd k0 k1 k2 k3 k5 "ValueError.__new__") ∧ PySem.HandSPX.refsVE bm = true := by
  unfold oexB at q
  split at q
  · rename_i dd cd sl ho
    split at q
    · rename_i C' bm k0 k1 k2 k3 n k5 hm hs
      simp only [Bool.and_eq_true, beq_iff_eq, Bool.not_eq_true'] at q
      obtain ⟨⟨⟨rfl, rfl⟩, hdel⟩, hdi, hr⟩ := q
      obtain ⟨nm, bs, mro, ns, qn, hd, sn, sub, ab, col, del⟩ := cd
      dsimp only at hm hdel hdi
      subst hm hdel hdi
      have hsl : sl = #[k0, k1, k2, k3, some (.builtin "ValueError.__new__"), k5] := by
        obtain ⟨l⟩ := sl
        simp only at hs
        rw [hs]
      subst hsl
      exact ⟨nm, qn, ns, bs, bm, sn, sub, ab, col, dd, k0, k1, k2, k3, k5, ho, hr⟩
    · cases q
  · cases q
def excB (K : PySem.W.Frag) (x : Str) : Bool := oexB K (ga K x) && (eqO (PySem.W.findIn K (.ref (ga K x)) "__setattr__") (some (some (.builtin "object.__setattr__"))) && (decide (PySem.W.subIn K (.ref (ga K x)) (.type "BaseException") = some true) &&
  (decide (PySem.W.typeIn K (.ref (ga K x)) = some (.type "type")) && PySem.W.keepIn K (.ref (ga K x)))))
theorem excB_ok {K : PySem.W.Frag} {x : Str} (h : excB K x = true) : OexC K (ga K x) := by
  obtain ⟨h1, h⟩ := ba h
  obtain ⟨h2, h⟩ := ba h
  obtain ⟨h3, h⟩ := ba h
  obtain ⟨h4, h5⟩ := ba h
  exact ⟨oexB_ok h1, eqO_ok h2, of_decide_eq_true h3, of_decide_eq_true h4, h5⟩
def exiB (K : PySem.W.Frag) (x fld : Str) (d : Defn) : Bool := eqO (PySem.W.findIn K (.ref (ga K x)) "__init__") (some (some (.ref (d K)))) && (decide (PySem.W.typeIn K (.ref (d K)) = some (.type "function")) && (eqO (PySem.W.findIn K (.ref (ga K x)) fld) (some none) &&
  ((PySem.W.clsIn K (ga K x)).isSome && (decide (PySem.W.mroIn K (ga K x) (.ref (ga K x)) = some true) && (eqO (PySem.W.ks_superIn K (ga K x) (ga K x) "__init__") (some (some (.builtin "ValueError.__init__"))) &&
  (decide (PySem.W.subIn K (.ref (ga K x)) (.type "ValueError") = some true) && eqO (PySem.W.nsIn K cStatics "thirdparty.any") (some none)))))))
structure ExiOk (K : PySem.W.Frag) (x fld : Str) (d : Defn) : Prop where
  ini : PySem.W.findIn K (.ref (ga K x)) "__init__" = some (some (.ref (d K)))
  ty : PySem.W.typeIn K (.ref (d K)) = some (.type "function")
  no : PySem.W.findIn K (.ref (ga K x)) fld = some none
  cd : ∃ cd, PySem.W.clsIn K (ga K x) = some cd
  mro : PySem.W.mroIn K (ga K x) (.ref (ga K x)) = some true
  sup : PySem.W.ks_superIn K (ga K x) (ga K x) "__init__" = some (some (.builtin "ValueError.__init__"))
  sub : PySem.W.subIn K (.ref (ga K x)) (.type "ValueError") = some true
  any : PySem.W.nsIn K cStatics "thirdparty.any" = some none
theorem exiB_ok {K : PySem.W.Frag} {x fld : Str} {d : Defn} (h : exiB K x fld d = true) : ExiOk K x fld d := by
  obtain ⟨h1, h⟩ := ba h
  obtain ⟨h2, h⟩ := ba h
  obtain ⟨h3, h⟩ := ba h
  obtain ⟨h4, h⟩ := ba h
  obtain ⟨h5, h⟩ := ba h
  obtain ⟨h6, h⟩ := ba h
  obtain ⟨h7, h8⟩ := ba h
  exact ⟨eqO_ok h1, of_decide_eq_true h2, eqO_ok h3, Option.isSome_iff_exists.mp h4, of_decide_eq_true h5, eqO_ok h6, of_decide_eq_true h7, eqO_ok h8⟩
theorem ExiOk.supX {X : Cx} {x fld : Str} {d : Defn} (e : ExiOk X.K x fld d) : SupX X (ga X.K x) := ⟨e.cd, e.mro, e.sup, e.sub⟩
def exmL (K : PySem.W.Frag) (nm : Nat → Option Str) (y : Str) (l : List (Nat × Bool)) : Bool := l.all fun q => match nm q.1 with
  | some x => decide (PySem.W.exmOne K (.ref (ga K x)) (.ref (ga K y)) = some q.2)
  | none => false
theorem lkT_mem {α : Type} : ∀ {l : List (Nat × α)} {c : Nat} {b : α}, lkT l c = some b → (c, b) ∈ l
  | [], _, _, h => by cases h
  | (d, x) :: r, c, b, h => by
    rcases lkT_cons h with ⟨rfl, rfl⟩ | h
    · exact List.mem_cons_self
    · exact List.mem_cons_of_mem _ (lkT_mem h)
theorem exmL_ok {K : PySem.W.Frag} {mg : Str → Option Value} {nm : Nat → Option Str} {y : Str} {l : List (Nat × Bool)} (h : exmL K nm y l = true) : ∀ c C b, lkT l c = some b → (GxOf K mg nm).ct c = some C → PySem.W.exmOne K (.ref C) (.ref (ga K y)) = some b := fun c C b e hc => by
  have z := List.all_eq_true.mp h _ (lkT_mem e)
  dsimp only at z
  cases q : nm c with
  | none => rw [q] at z; cases z
  | some x =>
    rw [q] at z
    rw [gx_ct hc q]
    exact of_decide_eq_true z
def xcB (K : PySem.W.Frag) (nm : Nat → Option Str) (cs : List Nat) (f : Str) : Bool := cs.all fun c => match nm c with
  | some x => xfB K (ga K x) && eqO (PySem.W.findIn K (.ref (ga K x)) f) (some none)
  | none => false
theorem xcB_ok {K : PySem.W.Frag} {mg : Str → Option Value} {nm : Nat → Option Str} {cs : List Nat} {f : S} (h : xcB K nm cs (toStr f) = true) : XcOk K (GxOf K mg nm) cs f := fun c C e hc => by
  have z := List.all_eq_true.mp h c (List.contains_iff_mem.mp e)
  cases q : nm c with
  | none => rw [q] at z; cases z
  | some x =>
    rw [q] at z
    rw [gx_ct hc q]
    obtain ⟨z1, z2⟩ := ba z
    exact ⟨xfB_ok z1, eqO_ok z2⟩
def eccB (K : PySem.W.Frag) (x : Str) : Bool := xfB K (ga K x) && (eqO (PySem.W.findIn K (.ref (ga K x)) "__class__") (some (some (.builtin "object.__class__"))) && (eqO (PySem.W.specialIn K (.builtin "object.__class__") "__get__") (some (some (.builtin "getset_descriptor.__get__"))) &&
  (decide (PySem.W.takesIn K (.builtin "object.__class__") = some true) && decide (PySem.W.mroIn K (ga K x) (.type "object") = some true))))
theorem eccB_ok {K : PySem.W.Frag} {x : Str} (h : eccB K x = true) : ExcC K (ga K x) := by
  obtain ⟨h1, h⟩ := ba h
  obtain ⟨h2, h⟩ := ba h
  obtain ⟨h3, h⟩ := ba h
  obtain ⟨h4, h5⟩ := ba h
  have z := xfB_ok h1
  exact ⟨z.ga, z.gg, z.exC, z.hdC, eqO_ok h2, eqO_ok h3, of_decide_eq_true h4, of_decide_eq_true h5⟩
def xiB (K : PySem.W.Frag) (nm : Nat → Option Str) (r : ClsR) (l : List (Nat × Bool)) : Bool := l.all fun q => match nm q.1 with
  | some x => eccB K x && decide (PySem.W.kitOne K (.ref (ga K x)) (r.val K) = some q.2)
  | none => false
theorem xiB_ok {K : PySem.W.Frag} {mg : Str → Option Value} {nm : Nat → Option Str} {r : ClsR} {l : List (Nat × Bool)} (h : xiB K nm r l = true) : XiOk K (GxOf K mg nm) (lkT l) (r.val K) := fun c C b e hc => by
  have z := List.all_eq_true.mp h _ (lkT_mem e)
  dsimp only at z
  cases q : nm c with
  | none => rw [q] at z; cases z
  | some x =>
    rw [q] at z
    rw [gx_ct hc q]
    obtain ⟨z1, z2⟩ := ba z
    exact ⟨eccB_ok z1, of_decide_eq_true z2⟩
section
variable {X : Cx} {x qual : Str} {params : Arguments} {body : List Stmt} {scope : Scope} {dvs : List V} {kws : List (Str × V)} {f cc D c : Addr} {fd : FuncData} {file sf : Str} {ar : Arg}
theorem supD_of (F : FunS X.K x qual params body scope dvs kws f fd cc D c file) (hfn : X.env.func = some f) (hcode : X.env.code = .ref c) (har : (params.posonlyargs ++ params.args).head? = some ar) (hs : ar.arg = sf)
    (hfile : ((X.prog.main.file : Str) == file) = true) (htop : (X.prog.main.scope.names.lookup ("super" : Str)).isSome = false) (any : PySem.W.nsIn X.K cStatics "thirdparty.any" = some none) : SupD X f D sf := by
  obtain ⟨oc, od, dV, kV, doc, pm, an, ct, osl, e1, e2, _, _⟩ := F.ex
  obtain ⟨o, vs, tf, e3, e4, e5⟩ := F.file
  exact ⟨hfn, ⟨_, fd, ar, e2, rfl, by rw [e1]; exact har, hs⟩, ⟨c, o, vs, file, tf, hcode, e3, e4, e5, hfile⟩, htop, any⟩
end
theorem ex_body {X : Cx} {body : List Stmt} {f D : Addr} {par fld m : Str} {j1 : Nat} {p0 p1 p2 apos cpos spos q0 q1 q2 q3 : Pos} (S : SupD X f D "self") (hks : Gl X "super") (hm : X.mg "super" = none) (hkc : X.env.kindOf "__class__" = some .free) (hNc : X.N[2]? = some ("__class__" : Str)) (hvc : Vis X.env.scope "__class__")
    (hNs : X.N[0]? = some ("self" : Str)) (hvs : Vis X.env.scope "self") (hNp : X.N[1]? = some par) (hvp : Vis X.env.scope par) (hi : interactive X.env = false)
    (hst : starEach [.Constant (.str m) j1 p2] X.env = (false, eval (.Constant (.str m) j1 p2) X.env) :: starEach [] X.env) (hpl : (backTo cpos (starEach [] X.env)).any (·.1) = false)
    (hsw : swapsWith (.Call (.Attribute (.Call (.Name "super" p0) [] [] p1) "__init__" apos) [.Constant (.str m) j1 p2] [] cpos) none spos.line X.env = pure false)
    (ht : eval (.Call (.Attribute (.Call (.Name "super" p0) [] [] p1) "__init__" apos) [.Constant (.str m) j1 p2] [] cpos) X.env = (do
      let ov ← attributeBase (.Call (.Name "super" p0) [] [] p1) "__init__" X.env (eval (.Call (.Name "super" p0) [] [] p1) X.env)
      standAt apos.atName
      let (f, first) ← holding [ov] (getMethod ov "__init__" (pure false))
      callWith cpos f first (backTo cpos (starEach [.Constant (.str m) j1 p2] X.env)) []))
    (hs2 : swapsWith (.Name par q1) (some (.Attribute (.Name "self" q0) fld q2)) q3.line X.env = pure false) (hd : (par == ("__debug__" : Str)) = false) (hcd : (par == ("__classdict__" : Str)) = false) :
    PSsT X body [.Expr (.Call (.Attribute (.Call (.Name "super" p0) [] [] p1) "__init__" apos) [.Constant (.str m) j1 p2] [] cpos) spos, .Assign [.Attribute (.Name "self" q0) fld q2] (.Name par q1) q3] (tIni X D m fld) :=
  psst_cons (t1 := tSupX X 2 0 D (tCons (tC (.str m)) tNil)) (t2 := tOst X.K fld (tVar 0) (tVar 1)) (pst_superX (j := 2) (i := 0) (slf := "self") S hks hm hkc hNc hvc hNs hvs (by decide) (pa_cons pe_str pa_nil hst) hi hst hpl hsw ht) (pss_one (ps_ost (pe_var (i := 0) hNs hvs) (pe_var (i := 1) hNp hvp hd hcd) hs2))
end ML
end
section
namespace ML
open PySem L2
theorem L2R.negR {r : List Nat} {h : Hi} {a b : Res VI} (k : L2R RV2 r h a b) : L2R RV2 r h (negR a) (negR b) := by
  cases a with
  | err => trivial
  | ex c n s' =>
    obtain ⟨r', h', m, rfl, e, g, q⟩ := k
    exact ⟨r', h', m, rfl, e, g, q⟩
  | ok v s' =>
    obtain ⟨r', h', v', rfl, e, g, q⟩ := k
    cases q with
    | bl b => exact ⟨r', h', _, rfl, e, g, .bl (!b)⟩
    | _ => trivial
instance {ma mb : ME} {f : Op2} {cs : List Nat} {tbl : Nat → Option MF} [c : LTb tbl] [x : LE ma] [y : LE mb] [o : LOp f] : LE (eNeU cs tbl f ma mb) := ⟨fun r s h σ σ' g a => (x.run r s h σ σ' g a).bind fun r1 s1 h1 v v' e1 g1 q1 => (y.run _ _ _ _ _ g1 (a.mono e1)).bind fun r2 s2 h2 w w' e2 g2 q2 => by
  rw [ins2 g2 (q1.mono e2), ty2 g2 q2]
  cases z : insC v s2 with
  | none => exact .ofO (o.run _ _ _ _ _ _ _ g2 (q1.mono e2) q2)
  | some d =>
    dsimp only
    cases w0 : tbl d with
    | none => trivial
    | some u =>
      cases w1 : nfI cs (tyI w s2) with
      | false => trivial
      | true => exact ((c.run _ _ w0).run _ _ _ _ _ g2 (.cons (q1.mono e2) (.cons q2 .nil))).negR⟩
instance {c : Nat} {f : S} {ma : ME} [x : LE ma] : LS (sRaise c f ma) := ⟨fun r s h σ σ' g a => (x.run r s h σ σ' g a).bindS a fun r1 s1 h1 v v' e1 g1 q1 => by
  have e0 : Ex2 r1 h1 (r1 ++ [h1.length]) (h1 ++ [OI.xd [(f, v')]]) := ⟨⟨[h1.length], rfl, fun m hm => by rw [List.mem_singleton] at hm; omega⟩, by simp, fun m _ hlt => List.getElem?_append_left hlt⟩
  obtain ⟨g', e⟩ := g1.new (o := OI.xd [(f, v)]) (o' := OI.xd [(f, v')]) (.xd (.cons (q1.mono e0) .nil))
  exact ⟨_, _, _, _, rfl, e, g', (a.mono e1).mono e, g1.idx⟩⟩
class LE2 (n m : Nat) (e e' : ME) : Prop where
  run : ∀ r s h σ σ', r[n]? = some m → Ag2 r s h → AS2 r σ σ' → L2R RV2 r h (e σ s) (e' σ' h)
class LA2 (n m : Nat) (e e' : MA) : Prop where
  run : ∀ r s h σ σ', r[n]? = some m → Ag2 r s h → AS2 r σ σ' → L2R RVs2 r h (e σ s) (e' σ' h)
class LS2 (n m : Nat) (e e' : MS) : Prop where
  run : ∀ r s h σ σ', r[n]? = some m → Ag2 r s h → AS2 r σ σ' → L2S r h (e σ s) (e' σ' h)
theorem Ex2.at_ {r r' : List Nat} {h h' : Hi} {n m : Nat} (e : Ex2 r h r' h') (q : r[n]? = some m) : r'[n]? = some m := e.pre q
section
variable {n m c : Nat}
instance (priority := low) {e : ME} [x : LE e] : LE2 n m e e := ⟨fun r s h σ σ' _ g a => x.run r s h σ σ' g a⟩
instance {cs : List Nat} {f : S} : LE2 n m (eXf cs c n f) (eXf cs c m f) := ⟨fun r s h σ σ' q g a => by
  unfold eXf
  obtain ⟨o, o', z1, z2, z3⟩ := g.no q
  rw [z1, z2]
  cases z3 with
  | xd t =>
    cases cs.contains c with
    | false => trivial
    | true =>
      have k := getF2 (f := f) t
      dsimp only
      rename_i xs ys
      cases w : getF f xs with
      | none => trivial
      | some v =>
        rw [w] at k
        cases w2 : getF f ys with
        | none => rw [w2] at k; exact k.elim
        | some v' => rw [w2] at k; exact .ok g k
  | _ => cases cs.contains c <;> trivial⟩
instance {t : Nat → Option Bool} : LE2 n m (eXi t c n) (eXi t c m) := ⟨fun r s h σ σ' q g a => by
  unfold eXi
  obtain ⟨o, o', z1, z2, z3⟩ := g.no q
  rw [z1, z2]
  cases t c with
  | none => trivial
  | some b => cases z3 <;> first | exact .ok g (.bl b) | trivial⟩
instance : LA2 n m aNil aNil := ⟨fun r s h σ σ' q g a => .ok g .nil⟩
instance {a a' : ME} {b b' : MA} [x : LE2 n m a a'] [y : LA2 n m b b'] : LA2 n m (aCons a b) (aCons a' b') := ⟨fun r s h σ σ' q g a => (x.run r s h σ σ' q g a).bind fun r1 s1 h1 v v' e1 g1 q1 => (y.run _ _ _ _ _ (e1.at_ q) g1 (a.mono e1)).bind fun r2 s2 h2 w w' e2 g2 q2 => .ok g2 (.cons (q1.mono e2) q2)⟩
instance {b b' : MA} [y : LA2 n m b b'] : LE2 n m (eLst b) (eLst b') := ⟨fun r s h σ σ' q g a => (y.run _ _ _ _ _ q g a).bind fun r2 s2 h2 w w' e2 g2 q2 => by
  rw [← q2.length]
  split
  · exact .new g2 fun r' e => .lst (q2.mono e)
  · trivial⟩
instance {a a' : ME} [x : LE2 n m a a'] : LS2 n m (sRet a) (sRet a') := ⟨fun r s h σ σ' q g a => (x.run r s h σ σ' q g a).bindS a fun r1 s1 h1 v v' e1 g1 q1 => ⟨_, _, _, rfl, .refl, g1, q1⟩⟩
instance : LS2 n m sNx sNx := ⟨fun r s h σ σ' q g a => .nx g a⟩
instance {a a' : ME} {b b' : MS} {j : Nat} [x : LE2 n m a a'] [y : LS2 n m b b'] : LS2 n m (sSeq (sAsg a (gNm j)) b) (sSeq (sAsg a' (gNm j)) b') := ⟨fun r s h σ σ' q g a =>
  L2S.andThen ((x.run r s h σ σ' q g a).bindS a fun r1 s1 h1 v v' e1 g1 q1 => .nx g1 ((a.mono e1).set q1 j)) fun r1 s1 h1 t t' e1 g1 a1 => y.run _ _ _ _ _ (e1.at_ q) g1 a1⟩
end
theorem goneS2 {r : List Nat} {h : Hi} {i : Nat} {a b : RS} (k : L2S r h a b) : L2S r h (goneS i a) (goneS i b) := by
  cases a with
  | err => trivial
  | nx σ s' => obtain ⟨r2, h2, m, rfl, e2, g, a⟩ := k; exact ⟨r2, h2, _, rfl, e2, g, a.lose i⟩
  | bk σ s' => obtain ⟨r2, h2, m, rfl, e2, g, a⟩ := k; exact ⟨r2, h2, _, rfl, e2, g, a.lose i⟩
  | ct σ s' => obtain ⟨r2, h2, m, rfl, e2, g, a⟩ := k; exact ⟨r2, h2, _, rfl, e2, g, a.lose i⟩
  | rt σ s' => obtain ⟨r2, h2, m, rfl, e2, g, a⟩ := k; exact ⟨r2, h2, _, rfl, e2, g, a⟩
  | ex c n σ s' => trivial
class LHs (hs : List Hd) : Prop where
  run : ∀ c n m r s h σ σ', r[n]? = some m → Ag2 r s h → AS2 r σ σ' → L2S r h (runH hs c n σ s) (runH hs c m σ' h)
instance : LHs [] := ⟨fun c n m r s h σ σ' q g a => ⟨_, _, _, _, rfl, .refl, g, a, q⟩⟩
instance {mt : Nat → Option Bool} {i : Nat} {su : Nat → Nat → MS} {hs : List Hd} [x : ∀ c n m, LS2 n m (su c n) (su c m)] [y : LHs hs] : LHs ((mt, i, su) :: hs) := ⟨fun c n m r s h σ σ' q g a => by
  unfold runH
  cases mt c with
  | none => trivial
  | some b =>
    cases b with
    | false => exact y.run _ _ _ _ _ _ _ _ q g a
    | true =>
      dsimp only
      rw [← a.len]
      split
      · exact goneS2 ((x c n m).run _ _ _ _ _ q g (a.lose i))
      · trivial⟩
instance {body : MS} {hs : List Hd} [x : LS body] [y : LHs hs] : LS (sTry body hs) := ⟨fun r s h σ σ' g a => by
  have k := x.run r s h σ σ' g a
  unfold sTry
  cases z : body σ s with
  | err => trivial
  | nx σ1 s' => rw [z] at k; obtain ⟨r2, h2, m, e1, e2, g2, a2⟩ := k; rw [e1]; exact ⟨r2, h2, _, rfl, e2, g2, a2⟩
  | bk σ1 s' => rw [z] at k; obtain ⟨r2, h2, m, e1, e2, g2, a2⟩ := k; rw [e1]; exact ⟨r2, h2, _, rfl, e2, g2, a2⟩
  | ct σ1 s' => rw [z] at k; obtain ⟨r2, h2, m, e1, e2, g2, a2⟩ := k; rw [e1]; exact ⟨r2, h2, _, rfl, e2, g2, a2⟩
  | rt v s' => rw [z] at k; obtain ⟨r2, h2, m, e1, e2, g2, a2⟩ := k; rw [e1]; exact ⟨r2, h2, _, rfl, e2, g2, a2⟩
  | ex c n σ1 s' =>
    rw [z] at k
    obtain ⟨r2, h2, σ2, m, e1, e2, g2, a2, q⟩ := k
    rw [e1]
    exact (y.run c n m r2 s' h2 σ1 σ2 q g2 a2).ext e2⟩
end ML
end
section
namespace PySem.W
open PySem PyProof.Rows
section
variable {prog : Program} {w : World} {A : Around} {E : Value → Shared → Prop} {s : Shared} {K : Frag} {x C f : Addr} {ox : Obj} {od : Option Obj} {name : Str}
end
end PySem.W
namespace ML
open PySem PySem.Spec PyProof.Rows L2 He
def lenR : Res VI → Res VI
  | .ok (.int n) h => match decide (0 ≤ n) && decide (n < 2 ^ 62) with
    | true => .ok (.int n) h
    | false => .err
  | .ex c n h => .ex c n h
  | _ => .err
def eLenU (tbl : Nat → Option MF) (a : ME) : ME := fun σ h => (a σ h).bind fun x h1 => match insC x h1 with
  | some c => match tbl c with
    | some g => lenR (g [x] h1)
    | none => .err
  | none => ofO (cLen [x] h1)
section
variable {G : Gx} {ρ : List Addr} {h : Hi} {H : Hp} {W : WX} {X : Cx} {a : Expr} {pos p : Pos} {ma : ME} {tbl : Nat → Option MF} {σ : L2.St}
end
end ML
end
section
namespace ML
open PySem L2
theorem L2R.lenR {r : List Nat} {h : Hi} {a b : Res VI} (k : L2R RV2 r h a b) : L2R RV2 r h (lenR a) (lenR b) := by
  cases a with
  | err => trivial
  | ex c n s' =>
    obtain ⟨r', h', m, rfl, e, g, q⟩ := k
    exact ⟨r', h', m, rfl, e, g, q⟩
  | ok v s' =>
    obtain ⟨r', h', v', rfl, e, g, q⟩ := k
    cases q with
    | int n =>
      have e1 : ∀ hh, ML.lenR (.ok (.int n) hh) = (match decide (0 ≤ n) && decide (n < 2 ^ 62) with | true => Res.ok (.int n) hh | false => Res.err) := fun _ => rfl
      rw [e1, e1]
      cases decide (0 ≤ n) && decide (n < 2 ^ 62) with
      | true => exact ⟨r', h', _, rfl, e, g, .int n⟩
      | false => trivial
    | _ => trivial
instance {ma : ME} {tbl : Nat → Option MF} [c : LTb tbl] [x : LE ma] [o : LOc cLen] : LE (eLenU tbl ma) := ⟨fun r s h σ σ' g a => (x.run r s h σ σ' g a).bind fun r1 s1 h1 v v' e1 g1 q1 => by
  rw [ins2 g1 q1]
  cases z : insC v s1 with
  | none => exact .ofO (o.run _ _ _ _ _ g1 (.cons q1 .nil))
  | some d =>
    dsimp only
    cases w0 : tbl d with
    | none => trivial
    | some u => exact ((c.run _ _ w0).run _ _ _ _ _ g1 (.cons q1 .nil)).lenR⟩
end ML
end
section
namespace ML
open PySem PySem.Spec PyProof.Rows L2 He
def fEqZ : Op2 := fun x y h => match x, y with
  | .ref a, .ref b => match h[a]?, h[b]? with
    | some (.lst xa), some (.lst xb) => match Nat.beq xa.length xb.length with
      | true => fEqX x y h
      | false => some (.bl false, h)
    | _, _ => fEqX x y h
  | _, _ => fEqX x y h
section
variable {G : Gx} {ρ : List Addr} {h : Hi} {H : Hp} {X : Cx} {Q : VK}
end
section
variable {r : List Nat} {s h : Hi}
instance : LOp fEqZ := ⟨fun r s h x y x' y' g p q => by
  have old := LOp.run (f := fEqX) r s h x y x' y' g p q
  unfold fEqZ
  cases p with
  | ref i =>
    cases q with
    | ref j =>
      obtain ⟨o, o', z1, z2, z3⟩ := g.no i
      obtain ⟨u, u', y1, y2, y3⟩ := g.no j
      dsimp only
      rw [z1, z2, y1, y2]
      cases z3 with
      | lst t =>
        cases y3 with
        | lst t' =>
          dsimp only
          rw [← t.length, ← t'.length]
          rename_i ka kb la lb
          cases f : Nat.beq ka.length la.length with
          | true => exact old
          | false => exact .ok g (.bl _)
        | _ => exact old
      | _ => exact old
    | _ => exact old
  | _ => exact old⟩
end
end ML
end
section
namespace ML
open PySem PyProof.Rows
section
variable {prog : Program} {w : World} {A : Around} {E : Value → Shared → Prop} {s : Shared}
end
end ML
namespace ML
open PySem PyProof.Rows
section
variable {prog : Program} {w : World} {A : Around} {E : Value → Shared → Prop} {s : Shared}
end
end ML
namespace ML
open PySem PySem.Spec PyProof.Rows L2 He
def insI (x : Int) : List Int → List Int
  | [] => [x]
  | y :: r => match decide (x ≤ y) with
    | true => x :: y :: r
    | false => y :: insI x r
def srtI : List Int → List Int
  | [] => []
  | x :: r => insI x (srtI r)
def intsI : List VI → Option (List Int)
  | [] => some []
  | .int i :: r => match intsI r with
    | some l => some (i :: l)
    | none => none
  | _ :: _ => none
def cSortK : OpC := fun vs h => match vs with
  | [.tup xs] => match intsI xs with
    | some l => some (.ref h.length, h ++ [.lst ((srtI l).map .int)])
    | none => none
  | [.ref n] => match h[n]? with
    | some (.lst xs) => match intsI xs with
      | some l => some (.ref h.length, h ++ [.lst ((srtI l).map .int)])
      | none => none
    | some (.scr xs) => match intsI xs with
      | some l => some (.ref h.length, h ++ [.lst ((srtI l).map .int)])
      | none => none
    | _ => none
  | _ => none
section
variable {G : Gx} {ρ : List Addr} {h : Hi} {H : Hp}
end
section
variable {G : Gx} {W : WX} {X : Cx} {e : Expr} {es : List Expr} {mr : MA} {p p2 kp pos : Pos}
end
end ML
end
section
namespace ML
open PySem PyProof.Rows
section
variable {prog : Program} {w : World} {A : Around} {E : Value → Shared → Prop} {s : Shared}
end
section
open PySem.Spec L2 He
variable {G : Gx} {W : WX} {X : Cx} {e : Expr} {es : List Expr} {mr : MA} {p p2 kp pos : Pos}
end
end ML
end
section
namespace ML
open PySem L2 PyProof.Rows
def sFldAug (cs : List Nat) (fn : S) (f : Op2) (o e : ME) : MS := fun σ h => (o σ h).bindS σ fun x h1 => match x with
  | .ref n => match h1[n]? with
    | some (.ins c fs) => match cs.contains c, getF fn fs with
      | true, some v => (e σ h1).bindS σ fun y h2 => match f v y h2 with
        | some (z, h3) => match h3[n]? with
          | some (.ins c' fs') => match cs.contains c' && (Nat.beq c' c && Nat.blt fs'.length 1000) with
            | true => .nx σ (h3.set n (.ins c' (setF fn z fs')))
            | false => .err
          | _ => .err
        | none => .err
      | _, _ => .err
    | _ => .err
  | _ => .err
section
variable {G : Gx} {W : WX} {X : Cx} {o e : Expr} {pos pos' : Pos} {mo me : ME}
end
section
variable {r : List Nat}
theorem intsI2 : ∀ {xs ys : List VI}, RVs2 r xs ys → intsI ys = intsI xs
  | _, _, .nil => rfl
  | _, _, .cons q t => by cases q <;> unfold intsI <;> first | rw [intsI2 t] | rfl
theorem rvs2_ints (l : List Int) : RVs2 r (l.map VI.int) (l.map VI.int) := by
  induction l with
  | nil => exact .nil
  | cons a b ih => exact .cons (.int a) ih
end
instance : LOc cSortK := ⟨fun r s h vs vs' g t => by
  unfold cSortK
  cases t with
  | nil => trivial
  | cons q t =>
    cases t with
    | cons _ _ => cases q <;> trivial
    | nil =>
      cases q with
      | tup l =>
        dsimp only
        rw [intsI2 l]
        split
        · exact .new g fun r' e => .lst (rvs2_ints _)
        · trivial
      | ref i =>
        obtain ⟨o, o', e1, e2, e3⟩ := g.no i
        dsimp only
        rw [e1, e2]
        cases e3 with
        | lst l =>
          dsimp only
          rw [intsI2 l]
          split
          · exact .new g fun r' e => .lst (rvs2_ints _)
          · trivial
        | scr l =>
          dsimp only
          rw [intsI2 l]
          split
          · exact .new g fun r' e => .lst (rvs2_ints _)
          · trivial
        | _ => trivial
      | _ => trivial⟩
end ML
namespace ML
open PySem L2
instance : LOp iAdd := ⟨fun r s h x y x' y' g a b => by
  unfold iAdd
  cases a <;> cases b <;> first | exact ⟨_, _, _, rfl, .refl, g, .int _⟩ | trivial⟩
instance : LOp iSub := ⟨fun r s h x y x' y' g a b => by
  unfold iSub
  cases a <;> cases b <;> first | exact ⟨_, _, _, rfl, .refl, g, .int _⟩ | trivial⟩
instance {cs : List Nat} {fn : S} {f : Op2} {mo me : ME} [x : LE mo] [o : LOp f] [y : LE me] : LS (sFldAug cs fn f mo me) := ⟨fun r s h σ σ' g a => (x.run r s h σ σ' g a).bindS a fun r1 s1 h1 v v' e1 g1 q1 => by
  cases q1 with
  | @ref n m i =>
    obtain ⟨ob, ob', z1, z2, z3⟩ := g1.no i
    dsimp only
    rw [z1, z2]
    cases z3 with
    | @ins c fs fs' t =>
      dsimp only
      cases cs.contains c with
      | false => trivial
      | true =>
        have k := getF2 (f := fn) t
        cases w : getF fn fs with
        | none => trivial
        | some u =>
          rw [w] at k
          cases w2 : getF fn fs' with
          | none => rw [w2] at k; exact k.elim
          | some u' =>
            rw [w2] at k
            dsimp only
            refine (y.run _ _ _ _ _ g1 (a.mono e1)).bindS (a.mono e1) fun r2 s2 h2 p p' e2 g2 q2 => ?_
            have kk := o.run _ _ _ _ _ _ _ g2 (k.mono e2) q2
            cases z5 : f u p s2 with
            | none => trivial
            | some zh =>
              obtain ⟨z, s3⟩ := zh
              rw [z5] at kk
              obtain ⟨r3, h3, z', e, e3, g3, q3⟩ := kk
              rw [e]
              dsimp only
              have i3 := e3.pre (e2.pre i)
              obtain ⟨o3, o3', y1, y2, y3⟩ := g3.no i3
              rw [y1, y2]
              cases y3 with
              | ins t3 =>
                dsimp only
                rw [t3.length]
                split
                · obtain ⟨aa, b⟩ := g3.wr y1 i3 (.ins (setF2 q3 t3))
                  exact ⟨_, _, _, rfl, e3.trans b, aa, (((a.mono e1).mono e2).mono e3).mono b⟩
                · trivial
              | _ => trivial
    | _ => trivial
  | _ => trivial⟩
end ML
end
section
namespace ML
open PySem L2
def turnsD (it : Itm) (t : Tgt) (vs : List Nat) (tt : MT) (mi1 : MI) (t1 : Tgt) (vs1 : List Nat) (tt1 : MT) (el : ME) (D : Nat) (σ : Sg) : Nat → Nat → Hi → Option Hi
  | 0, i, h => match it.nxt i h with
    | some none => some h
    | _ => none
  | k + 1, i, h => match it.nxt i h with
    | some none => some h
    | some (some x) => match t.put x (wipeM σ vs) with
      | some σ2 => match tt σ2 h with
        | .ok true h2 => match mi1 σ2 h2 with
          | .ok it1 h3 => match turnsC it1 t1 vs1 tt1 el D σ2 (it1.fuel h3) 0 h3 with
            | some h4 => turnsD it t vs tt mi1 t1 vs1 tt1 el D σ k (i + 1) h4
            | none => none
          | _ => none
        | .ok false h2 => turnsD it t vs tt mi1 t1 vs1 tt1 el D σ k (i + 1) h2
        | _ => none
      | none => none
    | none => none
def eLc2 (mi : MI) (t : Tgt) (vs : List Nat) (tt : MT) (mi1 : MI) (t1 : Tgt) (vs1 : List Nat) (tt1 : MT) (el : ME) : ME := fun σ h => (mi σ h).bind fun it h1 => match turnsD it t vs tt mi1 t1 vs1 tt1 el h1.length σ (it.fuel h1) 0 (h1 ++ [.lst []]) with
  | some h2 => .ok (.ref h1.length) h2
  | none => .err
section
variable {G : Gx} {W : WX} {X : Cx} {ρ ρ1 : List Addr} {H H1 : Hp} {h : Hi} {tg iter tg1 iter1 elt c c1 : Expr} {ifs : List Expr} {scope : Scope} {own : List (Str × Nat)} {vs1 : List Nat} {pos spos py : Pos} {mi mi1 : MI} {mt mt1 : MT} {ml : ME} {t t1 : Tgt} {i : Nat} {y : Str}
end
theorem turnsD2 {t t1 : Tgt} {vs vs1 : List Nat} {tt tt1 : MT} {el : ME} {mi1 : MI} [x : LT tt] [x1 : LT tt1] [y : LE el] [z : LI mi1] : ∀ (k i : Nat) (r : List Nat) (s h s' : Hi) (σ σ' : Sg) (a b : Itm) (D D' : Nat), Ag2 r s h → AS2 r σ σ' → RI2 r a b → r[D]? = some D' →
    turnsD a t vs tt mi1 t1 vs1 tt1 el D σ k i s = some s' → ∃ r' h', turnsD b t vs tt mi1 t1 vs1 tt1 el D' σ' k i h = some h' ∧ Ex2 r h r' h' ∧ Ag2 r' s' h'
  | 0, i, r, s, h, s', σ, σ', a, b, D, D', g, as, q, d, e => by
    have n := nxt2 g q i
    unfold turnsD at e ⊢
    cases z1 : a.nxt i s with
    | none => rw [z1] at e; cases e
    | some o =>
      rw [z1] at e n
      cases o with
      | some _ => cases e
      | none => cases z2 : b.nxt i h with
        | none => rw [z2] at n; exact n.elim
        | some o' => cases o' with
          | some _ => rw [z2] at n; exact n.elim
          | none => cases e; exact ⟨r, h, rfl, .refl, g⟩
  | k + 1, i, r, s, h, s', σ, σ', a, b, D, D', g, as, q, d, e => by
    have n := nxt2 g q i
    unfold turnsD at e ⊢
    cases z1 : a.nxt i s with
    | none => rw [z1] at e; cases e
    | some o =>
      rw [z1] at e n
      cases z2 : b.nxt i h with
      | none => rw [z2] at n; exact n.elim
      | some o' =>
        rw [z2] at n
        cases o with
        | none => cases o' with
          | some _ => exact n.elim
          | none => cases e; exact ⟨r, h, rfl, .refl, g⟩
        | some v => cases o' with
          | none => exact n.elim
          | some v' =>
            dsimp only at e ⊢
            cases z3 : t.put v (wipeM σ vs) with
            | none => rw [z3] at e; cases e
            | some τ =>
              obtain ⟨τ', w1, w2⟩ := put2 t n (wipe2 as vs) z3
              rw [z3] at e
              rw [w1]
              dsimp only at e ⊢
              have tk := x.run _ _ _ _ _ g w2
              cases z4 : tt τ s with
              | err => rw [z4] at e; cases e
              | ex _ _ _ => rw [z4] at e; cases e
              | ok c s2 =>
                rw [z4] at tk e
                obtain ⟨r2, h2, c', k1, k2, k3, k4⟩ := tk
                subst k4
                rw [k1]
                cases c with
                | false =>
                  dsimp only at e ⊢
                  obtain ⟨r3, h3, j1, j2, j3⟩ := turnsD2 k (i + 1) _ _ _ _ _ _ _ _ _ _ k3 (as.mono k2) (q.mono k2) (k2.pre d) e
                  exact ⟨r3, h3, j1, k2.trans j2, j3⟩
                | true =>
                  dsimp only at e ⊢
                  have ek := z.run _ _ _ _ _ k3 (w2.mono k2)
                  cases z5 : mi1 τ s2 with
                  | err => rw [z5] at e; cases e
                  | ex _ _ _ => rw [z5] at e; cases e
                  | ok it1 s3 =>
                    rw [z5] at ek e
                    obtain ⟨r3, h3, it1', j1, j2, j3, j4⟩ := ek
                    rw [j1]
                    dsimp only at e ⊢
                    rw [fuel2 j3 j4]
                    cases z6 : turnsC it1 t1 vs1 tt1 el D τ (it1.fuel s3) 0 s3 with
                    | none => rw [z6] at e; cases e
                    | some s4 =>
                      rw [z6] at e
                      obtain ⟨r4, h4, m1, m2, m3⟩ := turnsC2 _ _ _ _ _ _ _ _ _ _ _ _ j3 ((w2.mono k2).mono j2) j4 (j2.pre (k2.pre d)) z6
                      rw [m1]
                      dsimp only at e ⊢
                      have ee := (k2.trans j2).trans m2
                      obtain ⟨r5, h5, n1, n2, n3⟩ := turnsD2 k (i + 1) _ _ _ _ _ _ _ _ _ _ m3 (as.mono ee) (q.mono ee) (ee.pre d) e
                      exact ⟨r5, h5, n1, ee.trans n2, n3⟩
instance {mi mi1 : MI} {t t1 : Tgt} {vs vs1 : List Nat} {tt tt1 : MT} {el : ME} [z : LI mi] [x : LT tt] [z1 : LI mi1] [x1 : LT tt1] [y : LE el] : LE (eLc2 mi t vs tt mi1 t1 vs1 tt1 el) := ⟨fun r s h σ σ' g a => (z.run r s h σ σ' g a).bind fun r1 s1 h1 v v' e1 g1 q1 => by
  obtain ⟨g2, e2⟩ := g1.new (o := .lst []) (o' := .lst []) (.lst .nil)
  rw [fuel2 g1 q1]
  cases w : turnsD v t vs tt mi1 t1 vs1 tt1 el s1.length σ (v.fuel s1) 0 (s1 ++ [.lst []]) with
  | none => trivial
  | some s2 =>
    obtain ⟨r3, h3, j1, j2, j3⟩ := turnsD2 _ _ _ _ _ _ _ _ _ _ _ _ g2 ((a.mono e1).mono e2) (q1.mono e2) g1.idx w
    rw [j1]
    exact ⟨r3, h3, _, rfl, e2.trans j2, j3, .ref (j2.pre g1.idx)⟩⟩
end ML
end
section
namespace ML
open PySem PySem.Spec PyProof.Rows L2 He
def lkF : List (S × MF) → S → Option MF
  | [], _ => none
  | (k, g) :: r, s => match decide (k = s) with
    | true => some g
    | false => lkF r s
def eCallL (i : Nat) (tbl : S → Option MF) (ma : MA) : ME := fun σ h => match σ[i]? with
  | some (some (.glo x)) => match tbl x with
    | some g => (ma σ h).bind fun vs h1 => g vs h1
    | none => .err
  | _ => .err
section
variable {G : Gx} {W : WX} {X : Cx} {x : Str} {p pos : Pos} {e : Expr} {es : List Expr} {ma : MA} {i : Nat} {tbl : S → Option MF}
end
class LTf (tbl : S → Option MF) : Prop where
  run : ∀ x g, tbl x = some g → LF g
instance : LTf (lkF []) := ⟨fun _ _ h => nomatch h⟩
instance {x : S} {f : MF} {r : List (S × MF)} [a : LF f] [b : LTf (lkF r)] : LTf (lkF ((x, f) :: r)) := ⟨fun y g h => by
  unfold lkF at h
  cases q : decide (x = y) with
  | true => rw [q] at h; cases h; exact a
  | false => rw [q] at h; exact b.run y g h⟩
instance {i : Nat} {tbl : S → Option MF} {ma : MA} [c : LTf tbl] [x : LA ma] : LE (eCallL i tbl ma) := ⟨fun r s h σ σ' g a => by
  unfold eCallL
  cases z : σ[i]? with
  | none => trivial
  | some o =>
    cases o with
    | none => trivial
    | some v =>
      obtain ⟨w, k1, k2⟩ := a.at_ i v z
      rw [k1]
      cases k2 with
      | glo y =>
        dsimp only
        cases q : tbl y with
        | none => trivial
        | some f => exact (x.run r s h σ σ' g a).bind fun r1 s1 h1 vs vs' e1 g1 q1 => (c.run y f q).run _ _ _ _ _ g1 q1
      | _ => trivial⟩
end ML
end
section
namespace L2
open PySem PySem.Spec PyProof.Rows
section
variable {X : Cx}
end
end L2
namespace ML
open PySem L2
def fMulX : Op2 := fun x y h => match x, y with
  | .tup xs, .int k => match decide (k = 1) with
    | true => some (.tup xs, h)
    | false => match decide (k = 0) && !xs.isEmpty with
      | true => some (.tup [], h)
      | false => fMul x y h
  | x, y => fMul x y h
variable {X : Cx} {G : Gx}
instance : LOp fMulX := ⟨fun r s h x y x' y' g p q => by
  have fb := LOp.run (f := fMul) r s h _ _ _ _ g p q
  unfold fMulX
  cases p with
  | tup i =>
    cases q with
    | int j =>
      dsimp only
      rw [isEmp2 i]
      split
      · exact .ok g (.tup i)
      · split
        · exact .ok g (.tup .nil)
        · exact fb
    | _ => exact fb
  | _ => exact fb⟩
end ML
end
section
namespace ML
open PySem PySem.Spec PyProof.Rows L2 He
section
variable {G : Gx} {W : WX} {X : Cx} {A : Around} {ρ : List Addr} {h : Hi} {H : Hp} {σ : L2.St} {k np : Nat} {f C : Addr} {fd : FuncData} {ps : List Str} {g : MF} {e : Expr} {es : List Expr} {pos p pos' : Pos} {ma : MA} {me : ME} {i : Nat} {x : Str} {tbl : Nat → Option MF}
def eCallI (i : Nat) (tbl : Nat → Option MF) (ma : MA) : ME := fun σ h => match σ[i]? with
  | some (some x) => match insC x h with
    | some _ => (ma σ h).bind fun vs h1 => match insC x h1 with
      | some c => match tbl c with
        | some g => g (x :: vs) h1
        | none => .err
      | none => .err
    | none => .err
  | _ => .err
def sAugU (i : Nat) (tbl : Nat → Option MF) (e : ME) : MS := fun σ h => match σ[i]? with
  | some (some x) => (e σ h).bindS σ fun y h1 => match insC x h1 with
    | some c => match tbl c with
      | some g => match g [x, y] h1 with
        | .ok z h2 => .nx (σ.set i (some z)) h2
        | _ => .err
      | none => .err
    | none => .err
  | _ => .err
end
section
variable {Y : Cx} {W : WX} {nm : Nat → Option Str} {mg : Str → Option Value}
end
section
variable {X : Cx} {W : WX} {nm : Option Str}
end
section
variable {X : Cx} {W : WX} {nm : Nat → Option Str} {e : Expr} {es : List Expr} {p pos : Pos} {ma : MA}
end
section
variable {ma : MA} {me : ME}
instance {i : Nat} {tbl : Nat → Option MF} [c : LTb tbl] [x : LA ma] : LE (eCallI i tbl ma) := ⟨fun r s h σ σ' g a => by
  unfold eCallI
  cases z : σ[i]? with
  | none => trivial
  | some o =>
    cases o with
    | none => trivial
    | some v =>
      obtain ⟨w, k1, k2⟩ := a.at_ i v z
      rw [k1]
      dsimp only
      rw [ins2 g k2]
      cases z0 : insC v s with
      | none => trivial
      | some d0 =>
        dsimp only
        refine (x.run r s h σ σ' g a).bind fun r1 s1 h1 vs vs' e1 g1 q1 => ?_
        rw [ins2 g1 (k2.mono e1)]
        cases z1 : insC v s1 with
        | none => trivial
        | some d =>
          dsimp only
          cases w0 : tbl d with
          | none => trivial
          | some u => exact (c.run _ _ w0).run _ _ _ _ _ g1 (.cons (k2.mono e1) q1)⟩
instance {i : Nat} {tbl : Nat → Option MF} [c : LTb tbl] [y : LE me] : LS (sAugU i tbl me) := ⟨fun r s h σ σ' g a => by
  unfold sAugU
  cases z : σ[i]? with
  | none => trivial
  | some o =>
    cases o with
    | none => trivial
    | some v =>
      obtain ⟨w, k1, k2⟩ := a.at_ i v z
      rw [k1]
      refine (y.run _ _ _ _ _ g a).bindS a fun r1 s1 h1 u u' e1 g1 q1 => ?_
      rw [ins2 g1 (k2.mono e1)]
      cases z1 : insC v s1 with
      | none => trivial
      | some d =>
        dsimp only
        cases w0 : tbl d with
        | none => trivial
        | some f =>
          have t := (c.run _ _ w0).run _ _ _ _ _ g1 (.cons (k2.mono e1) (.cons q1 .nil))
          cases z2 : f [v, u] s1 with
          | err => simp only [z2]; trivial
          | ex _ _ _ => simp only [z2]; trivial
          | ok z h2 =>
            rw [z2] at t
            obtain ⟨r2, h2, v', m1, m2, m3, m4⟩ := t
            simp only [m1, z2]
            exact ⟨r2, h2, _, rfl, m2, m3, ((a.mono e1).mono m2).set m4 i⟩⟩
end
end ML
end
section
namespace ML
open PySem PySem.Spec PyProof.Rows L2 He
def augEK (i : Nat) (tbl : Nat → Option MF) (σ : Sg) (x y : VI) (h1 : Hi) : RS := match insC x h1 with
  | some c => match tbl c with
    | some g => (g [x, y] h1).bindS σ fun z h2 => .nx (σ.set i (some z)) h2
    | none => .err
  | none => .err
def sAugE (i : Nat) (tbl : Nat → Option MF) (e : ME) : MS := fun σ h => match σ[i]? with
  | some (some x) => (e σ h).bindS σ (augEK i tbl σ x)
  | _ => .err
section
variable {G : Gx} {W : WX} {X : Cx} {op : Operator} {tbl : Nat → Option MF} {e : Expr} {me : ME} {i : Nat} {x : Str} {pos pos' : Pos}
def onlyS (mt : Nat → Option Bool) (su : MS) (c n : Nat) (σ : Sg) (h : Hi) : RS := match mt c with
  | some true => match su σ h with
    | .ex _ _ _ _ => .err
    | r => r
  | some false => .ex c n σ h
  | none => .err
def sTryO (body : MS) (mt : Nat → Option Bool) (su : MS) : MS := fun σ h => match body σ h with
  | .ex c n σ' h' => onlyS mt su c n σ' h'
  | r => r
end
section
variable {Y : Cx} {W : WX} {nm : Nat → Option Str} {mg : Str → Option Value}
end
def gLstM (gs : List MG) : MG := fun v σ h => match v with
  | .ref n => match listAt n h with
    | some xs => match Nat.beq xs.length gs.length with
      | true => gSeq gs xs σ h
      | false => .err
    | none => .err
  | _ => .err
section
variable {G : Gx} {W : WX} {X : Cx} {es : List Expr} {gs : List MG} {k : Nat} {pos : Pos}
end
end ML
end
section
namespace ML
open PySem PySem.Spec PyProof.Rows L2 He
def reprS (i : Int) : S := (Str.ofString (toString i)).cps.toList
def cRepr : OpC := fun vs h => match vs with
  | [.int i] => match decide (i.natAbs.log2 < 1920) with
    | true => some (.str (reprS i), h)
    | false => none
  | _ => none
section
variable {G : Gx} {X : Cx}
end
instance : LOc cRepr := ⟨fun r s h vs vs' g t => by
  unfold cRepr
  cases t with
  | nil => trivial
  | cons p t =>
    cases t with
    | cons _ _ => cases p <;> trivial
    | nil =>
      cases p with
      | int i =>
        dsimp only
        cases decide (i.natAbs.log2 < 1920) with
        | false => trivial
        | true => exact .ok g (.str _)
      | _ => trivial⟩
end ML
end
section
namespace ML
open PySem PySem.Spec PyProof.Rows L2 He
def kM (n : Nat) (gk : MK) : MF := fun vs h => match Nat.beq vs.length n with
  | true => gk vs [] h
  | false => .err
instance {n : Nat} {g : MF} {arr : List VI → List VI → List VI} [x : LF g] [y : LAr arr] : LF (kM n (fnK g arr)) := ⟨fun r s h vs vs' a t => by
  unfold kM
  rw [t.length]
  cases Nat.beq vs'.length n with
  | true => exact x.run _ _ _ _ _ a (y.run _ _ _ _ _ t .nil)
  | false => trivial⟩
instance {n m : Nat} {k : OpC} {b b' : MA} [x : LOc k] [y : LA2 n m b b'] : LE2 n m (eCB k b) (eCB k b') := ⟨fun r s h σ σ' q g a => (y.run r s h σ σ' q g a).bind fun r1 s1 h1 v v' e1 g1 q1 => .ofO (x.run _ _ _ _ _ g1 q1)⟩
end ML
end
section
namespace ML
open PySem PySem.Spec PyProof.Rows L2 He
def pch (c : Nat) : Bool := Nat.ble 32 c && (Nat.ble c 126 && (!Nat.beq c 39 && !Nat.beq c 92))
def digS (n : Nat) : S := (Nat.toDigits 10 n).map Char.toNat
def intS : Int → S
  | .ofNat n => digS n
  | .negSucc n => 45 :: digS (n + 1)
def joinS : List S → S
  | [] => []
  | [x] => x
  | x :: y :: r => x ++ ([44, 32] ++ joinS (y :: r))
mutual
def shD : PyData → Option S
  | .none => some [78, 111, 110, 101]
  | .bool b => some (if b then [84, 114, 117, 101] else [70, 97, 108, 115, 101])
  | .int i => if i.natAbs.log2 < 1920 then some (intS i) else none
  | .str x => if x.cps.toList.all pch then some (39 :: (x.cps.toList ++ [39])) else none
  | .list xs => match shDs xs with
    | some ts => some (91 :: (joinS ts ++ [93]))
    | none => none
  | .tuple xs => match shDs xs with
    | some ts => some (40 :: (joinS ts ++ (if ts.length == 1 then [44, 41] else [41])))
    | none => none
  | .dict _ => none
def shDs : List PyData → Option (List S)
  | [] => some []
  | x :: xs => match shD x with
    | some t => match shDs xs with
      | some ts => some (t :: ts)
      | none => none
    | none => none
end
theorem toStr_app (a b : S) : toStr (a ++ b) = toStr a ++ toStr b := by
  show (⟨(a ++ b).toArray⟩ : Str) = ⟨a.toArray ++ b.toArray⟩
  simp
theorem toStr_str (s : String) : (Str.ofString s) = toStr (s.toList.map Char.toNat) := by rw [Str.ofString_eq_toList]; rfl
theorem pch_print : ∀ c < 127, pch c = true → PySem.Unicode.isPrintable c = true := by decide +kernel
theorem rch {c : Nat} (h : pch c = true) : PySem.Builtin.Str.reprChar 39 c = [c] := by
  have h0 := h
  unfold pch at h
  simp only [Bool.and_eq_true, Bool.not_eq_true'] at h
  obtain ⟨h1, h2, h3, h4⟩ := h
  have a1 := Nat.le_of_ble_eq_true h1
  have a2 := Nat.le_of_ble_eq_true h2
  have a3 : c ≠ 39 := fun z => by rw [z] at h3; cases h3
  have a4 : c ≠ 92 := fun z => by rw [z] at h4; cases h4
  have p := pch_print c (by omega) h0
  unfold PySem.Builtin.Str.reprChar
  have b1 : (c == 39) = false := beq_eq_false_iff_ne.mpr a3
  have b2 : (c == 92) = false := beq_eq_false_iff_ne.mpr a4
  have b3 : (c == 10) = false := beq_eq_false_iff_ne.mpr (by omega)
  have b4 : (c == 13) = false := beq_eq_false_iff_ne.mpr (by omega)
  have b5 : (c == 9) = false := beq_eq_false_iff_ne.mpr (by omega)
  simp only [b1, b2, b3, b4, b5, p, Bool.or_self, Bool.false_eq_true, if_false, if_true]
theorem rtext {x : Str} (h : x.cps.toList.all pch = true) : reprText x = toStr (39 :: (x.cps.toList ++ [39])) := by
  have q : reprQuote x = 39 := by
    unfold reprQuote
    have n : x.cps.contains 39 = false := by
      rw [← Array.contains_toList]
      rw [Bool.eq_false_iff]
      intro z
      have := List.all_eq_true.mp h 39 (by simpa using z)
      cases this
    rw [n]
    rfl
  unfold reprText
  rw [q, ← Array.foldl_toList]
  have go : ∀ (l : List Nat) (acc : Array Nat), l.all pch = true → l.foldl (fun out c => out ++ (PySem.Builtin.Str.reprChar 39 c).toArray) acc = (acc.toList ++ l).toArray := by
    intro l
    induction l with
    | nil => intro acc _; simp
    | cons c l ih =>
      intro acc ha
      rw [List.all_cons, Bool.and_eq_true] at ha
      rw [List.foldl_cons, rch ha.1, ih _ ha.2]
      simp
  rw [go _ _ h]
  unfold toStr
  simp
theorem textFrom_join : ∀ (ts : List S) (k : Nat) (acc : Str), textFrom k acc (ts.map toStr) = acc ++ toStr (if k > 0 then (ts.flatMap fun t => [44, 32] ++ t) else joinS ts)
  | [], k, acc => by
    show acc = _
    have e : toStr ([] : S) = ⟨#[]⟩ := rfl
    split
    · show acc = acc ++ toStr []; rw [e]; show acc = ⟨acc.cps ++ #[]⟩; simp
    · show acc = acc ++ toStr []; rw [e]; show acc = ⟨acc.cps ++ #[]⟩; simp
  | t :: r, k, acc => by
    show textFrom (k + 1) (acc ++ (if k > 0 then ", " else "" : String) ++ toStr t) (r.map toStr) = _
    rw [textFrom_join r (k + 1), if_pos (Nat.succ_pos k)]
    have fl : ∀ (x : S) (r : List S), x ++ (r.flatMap fun t => [44, 32] ++ t) = joinS (x :: r) := by
      intro x r
      induction r generalizing x with
      | nil => simp [joinS]
      | cons y r ih => rw [List.flatMap_cons, joinS, ← ih y]; simp
    by_cases hk : k > 0
    · rw [if_pos hk, if_pos hk]
      have c : (Str.ofString ", ") = toStr [44, 32] := toStr_str _
      show (acc ++ Str.ofString ", " ++ toStr t) ++ _ = _
      rw [c, List.flatMap_cons]
      simp only [toStr_app]
      show (⟨_⟩ : Str) = ⟨_⟩
      congr 1
      show (acc.cps ++ _ ++ _) ++ _ = acc.cps ++ ((_ ++ _) ++ _)
      simp only [Array.append_assoc]
    · rw [if_neg hk, if_neg hk, ← fl]
      have c : (Str.ofString "") = toStr [] := toStr_str _
      show (acc ++ Str.ofString "" ++ toStr t) ++ _ = _
      rw [c]
      simp only [toStr_app]
      show (⟨_⟩ : Str) = ⟨_⟩
      congr 1
      show (acc.cps ++ (#[] : Array Nat) ++ _) ++ _ = acc.cps ++ (_ ++ _)
      simp only [Array.append_assoc, Array.append_empty, Array.empty_append]
theorem join_join : ∀ ts : List S, Str.join ", " (ts.map toStr) = toStr (joinS ts)
  | [] => rfl
  | [x] => rfl
  | x :: y :: r => by
    show toStr x ++ Str.ofString ", " ++ Str.join ", " ((y :: r).map toStr) = _
    rw [join_join (y :: r), toStr_str]
    show _ = toStr (x ++ ([44, 32] ++ joinS (y :: r)))
    simp only [toStr_app]
    show (⟨_⟩ : Str) = ⟨_⟩
    congr 1
    show (_ ++ _) ++ _ = _ ++ (_ ++ _)
    simp only [Array.append_assoc]
    rfl
theorem list_text (ts : List S) : listText (ts.map toStr) = toStr (91 :: (joinS ts ++ [93])) := by
  unfold listText
  rw [textFrom_join]
  show Str.ofString "[" ++ _ ++ Str.ofString "]" = _
  rw [if_neg (by decide), toStr_str, toStr_str, ← toStr_app, ← toStr_app]
  rfl
theorem tuple_text (ts : List S) : tupleText (ts.map toStr) = toStr (40 :: (joinS ts ++ (if ts.length == 1 then [44, 41] else [41]))) := by
  unfold tupleText
  rw [join_join, List.length_map]
  have e : (Str.ofString (if ts.length == 1 then ",)" else ")")) = toStr (if ts.length == 1 then [44, 41] else [41]) := by
    split
    · rw [toStr_str]; rfl
    · rw [toStr_str]; rfl
  show Str.ofString "(" ++ _ ++ Str.ofString _ = _
  rw [e, toStr_str, ← toStr_app, ← toStr_app]
  rfl
theorem int_text (i : Int) : (Str.ofString (toString i)) = toStr (intS i) := by
  rw [toStr_str]
  congr 1
  cases i with
  | ofNat n =>
    show (toString (Int.ofNat n)).toList.map Char.toNat = digS n
    have : toString (Int.ofNat n) = Nat.repr n := rfl
    rw [this, Nat.repr]
    unfold digS
    simp
  | negSucc n =>
    have : toString (Int.negSucc n) = "-" ++ Nat.repr (n + 1) := rfl
    rw [this, Nat.repr]
    show _ = 45 :: digS (n + 1)
    unfold digS
    simp
mutual
theorem shD_ok : ∀ (d : PyData) (s : S), shD d = some s → d.shown = toStr s ∧ d.showable = true
  | .none, s, e => by
    cases e
    refine ⟨?_, rfl⟩
    show Str.ofString "None" = _
    rw [toStr_str]; rfl
  | .bool b, s, e => by
    cases e
    refine ⟨?_, rfl⟩
    simp only [PyData.shown]
    cases b
    · exact toStr_str "False"
    · exact toStr_str "True"
  | .int i, s, e => by
    unfold shD at e
    split at e
    · cases e
      rename_i q
      refine ⟨?_, ?_⟩
      · show Str.ofString (toString i) = _
        exact int_text i
      · simp only [PyData.showable, decide_eq_true_eq]; exact q
    · cases e
  | .str x, s, e => by
    unfold shD at e
    split at e
    · cases e
      rename_i q
      exact ⟨rtext q, rfl⟩
    · cases e
  | .list xs, s, e => by
    unfold shD at e
    cases q : shDs xs with
    | none => rw [q] at e; cases e
    | some ts =>
      rw [q] at e
      cases e
      obtain ⟨h1, h2⟩ := shDs_ok xs ts q
      refine ⟨?_, by simp only [PyData.showable]; exact h2⟩
      simp only [PyData.shown]
      rw [h1]
      exact list_text ts
  | .tuple xs, s, e => by
    unfold shD at e
    cases q : shDs xs with
    | none => rw [q] at e; cases e
    | some ts =>
      rw [q] at e
      cases e
      obtain ⟨h1, h2⟩ := shDs_ok xs ts q
      refine ⟨?_, by simp only [PyData.showable]; exact h2⟩
      simp only [PyData.shown]
      rw [h1]
      exact tuple_text ts
  | .dict _, s, e => by cases e
theorem shDs_ok : ∀ (ds : List PyData) (ts : List S), shDs ds = some ts → PyData.shownAll ds = ts.map toStr ∧ PyData.showableAll ds = true
  | [], ts, e => by cases e; exact ⟨rfl, rfl⟩
  | d :: ds, ts, e => by
    unfold shDs at e
    cases q : shD d with
    | none => rw [q] at e; cases e
    | some t =>
      rw [q] at e
      cases q2 : shDs ds with
      | none => rw [q2] at e; cases e
      | some us =>
        rw [q2] at e
        cases e
        obtain ⟨h1, h2⟩ := shD_ok d t q
        obtain ⟨h3, h4⟩ := shDs_ok ds us q2
        refine ⟨?_, ?_⟩
        · simp only [PyData.shownAll, List.map_cons]
          rw [h1, h3]
        · simp only [PyData.showableAll, h2, h4, Bool.and_self]
end
def cRepD : OpC := fun vs h => match vs with
  | [v] => match dat 12 h v with
    | some d => match shD d with
      | some s => match Nat.ble d.depth 20 && small s.length with
        | true => some (.str s, h)
        | false => none
      | none => none
    | none => none
  | _ => none
section
variable {G : Gx} {X : Cx}
theorem dat_noDict : ∀ (n : Nat) (h : Hi) (v : VI) (d : PyData), dat n h v = some d → d.hasDict = false := by
  have all : ∀ (f : VI → Option PyData), (∀ v d, f v = some d → d.hasDict = false) → ∀ (vs : List VI) (ds : List PyData), datL f vs = some ds → PyData.hasDictAll ds = false := by
    intro f hf vs
    induction vs with
    | nil => intro ds e; cases e; simp only [PyData.hasDictAll]
    | cons v vs ih =>
      intro ds e
      unfold datL at e
      cases e1 : f v with
      | none => rw [e1] at e; cases e
      | some d =>
        rw [e1] at e
        cases e2 : datL f vs with
        | none => rw [e2] at e; cases e
        | some es =>
          rw [e2] at e
          cases e
          simp only [PyData.hasDictAll, hf v d e1, ih es e2, Bool.or_self]
  intro n
  induction n with
  | zero => intro h v d e; cases e
  | succ n ih =>
    intro h v d e
    unfold dat at e
    cases v with
    | non => cases e; simp only [PyData.hasDict]
    | bl b => cases e; simp only [PyData.hasDict]
    | int i => cases e; simp only [PyData.hasDict]
    | str s => cases e; simp only [PyData.hasDict]
    | glo g => cases e
    | tup xs =>
      dsimp only at e
      cases q : datL (dat n h) xs with
      | none => rw [q] at e; cases e
      | some ds =>
        rw [q] at e
        cases e
        simp only [PyData.hasDict]
        exact all _ (fun v d => ih h v d) xs ds q
    | ref a =>
      dsimp only at e
      cases q0 : h[a]? with
      | none => rw [q0] at e; cases e
      | some o =>
        rw [q0] at e
        cases o with
        | lst xs =>
          dsimp only at e
          cases q : datL (dat n h) xs with
          | none => rw [q] at e; cases e
          | some ds =>
            rw [q] at e
            cases e
            simp only [PyData.hasDict]
            exact all _ (fun v d => ih h v d) xs ds q
        | scr xs =>
          dsimp only at e
          cases q : datL (dat n h) xs with
          | none => rw [q] at e; cases e
          | some ds =>
            rw [q] at e
            cases e
            simp only [PyData.hasDict]
            exact all _ (fun v d => ih h v d) xs ds q
        | _ => cases e
theorem mc_repD (hG : G.K = X.K) (hgd : X.A.guards = some []) (hu : X.A.units + 64 < cLine) : CallR X (.builtin "repr") (rdC G cRepD) := callR_at fun ρ h H args xs Q ag ra fi => by
  unfold cRepD at fi
  cases ra with
  | nil => exact fi.elim
  | @cons v x vs zs r t =>
    cases t with
    | cons _ _ => exact fi.elim
    | nil =>
      dsimp only at fi
      cases q : dat 12 h v with
      | none => rw [q] at fi; exact fi.elim
      | some d =>
        rw [q] at fi
        dsimp only at fi
        cases q2 : shD d with
        | none => rw [q2] at fi; exact fi.elim
        | some s =>
          rw [q2] at fi
          dsimp only at fi
          cases q3 : Nat.ble d.depth 20 && small s.length with
          | false => rw [q3] at fi; exact fi.elim
          | true =>
            rw [q3] at fi
            rw [Bool.and_eq_true] at q3
            obtain ⟨z1, z2⟩ := q3
            have z1 := Nat.le_of_ble_eq_true z1
            have z2 := small_ok z2
            obtain ⟨e1, e2⟩ := shD_ok d s q2
            have dp := dat_ok ag 12 v x d r q
            have sz : d.shown.length ≤ sizeLine := by rw [e1]; show s.toArray.size ≤ _; rw [List.size_toArray]; exact z2
            have fin : Q (.str d.shown) H := fi.ok ag (.str e1)
            refine ⟨fun ys H' Q' => ys = [x] ∧ H' = H ∧ Q' (.str d.shown) H, ?_, rfl, rfl, fin⟩
            intro pins s0 σ H' ys us Q' I rv hh
            obtain ⟨rfl, rfl, q'⟩ := hh
            obtain ⟨u, rfl, ru⟩ := vals1 rv
            obtain ⟨as, rd⟩ := Dp.reads I d x u (hG ▸ dp) ru
            have nd := dat_noDict 12 h v d q
            cases rd with
            | none => exact PySem.P.repr_of_none ⟨.str _, _, I.tok _, ⟨_, rfl⟩, q'⟩
            | bool b =>
              refine PySem.P.repr_of_bool ⟨.str _, _, I.tok _, ⟨_, rfl⟩, ?_⟩
              simpa only [PyData.shown] using q'
            | int i t =>
              have hi : i.natAbs.log2 < 1920 := by simpa only [PyData.showable, decide_eq_true_eq] using e2
              exact PySem.P.repr_of_int hi ⟨.str _, _, I.tok _, ⟨_, rfl⟩, q'⟩
            | str y t => exact PySem.P.repr_of_str ⟨.str _, _, I.tok _, ⟨_, rfl⟩, q'⟩ sz
            | list h1 h2 h3 h4 =>
              exact repr_of_reads' (.list h1 h2 h3 h4) e2 (PyData.noDict_hsm nd) hgd (by omega) (fun _ _ e => e) (fun h' u tk k => ⟨.str _, _, I.kept k, ⟨_, rfl⟩, q'⟩) sz
            | tuple h1 h2 h3 h4 =>
              exact repr_of_reads' (.tuple h1 h2 h3 h4) e2 (PyData.noDict_hsm nd) hgd (by omega) (fun _ _ e => e) (fun h' u tk k => ⟨.str _, _, I.kept k, ⟨_, rfl⟩, q'⟩) sz
            | dict h1 h2 h3 h4 h5 => simp only [PyData.hasDict] at nd; cases nd
end
end ML
end
section
namespace ML
open PySem PySem.Spec PyProof.Rows L2 He
structure FnOkG (P : Program) (w : World) (K : PySem.W.Frag) (mg : Str → Option Value) (base : Heap) (k : Nat) (f : Addr) (fd : FuncData) (ps : List Str) (sp : Sp) : Prop where
  gl : ∀ vs H Q E, sp vs H Q E → vs.length = ps.length
  go : ∀ (B : Around) (out : List Env) (t : Shared) (H : Hp) (a : Args) (us : List Value) (vs : List V) (Q : VK) (E : XK), B.guards = some [] → Room k B → Env0 P w K mg base B out t H → BindsTo t fd a (ps.zip us) → Vals vs us → sp vs H Q E →
    codeAny (model P w) B (.call (.ref f) a) (CR (L2.CX P w) out P w H t Q E) t
theorem guards_deeper (B : Around) (env : Env) (h : B.guards = some []) : (B.deeper env).guards = some [] := by
  show B.guards = _
  exact h
section
variable {G : Gx} {W : WX} {X : Cx} {k np : Nat} {f : Addr} {fd : FuncData} {ps : List Str} {g : MF} {P : Program} {w : World} {K : PySem.W.Frag} {mg : Str → Option Value} {base : Heap}
theorem fnG_M {x qual : Str} {params : Arguments} {body : List Stmt} {scope : Scope} {dvs : List V} {kws : List (Str × V)} {N : List Str} {n : Nat} {mb : MS}
    (F : FunD K x qual params body scope dvs kws f fd) (S : FnScope N ps scope) (hn : N.length = ps.length + n)
    (hb : ∀ (cdv : Value) (B : Around) (out : List Env) (t : Shared) (H : Hp) (E : XK), Room k (cxOf (L2.CX P w) P w K mg base N qual scope f cdv B out t H E).A →
      Takes (cxOf (L2.CX P w) P w K mg base N qual scope f cdv B out t H E) (fun c d _ H => E c d H) →
      PassesOwn (model P w) (cxOf (L2.CX P w) P w K mg base N qual scope f cdv B out t H E).A (cxOf (L2.CX P w) P w K mg base N qual scope f cdv B out t H E).env (cxOf (L2.CX P w) P w K mg base N qual scope f cdv B out t H E).xe →
      (cxOf (L2.CX P w) P w K mg base N qual scope f cdv B out t H E).A.guards = some [] →
      PSs (cxOf (L2.CX P w) P w K mg base N qual scope f cdv B out t H E) body (rdS G (fun c d _ H => E c d H) mb)) : FnOkG P w K mg base (k + 1) f fd ps (spM G ps.length (runB ps.length n mb)) := by
  obtain ⟨oc, od, dV, kV, doc, pm, an, cdv, ct, osl, rfl, lk, cdI, _, _⟩ := F.ex
  refine ⟨fun vs H Q E h => spM_len h, fun B out t H a us vs Q E gd room env0 bnd rel want => ?_⟩
  have few := spM_len want
  have inT : K.In t.heap := env0.mod.kin.keeps fun b o e => (env0.bs b o e).1
  have noL : t.heap.NoLimit := env0.mod.nolimit.keeps fun b o e => (env0.bs b o e).1
  have kinds : ∀ y ∈ ps.zip us, scope.names.lookup y.1 = some .local ∨ (scope.names.lookup y.1 = some .cell ∧ ((cellsFrom (t.heap.objs.size + 1) scope.names []).lookup y.1).isSome = true) := by
    rintro ⟨nm, v⟩ hy
    cases S.par nm (List.of_mem_zip hy).1 with
    | inl q => exact .inl q
    | inr q => exact .inr ⟨q, PySem.W.cellsFrom_some _ _ _ (.inl q)⟩
  refine codeAny_call_function room.depth (inT _ _ lk) rfl S.co S.gen rfl (PySem.W.codeRec_of inT cdI) (bnd _ _ _ _ ?_)
  refine wpAny_newFunctionEnv_cells S.kind kinds ?_
  intro env he t1 inC
  subst he
  refine ⟨noL.keeps inC.toInCall.keep, codeAny_func ?_⟩
  have st := inv_start (CX := L2.CX P w) (E := E) S room.hd env0 few rel inC
  obtain ⟨ρ, h, args, l, ag, r, fin⟩ := want
  have body_ok := hb cdv B out t H E (room.deeper _) (takes_of rfl rfl rfl rfl) (passes_of rfl) (guards_deeper B _ gd)
  have asks : rdS G (fun c d _ H => E c d H) mb { nx := fun _ H' => Q .non H', rt := Q } (L2.start N vs) H := by
    refine ⟨ρ, _, h, ags_start r (by rw [← r.length, l]; exact hn), ag, ?_⟩
    unfold runB at fin
    rw [show Nat.beq args.length ps.length = true from by rw [l]; exact Nat.beq_refl _] at fin
    dsimp only at fin
    cases e : mb (args.map some ++ List.replicate n none) h with
    | nx σ' h' => rw [e] at fin; exact fun ρ' H' σ2 st a' as' => fin ρ' H' .non st a' .non
    | rt v h' => rw [e] at fin; exact fin
    | bk σ' h' => rw [e] at fin; exact fin.elim
    | ct σ' h' => rw [e] at fin; exact fin.elim
    | ex c n σ' h' => rw [e] at fin; exact fun ρ' H' d C σ2 st a' as' hn hc => fin ρ' H' d C st a' hn hc
    | err => rw [e] at fin; exact fin
  refine wpAny_mono (body_ok.run [] t1 (L2.start N vs) H _ st asks) (fun fl t2 out => ?_) fun e t2 q => q
  match fl, out with
  | .ret u, ⟨v, σ', H', J, rv, q⟩ => exact ⟨v, H', J.os, J.bare, J.base, J.hok, rv, q⟩
  | .next, ⟨σ', H', J, q⟩ => exact ⟨V.non, H', J.os, J.bare, J.base, J.hok, rfl, q⟩
  | .brk, ⟨_, _, _, q⟩ => exact False.elim q
  | .cont, ⟨_, _, _, q⟩ => exact False.elim q
theorem callM_fnG (F : FnOkG X.prog X.w X.K X.mg X.base k f fd ps (spM G ps.length g)) (ar : Arity ps.length g) (gd : X.A.guards = some []) (hr : Room k X.A) (hb : Binds X.K fd ps []) (tk : Takes X W) : CallM X G W (.ref f) g := by
  intro pins s σ H us vs args ρ h Q I r ra ag fin
  by_cases hl : args.length = ps.length
  · have wants : spM G ps.length g vs H Q (WE W σ) := ⟨ρ, h, args, hl, ag, ra, fin⟩
    have lu : us.length = ps.length := by rw [← r.length, ← ra.length]; exact hl
    have b := hb s us I.kIn (by rw [List.append_nil]; exact lu)
    rw [List.append_nil] at b
    refine wpAny_call (codeAny_mono (F.go _ _ s H ⟨us, []⟩ us vs Q (WE W σ) gd hr I.env0 b r wants) fun res s' hq => ?_)
    match res, hq with
    | .error e, hq => exact passAt tk σ pins H s e s' I hq
    | .ok (.ret u), hq => exact I.after hq
  · rw [ar args h hl] at fin
    exact fin.elim
end
structure DOkG (P : Program) (w : World) (K : PySem.W.Frag) (mg : Str → Option Value) (base : Heap) (nm : Nat → Option Str) (k : Nat) (p : Defn) (ps : List Str) (g : MF) : Prop where
  ok : FnOkG P w K mg base k (p K) (fdOf K p) ps (spM (GxOf K mg nm) ps.length g)
  ar : Arity ps.length g
  kp : PySem.W.keepIn K (.ref (p K)) = true
section
variable {G : Gx} {W : WX} {X : Cx} {e : Expr} {es : List Expr} {pos p : Pos} {ma : MA} {nm : Nat → Option Str}
theorem xcmG {k k' : Nat} {q : Defn} {ps : List Str} {g : MF} (d : DOkG X.prog X.w X.K X.mg X.base nm k q ps g) (bn : BOk X.K q ps) (hr : Room k' X.A) (gd : X.A.guards = some []) (tk : Takes X W) (h : k + 2 ≤ k' := by decide) : CallM X (GxOf X.K X.mg nm) W (.ref (q X.K)) g :=
  callM_fnG d.ok d.ar gd (hr.mono (by omega)) bn tk
theorem xcallG {k k' : Nat} {x : Str} {ps : List Str} {g : MF} (d : DOkG X.prog X.w X.K X.mg X.base nm k (gA x) ps g) (bn : BOk X.K (gA x) ps) (hr : Room k' X.A) (gd : X.A.guards = some []) (tk : Takes X W) (hm : X.mg x = some (.ref (ga X.K x))) (ha : PA X (e :: es) (rdA (GxOf X.K X.mg nm) W ma)) (h : k + 2 ≤ k' := by decide)
    (hg : Gl X x := by rfl) (hdb : (x == ("__debug__" : Str)) = false := by decide) (he : starEach (e :: es) X.env = (false, eval e X.env) :: starEach es X.env := by rfl) (hpl : (backTo pos (starEach es X.env)).any (·.1) = false := by rfl) :
    PE X (.Call (.Name x p) (e :: es) [] pos) (rdE (GxOf X.K X.mg nm) W (eCall g ma)) := me_call (xcmG d bn hr gd tk h) hg hm d.kp ha hdb he hpl
end
section
variable {P : Program} {w : World} {K : PySem.W.Frag} {mg mb : Str → Option Value} {k : Nat} {fa a : Addr} {fd : FuncData} {x : Str} {sp : Sp} {s1 : Shared} {vs : List Value} {ns : List Int}
theorem lawG_core (H : Hp) (kin : K.In s1.heap) (hg : s1.heap.Ns mainGlobals mg) (hbn : s1.heap.Ns builtinsNs mb) (hbb : ∀ x : Str, x ≠ "__name__" → mb x = bootBuiltins x) (noL : s1.heap.NoLimit) (hgens : s1.gens = #[])
    (obj : s1.heap.get? a = some { cls := .type "list", data := .seq vs.toArray }) (room : Room k callerA) (F : ∀ base : Heap, K.In base → base.Ns mainGlobals mg → FnOkG P w K mg base k fa fd [x] sp)
    (bnd : ∀ (s : Shared) (u : Value), BindsTo s fd ⟨[u], []⟩ [(x, u)]) (only : Only H) (hok : HOk P w H s1.heap) (hA : ∀ b, H b ≠ none → b = a) (hK : H a ≠ none → K.lookup a = none)
    (want : sp [.ref a] H (fun v _ => v = .bl true) fun _ _ _ => False) : codeAny (model P w) callerA (.call (.ref fa) ⟨[.ref a], []⟩) (fun r s' => r = .ok (.ret (.bool true)) ∧ OldK s1.heap s'.heap ∧ s'.os = s1.os ∧ AllBare s'.gens) s1 := by
  have stands : ∀ {b : Addr} {o : Obj}, s1.heap.get? b = some o → (∀ v n, o.data ≠ .seq v n) → (hidT s1.heap H).get? b = some o := fun {b o} e nd => by
    refine hidT_get e ?_
    cases q : H b with
    | none => rfl
    | some u =>
      have z : b = a := hA b (by rw [q]; exact fun z => nomatch z)
      rw [z, obj] at e
      cases e
      exact absurd rfl (nd _ _)
  have names : ∀ {b : Addr} {m : Str → Option Value}, s1.heap.Ns b m → (hidT s1.heap H).Ns b m := by
    rintro b m ⟨o, es, ep, e, d, r⟩
    exact ⟨o, es, ep, stands e (fun v n z => by rw [d] at z; cases z), d, r⟩
  have kb : K.In (hidT s1.heap H) := by
    intro b o e
    refine hidT_get (kin b o e) ?_
    cases q : H b with
    | none => rfl
    | some u =>
      have z : b = a := hA b (by rw [q]; exact fun z => nomatch z)
      subst z
      rw [hK (by rw [q]; exact fun z => nomatch z)] at e
      cases e
  obtain ⟨mc, l1, l2⟩ := noL
  have env0 : Env0 P w K mg (hidT s1.heap H) callerA [] s1 H := by
    refine ⟨rfl, ⟨kb, names hg, ⟨mb, names hbn, hbb⟩, ⟨mc, names l1, l2⟩⟩, fun b o e => of_hidT e, Nat.le_of_eq (hidT_size _ _), trivial, ?_, hok, .of_eq hgens⟩
    intro b hb
    cases hb
  have run := (F _ kb (names hg)).go callerA [] s1 H ⟨[.ref a], []⟩ [.ref a] [.ref a] (fun v _ => v = .bl true) (fun _ _ _ => False) rfl room env0 (bnd s1 (.ref a)) (.cons rfl .nil) want
  refine codeAny_mono run ?_
  intro r s' h
  match r, h with
  | .error e, ⟨_, _, _, _, _, _, _, _, _, _, _, _, z⟩ => exact z.elim
  | .ok (.ret u), ⟨v, H', os, bare, un, hok', rv, q⟩ =>
    subst q
    have eu : u = Value.bool true := rv
    subst eu
    refine ⟨rfl, OldK.of_keep ?_, os, bare⟩
    intro b o e
    cases q : H b with
    | none => exact un.keep b o e q (fun z => nomatch z) (by simp)
    | some u =>
      cases only b with
      | inl z => rw [q] at z; cases z
      | inr z =>
        obtain ⟨ob, xs, z⟩ := z
        have later := un.frzs b ob _ z
        obtain ⟨e1, _⟩ := hok b _ z
        obtain ⟨e2, _⟩ := hok' b _ later
        rw [e] at e1
        cases e1
        exact e2
theorem law_callG (kin : K.In s1.heap) (hg : s1.heap.Ns mainGlobals mg) (hbn : s1.heap.Ns builtinsNs mb) (hbb : ∀ x : Str, x ≠ "__name__" → mb x = bootBuiltins x) (noL : s1.heap.NoLimit) (hgens : s1.gens = #[])
    (obj : s1.heap.get? a = some { cls := .type "list", data := .seq vs.toArray }) (hi : IntsAre vs ns) (few : ns.length ≤ sizeLine) (room : Room k callerA) (F : ∀ base : Heap, K.In base → base.Ns mainGlobals mg → FnOkG P w K mg base k fa fd [x] sp)
    (bnd : ∀ (s : Shared) (u : Value), BindsTo s fd ⟨[u], []⟩ [(x, u)]) (want : ∀ H : Hp, Only H → SqL K H a (ns.map V.int) → sp [.ref a] H (fun v _ => v = .bl true) fun _ _ _ => False) :
    codeAny (model P w) callerA (.call (.ref fa) ⟨[.ref a], []⟩) (fun r s' => r = .ok (.ret (.bool true)) ∧ OldK s1.heap s'.heap ∧ s'.os = s1.os ∧ AllBare s'.gens) s1 := by
  have rel := vals_ints hi
  have lens := hi.length
  cases hk : K.lookup a with
  | some o =>
    have e := kin a o hk
    rw [obj] at e
    cases e
    have told : SqL K (fun _ => none) a (ns.map V.int) := .inr ⟨_, vs.toArray, _, hk, rfl, rfl, rfl, by rw [List.size_toArray, lens]; exact few, by simpa using rel⟩
    have no : Only (fun _ => none) := fun _ => .inl rfl
    exact lawG_core _ kin hg hbn hbb noL hgens obj room F bnd no (fun b u z => nomatch (show (none : Option HO) = some u from z)) (fun b z => (z rfl).elim) (fun z => (z rfl).elim) (want _ no told)
  | none =>
    obtain ⟨H, eH⟩ : ∃ H : Hp, H = fun b => if b = a then some (.frz { cls := .type "list", data := .seq vs.toArray } (.lst (ns.map V.int))) else none := ⟨_, rfl⟩
    have at_a : H a = some (.frz { cls := .type "list", data := .seq vs.toArray } (.lst (ns.map V.int))) := by rw [eH]; exact if_pos rfl
    have off : ∀ b, b ≠ a → H b = none := fun b n => by rw [eH]; exact if_neg n
    have only : Only H := fun b => by
      by_cases z : b = a
      · subst z; exact .inr ⟨_, _, at_a⟩
      · exact .inl (off b z)
    have ok : HOk P w H s1.heap := fun b u z => by
      by_cases q : b = a
      · subst q
        rw [at_a] at z
        cases z
        exact ⟨obj, by rw [List.length_map]; exact few, vs, _, rel, obj⟩
      · rw [off b q] at z; cases z
    exact lawG_core H kin hg hbn hbb noL hgens obj room F bnd only ok (fun b n => Classical.byContradiction fun z => n (off b z)) (fun _ => hk) (want H only (.inl (.inr ⟨_, at_a⟩)))
end
theorem walk_ofG {l : PySem.W.OpenLaw} {n k : Nat} {q : Program} {loose : List Str} {XP : (Str → Option Value) → Heap → Prop} {YP : World → Heap → Prop} {d : DefRec} {x : Str}
    (hn : l.most = some n) (hn2 : n ≤ sizeLine) (hdf : d.params.defaults = []) (room : Room k callerA)
    (F : ∀ (w : World) (mg : Str → Option Value) (fa : Addr) (h : Heap), YP w h → h.Ns mainGlobals mg → mg d.name = some (.ref fa) →
      ∃ (K : PySem.W.Frag) (fd : FuncData) (sp : Sp), K.In h ∧ (∀ (s : Shared) (u : Value), BindsTo s fd ⟨[u], []⟩ [(x, u)]) ∧
        (∀ (H : Hp) (a : Addr) (ns : List Int), ns.length ≤ n → Only H → SqL K H a (ns.map V.int) → sp [.ref a] H (fun v _ => v = .bl true) fun _ _ _ => False) ∧
        ∀ base : Heap, K.In base → base.Ns mainGlobals mg → FnOkG l.prog w K mg base k fa fd [x] sp) :
    PySem.W.WalkO q loose XP YP l.row.toRowW d [] (fun f vs => PySem.call f vs) := by
  refine Att.attach_call hn hdf ?_
  intro w s0 s1 mg mb fa o pm cd doc a vs ns Gr Y _ _ _ hmg obj hints len hgens
  obtain ⟨K, fd, sp, kin, bnd, want, hF⟩ := F w mg fa _ Y Gr.T.g hmg
  exact law_callG kin Gr.T.g Gr.T.b Gr.T.builtins Gr.T.nolimit hgens obj hints (Nat.le_trans len hn2) room hF bnd fun H hO hS => want H a ns len hO hS
end ML
end
section
namespace PySem
open Sem (wp)
open AutoSeq1 (wpAny_loadPart')
section
variable {prog : Program} {w : World} {A : Around} {E : Value → Shared → Prop} {s : Shared}
end
end PySem
namespace L2
open PySem PySem.Spec PyProof.Rows
end L2
namespace ML
open PySem PySem.Spec PyProof.Rows L2 He
def enumV (xs : List VI) : List VI := xs.mapIdx fun i x => .tup [.int (i : Nat), x]
def enuOf : VI → Hi → Option Itm := fun v h => match v with
  | .tup xs => some (.tup (enumV xs))
  | v => enlOf v h
def iEnumU (e : ME) : MI := fun σ h => (e σ h).bind fun v h1 => ofI (enuOf v h1) h1
section
variable {G : Gx} {W : WX} {X : Cx} {e : Expr} {me : ME} {ρ : List Addr} {H : Hp} {p pos tpos : Pos} {elts : List Expr} {kk : Nat}
end
end ML
namespace ML
open PySem PySem.Spec PyProof.Rows L2 He
theorem enumV_r2 {r : List Nat} {xs ys : List VI} (t : RVs2 r xs ys) : RVs2 r (enumV xs) (enumV ys) := by
  have go : ∀ (xs ys : List VI) (k : Nat), RVs2 r xs ys → RVs2 r (xs.mapIdx fun i x => .tup [.int ((i + k : Nat)), x]) (ys.mapIdx fun i x => .tup [.int ((i + k : Nat)), x]) := by
    intro xs
    induction xs with
    | nil => intro ys k t; cases t; exact .nil
    | cons x xs ih =>
      intro ys k t
      cases t with
      | @cons _ y _ ys' p q =>
        simp only [List.mapIdx_cons]
        refine .cons (.tup (.cons (.int _) (.cons p .nil))) ?_
        have := ih ys' (k + 1) q
        simpa [Nat.add_assoc, Nat.add_comm 1 k] using this
  have := go xs ys 0 t
  simpa [enumV] using this
instance {ma : ME} [x : LE ma] : LI (iEnumU ma) := ⟨fun r s h σ σ' g a => (x.run r s h σ σ' g a).bind fun r1 s1 h1 v v' e1 g1 q1 => by
  unfold enuOf
  cases q1 with
  | @ref n m p =>
    have k := listAt2 g1 p
    unfold enlOf
    dsimp only
    cases z1 : listAt n s1 with
    | none => trivial
    | some xs => cases z2 : listAt m h1 with
      | none => rw [z1, z2] at k; exact k.elim
      | some ys => exact .ok g1 (.enl p)
  | tup t => exact .ok g1 (.tup (enumV_r2 t))
  | _ => trivial⟩
end ML
end
section
namespace ML
open PySem L2
def kdInK (neg : Bool) (tbl : S → Option VI) : VI → Hi → Res VI := fun v h1 => match v with
  | .str s => match tbl s with
    | some _ => .ok (.bl (!neg)) h1
    | none => .err
  | _ => .err
def eKdIn (neg : Bool) (tbl : S → Option VI) (b : ME) : ME := fun σ h => (b σ h).bind (kdInK neg tbl)
section
variable {G : Gx} {W : WX} {X : Cx} {b : Expr} {pos p : Pos} {mb : ME}
end
end ML
end
section
namespace ML
open PySem L2
instance {neg : Bool} {tbl : S → Option VI} {ma : ME} [x : LE ma] : LE (eKdIn neg tbl ma) := ⟨fun r s h σ σ' g a => (x.run r s h σ σ' g a).bind fun r1 s1 h1 v v' e1 g1 q1 => by
  cases q1 with
  | str y =>
    dsimp only [kdInK]
    cases z : tbl y with
    | none => trivial
    | some w => exact .ok g1 (.bl _)
  | _ => trivial⟩
end ML
end
section
namespace HT
open PySem PySem.Spec PyProof.Rows L2
section
variable {prog : Program} {w : World} {A : Around} {E : Value → Shared → Prop} {s : Shared}
end
end HT
namespace L2
open PySem PySem.Spec PyProof.Rows
section
variable {X : Cx}
end
end L2
namespace ML
open PySem L2
section
variable {G : Gx} {W : WX} {X : Cx} {e : Expr} {me : ME} {ρ : List Addr} {H : Hp}
theorem RVs.reverse : ∀ {xs : List VI} {ys : List V}, RVs G ρ H xs ys → RVs G ρ H xs.reverse ys.reverse
  | _, _, .nil => .nil
  | _, _, .cons h t => by
    rw [List.reverse_cons, List.reverse_cons]
    exact (RVs.reverse t).append (.cons h .nil)
def revM (x : VI) (h : Hi) : Option (VI × Hi) := match x with
  | .tup xs => some (.tup xs.reverse, h)
  | .ref n => match h[n]? with
    | some (.lst xs) => some (.ref h.length, h ++ [.lst xs.reverse])
    | some (.scr xs) => some (.ref h.length, h ++ [.lst xs.reverse])
    | _ => none
  | _ => none
def eRev (e : ME) : ME := fun σ h => (e σ h).bind fun x h1 => ofO (revM x h1)
end
end ML
end
section
namespace ML
open PySem L2
theorem RVs2.reverse {r : List Nat} : ∀ {v x : List VI}, RVs2 r v x → RVs2 r v.reverse x.reverse
  | _, _, .nil => .nil
  | _, _, .cons a t => by
    rw [List.reverse_cons, List.reverse_cons]
    exact (RVs2.reverse t).append (.cons a .nil)
instance {ma : ME} [x : LE ma] : LE (eRev ma) := ⟨fun r s h σ σ' g a => (x.run r s h σ σ' g a).bind fun r1 s1 h1 v v' e1 g1 q1 => by
  refine .ofO ?_
  unfold revM
  cases q1 with
  | tup t => exact .ok g1 (.tup t.reverse)
  | ref i =>
    obtain ⟨o, o', z1, z2, z3⟩ := g1.no i
    dsimp only
    rw [z1, z2]
    cases z3 with
    | lst t => exact .new g1 fun r' e => .lst (t.reverse.mono e)
    | scr t => exact .new g1 fun r' e => .lst (t.reverse.mono e)
    | _ => trivial
  | _ => trivial⟩
end ML
end
section
namespace ML
open PySem L2
instance {i : Nat} {tbl : Nat → Option MF} {me : ME} [c : LTb tbl] [y : LE me] : LS (sAugE i tbl me) := ⟨fun r s h σ σ' g a => by
  unfold sAugE
  cases z : σ[i]? with
  | none => trivial
  | some o =>
    cases o with
    | none => trivial
    | some v =>
      obtain ⟨w, k1, k2⟩ := a.at_ i v z
      rw [k1]
      refine (y.run _ _ _ _ _ g a).bindS a fun r1 s1 h1 u u' e1 g1 q1 => ?_
      unfold augEK
      rw [ins2 g1 (k2.mono e1)]
      cases z1 : insC v s1 with
      | none => trivial
      | some d =>
        dsimp only
        cases w0 : tbl d with
        | none => trivial
        | some f => exact ((c.run _ _ w0).run _ _ _ _ _ g1 (.cons (k2.mono e1) (.cons q1 .nil))).bindS (a.mono e1) fun r2 s2 h2 z z' e2 g2 q2 => ⟨r2, h2, _, rfl, .refl, g2, ((a.mono e1).mono e2).set q2 i⟩⟩
instance {body su : MS} {mt : Nat → Option Bool} [x : LS body] [y : LS su] : LS (sTryO body mt su) := ⟨fun r s h σ σ' g a => by
  have k := x.run r s h σ σ' g a
  unfold sTryO
  cases z : body σ s with
  | err => trivial
  | nx σ1 s' => rw [z] at k; obtain ⟨r2, h2, m, e1, e2, g2, a2⟩ := k; rw [e1]; exact ⟨r2, h2, _, rfl, e2, g2, a2⟩
  | bk σ1 s' => rw [z] at k; obtain ⟨r2, h2, m, e1, e2, g2, a2⟩ := k; rw [e1]; exact ⟨r2, h2, _, rfl, e2, g2, a2⟩
  | ct σ1 s' => rw [z] at k; obtain ⟨r2, h2, m, e1, e2, g2, a2⟩ := k; rw [e1]; exact ⟨r2, h2, _, rfl, e2, g2, a2⟩
  | rt v s' => rw [z] at k; obtain ⟨r2, h2, m, e1, e2, g2, a2⟩ := k; rw [e1]; exact ⟨r2, h2, _, rfl, e2, g2, a2⟩
  | ex c n σ1 s' =>
    rw [z] at k
    obtain ⟨r2, h2, σ2, m, e1, e2, g2, a2, q⟩ := k
    rw [e1]
    refine L2S.ext e2 ?_
    show L2S r2 h2 (onlyS mt su c n σ1 s') (onlyS mt su c m σ2 h2)
    unfold onlyS
    cases w : mt c with
    | none => trivial
    | some b =>
      cases b with
      | false => exact ⟨r2, h2, σ2, m, rfl, .refl, g2, a2, q⟩
      | true =>
        have t := y.run r2 s' h2 σ1 σ2 g2 a2
        dsimp only
        cases z2 : su σ1 s' with
        | err => trivial
        | ex _ _ _ _ => trivial
        | nx σ3 s3 => rw [z2] at t; obtain ⟨r3, h3, m, e1, e2, g2, a2⟩ := t; rw [e1]; exact ⟨r3, h3, _, rfl, e2, g2, a2⟩
        | bk σ3 s3 => rw [z2] at t; obtain ⟨r3, h3, m, e1, e2, g2, a2⟩ := t; rw [e1]; exact ⟨r3, h3, _, rfl, e2, g2, a2⟩
        | ct σ3 s3 => rw [z2] at t; obtain ⟨r3, h3, m, e1, e2, g2, a2⟩ := t; rw [e1]; exact ⟨r3, h3, _, rfl, e2, g2, a2⟩
        | rt v s3 => rw [z2] at t; obtain ⟨r3, h3, m, e1, e2, g2, a2⟩ := t; rw [e1]; exact ⟨r3, h3, _, rfl, e2, g2, a2⟩⟩
instance {gs : List MG} [q : LGs gs] : LG (gLstM gs) := ⟨fun r s h σ σ' v v' g a p => by
  unfold gLstM
  cases p with
  | @ref n m t =>
    dsimp only
    have k := listAt2 g t
    cases z1 : listAt n s with
    | none => trivial
    | some xs =>
      cases z2 : listAt m h with
      | none => rw [z1, z2] at k; cases k
      | some ys =>
        rw [z1, z2] at k
        have k : RVs2 r xs ys := k
        dsimp only
        rw [k.length]
        split
        · exact q.run _ _ _ _ _ _ _ g a k
        · trivial
  | _ => trivial⟩
end ML
end
section
namespace ML
open PySem L2
instance : LOc cRepD := ⟨fun r s h vs vs' g t => by
  unfold cRepD
  cases t with
  | nil => trivial
  | cons p t =>
    cases t with
    | cons _ _ => trivial
    | nil =>
      dsimp only
      rename_i v w
      cases z : dat 12 s v with
      | none => trivial
      | some d =>
        rw [dat2 g _ _ _ _ p z]
        dsimp only
        cases shD d with
        | none => trivial
        | some x =>
          dsimp only
          cases Nat.ble d.depth 20 && small x.length with
          | false => trivial
          | true => exact .ok g (.str _)⟩
end ML
end
section
set_option maxHeartbeats 0
namespace Lw
open PySem PySem.Spec PyProof.Rows L2 He ML
abbrev P : Program := PySem.Challenge.pw_epochrooms_k05_books_refused
def top (i : Nat) : Stmt := PySem.Challenge.pw_epochrooms_k05_books_refused.main.body.getD i (.Pass ⟨0, 0, 0, 0⟩)
def clsBody (s : Stmt) : List Stmt := match s with
  | .ClassDef _ _ _ b _ _ _ _ _ _ _ => b
  | _ => []
def clsAt (i j : Nat) : Stmt := (clsBody (top i)).getD j (.Pass ⟨0, 0, 0, 0⟩)
def nm (c : Nat) : Option Str := match c with
  | 2 => some "Book"
  | 3 => some "EpochBook"
  | 4 => some "LookBook"
  | 5 => some "StillBook"
  | 13 => some "NoSwitch"
  | 14 => some "NoValue"
  | 15 => some "NoBook"
  | _ => none
def s_empty : S := []
theorem t_empty : ("" : Str) = toStr s_empty := by decide +kernel
def s_x : S := [120]
theorem t_x : ("x" : Str) = toStr s_x := by decide +kernel
def s_step : S := [115, 116, 101, 112]
theorem t_step : ("step" : Str) = toStr s_step := by decide +kernel
def s_test : S := [116, 101, 115, 116]
theorem t_test : ("test" : Str) = toStr s_test := by decide +kernel
def s_fetch : S := [102, 101, 116, 99, 104]
theorem t_fetch : ("fetch" : Str) = toStr s_fetch := by decide +kernel
def s_check : S := [99, 104, 101, 99, 107]
theorem t_check : ("check" : Str) = toStr s_check := by decide +kernel
def s_epochs : S := [101, 112, 111, 99, 104, 115]
theorem t_epochs : ("epochs" : Str) = toStr s_epochs := by decide +kernel
def s_counts : S := [99, 111, 117, 110, 116, 115]
theorem t_counts : ("counts" : Str) = toStr s_counts := by decide +kernel
def s_still : S := [115, 116, 105, 108, 108]
theorem t_still : ("still" : Str) = toStr s_still := by decide +kernel
def s_read : S := [114, 101, 97, 100]
theorem t_read : ("read" : Str) = toStr s_read := by decide +kernel
def s_sleep : S := [115, 108, 101, 101, 112]
theorem t_sleep : ("sleep" : Str) = toStr s_sleep := by decide +kernel
def s_WORDS : S := [87, 79, 82, 68, 83]
theorem t_WORDS : ("WORDS" : Str) = toStr s_WORDS := by decide +kernel
def s_look : S := [108, 111, 111, 107]
theorem t_look : ("look" : Str) = toStr s_look := by decide +kernel
def s_chain : S := [99, 104, 97, 105, 110]
theorem t_chain : ("chain" : Str) = toStr s_chain := by decide +kernel
def s_behind : S := [98, 101, 104, 105, 110, 100]
theorem t_behind : ("behind" : Str) = toStr s_behind := by decide +kernel
def s_mark : S := [109, 97, 114, 107]
theorem t_mark : ("mark" : Str) = toStr s_mark := by decide +kernel
def s_told : S := [116, 111, 108, 100]
theorem t_told : ("told" : Str) = toStr s_told := by decide +kernel
def s_word : S := [119, 111, 114, 100]
theorem t_word : ("word" : Str) = toStr s_word := by decide +kernel
def s_look_at_word : S := [108, 111, 111, 107, 95, 97, 116, 95, 119, 111, 114, 100]
theorem t_look_at_word : ("look_at_word" : Str) = toStr s_look_at_word := by decide +kernel
def s_own : S := [111, 119, 110]
theorem t_own : ("own" : Str) = toStr s_own := by decide +kernel
def s_ahead : S := [97, 104, 101, 97, 100]
def s_fresh : S := [102, 114, 101, 115, 104]
theorem t_fresh : ("fresh" : Str) = toStr s_fresh := by decide +kernel
def s_last : S := [108, 97, 115, 116]
def s_equal : S := [101, 113, 117, 97, 108]
theorem t_equal : ("equal" : Str) = toStr s_equal := by decide +kernel
def s_add : S := [97, 100, 100]
def s_set : S := [115, 101, 116]
def s_next : S := [110, 101, 120, 116]
def s_both : S := [98, 111, 116, 104]
def s_none : S := [110, 111, 110, 101]
theorem t_none : ("none" : Str) = toStr s_none := by decide +kernel
def s_anywhere : S := [97, 110, 121, 119, 104, 101, 114, 101]
def s_outside : S := [111, 117, 116, 115, 105, 100, 101]
theorem t_outside : ("outside" : Str) = toStr s_outside := by decide +kernel
def s_inside : S := [105, 110, 115, 105, 100, 101]
def s_late : S := [108, 97, 116, 101]
def s_WAY : S := [87, 65, 89]
theorem t_WAY : ("WAY" : Str) = toStr s_WAY := by decide +kernel
def s_looks : S := [108, 111, 111, 107, 115]
def s_first_wrong : S := [102, 105, 114, 115, 116, 95, 119, 114, 111, 110, 103]
theorem t_first_wrong : ("first_wrong" : Str) = toStr s_first_wrong := by decide +kernel
def s_order : S := [111, 114, 100, 101, 114]
theorem t_order : ("order" : Str) = toStr s_order := by decide +kernel
def s_3 : S := [51]
theorem t_3 : ("3" : Str) = toStr s_3 := by decide +kernel
def s_1 : S := [49]
theorem t_1 : ("1" : Str) = toStr s_1 := by decide +kernel
def s_switches : S := [115, 119, 105, 116, 99, 104, 101, 115]
theorem t_switches : ("switches" : Str) = toStr s_switches := by decide +kernel
def s_sleeps : S := [115, 108, 101, 101, 112, 115]
theorem t_sleeps : ("sleeps" : Str) = toStr s_sleeps := by decide +kernel
def s_way : S := [119, 97, 121]
theorem t_way : ("way" : Str) = toStr s_way := by decide +kernel
def s_value : S := [118, 97, 108, 117, 101]
theorem t_value : ("value" : Str) = toStr s_value := by decide +kernel
def s_book : S := [98, 111, 111, 107]
theorem t_book : ("book" : Str) = toStr s_book := by decide +kernel
def s_switch : S := [115, 119, 105, 116, 99, 104]
theorem t_switch : ("switch" : Str) = toStr s_switch := by decide +kernel
def se_bd_EpochBookD_initD_3_ : List (Nat × Nat) := [(0, 0), (0, 1), (0, 2), (1, 0), (1, 1), (1, 2), (1, 3), (1, 4), (1, 5)]
def ar_bd_EpochBookD_initD_3_ (us ws : List VI) : List VI := arr3 se_bd_EpochBookD_initD_3_ us [(.bl true), (.str s_behind), (.str s_fresh), (.str s_equal), (.str s_still), (.bl true)] ws
def se_bd_EpochBookD_initD_3_check : List (Nat × Nat) := [(0, 0), (0, 1), (0, 2), (2, 0), (1, 0), (1, 1), (1, 2), (1, 3), (1, 4)]
def ar_bd_EpochBookD_initD_3_check (us ws : List VI) : List VI := arr3 se_bd_EpochBookD_initD_3_check us [(.str s_behind), (.str s_fresh), (.str s_equal), (.str s_still), (.bl true)] ws
def se_bd_EpochBookD_initD_3_check_mark : List (Nat × Nat) := [(0, 0), (0, 1), (0, 2), (2, 0), (1, 0), (2, 1), (1, 1), (1, 2), (1, 3)]
def ar_bd_EpochBookD_initD_3_check_mark (us ws : List VI) : List VI := arr3 se_bd_EpochBookD_initD_3_check_mark us [(.str s_behind), (.str s_equal), (.str s_still), (.bl true)] ws
def se_bd_EpochBookD_initD_3_fetch_told : List (Nat × Nat) := [(0, 0), (0, 1), (0, 2), (1, 0), (2, 0), (1, 1), (1, 2), (1, 3), (2, 1)]
def ar_bd_EpochBookD_initD_3_fetch_told (us ws : List VI) : List VI := arr3 se_bd_EpochBookD_initD_3_fetch_told us [(.bl true), (.str s_fresh), (.str s_equal), (.str s_still)] ws
def se_bd_EpochBookD_initD_3_test_step : List (Nat × Nat) := [(0, 0), (0, 1), (0, 2), (1, 0), (1, 1), (1, 2), (2, 0), (2, 1), (1, 3)]
def ar_bd_EpochBookD_initD_3_test_step (us ws : List VI) : List VI := arr3 se_bd_EpochBookD_initD_3_test_step us [(.bl true), (.str s_behind), (.str s_fresh), (.bl true)] ws
def se_bd_EpochBookD_initD_3_step_told : List (Nat × Nat) := [(0, 0), (0, 1), (0, 2), (1, 0), (1, 1), (1, 2), (1, 3), (2, 0), (2, 1)]
def ar_bd_EpochBookD_initD_3_step_told (us ws : List VI) : List VI := arr3 se_bd_EpochBookD_initD_3_step_told us [(.bl true), (.str s_behind), (.str s_fresh), (.str s_equal)] ws
def se_bd_LookBookD_initD_1_look_chain : List (Nat × Nat) := [(0, 0), (1, 0), (2, 0), (2, 1)]
def ar_bd_LookBookD_initD_1_look_chain (us ws : List VI) : List VI := arr3 se_bd_LookBookD_initD_1_look_chain us [(.bl true)] ws
def se_bd_LookBookD_initD_1_chain : List (Nat × Nat) := [(0, 0), (1, 0), (1, 1), (2, 0)]
def ar_bd_LookBookD_initD_1_chain (us ws : List VI) : List VI := arr3 se_bd_LookBookD_initD_1_chain us [(.bl true), (.str s_behind)] ws
def se_bd_StillBookD_initD_2_still : List (Nat × Nat) := [(0, 0), (0, 1), (2, 0), (1, 0), (1, 1)]
def ar_bd_StillBookD_initD_2_still (us ws : List VI) : List VI := arr3 se_bd_StillBookD_initD_2_still us [(.str s_behind), (.str s_none)] ws
def se_bd_StillBookD_initD_2_still_sleep : List (Nat × Nat) := [(0, 0), (0, 1), (2, 0), (1, 0), (2, 1)]
def ar_bd_StillBookD_initD_2_still_sleep (us ws : List VI) : List VI := arr3 se_bd_StillBookD_initD_2_still_sleep us [(.str s_behind)] ws
def se_bd_StillBookD_initD_2_sleep : List (Nat × Nat) := [(0, 0), (0, 1), (1, 0), (1, 1), (2, 0)]
def ar_bd_StillBookD_initD_2_sleep (us ws : List VI) : List VI := arr3 se_bd_StillBookD_initD_2_sleep us [(.str s_outside), (.str s_behind)] ws
def se_bd_StillBookD_initD_2_ : List (Nat × Nat) := [(0, 0), (0, 1), (1, 0), (1, 1), (1, 2)]
def ar_bd_StillBookD_initD_2_ (us ws : List VI) : List VI := arr3 se_bd_StillBookD_initD_2_ us [(.str s_outside), (.str s_behind), (.str s_none)] ws
def se_bd_LookBookD_initD_1_ : List (Nat × Nat) := [(0, 0), (1, 0), (1, 1), (1, 2)]
def ar_bd_LookBookD_initD_1_ (us ws : List VI) : List VI := arr3 se_bd_LookBookD_initD_1_ us [(.bl true), (.str s_behind), (.str s_none)] ws
def tb_ORDERS : List (S × VI) := [(s_check, (.tup [(.bl false), (.bl true)])), (s_fetch, (.tup [(.str s_ahead), (.str s_behind)])), (s_mark, (.tup [(.str s_own), (.str s_fresh)])), (s_test, (.tup [(.str s_last), (.str s_equal)])), (s_step, (.tup [(.str s_add), (.str s_set), (.str s_still)])), (s_told, (.tup [(.bl false), (.bl true)])), (s_look, (.tup [(.str s_ahead), (.str s_behind)])), (s_chain, (.tup [(.str s_next), (.str s_both), (.str s_none)])), (s_still, (.tup [(.str s_anywhere), (.str s_outside)])), (s_read, (.tup [(.str s_ahead), (.str s_behind)])), (s_sleep, (.tup [(.str s_inside), (.str s_late), (.str s_outside), (.str s_none)]))]
def i_str : IsS := ⟨(some false), (some false), (some false), (some true), (some false), (some false), (some false), [(2, false), (3, false), (4, false), (5, false)]⟩
def i_bool : IsS := ⟨(some false), (some true), (some false), (some false), (some false), (some false), (some false), [(2, false), (3, false), (4, false), (5, false)]⟩
def i_Book : IsS := ⟨(some false), (some false), (some false), (some false), (some false), (some false), (some false), [(2, true), (3, true), (4, true), (5, true)]⟩
def i_int : IsS := ⟨(some false), (some true), (some true), (some false), (some false), (some false), (some false), [(2, false), (3, false), (4, false), (5, false)]⟩
def i_EpochBook_LookBook_StillBook : IsS := ⟨(some false), (some false), (some false), (some false), (some false), (some false), (some false), [(2, false), (3, true), (4, true), (5, true)]⟩
def m__law_odd : MS := (sRet (eLst (aCons (eC .non) (aCons (eC (.str s_x)) (aCons (eC (.str s_empty)) (aCons (eC (.int 1)) (aCons (eC (.int 0)) (aCons (eLst (aCons (eC (.bl true)) aNil)) (aCons (eC (.int 25)) aNil)))))))))
def f__law_odd : MF := runB 0 0 m__law_odd
def m_Book_look_at_word : MS := (sIf (tOrM (tNotM (tOf (eIsi i_str.t (eV 1)))) (tOf (eBin fNotIn (eV 1) (eCon (lkT [(2, (.tup [])), (3, (.tup [(.str s_epochs), (.str s_behind), (.str s_check), (.str s_fetch), (.str s_mark), (.str s_test), (.str s_step), (.str s_told)])), (4, (.tup [(.str s_check), (.str s_look), (.str s_chain)])), (5, (.tup [(.str s_counts), (.str s_still), (.str s_read), (.str s_sleep)]))]) s_WORDS (eV 0))))) (sRaise 13 s_word (eV 1)) sNx)
def f_Book_look_at_word : MF := runB 2 0 m_Book_look_at_word
def m_BookD_getitemD : MS := (sSeq (sDrop (eMeth (lkT [(2, f_Book_look_at_word), (3, f_Book_look_at_word), (4, f_Book_look_at_word), (5, f_Book_look_at_word)]) s_look_at_word (eV 0) (aCons (eV 1) aNil))) (sSeq (sRet (eBin fIx (eFld [2, 3, 4, 5] s_own (eV 0)) (eV 1))) sNx))
def f_BookD_getitemD : MF := runB 2 0 m_BookD_getitemD
def m_values_at : MS := (sSeq (sIf (tOf (eBin fEq (eV 0) (eC (.str s_epochs)))) (sRet (eTupRg (eC (.int 2)) (eBin fAdd (eC (.int 6)) (eC (.int 1))))) sNx) (sSeq (sIf (tOf (eBin fEq (eV 0) (eC (.str s_behind)))) (sRet (eTupRg (eC (.int 1)) (eBin fAdd (eIxU (lkT [(2, f_BookD_getitemD), (3, f_BookD_getitemD), (4, f_BookD_getitemD), (5, f_BookD_getitemD)]) (eV 1) (eC (.str s_epochs))) (eC (.int 1))))) sNx) (sSeq (sRet (eIf (tOf (eBin fEq (eV 0) (eC (.str s_counts)))) (eTupRg (eC (.int 1)) (eBin fAdd (eC (.int 4)) (eC (.int 1)))) (eKd (lkS tb_ORDERS) (eV 0)))) sNx)))
def f_values_at : MF := runB 2 0 m_values_at
def m_BookD_eqD : MS := (sRet (eAnd (eIsi i_Book.t (eV 1)) (eAnd (eBin fEqX (eCon (lkT [(2, (.str s_empty)), (3, (.str s_epochs)), (4, (.str s_looks)), (5, (.str s_still))]) s_WAY (eV 0)) (eCon (lkT [(2, (.str s_empty)), (3, (.str s_epochs)), (4, (.str s_looks)), (5, (.str s_still))]) s_WAY (eV 1))) (eBin fEqX (eFld [2, 3, 4, 5] s_own (eV 0)) (eFld [2, 3, 4, 5] s_own (eV 1))))))
def f_BookD_eqD : MF := runB 2 0 m_BookD_eqD
def m_is_whole : MS := (sRet (eAnd (eIsi i_int.t (eV 0)) (eNot (eIsi i_bool.t (eV 0)))))
def f_is_whole : MF := runB 1 0 m_is_whole
def m_is_same : MS := (sSeq (sIf (tOf (eIsi i_bool.t (eV 1))) (sRet (eAnd (eIsi i_bool.t (eV 0)) (eCmpU [3, 4, 5] (lkT [(3, f_BookD_eqD), (4, f_BookD_eqD), (5, f_BookD_eqD)]) fEqX (eV 0) (eV 1)))) sNx) (sSeq (sIf (tOf (eIsi i_str.t (eV 1))) (sRet (eAnd (eIsi i_str.t (eV 0)) (eCmpU [3, 4, 5] (lkT [(3, f_BookD_eqD), (4, f_BookD_eqD), (5, f_BookD_eqD)]) fEqX (eV 0) (eV 1)))) sNx) (sSeq (sRet (eAnd (eCall f_is_whole (aCons (eV 0) aNil)) (eCmpU [3, 4, 5] (lkT [(3, f_BookD_eqD), (4, f_BookD_eqD), (5, f_BookD_eqD)]) fEqX (eV 0) (eV 1)))) sNx)))
def f_is_same : MF := runB 2 0 m_is_same
def m_is_value : MS := (sRet (eBin fNe (eLc (iSeq (eCall f_values_at (aCons (eV 0) (aCons (eV 1) aNil)))) (.one 2) [2] (tOf (eCall f_is_same (aCons (eIxU (lkT [(2, f_BookD_getitemD), (3, f_BookD_getitemD), (4, f_BookD_getitemD), (5, f_BookD_getitemD)]) (eV 1) (eV 0)) (aCons (eV 2) aNil)))) (eV 2)) (eLst aNil)))
def f_is_value : MF := runB 2 1 m_is_value
def m_Book_first_wrong : MS := (sSeq (sFor (iSeq (eCon (lkT [(2, (.tup [])), (3, (.tup [(.str s_epochs), (.str s_behind), (.str s_check), (.str s_fetch), (.str s_mark), (.str s_test), (.str s_step), (.str s_told)])), (4, (.tup [(.str s_check), (.str s_look), (.str s_chain)])), (5, (.tup [(.str s_counts), (.str s_still), (.str s_read), (.str s_sleep)]))]) s_WORDS (eV 0))) (gNm 2) (sIf (tNotM (tOf (eCall f_is_value (aCons (eV 2) (aCons (eV 1) aNil))))) (sRet (eV 2)) sNx)) (sSeq (sRet (eC .non)) sNx))
def f_Book_first_wrong : MF := runB 2 1 m_Book_first_wrong
def m_BookD_initD : MS := (sSeq (sAsg (eMeth (lkT [(2, f_Book_first_wrong), (3, f_Book_first_wrong), (4, f_Book_first_wrong), (5, f_Book_first_wrong)]) s_first_wrong (eV 0) (aCons (eV 1) aNil)) (gNm 2)) (sSeq (sIf (tOf (eBin fNotN (eV 2) (eC .non))) (sRaise 14 s_word (eV 2)) sNx) (sSeq (sFldM [2, 3, 4, 5] s_own (eV 0) (eV 1)) (sSeq (sFldM [2, 3, 4, 5] s_order (eV 0) (eCB cList (aCons (eCon (lkT [(2, (.tup [])), (3, (.tup [(.str s_epochs), (.str s_behind), (.str s_check), (.str s_fetch), (.str s_mark), (.str s_test), (.str s_step), (.str s_told)])), (4, (.tup [(.str s_check), (.str s_look), (.str s_chain)])), (5, (.tup [(.str s_counts), (.str s_still), (.str s_read), (.str s_sleep)]))]) s_WORDS (eV 0)) aNil))) sNx))))
def f_BookD_initD : MF := runB 2 1 m_BookD_initD
def m_EpochBookD_initD : MS := (sSeq (sSuper (knw [3]) 0 f_BookD_initD (aCons (eDisp [((eC (.str s_epochs)), (eV 1)), ((eC (.str s_behind)), (eV 2)), ((eC (.str s_check)), (eV 3)), ((eC (.str s_fetch)), (eV 4)), ((eC (.str s_mark)), (eV 5)), ((eC (.str s_test)), (eV 6)), ((eC (.str s_step)), (eV 7)), ((eC (.str s_told)), (eV 8))]) aNil)) sNx)
def f_EpochBookD_initD : MF := runB 9 1 m_EpochBookD_initD
def m__law_epochs : MS := (sTry (sSeq (sIf (tOf (eBin fEq (eV 0) (eC (.str s_epochs)))) (sRet (eBin fIsN (eCallK 2 0 (mkK 3 f_EpochBookD_initD ar_bd_EpochBookD_initD_3_) (aCons (eV 1) (aCons (eV 2) aNil)) aNil) (eC .non))) sNx) (sSeq (sIf (tOf (eBin fEq (eV 0) (eC (.str s_behind)))) (sRet (eBin fIsN (eCallK 2 1 (mkK 3 f_EpochBookD_initD ar_bd_EpochBookD_initD_3_check) (aCons (eC (.int 4)) (aCons (eV 1) aNil)) (aCons (eV 2) aNil)) (eC .non))) sNx) (sSeq (sIf (tOf (eBin fEq (eV 0) (eC (.str s_check)))) (sRet (eBin fIsN (eCallK 2 2 (mkK 3 f_EpochBookD_initD ar_bd_EpochBookD_initD_3_check_mark) (aCons (eC (.int 4)) (aCons (eC (.int 2)) aNil)) (aCons (eV 1) (aCons (eV 2) aNil))) (eC .non))) sNx) (sSeq (sIf (tOf (eBin fEq (eV 0) (eC (.str s_fetch)))) (sRet (eBin fIsN (eCallK 2 2 (mkK 3 f_EpochBookD_initD ar_bd_EpochBookD_initD_3_fetch_told) (aCons (eC (.int 4)) (aCons (eC (.int 2)) aNil)) (aCons (eV 1) (aCons (eV 2) aNil))) (eC .non))) sNx) (sSeq (sIf (tOf (eBin fEq (eV 0) (eC (.str s_test)))) (sRet (eBin fIsN (eCallK 2 2 (mkK 3 f_EpochBookD_initD ar_bd_EpochBookD_initD_3_test_step) (aCons (eC (.int 4)) (aCons (eC (.int 2)) aNil)) (aCons (eV 1) (aCons (eV 2) aNil))) (eC .non))) sNx) (sSeq (sRet (eBin fIsN (eCallK 2 2 (mkK 3 f_EpochBookD_initD ar_bd_EpochBookD_initD_3_step_told) (aCons (eC (.int 4)) (aCons (eC (.int 2)) aNil)) (aCons (eV 1) (aCons (eV 2) aNil))) (eC .non))) sNx)))))) ((lkT [(13, false), (14, true), (15, false)], 3, fun c n => (sRet (eLst (aCons (eXf [13, 14] c n s_word) (aCons (eXi (lkT [(13, true), (14, true), (15, true)]) c n) aNil))))) :: []))
def f__law_epochs : MF := runB 3 1 m__law_epochs
def m_LookBookD_initD : MS := (sSeq (sSuper (knw [4]) 0 f_BookD_initD (aCons (eDisp [((eC (.str s_check)), (eV 1)), ((eC (.str s_look)), (eV 2)), ((eC (.str s_chain)), (eV 3))]) aNil)) sNx)
def f_LookBookD_initD : MF := runB 4 1 m_LookBookD_initD
def m_StillBookD_initD : MS := (sSeq (sSuper (knw [5]) 0 f_BookD_initD (aCons (eDisp [((eC (.str s_counts)), (eV 1)), ((eC (.str s_still)), (eV 2)), ((eC (.str s_read)), (eV 3)), ((eC (.str s_sleep)), (eV 4))]) aNil)) sNx)
def f_StillBookD_initD : MF := runB 5 1 m_StillBookD_initD
def m__law_others : MS := (sTry (sSeq (sIf (tOf (eBin fEq (eV 0) (eC (.str s_look)))) (sRet (eBin fIsN (eCallK 0 2 (mkK 4 f_LookBookD_initD ar_bd_LookBookD_initD_1_look_chain) aNil (aCons (eV 1) (aCons (eV 2) aNil))) (eC .non))) sNx) (sSeq (sIf (tOf (eBin fEq (eV 0) (eC (.str s_chain)))) (sRet (eBin fIsN (eCallK 0 1 (mkK 4 f_LookBookD_initD ar_bd_LookBookD_initD_1_chain) aNil (aCons (eV 1) aNil)) (eC .non))) sNx) (sSeq (sIf (tOf (eBin fEq (eV 0) (eC (.str s_counts)))) (sRet (eBin fIsN (eCallK 1 1 (mkK 5 f_StillBookD_initD ar_bd_StillBookD_initD_2_still) (aCons (eV 1) aNil) (aCons (eV 2) aNil)) (eC .non))) sNx) (sSeq (sIf (tOf (eBin fEq (eV 0) (eC (.str s_still)))) (sRet (eBin fIsN (eCallK 1 2 (mkK 5 f_StillBookD_initD ar_bd_StillBookD_initD_2_still_sleep) (aCons (eC (.int 2)) aNil) (aCons (eV 1) (aCons (eV 2) aNil))) (eC .non))) sNx) (sSeq (sRet (eBin fIsN (eCallK 1 1 (mkK 5 f_StillBookD_initD ar_bd_StillBookD_initD_2_sleep) (aCons (eC (.int 2)) aNil) (aCons (eV 1) aNil)) (eC .non))) sNx))))) ((lkT [(13, false), (14, true), (15, false)], 3, fun c n => (sRet (eLst (aCons (eXf [13, 14] c n s_word) (aCons (eXi (lkT [(13, true), (14, true), (15, true)]) c n) aNil))))) :: []))
def f__law_others : MF := runB 3 1 m__law_others
def m_Book_switches : MS := (sRet (eLc (iSeq (eCon (lkT [(2, (.tup [])), (3, (.tup [(.str s_epochs), (.str s_behind), (.str s_check), (.str s_fetch), (.str s_mark), (.str s_test), (.str s_step), (.str s_told)])), (4, (.tup [(.str s_check), (.str s_look), (.str s_chain)])), (5, (.tup [(.str s_counts), (.str s_still), (.str s_read), (.str s_sleep)]))]) s_WORDS (eV 0))) (.one 1) [1] tYesM (eTup (aCons (eV 1) (aCons (eIxU (lkT [(2, f_BookD_getitemD), (3, f_BookD_getitemD), (4, f_BookD_getitemD), (5, f_BookD_getitemD)]) (eFld [2, 3, 4, 5] s_own (eV 0)) (eV 1)) aNil)))))
def f_Book_switches : MF := runB 1 1 m_Book_switches
def m_BookD_setitemD : MS := (sSeq (sDrop (eMeth (lkT [(2, f_Book_look_at_word), (3, f_Book_look_at_word), (4, f_Book_look_at_word), (5, f_Book_look_at_word)]) s_look_at_word (eV 0) (aCons (eV 1) aNil))) (sSeq (sAsg (eMrg (eFld [2, 3, 4, 5] s_own (eV 0)) (eV 1) (eV 2)) (gNm 3)) (sSeq (sIf (tOf (eBin fNotN (eMeth (lkT [(2, f_Book_first_wrong), (3, f_Book_first_wrong), (4, f_Book_first_wrong), (5, f_Book_first_wrong)]) s_first_wrong (eV 0) (aCons (eV 3) aNil)) (eC .non))) (sRaise 14 s_word (eV 1)) sNx) (sSeq (sFldM [2, 3, 4, 5] s_own (eV 0) (eV 3)) sNx))))
def f_BookD_setitemD : MF := runB 3 1 m_BookD_setitemD
def m_is_book : MS := (sRet (eIsi i_EpochBook_LookBook_StillBook.t (eV 0)))
def f_is_book : MF := runB 1 0 m_is_book
def m_look_at_book : MS := (sIf (tNotM (tOf (eCall f_is_book (aCons (eV 0) aNil)))) (sRaise 15 s_value (eV 0)) sNx)
def f_look_at_book : MF := runB 1 0 m_look_at_book
def m_values_of : MS := (sSeq (sDrop (eCall f_look_at_book (aCons (eV 0) aNil))) (sSeq (sDrop (eMeth (lkT [(2, f_Book_look_at_word), (3, f_Book_look_at_word), (4, f_Book_look_at_word), (5, f_Book_look_at_word)]) s_look_at_word (eV 0) (aCons (eV 1) aNil))) (sSeq (sRet (eCall f_values_at (aCons (eV 1) (aCons (eFld [2, 3, 4, 5] s_own (eV 0)) aNil)))) sNx)))
def f_values_of : MF := runB 2 0 m_values_of
def m__law_word : MS := (sTry (sSeq (sIf (tOf (eBin fEq (eV 2) (eC (.int 0)))) (sRet (eIxU (lkT [(2, f_BookD_getitemD), (3, f_BookD_getitemD), (4, f_BookD_getitemD), (5, f_BookD_getitemD)]) (eV 0) (eV 1))) sNx) (sSeq (sIf (tOf (eBin fEq (eV 2) (eC (.int 1)))) (sSeq (sAsg (eC (.bl true)) (gIxU (lkT [(2, f_BookD_setitemD), (3, f_BookD_setitemD), (4, f_BookD_setitemD), (5, f_BookD_setitemD)]) (eV 0) (eV 1))) (sSeq (sRet (eC .non)) sNx)) sNx) (sSeq (sRet (eCall f_values_of (aCons (eV 0) (aCons (eV 1) aNil)))) sNx))) ((lkT [(13, true), (14, false), (15, false)], 3, fun c n => (sRet (eLst (aCons (eC (.str s_switch)) (aCons (eCB cRepD (aCons (eXf [13, 14] c n s_word) aNil)) aNil))))) :: ((lkT [(13, false), (14, false), (15, true)], 3, fun c n => (sRet (eLst (aCons (eC (.str s_book)) (aCons (eCB cRepD (aCons (eXf [15] c n s_value) aNil)) aNil))))) :: [])))
def f__law_word : MF := runB 3 1 m__law_word
def m_law : MS := (sSeq (sFor (iSeq (eCall f__law_odd aNil)) (gNm 1) (sFor (iSeq (eLst (aCons (eC .non) (aCons (eC (.str s_x)) aNil)))) (gNm 2) (sSeq (sFor (iSeq (eLst (aCons (eC (.str s_check)) (aCons (eC (.str s_fetch)) (aCons (eC (.str s_test)) (aCons (eC (.str s_step)) aNil)))))) (gNm 3) (sIf (tOf (eBin fNe (eCall f__law_epochs (aCons (eV 3) (aCons (eV 1) (aCons (eV 2) aNil)))) (eLst (aCons (eV 3) (aCons (eC (.bl true)) aNil))))) (sRet (eC (.bl false))) sNx)) (sSeq (sFor (iSeq (eLst (aCons (eC (.str s_look)) (aCons (eC (.str s_chain)) (aCons (eC (.str s_still)) (aCons (eC (.str s_sleep)) aNil)))))) (gNm 3) (sIf (tOf (eBin fNe (eCall f__law_others (aCons (eV 3) (aCons (eV 1) (aCons (eV 2) aNil)))) (eLst (aCons (eV 3) (aCons (eC (.bl true)) aNil))))) (sRet (eC (.bl false))) sNx)) sNx)))) (sSeq (sFor (iSeq (eLst (aCons (eC .non) (aCons (eC (.str s_3)) (aCons (eC (.int 1)) (aCons (eC (.int 0)) (aCons (eC (.int 7)) (aCons (eC (.bl true)) (aCons (eNeg (eC (.int 2))) (aCons (eBin fPow (eC (.int 10)) (eC (.int 30))) aNil)))))))))) (gNm 1) (sIf (tOrM (tOf (eBin fNe (eCall f__law_epochs (aCons (eC (.str s_epochs)) (aCons (eV 1) (aCons (eC (.int 9)) aNil)))) (eLst (aCons (eC (.str s_epochs)) (aCons (eC (.bl true)) aNil))))) (tOf (eBin fNe (eCall f__law_epochs (aCons (eC (.str s_epochs)) (aCons (eC (.int 3)) (aCons (eC (.int 4)) aNil)))) (eLst (aCons (eC (.str s_behind)) (aCons (eC (.bl true)) aNil)))))) (sRet (eC (.bl false))) sNx)) (sSeq (sFor (iSeq (eLst (aCons (eC .non) (aCons (eC (.str s_1)) (aCons (eC (.int 0)) (aCons (eC (.int 5)) (aCons (eC (.bl true)) aNil))))))) (gNm 1) (sSeq (sIf (tOf (eBin fNe (eCall f__law_epochs (aCons (eC (.str s_behind)) (aCons (eV 1) (aCons (eC .non) aNil)))) (eLst (aCons (eC (.str s_behind)) (aCons (eC (.bl true)) aNil))))) (sRet (eC (.bl false))) sNx) (sSeq (sIf (tOf (eBin fNe (eCall f__law_others (aCons (eC (.str s_counts)) (aCons (eV 1) (aCons (eC .non) aNil)))) (eLst (aCons (eC (.str s_counts)) (aCons (eC (.bl true)) aNil))))) (sRet (eC (.bl false))) sNx) sNx))) (sSeq (sFor (iSeq (eLst (aCons (eCallK 2 0 (mkK 3 f_EpochBookD_initD ar_bd_EpochBookD_initD_3_) (aCons (eC (.int 3)) (aCons (eC (.int 2)) aNil)) aNil) (aCons (eCallK 0 0 (mkK 4 f_LookBookD_initD ar_bd_LookBookD_initD_1_) aNil aNil) (aCons (eCallK 1 0 (mkK 5 f_StillBookD_initD ar_bd_StillBookD_initD_2_) (aCons (eC (.int 2)) aNil) aNil) aNil))))) (gNm 4) (sSeq (sAsg (eMeth (lkT [(2, f_Book_switches), (3, f_Book_switches), (4, f_Book_switches), (5, f_Book_switches)]) s_switches (eV 4) aNil) (gNm 5)) (sSeq (sFor (iSeq (eLst (aCons (eC .non) (aCons (eC (.int 3)) (aCons (eC (.str s_x)) (aCons (eC (.str s_way)) (aCons (eLst (aCons (eC (.str s_check)) aNil)) (aCons (eTup (aCons (eC (.str s_check)) aNil)) (aCons (eC (.str s_sleeps)) aNil))))))))) (gNm 1) (sSeq (sIf (tOf (eBin fNe (eLc (iRng (aCons (eC (.int 3)) aNil)) (.one 6) [6] tYesM (eCall f__law_word (aCons (eV 4) (aCons (eV 1) (aCons (eV 6) aNil))))) (eBin fMul (eLst (aCons (eLst (aCons (eC (.str s_switch)) (aCons (eCB cRepD (aCons (eV 1) aNil)) aNil))) aNil)) (eC (.int 3))))) (sRet (eC (.bl false))) sNx) (sSeq (sIf (tOf (eNeU [3, 4, 5] (lkT [(3, f_BookD_eqD), (4, f_BookD_eqD), (5, f_BookD_eqD)]) fNe (eMeth (lkT [(2, f_Book_switches), (3, f_Book_switches), (4, f_Book_switches), (5, f_Book_switches)]) s_switches (eV 4) aNil) (eV 5))) (sRet (eC (.bl false))) sNx) sNx))) sNx))) (sSeq (sAsg (eLst (aCons (eC .non) (aCons (eC (.str s_epochs)) (aCons (eC (.int 5)) aNil)))) (gNm 7)) (sSeq (sRet (eBin fEqX (eLc (iSeq (eV 7)) (.one 1) [1] tYesM (eCall f__law_word (aCons (eV 1) (aCons (eC (.str s_x)) (aCons (eC (.int 2)) aNil))))) (eLc (iSeq (eV 7)) (.one 1) [1] tYesM (eLst (aCons (eC (.str s_book)) (aCons (eCB cRepD (aCons (eV 1) aNil)) aNil)))))) sNx))))))
def f_law : MF := runB 1 7 m_law
abbrev st__law_odd : Stmt := top 25
abbrev a__law_odd : Defn := gA "_law_odd"
abbrev st_NoSwitchD_initD : Stmt := clsAt 3 0
abbrev a_NoSwitchD_initD : Defn := mA "NoSwitch" "__init__"
abbrev st_Book_look_at_word : Stmt := clsAt 17 5
abbrev a_Book_look_at_word : Defn := mA "Book" "look_at_word"
abbrev st_BookD_getitemD : Stmt := clsAt 17 9
abbrev a_BookD_getitemD : Defn := mA "Book" "__getitem__"
abbrev st_values_at : Stmt := top 13
abbrev a_values_at : Defn := gA "values_at"
abbrev st_BookD_eqD : Stmt := clsAt 17 13
abbrev a_BookD_eqD : Defn := mA "Book" "__eq__"
abbrev st_is_whole : Stmt := top 7
abbrev a_is_whole : Defn := gA "is_whole"
abbrev st_is_same : Stmt := top 14
abbrev a_is_same : Defn := gA "is_same"
abbrev st_is_value : Stmt := top 15
abbrev a_is_value : Defn := gA "is_value"
abbrev st_Book_first_wrong : Stmt := clsAt 17 3
abbrev a_Book_first_wrong : Defn := mA "Book" "first_wrong"
abbrev st_NoValueD_initD : Stmt := clsAt 4 0
abbrev a_NoValueD_initD : Defn := mA "NoValue" "__init__"
abbrev st_BookD_initD : Stmt := clsAt 17 2
abbrev a_BookD_initD : Defn := mA "Book" "__init__"
abbrev st_EpochBookD_initD : Stmt := clsAt 18 2
abbrev a_EpochBookD_initD : Defn := mA "EpochBook" "__init__"
abbrev st__law_epochs : Stmt := top 26
abbrev a__law_epochs : Defn := gA "_law_epochs"
abbrev st_LookBookD_initD : Stmt := clsAt 19 2
abbrev a_LookBookD_initD : Defn := mA "LookBook" "__init__"
abbrev st_StillBookD_initD : Stmt := clsAt 20 2
abbrev a_StillBookD_initD : Defn := mA "StillBook" "__init__"
abbrev st__law_others : Stmt := top 27
abbrev a__law_others : Defn := gA "_law_others"
abbrev st_Book_switches : Stmt := clsAt 17 6
abbrev a_Book_switches : Defn := mA "Book" "switches"
abbrev st_BookD_setitemD : Stmt := clsAt 17 10
abbrev a_BookD_setitemD : Defn := mA "Book" "__setitem__"
abbrev st_is_book : Stmt := top 21
abbrev a_is_book : Defn := gA "is_book"
abbrev st_NoBookD_initD : Stmt := clsAt 5 0
abbrev a_NoBookD_initD : Defn := mA "NoBook" "__init__"
abbrev st_look_at_book : Stmt := top 22
abbrev a_look_at_book : Defn := gA "look_at_book"
abbrev st_values_of : Stmt := top 23
abbrev a_values_of : Defn := gA "values_of"
abbrev st__law_word : Stmt := top 28
abbrev a__law_word : Defn := gA "_law_word"
abbrev st_law : Stmt := top 29
abbrev a_law : Defn := gA "law"
def gd__law_odd : GDef := ⟨a__law_odd, "_law_odd", "_law_odd", defArgs st__law_odd, defBody st__law_odd, defScope st__law_odd, [], []⟩
def gd_Book_look_at_word : GDef := ⟨a_Book_look_at_word, "look_at_word", "Book.look_at_word", defArgs st_Book_look_at_word, defBody st_Book_look_at_word, defScope st_Book_look_at_word, [], []⟩
def gd_BookD_getitemD : GDef := ⟨a_BookD_getitemD, "__getitem__", "Book.__getitem__", defArgs st_BookD_getitemD, defBody st_BookD_getitemD, defScope st_BookD_getitemD, [], []⟩
def gd_values_at : GDef := ⟨a_values_at, "values_at", "values_at", defArgs st_values_at, defBody st_values_at, defScope st_values_at, [], []⟩
def gd_BookD_eqD : GDef := ⟨a_BookD_eqD, "__eq__", "Book.__eq__", defArgs st_BookD_eqD, defBody st_BookD_eqD, defScope st_BookD_eqD, [], []⟩
def gd_is_whole : GDef := ⟨a_is_whole, "is_whole", "is_whole", defArgs st_is_whole, defBody st_is_whole, defScope st_is_whole, [], []⟩
def gd_is_same : GDef := ⟨a_is_same, "is_same", "is_same", defArgs st_is_same, defBody st_is_same, defScope st_is_same, [], []⟩
def gd_is_value : GDef := ⟨a_is_value, "is_value", "is_value", defArgs st_is_value, defBody st_is_value, defScope st_is_value, [], []⟩
def gd_Book_first_wrong : GDef := ⟨a_Book_first_wrong, "first_wrong", "Book.first_wrong", defArgs st_Book_first_wrong, defBody st_Book_first_wrong, defScope st_Book_first_wrong, [], []⟩
def gd_BookD_initD : GDef := ⟨a_BookD_initD, "__init__", "Book.__init__", defArgs st_BookD_initD, defBody st_BookD_initD, defScope st_BookD_initD, [], []⟩
def gd__law_epochs : GDef := ⟨a__law_epochs, "_law_epochs", "_law_epochs", defArgs st__law_epochs, defBody st__law_epochs, defScope st__law_epochs, [], []⟩
def gd__law_others : GDef := ⟨a__law_others, "_law_others", "_law_others", defArgs st__law_others, defBody st__law_others, defScope st__law_others, [], []⟩
def gd_Book_switches : GDef := ⟨a_Book_switches, "switches", "Book.switches", defArgs st_Book_switches, defBody st_Book_switches, defScope st_Book_switches, [], []⟩
def gd_BookD_setitemD : GDef := ⟨a_BookD_setitemD, "__setitem__", "Book.__setitem__", defArgs st_BookD_setitemD, defBody st_BookD_setitemD, defScope st_BookD_setitemD, [], []⟩
def gd_is_book : GDef := ⟨a_is_book, "is_book", "is_book", defArgs st_is_book, defBody st_is_book, defScope st_is_book, [], []⟩
def gd_look_at_book : GDef := ⟨a_look_at_book, "look_at_book", "look_at_book", defArgs st_look_at_book, defBody st_look_at_book, defScope st_look_at_book, [], []⟩
def gd_values_of : GDef := ⟨a_values_of, "values_of", "values_of", defArgs st_values_of, defBody st_values_of, defScope st_values_of, [], []⟩
def gd__law_word : GDef := ⟨a__law_word, "_law_word", "_law_word", defArgs st__law_word, defBody st__law_word, defScope st__law_word, [], []⟩
def gd_law : GDef := ⟨a_law, "law", "law", defArgs st_law, defBody st_law, defScope st_law, [], []⟩
def sd_NoSwitchD_initD : SDef := ⟨a_NoSwitchD_initD, "__init__", "NoSwitch.__init__", defArgs st_NoSwitchD_initD, defBody st_NoSwitchD_initD, defScope st_NoSwitchD_initD, [], "NoSwitch", P.main.file⟩
def sd_NoValueD_initD : SDef := ⟨a_NoValueD_initD, "__init__", "NoValue.__init__", defArgs st_NoValueD_initD, defBody st_NoValueD_initD, defScope st_NoValueD_initD, [], "NoValue", P.main.file⟩
def sd_EpochBookD_initD : SDef := ⟨a_EpochBookD_initD, "__init__", "EpochBook.__init__", defArgs st_EpochBookD_initD, defBody st_EpochBookD_initD, defScope st_EpochBookD_initD, [("check", (.bl true)), ("fetch", (.str "behind")), ("mark", (.str "fresh")), ("test", (.str "equal")), ("step", (.str "still")), ("told", (.bl true))], "EpochBook", P.main.file⟩
def sd_LookBookD_initD : SDef := ⟨a_LookBookD_initD, "__init__", "LookBook.__init__", defArgs st_LookBookD_initD, defBody st_LookBookD_initD, defScope st_LookBookD_initD, [("check", (.bl true)), ("look", (.str "behind")), ("chain", (.str "none"))], "LookBook", P.main.file⟩
def sd_StillBookD_initD : SDef := ⟨a_StillBookD_initD, "__init__", "StillBook.__init__", defArgs st_StillBookD_initD, defBody st_StillBookD_initD, defScope st_StillBookD_initD, [("still", (.str "outside")), ("read", (.str "behind")), ("sleep", (.str "none"))], "StillBook", P.main.file⟩
def sd_NoBookD_initD : SDef := ⟨a_NoBookD_initD, "__init__", "NoBook.__init__", defArgs st_NoBookD_initD, defBody st_NoBookD_initD, defScope st_NoBookD_initD, [], "NoBook", P.main.file⟩
def fnL : List GDef := [gd__law_odd, gd_Book_look_at_word, gd_BookD_getitemD, gd_values_at, gd_BookD_eqD, gd_is_whole, gd_is_same, gd_is_value, gd_Book_first_wrong, gd_BookD_initD, gd__law_epochs, gd__law_others, gd_Book_switches, gd_BookD_setitemD, gd_is_book, gd_look_at_book, gd_values_of, gd__law_word, gd_law]
def sfL : List SDef := [sd_NoSwitchD_initD, sd_NoValueD_initD, sd_EpochBookD_initD, sd_LookBookD_initD, sd_StillBookD_initD, sd_NoBookD_initD]
def tab_ORDERS : Tab := (fun K => ga K "ORDERS", ["check", "fetch", "mark", "test", "step", "told", "look", "chain", "still", "read", "sleep"])
def tsL : List Tab := [tab_ORDERS]
def exL : List (PySem.W.Frag → Bool) := [fun K => (Fa.glo "_law_odd").ok K,
  fun K => conVB K "StillBook" (toStr s_WORDS) (.tup [(.str s_counts), (.str s_still), (.str s_read), (.str s_sleep)]),
  fun K => conVB K "LookBook" (toStr s_WORDS) (.tup [(.str s_check), (.str s_look), (.str s_chain)]),
  fun K => conVB K "EpochBook" (toStr s_WORDS) (.tup [(.str s_epochs), (.str s_behind), (.str s_check), (.str s_fetch), (.str s_mark), (.str s_test), (.str s_step), (.str s_told)]),
  fun K => conVB K "Book" (toStr s_WORDS) (.tup []),
  fun K => gvB K "LEAST_EPOCHS" (.int 2),
  fun K => gvB K "MOST_EPOCHS" (.int 6),
  fun K => (Fa.free "tuple").ok K,
  fun K => (Fa.free "range").ok K,
  fun K => (Fa.free "str").ok K,
  fun K => isB K nm [.ty "str"] i_str,
  fun K => (Fa.free "isinstance").ok K,
  fun K => excB K "NoSwitch",
  fun K => exiB K "NoSwitch" "word" a_NoSwitchD_initD,
  fun K => (Fa.glo "NoSwitch").ok K,
  fun K => methB K "StillBook" (toStr s_look_at_word) a_Book_look_at_word,
  fun K => methB K "LookBook" (toStr s_look_at_word) a_Book_look_at_word,
  fun K => methB K "EpochBook" (toStr s_look_at_word) a_Book_look_at_word,
  fun K => methB K "Book" (toStr s_look_at_word) a_Book_look_at_word,
  fun K => fldB K "StillBook" (toStr s_own),
  fun K => fldB K "LookBook" (toStr s_own),
  fun K => fldB K "EpochBook" (toStr s_own),
  fun K => fldB K "Book" (toStr s_own),
  fun K => spB K "StillBook" "__getitem__" a_BookD_getitemD,
  fun K => spB K "LookBook" "__getitem__" a_BookD_getitemD,
  fun K => spB K "EpochBook" "__getitem__" a_BookD_getitemD,
  fun K => spB K "Book" "__getitem__" a_BookD_getitemD,
  fun K => gvB K "MOST_COUNTS" (.int 4),
  fun K => kdB K (ga K "ORDERS") tb_ORDERS,
  fun K => (Fa.glo "ORDERS").ok K,
  fun K => (Fa.glo "values_at").ok K,
  fun K => (Fa.free "bool").ok K,
  fun K => isB K nm [.ty "bool"] i_bool,
  fun K => (Fa.glo "Book").ok K,
  fun K => isB K nm [.own "Book"] i_Book,
  fun K => conVB K "StillBook" (toStr s_WAY) (.str s_still),
  fun K => conVB K "LookBook" (toStr s_WAY) (.str s_looks),
  fun K => conVB K "EpochBook" (toStr s_WAY) (.str s_epochs),
  fun K => conVB K "Book" (toStr s_WAY) (.str s_empty),
  fun K => spB K "StillBook" "__eq__" a_BookD_eqD,
  fun K => spB K "LookBook" "__eq__" a_BookD_eqD,
  fun K => spB K "EpochBook" "__eq__" a_BookD_eqD,
  fun K => nfB1 K nm "StillBook" [3, 4, 5],
  fun K => nfB1 K nm "LookBook" [3, 4, 5],
  fun K => nfB1 K nm "EpochBook" [3, 4, 5],
  fun K => (Fa.free "int").ok K,
  fun K => isB K nm [.ty "int"] i_int,
  fun K => (Fa.glo "is_whole").ok K,
  fun K => (Fa.glo "is_same").ok K,
  fun K => (Fa.glo "is_value").ok K,
  fun K => methB K "StillBook" (toStr s_first_wrong) a_Book_first_wrong,
  fun K => methB K "LookBook" (toStr s_first_wrong) a_Book_first_wrong,
  fun K => methB K "EpochBook" (toStr s_first_wrong) a_Book_first_wrong,
  fun K => methB K "Book" (toStr s_first_wrong) a_Book_first_wrong,
  fun K => excB K "NoValue",
  fun K => exiB K "NoValue" "word" a_NoValueD_initD,
  fun K => (Fa.glo "NoValue").ok K,
  fun K => (Fa.free "list").ok K,
  fun K => fldB K "StillBook" (toStr s_order),
  fun K => fldB K "LookBook" (toStr s_order),
  fun K => fldB K "EpochBook" (toStr s_order),
  fun K => fldB K "Book" (toStr s_order),
  fun K => supB K "EpochBook" a_BookD_initD ["EpochBook"],
  fun K => (Fa.free "super").ok K,
  fun K => mkB K "EpochBook" a_EpochBookD_initD,
  fun K => (Fa.glo "EpochBook").ok K,
  fun K => (Fa.glo "RoomsError").ok K,
  fun K => xiB K nm (.own "RoomsError") [(13, true), (14, true), (15, true)],
  fun K => xcB K nm [13, 14] (toStr s_word),
  fun K => exmL K nm "NoValue" [(13, false), (14, true), (15, false)],
  fun K => (Fa.glo "_law_epochs").ok K,
  fun K => supB K "LookBook" a_BookD_initD ["LookBook"],
  fun K => mkB K "LookBook" a_LookBookD_initD,
  fun K => (Fa.glo "LookBook").ok K,
  fun K => supB K "StillBook" a_BookD_initD ["StillBook"],
  fun K => mkB K "StillBook" a_StillBookD_initD,
  fun K => (Fa.glo "StillBook").ok K,
  fun K => (Fa.glo "_law_others").ok K,
  fun K => methB K "StillBook" (toStr s_switches) a_Book_switches,
  fun K => methB K "LookBook" (toStr s_switches) a_Book_switches,
  fun K => methB K "EpochBook" (toStr s_switches) a_Book_switches,
  fun K => methB K "Book" (toStr s_switches) a_Book_switches,
  fun K => spB K "StillBook" "__setitem__" a_BookD_setitemD,
  fun K => spB K "LookBook" "__setitem__" a_BookD_setitemD,
  fun K => spB K "EpochBook" "__setitem__" a_BookD_setitemD,
  fun K => spB K "Book" "__setitem__" a_BookD_setitemD,
  fun K => isB K nm [.own "EpochBook", .own "LookBook", .own "StillBook"] i_EpochBook_LookBook_StillBook,
  fun K => (Fa.glo "is_book").ok K,
  fun K => excB K "NoBook",
  fun K => exiB K "NoBook" "value" a_NoBookD_initD,
  fun K => (Fa.glo "NoBook").ok K,
  fun K => (Fa.glo "look_at_book").ok K,
  fun K => (Fa.glo "values_of").ok K,
  fun K => xcB K nm [15] (toStr s_value),
  fun K => (Fa.free "repr").ok K,
  fun K => exmL K nm "NoBook" [(13, false), (14, false), (15, true)],
  fun K => exmL K nm "NoSwitch" [(13, true), (14, false), (15, false)],
  fun K => (Fa.glo "_law_word").ok K,
  fun K => neB K (ga K "StillBook"),
  fun K => neB K (ga K "LookBook"),
  fun K => neB K (ga K "EpochBook"),
  fun K => (Fa.glo "law").ok K,
  noLstB]
def spec : MSpec := ⟨fnL, sfL, tsL, exL⟩
section
variable {w : World} {K : PySem.W.Frag} {mg : Str → Option Value} {base : Heap}
theorem bn__law_odd (E : Ev spec w K mg) : BOk K a__law_odd [] := FunD.bindsN (E.says.def_ 0 (d := gd__law_odd)) fun _ _ _ _ _ _ us hl => match us, hl with | [], _ => rfl
theorem sc__law_odd : FnScope [] [] (defScope st__law_odd) := ⟨rfl, rfl, rfl, by decide +kernel, rfl, by decide +kernel, by decide +kernel⟩
theorem ok__law_odd (E : Ev spec w K mg) : DOk P w K mg base nm 1 a__law_odd [] f__law_odd := by
  obtain ⟨hX, XI, Gn⟩ := E.hh
  have sc := sc__law_odd
  refine ⟨fn_M (N := []) (E.says.def_ 0 (d := gd__law_odd)) sc rfl (fun cdv A outer s H Ex hr tk hp => ?_), arity_runB, (E.says.def_ 0 (d := gd__law_odd)).kp⟩
  exact (ms_one (ms_ret (me_lst (ma_cons me_non (ma_cons (me_str t_x) (ma_cons (me_str t_empty) (ma_cons me_int (ma_cons me_int (ma_cons (me_lst (ma_cons me_bl ma_nil)) (ma_cons me_int ma_nil))))))))))
theorem bn_NoSwitchD_initD (E : Ev spec w K mg) : BOk K a_NoSwitchD_initD ["self", "word"] := FunS.bindsN (E.says.sup 0 (d := sd_NoSwitchD_initD)) fun _ _ _ _ _ _ us hl => match us, hl with | [_, _], _ => rfl
theorem sc_NoSwitchD_initD : NdefX.NScope ["self", "word", "__class__"] ["self", "word"] ["__class__"] (defScope st_NoSwitchD_initD) := NdefX.nscope_by (by decide +kernel)
theorem ix_NoSwitchD_initD (E : Ev spec w K mg) : FnOk P w K mg base (L2.CX P w) 1 (a_NoSwitchD_initD K) (fdOf K a_NoSwitchD_initD) ["self", "word"] (spI (ga K "NoSwitch") (toStr s_word)) := by
  rw [← t_word]
  refine exFn (k := 0) (m := "a word is no switch of a book") (E.says.sup 0 (d := sd_NoSwitchD_initD)) sc_NoSwitchD_initD (excB_ok (E.says.ex 12)) (exiB_ok (E.says.ex 13)).no (fun _ _ _ _ _ => (exiB_ok (E.says.ex 13)).supX) (fun A outer s H Ex => ?_)
  exact ex_body (supD_of (E.says.sup 0 (d := sd_NoSwitchD_initD)) rfl rfl (by rfl) rfl (by kernel_rfl) (by kernel_rfl) (exiB_ok (E.says.ex 13)).any) rfl (E.free 63) rfl rfl (.inr (.inr rfl)) rfl (by first | exact .inl rfl | exact .inr (.inl rfl)) rfl (by first | exact .inl rfl | exact .inr (.inl rfl)) rfl rfl rfl rfl rfl rfl (by decide) (by decide)
theorem bn_Book_look_at_word (E : Ev spec w K mg) : BOk K a_Book_look_at_word ["self", "word"] := FunD.bindsN (E.says.def_ 1 (d := gd_Book_look_at_word)) fun _ _ _ _ _ _ us hl => match us, hl with | [_, _], _ => rfl
theorem sc_Book_look_at_word : FnScope ["self", "word"] ["self", "word"] (defScope st_Book_look_at_word) := ⟨rfl, rfl, rfl, by decide +kernel, rfl, by decide +kernel, by decide +kernel⟩
theorem ok_Book_look_at_word (E : Ev spec w K mg) : DOk P w K mg base nm 4 a_Book_look_at_word ["self", "word"] f_Book_look_at_word := by
  obtain ⟨hX, XI, Gn⟩ := E.hh
  have sc := sc_Book_look_at_word
  refine ⟨fn_M (N := ["self", "word"]) (E.says.def_ 1 (d := gd_Book_look_at_word)) sc rfl (fun cdv A outer s H Ex hr tk hp => ?_), arity_runB, (E.says.def_ 1 (d := gd_Book_look_at_word)).kp⟩
  exact (ms_one (ms_if (PW.pt (mw_or (mt_not (mt_val (me_isi rfl (isOk_of (cs := [.ty "str"]) (E.says.ex 10)) rfl (E.free 11) (xv 1) (pe_ty rfl (E.free 9) boot_str) (ClsR.ok _ (.ty "str"))))) (mw_or1 (mt_cmpR (mo_notIn rfl (hu65 hr)) (xv 1) (me_con t_WORDS (conOk_cons XI Gn rfl (E.says.ex 4) (conOk_cons XI Gn rfl (E.says.ex 3) (conOk_cons XI Gn rfl (E.says.ex 2) (conOk_cons XI Gn rfl (E.says.ex 1) conOk_nil)))) (xv 0) rfl) rfl)))) (ms_one (ms_raise (c := 13) (fld := s_word) rfl tk rfl (excB_ok (E.says.ex 12)) (exiB_ok (E.says.ex 13)).ini (exiB_ok (E.says.ex 13)).ty (ix_NoSwitchD_initD E) (hr.mono (by decide)) (bn_NoSwitchD_initD E) rfl (E.glo 14) (xv 1))) ms_nil))
theorem bn_BookD_getitemD (E : Ev spec w K mg) : BOk K a_BookD_getitemD ["self", "word"] := FunD.bindsN (E.says.def_ 2 (d := gd_BookD_getitemD)) fun _ _ _ _ _ _ us hl => match us, hl with | [_, _], _ => rfl
theorem sc_BookD_getitemD : FnScope ["self", "word"] ["self", "word"] (defScope st_BookD_getitemD) := ⟨rfl, rfl, rfl, by decide +kernel, rfl, by decide +kernel, by decide +kernel⟩
local macro_rules | `(tactic| push_cast [$E:term, 0]) => `(tactic| exact fldOk_cons rfl (($E).says.ex 22) (fldOk_cons rfl (($E).says.ex 21) (fldOk_cons rfl (($E).says.ex 20) (fldOk_cons rfl (($E).says.ex 19) fldOk_nil))))
local macro_rules | `(tactic| push_cast [$E:term, $hr:term, $tk:term, 1]) => `(tactic| exact methOk_cons rfl (($E).says.ex 18) (xcm (ok_Book_look_at_word ($E)) (bn_Book_look_at_word ($E)) ($hr) ($tk)) (methOk_cons rfl (($E).says.ex 17) (xcm (ok_Book_look_at_word ($E)) (bn_Book_look_at_word ($E)) ($hr) ($tk)) (methOk_cons rfl (($E).says.ex 16) (xcm (ok_Book_look_at_word ($E)) (bn_Book_look_at_word ($E)) ($hr) ($tk)) (methOk_cons rfl (($E).says.ex 15) (xcm (ok_Book_look_at_word ($E)) (bn_Book_look_at_word ($E)) ($hr) ($tk)) methOk_nil))))
theorem ok_BookD_getitemD (E : Ev spec w K mg) : DOk P w K mg base nm 7 a_BookD_getitemD ["self", "word"] f_BookD_getitemD := by
  obtain ⟨hX, XI, Gn⟩ := E.hh
  have sc := sc_BookD_getitemD
  refine ⟨fn_M (N := ["self", "word"]) (E.says.def_ 2 (d := gd_BookD_getitemD)) sc rfl (fun cdv A outer s H Ex hr tk hp => ?_), arity_runB, (E.says.def_ 2 (d := gd_BookD_getitemD)).kp⟩
  exact (ms_cons (ms_expr (me_meth t_look_at_word (by push_cast [E, hr, tk, 1]) (xv 0) (ma_cons (xv 1) ma_nil))) (ms_cons (ms_ret (me_ix rfl (hu1 hr) (me_fld t_own (by push_cast [E, 0]) (xv 0) rfl) (xv 1) (by intro _ _; rfl))) ms_nil))
theorem bn_values_at (E : Ev spec w K mg) : BOk K a_values_at ["word", "own"] := FunD.bindsN (E.says.def_ 3 (d := gd_values_at)) fun _ _ _ _ _ _ us hl => match us, hl with | [_, _], _ => rfl
theorem sc_values_at : FnScope ["word", "own"] ["word", "own"] (defScope st_values_at) := ⟨rfl, rfl, rfl, by decide +kernel, rfl, by decide +kernel, by decide +kernel⟩
theorem ok_values_at (E : Ev spec w K mg) : DOk P w K mg base nm 10 a_values_at ["word", "own"] f_values_at := by
  obtain ⟨hX, XI, Gn⟩ := E.hh
  have sc := sc_values_at
  refine ⟨fn_M (N := ["word", "own"]) (E.says.def_ 3 (d := gd_values_at)) sc rfl (fun cdv A outer s H Ex hr tk hp => ?_), arity_runB, (E.says.def_ 3 (d := gd_values_at)).kp⟩
  exact (ms_cons (ms_if (mt_cmpR (mo_eq rfl (hu64 hr)) (xv 0) (me_str t_epochs) rfl) (ms_one (ms_ret (me_tupRg2 rfl rfl (E.free 7) rfl (E.free 8) (xval E 5 rfl) (me_bin (mo_add rfl) (xval E 6 rfl) me_int)))) ms_nil) (ms_cons (ms_if (mt_cmpR (mo_eq rfl (hu64 hr)) (xv 0) (me_str t_behind) rfl) (ms_one (ms_ret (me_tupRg2 rfl rfl (E.free 7) rfl (E.free 8) me_int (me_bin (mo_add rfl) (me_ixU rfl (hu1 hr) (spOk_cons rfl (E.says.ex 26) (xca1 (ok_BookD_getitemD E) (bn_BookD_getitemD E) hr tk) (spOk_cons rfl (E.says.ex 25) (xca1 (ok_BookD_getitemD E) (bn_BookD_getitemD E) hr tk) (spOk_cons rfl (E.says.ex 24) (xca1 (ok_BookD_getitemD E) (bn_BookD_getitemD E) hr tk) (spOk_cons rfl (E.says.ex 23) (xca1 (ok_BookD_getitemD E) (bn_BookD_getitemD E) hr tk) spOk_nil)))) (xv 1) (me_str t_epochs) (by intro _ _; rfl)) me_int)))) ms_nil) (ms_cons (ms_ret (me_if (mt_cmpR (mo_eq rfl (hu64 hr)) (xv 0) (me_str t_counts) rfl) (me_tupRg2 rfl rfl (E.free 7) rfl (E.free 8) me_int (me_bin (mo_add rfl) (xval E 27 rfl) me_int)) (me_kd (d := ga K "ORDERS") (kdOk_of XI Gn (E.says.tab 0 (t := tab_ORDERS)) (E.says.ex 28)) rfl (E.glo 29) (xv 0) (by intro _ _; rfl)))) ms_nil)))
theorem bn_BookD_eqD (E : Ev spec w K mg) : BOk K a_BookD_eqD ["self", "other"] := FunD.bindsN (E.says.def_ 4 (d := gd_BookD_eqD)) fun _ _ _ _ _ _ us hl => match us, hl with | [_, _], _ => rfl
theorem sc_BookD_eqD : FnScope ["self", "other"] ["self", "other"] (defScope st_BookD_eqD) := ⟨rfl, rfl, rfl, by decide +kernel, rfl, by decide +kernel, by decide +kernel⟩
theorem ok_BookD_eqD (E : Ev spec w K mg) : DOk P w K mg base nm 1 a_BookD_eqD ["self", "other"] f_BookD_eqD := by
  obtain ⟨hX, XI, Gn⟩ := E.hh
  have sc := sc_BookD_eqD
  refine ⟨fn_M (N := ["self", "other"]) (E.says.def_ 4 (d := gd_BookD_eqD)) sc rfl (fun cdv A outer s H Ex hr tk hp => ?_), arity_runB, (E.says.def_ 4 (d := gd_BookD_eqD)).kp⟩
  exact (ms_one (ms_ret (me_and (me_isi rfl (isOk_of (cs := [.own "Book"]) (E.says.ex 34)) rfl (E.free 11) (xv 1) (pe_cl rfl (E.glo 33)) (ClsR.ok _ (.own "Book"))) (me_and (me_cmp (mo_eqX rfl (hu64 hr)) (me_con t_WAY (conOk_cons XI Gn rfl (E.says.ex 38) (conOk_cons XI Gn rfl (E.says.ex 37) (conOk_cons XI Gn rfl (E.says.ex 36) (conOk_cons XI Gn rfl (E.says.ex 35) conOk_nil)))) (xv 0) rfl) (me_con t_WAY (conOk_cons XI Gn rfl (E.says.ex 38) (conOk_cons XI Gn rfl (E.says.ex 37) (conOk_cons XI Gn rfl (E.says.ex 36) (conOk_cons XI Gn rfl (E.says.ex 35) conOk_nil)))) (xv 1) rfl) rfl) (me_one (me_cmp (mo_eqX rfl (hu64 hr)) (me_fld t_own (by push_cast [E, 0]) (xv 0) rfl) (me_fld t_own (by push_cast [E, 0]) (xv 1) rfl) rfl))))))
theorem bn_is_whole (E : Ev spec w K mg) : BOk K a_is_whole ["value"] := FunD.bindsN (E.says.def_ 5 (d := gd_is_whole)) fun _ _ _ _ _ _ us hl => match us, hl with | [_], _ => rfl
theorem sc_is_whole : FnScope ["value"] ["value"] (defScope st_is_whole) := ⟨rfl, rfl, rfl, by decide +kernel, rfl, by decide +kernel, by decide +kernel⟩
theorem ok_is_whole (E : Ev spec w K mg) : DOk P w K mg base nm 1 a_is_whole ["value"] f_is_whole := by
  obtain ⟨hX, XI, Gn⟩ := E.hh
  have sc := sc_is_whole
  refine ⟨fn_M (N := ["value"]) (E.says.def_ 5 (d := gd_is_whole)) sc rfl (fun cdv A outer s H Ex hr tk hp => ?_), arity_runB, (E.says.def_ 5 (d := gd_is_whole)).kp⟩
  exact (ms_one (ms_ret (me_and (me_isi rfl (isOk_of (cs := [.ty "int"]) (E.says.ex 46)) rfl (E.free 11) (xv 0) (pe_ty rfl (E.free 45) boot_int) (ClsR.ok _ (.ty "int"))) (me_one (me_not (me_isi rfl (isOk_of (cs := [.ty "bool"]) (E.says.ex 32)) rfl (E.free 11) (xv 0) (pe_ty rfl (E.free 31) boot_bool) (ClsR.ok _ (.ty "bool"))))))))
theorem bn_is_same (E : Ev spec w K mg) : BOk K a_is_same ["value", "one"] := FunD.bindsN (E.says.def_ 6 (d := gd_is_same)) fun _ _ _ _ _ _ us hl => match us, hl with | [_, _], _ => rfl
theorem sc_is_same : FnScope ["value", "one"] ["value", "one"] (defScope st_is_same) := ⟨rfl, rfl, rfl, by decide +kernel, rfl, by decide +kernel, by decide +kernel⟩
local macro_rules | `(tactic| push_cast [$E:term, $hr:term, $tk:term, 2]) => `(tactic| exact spOk_cons rfl (($E).says.ex 41) (xca0 (ok_BookD_eqD ($E)) (bn_BookD_eqD ($E)) ($hr) ($tk)) (spOk_cons rfl (($E).says.ex 40) (xca0 (ok_BookD_eqD ($E)) (bn_BookD_eqD ($E)) ($hr) ($tk)) (spOk_cons rfl (($E).says.ex 39) (xca0 (ok_BookD_eqD ($E)) (bn_BookD_eqD ($E)) ($hr) ($tk)) spOk_nil)))
theorem ok_is_same (E : Ev spec w K mg) : DOk P w K mg base nm 4 a_is_same ["value", "one"] f_is_same := by
  obtain ⟨hX, XI, Gn⟩ := E.hh
  have sc := sc_is_same
  refine ⟨fn_M (N := ["value", "one"]) (E.says.def_ 6 (d := gd_is_same)) sc rfl (fun cdv A outer s H Ex hr tk hp => ?_), arity_runB, (E.says.def_ 6 (d := gd_is_same)).kp⟩
  exact (ms_cons (ms_if (mt_val (me_isi rfl (isOk_of (cs := [.ty "bool"]) (E.says.ex 32)) rfl (E.free 11) (xv 1) (pe_ty rfl (E.free 31) boot_bool) (ClsR.ok _ (.ty "bool")))) (ms_one (ms_ret (me_and (me_isi rfl (isOk_of (cs := [.ty "bool"]) (E.says.ex 32)) rfl (E.free 11) (xv 0) (pe_ty rfl (E.free 31) boot_bool) (ClsR.ok _ (.ty "bool"))) (me_one (me_cmpU (nm := "__eq__") (fun _ _ => rfl) rfl rfl (Nat.lt_of_succ_lt (hu1 hr)) (by push_cast [E, hr, tk, 2]) (nfOk_cons rfl (E.says.ex 44) (nfOk_cons rfl (E.says.ex 43) (nfOk_cons rfl (E.says.ex 42) nfOk_nil))) (mo_eqX rfl (hu64 hr)) (xv 0) (xv 1) rfl))))) ms_nil) (ms_cons (ms_if (mt_val (me_isi rfl (isOk_of (cs := [.ty "str"]) (E.says.ex 10)) rfl (E.free 11) (xv 1) (pe_ty rfl (E.free 9) boot_str) (ClsR.ok _ (.ty "str")))) (ms_one (ms_ret (me_and (me_isi rfl (isOk_of (cs := [.ty "str"]) (E.says.ex 10)) rfl (E.free 11) (xv 0) (pe_ty rfl (E.free 9) boot_str) (ClsR.ok _ (.ty "str"))) (me_one (me_cmpU (nm := "__eq__") (fun _ _ => rfl) rfl rfl (Nat.lt_of_succ_lt (hu1 hr)) (by push_cast [E, hr, tk, 2]) (nfOk_cons rfl (E.says.ex 44) (nfOk_cons rfl (E.says.ex 43) (nfOk_cons rfl (E.says.ex 42) nfOk_nil))) (mo_eqX rfl (hu64 hr)) (xv 0) (xv 1) rfl))))) ms_nil) (ms_cons (ms_ret (me_and (xcall (ok_is_whole E) (bn_is_whole E) hr tk (E.glo 47) (ma_cons (xv 0) ma_nil)) (me_one (me_cmpU (nm := "__eq__") (fun _ _ => rfl) rfl rfl (Nat.lt_of_succ_lt (hu1 hr)) (by push_cast [E, hr, tk, 2]) (nfOk_cons rfl (E.says.ex 44) (nfOk_cons rfl (E.says.ex 43) (nfOk_cons rfl (E.says.ex 42) nfOk_nil))) (mo_eqX rfl (hu64 hr)) (xv 0) (xv 1) rfl)))) ms_nil)))
theorem bn_is_value (E : Ev spec w K mg) : BOk K a_is_value ["word", "own"] := FunD.bindsN (E.says.def_ 7 (d := gd_is_value)) fun _ _ _ _ _ _ us hl => match us, hl with | [_, _], _ => rfl
theorem sc_is_value : FnScope ["word", "own", "one"] ["word", "own"] (defScope st_is_value) := ⟨rfl, rfl, rfl, by decide +kernel, rfl, by decide +kernel, by decide +kernel⟩
theorem ok_is_value (E : Ev spec w K mg) : DOk P w K mg base nm 13 a_is_value ["word", "own"] f_is_value := by
  obtain ⟨hX, XI, Gn⟩ := E.hh
  have sc := sc_is_value
  refine ⟨fn_M (N := ["word", "own", "one"]) (E.says.def_ 7 (d := gd_is_value)) sc rfl (fun cdv A outer s H Ex hr tk hp => ?_), arity_runB, (E.says.def_ 7 (d := gd_is_value)).kp⟩
  exact (ms_one (ms_ret (me_cmp (mo_ne rfl (hu64 hr)) (me_lc1 (t := .one 2) (own := [(("one" : Str), 2)]) rfl rfl sc.nd (mi_seq rfl (xcall (ok_values_at E) (bn_values_at E) hr tk (E.glo 30) (ma_cons (xv 0) (ma_cons (xv 1) ma_nil)))) (blkOk_by (by kernel_rfl)) (by decide) (fun _ _ _ _ _ => (pg_name sc.nd rfl (by first | exact .inl rfl | exact .inr rfl))) (fun _ _ _ _ _ => (mt_val (xcall (ok_is_same E) (bn_is_same E) hr takes0 (E.glo 48) (ma_cons (me_ixU rfl (hu1 hr) (spOk_cons rfl (E.says.ex 26) (xca1 (ok_BookD_getitemD E) (bn_BookD_getitemD E) hr takes0) (spOk_cons rfl (E.says.ex 25) (xca1 (ok_BookD_getitemD E) (bn_BookD_getitemD E) hr takes0) (spOk_cons rfl (E.says.ex 24) (xca1 (ok_BookD_getitemD E) (bn_BookD_getitemD E) hr takes0) (spOk_cons rfl (E.says.ex 23) (xca1 (ok_BookD_getitemD E) (bn_BookD_getitemD E) hr takes0) spOk_nil)))) (xv 1) (xv 0) (by intro _ _; rfl)) (ma_cons (xv 2) ma_nil))))) (fun _ _ _ _ _ => (xv 2))) (me_lst ma_nil) rfl)))
theorem bn_Book_first_wrong (E : Ev spec w K mg) : BOk K a_Book_first_wrong ["self", "own"] := FunD.bindsN (E.says.def_ 8 (d := gd_Book_first_wrong)) fun _ _ _ _ _ _ us hl => match us, hl with | [_, _], _ => rfl
theorem sc_Book_first_wrong : FnScope ["self", "own", "word"] ["self", "own"] (defScope st_Book_first_wrong) := ⟨rfl, rfl, rfl, by decide +kernel, rfl, by decide +kernel, by decide +kernel⟩
theorem ok_Book_first_wrong (E : Ev spec w K mg) : DOk P w K mg base nm 16 a_Book_first_wrong ["self", "own"] f_Book_first_wrong := by
  obtain ⟨hX, XI, Gn⟩ := E.hh
  have sc := sc_Book_first_wrong
  refine ⟨fn_M (N := ["self", "own", "word"]) (E.says.def_ 8 (d := gd_Book_first_wrong)) sc rfl (fun cdv A outer s H Ex hr tk hp => ?_), arity_runB, (E.says.def_ 8 (d := gd_Book_first_wrong)).kp⟩
  exact (ms_cons (ms_for hp rfl (mi_seq rfl (me_con t_WORDS (conOk_cons XI Gn rfl (E.says.ex 4) (conOk_cons XI Gn rfl (E.says.ex 3) (conOk_cons XI Gn rfl (E.says.ex 2) (conOk_cons XI Gn rfl (E.says.ex 1) conOk_nil)))) (xv 0) rfl)) (mg_name sc.nd rfl (by first | exact .inl rfl | exact .inr rfl)) (onlyNx_name _) (ms_one (ms_if (mt_not (mt_val (xcall (ok_is_value E) (bn_is_value E) hr tk (E.glo 49) (ma_cons (xv 2) (ma_cons (xv 1) ma_nil))))) (ms_one (ms_ret (xv 2))) ms_nil))) (ms_cons (ms_ret me_non) ms_nil))
theorem bn_NoValueD_initD (E : Ev spec w K mg) : BOk K a_NoValueD_initD ["self", "word"] := FunS.bindsN (E.says.sup 1 (d := sd_NoValueD_initD)) fun _ _ _ _ _ _ us hl => match us, hl with | [_, _], _ => rfl
theorem sc_NoValueD_initD : NdefX.NScope ["self", "word", "__class__"] ["self", "word"] ["__class__"] (defScope st_NoValueD_initD) := NdefX.nscope_by (by decide +kernel)
theorem ix_NoValueD_initD (E : Ev spec w K mg) : FnOk P w K mg base (L2.CX P w) 1 (a_NoValueD_initD K) (fdOf K a_NoValueD_initD) ["self", "word"] (spI (ga K "NoValue") (toStr s_word)) := by
  rw [← t_word]
  refine exFn (k := 0) (m := "a value is none of a switch") (E.says.sup 1 (d := sd_NoValueD_initD)) sc_NoValueD_initD (excB_ok (E.says.ex 54)) (exiB_ok (E.says.ex 55)).no (fun _ _ _ _ _ => (exiB_ok (E.says.ex 55)).supX) (fun A outer s H Ex => ?_)
  exact ex_body (supD_of (E.says.sup 1 (d := sd_NoValueD_initD)) rfl rfl (by rfl) rfl (by kernel_rfl) (by kernel_rfl) (exiB_ok (E.says.ex 55)).any) rfl (E.free 63) rfl rfl (.inr (.inr rfl)) rfl (by first | exact .inl rfl | exact .inr (.inl rfl)) rfl (by first | exact .inl rfl | exact .inr (.inl rfl)) rfl rfl rfl rfl rfl rfl (by decide) (by decide)
theorem bn_BookD_initD (E : Ev spec w K mg) : BOk K a_BookD_initD ["self", "own"] := FunD.bindsN (E.says.def_ 9 (d := gd_BookD_initD)) fun _ _ _ _ _ _ us hl => match us, hl with | [_, _], _ => rfl
theorem sc_BookD_initD : FnScope ["self", "own", "wrong"] ["self", "own"] (defScope st_BookD_initD) := ⟨rfl, rfl, rfl, by decide +kernel, rfl, by decide +kernel, by decide +kernel⟩
theorem ok_BookD_initD (E : Ev spec w K mg) : DOk P w K mg base nm 19 a_BookD_initD ["self", "own"] f_BookD_initD := by
  obtain ⟨hX, XI, Gn⟩ := E.hh
  have sc := sc_BookD_initD
  refine ⟨fn_M (N := ["self", "own", "wrong"]) (E.says.def_ 9 (d := gd_BookD_initD)) sc rfl (fun cdv A outer s H Ex hr tk hp => ?_), arity_runB, (E.says.def_ 9 (d := gd_BookD_initD)).kp⟩
  exact (ms_cons (ms_set (i := 2) sc.nd rfl (by first | exact .inl rfl | exact .inr rfl) (me_meth t_first_wrong (methOk_cons rfl (E.says.ex 53) (xcm (ok_Book_first_wrong E) (bn_Book_first_wrong E) hr tk) (methOk_cons rfl (E.says.ex 52) (xcm (ok_Book_first_wrong E) (bn_Book_first_wrong E) hr tk) (methOk_cons rfl (E.says.ex 51) (xcm (ok_Book_first_wrong E) (bn_Book_first_wrong E) hr tk) (methOk_cons rfl (E.says.ex 50) (xcm (ok_Book_first_wrong E) (bn_Book_first_wrong E) hr tk) methOk_nil)))) (xv 0) (ma_cons (xv 1) ma_nil))) (ms_cons (ms_if (mt_cmpR mo_notN (xv 2) me_non rfl) (ms_one (ms_raise (c := 14) (fld := s_word) rfl tk rfl (excB_ok (E.says.ex 54)) (exiB_ok (E.says.ex 55)).ini (exiB_ok (E.says.ex 55)).ty (ix_NoValueD_initD E) (hr.mono (by decide)) (bn_NoValueD_initD E) rfl (E.glo 56) (xv 2))) ms_nil) (ms_cons (ms_fld t_own (by push_cast [E, 0]) (xv 0) (xv 1) rfl) (ms_cons (ms_fld t_order (fldOk_cons rfl (E.says.ex 61) (fldOk_cons rfl (E.says.ex 60) (fldOk_cons rfl (E.says.ex 59) (fldOk_cons rfl (E.says.ex 58) fldOk_nil)))) (xv 0) (me_cty (mc_list rfl rfl) rfl (E.free 57) boot_list (ma_cons (me_con t_WORDS (conOk_cons XI Gn rfl (E.says.ex 4) (conOk_cons XI Gn rfl (E.says.ex 3) (conOk_cons XI Gn rfl (E.says.ex 2) (conOk_cons XI Gn rfl (E.says.ex 1) conOk_nil)))) (xv 0) rfl) ma_nil)) rfl) ms_nil))))
theorem bd_EpochBookD_initD_3_ (E : Ev spec w K mg) : Bnd (GxOf K mg nm) K (fdOf K a_EpochBookD_initD) ["self", "epochs", "behind", "check", "fetch", "mark", "test", "step", "told"] 3 [] ar_bd_EpochBookD_initD_3_ := by
  obtain ⟨mv, kb⟩ := FunS.kbinds0 (ps := ["self", "epochs", "behind", "check", "fetch", "mark", "test", "step", "told"]) (E.says.sup 2 (d := sd_EpochBookD_initD)) 3 [] [(("check" : Str), (.bl true : V)), (("fetch" : Str), (.str "behind" : V)), (("mark" : Str), (.str "fresh" : V)), (("test" : Str), (.str "equal" : V)), (("step" : Str), (.str "still" : V)), (("told" : Str), (.bl true : V))] (arr3 se_bd_EpochBookD_initD_3_) (fun h => nomatch h) (show ∀ q ∈ ([(("check" : Str), (.bl true : V)), (("fetch" : Str), (.str "behind" : V)), (("mark" : Str), (.str "fresh" : V)), (("test" : Str), (.str "equal" : V)), (("step" : Str), (.str "still" : V)), (("told" : Str), (.bl true : V))] : List (Str × V)), q ∈ ([(("check" : Str), (.bl true : V)), (("fetch" : Str), (.str "behind" : V)), (("mark" : Str), (.str "fresh" : V)), (("test" : Str), (.str "equal" : V)), (("step" : Str), (.str "still" : V)), (("told" : Str), (.bl true : V))] : List (Str × V)) from by decide +kernel)
    (fun r1 r2 r3 => arr3_vals r1 r2 r3 _)
    (fun D doc pm an cdv ct us mv ws l1 l2 l3 => match us, l1, mv, l2, ws, l3 with
      | [u0, u1, u2], _, [m0, m1, m2, m3, m4, m5], _, [], _ => by refine ⟨_, _, _, _, _, _, rfl, rfl, ?_⟩; refine ⟨_, _, _, _, _, _, rfl, rfl, ?_⟩; refine ⟨_, _, _, _, _, _, rfl, rfl, ?_⟩; refine ⟨_, _, _, _, _, _, rfl, rfl, ?_⟩; refine ⟨_, _, _, _, _, _, rfl, rfl, ?_⟩; refine ⟨_, _, _, _, _, _, rfl, rfl, ?_⟩; exact rfl)
  exact ⟨_, _, kb, fun ρ H args zargs vs zs r1 r2 l1 l2 => arr3_rvs r1 (.cons (.bl _) (.cons (.str t_behind) (.cons (.str t_fresh) (.cons (.str t_equal) (.cons (.str t_still) (.cons (.bl _) .nil)))))) r2 _⟩
theorem bd_EpochBookD_initD_3_check (E : Ev spec w K mg) : Bnd (GxOf K mg nm) K (fdOf K a_EpochBookD_initD) ["self", "epochs", "behind", "check", "fetch", "mark", "test", "step", "told"] 3 ["check"] ar_bd_EpochBookD_initD_3_check := by
  obtain ⟨mv, kb⟩ := FunS.kbinds0 (ps := ["self", "epochs", "behind", "check", "fetch", "mark", "test", "step", "told"]) (E.says.sup 2 (d := sd_EpochBookD_initD)) 3 ["check"] [(("fetch" : Str), (.str "behind" : V)), (("mark" : Str), (.str "fresh" : V)), (("test" : Str), (.str "equal" : V)), (("step" : Str), (.str "still" : V)), (("told" : Str), (.bl true : V))] (arr3 se_bd_EpochBookD_initD_3_check) (fun h => nomatch h) (show ∀ q ∈ ([(("fetch" : Str), (.str "behind" : V)), (("mark" : Str), (.str "fresh" : V)), (("test" : Str), (.str "equal" : V)), (("step" : Str), (.str "still" : V)), (("told" : Str), (.bl true : V))] : List (Str × V)), q ∈ ([(("check" : Str), (.bl true : V)), (("fetch" : Str), (.str "behind" : V)), (("mark" : Str), (.str "fresh" : V)), (("test" : Str), (.str "equal" : V)), (("step" : Str), (.str "still" : V)), (("told" : Str), (.bl true : V))] : List (Str × V)) from by decide +kernel)
    (fun r1 r2 r3 => arr3_vals r1 r2 r3 _)
    (fun D doc pm an cdv ct us mv ws l1 l2 l3 => match us, l1, mv, l2, ws, l3 with
      | [u0, u1, u2], _, [m0, m1, m2, m3, m4], _, [w0], _ => by refine ⟨_, _, _, _, _, _, rfl, rfl, ?_⟩; refine ⟨_, _, _, _, _, _, rfl, rfl, ?_⟩; refine ⟨_, _, _, _, _, _, rfl, rfl, ?_⟩; refine ⟨_, _, _, _, _, _, rfl, rfl, ?_⟩; refine ⟨_, _, _, _, _, _, rfl, rfl, ?_⟩; exact rfl)
  exact ⟨_, _, kb, fun ρ H args zargs vs zs r1 r2 l1 l2 => arr3_rvs r1 (.cons (.str t_behind) (.cons (.str t_fresh) (.cons (.str t_equal) (.cons (.str t_still) (.cons (.bl _) .nil))))) r2 _⟩
theorem bd_EpochBookD_initD_3_check_mark (E : Ev spec w K mg) : Bnd (GxOf K mg nm) K (fdOf K a_EpochBookD_initD) ["self", "epochs", "behind", "check", "fetch", "mark", "test", "step", "told"] 3 ["check", "mark"] ar_bd_EpochBookD_initD_3_check_mark := by
  obtain ⟨mv, kb⟩ := FunS.kbinds0 (ps := ["self", "epochs", "behind", "check", "fetch", "mark", "test", "step", "told"]) (E.says.sup 2 (d := sd_EpochBookD_initD)) 3 ["check", "mark"] [(("fetch" : Str), (.str "behind" : V)), (("test" : Str), (.str "equal" : V)), (("step" : Str), (.str "still" : V)), (("told" : Str), (.bl true : V))] (arr3 se_bd_EpochBookD_initD_3_check_mark) (fun h => nomatch h) (show ∀ q ∈ ([(("fetch" : Str), (.str "behind" : V)), (("test" : Str), (.str "equal" : V)), (("step" : Str), (.str "still" : V)), (("told" : Str), (.bl true : V))] : List (Str × V)), q ∈ ([(("check" : Str), (.bl true : V)), (("fetch" : Str), (.str "behind" : V)), (("mark" : Str), (.str "fresh" : V)), (("test" : Str), (.str "equal" : V)), (("step" : Str), (.str "still" : V)), (("told" : Str), (.bl true : V))] : List (Str × V)) from by decide +kernel)
    (fun r1 r2 r3 => arr3_vals r1 r2 r3 _)
    (fun D doc pm an cdv ct us mv ws l1 l2 l3 => match us, l1, mv, l2, ws, l3 with
      | [u0, u1, u2], _, [m0, m1, m2, m3], _, [w0, w1], _ => by refine ⟨_, _, _, _, _, _, rfl, rfl, ?_⟩; refine ⟨_, _, _, _, _, _, rfl, rfl, ?_⟩; refine ⟨_, _, _, _, _, _, rfl, rfl, ?_⟩; refine ⟨_, _, _, _, _, _, rfl, rfl, ?_⟩; exact rfl)
  exact ⟨_, _, kb, fun ρ H args zargs vs zs r1 r2 l1 l2 => arr3_rvs r1 (.cons (.str t_behind) (.cons (.str t_equal) (.cons (.str t_still) (.cons (.bl _) .nil)))) r2 _⟩
theorem bd_EpochBookD_initD_3_fetch_told (E : Ev spec w K mg) : Bnd (GxOf K mg nm) K (fdOf K a_EpochBookD_initD) ["self", "epochs", "behind", "check", "fetch", "mark", "test", "step", "told"] 3 ["fetch", "told"] ar_bd_EpochBookD_initD_3_fetch_told := by
  obtain ⟨mv, kb⟩ := FunS.kbinds0 (ps := ["self", "epochs", "behind", "check", "fetch", "mark", "test", "step", "told"]) (E.says.sup 2 (d := sd_EpochBookD_initD)) 3 ["fetch", "told"] [(("check" : Str), (.bl true : V)), (("mark" : Str), (.str "fresh" : V)), (("test" : Str), (.str "equal" : V)), (("step" : Str), (.str "still" : V))] (arr3 se_bd_EpochBookD_initD_3_fetch_told) (fun h => nomatch h) (show ∀ q ∈ ([(("check" : Str), (.bl true : V)), (("mark" : Str), (.str "fresh" : V)), (("test" : Str), (.str "equal" : V)), (("step" : Str), (.str "still" : V))] : List (Str × V)), q ∈ ([(("check" : Str), (.bl true : V)), (("fetch" : Str), (.str "behind" : V)), (("mark" : Str), (.str "fresh" : V)), (("test" : Str), (.str "equal" : V)), (("step" : Str), (.str "still" : V)), (("told" : Str), (.bl true : V))] : List (Str × V)) from by decide +kernel)
    (fun r1 r2 r3 => arr3_vals r1 r2 r3 _)
    (fun D doc pm an cdv ct us mv ws l1 l2 l3 => match us, l1, mv, l2, ws, l3 with
      | [u0, u1, u2], _, [m0, m1, m2, m3], _, [w0, w1], _ => by refine ⟨_, _, _, _, _, _, rfl, rfl, ?_⟩; refine ⟨_, _, _, _, _, _, rfl, rfl, ?_⟩; refine ⟨_, _, _, _, _, _, rfl, rfl, ?_⟩; refine ⟨_, _, _, _, _, _, rfl, rfl, ?_⟩; exact rfl)
  exact ⟨_, _, kb, fun ρ H args zargs vs zs r1 r2 l1 l2 => arr3_rvs r1 (.cons (.bl _) (.cons (.str t_fresh) (.cons (.str t_equal) (.cons (.str t_still) .nil)))) r2 _⟩
theorem bd_EpochBookD_initD_3_test_step (E : Ev spec w K mg) : Bnd (GxOf K mg nm) K (fdOf K a_EpochBookD_initD) ["self", "epochs", "behind", "check", "fetch", "mark", "test", "step", "told"] 3 ["test", "step"] ar_bd_EpochBookD_initD_3_test_step := by
  obtain ⟨mv, kb⟩ := FunS.kbinds0 (ps := ["self", "epochs", "behind", "check", "fetch", "mark", "test", "step", "told"]) (E.says.sup 2 (d := sd_EpochBookD_initD)) 3 ["test", "step"] [(("check" : Str), (.bl true : V)), (("fetch" : Str), (.str "behind" : V)), (("mark" : Str), (.str "fresh" : V)), (("told" : Str), (.bl true : V))] (arr3 se_bd_EpochBookD_initD_3_test_step) (fun h => nomatch h) (show ∀ q ∈ ([(("check" : Str), (.bl true : V)), (("fetch" : Str), (.str "behind" : V)), (("mark" : Str), (.str "fresh" : V)), (("told" : Str), (.bl true : V))] : List (Str × V)), q ∈ ([(("check" : Str), (.bl true : V)), (("fetch" : Str), (.str "behind" : V)), (("mark" : Str), (.str "fresh" : V)), (("test" : Str), (.str "equal" : V)), (("step" : Str), (.str "still" : V)), (("told" : Str), (.bl true : V))] : List (Str × V)) from by decide +kernel)
    (fun r1 r2 r3 => arr3_vals r1 r2 r3 _)
    (fun D doc pm an cdv ct us mv ws l1 l2 l3 => match us, l1, mv, l2, ws, l3 with
      | [u0, u1, u2], _, [m0, m1, m2, m3], _, [w0, w1], _ => by refine ⟨_, _, _, _, _, _, rfl, rfl, ?_⟩; refine ⟨_, _, _, _, _, _, rfl, rfl, ?_⟩; refine ⟨_, _, _, _, _, _, rfl, rfl, ?_⟩; refine ⟨_, _, _, _, _, _, rfl, rfl, ?_⟩; exact rfl)
  exact ⟨_, _, kb, fun ρ H args zargs vs zs r1 r2 l1 l2 => arr3_rvs r1 (.cons (.bl _) (.cons (.str t_behind) (.cons (.str t_fresh) (.cons (.bl _) .nil)))) r2 _⟩
theorem bd_EpochBookD_initD_3_step_told (E : Ev spec w K mg) : Bnd (GxOf K mg nm) K (fdOf K a_EpochBookD_initD) ["self", "epochs", "behind", "check", "fetch", "mark", "test", "step", "told"] 3 ["step", "told"] ar_bd_EpochBookD_initD_3_step_told := by
  obtain ⟨mv, kb⟩ := FunS.kbinds0 (ps := ["self", "epochs", "behind", "check", "fetch", "mark", "test", "step", "told"]) (E.says.sup 2 (d := sd_EpochBookD_initD)) 3 ["step", "told"] [(("check" : Str), (.bl true : V)), (("fetch" : Str), (.str "behind" : V)), (("mark" : Str), (.str "fresh" : V)), (("test" : Str), (.str "equal" : V))] (arr3 se_bd_EpochBookD_initD_3_step_told) (fun h => nomatch h) (show ∀ q ∈ ([(("check" : Str), (.bl true : V)), (("fetch" : Str), (.str "behind" : V)), (("mark" : Str), (.str "fresh" : V)), (("test" : Str), (.str "equal" : V))] : List (Str × V)), q ∈ ([(("check" : Str), (.bl true : V)), (("fetch" : Str), (.str "behind" : V)), (("mark" : Str), (.str "fresh" : V)), (("test" : Str), (.str "equal" : V)), (("step" : Str), (.str "still" : V)), (("told" : Str), (.bl true : V))] : List (Str × V)) from by decide +kernel)
    (fun r1 r2 r3 => arr3_vals r1 r2 r3 _)
    (fun D doc pm an cdv ct us mv ws l1 l2 l3 => match us, l1, mv, l2, ws, l3 with
      | [u0, u1, u2], _, [m0, m1, m2, m3], _, [w0, w1], _ => by refine ⟨_, _, _, _, _, _, rfl, rfl, ?_⟩; refine ⟨_, _, _, _, _, _, rfl, rfl, ?_⟩; refine ⟨_, _, _, _, _, _, rfl, rfl, ?_⟩; refine ⟨_, _, _, _, _, _, rfl, rfl, ?_⟩; exact rfl)
  exact ⟨_, _, kb, fun ρ H args zargs vs zs r1 r2 l1 l2 => arr3_rvs r1 (.cons (.bl _) (.cons (.str t_behind) (.cons (.str t_fresh) (.cons (.str t_equal) .nil)))) r2 _⟩
theorem sc_EpochBookD_initD : NdefX.NScope ["self", "epochs", "behind", "check", "fetch", "mark", "test", "step", "told", "__class__"] ["self", "epochs", "behind", "check", "fetch", "mark", "test", "step", "told"] ["__class__"] (defScope st_EpochBookD_initD) := NdefX.nscope_by (by decide +kernel)
theorem ok_EpochBookD_initD (E : Ev spec w K mg) : DOk P w K mg base nm 22 a_EpochBookD_initD ["self", "epochs", "behind", "check", "fetch", "mark", "test", "step", "told"] f_EpochBookD_initD := by
  obtain ⟨hX, XI, Gn⟩ := E.hh
  have sc := sc_EpochBookD_initD
  refine ⟨fnS_M (N := ["self", "epochs", "behind", "check", "fetch", "mark", "test", "step", "told", "__class__"]) (E.says.sup 2 (d := sd_EpochBookD_initD)) sc rfl (by decide) (fun A outer s H Ex hr tk hp => ?_), arity_runB, (E.says.sup 2 (d := sd_EpochBookD_initD)).kp⟩
  exact (mst_cons (mst_super (j := 9) (i := 0) (supOk_of (cs := [3]) (l := ["EpochBook"]) (ar := _) E (E.says.sup 2 (d := sd_EpochBookD_initD)) 62 (((ok_BookD_initD E).fp hr).code (bn_BookD_initD E) tk) (by decide +kernel) rfl rfl (by rfl) rfl (by kernel_rfl) (by kernel_rfl)) rfl (E.free 63) rfl rfl (.inr (.inr rfl)) rfl (by first | exact .inl rfl | exact .inr (.inl rfl)) rfl (ma_cons (me_disp (ps := [((eC (.str s_epochs)), (eV 1)), ((eC (.str s_behind)), (eV 2)), ((eC (.str s_check)), (eV 3)), ((eC (.str s_fetch)), (eV 4)), ((eC (.str s_mark)), (eV 5)), ((eC (.str s_test)), (eV 6)), ((eC (.str s_step)), (eV 7)), ((eC (.str s_told)), (eV 8))]) (mp_cons (me_str t_epochs) (xv 1) (mp_cons (me_str t_behind) (xv 2) (mp_cons (me_str t_check) (xv 3) (mp_cons (me_str t_fetch) (xv 4) (mp_cons (me_str t_mark) (xv 5) (mp_cons (me_str t_test) (xv 6) (mp_cons (me_str t_step) (xv 7) (mp_cons (me_str t_told) (xv 8) mp_nil)))))))) rfl rfl (by decide) (by decide)) ma_nil) rfl) ms_nil)
theorem bn__law_epochs (E : Ev spec w K mg) : BOk K a__law_epochs ["_law_word_here", "_law_odd_here", "_law_second"] := FunD.bindsN (E.says.def_ 10 (d := gd__law_epochs)) fun _ _ _ _ _ _ us hl => match us, hl with | [_, _, _], _ => rfl
theorem sc__law_epochs : FnScope ["_law_word_here", "_law_odd_here", "_law_second", "e"] ["_law_word_here", "_law_odd_here", "_law_second"] (defScope st__law_epochs) := ⟨rfl, rfl, rfl, by decide +kernel, rfl, by decide +kernel, by decide +kernel⟩
theorem ok__law_epochs (E : Ev spec w K mg) : DOk P w K mg base nm 25 a__law_epochs ["_law_word_here", "_law_odd_here", "_law_second"] f__law_epochs := by
  obtain ⟨hX, XI, Gn⟩ := E.hh
  have sc := sc__law_epochs
  refine ⟨fn_M (N := ["_law_word_here", "_law_odd_here", "_law_second", "e"]) (E.says.def_ 10 (d := gd__law_epochs)) sc rfl (fun cdv A outer s H Ex hr tk hp => ?_), arity_runB, (E.says.def_ 10 (d := gd__law_epochs)).kp⟩
  exact (ms_one (ms_try tk sc.nd (fun W' pn xe tk hp => (ms_cons (ms_if (mt_cmpR (mo_eq rfl (hu64 hr)) (xv 0) (me_str t_epochs) rfl) (ms_one (ms_ret (me_cmp mo_isN (me_callK (xmkK (c := 3) E (ok_EpochBookD_initD E) (bd_EpochBookD_initD_3_ E) (by exact hr) tk 64 rfl).1 rfl (E.glo 65) (xmkK (c := 3) E (ok_EpochBookD_initD E) (bd_EpochBookD_initD_3_ E) (by exact hr) tk 64 rfl).2 (ma_cons (xv 1) (ma_cons (xv 2) ma_nil)) mk_nil) me_non rfl))) ms_nil) (ms_cons (ms_if (mt_cmpR (mo_eq rfl (hu64 hr)) (xv 0) (me_str t_behind) rfl) (ms_one (ms_ret (me_cmp mo_isN (me_callK (xmkK (c := 3) E (ok_EpochBookD_initD E) (bd_EpochBookD_initD_3_check E) (by exact hr) tk 64 rfl).1 rfl (E.glo 65) (xmkK (c := 3) E (ok_EpochBookD_initD E) (bd_EpochBookD_initD_3_check E) (by exact hr) tk 64 rfl).2 (ma_cons me_int (ma_cons (xv 1) ma_nil)) (mk_cons (xv 2) mk_nil)) me_non rfl))) ms_nil) (ms_cons (ms_if (mt_cmpR (mo_eq rfl (hu64 hr)) (xv 0) (me_str t_check) rfl) (ms_one (ms_ret (me_cmp mo_isN (me_callK (xmkK (c := 3) E (ok_EpochBookD_initD E) (bd_EpochBookD_initD_3_check_mark E) (by exact hr) tk 64 rfl).1 rfl (E.glo 65) (xmkK (c := 3) E (ok_EpochBookD_initD E) (bd_EpochBookD_initD_3_check_mark E) (by exact hr) tk 64 rfl).2 (ma_cons me_int (ma_cons me_int ma_nil)) (mk_cons (xv 1) (mk_cons (xv 2) mk_nil))) me_non rfl))) ms_nil) (ms_cons (ms_if (mt_cmpR (mo_eq rfl (hu64 hr)) (xv 0) (me_str t_fetch) rfl) (ms_one (ms_ret (me_cmp mo_isN (me_callK (xmkK (c := 3) E (ok_EpochBookD_initD E) (bd_EpochBookD_initD_3_fetch_told E) (by exact hr) tk 64 rfl).1 rfl (E.glo 65) (xmkK (c := 3) E (ok_EpochBookD_initD E) (bd_EpochBookD_initD_3_fetch_told E) (by exact hr) tk 64 rfl).2 (ma_cons me_int (ma_cons me_int ma_nil)) (mk_cons (xv 1) (mk_cons (xv 2) mk_nil))) me_non rfl))) ms_nil) (ms_cons (ms_if (mt_cmpR (mo_eq rfl (hu64 hr)) (xv 0) (me_str t_test) rfl) (ms_one (ms_ret (me_cmp mo_isN (me_callK (xmkK (c := 3) E (ok_EpochBookD_initD E) (bd_EpochBookD_initD_3_test_step E) (by exact hr) tk 64 rfl).1 rfl (E.glo 65) (xmkK (c := 3) E (ok_EpochBookD_initD E) (bd_EpochBookD_initD_3_test_step E) (by exact hr) tk 64 rfl).2 (ma_cons me_int (ma_cons me_int ma_nil)) (mk_cons (xv 1) (mk_cons (xv 2) mk_nil))) me_non rfl))) ms_nil) (ms_cons (ms_ret (me_cmp mo_isN (me_callK (xmkK (c := 3) E (ok_EpochBookD_initD E) (bd_EpochBookD_initD_3_step_told E) (by exact hr) tk 64 rfl).1 rfl (E.glo 65) (xmkK (c := 3) E (ok_EpochBookD_initD E) (bd_EpochBookD_initD_3_step_told E) (by exact hr) tk 64 rfl).2 (ma_cons me_int (ma_cons me_int ma_nil)) (mk_cons (xv 1) (mk_cons (xv 2) mk_nil))) me_non rfl)) ms_nil))))))) (.cons (x := "NoValue") (i := 3) ⟨rfl, rfl, .inl (E.glo 56)⟩ rfl rfl (exmL_ok (E.says.ex 69)) (fun a oe C dd pn c n hct hmt hz hf => (msx_one (msx_ret (mex_lst (mex_cons (mex_fld (i := 3) t_word (xcB_ok (E.says.ex 68)) hct hz hf rfl (by first | exact .inl rfl | exact .inr (.inl rfl)) rfl) (mex_cons (mex_isi (i := 3) (xiB_ok (r := .own "RoomsError") (E.says.ex 67)) hct hz hf rfl (by first | exact .inl rfl | exact .inr (.inl rfl)) rfl (E.free 11) (pe_cl rfl (E.glo 66)) (ClsR.ok _ (.own "RoomsError"))) mex_nil)))))) .nil)))
theorem bd_LookBookD_initD_1_look_chain (E : Ev spec w K mg) : Bnd (GxOf K mg nm) K (fdOf K a_LookBookD_initD) ["self", "check", "look", "chain"] 1 ["look", "chain"] ar_bd_LookBookD_initD_1_look_chain := by
  obtain ⟨mv, kb⟩ := FunS.kbinds0 (ps := ["self", "check", "look", "chain"]) (E.says.sup 3 (d := sd_LookBookD_initD)) 1 ["look", "chain"] [(("check" : Str), (.bl true : V))] (arr3 se_bd_LookBookD_initD_1_look_chain) (fun h => nomatch h) (show ∀ q ∈ ([(("check" : Str), (.bl true : V))] : List (Str × V)), q ∈ ([(("check" : Str), (.bl true : V)), (("look" : Str), (.str "behind" : V)), (("chain" : Str), (.str "none" : V))] : List (Str × V)) from by decide +kernel)
    (fun r1 r2 r3 => arr3_vals r1 r2 r3 _)
    (fun D doc pm an cdv ct us mv ws l1 l2 l3 => match us, l1, mv, l2, ws, l3 with
      | [u0], _, [m0], _, [w0, w1], _ => by refine ⟨_, _, _, _, _, _, rfl, rfl, ?_⟩; exact rfl)
  exact ⟨_, _, kb, fun ρ H args zargs vs zs r1 r2 l1 l2 => arr3_rvs r1 (.cons (.bl _) .nil) r2 _⟩
theorem bd_LookBookD_initD_1_chain (E : Ev spec w K mg) : Bnd (GxOf K mg nm) K (fdOf K a_LookBookD_initD) ["self", "check", "look", "chain"] 1 ["chain"] ar_bd_LookBookD_initD_1_chain := by
  obtain ⟨mv, kb⟩ := FunS.kbinds0 (ps := ["self", "check", "look", "chain"]) (E.says.sup 3 (d := sd_LookBookD_initD)) 1 ["chain"] [(("check" : Str), (.bl true : V)), (("look" : Str), (.str "behind" : V))] (arr3 se_bd_LookBookD_initD_1_chain) (fun h => nomatch h) (show ∀ q ∈ ([(("check" : Str), (.bl true : V)), (("look" : Str), (.str "behind" : V))] : List (Str × V)), q ∈ ([(("check" : Str), (.bl true : V)), (("look" : Str), (.str "behind" : V)), (("chain" : Str), (.str "none" : V))] : List (Str × V)) from by decide +kernel)
    (fun r1 r2 r3 => arr3_vals r1 r2 r3 _)
    (fun D doc pm an cdv ct us mv ws l1 l2 l3 => match us, l1, mv, l2, ws, l3 with
      | [u0], _, [m0, m1], _, [w0], _ => by refine ⟨_, _, _, _, _, _, rfl, rfl, ?_⟩; refine ⟨_, _, _, _, _, _, rfl, rfl, ?_⟩; exact rfl)
  exact ⟨_, _, kb, fun ρ H args zargs vs zs r1 r2 l1 l2 => arr3_rvs r1 (.cons (.bl _) (.cons (.str t_behind) .nil)) r2 _⟩
theorem bd_LookBookD_initD_1_ (E : Ev spec w K mg) : Bnd (GxOf K mg nm) K (fdOf K a_LookBookD_initD) ["self", "check", "look", "chain"] 1 [] ar_bd_LookBookD_initD_1_ := by
  obtain ⟨mv, kb⟩ := FunS.kbinds0 (ps := ["self", "check", "look", "chain"]) (E.says.sup 3 (d := sd_LookBookD_initD)) 1 [] [(("check" : Str), (.bl true : V)), (("look" : Str), (.str "behind" : V)), (("chain" : Str), (.str "none" : V))] (arr3 se_bd_LookBookD_initD_1_) (fun h => nomatch h) (show ∀ q ∈ ([(("check" : Str), (.bl true : V)), (("look" : Str), (.str "behind" : V)), (("chain" : Str), (.str "none" : V))] : List (Str × V)), q ∈ ([(("check" : Str), (.bl true : V)), (("look" : Str), (.str "behind" : V)), (("chain" : Str), (.str "none" : V))] : List (Str × V)) from by decide +kernel)
    (fun r1 r2 r3 => arr3_vals r1 r2 r3 _)
    (fun D doc pm an cdv ct us mv ws l1 l2 l3 => match us, l1, mv, l2, ws, l3 with
      | [u0], _, [m0, m1, m2], _, [], _ => by refine ⟨_, _, _, _, _, _, rfl, rfl, ?_⟩; refine ⟨_, _, _, _, _, _, rfl, rfl, ?_⟩; refine ⟨_, _, _, _, _, _, rfl, rfl, ?_⟩; exact rfl)
  exact ⟨_, _, kb, fun ρ H args zargs vs zs r1 r2 l1 l2 => arr3_rvs r1 (.cons (.bl _) (.cons (.str t_behind) (.cons (.str t_none) .nil))) r2 _⟩
theorem sc_LookBookD_initD : NdefX.NScope ["self", "check", "look", "chain", "__class__"] ["self", "check", "look", "chain"] ["__class__"] (defScope st_LookBookD_initD) := NdefX.nscope_by (by decide +kernel)
theorem ok_LookBookD_initD (E : Ev spec w K mg) : DOk P w K mg base nm 22 a_LookBookD_initD ["self", "check", "look", "chain"] f_LookBookD_initD := by
  obtain ⟨hX, XI, Gn⟩ := E.hh
  have sc := sc_LookBookD_initD
  refine ⟨fnS_M (N := ["self", "check", "look", "chain", "__class__"]) (E.says.sup 3 (d := sd_LookBookD_initD)) sc rfl (by decide) (fun A outer s H Ex hr tk hp => ?_), arity_runB, (E.says.sup 3 (d := sd_LookBookD_initD)).kp⟩
  exact (mst_cons (mst_super (j := 4) (i := 0) (supOk_of (cs := [4]) (l := ["LookBook"]) (ar := _) E (E.says.sup 3 (d := sd_LookBookD_initD)) 71 (((ok_BookD_initD E).fp hr).code (bn_BookD_initD E) tk) (by decide +kernel) rfl rfl (by rfl) rfl (by kernel_rfl) (by kernel_rfl)) rfl (E.free 63) rfl rfl (.inr (.inr rfl)) rfl (by first | exact .inl rfl | exact .inr (.inl rfl)) rfl (ma_cons (me_disp (ps := [((eC (.str s_check)), (eV 1)), ((eC (.str s_look)), (eV 2)), ((eC (.str s_chain)), (eV 3))]) (mp_cons (me_str t_check) (xv 1) (mp_cons (me_str t_look) (xv 2) (mp_cons (me_str t_chain) (xv 3) mp_nil))) rfl rfl (by decide) (by decide)) ma_nil) rfl) ms_nil)
theorem bd_StillBookD_initD_2_still (E : Ev spec w K mg) : Bnd (GxOf K mg nm) K (fdOf K a_StillBookD_initD) ["self", "counts", "still", "read", "sleep"] 2 ["still"] ar_bd_StillBookD_initD_2_still := by
  obtain ⟨mv, kb⟩ := FunS.kbinds0 (ps := ["self", "counts", "still", "read", "sleep"]) (E.says.sup 4 (d := sd_StillBookD_initD)) 2 ["still"] [(("read" : Str), (.str "behind" : V)), (("sleep" : Str), (.str "none" : V))] (arr3 se_bd_StillBookD_initD_2_still) (fun h => nomatch h) (show ∀ q ∈ ([(("read" : Str), (.str "behind" : V)), (("sleep" : Str), (.str "none" : V))] : List (Str × V)), q ∈ ([(("still" : Str), (.str "outside" : V)), (("read" : Str), (.str "behind" : V)), (("sleep" : Str), (.str "none" : V))] : List (Str × V)) from by decide +kernel)
    (fun r1 r2 r3 => arr3_vals r1 r2 r3 _)
    (fun D doc pm an cdv ct us mv ws l1 l2 l3 => match us, l1, mv, l2, ws, l3 with
      | [u0, u1], _, [m0, m1], _, [w0], _ => by refine ⟨_, _, _, _, _, _, rfl, rfl, ?_⟩; refine ⟨_, _, _, _, _, _, rfl, rfl, ?_⟩; exact rfl)
  exact ⟨_, _, kb, fun ρ H args zargs vs zs r1 r2 l1 l2 => arr3_rvs r1 (.cons (.str t_behind) (.cons (.str t_none) .nil)) r2 _⟩
theorem bd_StillBookD_initD_2_still_sleep (E : Ev spec w K mg) : Bnd (GxOf K mg nm) K (fdOf K a_StillBookD_initD) ["self", "counts", "still", "read", "sleep"] 2 ["still", "sleep"] ar_bd_StillBookD_initD_2_still_sleep := by
  obtain ⟨mv, kb⟩ := FunS.kbinds0 (ps := ["self", "counts", "still", "read", "sleep"]) (E.says.sup 4 (d := sd_StillBookD_initD)) 2 ["still", "sleep"] [(("read" : Str), (.str "behind" : V))] (arr3 se_bd_StillBookD_initD_2_still_sleep) (fun h => nomatch h) (show ∀ q ∈ ([(("read" : Str), (.str "behind" : V))] : List (Str × V)), q ∈ ([(("still" : Str), (.str "outside" : V)), (("read" : Str), (.str "behind" : V)), (("sleep" : Str), (.str "none" : V))] : List (Str × V)) from by decide +kernel)
    (fun r1 r2 r3 => arr3_vals r1 r2 r3 _)
    (fun D doc pm an cdv ct us mv ws l1 l2 l3 => match us, l1, mv, l2, ws, l3 with
      | [u0, u1], _, [m0], _, [w0, w1], _ => by refine ⟨_, _, _, _, _, _, rfl, rfl, ?_⟩; exact rfl)
  exact ⟨_, _, kb, fun ρ H args zargs vs zs r1 r2 l1 l2 => arr3_rvs r1 (.cons (.str t_behind) .nil) r2 _⟩
theorem bd_StillBookD_initD_2_sleep (E : Ev spec w K mg) : Bnd (GxOf K mg nm) K (fdOf K a_StillBookD_initD) ["self", "counts", "still", "read", "sleep"] 2 ["sleep"] ar_bd_StillBookD_initD_2_sleep := by
  obtain ⟨mv, kb⟩ := FunS.kbinds0 (ps := ["self", "counts", "still", "read", "sleep"]) (E.says.sup 4 (d := sd_StillBookD_initD)) 2 ["sleep"] [(("still" : Str), (.str "outside" : V)), (("read" : Str), (.str "behind" : V))] (arr3 se_bd_StillBookD_initD_2_sleep) (fun h => nomatch h) (show ∀ q ∈ ([(("still" : Str), (.str "outside" : V)), (("read" : Str), (.str "behind" : V))] : List (Str × V)), q ∈ ([(("still" : Str), (.str "outside" : V)), (("read" : Str), (.str "behind" : V)), (("sleep" : Str), (.str "none" : V))] : List (Str × V)) from by decide +kernel)
    (fun r1 r2 r3 => arr3_vals r1 r2 r3 _)
    (fun D doc pm an cdv ct us mv ws l1 l2 l3 => match us, l1, mv, l2, ws, l3 with
      | [u0, u1], _, [m0, m1], _, [w0], _ => by refine ⟨_, _, _, _, _, _, rfl, rfl, ?_⟩; refine ⟨_, _, _, _, _, _, rfl, rfl, ?_⟩; exact rfl)
  exact ⟨_, _, kb, fun ρ H args zargs vs zs r1 r2 l1 l2 => arr3_rvs r1 (.cons (.str t_outside) (.cons (.str t_behind) .nil)) r2 _⟩
theorem bd_StillBookD_initD_2_ (E : Ev spec w K mg) : Bnd (GxOf K mg nm) K (fdOf K a_StillBookD_initD) ["self", "counts", "still", "read", "sleep"] 2 [] ar_bd_StillBookD_initD_2_ := by
  obtain ⟨mv, kb⟩ := FunS.kbinds0 (ps := ["self", "counts", "still", "read", "sleep"]) (E.says.sup 4 (d := sd_StillBookD_initD)) 2 [] [(("still" : Str), (.str "outside" : V)), (("read" : Str), (.str "behind" : V)), (("sleep" : Str), (.str "none" : V))] (arr3 se_bd_StillBookD_initD_2_) (fun h => nomatch h) (show ∀ q ∈ ([(("still" : Str), (.str "outside" : V)), (("read" : Str), (.str "behind" : V)), (("sleep" : Str), (.str "none" : V))] : List (Str × V)), q ∈ ([(("still" : Str), (.str "outside" : V)), (("read" : Str), (.str "behind" : V)), (("sleep" : Str), (.str "none" : V))] : List (Str × V)) from by decide +kernel)
    (fun r1 r2 r3 => arr3_vals r1 r2 r3 _)
    (fun D doc pm an cdv ct us mv ws l1 l2 l3 => match us, l1, mv, l2, ws, l3 with
      | [u0, u1], _, [m0, m1, m2], _, [], _ => by refine ⟨_, _, _, _, _, _, rfl, rfl, ?_⟩; refine ⟨_, _, _, _, _, _, rfl, rfl, ?_⟩; refine ⟨_, _, _, _, _, _, rfl, rfl, ?_⟩; exact rfl)
  exact ⟨_, _, kb, fun ρ H args zargs vs zs r1 r2 l1 l2 => arr3_rvs r1 (.cons (.str t_outside) (.cons (.str t_behind) (.cons (.str t_none) .nil))) r2 _⟩
theorem sc_StillBookD_initD : NdefX.NScope ["self", "counts", "still", "read", "sleep", "__class__"] ["self", "counts", "still", "read", "sleep"] ["__class__"] (defScope st_StillBookD_initD) := NdefX.nscope_by (by decide +kernel)
theorem ok_StillBookD_initD (E : Ev spec w K mg) : DOk P w K mg base nm 22 a_StillBookD_initD ["self", "counts", "still", "read", "sleep"] f_StillBookD_initD := by
  obtain ⟨hX, XI, Gn⟩ := E.hh
  have sc := sc_StillBookD_initD
  refine ⟨fnS_M (N := ["self", "counts", "still", "read", "sleep", "__class__"]) (E.says.sup 4 (d := sd_StillBookD_initD)) sc rfl (by decide) (fun A outer s H Ex hr tk hp => ?_), arity_runB, (E.says.sup 4 (d := sd_StillBookD_initD)).kp⟩
  exact (mst_cons (mst_super (j := 5) (i := 0) (supOk_of (cs := [5]) (l := ["StillBook"]) (ar := _) E (E.says.sup 4 (d := sd_StillBookD_initD)) 74 (((ok_BookD_initD E).fp hr).code (bn_BookD_initD E) tk) (by decide +kernel) rfl rfl (by rfl) rfl (by kernel_rfl) (by kernel_rfl)) rfl (E.free 63) rfl rfl (.inr (.inr rfl)) rfl (by first | exact .inl rfl | exact .inr (.inl rfl)) rfl (ma_cons (me_disp (ps := [((eC (.str s_counts)), (eV 1)), ((eC (.str s_still)), (eV 2)), ((eC (.str s_read)), (eV 3)), ((eC (.str s_sleep)), (eV 4))]) (mp_cons (me_str t_counts) (xv 1) (mp_cons (me_str t_still) (xv 2) (mp_cons (me_str t_read) (xv 3) (mp_cons (me_str t_sleep) (xv 4) mp_nil)))) rfl rfl (by decide) (by decide)) ma_nil) rfl) ms_nil)
theorem bn__law_others (E : Ev spec w K mg) : BOk K a__law_others ["_law_word_here", "_law_odd_here", "_law_second"] := FunD.bindsN (E.says.def_ 11 (d := gd__law_others)) fun _ _ _ _ _ _ us hl => match us, hl with | [_, _, _], _ => rfl
theorem sc__law_others : FnScope ["_law_word_here", "_law_odd_here", "_law_second", "e"] ["_law_word_here", "_law_odd_here", "_law_second"] (defScope st__law_others) := ⟨rfl, rfl, rfl, by decide +kernel, rfl, by decide +kernel, by decide +kernel⟩
theorem ok__law_others (E : Ev spec w K mg) : DOk P w K mg base nm 25 a__law_others ["_law_word_here", "_law_odd_here", "_law_second"] f__law_others := by
  obtain ⟨hX, XI, Gn⟩ := E.hh
  have sc := sc__law_others
  refine ⟨fn_M (N := ["_law_word_here", "_law_odd_here", "_law_second", "e"]) (E.says.def_ 11 (d := gd__law_others)) sc rfl (fun cdv A outer s H Ex hr tk hp => ?_), arity_runB, (E.says.def_ 11 (d := gd__law_others)).kp⟩
  exact (ms_one (ms_try tk sc.nd (fun W' pn xe tk hp => (ms_cons (ms_if (mt_cmpR (mo_eq rfl (hu64 hr)) (xv 0) (me_str t_look) rfl) (ms_one (ms_ret (me_cmp mo_isN (me_callK0 (xmkK (c := 4) E (ok_LookBookD_initD E) (bd_LookBookD_initD_1_look_chain E) (by exact hr) tk 72 rfl).1 rfl (E.glo 73) (xmkK (c := 4) E (ok_LookBookD_initD E) (bd_LookBookD_initD_1_look_chain E) (by exact hr) tk 72 rfl).2 (mk_cons (xv 1) (mk_cons (xv 2) mk_nil))) me_non rfl))) ms_nil) (ms_cons (ms_if (mt_cmpR (mo_eq rfl (hu64 hr)) (xv 0) (me_str t_chain) rfl) (ms_one (ms_ret (me_cmp mo_isN (me_callK0 (xmkK (c := 4) E (ok_LookBookD_initD E) (bd_LookBookD_initD_1_chain E) (by exact hr) tk 72 rfl).1 rfl (E.glo 73) (xmkK (c := 4) E (ok_LookBookD_initD E) (bd_LookBookD_initD_1_chain E) (by exact hr) tk 72 rfl).2 (mk_cons (xv 1) mk_nil)) me_non rfl))) ms_nil) (ms_cons (ms_if (mt_cmpR (mo_eq rfl (hu64 hr)) (xv 0) (me_str t_counts) rfl) (ms_one (ms_ret (me_cmp mo_isN (me_callK (xmkK (c := 5) E (ok_StillBookD_initD E) (bd_StillBookD_initD_2_still E) (by exact hr) tk 75 rfl).1 rfl (E.glo 76) (xmkK (c := 5) E (ok_StillBookD_initD E) (bd_StillBookD_initD_2_still E) (by exact hr) tk 75 rfl).2 (ma_cons (xv 1) ma_nil) (mk_cons (xv 2) mk_nil)) me_non rfl))) ms_nil) (ms_cons (ms_if (mt_cmpR (mo_eq rfl (hu64 hr)) (xv 0) (me_str t_still) rfl) (ms_one (ms_ret (me_cmp mo_isN (me_callK (xmkK (c := 5) E (ok_StillBookD_initD E) (bd_StillBookD_initD_2_still_sleep E) (by exact hr) tk 75 rfl).1 rfl (E.glo 76) (xmkK (c := 5) E (ok_StillBookD_initD E) (bd_StillBookD_initD_2_still_sleep E) (by exact hr) tk 75 rfl).2 (ma_cons me_int ma_nil) (mk_cons (xv 1) (mk_cons (xv 2) mk_nil))) me_non rfl))) ms_nil) (ms_cons (ms_ret (me_cmp mo_isN (me_callK (xmkK (c := 5) E (ok_StillBookD_initD E) (bd_StillBookD_initD_2_sleep E) (by exact hr) tk 75 rfl).1 rfl (E.glo 76) (xmkK (c := 5) E (ok_StillBookD_initD E) (bd_StillBookD_initD_2_sleep E) (by exact hr) tk 75 rfl).2 (ma_cons me_int ma_nil) (mk_cons (xv 1) mk_nil)) me_non rfl)) ms_nil)))))) (.cons (x := "NoValue") (i := 3) ⟨rfl, rfl, .inl (E.glo 56)⟩ rfl rfl (exmL_ok (E.says.ex 69)) (fun a oe C dd pn c n hct hmt hz hf => (msx_one (msx_ret (mex_lst (mex_cons (mex_fld (i := 3) t_word (xcB_ok (E.says.ex 68)) hct hz hf rfl (by first | exact .inl rfl | exact .inr (.inl rfl)) rfl) (mex_cons (mex_isi (i := 3) (xiB_ok (r := .own "RoomsError") (E.says.ex 67)) hct hz hf rfl (by first | exact .inl rfl | exact .inr (.inl rfl)) rfl (E.free 11) (pe_cl rfl (E.glo 66)) (ClsR.ok _ (.own "RoomsError"))) mex_nil)))))) .nil)))
theorem bn_Book_switches (E : Ev spec w K mg) : BOk K a_Book_switches ["self"] := FunD.bindsN (E.says.def_ 12 (d := gd_Book_switches)) fun _ _ _ _ _ _ us hl => match us, hl with | [_], _ => rfl
theorem sc_Book_switches : FnScope ["self", "word"] ["self"] (defScope st_Book_switches) := ⟨rfl, rfl, rfl, by decide +kernel, rfl, by decide +kernel, by decide +kernel⟩
theorem ok_Book_switches (E : Ev spec w K mg) : DOk P w K mg base nm 10 a_Book_switches ["self"] f_Book_switches := by
  obtain ⟨hX, XI, Gn⟩ := E.hh
  have sc := sc_Book_switches
  refine ⟨fn_M (N := ["self", "word"]) (E.says.def_ 12 (d := gd_Book_switches)) sc rfl (fun cdv A outer s H Ex hr tk hp => ?_), arity_runB, (E.says.def_ 12 (d := gd_Book_switches)).kp⟩
  exact (ms_one (ms_ret (me_lc0 (t := .one 1) (own := [(("word" : Str), 1)]) rfl rfl sc.nd (mi_seq rfl (me_con t_WORDS (conOk_cons XI Gn rfl (E.says.ex 4) (conOk_cons XI Gn rfl (E.says.ex 3) (conOk_cons XI Gn rfl (E.says.ex 2) (conOk_cons XI Gn rfl (E.says.ex 1) conOk_nil)))) (xv 0) rfl)) (blkOk_by (by kernel_rfl)) (by decide) (fun _ _ _ _ _ => (pg_name sc.nd rfl (by first | exact .inl rfl | exact .inr rfl))) (fun _ _ _ _ _ => (me_tup (ma_cons (xv 1) (ma_cons (me_ixU rfl (hu1 hr) (spOk_cons rfl (E.says.ex 26) (xca1 (ok_BookD_getitemD E) (bn_BookD_getitemD E) hr takes0) (spOk_cons rfl (E.says.ex 25) (xca1 (ok_BookD_getitemD E) (bn_BookD_getitemD E) hr takes0) (spOk_cons rfl (E.says.ex 24) (xca1 (ok_BookD_getitemD E) (bn_BookD_getitemD E) hr takes0) (spOk_cons rfl (E.says.ex 23) (xca1 (ok_BookD_getitemD E) (bn_BookD_getitemD E) hr takes0) spOk_nil)))) (me_fld t_own (by push_cast [E, 0]) (xv 0) rfl) (xv 1) (by intro _ _; rfl)) ma_nil)))))))
theorem bn_BookD_setitemD (E : Ev spec w K mg) : BOk K a_BookD_setitemD ["self", "word", "value"] := FunD.bindsN (E.says.def_ 13 (d := gd_BookD_setitemD)) fun _ _ _ _ _ _ us hl => match us, hl with | [_, _, _], _ => rfl
theorem sc_BookD_setitemD : FnScope ["self", "word", "value", "own"] ["self", "word", "value"] (defScope st_BookD_setitemD) := ⟨rfl, rfl, rfl, by decide +kernel, rfl, by decide +kernel, by decide +kernel⟩
theorem ok_BookD_setitemD (E : Ev spec w K mg) : DOk P w K mg base nm 19 a_BookD_setitemD ["self", "word", "value"] f_BookD_setitemD := by
  obtain ⟨hX, XI, Gn⟩ := E.hh
  have sc := sc_BookD_setitemD
  refine ⟨fn_M (N := ["self", "word", "value", "own"]) (E.says.def_ 13 (d := gd_BookD_setitemD)) sc rfl (fun cdv A outer s H Ex hr tk hp => ?_), arity_runB, (E.says.def_ 13 (d := gd_BookD_setitemD)).kp⟩
  exact (ms_cons (ms_expr (me_meth t_look_at_word (by push_cast [E, hr, tk, 1]) (xv 0) (ma_cons (xv 1) ma_nil))) (ms_cons (ms_set (i := 3) sc.nd rfl (by first | exact .inl rfl | exact .inr rfl) (me_mrg (me_fld t_own (by push_cast [E, 0]) (xv 0) rfl) (xv 1) (xv 2))) (ms_cons (ms_if (mt_cmpR mo_notN (me_meth t_first_wrong (methOk_cons rfl (E.says.ex 53) (xcm (ok_Book_first_wrong E) (bn_Book_first_wrong E) hr tk) (methOk_cons rfl (E.says.ex 52) (xcm (ok_Book_first_wrong E) (bn_Book_first_wrong E) hr tk) (methOk_cons rfl (E.says.ex 51) (xcm (ok_Book_first_wrong E) (bn_Book_first_wrong E) hr tk) (methOk_cons rfl (E.says.ex 50) (xcm (ok_Book_first_wrong E) (bn_Book_first_wrong E) hr tk) methOk_nil)))) (xv 0) (ma_cons (xv 3) ma_nil)) me_non rfl) (ms_one (ms_raise (c := 14) (fld := s_word) rfl tk rfl (excB_ok (E.says.ex 54)) (exiB_ok (E.says.ex 55)).ini (exiB_ok (E.says.ex 55)).ty (ix_NoValueD_initD E) (hr.mono (by decide)) (bn_NoValueD_initD E) rfl (E.glo 56) (xv 1))) ms_nil) (ms_cons (ms_fld t_own (by push_cast [E, 0]) (xv 0) (xv 3) rfl) ms_nil))))
theorem bn_is_book (E : Ev spec w K mg) : BOk K a_is_book ["value"] := FunD.bindsN (E.says.def_ 14 (d := gd_is_book)) fun _ _ _ _ _ _ us hl => match us, hl with | [_], _ => rfl
theorem sc_is_book : FnScope ["value"] ["value"] (defScope st_is_book) := ⟨rfl, rfl, rfl, by decide +kernel, rfl, by decide +kernel, by decide +kernel⟩
theorem ok_is_book (E : Ev spec w K mg) : DOk P w K mg base nm 1 a_is_book ["value"] f_is_book := by
  obtain ⟨hX, XI, Gn⟩ := E.hh
  have sc := sc_is_book
  refine ⟨fn_M (N := ["value"]) (E.says.def_ 14 (d := gd_is_book)) sc rfl (fun cdv A outer s H Ex hr tk hp => ?_), arity_runB, (E.says.def_ 14 (d := gd_is_book)).kp⟩
  exact (ms_one (ms_ret (me_isiT rfl (isOk_of (E.says.ex 86)) rfl (E.free 11) (xv 0) (pa_c1 (pe_cl rfl (E.glo 65)) (pa_c1 (pe_cl rfl (E.glo 73)) (pa_c1 (pe_cl rfl (E.glo 76)) pa_c0))) (ClsR.all _ [.own "EpochBook", .own "LookBook", .own "StillBook"]) rfl)))
theorem bn_NoBookD_initD (E : Ev spec w K mg) : BOk K a_NoBookD_initD ["self", "value"] := FunS.bindsN (E.says.sup 5 (d := sd_NoBookD_initD)) fun _ _ _ _ _ _ us hl => match us, hl with | [_, _], _ => rfl
theorem sc_NoBookD_initD : NdefX.NScope ["self", "value", "__class__"] ["self", "value"] ["__class__"] (defScope st_NoBookD_initD) := NdefX.nscope_by (by decide +kernel)
theorem ix_NoBookD_initD (E : Ev spec w K mg) : FnOk P w K mg base (L2.CX P w) 1 (a_NoBookD_initD K) (fdOf K a_NoBookD_initD) ["self", "value"] (spI (ga K "NoBook") (toStr s_value)) := by
  rw [← t_value]
  refine exFn (k := 0) (m := "a value is no book") (E.says.sup 5 (d := sd_NoBookD_initD)) sc_NoBookD_initD (excB_ok (E.says.ex 88)) (exiB_ok (E.says.ex 89)).no (fun _ _ _ _ _ => (exiB_ok (E.says.ex 89)).supX) (fun A outer s H Ex => ?_)
  exact ex_body (supD_of (E.says.sup 5 (d := sd_NoBookD_initD)) rfl rfl (by rfl) rfl (by kernel_rfl) (by kernel_rfl) (exiB_ok (E.says.ex 89)).any) rfl (E.free 63) rfl rfl (.inr (.inr rfl)) rfl (by first | exact .inl rfl | exact .inr (.inl rfl)) rfl (by first | exact .inl rfl | exact .inr (.inl rfl)) rfl rfl rfl rfl rfl rfl (by decide) (by decide)
theorem bn_look_at_book (E : Ev spec w K mg) : BOk K a_look_at_book ["value"] := FunD.bindsN (E.says.def_ 15 (d := gd_look_at_book)) fun _ _ _ _ _ _ us hl => match us, hl with | [_], _ => rfl
theorem sc_look_at_book : FnScope ["value"] ["value"] (defScope st_look_at_book) := ⟨rfl, rfl, rfl, by decide +kernel, rfl, by decide +kernel, by decide +kernel⟩
theorem ok_look_at_book (E : Ev spec w K mg) : DOk P w K mg base nm 4 a_look_at_book ["value"] f_look_at_book := by
  obtain ⟨hX, XI, Gn⟩ := E.hh
  have sc := sc_look_at_book
  refine ⟨fn_M (N := ["value"]) (E.says.def_ 15 (d := gd_look_at_book)) sc rfl (fun cdv A outer s H Ex hr tk hp => ?_), arity_runB, (E.says.def_ 15 (d := gd_look_at_book)).kp⟩
  exact (ms_one (ms_if (mt_not (mt_val (xcall (ok_is_book E) (bn_is_book E) hr tk (E.glo 87) (ma_cons (xv 0) ma_nil)))) (ms_one (ms_raise (c := 15) (fld := s_value) rfl tk rfl (excB_ok (E.says.ex 88)) (exiB_ok (E.says.ex 89)).ini (exiB_ok (E.says.ex 89)).ty (ix_NoBookD_initD E) (hr.mono (by decide)) (bn_NoBookD_initD E) rfl (E.glo 90) (xv 0))) ms_nil))
theorem bn_values_of (E : Ev spec w K mg) : BOk K a_values_of ["book", "word"] := FunD.bindsN (E.says.def_ 16 (d := gd_values_of)) fun _ _ _ _ _ _ us hl => match us, hl with | [_, _], _ => rfl
theorem sc_values_of : FnScope ["book", "word"] ["book", "word"] (defScope st_values_of) := ⟨rfl, rfl, rfl, by decide +kernel, rfl, by decide +kernel, by decide +kernel⟩
theorem ok_values_of (E : Ev spec w K mg) : DOk P w K mg base nm 13 a_values_of ["book", "word"] f_values_of := by
  obtain ⟨hX, XI, Gn⟩ := E.hh
  have sc := sc_values_of
  refine ⟨fn_M (N := ["book", "word"]) (E.says.def_ 16 (d := gd_values_of)) sc rfl (fun cdv A outer s H Ex hr tk hp => ?_), arity_runB, (E.says.def_ 16 (d := gd_values_of)).kp⟩
  exact (ms_cons (ms_expr (xcall (ok_look_at_book E) (bn_look_at_book E) hr tk (E.glo 91) (ma_cons (xv 0) ma_nil))) (ms_cons (ms_expr (me_meth t_look_at_word (by push_cast [E, hr, tk, 1]) (xv 0) (ma_cons (xv 1) ma_nil))) (ms_cons (ms_ret (xcall (ok_values_at E) (bn_values_at E) hr tk (E.glo 30) (ma_cons (xv 1) (ma_cons (me_fld t_own (by push_cast [E, 0]) (xv 0) rfl) ma_nil)))) ms_nil)))
theorem bn__law_word (E : Ev spec w K mg) : BOk K a__law_word ["_law_book", "_law_word_here", "_law_way"] := FunD.bindsN (E.says.def_ 17 (d := gd__law_word)) fun _ _ _ _ _ _ us hl => match us, hl with | [_, _, _], _ => rfl
theorem sc__law_word : FnScope ["_law_book", "_law_word_here", "_law_way", "e"] ["_law_book", "_law_word_here", "_law_way"] (defScope st__law_word) := ⟨rfl, rfl, rfl, by decide +kernel, rfl, by decide +kernel, by decide +kernel⟩
theorem ok__law_word (E : Ev spec w K mg) : DOkG P w K mg base nm 22 a__law_word ["_law_book", "_law_word_here", "_law_way"] f__law_word := by
  obtain ⟨hX, XI, Gn⟩ := E.hh
  have sc := sc__law_word
  refine ⟨fnG_M (N := ["_law_book", "_law_word_here", "_law_way", "e"]) (E.says.def_ 17 (d := gd__law_word)) sc rfl (fun cdv A outer s H Ex hr tk hp hgd => ?_), arity_runB, (E.says.def_ 17 (d := gd__law_word)).kp⟩
  exact (ms_one (ms_try tk sc.nd (fun W' pn xe tk hp => (ms_cons (ms_if (mt_cmpR (mo_eq rfl (hu64 hr)) (xv 2) me_int rfl) (ms_one (ms_ret (me_ixU rfl (hu1 hr) (spOk_cons rfl (E.says.ex 26) (xca1 (ok_BookD_getitemD E) (bn_BookD_getitemD E) hr tk) (spOk_cons rfl (E.says.ex 25) (xca1 (ok_BookD_getitemD E) (bn_BookD_getitemD E) hr tk) (spOk_cons rfl (E.says.ex 24) (xca1 (ok_BookD_getitemD E) (bn_BookD_getitemD E) hr tk) (spOk_cons rfl (E.says.ex 23) (xca1 (ok_BookD_getitemD E) (bn_BookD_getitemD E) hr tk) spOk_nil)))) (xv 0) (xv 1) (by intro _ _; rfl)))) ms_nil) (ms_cons (ms_if (mt_cmpR (mo_eq rfl (hu64 hr)) (xv 2) me_int rfl) (ms_cons (ms_asg me_bl (mg_ixU (hu1 hr) (spOk_cons rfl (E.says.ex 85) (xca0 (ok_BookD_setitemD E) (bn_BookD_setitemD E) hr tk) (spOk_cons rfl (E.says.ex 84) (xca0 (ok_BookD_setitemD E) (bn_BookD_setitemD E) hr tk) (spOk_cons rfl (E.says.ex 83) (xca0 (ok_BookD_setitemD E) (bn_BookD_setitemD E) hr tk) (spOk_cons rfl (E.says.ex 82) (xca0 (ok_BookD_setitemD E) (bn_BookD_setitemD E) hr tk) spOk_nil)))) (xv 0) (xv 1)) (onlyNx_ixU _ _ _)) (ms_cons (ms_ret me_non) ms_nil)) ms_nil) (ms_cons (ms_ret (xcall (ok_values_of E) (bn_values_of E) hr tk (E.glo 92) (ma_cons (xv 0) (ma_cons (xv 1) ma_nil)))) ms_nil)))) (.cons (x := "NoSwitch") (i := 3) ⟨rfl, rfl, .inl (E.glo 14)⟩ rfl rfl (exmL_ok (E.says.ex 96)) (fun a oe C dd pn c n hct hmt hz hf => (msx_one (msx_ret (mex_lst (mex_cons (mex_of (me_str t_switch)) (mex_cons (mex_cb (mc_repD rfl hgd (have z := hu64 hr; z)) rfl (E.free 94) boot_repr (mex_cons (mex_fld (i := 3) t_word (xcB_ok (E.says.ex 68)) hct hz hf rfl (by first | exact .inl rfl | exact .inr (.inl rfl)) rfl) mex_nil)) mex_nil)))))) (.cons (x := "NoBook") (i := 3) ⟨rfl, rfl, .inl (E.glo 90)⟩ rfl rfl (exmL_ok (E.says.ex 95)) (fun a oe C dd pn c n hct hmt hz hf => (msx_one (msx_ret (mex_lst (mex_cons (mex_of (me_str t_book)) (mex_cons (mex_cb (mc_repD rfl hgd (have z := hu64 hr; z)) rfl (E.free 94) boot_repr (mex_cons (mex_fld (i := 3) t_value (xcB_ok (E.says.ex 93)) hct hz hf rfl (by first | exact .inl rfl | exact .inr (.inl rfl)) rfl) mex_nil)) mex_nil)))))) .nil))))
theorem sc_law : FnScope ["_law_script", "_law_odd_here", "_law_second", "_law_word_here", "_law_book", "_law_before", "_law_way", "_law_some"] ["_law_script"] (defScope st_law) := ⟨rfl, rfl, rfl, by decide +kernel, rfl, by decide +kernel, by decide +kernel⟩
theorem ok_law (E : Ev spec w K mg) : DOkG P w K mg base nm 28 a_law ["_law_script"] f_law := by
  obtain ⟨hX, XI, Gn⟩ := E.hh
  have sc := sc_law
  refine ⟨fnG_M (N := ["_law_script", "_law_odd_here", "_law_second", "_law_word_here", "_law_book", "_law_before", "_law_way", "_law_some"]) (E.says.def_ 18 (d := gd_law)) sc rfl (fun cdv A outer s H Ex hr tk hp hgd => ?_), arity_runB, (E.says.def_ 18 (d := gd_law)).kp⟩
  exact (ms_cons (ms_for hp rfl (mi_seq rfl (xcall0 (ok__law_odd E) (bn__law_odd E) hr tk (E.glo 0))) (mg_name sc.nd rfl (by first | exact .inl rfl | exact .inr rfl)) (onlyNx_name _) (ms_one (ms_for hp rfl (mi_seq rfl (me_lst (ma_cons me_non (ma_cons (me_str t_x) ma_nil)))) (mg_name sc.nd rfl (by first | exact .inl rfl | exact .inr rfl)) (onlyNx_name _) (ms_cons (ms_for hp rfl (mi_seq rfl (me_lst (ma_cons (me_str t_check) (ma_cons (me_str t_fetch) (ma_cons (me_str t_test) (ma_cons (me_str t_step) ma_nil)))))) (mg_name sc.nd rfl (by first | exact .inl rfl | exact .inr rfl)) (onlyNx_name _) (ms_one (ms_if (mt_cmpR (mo_ne rfl (hu64 hr)) (xcall (ok__law_epochs E) (bn__law_epochs E) hr tk (E.glo 70) (ma_cons (xv 3) (ma_cons (xv 1) (ma_cons (xv 2) ma_nil)))) (me_lst (ma_cons (xv 3) (ma_cons me_bl ma_nil))) rfl) (ms_one (ms_ret me_bl)) ms_nil))) (ms_cons (ms_for hp rfl (mi_seq rfl (me_lst (ma_cons (me_str t_look) (ma_cons (me_str t_chain) (ma_cons (me_str t_still) (ma_cons (me_str t_sleep) ma_nil)))))) (mg_name sc.nd rfl (by first | exact .inl rfl | exact .inr rfl)) (onlyNx_name _) (ms_one (ms_if (mt_cmpR (mo_ne rfl (hu64 hr)) (xcall (ok__law_others E) (bn__law_others E) hr tk (E.glo 77) (ma_cons (xv 3) (ma_cons (xv 1) (ma_cons (xv 2) ma_nil)))) (me_lst (ma_cons (xv 3) (ma_cons me_bl ma_nil))) rfl) (ms_one (ms_ret me_bl)) ms_nil))) ms_nil))))) (ms_cons (ms_for hp rfl (mi_seq rfl (me_lst (ma_cons me_non (ma_cons (me_str t_3) (ma_cons me_int (ma_cons me_int (ma_cons me_int (ma_cons me_bl (ma_cons (me_neg me_int) (ma_cons (me_bin mo_pow me_int me_int) ma_nil)))))))))) (mg_name sc.nd rfl (by first | exact .inl rfl | exact .inr rfl)) (onlyNx_name _) (ms_one (ms_if (PW.pt (mw_or (mt_cmpR (mo_ne rfl (hu64 hr)) (xcall (ok__law_epochs E) (bn__law_epochs E) hr tk (E.glo 70) (ma_cons (me_str t_epochs) (ma_cons (xv 1) (ma_cons me_int ma_nil)))) (me_lst (ma_cons (me_str t_epochs) (ma_cons me_bl ma_nil))) rfl) (mw_or1 (mt_cmpR (mo_ne rfl (hu64 hr)) (xcall (ok__law_epochs E) (bn__law_epochs E) hr tk (E.glo 70) (ma_cons (me_str t_epochs) (ma_cons me_int (ma_cons me_int ma_nil)))) (me_lst (ma_cons (me_str t_behind) (ma_cons me_bl ma_nil))) rfl)))) (ms_one (ms_ret me_bl)) ms_nil))) (ms_cons (ms_for hp rfl (mi_seq rfl (me_lst (ma_cons me_non (ma_cons (me_str t_1) (ma_cons me_int (ma_cons me_int (ma_cons me_bl ma_nil))))))) (mg_name sc.nd rfl (by first | exact .inl rfl | exact .inr rfl)) (onlyNx_name _) (ms_cons (ms_if (mt_cmpR (mo_ne rfl (hu64 hr)) (xcall (ok__law_epochs E) (bn__law_epochs E) hr tk (E.glo 70) (ma_cons (me_str t_behind) (ma_cons (xv 1) (ma_cons me_non ma_nil)))) (me_lst (ma_cons (me_str t_behind) (ma_cons me_bl ma_nil))) rfl) (ms_one (ms_ret me_bl)) ms_nil) (ms_cons (ms_if (mt_cmpR (mo_ne rfl (hu64 hr)) (xcall (ok__law_others E) (bn__law_others E) hr tk (E.glo 77) (ma_cons (me_str t_counts) (ma_cons (xv 1) (ma_cons me_non ma_nil)))) (me_lst (ma_cons (me_str t_counts) (ma_cons me_bl ma_nil))) rfl) (ms_one (ms_ret me_bl)) ms_nil) ms_nil))) (ms_cons (ms_for hp rfl (mi_seq rfl (me_lst (ma_cons (me_callK (xmkK (c := 3) E (ok_EpochBookD_initD E) (bd_EpochBookD_initD_3_ E) (by exact hr) tk 64 rfl).1 rfl (E.glo 65) (xmkK (c := 3) E (ok_EpochBookD_initD E) (bd_EpochBookD_initD_3_ E) (by exact hr) tk 64 rfl).2 (ma_cons me_int (ma_cons me_int ma_nil)) mk_nil) (ma_cons (me_callK0 (xmkK (c := 4) E (ok_LookBookD_initD E) (bd_LookBookD_initD_1_ E) (by exact hr) tk 72 rfl).1 rfl (E.glo 73) (xmkK (c := 4) E (ok_LookBookD_initD E) (bd_LookBookD_initD_1_ E) (by exact hr) tk 72 rfl).2 mk_nil) (ma_cons (me_callK (xmkK (c := 5) E (ok_StillBookD_initD E) (bd_StillBookD_initD_2_ E) (by exact hr) tk 75 rfl).1 rfl (E.glo 76) (xmkK (c := 5) E (ok_StillBookD_initD E) (bd_StillBookD_initD_2_ E) (by exact hr) tk 75 rfl).2 (ma_cons me_int ma_nil) mk_nil) ma_nil))))) (mg_name sc.nd rfl (by first | exact .inl rfl | exact .inr rfl)) (onlyNx_name _) (ms_cons (ms_set (i := 5) sc.nd rfl (by first | exact .inl rfl | exact .inr rfl) (me_meth0 t_switches (methOk_cons rfl (E.says.ex 81) (xcm (ok_Book_switches E) (bn_Book_switches E) hr tk) (methOk_cons rfl (E.says.ex 80) (xcm (ok_Book_switches E) (bn_Book_switches E) hr tk) (methOk_cons rfl (E.says.ex 79) (xcm (ok_Book_switches E) (bn_Book_switches E) hr tk) (methOk_cons rfl (E.says.ex 78) (xcm (ok_Book_switches E) (bn_Book_switches E) hr tk) methOk_nil)))) (xv 4))) (ms_cons (ms_for hp rfl (mi_seq rfl (me_lst (ma_cons me_non (ma_cons me_int (ma_cons (me_str t_x) (ma_cons (me_str t_way) (ma_cons (me_lst (ma_cons (me_str t_check) ma_nil)) (ma_cons (me_tup (ma_cons (me_str t_check) ma_nil)) (ma_cons (me_str t_sleeps) ma_nil))))))))) (mg_name sc.nd rfl (by first | exact .inl rfl | exact .inr rfl)) (onlyNx_name _) (ms_cons (ms_if (mt_cmpR (mo_ne rfl (hu64 hr)) (me_lc0 (t := .one 6) (own := [(("_law_way" : Str), 6)]) rfl rfl sc.nd (mi_rng1 rfl (E.free 8) (ma_cons me_int ma_nil) rfl aCons1) (blkOk_by (by kernel_rfl)) (by decide) (fun _ _ _ _ _ => (pg_name sc.nd rfl (by first | exact .inl rfl | exact .inr rfl))) (fun _ _ _ _ _ => (xcallG (ok__law_word E) (bn__law_word E) hr hgd takes0 (E.glo 97) (ma_cons (xv 4) (ma_cons (xv 1) (ma_cons (xv 6) ma_nil)))))) (me_bin (mo_mul rfl) (me_lst (ma_cons (me_lst (ma_cons (me_str t_switch) (ma_cons (me_cb (mc_repD rfl hgd (hu64 hr)) rfl (E.free 94) boot_repr (ma_cons (xv 1) ma_nil)) ma_nil))) ma_nil)) me_int) rfl) (ms_one (ms_ret me_bl)) ms_nil) (ms_cons (ms_if (mt_neU rfl (hu1 hr) (spOk_cons rfl (E.says.ex 41) (xca1 (ok_BookD_eqD E) (bn_BookD_eqD E) hr tk) (spOk_cons rfl (E.says.ex 40) (xca1 (ok_BookD_eqD E) (bn_BookD_eqD E) hr tk) (spOk_cons rfl (E.says.ex 39) (xca1 (ok_BookD_eqD E) (bn_BookD_eqD E) hr tk) spOk_nil))) (neOk_cons rfl (E.says.ex 100) (neOk_cons rfl (E.says.ex 99) (neOk_cons rfl (E.says.ex 98) neOk_nil))) (nfOk_cons rfl (E.says.ex 44) (nfOk_cons rfl (E.says.ex 43) (nfOk_cons rfl (E.says.ex 42) nfOk_nil))) (mo_ne rfl (hu64 hr)) (me_meth0 t_switches (methOk_cons rfl (E.says.ex 81) (xcm (ok_Book_switches E) (bn_Book_switches E) hr tk) (methOk_cons rfl (E.says.ex 80) (xcm (ok_Book_switches E) (bn_Book_switches E) hr tk) (methOk_cons rfl (E.says.ex 79) (xcm (ok_Book_switches E) (bn_Book_switches E) hr tk) (methOk_cons rfl (E.says.ex 78) (xcm (ok_Book_switches E) (bn_Book_switches E) hr tk) methOk_nil)))) (xv 4)) (xv 5) rfl) (ms_one (ms_ret me_bl)) ms_nil) ms_nil))) ms_nil))) (ms_cons (ms_set (i := 7) sc.nd rfl (by first | exact .inl rfl | exact .inr rfl) (me_lst (ma_cons me_non (ma_cons (me_str t_epochs) (ma_cons me_int ma_nil))))) (ms_cons (ms_ret (me_cmp (mo_eqX rfl (hu64 hr)) (me_lc0 (t := .one 1) (own := [(("_law_odd_here" : Str), 1)]) rfl rfl sc.nd (mi_seq rfl (xv 7)) (blkOk_by (by kernel_rfl)) (by decide) (fun _ _ _ _ _ => (pg_name sc.nd rfl (by first | exact .inl rfl | exact .inr rfl))) (fun _ _ _ _ _ => (xcallG (ok__law_word E) (bn__law_word E) hr hgd takes0 (E.glo 97) (ma_cons (xv 1) (ma_cons (me_str t_x) (ma_cons me_int ma_nil)))))) (me_lc0 (t := .one 1) (own := [(("_law_odd_here" : Str), 1)]) rfl rfl sc.nd (mi_seq rfl (xv 7)) (blkOk_by (by kernel_rfl)) (by decide) (fun _ _ _ _ _ => (pg_name sc.nd rfl (by first | exact .inl rfl | exact .inr rfl))) (fun _ _ _ _ _ => (me_lst (ma_cons (me_str t_book) (ma_cons (me_cb (mc_repD rfl hgd (hu64 hr)) rfl (E.free 94) boot_repr (ma_cons (xv 1) ma_nil)) ma_nil))))) rfl)) ms_nil))))))
end
end Lw
end
section
set_option synthInstance.maxHeartbeats 0
set_option synthInstance.maxSize 1000000
namespace Lw
open PySem L2 ML
instance : LAr ar_bd_EpochBookD_initD_3_ := ⟨fun r vs vs' zs zs' a b => arr32 a (CVs.self r) b _⟩
instance : LAr ar_bd_EpochBookD_initD_3_check := ⟨fun r vs vs' zs zs' a b => arr32 a (CVs.self r) b _⟩
instance : LAr ar_bd_EpochBookD_initD_3_check_mark := ⟨fun r vs vs' zs zs' a b => arr32 a (CVs.self r) b _⟩
instance : LAr ar_bd_EpochBookD_initD_3_fetch_told := ⟨fun r vs vs' zs zs' a b => arr32 a (CVs.self r) b _⟩
instance : LAr ar_bd_EpochBookD_initD_3_test_step := ⟨fun r vs vs' zs zs' a b => arr32 a (CVs.self r) b _⟩
instance : LAr ar_bd_EpochBookD_initD_3_step_told := ⟨fun r vs vs' zs zs' a b => arr32 a (CVs.self r) b _⟩
instance : LAr ar_bd_LookBookD_initD_1_look_chain := ⟨fun r vs vs' zs zs' a b => arr32 a (CVs.self r) b _⟩
instance : LAr ar_bd_LookBookD_initD_1_chain := ⟨fun r vs vs' zs zs' a b => arr32 a (CVs.self r) b _⟩
instance : LAr ar_bd_StillBookD_initD_2_still := ⟨fun r vs vs' zs zs' a b => arr32 a (CVs.self r) b _⟩
instance : LAr ar_bd_StillBookD_initD_2_still_sleep := ⟨fun r vs vs' zs zs' a b => arr32 a (CVs.self r) b _⟩
instance : LAr ar_bd_StillBookD_initD_2_sleep := ⟨fun r vs vs' zs zs' a b => arr32 a (CVs.self r) b _⟩
instance : LAr ar_bd_StillBookD_initD_2_ := ⟨fun r vs vs' zs zs' a b => arr32 a (CVs.self r) b _⟩
instance : LAr ar_bd_LookBookD_initD_1_ := ⟨fun r vs vs' zs zs' a b => arr32 a (CVs.self r) b _⟩
instance : CTs (lkS tb_ORDERS) := by unfold tb_ORDERS; infer_instance
instance : LF f__law_odd := lf_runB (by unfold m__law_odd; infer_instance)
instance : LF f_Book_look_at_word := lf_runB (by unfold m_Book_look_at_word; infer_instance)
instance : LF f_BookD_getitemD := lf_runB (by unfold m_BookD_getitemD; infer_instance)
instance : LF f_values_at := lf_runB (by unfold m_values_at; infer_instance)
instance : LF f_BookD_eqD := lf_runB (by unfold m_BookD_eqD; infer_instance)
instance : LF f_is_whole := lf_runB (by unfold m_is_whole; infer_instance)
instance : LF f_is_same := lf_runB (by unfold m_is_same; infer_instance)
instance : LF f_is_value := lf_runB (by unfold m_is_value; infer_instance)
instance : LF f_Book_first_wrong := lf_runB (by unfold m_Book_first_wrong; infer_instance)
instance : LF f_BookD_initD := lf_runB (by unfold m_BookD_initD; infer_instance)
instance : LF f_EpochBookD_initD := lf_runB (by unfold m_EpochBookD_initD; infer_instance)
instance : LF f__law_epochs := lf_runB (by unfold m__law_epochs; infer_instance)
instance : LF f_LookBookD_initD := lf_runB (by unfold m_LookBookD_initD; infer_instance)
instance : LF f_StillBookD_initD := lf_runB (by unfold m_StillBookD_initD; infer_instance)
instance : LF f__law_others := lf_runB (by unfold m__law_others; infer_instance)
instance : LF f_Book_switches := lf_runB (by unfold m_Book_switches; infer_instance)
instance : LF f_BookD_setitemD := lf_runB (by unfold m_BookD_setitemD; infer_instance)
instance : LF f_is_book := lf_runB (by unfold m_is_book; infer_instance)
instance : LF f_look_at_book := lf_runB (by unfold m_look_at_book; infer_instance)
instance : LF f_values_of := lf_runB (by unfold m_values_of; infer_instance)
instance : LF f__law_word := lf_runB (by unfold m__law_word; infer_instance)
instance : LF f_law := lf_runB (by unfold m_law; infer_instance)
end Lw
end
section
namespace ML
open PySem PySem.Spec PyProof.Rows L2 He
theorem ints_rv {G : Gx} {ρ : List Addr} {H : Hp} : ∀ ns : List Int, RVs G ρ H (ns.map VI.int) (ns.map V.int)
  | [] => .nil
  | n :: ns => .cons (.int n) (ints_rv ns)
theorem scr_ag {G : Gx} {K : PySem.W.Frag} {H : Hp} {a : Addr} {ns : List Int} (nl : noLstB K = true) (hO : Only H) (hS : SqL K H a (ns.map V.int)) : Ag G [a] [.scr (ns.map VI.int)] H := by
  refine ⟨by simp, rfl, fun n o e => ?_⟩
  cases n with
  | succ n => simp at e
  | zero =>
    cases e
    refine ⟨a, rfl, ?_⟩
    rcases hS with (h | ⟨ob, h⟩) | ⟨o, its, n, h, hc, _⟩
    · rcases hO a with z | ⟨o, xs, z⟩
      · rw [z] at h; cases h
      · rw [z] at h; cases h
    · exact ⟨ob, _, h, ints_rv ns⟩
    · exact absurd hc (noLst_ok nl h)
theorem law_sp {G : Gx} {K : PySem.W.Frag} {H : Hp} {a : Addr} {ns : List Int} {g : MF} {h' : Hi} (nl : noLstB K = true) (hO : Only H) (hS : SqL K H a (ns.map V.int)) (e : g [.ref 0] [.scr (ns.map VI.int)] = .ok (.bl true) h') :
    spM G 1 g [.ref a] H (fun v _ => v = .bl true) fun _ _ _ => False := by
  refine ⟨[a], [.scr (ns.map VI.int)], [.ref 0], rfl, scr_ag nl hO hS, .cons (.ref rfl) .nil, ?_⟩
  rw [e]
  intro ρ' H' x _ _ r
  cases r
  rfl
end ML
end
section
namespace ML
open PySem PySem.Spec PyProof.Rows L2 He
def obsLG (as : List Addr) (m : MSpec) (g : Addr → Option Obj) : AlM := obsM m (frG g as)
def hookL (as : List Addr) (m : MSpec) : PySem.W.Hook where
  α := AlM
  obs := fun s => obsLG as m s.heap.get?
  val := fun w => valM m w
  says := fun w h => ∃ K : PySem.W.Frag, K.In h ∧ SaysM m w K
  of := fun _ _ e => ⟨_, frG_in, e⟩
  keeps := fun _ _ _ ⟨K, hK, c⟩ k => ⟨K, PySem.W.Frag.In.keeps hK k, c⟩
theorem obsLG_eq {as : List Addr} {m : MSpec} {g : Addr → Option Obj} {s : Shared} (h : ∀ a, g a = s.heap.get? a) : obsLG as m g = (hookL as m).obs s := by
  have e : g = s.heap.get? := funext h
  rw [e] <;> rfl
end ML
end
section
noncomputable section
namespace MHP
open PySem PySem.W PySem.Calls PyProof.Rows HandSHeadRun
section
variable (st : SharedT → Thread → Option (SharedT × Thread)) (n0 : Nat) (ann : Option Value)
def segF (b : Nat) : Nat → SharedT → Thread → Option (Flow × SharedT × Code × Pos)
  | 0, _, _ => none
  | m + 1, s, t => match endAt b t with
    | some f => some (f, s, t.code, t.pos)
    | none => match stepOk n0 ann t with
      | false => none
      | true => match st s t with
        | some (s', t') => frS s' fun s' => segF b m s' t'
        | none => none
def topF : Nat → SharedT → Thread → Option (SharedT × Thread)
  | 0, s, t => some (s, t)
  | m + 1, s, t => match through t with
    | true => none
    | false => match stepOk n0 ann t with
      | false => none
      | true => match st s t with
        | some (s', t') => frS s' fun s' => topF m s' t'
        | none => none
end
section
variable {tb : String → Option Builtin} {p : Program} {w : World} {n0 : Nat} {ann : Option Value} {b : Nat}
theorem segF_ok : ∀ {m : Nat} {s s' : SharedT} {t : Thread} {f : Flow} {c : Code} {q : Pos}, segF (stepT (denote tb) p w) n0 ann b m s t = some (f, s', c, q) → segRun tb p w n0 ann b m s.abs t = some (f, s'.abs, c, q)
  | 0, _, _, _, _, _, _, h => by cases h
  | m + 1, s, s', t, f, c, q, h => by
    unfold segF at h
    unfold segRun
    cases he : endAt b t with
    | some x => rw [he] at h; cases h; rfl
    | none =>
      rw [he] at h
      cases hk : stepOk n0 ann t with
      | false => rw [hk] at h; cases h
      | true =>
        rw [hk] at h
        cases hs : stepT (denote tb) p w s t with
        | none => rw [hs] at h; cases h
        | some r =>
          obtain ⟨s2, t2⟩ := r
          rw [hs] at h
          dsimp only at h
          rw [frS_eq] at h
          rw [stepT_spec hs]
          exact segF_ok h
theorem topF_ok : ∀ {m : Nat} {s s' : SharedT} {t t' : Thread}, topF (stepT (denote tb) p w) n0 ann m s t = some (s', t') → topGo tb p w n0 ann m s.abs t = some (s'.abs, t')
  | 0, _, _, _, _, h => by cases h; rfl
  | m + 1, s, s', t, t', h => by
    unfold topF at h
    unfold topGo
    cases he : through t with
    | true => rw [he] at h; cases h
    | false =>
      rw [he] at h
      cases hk : stepOk n0 ann t with
      | false => rw [hk] at h; cases h
      | true =>
        rw [hk] at h
        cases hs : stepT (denote tb) p w s t with
        | none => rw [hs] at h; cases h
        | some r =>
          obtain ⟨s2, t2⟩ := r
          rw [hs] at h
          dsimp only at h
          rw [frS_eq] at h
          rw [stepT_spec hs]
          exact topF_ok h
end
def preF (st : SharedT → Thread → Option (SharedT × Thread)) (n0 : Nat) (ann : Option Value) (k : Nat) (p : Program) (w : World) (os : OsState) : Option (SharedT × Thread) := match putAll (boot_heap w.params).objs.toList .nil 0 with
  | some (t, n) => topF st n0 ann k (bootT w os (t, n)) (topStub p)
  | none => none
theorem preF_ok {tb : String → Option Builtin} {n0 k : Nat} {ann : Option Value} {p : Program} {w : World} {os : OsState} {s : SharedT} {t : Thread} (h : preF (stepT (denote tb) p w) n0 ann k p w os = some (s, t)) :
    topGo tb p w n0 ann k ⟨boot_heap w.params, #[], boot_drawn, boot_toks, os⟩ (topStub p) = some (s.abs, t) := by
  unfold preF at h
  cases e : putAll (boot_heap w.params).objs.toList .nil 0 with
  | none => rw [e] at h; cases h
  | some r =>
    obtain ⟨T, n⟩ := r
    rw [e] at h
    have q := topF_ok h
    have eh := putAll_heap e
    have eb : (bootT w os (T, n)).abs = ⟨boot_heap w.params, #[], boot_drawn, boot_toks, os⟩ := by
      show (⟨absHeap T n (boot_heap w.params).life, #[], boot_drawn, boot_toks, os⟩ : Shared) = _
      rw [eh]
    rw [eb] at q
    exact q
theorem fin_ok {p : Program} {w : World} {n0 m : Nat} {ann : Option Value} {s s' : SharedT} {t : Thread} (h : goF (stepQ (denQ tabQ) p w) n0 ann m s t = some s') : topRun treeTable p w n0 ann m s.abs t = some s'.abs :=
  goF_ok (by rw [stepQ_eq, denQ_eq, tabQ_eq]; exact h)
theorem seg_ok {p : Program} {w : World} {n0 m : Nat} {ann : Option Value} {s s' : SharedT} {t : Thread} {c : Code} {q : Pos} (h : segF (stepQ (denQ tabQ) p w) n0 ann 1 m s t = some (.next, s', c, q)) : segRun treeTable p w n0 ann 1 m s.abs t = some (.next, s'.abs, c, q) :=
  segF_ok (by rw [stepQ_eq, denQ_eq, tabQ_eq]; exact h)
theorem left_pc {p q : Program} {loose : List Str} {Xt : Shared → Bool} {α : Type} {Yf : Shared → α} {Ya : World → α} {N k0 M1 m0 : Nat} {ann : Option Value} {A Z : World → OsState → SharedT} {th : Thread}
    (e : opening p = plainProg p.main.scope.names) (hN : Nat.ble 600 N = true) (f : ∀ s, fenceModules? p s = some s) (le : Nat.ble (k0 + M1) N = true)
    (hm : ∀ w : World, (boot_heap w.params).objs.size = m0) (ha : ∀ w : World, bootAnn w = ann)
    (pre : ∀ (w : World) (os : OsState), preF (stepQ (denQ tabQ) p w) m0 ann k0 p w os = some (A w os, th))
    (rest : ∀ (w : World) (os : OsState), topRun treeTable p w m0 ann M1 (A w os).abs th = some (Z w os).abs)
    (l1 : ∀ (w : World) (os : OsState), looksF p (boot_heap w.params) (Z w os).abs = true)
    (l2 : ∀ (w : World) (os : OsState), seenQ q loose (importedModules p.main.body) Xt (Z w os).abs = openGood q loose)
    (l3 : ∀ (w : World) (os : OsState), Yf (Z w os).abs = Ya w) : LeftO p q loose Xt Yf Ya N true := fun w => by
  obtain ⟨⟨h, gs, d, k, os⟩, a, a'⟩ := Option.map_eq_some_iff.mp (boot_open e hN f w)
  obtain ⟨rfl, rfl, rfl, rfl⟩ : h = boot_heap w.params ∧ gs = Array.mk [] ∧ d = boot_drawn ∧ k = boot_toks := by simpa using a'
  have pr := pre w os
  rw [← stepQ_eq, ← denQ_eq, ← tabQ_eq] at pr
  have r0 := go_top (preF_ok pr) (rest w os)
  rw [← hm w, ← ha w] at r0
  have r := topRun_mono (N - (k0 + M1)) _ _ _ _ r0
  rw [show k0 + M1 + (N - (k0 + M1)) = N by have := Nat.le_of_ble_eq_true le; omega] at r
  have l1' : (staticsOk (importedModules p.main.body) (boot_heap w.params) (Z w os).abs.heap && namesBound p (Z w os).abs.heap && gensDone (Z w os).abs && laidKept (boot_heap w.params) (Z w os).abs.heap) = true := l1 w os
  have t : topFrom treeTable p w N ⟨boot_heap w.params, Array.mk [], boot_drawn, boot_toks, os⟩ = some (Z w os).abs := by
    unfold topFrom
    dsimp only
    rw [boot_ns]
    show (topRun treeTable p w (boot_heap w.params).objs.size (bootAnn w) N ⟨boot_heap w.params, #[], boot_drawn, boot_toks, os⟩ (topStub p)).bind _ = _
    rw [r]
    show (match staticsOk (importedModules p.main.body) (boot_heap w.params) (Z w os).abs.heap && namesBound p (Z w os).abs.heap && gensDone (Z w os).abs && laidKept (boot_heap w.params) (Z w os).abs.heap with | true => some (Z w os).abs | false => none) = _
    rw [l1']
  have l2' := l2 w os
  rw [← seenQ_eq] at l2'
  unfold openEnds
  rw [a]
  show (topFrom treeTable p w N _).map _ = _
  rw [t]
  exact congrArg some (Prod.ext l2' (l3 w os))
theorem head_left {r : OpenRow} {q : Program} {H : Hook} {N : Nat} {loose : List PySem.Str} {d : DefRec} {kwd : List (PySem.Str × PySem.Expr)}
    (left : LeftO r.prog q loose (fun s => xlAt q [] s && recOk r.toRowW.records s) H.obs H.val N true)
    (hdef : defOf q r.name = some (d, kwd)) (hp : r.prog.theDef r.name = some (d.params, d.body, d.scope)) (hk : kwWritten? d.params.kwonlyargs d.params.kw_defaults = some kwd)
    (hwr : (!r.writes || r.records.isEmpty) = true) (k1 : r.wellSaid = true) (ok : (chainsOk q && opensWell r.prog && (frees r.toRowW && r.within.isEmpty)) = true) (hb : r.prog.bare) (hw : r.toRowW.promised)
    (call : WalkO q loose (XL q []) H.says r.toRowW d kwd fun f vs => PySem.call f vs) : r.Holds :=
  holds_open (r := r) (q := q) (loose := loose) (XP := XL q []) (YP := H.says) (d := d) (kwd := kwd) left H.of H.keeps (fun s z => xl_of s (Bool.and_eq_true_iff.mp z).1) XL.keeps hdef hp hk (fun s z => recFacts_of (Bool.and_eq_true_iff.mp z).2) hwr k1 ok hb hw call
def tS (p : Program) (i : Nat) : Stmt := p.main.body.getD i (.Pass ⟨0, 0, 0, 0⟩)
def cS (p : Program) (i j : Nat) : Stmt := (match tS p i with
  | .ClassDef _ _ _ b _ _ _ _ _ _ _ => b
  | _ => []).getD j (.Pass ⟨0, 0, 0, 0⟩)
def sub (l : List Stmt) (a n : Nat) : List Stmt := (l.drop a).take n
end MHP
end
section
set_option maxHeartbeats 400000
namespace ML
open PySem L2
mutual
def flatV : VI → Bool
  | .ref _ => false
  | .tup xs => flatVs xs
  | _ => true
def flatVs : List VI → Bool
  | [] => true
  | x :: xs => flatV x && flatVs xs
end
def flatF : List (S × VI) → Bool
  | [] => true
  | (_, v) :: r => flatV v && flatF r
def flatK : List (VI × VI) → Bool
  | [] => true
  | (k, v) :: r => flatV k && (flatV v && flatK r)
def flatO : OI → Bool
  | .lst xs => flatVs xs
  | .scr xs => flatVs xs
  | .dic kvs => flatK kvs
  | .ins _ fs => flatF fs
  | .xd fs => flatF fs
section
variable {r : List Nat}
mutual
theorem RV2.flat : ∀ {v w : VI}, RV2 r v w → flatV v = true → w = v
  | _, _, .non, _ => rfl
  | _, _, .bl _, _ => rfl
  | _, _, .int _, _ => rfl
  | _, _, .str _, _ => rfl
  | _, _, .glo _, _ => rfl
  | _, _, .ref _, e => by simp [flatV] at e
  | _, _, .tup t, e => by rw [RVs2.flat t (by simpa [flatV] using e)]
theorem RVs2.flat : ∀ {v w : List VI}, RVs2 r v w → flatVs v = true → w = v
  | _, _, .nil, _ => rfl
  | _, _, .cons a t, e => by
    simp only [flatVs, Bool.and_eq_true] at e
    rw [RV2.flat a e.1, RVs2.flat t e.2]
end
mutual
theorem RV2.self : ∀ (v : VI), flatV v = true → RV2 r v v
  | .non, _ => .non
  | .bl b, _ => .bl b
  | .int b, _ => .int b
  | .str b, _ => .str b
  | .glo b, _ => .glo b
  | .ref n, e => by simp [flatV] at e
  | .tup xs, e => .tup (RVs2.self xs (by simpa [flatV] using e))
theorem RVs2.self : ∀ (v : List VI), flatVs v = true → RVs2 r v v
  | [], _ => .nil
  | x :: xs, e => by
    simp only [flatVs, Bool.and_eq_true] at e
    exact .cons (RV2.self x e.1) (RVs2.self xs e.2)
end
theorem RFs2.flat : ∀ {v w : List (S × VI)}, RFs2 r v w → flatF v = true → w = v
  | _, _, .nil, _ => rfl
  | _, _, .cons a t, e => by
    simp only [flatF, Bool.and_eq_true] at e
    rw [a.flat e.1, RFs2.flat t e.2]
theorem RKs2.flat : ∀ {v w : List (VI × VI)}, RKs2 r v w → flatK v = true → w = v
  | _, _, .nil, _ => rfl
  | _, _, .cons a b t, e => by
    simp only [flatK, Bool.and_eq_true] at e
    rw [a.flat e.1, b.flat e.2.1, RKs2.flat t e.2.2]
theorem RFs2.self : ∀ (v : List (S × VI)), flatF v = true → RFs2 r v v
  | [], _ => .nil
  | (f, x) :: xs, e => by
    simp only [flatF, Bool.and_eq_true] at e
    exact .cons (RV2.self x e.1) (RFs2.self xs e.2)
theorem RKs2.self : ∀ (v : List (VI × VI)), flatK v = true → RKs2 r v v
  | [], _ => .nil
  | (f, x) :: xs, e => by
    simp only [flatK, Bool.and_eq_true] at e
    exact .cons (RV2.self f e.1) (RV2.self x e.2.1) (RKs2.self xs e.2.2)
theorem RO2.flat {o o' : OI} (k : RO2 r o o') (e : flatO o = true) : o' = o := by
  cases k with
  | lst t => rw [t.flat e]
  | scr t => rw [t.flat e]
  | dic t => rw [t.flat e]
  | ins t => rw [t.flat e]
  | xd t => rw [t.flat e]
theorem RO2.self (o : OI) (e : flatO o = true) : RO2 r o o := by
  cases o with
  | lst t => exact .lst (.self _ e)
  | scr t => exact .scr (.self _ e)
  | dic t => exact .dic (.self _ e)
  | ins c t => exact .ins (.self _ e)
  | xd t => exact .xd (.self _ e)
end
theorem Ag2.of {r : List Nat} {s h : Hi} (nd : r.Nodup) (len : r.length = s.length) (k : ∀ (n : Nat) (o : OI), s[n]? = some o → ∃ (m : Nat) (o' : OI), r[n]? = some m ∧ h[m]? = some o' ∧ RO2 r o o') : Ag2 r s h := ⟨nd, len, k⟩
theorem Ag2.one {p : Nat} {o o' : OI} {h : Hi} (e : h[p]? = some o') (k : RO2 [p] o o') : Ag2 [p] [o] h := ⟨by simp, rfl, fun n u q => by
  cases n with
  | zero => cases q; exact ⟨p, o', rfl, e, k⟩
  | succ n => simp at q⟩
theorem Ag2.two {p p2 : Nat} {o o' u u' : OI} {h : Hi} (ne : p ≠ p2) (e : h[p]? = some o') (k : RO2 [p, p2] o o') (e2 : h[p2]? = some u') (k2 : RO2 [p, p2] u u') : Ag2 [p, p2] [o, u] h := ⟨by simp [ne], rfl, fun n w q => by
  match n with
  | 0 => cases q; exact ⟨p, o', rfl, e, k⟩
  | 1 => cases q; exact ⟨p2, u', rfl, e2, k2⟩
  | n + 2 => simp at q⟩
structure Fr (ps : List Nat) (h h' : Hi) : Prop where
  len : h.length ≤ h'.length
  at_ : ∀ (m : Nat) (o : OI), m ∉ ps → h[m]? = some o → h'[m]? = some o
theorem Fr.refl {ps : List Nat} {h : Hi} : Fr ps h h := ⟨Nat.le_refl _, fun _ _ _ e => e⟩
theorem Fr.trans {ps : List Nat} {h h1 h2 : Hi} (a : Fr ps h h1) (b : Fr ps h1 h2) : Fr ps h h2 := ⟨Nat.le_trans a.len b.len, fun m o n e => b.at_ m o n (a.at_ m o n e)⟩
theorem Ex2.fresh {r r' : List Nat} {h h' : Hi} (e : Ex2 r h r' h') {n m : Nat} (q : r'[n]? = some m) (l : r.length ≤ n) : h.length ≤ m := by
  obtain ⟨z, rfl, k⟩ := e.more
  rw [List.getElem?_append_right l] at q
  exact k m (List.mem_of_getElem? q)
end ML
end
section
set_option maxHeartbeats 400000
namespace ML
open PySem L2
section
variable {α β : Type} {σ σ1 : Sg} {h h1 : Hi}
@[simp] theorem x_bind (a : α) (f : α → Hi → Res β) : Res.bind (.ok a h) f = f a h := rfl
@[simp] theorem x_bindS (a : α) (f : α → Hi → RS) : Res.bindS (.ok a h) σ f = f a h := rfl
@[simp] theorem x_nx (f : MS) : RS.andThen (.nx σ h) f = f σ h := rfl
@[simp] theorem x_rt (v : VI) (f : MS) : RS.andThen (.rt v h) f = .rt v h := rfl
@[simp] theorem x_endN : endB (.nx σ h) = .ok .non h := rfl
@[simp] theorem x_endR (v : VI) : endB (.rt v h) = .ok v h := rfl
@[simp] theorem x_eV (i : Nat) : eV i σ h = match σ[i]? with
  | some (some v) => .ok v h
  | _ => .err := rfl
@[simp] theorem x_eC (v : VI) : eC v σ h = .ok v h := rfl
@[simp] theorem x_aNil : aNil σ h = .ok [] h := rfl
@[simp] theorem x_aCons (a : ME) (r : MA) : aCons a r σ h = (a σ h).bind fun x h1 => (r σ h1).bind fun xs h2 => .ok (x :: xs) h2 := rfl
@[simp] theorem x_eBin (f : Op2) (a b : ME) : eBin f a b σ h = (a σ h).bind fun x h1 => (b σ h1).bind fun y h2 => ofO (f x y h2) := rfl
@[simp] theorem x_ofO (v : α) : ofO (some (v, h)) = .ok v h := rfl
@[simp] theorem x_tOf (e : ME) : tOf e σ h = (e σ h).bind fun v h1 => match v with
  | .bl b => .ok b h1
  | _ => .err := rfl
@[simp] theorem x_tAnd (a b : MT) : tAndM a b σ h = (a σ h).bind fun c h1 => match c with
  | true => b σ h1
  | false => .ok false h1 := rfl
@[simp] theorem x_tOr (a b : MT) : tOrM a b σ h = (a σ h).bind fun c h1 => match c with
  | true => .ok true h1
  | false => b σ h1 := rfl
@[simp] theorem x_tNot (a : MT) : tNotM a σ h = (a σ h).bind fun c h1 => .ok (!c) h1 := rfl
@[simp] theorem x_eIf (t : MT) (a b : ME) : eIf t a b σ h = (t σ h).bind fun c h1 => match c with
  | true => a σ h1
  | false => b σ h1 := rfl
@[simp] theorem x_sNx : sNx σ h = .nx σ h := rfl
@[simp] theorem x_sSeq (a b : MS) : sSeq a b σ h = (a σ h).andThen b := rfl
@[simp] theorem x_sRet (e : ME) : sRet e σ h = (e σ h).bindS σ fun v h1 => .rt v h1 := rfl
@[simp] theorem x_sDrop (e : ME) : sDrop e σ h = (e σ h).bindS σ fun _ h1 => .nx σ h1 := rfl
@[simp] theorem x_sIf (t : MT) (a b : MS) : sIf t a b σ h = (t σ h).bindS σ fun c h1 => match c with
  | true => a σ h1
  | false => b σ h1 := rfl
@[simp] theorem x_gNm (i : Nat) (v : VI) : gNm i v σ h = .nx (σ.set i (some v)) h := rfl
@[simp] theorem x_sAsg (e : ME) (g : MG) : sAsg e g σ h = (e σ h).bindS σ fun v h1 => g v σ h1 := rfl
@[simp] theorem x_eCall (g : MF) (ma : MA) : eCall g ma σ h = (ma σ h).bind fun vs h1 => g vs h1 := rfl
@[simp] theorem x_eCB (f : OpC) (ma : MA) : eCB f ma σ h = (ma σ h).bind fun vs h1 => ofO (f vs h1) := rfl
@[simp] theorem x_sFor (mi : MI) (g : MG) (b : MS) : sFor mi g b σ h = (mi σ h).bindS σ fun it h1 => turns it g b (it.fuel h1) 0 σ h1 := rfl
@[simp] theorem x_iSeq (e : ME) : iSeq e σ h = (e σ h).bind fun v h1 => ofI (seqOf v h1) h1 := rfl
@[simp] theorem x_iRng (a : MA) : iRng a σ h = (a σ h).bind fun vs h1 => ofI (rngOf vs) h1 := rfl
@[simp] theorem x_ofI (it : Itm) : ofI (some it) h = .ok it h := rfl
@[simp] theorem x_dropV (v : VI) : dropV σ (.ok v h) = .nx σ h := rfl
@[simp] theorem x_nxO : nxO σ (some h) = .nx σ h := rfl
@[simp] theorem x_okM (v : VI) : okM (.ok v h) = .ok v h := rfl
end
@[simp] theorem x_run0 (n : Nat) (b : MS) (h : Hi) : runB 0 n b [] h = endB (b (List.replicate n none) h) := rfl
@[simp] theorem x_run1 (n : Nat) (b : MS) (a0 : VI) (h : Hi) : runB 1 n b [a0] h = endB (b (some a0 :: List.replicate n none) h) := rfl
@[simp] theorem x_run2 (n : Nat) (b : MS) (a0 a1 : VI) (h : Hi) : runB 2 n b [a0, a1] h = endB (b (some a0 :: some a1 :: List.replicate n none) h) := rfl
@[simp] theorem x_run3 (n : Nat) (b : MS) (a0 a1 a2 : VI) (h : Hi) : runB 3 n b [a0, a1, a2] h = endB (b (some a0 :: some a1 :: some a2 :: List.replicate n none) h) := rfl
@[simp] theorem x_run4 (n : Nat) (b : MS) (a0 a1 a2 a3 : VI) (h : Hi) : runB 4 n b [a0, a1, a2, a3] h = endB (b (some a0 :: some a1 :: some a2 :: some a3 :: List.replicate n none) h) := rfl
@[simp] theorem x_run5 (n : Nat) (b : MS) (a0 a1 a2 a3 a4 : VI) (h : Hi) : runB 5 n b [a0, a1, a2, a3, a4] h = endB (b (some a0 :: some a1 :: some a2 :: some a3 :: some a4 :: List.replicate n none) h) := rfl
@[simp] theorem x_run6 (n : Nat) (b : MS) (a0 a1 a2 a3 a4 a5 : VI) (h : Hi) : runB 6 n b [a0, a1, a2, a3, a4, a5] h = endB (b (some a0 :: some a1 :: some a2 :: some a3 :: some a4 :: some a5 :: List.replicate n none) h) := rfl
@[simp] theorem x_run7 (n : Nat) (b : MS) (a0 a1 a2 a3 a4 a5 a6 : VI) (h : Hi) : runB 7 n b [a0, a1, a2, a3, a4, a5, a6] h = endB (b (some a0 :: some a1 :: some a2 :: some a3 :: some a4 :: some a5 :: some a6 :: List.replicate n none) h) := rfl
@[simp] theorem x_run8 (n : Nat) (b : MS) (a0 a1 a2 a3 a4 a5 a6 a7 : VI) (h : Hi) : runB 8 n b [a0, a1, a2, a3, a4, a5, a6, a7] h = endB (b (some a0 :: some a1 :: some a2 :: some a3 :: some a4 :: some a5 :: some a6 :: some a7 :: List.replicate n none) h) := rfl
@[simp] theorem x_run9 (n : Nat) (b : MS) (a0 a1 a2 a3 a4 a5 a6 a7 a8 : VI) (h : Hi) : runB 9 n b [a0, a1, a2, a3, a4, a5, a6, a7, a8] h = endB (b (some a0 :: some a1 :: some a2 :: some a3 :: some a4 :: some a5 :: some a6 :: some a7 :: some a8 :: List.replicate n none) h) := rfl
@[simp] theorem x_rep0 : (List.replicate 0 none : Sg) = [] := rfl
@[simp] theorem x_rep1 : (List.replicate 1 none : Sg) = [none] := rfl
@[simp] theorem x_rep2 : (List.replicate 2 none : Sg) = [none, none] := rfl
@[simp] theorem x_rep3 : (List.replicate 3 none : Sg) = [none, none, none] := rfl
@[simp] theorem x_rep4 : (List.replicate 4 none : Sg) = [none, none, none, none] := rfl
@[simp] theorem x_rep5 : (List.replicate 5 none : Sg) = [none, none, none, none, none] := rfl
theorem turns_inv {it : Itm} {g : MG} {body : MS} (n : Nat) (I : Nat → Sg → Hi → Prop)
    (step : ∀ i σ h, i < n → I i σ h → ∃ x σ1 h1 σ2 h2, it.nxt i h = some (some x) ∧ g x σ h = .nx σ1 h1 ∧ body σ1 h1 = .nx σ2 h2 ∧ I (i + 1) σ2 h2)
    (fin : ∀ σ h, I n σ h → it.nxt n h = some none) : ∀ k i σ h, i + k = n → I i σ h → ∃ σ2 h2, turns it g body k i σ h = .nx σ2 h2 ∧ I n σ2 h2
  | 0, i, σ, h, e, q => by
    have : i = n := by omega
    subst this
    refine ⟨σ, h, ?_, q⟩
    unfold turns
    rw [fin σ h q]
  | k + 1, i, σ, h, e, q => by
    obtain ⟨x, σ1, h1, σ2, h2, a, b, c, q2⟩ := step i σ h (by omega) q
    obtain ⟨σ3, h3, r, q3⟩ := turns_inv n I step fin k (i + 1) σ2 h2 (by omega) q2
    refine ⟨σ3, h3, ?_, q3⟩
    unfold turns
    simp only [a, b, c, x_nx]
    exact r
end ML
end
section
namespace Lw
open PySem L2 ML
def clN (N : Nat) : RS → Bool
  | .nx τ _ => Nat.beq τ.length N
  | _ => false
def isT0 : Option OI → Bool
  | some (.lst [.bl true]) => true
  | _ => false
theorem isT0_ok : ∀ {o : Option OI}, isT0 o = true → o = some (.lst [.bl true])
  | some (.lst [.bl true]), _ => rfl
def clT (N : Nat) : RS → Bool
  | .nx τ h => isT0 (List.head? h) && Nat.beq τ.length N
  | _ => false
def clR : RS → Bool
  | .rt (.bl true) _ => true
  | _ => false
theorem cl_as {σ' : Sg} : AS2 [] (List.replicate σ'.length none) σ' := ⟨by simp, fun i v e => by
  have := List.mem_of_getElem? e
  rw [List.mem_replicate] at this
  cases this.2⟩
theorem cl_lt {h : Hi} {m : Nat} {o : OI} (e : h[m]? = some o) : m < h.length := (List.getElem?_eq_some_iff.mp e).1
theorem cl_nil {h : Hi} : Ag2 [] [] h := Ag2.of (s := []) (h := h) (by simp) rfl (fun n o q => by simp at q)
theorem cl_nx {m : MS} [x : LS m] {N : Nat} {σ' : Sg} {h : Hi} (ev : clN N (m (List.replicate N none) []) = true) (l : σ'.length = N) : ∃ τ' h', m σ' h = .nx τ' h' ∧ Fr [] h h' ∧ τ'.length = N := by
  subst l
  have k := x.run [] [] h _ σ' cl_nil cl_as
  cases e : m (List.replicate σ'.length none) [] with
  | nx τ s' =>
    rw [e] at k ev
    obtain ⟨r', h', τ', e1, e2, e3, e4⟩ := k
    exact ⟨τ', h', e1, ⟨e2.len, fun u o _ hm => by rw [e2.rest u (by simp) (cl_lt hm)]; exact hm⟩, by rw [← e4.len]; exact Nat.eq_of_beq_eq_true ev⟩
  | _ => rw [e] at ev; cases ev
theorem cl_rt {m : MS} [x : LS m] {N : Nat} {σ' : Sg} {h : Hi} (ev : clR (m (List.replicate N none) []) = true) (l : σ'.length = N) : ∃ h', m σ' h = .rt (.bl true) h' := by
  subst l
  have k := x.run [] [] h _ σ' cl_nil cl_as
  cases e : m (List.replicate σ'.length none) [] with
  | rt v s' =>
    rw [e] at k ev
    obtain ⟨r', h', v', e1, e2, e3, e4⟩ := k
    cases v with
    | bl b =>
      cases b with
      | true => cases e4; exact ⟨h', e1⟩
      | false => cases ev
    | _ => cases ev
  | _ => rw [e] at ev; cases ev
theorem cl_nxT {m : MS} [x : LS m] {N i a : Nat} {v0 v : VI} {σ' : Sg} {h : Hi} (ev : clT N (m ((List.replicate N none).set i (some v0)) [.lst [.bl true]]) = true) (l : σ'.length = N) (hi : i < N) (ha : h[a]? = some (.lst [.bl true])) (hv : RV2 [a] v0 v) :
    ∃ τ' h', m (σ'.set i (some v)) h = .nx τ' h' ∧ Fr [] h h' ∧ τ'.length = N := by
  subst l
  have g : Ag2 [a] [.lst [.bl true]] h := Ag2.one ha (.lst (.cons (.bl true) .nil))
  have as : AS2 [a] ((List.replicate σ'.length none).set i (some v0)) (σ'.set i (some v)) := ⟨by simp, fun j w e => by
    by_cases hj : i = j
    · subst hj
      rw [List.getElem?_set_self (by simpa using hi)] at e
      cases e
      exact ⟨v, List.getElem?_set_self hi, hv⟩
    · rw [List.getElem?_set_ne hj] at e
      have := List.mem_of_getElem? e
      rw [List.mem_replicate] at this
      cases this.2⟩
  have k := x.run [a] _ h _ _ g as
  cases e : m ((List.replicate σ'.length none).set i (some v0)) [.lst [.bl true]] with
  | nx τ s' =>
    rw [e] at k ev
    obtain ⟨r', h', τ', e1, e2, e3, e4⟩ := k
    have ev : (isT0 (List.head? s') && Nat.beq τ.length σ'.length) = true := ev
    rw [Bool.and_eq_true] at ev
    have q := isT0_ok ev.1
    rw [List.head?_eq_getElem?] at q
    have ra : r'[0]? = some a := e2.pre (n := 0) rfl
    obtain ⟨o', h1, h2⟩ := e3.at_ q ra
    refine ⟨τ', h', e1, ⟨e2.len, fun u o _ hm => ?_⟩, by rw [← e4.len]; exact Nat.eq_of_beq_eq_true ev.2⟩
    by_cases z : u = a
    · subst z
      rw [ha] at hm
      cases hm
      cases h2 with
      | lst t =>
        cases t with
        | cons p t =>
          cases t
          cases p
          exact h1
    · rw [e2.rest u (by simpa using z) (cl_lt hm)]
      exact hm
  | _ => rw [e] at ev; cases ev
theorem cl_for {body : MS} {i n N : Nat} {vs : List VI} {P : Hi → Prop} {h : Hi} {σ : Sg} (hn : h[n]? = some (.lst vs)) (hN : σ.length = N) (hP : P h) (fr : ∀ h1 h2, P h1 → Fr [] h1 h2 → P h2)
    (step : ∀ (j : Nat) (v : VI) (σ : Sg) (h : Hi), vs[j]? = some v → σ.length = N → P h → ∃ τ h', body (σ.set i (some v)) h = .nx τ h' ∧ Fr [] h h' ∧ τ.length = N) :
    ∃ τ h', turns (.lst n) (gNm i) body vs.length 0 σ h = .nx τ h' ∧ Fr [] h h' ∧ τ.length = N := by
  obtain ⟨τ, h', e, l, F⟩ := turns_inv (it := .lst n) (g := gNm i) (body := body) vs.length (fun j σ h' => σ.length = N ∧ Fr [] h h')
    (fun j σ h1 hj ⟨l, F⟩ => by
      have ev : vs[j]? = some vs[j] := List.getElem?_eq_getElem hj
      obtain ⟨τ, h2, e2, F2, l2⟩ := step j vs[j] σ h1 ev l (fr _ _ hP F)
      refine ⟨vs[j], _, h1, τ, h2, ?_, rfl, e2, l2, F.trans F2⟩
      have q := F.at_ n _ (by simp) hn
      simp only [Itm.nxt, listAt, q, ev])
    (fun σ h1 ⟨l, F⟩ => by
      have q := F.at_ n _ (by simp) hn
      simp only [Itm.nxt, listAt, q, List.getElem?_eq_none (Nat.le_refl _)]) vs.length 0 σ h (by omega) ⟨hN, .refl⟩
  exact ⟨τ, h', e, F, l⟩
end Lw
end
section
set_option maxHeartbeats 0
namespace Lw
open PySem L2 ML
abbrev bA : MS := (sFor (iSeq (eLst (aCons (eC .non) (aCons (eC (.str s_x)) aNil)))) (gNm 2) (sSeq (sFor (iSeq (eLst (aCons (eC (.str s_check)) (aCons (eC (.str s_fetch)) (aCons (eC (.str s_test)) (aCons (eC (.str s_step)) aNil)))))) (gNm 3) (sIf (tOf (eBin fNe (eCall f__law_epochs (aCons (eV 3) (aCons (eV 1) (aCons (eV 2) aNil)))) (eLst (aCons (eV 3) (aCons (eC (.bl true)) aNil))))) (sRet (eC (.bl false))) sNx)) (sSeq (sFor (iSeq (eLst (aCons (eC (.str s_look)) (aCons (eC (.str s_chain)) (aCons (eC (.str s_still)) (aCons (eC (.str s_sleep)) aNil)))))) (gNm 3) (sIf (tOf (eBin fNe (eCall f__law_others (aCons (eV 3) (aCons (eV 1) (aCons (eV 2) aNil)))) (eLst (aCons (eV 3) (aCons (eC (.bl true)) aNil))))) (sRet (eC (.bl false))) sNx)) sNx)))
set_option synthInstance.maxHeartbeats 0 in
set_option synthInstance.maxSize 1000000 in
instance lsA : LS bA := by unfold bA; infer_instance
theorem tA0 : clT 8 (bA ((List.replicate 8 none).set 1 (some (.non))) [.lst [.bl true]]) = true := by kernel_rfl
theorem tA1 : clT 8 (bA ((List.replicate 8 none).set 1 (some (.str s_x))) [.lst [.bl true]]) = true := by kernel_rfl
theorem tA2 : clT 8 (bA ((List.replicate 8 none).set 1 (some (.str s_empty))) [.lst [.bl true]]) = true := by kernel_rfl
theorem tA3 : clT 8 (bA ((List.replicate 8 none).set 1 (some (.int 1))) [.lst [.bl true]]) = true := by kernel_rfl
theorem tA4 : clT 8 (bA ((List.replicate 8 none).set 1 (some (.int 0))) [.lst [.bl true]]) = true := by kernel_rfl
theorem tA5 : clT 8 (bA ((List.replicate 8 none).set 1 (some (.ref 0))) [.lst [.bl true]]) = true := by kernel_rfl
theorem tA6 : clT 8 (bA ((List.replicate 8 none).set 1 (some (.int 25))) [.lst [.bl true]]) = true := by kernel_rfl
abbrev b0 : MS := (sFor (iSeq (eLst (aCons (eC .non) (aCons (eC (.str s_3)) (aCons (eC (.int 1)) (aCons (eC (.int 0)) (aCons (eC (.int 7)) (aCons (eC (.bl true)) (aCons (eNeg (eC (.int 2))) (aCons (eBin fPow (eC (.int 10)) (eC (.int 30))) aNil)))))))))) (gNm 1) (sIf (tOrM (tOf (eBin fNe (eCall f__law_epochs (aCons (eC (.str s_epochs)) (aCons (eV 1) (aCons (eC (.int 9)) aNil)))) (eLst (aCons (eC (.str s_epochs)) (aCons (eC (.bl true)) aNil))))) (tOf (eBin fNe (eCall f__law_epochs (aCons (eC (.str s_epochs)) (aCons (eC (.int 3)) (aCons (eC (.int 4)) aNil)))) (eLst (aCons (eC (.str s_behind)) (aCons (eC (.bl true)) aNil)))))) (sRet (eC (.bl false))) sNx))
set_option synthInstance.maxHeartbeats 0 in
set_option synthInstance.maxSize 1000000 in
instance ls0 : LS b0 := by unfold b0; infer_instance
theorem t0 : clN 8 (b0 (List.replicate 8 none) []) = true := by kernel_rfl
abbrev b1 : MS := (sFor (iSeq (eLst (aCons (eC .non) (aCons (eC (.str s_1)) (aCons (eC (.int 0)) (aCons (eC (.int 5)) (aCons (eC (.bl true)) aNil))))))) (gNm 1) (sSeq (sIf (tOf (eBin fNe (eCall f__law_epochs (aCons (eC (.str s_behind)) (aCons (eV 1) (aCons (eC .non) aNil)))) (eLst (aCons (eC (.str s_behind)) (aCons (eC (.bl true)) aNil))))) (sRet (eC (.bl false))) sNx) (sSeq (sIf (tOf (eBin fNe (eCall f__law_others (aCons (eC (.str s_counts)) (aCons (eV 1) (aCons (eC .non) aNil)))) (eLst (aCons (eC (.str s_counts)) (aCons (eC (.bl true)) aNil))))) (sRet (eC (.bl false))) sNx) sNx)))
set_option synthInstance.maxHeartbeats 0 in
set_option synthInstance.maxSize 1000000 in
instance ls1 : LS b1 := by unfold b1; infer_instance
theorem t1 : clN 8 (b1 (List.replicate 8 none) []) = true := by kernel_rfl
abbrev b2 : MS := (sFor (iSeq (eLst (aCons (eCallK 2 0 (mkK 3 f_EpochBookD_initD ar_bd_EpochBookD_initD_3_) (aCons (eC (.int 3)) (aCons (eC (.int 2)) aNil)) aNil) (aCons (eCallK 0 0 (mkK 4 f_LookBookD_initD ar_bd_LookBookD_initD_1_) aNil aNil) (aCons (eCallK 1 0 (mkK 5 f_StillBookD_initD ar_bd_StillBookD_initD_2_) (aCons (eC (.int 2)) aNil) aNil) aNil))))) (gNm 4) (sSeq (sAsg (eMeth (lkT [(2, f_Book_switches), (3, f_Book_switches), (4, f_Book_switches), (5, f_Book_switches)]) s_switches (eV 4) aNil) (gNm 5)) (sSeq (sFor (iSeq (eLst (aCons (eC .non) (aCons (eC (.int 3)) (aCons (eC (.str s_x)) (aCons (eC (.str s_way)) (aCons (eLst (aCons (eC (.str s_check)) aNil)) (aCons (eTup (aCons (eC (.str s_check)) aNil)) (aCons (eC (.str s_sleeps)) aNil))))))))) (gNm 1) (sSeq (sIf (tOf (eBin fNe (eLc (iRng (aCons (eC (.int 3)) aNil)) (.one 6) [6] tYesM (eCall f__law_word (aCons (eV 4) (aCons (eV 1) (aCons (eV 6) aNil))))) (eBin fMul (eLst (aCons (eLst (aCons (eC (.str s_switch)) (aCons (eCB cRepD (aCons (eV 1) aNil)) aNil))) aNil)) (eC (.int 3))))) (sRet (eC (.bl false))) sNx) (sSeq (sIf (tOf (eNeU [3, 4, 5] (lkT [(3, f_BookD_eqD), (4, f_BookD_eqD), (5, f_BookD_eqD)]) fNe (eMeth (lkT [(2, f_Book_switches), (3, f_Book_switches), (4, f_Book_switches), (5, f_Book_switches)]) s_switches (eV 4) aNil) (eV 5))) (sRet (eC (.bl false))) sNx) sNx))) sNx)))
set_option synthInstance.maxHeartbeats 0 in
set_option synthInstance.maxSize 1000000 in
instance ls2 : LS b2 := by unfold b2; infer_instance
theorem t2 : clN 8 (b2 (List.replicate 8 none) []) = true := by kernel_rfl
abbrev bZ : MS := (sSeq (sAsg (eLst (aCons (eC .non) (aCons (eC (.str s_epochs)) (aCons (eC (.int 5)) aNil)))) (gNm 7)) (sSeq (sRet (eBin fEqX (eLc (iSeq (eV 7)) (.one 1) [1] tYesM (eCall f__law_word (aCons (eV 1) (aCons (eC (.str s_x)) (aCons (eC (.int 2)) aNil))))) (eLc (iSeq (eV 7)) (.one 1) [1] tYesM (eLst (aCons (eC (.str s_book)) (aCons (eCB cRepD (aCons (eV 1) aNil)) aNil)))))) sNx))
set_option synthInstance.maxHeartbeats 0 in
set_option synthInstance.maxSize 1000000 in
instance lsZ : LS bZ := by unfold bZ; infer_instance
theorem tZ : clR (bZ (List.replicate 8 none) []) = true := by kernel_rfl
theorem law_eq : m_law = sSeq (sFor (iSeq (eCall f__law_odd aNil)) (gNm 1) bA) (sSeq b0 (sSeq b1 (sSeq b2 bZ))) := rfl
theorem odd_g (xs : List VI) : f__law_odd [] [.scr xs] = .ok (.ref 2) [.scr xs, .lst [.bl true], .lst [.non, .str s_x, .str s_empty, .int 1, .int 0, .ref 1, .int 25]] := by kernel_rfl
theorem pure_law (ns : List Int) (hl : ns.length ≤ 63) : ∃ h', f_law [.ref 0] [.scr (ns.map VI.int)] = .ok (.bl true) h' := by
  obtain ⟨h1, e1⟩ : ∃ h1 : Hi, h1 = [.scr (ns.map VI.int), .lst [.bl true], .lst [.non, .str s_x, .str s_empty, .int 1, .int 0, .ref 1, .int 25]] := ⟨_, rfl⟩
  have g1 : h1[1]? = some (.lst [.bl true]) := by rw [e1]; rfl
  have g2 : h1[2]? = some (.lst [.non, .str s_x, .str s_empty, .int 1, .int 0, .ref 1, .int 25]) := by rw [e1]; rfl
  have eo := odd_g (ns.map VI.int)
  rw [← e1] at eo
  obtain ⟨σ2, h2, e2, F2, l2⟩ := cl_for (body := bA) (i := 1) (N := 8) (σ := [some (.ref 0), none, none, none, none, none, none, none]) (P := fun (h : Hi) => h[1]? = some (OI.lst [.bl true])) g2 rfl g1 (fun (a b : Hi) p F => F.at_ 1 _ (by simp) p)
    (fun j v σ h ev l p => by
      match j, ev with
      | 0, ev => cases ev; exact cl_nxT (v0 := .non) tA0 l (by decide) p .non
      | 1, ev => cases ev; exact cl_nxT (v0 := .str s_x) tA1 l (by decide) p (.str _)
      | 2, ev => cases ev; exact cl_nxT (v0 := .str s_empty) tA2 l (by decide) p (.str _)
      | 3, ev => cases ev; exact cl_nxT (v0 := .int 1) tA3 l (by decide) p (.int _)
      | 4, ev => cases ev; exact cl_nxT (v0 := .int 0) tA4 l (by decide) p (.int _)
      | 5, ev => cases ev; exact cl_nxT (v0 := .ref 0) tA5 l (by decide) p (.ref rfl)
      | 6, ev => cases ev; exact cl_nxT (v0 := .int 25) tA6 l (by decide) p (.int _)
      | j + 7, ev => simp at ev)
  obtain ⟨σ3, h3, e3, _, l3⟩ := cl_nx (m := b0) (h := h2) t0 l2
  obtain ⟨σ4, h4, e4, _, l4⟩ := cl_nx (m := b1) (h := h3) t1 l3
  obtain ⟨σ5, h5, e5, _, l5⟩ := cl_nx (m := b2) (h := h4) t2 l4
  obtain ⟨h6, e6⟩ := cl_rt (m := bZ) (h := h5) tZ l5
  refine ⟨h6, ?_⟩
  unfold f_law
  rw [law_eq]
  have fu : (Itm.lst 2).fuel h1 = 7 := by rw [e1]; rfl
  have sq : seqOf (.ref 2) h1 = some (.lst 2) := by rw [e1]; rfl
  rw [x_run1]
  generalize bA = BA at e2 ⊢
  generalize b0 = B0 at e3 ⊢
  generalize b1 = B1 at e4 ⊢
  generalize b2 = B2 at e5 ⊢
  generalize bZ = BZ at e6 ⊢
  have rp : (List.replicate 7 none : Sg) = [none, none, none, none, none, none, none] := rfl
  rw [rp]
  have e2 : turns (Itm.lst 2) (gNm 1) BA 7 0 [some (VI.ref 0), none, none, none, none, none, none, none] h1 = .nx σ2 h2 := e2
  simp only [x_sSeq, x_sFor, iSeq, x_eCall, x_aNil, x_bind, eo, sq, x_ofI, x_bindS, fu, e2, x_nx, e3, e4, e5, e6]
  rfl
end Lw
end
set_option maxHeartbeats 0
namespace Lw
open PySem PySem.Spec PyProof.Rows PySem.W L2 He ML MHP HandSHeadRun
abbrev Rr : OpenRow := OpenLaw.row PySem.Challenge.rw_epochrooms_k05_books_refused
abbrev PP : Program := PySem.Challenge.pw_epochrooms_k05_books_refused
abbrev zA (i : Nat) := defArgs (tS PP i)
abbrev zAC (i j : Nat) := defArgs (cS PP i j)
abbrev zB (i : Nat) := defBody (tS PP i)
abbrev zBC (i j : Nat) := defBody (cS PP i j)
abbrev zS (i : Nat) := defScope (tS PP i)
abbrev zSC (i j : Nat) := defScope (cS PP i j)
abbrev zo (x : String) : Str := .ofString x
abbrev zi (n : Int) : Value := .int n 0
abbrev N := @BT.node
abbrev Z := BT.nil
abbrev zhK (P : Params) (x : String) := PyData.keyHash P (.ofString x)
abbrev zsK (x : String) (n : Nat) : Value := .str (.ofString x) n
abbrev zt (l : List Value) : Obj := ⟨.type "tuple", none, .seq l.toArray 0, #[]⟩
abbrev zc (l : List Value) : Obj := ⟨.type "code", none, .fields l.toArray, #[]⟩
abbrev zf (f : FuncData) : Obj := ⟨.type "function", none, .func f, #[]⟩
abbrev zm (x y : String) (a b c d e f : Nat) (q : String) (n r : Nat) : Obj := zf ⟨.ofString x, .ofString y, zAC a b, .stmts (zBC c d), zSC e f, 3, [], .none, .none, .none, zsK q n, none, .ref r, .none, 0⟩
abbrev zn (l : List Value) : Obj := ⟨.none, none, .fields l.toArray, #[]⟩
def B11 : Obj := zt []
def B12 : Obj := zn []
def B13 : Obj := zc [(zsK "<module>" 182), (zsK "<module>" 183), (zsK "/claim/cut.py" 184), (zi 1), (zi 0), (zi 0), (zi 0), (zi 0), (.ref 11), (.bool false), (zi 181), (.ref 12), .none, .none, .none, .none, (zi 185), (zi 1), (zsK "/claim/cut.py" 186)]
def B14 : Obj := ⟨(.type "frame"), none, .plain, #[(some (.ref 13)), (some (.ref 3)), (some (.ref 3)), none, (some (zsK "__main__" 164)), none, (some (.ref 0))]⟩
def C3 (P : Params) : Obj := ⟨(.type "dict"), none, (.dict #[⟨(zhK P "__name__"), (zsK "__name__" 165), (zsK "epochrooms.books" 304)⟩, ⟨(zhK P "__doc__"), (zsK "__doc__" 166), .none⟩, ⟨(zhK P "__package__"), (zsK "__package__" 167), .none⟩, ⟨(zhK P "__loader__"), (zsK "__loader__" 168), (.builtin "__main__.__loader__#opaque")⟩, ⟨(zhK P "__spec__"), (zsK "__spec__" 169), .none⟩, ⟨(zhK P "__annotations__"), (zsK "__annotations__" 170), (.ref 6)⟩, ⟨(zhK P "__builtins__"), (zsK "__builtins__" 171), (.ref 4)⟩, ⟨(zhK P "__file__"), (zsK "__file__" 173), (zsK "/claim/cut.py" 172)⟩, ⟨(zhK P "__cached__"), (zsK "__cached__" 174), .none⟩, ⟨(zhK P "_wall"), (zsK "_wall" 193), (.ref 21)⟩, ⟨(zhK P "RoomsError"), (zsK "RoomsError" 213), (.ref 31)⟩, ⟨(zhK P "NoSwitch"), (zsK "NoSwitch" 240), (.ref 53)⟩, ⟨(zhK P "NoValue"), (zsK "NoValue" 267), (.ref 74)⟩, ⟨(zhK P "NoBook"), (zsK "NoBook" 294), (.ref 95)⟩, ⟨(zhK P "is_whole"), (zsK "is_whole" 303), (.ref 104)⟩, ⟨(zhK P "ORDERS"), (zsK "ORDERS" 350), (.ref 105)⟩, ⟨(zhK P "LEAST_EPOCHS"), (zsK "LEAST_EPOCHS" 352), (.int 2 351)⟩, ⟨(zhK P "MOST_EPOCHS"), (zsK "MOST_EPOCHS" 354), (.int 6 353)⟩, ⟨(zhK P "MOST_COUNTS"), (zsK "MOST_COUNTS" 356), (.int 4 355)⟩, ⟨(zhK P "values_at"), (zsK "values_at" 364), (.ref 123)⟩, ⟨(zhK P "is_same"), (zsK "is_same" 372), (.ref 130)⟩, ⟨(zhK P "is_value"), (zsK "is_value" 378), (.ref 135)⟩, ⟨(zhK P "care"), (zsK "care" 388), (.ref 142)⟩, ⟨(zhK P "Book"), (zsK "Book" 518), (.ref 243)⟩] 24), #[]⟩
def C12 : Obj := zn [(zi 1), (zi 0), (.ref 20), (zi 5), (zi 0), (.ref 27), (zi 7), (zi 0), (.ref 41), (zi 12), (zi 0), (.ref 62), (zi 17), (zi 0), (.ref 83), (zi 23), (zi 0), (.ref 103), (zi 30), (zi 0), (.ref 122), (zi 36), (zi 0), (.ref 129), (zi 42), (zi 0), (.ref 134), (zi 44), (zi 0), (.ref 141), (zi 53), (zi 0), (.ref 148)]
def C15 : Obj := zt []
def C16 : Obj := zn []
def C17 : Obj := zt [(zsK "k" 190)]
def C18 : Obj := zt []
def C19 : Obj := ⟨.none, none, (.func ⟨(zo "_wall"), (zo "_wall"), (zA 0), (.stmts (zB 0)), (zS 0), 0, [], .none, .none, .none, .none, none, .none, .none, 0⟩), #[]⟩
def C20 : Obj := zc [(zsK "_wall" 187), (zsK "_wall" 188), (zsK "/claim/cut.py" 189), (zi 1), (zi 1), (zi 0), (zi 0), (zi 3), (.ref 15), (.bool true), (zi 181), (.ref 16), .none, (.ref 17), (.ref 18), (.ref 19), (zi 191), (zi 1), (zsK "/claim/cut.py" 192)]
def C21 : Obj := zf ⟨(zo "_wall"), (zo "_wall"), (zA 0), (.stmts (zB 0)), (zS 0), 3, [], .none, .none, .none, (zsK "__main__" 164), none, (.ref 20), .none, 0⟩
def C22 : Obj := zt [(.type "ValueError")]
def C23 : Obj := ⟨(.type "builtin_function_or_method"), none, (.fields #[(.builtin "type.__prepare__"), (.type "type")]), #[]⟩
def C24 (P : Params) : Obj := ⟨(.type "dict"), none, (.dict #[⟨(zhK P "__module__"), (zsK "__module__" 203), (zsK "epochrooms.errors" 194)⟩, ⟨(zhK P "__qualname__"), (zsK "__qualname__" 205), (zsK "RoomsError" 204)⟩, ⟨(zhK P "__firstlineno__"), (zsK "__firstlineno__" 207), (.int 5 206)⟩, ⟨(zhK P "__static_attributes__"), (zsK "__static_attributes__" 208), (.ref 29)⟩] 4), #[]⟩
def C25 : Obj := zt []
def C26 : Obj := zn []
def C27 : Obj := zc [(zsK "RoomsError" 198), (zsK "RoomsError" 199), (zsK "/claim/cut.py" 200), (zi 5), (zi 0), (zi 0), (zi 0), (zi 0), (.ref 25), (.bool false), (zi 181), (.ref 26), .none, .none, .none, .none, (zi 201), (zi 5), (zsK "/claim/cut.py" 202)]
def C28 : Obj := ⟨(.type "frame"), none, .plain, #[(some (.ref 27)), (some (.ref 3)), (some (.ref 24)), none, (some (zsK "epochrooms.errors" 194)), none, (some (.ref 0))]⟩
def C29 : Obj := zt []
def C30 (P : Params) : Obj := ⟨(.type "dict"), none, (.dict #[⟨(zhK P "__module__"), (zsK "__module__" 203), (zsK "epochrooms.errors" 194)⟩, ⟨(zhK P "__firstlineno__"), (zsK "__firstlineno__" 207), (.int 5 206)⟩, ⟨(zhK P "__static_attributes__"), (zsK "__static_attributes__" 208), (.ref 29)⟩, ⟨(zhK P "__weakref__"), (zsK "__weakref__" 210), (.ref 32)⟩, ⟨(zhK P "__doc__"), (zsK "__doc__" 211), .none⟩] 3), #[]⟩
def C31 : Obj := ⟨(.type "type"), none, (.cls ⟨(zo "RoomsError"), [(.type "ValueError")], [(.ref 31), (.type "ValueError"), (.type "Exception"), (.type "BaseException"), (.type "object")], 30, (zo "RoomsError"), true, [], [(.ref 53), (.ref 74), (.ref 95)], false, none, false⟩), #[(some (.ref 22)), none, (some (zsK "RoomsError" 196)), (some (zsK "RoomsError" 204)), (some (.builtin "ValueError.__new__")), (some (.bool true))]⟩
def C32 : Obj := ⟨(.type "getset_descriptor"), none, (.fields #[(zsK "__weakref__" 209), (.ref 31), (.builtin "ExceptionGroup.__weakref__"), .none]), #[]⟩
def C33 : Obj := ⟨(.type "super"), none, (.fields #[(.ref 31), (.ref 31), (.ref 31)]), #[]⟩
def C34 : Obj := ⟨(.type "builtin_function_or_method"), none, (.fields #[(.builtin "object.__init_subclass__"), (.ref 31)]), #[]⟩
def C35 : Obj := zt [(.ref 31)]
def C36 : Obj := ⟨(.type "builtin_function_or_method"), none, (.fields #[(.builtin "type.__prepare__"), (.type "type")]), #[]⟩
def C37 (P : Params) : Obj := ⟨(.type "dict"), none, (.dict #[⟨(zhK P "__module__"), (zsK "__module__" 221), (zsK "epochrooms.errors" 194)⟩, ⟨(zhK P "__qualname__"), (zsK "__qualname__" 223), (zsK "NoSwitch" 222)⟩, ⟨(zhK P "__firstlineno__"), (zsK "__firstlineno__" 225), (.int 7 224)⟩, ⟨(zhK P "__init__"), (zsK "__init__" 234), (.ref 50)⟩, ⟨(zhK P "__static_attributes__"), (zsK "__static_attributes__" 236), (.ref 51)⟩, ⟨(zhK P "__classcell__"), (zsK "__classcell__" 237), (.ref 38)⟩] 6), #[]⟩
def C38 : Obj := ⟨(.type "cell"), none, (.cell (some (.ref 53))), #[]⟩
def C39 : Obj := zt []
def C40 : Obj := zn [(zi 9), (zi 4), (.ref 49)]
def C41 : Obj := zc [(zsK "NoSwitch" 216), (zsK "NoSwitch" 217), (zsK "/claim/cut.py" 218), (zi 7), (zi 0), (zi 0), (zi 0), (zi 0), (.ref 39), (.bool false), (zi 181), (.ref 40), .none, .none, .none, .none, (zi 219), (zi 7), (zsK "/claim/cut.py" 220)]
def C42 : Obj := ⟨(.type "frame"), none, .plain, #[(some (.ref 41)), (some (.ref 3)), (some (.ref 37)), none, (some (zsK "epochrooms.errors" 194)), none, (some (.ref 0))]⟩
def C43 : Obj := zt [(.ref 38)]
def C44 : Obj := zt [(zsK "__class__" 229)]
def C45 : Obj := zn []
def C46 : Obj := zt [(zsK "self" 230), (zsK "word" 231)]
def C47 : Obj := zt []
def C48 : Obj := ⟨.none, none, (.func ⟨(zo "__init__"), (zo "NoSwitch.__init__"), (zAC 3 0), (.stmts (zBC 3 0)), (zSC 4 0), 0, [], .none, .none, .none, .none, none, .none, .none, 0⟩), #[]⟩
def C49 : Obj := zc [(zsK "__init__" 226), (zsK "NoSwitch.__init__" 227), (zsK "/claim/cut.py" 228), (zi 9), (zi 2), (zi 0), (zi 0), (zi 3), (.ref 44), (.bool true), (zi 181), (.ref 45), .none, (.ref 46), (.ref 47), (.ref 48), (zi 232), (zi 9), (zsK "/claim/cut.py" 233)]
def C50 : Obj := zf ⟨(zo "__init__"), (zo "NoSwitch.__init__"), (zAC 3 0), (.stmts (zBC 3 0)), (zSC 4 0), 3, [((zo "__class__"), 38)], .none, .none, .none, (zsK "epochrooms.errors" 194), none, (.ref 49), (.ref 43), 0⟩
def C51 : Obj := zt [(zsK "word" 235)]
def C52 (P : Params) : Obj := ⟨(.type "dict"), none, (.dict #[⟨(zhK P "__module__"), (zsK "__module__" 221), (zsK "epochrooms.errors" 194)⟩, ⟨(zhK P "__firstlineno__"), (zsK "__firstlineno__" 225), (.int 7 224)⟩, ⟨(zhK P "__init__"), (zsK "__init__" 234), (.ref 50)⟩, ⟨(zhK P "__static_attributes__"), (zsK "__static_attributes__" 236), (.ref 51)⟩, ⟨(zhK P "__doc__"), (zsK "__doc__" 238), .none⟩] 3), #[]⟩
def C53 : Obj := ⟨(.type "type"), none, (.cls ⟨(zo "NoSwitch"), [(.ref 31)], [(.ref 53), (.ref 31), (.type "ValueError"), (.type "Exception"), (.type "BaseException"), (.type "object")], 52, (zo "NoSwitch"), true, [], [], false, none, false⟩), #[(some (.ref 35)), none, (some (zsK "NoSwitch" 214)), (some (zsK "NoSwitch" 222)), (some (.builtin "ValueError.__new__")), (some (.bool true))]⟩
def C54 : Obj := ⟨(.type "super"), none, (.fields #[(.ref 53), (.ref 53), (.ref 53)]), #[]⟩
def C55 : Obj := ⟨(.type "builtin_function_or_method"), none, (.fields #[(.builtin "object.__init_subclass__"), (.ref 53)]), #[]⟩
def C56 : Obj := zt [(.ref 31)]
def C57 : Obj := ⟨(.type "builtin_function_or_method"), none, (.fields #[(.builtin "type.__prepare__"), (.type "type")]), #[]⟩
def C58 (P : Params) : Obj := ⟨(.type "dict"), none, (.dict #[⟨(zhK P "__module__"), (zsK "__module__" 248), (zsK "epochrooms.errors" 194)⟩, ⟨(zhK P "__qualname__"), (zsK "__qualname__" 250), (zsK "NoValue" 249)⟩, ⟨(zhK P "__firstlineno__"), (zsK "__firstlineno__" 252), (.int 12 251)⟩, ⟨(zhK P "__init__"), (zsK "__init__" 261), (.ref 71)⟩, ⟨(zhK P "__static_attributes__"), (zsK "__static_attributes__" 263), (.ref 72)⟩, ⟨(zhK P "__classcell__"), (zsK "__classcell__" 264), (.ref 59)⟩] 6), #[]⟩
def C59 : Obj := ⟨(.type "cell"), none, (.cell (some (.ref 74))), #[]⟩
def C60 : Obj := zt []
def C61 : Obj := zn [(zi 14), (zi 4), (.ref 70)]
def C62 : Obj := zc [(zsK "NoValue" 243), (zsK "NoValue" 244), (zsK "/claim/cut.py" 245), (zi 12), (zi 0), (zi 0), (zi 0), (zi 0), (.ref 60), (.bool false), (zi 181), (.ref 61), .none, .none, .none, .none, (zi 246), (zi 12), (zsK "/claim/cut.py" 247)]
def C63 : Obj := ⟨(.type "frame"), none, .plain, #[(some (.ref 62)), (some (.ref 3)), (some (.ref 58)), none, (some (zsK "epochrooms.errors" 194)), none, (some (.ref 0))]⟩
def C64 : Obj := zt [(.ref 59)]
def C65 : Obj := zt [(zsK "__class__" 256)]
def C66 : Obj := zn []
def C67 : Obj := zt [(zsK "self" 257), (zsK "word" 258)]
def C68 : Obj := zt []
def C69 : Obj := ⟨.none, none, (.func ⟨(zo "__init__"), (zo "NoValue.__init__"), (zAC 4 0), (.stmts (zBC 4 0)), (zSC 4 0), 0, [], .none, .none, .none, .none, none, .none, .none, 0⟩), #[]⟩
def C70 : Obj := zc [(zsK "__init__" 253), (zsK "NoValue.__init__" 254), (zsK "/claim/cut.py" 255), (zi 14), (zi 2), (zi 0), (zi 0), (zi 3), (.ref 65), (.bool true), (zi 181), (.ref 66), .none, (.ref 67), (.ref 68), (.ref 69), (zi 259), (zi 14), (zsK "/claim/cut.py" 260)]
def C71 : Obj := zf ⟨(zo "__init__"), (zo "NoValue.__init__"), (zAC 4 0), (.stmts (zBC 4 0)), (zSC 4 0), 3, [((zo "__class__"), 59)], .none, .none, .none, (zsK "epochrooms.errors" 194), none, (.ref 70), (.ref 64), 0⟩
def C72 : Obj := zt [(zsK "word" 262)]
def C73 (P : Params) : Obj := ⟨(.type "dict"), none, (.dict #[⟨(zhK P "__module__"), (zsK "__module__" 248), (zsK "epochrooms.errors" 194)⟩, ⟨(zhK P "__firstlineno__"), (zsK "__firstlineno__" 252), (.int 12 251)⟩, ⟨(zhK P "__init__"), (zsK "__init__" 261), (.ref 71)⟩, ⟨(zhK P "__static_attributes__"), (zsK "__static_attributes__" 263), (.ref 72)⟩, ⟨(zhK P "__doc__"), (zsK "__doc__" 265), .none⟩] 3), #[]⟩
def C74 : Obj := ⟨(.type "type"), none, (.cls ⟨(zo "NoValue"), [(.ref 31)], [(.ref 74), (.ref 31), (.type "ValueError"), (.type "Exception"), (.type "BaseException"), (.type "object")], 73, (zo "NoValue"), true, [], [], false, none, false⟩), #[(some (.ref 56)), none, (some (zsK "NoValue" 241)), (some (zsK "NoValue" 249)), (some (.builtin "ValueError.__new__")), (some (.bool true))]⟩
def C75 : Obj := ⟨(.type "super"), none, (.fields #[(.ref 74), (.ref 74), (.ref 74)]), #[]⟩
def C76 : Obj := ⟨(.type "builtin_function_or_method"), none, (.fields #[(.builtin "object.__init_subclass__"), (.ref 74)]), #[]⟩
def C77 : Obj := zt [(.ref 31)]
def C78 : Obj := ⟨(.type "builtin_function_or_method"), none, (.fields #[(.builtin "type.__prepare__"), (.type "type")]), #[]⟩
def C79 (P : Params) : Obj := ⟨(.type "dict"), none, (.dict #[⟨(zhK P "__module__"), (zsK "__module__" 275), (zsK "epochrooms.errors" 194)⟩, ⟨(zhK P "__qualname__"), (zsK "__qualname__" 277), (zsK "NoBook" 276)⟩, ⟨(zhK P "__firstlineno__"), (zsK "__firstlineno__" 279), (.int 17 278)⟩, ⟨(zhK P "__init__"), (zsK "__init__" 288), (.ref 92)⟩, ⟨(zhK P "__static_attributes__"), (zsK "__static_attributes__" 290), (.ref 93)⟩, ⟨(zhK P "__classcell__"), (zsK "__classcell__" 291), (.ref 80)⟩] 6), #[]⟩
def C80 : Obj := ⟨(.type "cell"), none, (.cell (some (.ref 95))), #[]⟩
def C81 : Obj := zt []
def C82 : Obj := zn [(zi 19), (zi 4), (.ref 91)]
def C83 : Obj := zc [(zsK "NoBook" 270), (zsK "NoBook" 271), (zsK "/claim/cut.py" 272), (zi 17), (zi 0), (zi 0), (zi 0), (zi 0), (.ref 81), (.bool false), (zi 181), (.ref 82), .none, .none, .none, .none, (zi 273), (zi 17), (zsK "/claim/cut.py" 274)]
def C84 : Obj := ⟨(.type "frame"), none, .plain, #[(some (.ref 83)), (some (.ref 3)), (some (.ref 79)), none, (some (zsK "epochrooms.errors" 194)), none, (some (.ref 0))]⟩
def C85 : Obj := zt [(.ref 80)]
def C86 : Obj := zt [(zsK "__class__" 283)]
def C87 : Obj := zn []
def C88 : Obj := zt [(zsK "self" 284), (zsK "value" 285)]
def C89 : Obj := zt []
def C90 : Obj := ⟨.none, none, (.func ⟨(zo "__init__"), (zo "NoBook.__init__"), (zAC 5 0), (.stmts (zBC 5 0)), (zSC 5 0), 0, [], .none, .none, .none, .none, none, .none, .none, 0⟩), #[]⟩
def C91 : Obj := zc [(zsK "__init__" 280), (zsK "NoBook.__init__" 281), (zsK "/claim/cut.py" 282), (zi 19), (zi 2), (zi 0), (zi 0), (zi 3), (.ref 86), (.bool true), (zi 181), (.ref 87), .none, (.ref 88), (.ref 89), (.ref 90), (zi 286), (zi 19), (zsK "/claim/cut.py" 287)]
def C92 : Obj := zf ⟨(zo "__init__"), (zo "NoBook.__init__"), (zAC 5 0), (.stmts (zBC 5 0)), (zSC 5 0), 3, [((zo "__class__"), 80)], .none, .none, .none, (zsK "epochrooms.errors" 194), none, (.ref 91), (.ref 85), 0⟩
def C93 : Obj := zt [(zsK "value" 289)]
def C94 (P : Params) : Obj := ⟨(.type "dict"), none, (.dict #[⟨(zhK P "__module__"), (zsK "__module__" 275), (zsK "epochrooms.errors" 194)⟩, ⟨(zhK P "__firstlineno__"), (zsK "__firstlineno__" 279), (.int 17 278)⟩, ⟨(zhK P "__init__"), (zsK "__init__" 288), (.ref 92)⟩, ⟨(zhK P "__static_attributes__"), (zsK "__static_attributes__" 290), (.ref 93)⟩, ⟨(zhK P "__doc__"), (zsK "__doc__" 292), .none⟩] 3), #[]⟩
def C95 : Obj := ⟨(.type "type"), none, (.cls ⟨(zo "NoBook"), [(.ref 31)], [(.ref 95), (.ref 31), (.type "ValueError"), (.type "Exception"), (.type "BaseException"), (.type "object")], 94, (zo "NoBook"), true, [], [], false, none, false⟩), #[(some (.ref 77)), none, (some (zsK "NoBook" 268)), (some (zsK "NoBook" 276)), (some (.builtin "ValueError.__new__")), (some (.bool true))]⟩
def C96 : Obj := ⟨(.type "super"), none, (.fields #[(.ref 95), (.ref 95), (.ref 95)]), #[]⟩
def C97 : Obj := ⟨(.type "builtin_function_or_method"), none, (.fields #[(.builtin "object.__init_subclass__"), (.ref 95)]), #[]⟩
def C98 : Obj := zt []
def C99 : Obj := zn []
def C100 : Obj := zt [(zsK "value" 300)]
def C101 : Obj := zt []
def C102 : Obj := ⟨.none, none, (.func ⟨(zo "is_whole"), (zo "is_whole"), (zA 7), (.stmts (zB 7)), (zS 7), 0, [], .none, .none, .none, .none, none, .none, .none, 0⟩), #[]⟩
def C103 : Obj := zc [(zsK "is_whole" 297), (zsK "is_whole" 298), (zsK "/claim/cut.py" 299), (zi 23), (zi 1), (zi 0), (zi 0), (zi 3), (.ref 98), (.bool true), (zi 181), (.ref 99), .none, (.ref 100), (.ref 101), (.ref 102), (zi 301), (zi 23), (zsK "/claim/cut.py" 302)]
def C104 : Obj := zf ⟨(zo "is_whole"), (zo "is_whole"), (zA 7), (.stmts (zB 7)), (zS 7), 3, [], .none, .none, .none, (zsK "epochrooms.numbers" 295), none, (.ref 103), .none, 0⟩
def C105 (P : Params) : Obj := ⟨(.type "dict"), none, (.dict #[⟨(zhK P "check"), (zsK "check" 306), (.ref 106)⟩, ⟨(zhK P "fetch"), (zsK "fetch" 307), (.ref 107)⟩, ⟨(zhK P "mark"), (zsK "mark" 310), (.ref 108)⟩, ⟨(zhK P "test"), (zsK "test" 313), (.ref 109)⟩, ⟨(zhK P "step"), (zsK "step" 316), (.ref 110)⟩, ⟨(zhK P "told"), (zsK "told" 320), (.ref 111)⟩, ⟨(zhK P "look"), (zsK "look" 321), (.ref 112)⟩, ⟨(zhK P "chain"), (zsK "chain" 324), (.ref 113)⟩, ⟨(zhK P "still"), (zsK "still" 328), (.ref 114)⟩, ⟨(zhK P "read"), (zsK "read" 331), (.ref 115)⟩, ⟨(zhK P "sleep"), (zsK "sleep" 334), (.ref 116)⟩] 11), #[]⟩
def C106 : Obj := zt [(.bool false), (.bool true)]
def C107 : Obj := zt [(zsK "ahead" 308), (zsK "behind" 309)]
def C108 : Obj := zt [(zsK "own" 311), (zsK "fresh" 312)]
def C109 : Obj := zt [(zsK "last" 314), (zsK "equal" 315)]
def C110 : Obj := zt [(zsK "add" 317), (zsK "set" 318), (zsK "still" 319)]
def C111 : Obj := zt [(.bool false), (.bool true)]
def C112 : Obj := zt [(zsK "ahead" 322), (zsK "behind" 323)]
def C113 : Obj := zt [(zsK "next" 325), (zsK "both" 326), (zsK "none" 327)]
def C114 : Obj := zt [(zsK "anywhere" 329), (zsK "outside" 330)]
def C115 : Obj := zt [(zsK "ahead" 332), (zsK "behind" 333)]
def C116 : Obj := zt [(zsK "inside" 335), (zsK "late" 336), (zsK "outside" 337), (zsK "none" 338)]
def C117 : Obj := zt []
def C118 : Obj := zn []
def C119 : Obj := zt [(zsK "word" 360), (zsK "own" 361)]
def C120 : Obj := zt []
def C121 : Obj := ⟨.none, none, (.func ⟨(zo "values_at"), (zo "values_at"), (zA 13), (.stmts (zB 13)), (zS 13), 0, [], .none, .none, .none, .none, none, .none, .none, 0⟩), #[]⟩
def C122 : Obj := zc [(zsK "values_at" 357), (zsK "values_at" 358), (zsK "/claim/cut.py" 359), (zi 30), (zi 2), (zi 0), (zi 0), (zi 3), (.ref 117), (.bool true), (zi 181), (.ref 118), .none, (.ref 119), (.ref 120), (.ref 121), (zi 362), (zi 30), (zsK "/claim/cut.py" 363)]
def C123 : Obj := zf ⟨(zo "values_at"), (zo "values_at"), (zA 13), (.stmts (zB 13)), (zS 13), 3, [], .none, .none, .none, (zsK "epochrooms.books" 304), none, (.ref 122), .none, 0⟩
def C124 : Obj := zt []
def C125 : Obj := zn []
def C126 : Obj := zt [(zsK "value" 368), (zsK "one" 369)]
def C127 : Obj := zt []
def C128 : Obj := ⟨.none, none, (.func ⟨(zo "is_same"), (zo "is_same"), (zA 14), (.stmts (zB 14)), (zS 14), 0, [], .none, .none, .none, .none, none, .none, .none, 0⟩), #[]⟩
def C129 : Obj := zc [(zsK "is_same" 365), (zsK "is_same" 366), (zsK "/claim/cut.py" 367), (zi 36), (zi 2), (zi 0), (zi 0), (zi 3), (.ref 124), (.bool true), (zi 181), (.ref 125), .none, (.ref 126), (.ref 127), (.ref 128), (zi 370), (zi 36), (zsK "/claim/cut.py" 371)]
def C130 : Obj := zf ⟨(zo "is_same"), (zo "is_same"), (zA 14), (.stmts (zB 14)), (zS 14), 3, [], .none, .none, .none, (zsK "epochrooms.books" 304), none, (.ref 129), .none, 0⟩
def C131 : Obj := zt []
def C132 : Obj := zn []
def C133 : Obj := ⟨.none, none, (.func ⟨(zo "is_value"), (zo "is_value"), (zA 15), (.stmts (zB 15)), (zS 15), 0, [], .none, .none, .none, .none, none, .none, .none, 0⟩), #[]⟩
def C134 : Obj := zc [(zsK "is_value" 373), (zsK "is_value" 374), (zsK "/claim/cut.py" 375), (zi 42), (zi 2), (zi 0), (zi 0), (zi 3), (.ref 131), (.bool true), (zi 181), (.ref 132), .none, .none, .none, (.ref 133), (zi 376), (zi 42), (zsK "/claim/cut.py" 377)]
def C135 : Obj := zf ⟨(zo "is_value"), (zo "is_value"), (zA 15), (.stmts (zB 15)), (zS 15), 3, [], .none, .none, .none, (zsK "epochrooms.books" 304), none, (.ref 134), .none, 0⟩
def C136 : Obj := zt []
def C137 : Obj := zn []
def C138 : Obj := zt [(zsK "word" 382), (zsK "value" 383), (zsK "ahead" 384), (zsK "one" 385)]
def C139 : Obj := zt []
def C140 : Obj := ⟨.none, none, (.func ⟨(zo "care"), (zo "care"), (zA 16), (.stmts (zB 16)), (zS 16), 0, [], .none, .none, .none, .none, none, .none, .none, 0⟩), #[]⟩
def C141 : Obj := zc [(zsK "care" 379), (zsK "care" 380), (zsK "/claim/cut.py" 381), (zi 44), (zi 2), (zi 0), (zi 0), (zi 3), (.ref 136), (.bool true), (zi 181), (.ref 137), .none, (.ref 138), (.ref 139), (.ref 140), (zi 386), (zi 44), (zsK "/claim/cut.py" 387)]
def C142 : Obj := zf ⟨(zo "care"), (zo "care"), (zA 16), (.stmts (zB 16)), (zS 16), 3, [], .none, .none, .none, (zsK "epochrooms.books" 304), none, (.ref 141), .none, 0⟩
def C143 : Obj := zt []
def C144 : Obj := ⟨(.type "builtin_function_or_method"), none, (.fields #[(.builtin "type.__prepare__"), (.type "type")]), #[]⟩
def C145 (P : Params) : Obj := ⟨(.type "dict"), none, (.dict #[⟨(zhK P "__module__"), (zsK "__module__" 396), (zsK "epochrooms.books" 304)⟩, ⟨(zhK P "__qualname__"), (zsK "__qualname__" 398), (zsK "Book" 397)⟩, ⟨(zhK P "__firstlineno__"), (zsK "__firstlineno__" 400), (.int 53 399)⟩, ⟨(zhK P "WORDS"), (zsK "WORDS" 401), (.ref 150)⟩, ⟨(zhK P "WAY"), (zsK "WAY" 403), (zsK "" 402)⟩, ⟨(zhK P "__init__"), (zsK "__init__" 412), (.ref 157)⟩, ⟨(zhK P "first_wrong"), (zsK "first_wrong" 421), (.ref 164)⟩, ⟨(zhK P "way"), (zsK "way" 429), (.ref 172)⟩, ⟨(zhK P "look_at_word"), (zsK "look_at_word" 437), (.ref 179)⟩, ⟨(zhK P "switches"), (zsK "switches" 443), (.ref 184)⟩, ⟨(zhK P "listed"), (zsK "listed" 450), (.ref 191)⟩, ⟨(zhK P "change"), (zsK "change" 458), (.ref 198)⟩, ⟨(zhK P "__getitem__"), (zsK "__getitem__" 466), (.ref 205)⟩, ⟨(zhK P "__setitem__"), (zsK "__setitem__" 476), (.ref 212)⟩, ⟨(zhK P "__iter__"), (zsK "__iter__" 483), (.ref 219)⟩, ⟨(zhK P "__len__"), (zsK "__len__" 490), (.ref 226)⟩, ⟨(zhK P "__eq__"), (zsK "__eq__" 498), (.ref 233)⟩, ⟨(zhK P "__le__"), (zsK "__le__" 507), (.ref 240)⟩, ⟨(zhK P "__static_attributes__"), (zsK "__static_attributes__" 510), (.ref 241)⟩] 19), #[]⟩
def C146 : Obj := zt []
def C147 : Obj := zn [(zi 57), (zi 4), (.ref 156), (zi 64), (zi 4), (.ref 163), (zi 71), (zi 4), (.ref 170), (zi 74), (zi 4), (.ref 178), (zi 78), (zi 4), (.ref 183), (zi 81), (zi 4), (.ref 190), (zi 84), (zi 4), (.ref 197), (zi 87), (zi 4), (.ref 204), (zi 91), (zi 4), (.ref 211), (zi 98), (zi 4), (.ref 218), (zi 101), (zi 4), (.ref 225), (zi 104), (zi 4), (.ref 232), (zi 107), (zi 4), (.ref 239)]
def C148 : Obj := zc [(zsK "Book" 391), (zsK "Book" 392), (zsK "/claim/cut.py" 393), (zi 53), (zi 0), (zi 0), (zi 0), (zi 0), (.ref 146), (.bool false), (zi 181), (.ref 147), .none, .none, .none, .none, (zi 394), (zi 53), (zsK "/claim/cut.py" 395)]
def C149 : Obj := ⟨(.type "frame"), none, .plain, #[(some (.ref 148)), (some (.ref 3)), (some (.ref 145)), none, (some (zsK "epochrooms.books" 304)), none, (some (.ref 0))]⟩
def C150 : Obj := zt []
def C151 : Obj := zt []
def C152 : Obj := zn []
def C153 : Obj := zt [(zsK "self" 407), (zsK "own" 408), (zsK "wrong" 409)]
def C154 : Obj := zt []
def C155 : Obj := ⟨.none, none, (.func ⟨(zo "__init__"), (zo "Book.__init__"), (zAC 17 2), (.stmts (zBC 17 2)), (zSC 17 2), 0, [], .none, .none, .none, .none, none, .none, .none, 0⟩), #[]⟩
def C156 : Obj := zc [(zsK "__init__" 404), (zsK "Book.__init__" 405), (zsK "/claim/cut.py" 406), (zi 57), (zi 2), (zi 0), (zi 0), (zi 3), (.ref 151), (.bool true), (zi 181), (.ref 152), .none, (.ref 153), (.ref 154), (.ref 155), (zi 410), (zi 57), (zsK "/claim/cut.py" 411)]
def C157 : Obj := zm "__init__" "Book.__init__" 17 2 17 2 17 2 "epochrooms.books" 304 156
def C158 : Obj := zt []
def C159 : Obj := zn []
def C160 : Obj := zt [(zsK "self" 416), (zsK "own" 417), (zsK "word" 418)]
def C161 : Obj := zt []
def C162 : Obj := ⟨.none, none, (.func ⟨(zo "first_wrong"), (zo "Book.first_wrong"), (zAC 17 3), (.stmts (zBC 17 3)), (zSC 17 3), 0, [], .none, .none, .none, .none, none, .none, .none, 0⟩), #[]⟩
def C163 : Obj := zc [(zsK "first_wrong" 413), (zsK "Book.first_wrong" 414), (zsK "/claim/cut.py" 415), (zi 64), (zi 2), (zi 0), (zi 0), (zi 3), (.ref 158), (.bool true), (zi 181), (.ref 159), .none, (.ref 160), (.ref 161), (.ref 162), (zi 419), (zi 64), (zsK "/claim/cut.py" 420)]
def C164 : Obj := zm "first_wrong" "Book.first_wrong" 17 3 17 3 17 3 "epochrooms.books" 304 163
def C165 : Obj := zt []
def C166 : Obj := zn []
def C167 : Obj := zt [(zsK "self" 425)]
def C168 : Obj := zt []
def C169 : Obj := ⟨.none, none, (.func ⟨(zo "way"), (zo "Book.way"), (zAC 17 4), (.stmts (zBC 17 4)), (zSC 20 12), 0, [], .none, .none, .none, .none, none, .none, .none, 0⟩), #[]⟩
def C170 : Obj := zc [(zsK "way" 422), (zsK "Book.way" 423), (zsK "/claim/cut.py" 424), (zi 70), (zi 1), (zi 0), (zi 0), (zi 3), (.ref 165), (.bool true), (zi 181), (.ref 166), .none, (.ref 167), (.ref 168), (.ref 169), (zi 426), (zi 70), (zsK "/claim/cut.py" 427)]
def C171 : Obj := zm "way" "Book.way" 17 4 17 4 20 12 "epochrooms.books" 304 170
def C172 : Obj := ⟨(.type "property"), none, (.fields #[(.ref 171), .none, .none, .none, (zsK "way" 429), (.bool false)]), #[]⟩
def C173 : Obj := zt []
def C174 : Obj := zn []
def C175 : Obj := zt [(zsK "self" 433), (zsK "word" 434)]
def C176 : Obj := zt []
def C177 : Obj := ⟨.none, none, (.func ⟨(zo "look_at_word"), (zo "Book.look_at_word"), (zAC 17 5), (.stmts (zBC 17 5)), (zSC 17 5), 0, [], .none, .none, .none, .none, none, .none, .none, 0⟩), #[]⟩
def C178 : Obj := zc [(zsK "look_at_word" 430), (zsK "Book.look_at_word" 431), (zsK "/claim/cut.py" 432), (zi 74), (zi 2), (zi 0), (zi 0), (zi 3), (.ref 173), (.bool true), (zi 181), (.ref 174), .none, (.ref 175), (.ref 176), (.ref 177), (zi 435), (zi 74), (zsK "/claim/cut.py" 436)]
def C179 : Obj := zm "look_at_word" "Book.look_at_word" 17 5 17 5 17 5 "epochrooms.books" 304 178
def C180 : Obj := zt []
def C181 : Obj := zn []
def C182 : Obj := ⟨.none, none, (.func ⟨(zo "switches"), (zo "Book.switches"), (zAC 17 6), (.stmts (zBC 17 6)), (zSC 17 6), 0, [], .none, .none, .none, .none, none, .none, .none, 0⟩), #[]⟩
def C183 : Obj := zc [(zsK "switches" 438), (zsK "Book.switches" 439), (zsK "/claim/cut.py" 440), (zi 78), (zi 1), (zi 0), (zi 0), (zi 3), (.ref 180), (.bool true), (zi 181), (.ref 181), .none, .none, .none, (.ref 182), (zi 441), (zi 78), (zsK "/claim/cut.py" 442)]
def C184 : Obj := zm "switches" "Book.switches" 17 6 17 6 17 6 "epochrooms.books" 304 183
def C185 : Obj := zt []
def C186 : Obj := zn []
def C187 : Obj := zt [(zsK "self" 447)]
def C188 : Obj := zt []
def C189 : Obj := ⟨.none, none, (.func ⟨(zo "listed"), (zo "Book.listed"), (zAC 17 7), (.stmts (zBC 17 7)), (zSC 20 5), 0, [], .none, .none, .none, .none, none, .none, .none, 0⟩), #[]⟩
def C190 : Obj := zc [(zsK "listed" 444), (zsK "Book.listed" 445), (zsK "/claim/cut.py" 446), (zi 81), (zi 1), (zi 0), (zi 0), (zi 3), (.ref 185), (.bool true), (zi 181), (.ref 186), .none, (.ref 187), (.ref 188), (.ref 189), (zi 448), (zi 81), (zsK "/claim/cut.py" 449)]
def C191 : Obj := zm "listed" "Book.listed" 17 7 17 7 20 5 "epochrooms.books" 304 190
def C192 : Obj := zt []
def C193 : Obj := zn []
def C194 : Obj := zt [(zsK "self" 454), (zsK "values" 455)]
def C195 : Obj := zt []
def C196 : Obj := ⟨.none, none, (.func ⟨(zo "change"), (zo "Book.change"), (zAC 17 8), (.stmts (zBC 17 8)), (zSC 17 8), 0, [], .none, .none, .none, .none, none, .none, .none, 0⟩), #[]⟩
def C197 : Obj := zc [(zsK "change" 451), (zsK "Book.change" 452), (zsK "/claim/cut.py" 453), (zi 84), (zi 1), (zi 0), (zi 0), (zi 11), (.ref 192), (.bool true), (zi 181), (.ref 193), .none, (.ref 194), (.ref 195), (.ref 196), (zi 456), (zi 84), (zsK "/claim/cut.py" 457)]
def C198 : Obj := zm "change" "Book.change" 17 8 17 8 17 8 "epochrooms.books" 304 197
def C199 : Obj := zt []
def C200 : Obj := zn []
def C201 : Obj := zt [(zsK "self" 462), (zsK "word" 463)]
def C202 : Obj := zt []
def C203 : Obj := ⟨.none, none, (.func ⟨(zo "__getitem__"), (zo "Book.__getitem__"), (zAC 17 9), (.stmts (zBC 17 9)), (zSC 17 9), 0, [], .none, .none, .none, .none, none, .none, .none, 0⟩), #[]⟩
def C204 : Obj := zc [(zsK "__getitem__" 459), (zsK "Book.__getitem__" 460), (zsK "/claim/cut.py" 461), (zi 87), (zi 2), (zi 0), (zi 0), (zi 3), (.ref 199), (.bool true), (zi 181), (.ref 200), .none, (.ref 201), (.ref 202), (.ref 203), (zi 464), (zi 87), (zsK "/claim/cut.py" 465)]
def C205 : Obj := zm "__getitem__" "Book.__getitem__" 17 9 17 9 17 9 "epochrooms.books" 304 204
def C206 : Obj := zt []
def C207 : Obj := zn []
def C208 : Obj := zt [(zsK "self" 470), (zsK "word" 471), (zsK "value" 472), (zsK "own" 473)]
def C209 : Obj := zt []
def C210 : Obj := ⟨.none, none, (.func ⟨(zo "__setitem__"), (zo "Book.__setitem__"), (zAC 17 10), (.stmts (zBC 17 10)), (zSC 17 10), 0, [], .none, .none, .none, .none, none, .none, .none, 0⟩), #[]⟩
def C211 : Obj := zc [(zsK "__setitem__" 467), (zsK "Book.__setitem__" 468), (zsK "/claim/cut.py" 469), (zi 91), (zi 3), (zi 0), (zi 0), (zi 3), (.ref 206), (.bool true), (zi 181), (.ref 207), .none, (.ref 208), (.ref 209), (.ref 210), (zi 474), (zi 91), (zsK "/claim/cut.py" 475)]
def C212 : Obj := zm "__setitem__" "Book.__setitem__" 17 10 17 10 17 10 "epochrooms.books" 304 211
def C213 : Obj := zt []
def C214 : Obj := zn []
def C215 : Obj := zt [(zsK "self" 480)]
def C216 : Obj := zt []
def C217 : Obj := ⟨.none, none, (.func ⟨(zo "__iter__"), (zo "Book.__iter__"), (zAC 17 11), (.stmts (zBC 17 11)), (zSC 17 11), 0, [], .none, .none, .none, .none, none, .none, .none, 0⟩), #[]⟩
def C218 : Obj := zc [(zsK "__iter__" 477), (zsK "Book.__iter__" 478), (zsK "/claim/cut.py" 479), (zi 98), (zi 1), (zi 0), (zi 0), (zi 3), (.ref 213), (.bool true), (zi 181), (.ref 214), .none, (.ref 215), (.ref 216), (.ref 217), (zi 481), (zi 98), (zsK "/claim/cut.py" 482)]
def C219 : Obj := zm "__iter__" "Book.__iter__" 17 11 17 11 17 11 "epochrooms.books" 304 218
def C220 : Obj := zt []
def C221 : Obj := zn []
def C222 : Obj := zt [(zsK "self" 487)]
def C223 : Obj := zt []
def C224 : Obj := ⟨.none, none, (.func ⟨(zo "__len__"), (zo "Book.__len__"), (zAC 17 12), (.stmts (zBC 17 12)), (zSC 17 12), 0, [], .none, .none, .none, .none, none, .none, .none, 0⟩), #[]⟩
def C225 : Obj := zc [(zsK "__len__" 484), (zsK "Book.__len__" 485), (zsK "/claim/cut.py" 486), (zi 101), (zi 1), (zi 0), (zi 0), (zi 3), (.ref 220), (.bool true), (zi 181), (.ref 221), .none, (.ref 222), (.ref 223), (.ref 224), (zi 488), (zi 101), (zsK "/claim/cut.py" 489)]
def C226 : Obj := zm "__len__" "Book.__len__" 17 12 17 12 17 12 "epochrooms.books" 304 225
def C227 : Obj := zt []
def C228 : Obj := zn []
def C229 : Obj := zt [(zsK "self" 494), (zsK "other" 495)]
def C230 : Obj := zt []
def C231 : Obj := ⟨.none, none, (.func ⟨(zo "__eq__"), (zo "Book.__eq__"), (zAC 17 13), (.stmts (zBC 17 13)), (zSC 17 13), 0, [], .none, .none, .none, .none, none, .none, .none, 0⟩), #[]⟩
def C232 : Obj := zc [(zsK "__eq__" 491), (zsK "Book.__eq__" 492), (zsK "/claim/cut.py" 493), (zi 104), (zi 2), (zi 0), (zi 0), (zi 3), (.ref 227), (.bool true), (zi 181), (.ref 228), .none, (.ref 229), (.ref 230), (.ref 231), (zi 496), (zi 104), (zsK "/claim/cut.py" 497)]
def C233 : Obj := zm "__eq__" "Book.__eq__" 17 13 17 13 17 13 "epochrooms.books" 304 232
def C234 : Obj := zt []
def C235 : Obj := zn []
def C236 : Obj := zt [(zsK "self" 502), (zsK "other" 503), (zsK "word" 504)]
def C237 : Obj := zt []
def C238 : Obj := ⟨.none, none, (.func ⟨(zo "__le__"), (zo "Book.__le__"), (zAC 17 14), (.stmts (zBC 17 14)), (zSC 17 14), 0, [], .none, .none, .none, .none, none, .none, .none, 0⟩), #[]⟩
def C239 : Obj := zc [(zsK "__le__" 499), (zsK "Book.__le__" 500), (zsK "/claim/cut.py" 501), (zi 107), (zi 2), (zi 0), (zi 0), (zi 3), (.ref 234), (.bool true), (zi 181), (.ref 235), .none, (.ref 236), (.ref 237), (.ref 238), (zi 505), (zi 107), (zsK "/claim/cut.py" 506)]
def C240 : Obj := zm "__le__" "Book.__le__" 17 14 17 14 17 14 "epochrooms.books" 304 239
def C241 : Obj := zt [(zsK "order" 508), (zsK "own" 509)]
def C242 (P : Params) : Obj := ⟨(.type "dict"), none, (.dict #[⟨(zhK P "__module__"), (zsK "__module__" 396), (zsK "epochrooms.books" 304)⟩, ⟨(zhK P "__firstlineno__"), (zsK "__firstlineno__" 400), (.int 53 399)⟩, ⟨(zhK P "WORDS"), (zsK "WORDS" 401), (.ref 150)⟩, ⟨(zhK P "WAY"), (zsK "WAY" 403), (zsK "" 402)⟩, ⟨(zhK P "__init__"), (zsK "__init__" 412), (.ref 157)⟩, ⟨(zhK P "first_wrong"), (zsK "first_wrong" 421), (.ref 164)⟩, ⟨(zhK P "way"), (zsK "way" 429), (.ref 172)⟩, ⟨(zhK P "look_at_word"), (zsK "look_at_word" 437), (.ref 179)⟩, ⟨(zhK P "switches"), (zsK "switches" 443), (.ref 184)⟩, ⟨(zhK P "listed"), (zsK "listed" 450), (.ref 191)⟩, ⟨(zhK P "change"), (zsK "change" 458), (.ref 198)⟩, ⟨(zhK P "__getitem__"), (zsK "__getitem__" 466), (.ref 205)⟩, ⟨(zhK P "__setitem__"), (zsK "__setitem__" 476), (.ref 212)⟩, ⟨(zhK P "__iter__"), (zsK "__iter__" 483), (.ref 219)⟩, ⟨(zhK P "__len__"), (zsK "__len__" 490), (.ref 226)⟩, ⟨(zhK P "__eq__"), (zsK "__eq__" 498), (.ref 233)⟩, ⟨(zhK P "__le__"), (zsK "__le__" 507), (.ref 240)⟩, ⟨(zhK P "__static_attributes__"), (zsK "__static_attributes__" 510), (.ref 241)⟩, ⟨(zhK P "__dict__"), (zsK "__dict__" 512), (.ref 244)⟩, ⟨(zhK P "__weakref__"), (zsK "__weakref__" 514), (.ref 245)⟩, ⟨(zhK P "__doc__"), (zsK "__doc__" 515), .none⟩, ⟨(zhK P "__hash__"), (zsK "__hash__" 516), .none⟩] 5), #[]⟩
def C243 : Obj := ⟨(.type "type"), none, (.cls ⟨(zo "Book"), [(.type "object")], [(.ref 243), (.type "object")], 242, (zo "Book"), true, [], [], false, none, false⟩), #[none, none, (some (zsK "Book" 389)), (some (zsK "Book" 397)), (some (.builtin "object.__new__")), (some (.bool true))]⟩
def C244 : Obj := ⟨(.type "getset_descriptor"), none, (.fields #[(zsK "__dict__" 511), (.ref 243), (.builtin "function.__dict__"), (.builtin "function.__dict__#set")]), #[]⟩
def C245 : Obj := ⟨(.type "getset_descriptor"), none, (.fields #[(zsK "__weakref__" 513), (.ref 243), (.builtin "ExceptionGroup.__weakref__"), .none]), #[]⟩
def C246 : Obj := ⟨(.type "super"), none, (.fields #[(.ref 243), (.ref 243), (.ref 243)]), #[]⟩
def C247 : Obj := ⟨(.type "builtin_function_or_method"), none, (.fields #[(.builtin "object.__init_subclass__"), (.ref 243)]), #[]⟩
def D3 (P : Params) : Obj := ⟨(.type "dict"), none, (.dict #[⟨(zhK P "__name__"), (zsK "__name__" 165), (zsK "epochrooms.books" 304)⟩, ⟨(zhK P "__doc__"), (zsK "__doc__" 166), .none⟩, ⟨(zhK P "__package__"), (zsK "__package__" 167), .none⟩, ⟨(zhK P "__loader__"), (zsK "__loader__" 168), (.builtin "__main__.__loader__#opaque")⟩, ⟨(zhK P "__spec__"), (zsK "__spec__" 169), .none⟩, ⟨(zhK P "__annotations__"), (zsK "__annotations__" 170), (.ref 6)⟩, ⟨(zhK P "__builtins__"), (zsK "__builtins__" 171), (.ref 4)⟩, ⟨(zhK P "__file__"), (zsK "__file__" 173), (zsK "/claim/cut.py" 172)⟩, ⟨(zhK P "__cached__"), (zsK "__cached__" 174), .none⟩, ⟨(zhK P "_wall"), (zsK "_wall" 193), (.ref 21)⟩, ⟨(zhK P "RoomsError"), (zsK "RoomsError" 213), (.ref 31)⟩, ⟨(zhK P "NoSwitch"), (zsK "NoSwitch" 240), (.ref 53)⟩, ⟨(zhK P "NoValue"), (zsK "NoValue" 267), (.ref 74)⟩, ⟨(zhK P "NoBook"), (zsK "NoBook" 294), (.ref 95)⟩, ⟨(zhK P "is_whole"), (zsK "is_whole" 303), (.ref 104)⟩, ⟨(zhK P "ORDERS"), (zsK "ORDERS" 350), (.ref 105)⟩, ⟨(zhK P "LEAST_EPOCHS"), (zsK "LEAST_EPOCHS" 352), (.int 2 351)⟩, ⟨(zhK P "MOST_EPOCHS"), (zsK "MOST_EPOCHS" 354), (.int 6 353)⟩, ⟨(zhK P "MOST_COUNTS"), (zsK "MOST_COUNTS" 356), (.int 4 355)⟩, ⟨(zhK P "values_at"), (zsK "values_at" 364), (.ref 123)⟩, ⟨(zhK P "is_same"), (zsK "is_same" 372), (.ref 130)⟩, ⟨(zhK P "is_value"), (zsK "is_value" 378), (.ref 135)⟩, ⟨(zhK P "care"), (zsK "care" 388), (.ref 142)⟩, ⟨(zhK P "Book"), (zsK "Book" 518), (.ref 243)⟩, ⟨(zhK P "EpochBook"), (zsK "EpochBook" 761), (.ref 431)⟩] 25), #[]⟩
def D12 : Obj := zn [(zi 1), (zi 0), (.ref 20), (zi 5), (zi 0), (.ref 27), (zi 7), (zi 0), (.ref 41), (zi 12), (zi 0), (.ref 62), (zi 17), (zi 0), (.ref 83), (zi 23), (zi 0), (.ref 103), (zi 30), (zi 0), (.ref 122), (zi 36), (zi 0), (.ref 129), (zi 42), (zi 0), (.ref 134), (zi 44), (zi 0), (.ref 141), (zi 53), (zi 0), (.ref 148), (zi 118), (zi 0), (.ref 254)]
def D243 : Obj := ⟨(.type "type"), none, (.cls ⟨(zo "Book"), [(.type "object")], [(.ref 243), (.type "object")], 242, (zo "Book"), true, [], [(.ref 431)], false, none, false⟩), #[none, none, (some (zsK "Book" 389)), (some (zsK "Book" 397)), (some (.builtin "object.__new__")), (some (.bool true))]⟩
def D248 : Obj := zt [(.ref 243)]
def D249 : Obj := ⟨(.type "builtin_function_or_method"), none, (.fields #[(.builtin "type.__prepare__"), (.type "type")]), #[]⟩
def D250 (P : Params) : Obj := ⟨(.type "dict"), none, (.dict #[⟨(zhK P "__module__"), (zsK "__module__" 526), (zsK "epochrooms.books" 304)⟩, ⟨(zhK P "__qualname__"), (zsK "__qualname__" 528), (zsK "EpochBook" 527)⟩, ⟨(zhK P "__firstlineno__"), (zsK "__firstlineno__" 530), (.int 118 529)⟩, ⟨(zhK P "WORDS"), (zsK "WORDS" 539), (.ref 256)⟩, ⟨(zhK P "WAY"), (zsK "WAY" 541), (zsK "epochs" 540)⟩, ⟨(zhK P "__init__"), (zsK "__init__" 567), (.ref 265)⟩, ⟨(zhK P "careful"), (zsK "careful" 586), (.ref 274)⟩, ⟨(zhK P "hasty"), (zsK "hasty" 605), (.ref 284)⟩, ⟨(zhK P "twin"), (zsK "twin" 612), (.ref 292)⟩, ⟨(zhK P "epochs"), (zsK "epochs" 620), (.ref 309)⟩, ⟨(zhK P "behind"), (zsK "behind" 638), (.ref 326)⟩, ⟨(zhK P "check"), (zsK "check" 656), (.ref 343)⟩, ⟨(zhK P "fetch"), (zsK "fetch" 674), (.ref 360)⟩, ⟨(zhK P "mark"), (zsK "mark" 692), (.ref 377)⟩, ⟨(zhK P "test"), (zsK "test" 710), (.ref 394)⟩, ⟨(zhK P "step"), (zsK "step" 728), (.ref 411)⟩, ⟨(zhK P "told"), (zsK "told" 746), (.ref 428)⟩, ⟨(zhK P "__static_attributes__"), (zsK "__static_attributes__" 757), (.ref 429)⟩, ⟨(zhK P "__classcell__"), (zsK "__classcell__" 758), (.ref 251)⟩] 19), #[]⟩
def D251 : Obj := ⟨(.type "cell"), none, (.cell (some (.ref 431))), #[]⟩
def D252 : Obj := zt []
def D253 : Obj := zn [(zi 122), (zi 4), (.ref 264), (zi 126), (zi 4), (.ref 271), (zi 130), (zi 4), (.ref 281), (zi 133), (zi 4), (.ref 291), (zi 137), (zi 4), (.ref 298), (zi 141), (zi 4), (.ref 307), (zi 145), (zi 4), (.ref 315), (zi 149), (zi 4), (.ref 324), (zi 153), (zi 4), (.ref 332), (zi 157), (zi 4), (.ref 341), (zi 161), (zi 4), (.ref 349), (zi 165), (zi 4), (.ref 358), (zi 169), (zi 4), (.ref 366), (zi 173), (zi 4), (.ref 375), (zi 177), (zi 4), (.ref 383), (zi 181), (zi 4), (.ref 392), (zi 185), (zi 4), (.ref 400), (zi 189), (zi 4), (.ref 409), (zi 193), (zi 4), (.ref 417), (zi 197), (zi 4), (.ref 426)]
def D254 : Obj := zc [(zsK "EpochBook" 521), (zsK "EpochBook" 522), (zsK "/claim/cut.py" 523), (zi 118), (zi 0), (zi 0), (zi 0), (zi 0), (.ref 252), (.bool false), (zi 181), (.ref 253), .none, .none, .none, .none, (zi 524), (zi 118), (zsK "/claim/cut.py" 525)]
def D255 : Obj := ⟨(.type "frame"), none, .plain, #[(some (.ref 254)), (some (.ref 3)), (some (.ref 250)), none, (some (zsK "epochrooms.books" 304)), none, (some (.ref 0))]⟩
def D256 : Obj := zt [(zsK "epochs" 531), (zsK "behind" 532), (zsK "check" 533), (zsK "fetch" 534), (zsK "mark" 535), (zsK "test" 536), (zsK "step" 537), (zsK "told" 538)]
def D257 (P : Params) : Obj := ⟨(.type "dict"), none, (.dict #[⟨(zhK P "check"), (zsK "check" 546), (.bool true)⟩, ⟨(zhK P "fetch"), (zsK "fetch" 547), (zsK "behind" 542)⟩, ⟨(zhK P "mark"), (zsK "mark" 548), (zsK "fresh" 543)⟩, ⟨(zhK P "test"), (zsK "test" 549), (zsK "equal" 544)⟩, ⟨(zhK P "step"), (zsK "step" 550), (zsK "still" 545)⟩, ⟨(zhK P "told"), (zsK "told" 551), (.bool true)⟩] 6), #[]⟩
def D258 : Obj := zt [(.ref 251)]
def D259 : Obj := zt [(zsK "__class__" 555)]
def D260 : Obj := zn []
def D261 : Obj := zt [(zsK "self" 556), (zsK "epochs" 557), (zsK "behind" 558), (zsK "check" 559), (zsK "fetch" 560), (zsK "mark" 561), (zsK "test" 562), (zsK "step" 563), (zsK "told" 564)]
def D262 : Obj := zt []
def D263 : Obj := ⟨.none, none, (.func ⟨(zo "__init__"), (zo "EpochBook.__init__"), (zAC 18 2), (.stmts (zBC 18 2)), (zSC 18 2), 0, [], .none, .none, .none, .none, none, .none, .none, 0⟩), #[]⟩
def D264 : Obj := zc [(zsK "__init__" 552), (zsK "EpochBook.__init__" 553), (zsK "/claim/cut.py" 554), (zi 122), (zi 3), (zi 0), (zi 6), (zi 3), (.ref 259), (.bool true), (zi 181), (.ref 260), .none, (.ref 261), (.ref 262), (.ref 263), (zi 565), (zi 122), (zsK "/claim/cut.py" 566)]
def D265 : Obj := zf ⟨(zo "__init__"), (zo "EpochBook.__init__"), (zAC 18 2), (.stmts (zBC 18 2)), (zSC 18 2), 3, [((zo "__class__"), 251)], .none, (.ref 257), .none, (zsK "epochrooms.books" 304), none, (.ref 264), (.ref 258), 0⟩
def D266 : Obj := zt []
def D267 : Obj := zn []
def D268 : Obj := zt [(zsK "epochs" 571)]
def D269 : Obj := zt []
def D270 : Obj := ⟨.none, none, (.func ⟨(zo "careful"), (zo "EpochBook.careful"), (zAC 18 3), (.stmts (zBC 18 3)), (zSC 18 3), 0, [], .none, .none, .none, .none, none, .none, .none, 0⟩), #[]⟩
def D271 : Obj := zc [(zsK "careful" 568), (zsK "EpochBook.careful" 569), (zsK "/claim/cut.py" 570), (zi 125), (zi 1), (zi 0), (zi 0), (zi 3), (.ref 266), (.bool true), (zi 181), (.ref 267), .none, (.ref 268), (.ref 269), (.ref 270), (zi 572), (zi 125), (zsK "/claim/cut.py" 573)]
def D272 : Obj := zf ⟨(zo "careful"), (zo "EpochBook.careful"), (zAC 18 3), (.stmts (zBC 18 3)), (zSC 18 3), 3, [], .none, .none, .none, (zsK "epochrooms.books" 304), (some 275), (.ref 271), .none, 0⟩
def D273 (P : Params) : Obj := ⟨(.type "dict"), none, (.dict #[⟨(zhK P "__module__"), (zsK "__module__" 575), (zsK "epochrooms.books" 304)⟩, ⟨(zhK P "__name__"), (zsK "__name__" 578), (zsK "careful" 577)⟩, ⟨(zhK P "__qualname__"), (zsK "__qualname__" 581), (zsK "EpochBook.careful" 580)⟩, ⟨(zhK P "__doc__"), (zsK "__doc__" 583), .none⟩, ⟨(zhK P "__annotations__"), (zsK "__annotations__" 585), (.ref 275)⟩] 5), #[]⟩
def D274 : Obj := ⟨(.type "staticmethod"), (some 273), (.fields #[(.ref 272), (.bool false)]), #[]⟩
def D275 : Obj := ⟨(.type "dict"), none, (.dict #[] 0), #[]⟩
def D276 : Obj := zt []
def D277 : Obj := zn []
def D278 : Obj := zt [(zsK "epochs" 590)]
def D279 : Obj := zt []
def D280 : Obj := ⟨.none, none, (.func ⟨(zo "hasty"), (zo "EpochBook.hasty"), (zAC 18 4), (.stmts (zBC 18 4)), (zSC 18 4), 0, [], .none, .none, .none, .none, none, .none, .none, 0⟩), #[]⟩
def D281 : Obj := zc [(zsK "hasty" 587), (zsK "EpochBook.hasty" 588), (zsK "/claim/cut.py" 589), (zi 129), (zi 1), (zi 0), (zi 0), (zi 3), (.ref 276), (.bool true), (zi 181), (.ref 277), .none, (.ref 278), (.ref 279), (.ref 280), (zi 591), (zi 129), (zsK "/claim/cut.py" 592)]
def D282 : Obj := zf ⟨(zo "hasty"), (zo "EpochBook.hasty"), (zAC 18 4), (.stmts (zBC 18 4)), (zSC 18 4), 3, [], .none, .none, .none, (zsK "epochrooms.books" 304), (some 285), (.ref 281), .none, 0⟩
def D283 (P : Params) : Obj := ⟨(.type "dict"), none, (.dict #[⟨(zhK P "__module__"), (zsK "__module__" 594), (zsK "epochrooms.books" 304)⟩, ⟨(zhK P "__name__"), (zsK "__name__" 597), (zsK "hasty" 596)⟩, ⟨(zhK P "__qualname__"), (zsK "__qualname__" 600), (zsK "EpochBook.hasty" 599)⟩, ⟨(zhK P "__doc__"), (zsK "__doc__" 602), .none⟩, ⟨(zhK P "__annotations__"), (zsK "__annotations__" 604), (.ref 285)⟩] 5), #[]⟩
def D284 : Obj := ⟨(.type "staticmethod"), (some 283), (.fields #[(.ref 282), (.bool false)]), #[]⟩
def D285 : Obj := ⟨(.type "dict"), none, (.dict #[] 0), #[]⟩
def D286 : Obj := zt []
def D287 : Obj := zn []
def D288 : Obj := zt [(zsK "self" 609)]
def D289 : Obj := zt []
def D290 : Obj := ⟨.none, none, (.func ⟨(zo "twin"), (zo "EpochBook.twin"), (zAC 18 5), (.stmts (zBC 18 5)), (zSC 20 5), 0, [], .none, .none, .none, .none, none, .none, .none, 0⟩), #[]⟩
def D291 : Obj := zc [(zsK "twin" 606), (zsK "EpochBook.twin" 607), (zsK "/claim/cut.py" 608), (zi 133), (zi 1), (zi 0), (zi 0), (zi 3), (.ref 286), (.bool true), (zi 181), (.ref 287), .none, (.ref 288), (.ref 289), (.ref 290), (zi 610), (zi 133), (zsK "/claim/cut.py" 611)]
def D292 : Obj := zm "twin" "EpochBook.twin" 18 5 18 5 20 5 "epochrooms.books" 304 291
def D293 : Obj := zt []
def D294 : Obj := zn []
def D295 : Obj := zt [(zsK "self" 616)]
def D296 : Obj := zt []
def D297 : Obj := ⟨.none, none, (.func ⟨(zo "epochs"), (zo "EpochBook.epochs"), (zAC 18 6), (.stmts (zBC 18 6)), (zSC 20 12), 0, [], .none, .none, .none, .none, none, .none, .none, 0⟩), #[]⟩
def D298 : Obj := zc [(zsK "epochs" 613), (zsK "EpochBook.epochs" 614), (zsK "/claim/cut.py" 615), (zi 136), (zi 1), (zi 0), (zi 0), (zi 3), (.ref 293), (.bool true), (zi 181), (.ref 294), .none, (.ref 295), (.ref 296), (.ref 297), (zi 617), (zi 136), (zsK "/claim/cut.py" 618)]
def D299 : Obj := zm "epochs" "EpochBook.epochs" 18 6 18 6 20 12 "epochrooms.books" 304 298
def D300 : Obj := ⟨(.type "property"), none, (.fields #[(.ref 299), .none, .none, .none, (zi 0), (.bool false)]), #[]⟩
def D301 : Obj := ⟨(.type "builtin_function_or_method"), none, (.fields #[(.builtin "property.setter"), (.ref 300)]), #[]⟩
def D302 : Obj := zt []
def D303 : Obj := zn []
def D304 : Obj := zt [(zsK "self" 625), (zsK "value" 626)]
def D305 : Obj := zt []
def D306 : Obj := ⟨.none, none, (.func ⟨(zo "epochs"), (zo "EpochBook.epochs"), (zAC 18 7), (.stmts (zBC 18 7)), (zSC 20 13), 0, [], .none, .none, .none, .none, none, .none, .none, 0⟩), #[]⟩
def D307 : Obj := zc [(zsK "epochs" 622), (zsK "EpochBook.epochs" 623), (zsK "/claim/cut.py" 624), (zi 140), (zi 2), (zi 0), (zi 0), (zi 3), (.ref 302), (.bool true), (zi 181), (.ref 303), .none, (.ref 304), (.ref 305), (.ref 306), (zi 627), (zi 140), (zsK "/claim/cut.py" 628)]
def D308 : Obj := zm "epochs" "EpochBook.epochs" 18 7 18 7 20 13 "epochrooms.books" 304 307
def D309 : Obj := ⟨(.type "property"), none, (.fields #[(.ref 299), (.ref 308), .none, .none, (zsK "epochs" 620), (.bool false)]), #[]⟩
def D310 : Obj := zt []
def D311 : Obj := zn []
def D312 : Obj := zt [(zsK "self" 634)]
def D313 : Obj := zt []
def D314 : Obj := ⟨.none, none, (.func ⟨(zo "behind"), (zo "EpochBook.behind"), (zAC 18 8), (.stmts (zBC 18 8)), (zSC 20 12), 0, [], .none, .none, .none, .none, none, .none, .none, 0⟩), #[]⟩
def D315 : Obj := zc [(zsK "behind" 631), (zsK "EpochBook.behind" 632), (zsK "/claim/cut.py" 633), (zi 144), (zi 1), (zi 0), (zi 0), (zi 3), (.ref 310), (.bool true), (zi 181), (.ref 311), .none, (.ref 312), (.ref 313), (.ref 314), (zi 635), (zi 144), (zsK "/claim/cut.py" 636)]
def D316 : Obj := zm "behind" "EpochBook.behind" 18 8 18 8 20 12 "epochrooms.books" 304 315
def D317 : Obj := ⟨(.type "property"), none, (.fields #[(.ref 316), .none, .none, .none, (zi 0), (.bool false)]), #[]⟩
def D318 : Obj := ⟨(.type "builtin_function_or_method"), none, (.fields #[(.builtin "property.setter"), (.ref 317)]), #[]⟩
def D319 : Obj := zt []
def D320 : Obj := zn []
def D321 : Obj := zt [(zsK "self" 643), (zsK "value" 644)]
def D322 : Obj := zt []
def D323 : Obj := ⟨.none, none, (.func ⟨(zo "behind"), (zo "EpochBook.behind"), (zAC 18 9), (.stmts (zBC 18 9)), (zSC 20 13), 0, [], .none, .none, .none, .none, none, .none, .none, 0⟩), #[]⟩
def D324 : Obj := zc [(zsK "behind" 640), (zsK "EpochBook.behind" 641), (zsK "/claim/cut.py" 642), (zi 148), (zi 2), (zi 0), (zi 0), (zi 3), (.ref 319), (.bool true), (zi 181), (.ref 320), .none, (.ref 321), (.ref 322), (.ref 323), (zi 645), (zi 148), (zsK "/claim/cut.py" 646)]
def D325 : Obj := zm "behind" "EpochBook.behind" 18 9 18 9 20 13 "epochrooms.books" 304 324
def D326 : Obj := ⟨(.type "property"), none, (.fields #[(.ref 316), (.ref 325), .none, .none, (zsK "behind" 638), (.bool false)]), #[]⟩
def D327 : Obj := zt []
def D328 : Obj := zn []
def D329 : Obj := zt [(zsK "self" 652)]
def D330 : Obj := zt []
def D331 : Obj := ⟨.none, none, (.func ⟨(zo "check"), (zo "EpochBook.check"), (zAC 18 10), (.stmts (zBC 18 10)), (zSC 20 12), 0, [], .none, .none, .none, .none, none, .none, .none, 0⟩), #[]⟩
def D332 : Obj := zc [(zsK "check" 649), (zsK "EpochBook.check" 650), (zsK "/claim/cut.py" 651), (zi 152), (zi 1), (zi 0), (zi 0), (zi 3), (.ref 327), (.bool true), (zi 181), (.ref 328), .none, (.ref 329), (.ref 330), (.ref 331), (zi 653), (zi 152), (zsK "/claim/cut.py" 654)]
def D333 : Obj := zm "check" "EpochBook.check" 18 10 18 10 20 12 "epochrooms.books" 304 332
def D334 : Obj := ⟨(.type "property"), none, (.fields #[(.ref 333), .none, .none, .none, (zi 0), (.bool false)]), #[]⟩
def D335 : Obj := ⟨(.type "builtin_function_or_method"), none, (.fields #[(.builtin "property.setter"), (.ref 334)]), #[]⟩
def D336 : Obj := zt []
def D337 : Obj := zn []
def D338 : Obj := zt [(zsK "self" 661), (zsK "value" 662)]
def D339 : Obj := zt []
def D340 : Obj := ⟨.none, none, (.func ⟨(zo "check"), (zo "EpochBook.check"), (zAC 18 11), (.stmts (zBC 18 11)), (zSC 20 13), 0, [], .none, .none, .none, .none, none, .none, .none, 0⟩), #[]⟩
def D341 : Obj := zc [(zsK "check" 658), (zsK "EpochBook.check" 659), (zsK "/claim/cut.py" 660), (zi 156), (zi 2), (zi 0), (zi 0), (zi 3), (.ref 336), (.bool true), (zi 181), (.ref 337), .none, (.ref 338), (.ref 339), (.ref 340), (zi 663), (zi 156), (zsK "/claim/cut.py" 664)]
def D342 : Obj := zm "check" "EpochBook.check" 18 11 18 11 20 13 "epochrooms.books" 304 341
def D343 : Obj := ⟨(.type "property"), none, (.fields #[(.ref 333), (.ref 342), .none, .none, (zsK "check" 656), (.bool false)]), #[]⟩
def D344 : Obj := zt []
def D345 : Obj := zn []
def D346 : Obj := zt [(zsK "self" 670)]
def D347 : Obj := zt []
def D348 : Obj := ⟨.none, none, (.func ⟨(zo "fetch"), (zo "EpochBook.fetch"), (zAC 18 12), (.stmts (zBC 18 12)), (zSC 20 12), 0, [], .none, .none, .none, .none, none, .none, .none, 0⟩), #[]⟩
def D349 : Obj := zc [(zsK "fetch" 667), (zsK "EpochBook.fetch" 668), (zsK "/claim/cut.py" 669), (zi 160), (zi 1), (zi 0), (zi 0), (zi 3), (.ref 344), (.bool true), (zi 181), (.ref 345), .none, (.ref 346), (.ref 347), (.ref 348), (zi 671), (zi 160), (zsK "/claim/cut.py" 672)]
def D350 : Obj := zm "fetch" "EpochBook.fetch" 18 12 18 12 20 12 "epochrooms.books" 304 349
def D351 : Obj := ⟨(.type "property"), none, (.fields #[(.ref 350), .none, .none, .none, (zi 0), (.bool false)]), #[]⟩
def D352 : Obj := ⟨(.type "builtin_function_or_method"), none, (.fields #[(.builtin "property.setter"), (.ref 351)]), #[]⟩
def D353 : Obj := zt []
def D354 : Obj := zn []
def D355 : Obj := zt [(zsK "self" 679), (zsK "value" 680)]
def D356 : Obj := zt []
def D357 : Obj := ⟨.none, none, (.func ⟨(zo "fetch"), (zo "EpochBook.fetch"), (zAC 18 13), (.stmts (zBC 18 13)), (zSC 20 13), 0, [], .none, .none, .none, .none, none, .none, .none, 0⟩), #[]⟩
def D358 : Obj := zc [(zsK "fetch" 676), (zsK "EpochBook.fetch" 677), (zsK "/claim/cut.py" 678), (zi 164), (zi 2), (zi 0), (zi 0), (zi 3), (.ref 353), (.bool true), (zi 181), (.ref 354), .none, (.ref 355), (.ref 356), (.ref 357), (zi 681), (zi 164), (zsK "/claim/cut.py" 682)]
def D359 : Obj := zm "fetch" "EpochBook.fetch" 18 13 18 13 20 13 "epochrooms.books" 304 358
def D360 : Obj := ⟨(.type "property"), none, (.fields #[(.ref 350), (.ref 359), .none, .none, (zsK "fetch" 674), (.bool false)]), #[]⟩
def D361 : Obj := zt []
def D362 : Obj := zn []
def D363 : Obj := zt [(zsK "self" 688)]
def D364 : Obj := zt []
def D365 : Obj := ⟨.none, none, (.func ⟨(zo "mark"), (zo "EpochBook.mark"), (zAC 18 14), (.stmts (zBC 18 14)), (zSC 20 12), 0, [], .none, .none, .none, .none, none, .none, .none, 0⟩), #[]⟩
def D366 : Obj := zc [(zsK "mark" 685), (zsK "EpochBook.mark" 686), (zsK "/claim/cut.py" 687), (zi 168), (zi 1), (zi 0), (zi 0), (zi 3), (.ref 361), (.bool true), (zi 181), (.ref 362), .none, (.ref 363), (.ref 364), (.ref 365), (zi 689), (zi 168), (zsK "/claim/cut.py" 690)]
def D367 : Obj := zm "mark" "EpochBook.mark" 18 14 18 14 20 12 "epochrooms.books" 304 366
def D368 : Obj := ⟨(.type "property"), none, (.fields #[(.ref 367), .none, .none, .none, (zi 0), (.bool false)]), #[]⟩
def D369 : Obj := ⟨(.type "builtin_function_or_method"), none, (.fields #[(.builtin "property.setter"), (.ref 368)]), #[]⟩
def D370 : Obj := zt []
def D371 : Obj := zn []
def D372 : Obj := zt [(zsK "self" 697), (zsK "value" 698)]
def D373 : Obj := zt []
def D374 : Obj := ⟨.none, none, (.func ⟨(zo "mark"), (zo "EpochBook.mark"), (zAC 18 15), (.stmts (zBC 18 15)), (zSC 20 13), 0, [], .none, .none, .none, .none, none, .none, .none, 0⟩), #[]⟩
def D375 : Obj := zc [(zsK "mark" 694), (zsK "EpochBook.mark" 695), (zsK "/claim/cut.py" 696), (zi 172), (zi 2), (zi 0), (zi 0), (zi 3), (.ref 370), (.bool true), (zi 181), (.ref 371), .none, (.ref 372), (.ref 373), (.ref 374), (zi 699), (zi 172), (zsK "/claim/cut.py" 700)]
def D376 : Obj := zm "mark" "EpochBook.mark" 18 15 18 15 20 13 "epochrooms.books" 304 375
def D377 : Obj := ⟨(.type "property"), none, (.fields #[(.ref 367), (.ref 376), .none, .none, (zsK "mark" 692), (.bool false)]), #[]⟩
def D378 : Obj := zt []
def D379 : Obj := zn []
def D380 : Obj := zt [(zsK "self" 706)]
def D381 : Obj := zt []
def D382 : Obj := ⟨.none, none, (.func ⟨(zo "test"), (zo "EpochBook.test"), (zAC 18 16), (.stmts (zBC 18 16)), (zSC 20 12), 0, [], .none, .none, .none, .none, none, .none, .none, 0⟩), #[]⟩
def D383 : Obj := zc [(zsK "test" 703), (zsK "EpochBook.test" 704), (zsK "/claim/cut.py" 705), (zi 176), (zi 1), (zi 0), (zi 0), (zi 3), (.ref 378), (.bool true), (zi 181), (.ref 379), .none, (.ref 380), (.ref 381), (.ref 382), (zi 707), (zi 176), (zsK "/claim/cut.py" 708)]
def D384 : Obj := zm "test" "EpochBook.test" 18 16 18 16 20 12 "epochrooms.books" 304 383
def D385 : Obj := ⟨(.type "property"), none, (.fields #[(.ref 384), .none, .none, .none, (zi 0), (.bool false)]), #[]⟩
def D386 : Obj := ⟨(.type "builtin_function_or_method"), none, (.fields #[(.builtin "property.setter"), (.ref 385)]), #[]⟩
def D387 : Obj := zt []
def D388 : Obj := zn []
def D389 : Obj := zt [(zsK "self" 715), (zsK "value" 716)]
def D390 : Obj := zt []
def D391 : Obj := ⟨.none, none, (.func ⟨(zo "test"), (zo "EpochBook.test"), (zAC 18 17), (.stmts (zBC 18 17)), (zSC 20 13), 0, [], .none, .none, .none, .none, none, .none, .none, 0⟩), #[]⟩
def D392 : Obj := zc [(zsK "test" 712), (zsK "EpochBook.test" 713), (zsK "/claim/cut.py" 714), (zi 180), (zi 2), (zi 0), (zi 0), (zi 3), (.ref 387), (.bool true), (zi 181), (.ref 388), .none, (.ref 389), (.ref 390), (.ref 391), (zi 717), (zi 180), (zsK "/claim/cut.py" 718)]
def D393 : Obj := zm "test" "EpochBook.test" 18 17 18 17 20 13 "epochrooms.books" 304 392
def D394 : Obj := ⟨(.type "property"), none, (.fields #[(.ref 384), (.ref 393), .none, .none, (zsK "test" 710), (.bool false)]), #[]⟩
def D395 : Obj := zt []
def D396 : Obj := zn []
def D397 : Obj := zt [(zsK "self" 724)]
def D398 : Obj := zt []
def D399 : Obj := ⟨.none, none, (.func ⟨(zo "step"), (zo "EpochBook.step"), (zAC 18 18), (.stmts (zBC 18 18)), (zSC 20 12), 0, [], .none, .none, .none, .none, none, .none, .none, 0⟩), #[]⟩
def D400 : Obj := zc [(zsK "step" 721), (zsK "EpochBook.step" 722), (zsK "/claim/cut.py" 723), (zi 184), (zi 1), (zi 0), (zi 0), (zi 3), (.ref 395), (.bool true), (zi 181), (.ref 396), .none, (.ref 397), (.ref 398), (.ref 399), (zi 725), (zi 184), (zsK "/claim/cut.py" 726)]
def D401 : Obj := zm "step" "EpochBook.step" 18 18 18 18 20 12 "epochrooms.books" 304 400
def D402 : Obj := ⟨(.type "property"), none, (.fields #[(.ref 401), .none, .none, .none, (zi 0), (.bool false)]), #[]⟩
def D403 : Obj := ⟨(.type "builtin_function_or_method"), none, (.fields #[(.builtin "property.setter"), (.ref 402)]), #[]⟩
def D404 : Obj := zt []
def D405 : Obj := zn []
def D406 : Obj := zt [(zsK "self" 733), (zsK "value" 734)]
def D407 : Obj := zt []
def D408 : Obj := ⟨.none, none, (.func ⟨(zo "step"), (zo "EpochBook.step"), (zAC 18 19), (.stmts (zBC 18 19)), (zSC 20 13), 0, [], .none, .none, .none, .none, none, .none, .none, 0⟩), #[]⟩
def D409 : Obj := zc [(zsK "step" 730), (zsK "EpochBook.step" 731), (zsK "/claim/cut.py" 732), (zi 188), (zi 2), (zi 0), (zi 0), (zi 3), (.ref 404), (.bool true), (zi 181), (.ref 405), .none, (.ref 406), (.ref 407), (.ref 408), (zi 735), (zi 188), (zsK "/claim/cut.py" 736)]
def D410 : Obj := zm "step" "EpochBook.step" 18 19 18 19 20 13 "epochrooms.books" 304 409
def D411 : Obj := ⟨(.type "property"), none, (.fields #[(.ref 401), (.ref 410), .none, .none, (zsK "step" 728), (.bool false)]), #[]⟩
def D412 : Obj := zt []
def D413 : Obj := zn []
def D414 : Obj := zt [(zsK "self" 742)]
def D415 : Obj := zt []
def D416 : Obj := ⟨.none, none, (.func ⟨(zo "told"), (zo "EpochBook.told"), (zAC 18 20), (.stmts (zBC 18 20)), (zSC 20 12), 0, [], .none, .none, .none, .none, none, .none, .none, 0⟩), #[]⟩
def D417 : Obj := zc [(zsK "told" 739), (zsK "EpochBook.told" 740), (zsK "/claim/cut.py" 741), (zi 192), (zi 1), (zi 0), (zi 0), (zi 3), (.ref 412), (.bool true), (zi 181), (.ref 413), .none, (.ref 414), (.ref 415), (.ref 416), (zi 743), (zi 192), (zsK "/claim/cut.py" 744)]
def D418 : Obj := zm "told" "EpochBook.told" 18 20 18 20 20 12 "epochrooms.books" 304 417
def D419 : Obj := ⟨(.type "property"), none, (.fields #[(.ref 418), .none, .none, .none, (zi 0), (.bool false)]), #[]⟩
def D420 : Obj := ⟨(.type "builtin_function_or_method"), none, (.fields #[(.builtin "property.setter"), (.ref 419)]), #[]⟩
def D421 : Obj := zt []
def D422 : Obj := zn []
def D423 : Obj := zt [(zsK "self" 751), (zsK "value" 752)]
def D424 : Obj := zt []
def D425 : Obj := ⟨.none, none, (.func ⟨(zo "told"), (zo "EpochBook.told"), (zAC 18 21), (.stmts (zBC 18 21)), (zSC 20 13), 0, [], .none, .none, .none, .none, none, .none, .none, 0⟩), #[]⟩
def D426 : Obj := zc [(zsK "told" 748), (zsK "EpochBook.told" 749), (zsK "/claim/cut.py" 750), (zi 196), (zi 2), (zi 0), (zi 0), (zi 3), (.ref 421), (.bool true), (zi 181), (.ref 422), .none, (.ref 423), (.ref 424), (.ref 425), (zi 753), (zi 196), (zsK "/claim/cut.py" 754)]
def D427 : Obj := zm "told" "EpochBook.told" 18 21 18 21 20 13 "epochrooms.books" 304 426
def D428 : Obj := ⟨(.type "property"), none, (.fields #[(.ref 418), (.ref 427), .none, .none, (zsK "told" 746), (.bool false)]), #[]⟩
def D429 : Obj := zt []
def D430 (P : Params) : Obj := ⟨(.type "dict"), none, (.dict #[⟨(zhK P "__module__"), (zsK "__module__" 526), (zsK "epochrooms.books" 304)⟩, ⟨(zhK P "__firstlineno__"), (zsK "__firstlineno__" 530), (.int 118 529)⟩, ⟨(zhK P "WORDS"), (zsK "WORDS" 539), (.ref 256)⟩, ⟨(zhK P "WAY"), (zsK "WAY" 541), (zsK "epochs" 540)⟩, ⟨(zhK P "__init__"), (zsK "__init__" 567), (.ref 265)⟩, ⟨(zhK P "careful"), (zsK "careful" 586), (.ref 274)⟩, ⟨(zhK P "hasty"), (zsK "hasty" 605), (.ref 284)⟩, ⟨(zhK P "twin"), (zsK "twin" 612), (.ref 292)⟩, ⟨(zhK P "epochs"), (zsK "epochs" 620), (.ref 309)⟩, ⟨(zhK P "behind"), (zsK "behind" 638), (.ref 326)⟩, ⟨(zhK P "check"), (zsK "check" 656), (.ref 343)⟩, ⟨(zhK P "fetch"), (zsK "fetch" 674), (.ref 360)⟩, ⟨(zhK P "mark"), (zsK "mark" 692), (.ref 377)⟩, ⟨(zhK P "test"), (zsK "test" 710), (.ref 394)⟩, ⟨(zhK P "step"), (zsK "step" 728), (.ref 411)⟩, ⟨(zhK P "told"), (zsK "told" 746), (.ref 428)⟩, ⟨(zhK P "__static_attributes__"), (zsK "__static_attributes__" 757), (.ref 429)⟩, ⟨(zhK P "__doc__"), (zsK "__doc__" 759), .none⟩] 3), #[]⟩
def D431 : Obj := ⟨(.type "type"), none, (.cls ⟨(zo "EpochBook"), [(.ref 243)], [(.ref 431), (.ref 243), (.type "object")], 430, (zo "EpochBook"), true, [], [], false, none, false⟩), #[(some (.ref 248)), none, (some (zsK "EpochBook" 519)), (some (zsK "EpochBook" 527)), (some (.builtin "object.__new__")), (some (.bool true))]⟩
def D432 : Obj := ⟨(.type "super"), none, (.fields #[(.ref 431), (.ref 431), (.ref 431)]), #[]⟩
def D433 : Obj := ⟨(.type "builtin_function_or_method"), none, (.fields #[(.builtin "object.__init_subclass__"), (.ref 431)]), #[]⟩
def E3 (P : Params) : Obj := ⟨(.type "dict"), none, (.dict #[⟨(zhK P "__name__"), (zsK "__name__" 165), (zsK "epochrooms.books" 304)⟩, ⟨(zhK P "__doc__"), (zsK "__doc__" 166), .none⟩, ⟨(zhK P "__package__"), (zsK "__package__" 167), .none⟩, ⟨(zhK P "__loader__"), (zsK "__loader__" 168), (.builtin "__main__.__loader__#opaque")⟩, ⟨(zhK P "__spec__"), (zsK "__spec__" 169), .none⟩, ⟨(zhK P "__annotations__"), (zsK "__annotations__" 170), (.ref 6)⟩, ⟨(zhK P "__builtins__"), (zsK "__builtins__" 171), (.ref 4)⟩, ⟨(zhK P "__file__"), (zsK "__file__" 173), (zsK "/claim/cut.py" 172)⟩, ⟨(zhK P "__cached__"), (zsK "__cached__" 174), .none⟩, ⟨(zhK P "_wall"), (zsK "_wall" 193), (.ref 21)⟩, ⟨(zhK P "RoomsError"), (zsK "RoomsError" 213), (.ref 31)⟩, ⟨(zhK P "NoSwitch"), (zsK "NoSwitch" 240), (.ref 53)⟩, ⟨(zhK P "NoValue"), (zsK "NoValue" 267), (.ref 74)⟩, ⟨(zhK P "NoBook"), (zsK "NoBook" 294), (.ref 95)⟩, ⟨(zhK P "is_whole"), (zsK "is_whole" 303), (.ref 104)⟩, ⟨(zhK P "ORDERS"), (zsK "ORDERS" 350), (.ref 105)⟩, ⟨(zhK P "LEAST_EPOCHS"), (zsK "LEAST_EPOCHS" 352), (.int 2 351)⟩, ⟨(zhK P "MOST_EPOCHS"), (zsK "MOST_EPOCHS" 354), (.int 6 353)⟩, ⟨(zhK P "MOST_COUNTS"), (zsK "MOST_COUNTS" 356), (.int 4 355)⟩, ⟨(zhK P "values_at"), (zsK "values_at" 364), (.ref 123)⟩, ⟨(zhK P "is_same"), (zsK "is_same" 372), (.ref 130)⟩, ⟨(zhK P "is_value"), (zsK "is_value" 378), (.ref 135)⟩, ⟨(zhK P "care"), (zsK "care" 388), (.ref 142)⟩, ⟨(zhK P "Book"), (zsK "Book" 518), (.ref 243)⟩, ⟨(zhK P "EpochBook"), (zsK "EpochBook" 761), (.ref 431)⟩, ⟨(zhK P "LookBook"), (zsK "LookBook" 897), (.ref 532)⟩] 26), #[]⟩
def E12 : Obj := zn [(zi 1), (zi 0), (.ref 20), (zi 5), (zi 0), (.ref 27), (zi 7), (zi 0), (.ref 41), (zi 12), (zi 0), (.ref 62), (zi 17), (zi 0), (.ref 83), (zi 23), (zi 0), (.ref 103), (zi 30), (zi 0), (.ref 122), (zi 36), (zi 0), (.ref 129), (zi 42), (zi 0), (.ref 134), (zi 44), (zi 0), (.ref 141), (zi 53), (zi 0), (.ref 148), (zi 118), (zi 0), (.ref 254), (zi 199), (zi 0), (.ref 440)]
def E243 : Obj := ⟨(.type "type"), none, (.cls ⟨(zo "Book"), [(.type "object")], [(.ref 243), (.type "object")], 242, (zo "Book"), true, [], [(.ref 431), (.ref 532)], false, none, false⟩), #[none, none, (some (zsK "Book" 389)), (some (zsK "Book" 397)), (some (.builtin "object.__new__")), (some (.bool true))]⟩
def E434 : Obj := zt [(.ref 243)]
def E435 : Obj := ⟨(.type "builtin_function_or_method"), none, (.fields #[(.builtin "type.__prepare__"), (.type "type")]), #[]⟩
def E436 (P : Params) : Obj := ⟨(.type "dict"), none, (.dict #[⟨(zhK P "__module__"), (zsK "__module__" 769), (zsK "epochrooms.books" 304)⟩, ⟨(zhK P "__qualname__"), (zsK "__qualname__" 771), (zsK "LookBook" 770)⟩, ⟨(zhK P "__firstlineno__"), (zsK "__firstlineno__" 773), (.int 199 772)⟩, ⟨(zhK P "WORDS"), (zsK "WORDS" 777), (.ref 442)⟩, ⟨(zhK P "WAY"), (zsK "WAY" 779), (zsK "looks" 778)⟩, ⟨(zhK P "__init__"), (zsK "__init__" 795), (.ref 451)⟩, ⟨(zhK P "careful"), (zsK "careful" 813), (.ref 460)⟩, ⟨(zhK P "hasty"), (zsK "hasty" 831), (.ref 470)⟩, ⟨(zhK P "twin"), (zsK "twin" 838), (.ref 478)⟩, ⟨(zhK P "check"), (zsK "check" 846), (.ref 495)⟩, ⟨(zhK P "look"), (zsK "look" 864), (.ref 512)⟩, ⟨(zhK P "chain"), (zsK "chain" 882), (.ref 529)⟩, ⟨(zhK P "__static_attributes__"), (zsK "__static_attributes__" 893), (.ref 530)⟩, ⟨(zhK P "__classcell__"), (zsK "__classcell__" 894), (.ref 437)⟩] 14), #[]⟩
def E437 : Obj := ⟨(.type "cell"), none, (.cell (some (.ref 532))), #[]⟩
def E438 : Obj := zt []
def E439 : Obj := zn [(zi 203), (zi 4), (.ref 450), (zi 207), (zi 4), (.ref 457), (zi 211), (zi 4), (.ref 467), (zi 214), (zi 4), (.ref 477), (zi 218), (zi 4), (.ref 484), (zi 222), (zi 4), (.ref 493), (zi 226), (zi 4), (.ref 501), (zi 230), (zi 4), (.ref 510), (zi 234), (zi 4), (.ref 518), (zi 238), (zi 4), (.ref 527)]
def E440 : Obj := zc [(zsK "LookBook" 764), (zsK "LookBook" 765), (zsK "/claim/cut.py" 766), (zi 199), (zi 0), (zi 0), (zi 0), (zi 0), (.ref 438), (.bool false), (zi 181), (.ref 439), .none, .none, .none, .none, (zi 767), (zi 199), (zsK "/claim/cut.py" 768)]
def E441 : Obj := ⟨(.type "frame"), none, .plain, #[(some (.ref 440)), (some (.ref 3)), (some (.ref 436)), none, (some (zsK "epochrooms.books" 304)), none, (some (.ref 0))]⟩
def E442 : Obj := zt [(zsK "check" 774), (zsK "look" 775), (zsK "chain" 776)]
def E443 (P : Params) : Obj := ⟨(.type "dict"), none, (.dict #[⟨(zhK P "check"), (zsK "check" 782), (.bool true)⟩, ⟨(zhK P "look"), (zsK "look" 783), (zsK "behind" 780)⟩, ⟨(zhK P "chain"), (zsK "chain" 784), (zsK "none" 781)⟩] 3), #[]⟩
def E444 : Obj := zt [(.ref 437)]
def E445 : Obj := zt [(zsK "__class__" 788)]
def E446 : Obj := zn []
def E447 : Obj := zt [(zsK "self" 789), (zsK "check" 790), (zsK "look" 791), (zsK "chain" 792)]
def E448 : Obj := zt []
def E449 : Obj := ⟨.none, none, (.func ⟨(zo "__init__"), (zo "LookBook.__init__"), (zAC 19 2), (.stmts (zBC 19 2)), (zSC 19 2), 0, [], .none, .none, .none, .none, none, .none, .none, 0⟩), #[]⟩
def E450 : Obj := zc [(zsK "__init__" 785), (zsK "LookBook.__init__" 786), (zsK "/claim/cut.py" 787), (zi 203), (zi 1), (zi 0), (zi 3), (zi 3), (.ref 445), (.bool true), (zi 181), (.ref 446), .none, (.ref 447), (.ref 448), (.ref 449), (zi 793), (zi 203), (zsK "/claim/cut.py" 794)]
def E451 : Obj := zf ⟨(zo "__init__"), (zo "LookBook.__init__"), (zAC 19 2), (.stmts (zBC 19 2)), (zSC 19 2), 3, [((zo "__class__"), 437)], .none, (.ref 443), .none, (zsK "epochrooms.books" 304), none, (.ref 450), (.ref 444), 0⟩
def E452 : Obj := zt []
def E453 : Obj := zn []
def E454 : Obj := zt []
def E455 : Obj := zt []
def E456 : Obj := ⟨.none, none, (.func ⟨(zo "careful"), (zo "LookBook.careful"), (zA 25), (.stmts (zBC 19 3)), (zSC 19 3), 0, [], .none, .none, .none, .none, none, .none, .none, 0⟩), #[]⟩
def E457 : Obj := zc [(zsK "careful" 796), (zsK "LookBook.careful" 797), (zsK "/claim/cut.py" 798), (zi 206), (zi 0), (zi 0), (zi 0), (zi 3), (.ref 452), (.bool true), (zi 181), (.ref 453), .none, (.ref 454), (.ref 455), (.ref 456), (zi 799), (zi 206), (zsK "/claim/cut.py" 800)]
def E458 : Obj := zf ⟨(zo "careful"), (zo "LookBook.careful"), (zA 25), (.stmts (zBC 19 3)), (zSC 19 3), 3, [], .none, .none, .none, (zsK "epochrooms.books" 304), (some 461), (.ref 457), .none, 0⟩
def E459 (P : Params) : Obj := ⟨(.type "dict"), none, (.dict #[⟨(zhK P "__module__"), (zsK "__module__" 802), (zsK "epochrooms.books" 304)⟩, ⟨(zhK P "__name__"), (zsK "__name__" 805), (zsK "careful" 804)⟩, ⟨(zhK P "__qualname__"), (zsK "__qualname__" 808), (zsK "LookBook.careful" 807)⟩, ⟨(zhK P "__doc__"), (zsK "__doc__" 810), .none⟩, ⟨(zhK P "__annotations__"), (zsK "__annotations__" 812), (.ref 461)⟩] 5), #[]⟩
def E460 : Obj := ⟨(.type "staticmethod"), (some 459), (.fields #[(.ref 458), (.bool false)]), #[]⟩
def E461 : Obj := ⟨(.type "dict"), none, (.dict #[] 0), #[]⟩
def E462 : Obj := zt []
def E463 : Obj := zn []
def E464 : Obj := zt []
def E465 : Obj := zt []
def E466 : Obj := ⟨.none, none, (.func ⟨(zo "hasty"), (zo "LookBook.hasty"), (zA 25), (.stmts (zBC 19 4)), (zSC 20 4), 0, [], .none, .none, .none, .none, none, .none, .none, 0⟩), #[]⟩
def E467 : Obj := zc [(zsK "hasty" 814), (zsK "LookBook.hasty" 815), (zsK "/claim/cut.py" 816), (zi 210), (zi 0), (zi 0), (zi 0), (zi 3), (.ref 462), (.bool true), (zi 181), (.ref 463), .none, (.ref 464), (.ref 465), (.ref 466), (zi 817), (zi 210), (zsK "/claim/cut.py" 818)]
def E468 : Obj := zf ⟨(zo "hasty"), (zo "LookBook.hasty"), (zA 25), (.stmts (zBC 19 4)), (zSC 20 4), 3, [], .none, .none, .none, (zsK "epochrooms.books" 304), (some 471), (.ref 467), .none, 0⟩
def E469 (P : Params) : Obj := ⟨(.type "dict"), none, (.dict #[⟨(zhK P "__module__"), (zsK "__module__" 820), (zsK "epochrooms.books" 304)⟩, ⟨(zhK P "__name__"), (zsK "__name__" 823), (zsK "hasty" 822)⟩, ⟨(zhK P "__qualname__"), (zsK "__qualname__" 826), (zsK "LookBook.hasty" 825)⟩, ⟨(zhK P "__doc__"), (zsK "__doc__" 828), .none⟩, ⟨(zhK P "__annotations__"), (zsK "__annotations__" 830), (.ref 471)⟩] 5), #[]⟩
def E470 : Obj := ⟨(.type "staticmethod"), (some 469), (.fields #[(.ref 468), (.bool false)]), #[]⟩
def E471 : Obj := ⟨(.type "dict"), none, (.dict #[] 0), #[]⟩
def E472 : Obj := zt []
def E473 : Obj := zn []
def E474 : Obj := zt [(zsK "self" 835)]
def E475 : Obj := zt []
def E476 : Obj := ⟨.none, none, (.func ⟨(zo "twin"), (zo "LookBook.twin"), (zAC 19 5), (.stmts (zBC 19 5)), (zSC 20 5), 0, [], .none, .none, .none, .none, none, .none, .none, 0⟩), #[]⟩
def E477 : Obj := zc [(zsK "twin" 832), (zsK "LookBook.twin" 833), (zsK "/claim/cut.py" 834), (zi 214), (zi 1), (zi 0), (zi 0), (zi 3), (.ref 472), (.bool true), (zi 181), (.ref 473), .none, (.ref 474), (.ref 475), (.ref 476), (zi 836), (zi 214), (zsK "/claim/cut.py" 837)]
def E478 : Obj := zm "twin" "LookBook.twin" 19 5 19 5 20 5 "epochrooms.books" 304 477
def E479 : Obj := zt []
def E480 : Obj := zn []
def E481 : Obj := zt [(zsK "self" 842)]
def E482 : Obj := zt []
def E483 : Obj := ⟨.none, none, (.func ⟨(zo "check"), (zo "LookBook.check"), (zAC 19 6), (.stmts (zBC 19 6)), (zSC 20 12), 0, [], .none, .none, .none, .none, none, .none, .none, 0⟩), #[]⟩
def E484 : Obj := zc [(zsK "check" 839), (zsK "LookBook.check" 840), (zsK "/claim/cut.py" 841), (zi 217), (zi 1), (zi 0), (zi 0), (zi 3), (.ref 479), (.bool true), (zi 181), (.ref 480), .none, (.ref 481), (.ref 482), (.ref 483), (zi 843), (zi 217), (zsK "/claim/cut.py" 844)]
def E485 : Obj := zm "check" "LookBook.check" 19 6 19 6 20 12 "epochrooms.books" 304 484
def E486 : Obj := ⟨(.type "property"), none, (.fields #[(.ref 485), .none, .none, .none, (zi 0), (.bool false)]), #[]⟩
def E487 : Obj := ⟨(.type "builtin_function_or_method"), none, (.fields #[(.builtin "property.setter"), (.ref 486)]), #[]⟩
def E488 : Obj := zt []
def E489 : Obj := zn []
def E490 : Obj := zt [(zsK "self" 851), (zsK "value" 852)]
def E491 : Obj := zt []
def E492 : Obj := ⟨.none, none, (.func ⟨(zo "check"), (zo "LookBook.check"), (zAC 19 7), (.stmts (zBC 19 7)), (zSC 20 13), 0, [], .none, .none, .none, .none, none, .none, .none, 0⟩), #[]⟩
def E493 : Obj := zc [(zsK "check" 848), (zsK "LookBook.check" 849), (zsK "/claim/cut.py" 850), (zi 221), (zi 2), (zi 0), (zi 0), (zi 3), (.ref 488), (.bool true), (zi 181), (.ref 489), .none, (.ref 490), (.ref 491), (.ref 492), (zi 853), (zi 221), (zsK "/claim/cut.py" 854)]
def E494 : Obj := zm "check" "LookBook.check" 19 7 19 7 20 13 "epochrooms.books" 304 493
def E495 : Obj := ⟨(.type "property"), none, (.fields #[(.ref 485), (.ref 494), .none, .none, (zsK "check" 846), (.bool false)]), #[]⟩
def E496 : Obj := zt []
def E497 : Obj := zn []
def E498 : Obj := zt [(zsK "self" 860)]
def E499 : Obj := zt []
def E500 : Obj := ⟨.none, none, (.func ⟨(zo "look"), (zo "LookBook.look"), (zAC 19 8), (.stmts (zBC 19 8)), (zSC 20 12), 0, [], .none, .none, .none, .none, none, .none, .none, 0⟩), #[]⟩
def E501 : Obj := zc [(zsK "look" 857), (zsK "LookBook.look" 858), (zsK "/claim/cut.py" 859), (zi 225), (zi 1), (zi 0), (zi 0), (zi 3), (.ref 496), (.bool true), (zi 181), (.ref 497), .none, (.ref 498), (.ref 499), (.ref 500), (zi 861), (zi 225), (zsK "/claim/cut.py" 862)]
def E502 : Obj := zm "look" "LookBook.look" 19 8 19 8 20 12 "epochrooms.books" 304 501
def E503 : Obj := ⟨(.type "property"), none, (.fields #[(.ref 502), .none, .none, .none, (zi 0), (.bool false)]), #[]⟩
def E504 : Obj := ⟨(.type "builtin_function_or_method"), none, (.fields #[(.builtin "property.setter"), (.ref 503)]), #[]⟩
def E505 : Obj := zt []
def E506 : Obj := zn []
def E507 : Obj := zt [(zsK "self" 869), (zsK "value" 870)]
def E508 : Obj := zt []
def E509 : Obj := ⟨.none, none, (.func ⟨(zo "look"), (zo "LookBook.look"), (zAC 19 9), (.stmts (zBC 19 9)), (zSC 20 13), 0, [], .none, .none, .none, .none, none, .none, .none, 0⟩), #[]⟩
def E510 : Obj := zc [(zsK "look" 866), (zsK "LookBook.look" 867), (zsK "/claim/cut.py" 868), (zi 229), (zi 2), (zi 0), (zi 0), (zi 3), (.ref 505), (.bool true), (zi 181), (.ref 506), .none, (.ref 507), (.ref 508), (.ref 509), (zi 871), (zi 229), (zsK "/claim/cut.py" 872)]
def E511 : Obj := zm "look" "LookBook.look" 19 9 19 9 20 13 "epochrooms.books" 304 510
def E512 : Obj := ⟨(.type "property"), none, (.fields #[(.ref 502), (.ref 511), .none, .none, (zsK "look" 864), (.bool false)]), #[]⟩
def E513 : Obj := zt []
def E514 : Obj := zn []
def E515 : Obj := zt [(zsK "self" 878)]
def E516 : Obj := zt []
def E517 : Obj := ⟨.none, none, (.func ⟨(zo "chain"), (zo "LookBook.chain"), (zAC 19 10), (.stmts (zBC 19 10)), (zSC 20 12), 0, [], .none, .none, .none, .none, none, .none, .none, 0⟩), #[]⟩
def E518 : Obj := zc [(zsK "chain" 875), (zsK "LookBook.chain" 876), (zsK "/claim/cut.py" 877), (zi 233), (zi 1), (zi 0), (zi 0), (zi 3), (.ref 513), (.bool true), (zi 181), (.ref 514), .none, (.ref 515), (.ref 516), (.ref 517), (zi 879), (zi 233), (zsK "/claim/cut.py" 880)]
def E519 : Obj := zm "chain" "LookBook.chain" 19 10 19 10 20 12 "epochrooms.books" 304 518
def E520 : Obj := ⟨(.type "property"), none, (.fields #[(.ref 519), .none, .none, .none, (zi 0), (.bool false)]), #[]⟩
def E521 : Obj := ⟨(.type "builtin_function_or_method"), none, (.fields #[(.builtin "property.setter"), (.ref 520)]), #[]⟩
def E522 : Obj := zt []
def E523 : Obj := zn []
def E524 : Obj := zt [(zsK "self" 887), (zsK "value" 888)]
def E525 : Obj := zt []
def E526 : Obj := ⟨.none, none, (.func ⟨(zo "chain"), (zo "LookBook.chain"), (zAC 19 11), (.stmts (zBC 19 11)), (zSC 20 13), 0, [], .none, .none, .none, .none, none, .none, .none, 0⟩), #[]⟩
def E527 : Obj := zc [(zsK "chain" 884), (zsK "LookBook.chain" 885), (zsK "/claim/cut.py" 886), (zi 237), (zi 2), (zi 0), (zi 0), (zi 3), (.ref 522), (.bool true), (zi 181), (.ref 523), .none, (.ref 524), (.ref 525), (.ref 526), (zi 889), (zi 237), (zsK "/claim/cut.py" 890)]
def E528 : Obj := zm "chain" "LookBook.chain" 19 11 19 11 20 13 "epochrooms.books" 304 527
def E529 : Obj := ⟨(.type "property"), none, (.fields #[(.ref 519), (.ref 528), .none, .none, (zsK "chain" 882), (.bool false)]), #[]⟩
def E530 : Obj := zt []
def E531 (P : Params) : Obj := ⟨(.type "dict"), none, (.dict #[⟨(zhK P "__module__"), (zsK "__module__" 769), (zsK "epochrooms.books" 304)⟩, ⟨(zhK P "__firstlineno__"), (zsK "__firstlineno__" 773), (.int 199 772)⟩, ⟨(zhK P "WORDS"), (zsK "WORDS" 777), (.ref 442)⟩, ⟨(zhK P "WAY"), (zsK "WAY" 779), (zsK "looks" 778)⟩, ⟨(zhK P "__init__"), (zsK "__init__" 795), (.ref 451)⟩, ⟨(zhK P "careful"), (zsK "careful" 813), (.ref 460)⟩, ⟨(zhK P "hasty"), (zsK "hasty" 831), (.ref 470)⟩, ⟨(zhK P "twin"), (zsK "twin" 838), (.ref 478)⟩, ⟨(zhK P "check"), (zsK "check" 846), (.ref 495)⟩, ⟨(zhK P "look"), (zsK "look" 864), (.ref 512)⟩, ⟨(zhK P "chain"), (zsK "chain" 882), (.ref 529)⟩, ⟨(zhK P "__static_attributes__"), (zsK "__static_attributes__" 893), (.ref 530)⟩, ⟨(zhK P "__doc__"), (zsK "__doc__" 895), .none⟩] 3), #[]⟩
def E532 : Obj := ⟨(.type "type"), none, (.cls ⟨(zo "LookBook"), [(.ref 243)], [(.ref 532), (.ref 243), (.type "object")], 531, (zo "LookBook"), true, [], [], false, none, false⟩), #[(some (.ref 434)), none, (some (zsK "LookBook" 762)), (some (zsK "LookBook" 770)), (some (.builtin "object.__new__")), (some (.bool true))]⟩
def E533 : Obj := ⟨(.type "super"), none, (.fields #[(.ref 532), (.ref 532), (.ref 532)]), #[]⟩
def E534 : Obj := ⟨(.type "builtin_function_or_method"), none, (.fields #[(.builtin "object.__init_subclass__"), (.ref 532)]), #[]⟩
def F3 (P : Params) : Obj := ⟨(.type "dict"), none, (.dict #[⟨(zhK P "__name__"), (zsK "__name__" 165), (zsK "epochrooms.books" 304)⟩, ⟨(zhK P "__doc__"), (zsK "__doc__" 166), .none⟩, ⟨(zhK P "__package__"), (zsK "__package__" 167), .none⟩, ⟨(zhK P "__loader__"), (zsK "__loader__" 168), (.builtin "__main__.__loader__#opaque")⟩, ⟨(zhK P "__spec__"), (zsK "__spec__" 169), .none⟩, ⟨(zhK P "__annotations__"), (zsK "__annotations__" 170), (.ref 6)⟩, ⟨(zhK P "__builtins__"), (zsK "__builtins__" 171), (.ref 4)⟩, ⟨(zhK P "__file__"), (zsK "__file__" 173), (zsK "/claim/cut.py" 172)⟩, ⟨(zhK P "__cached__"), (zsK "__cached__" 174), .none⟩, ⟨(zhK P "_wall"), (zsK "_wall" 193), (.ref 21)⟩, ⟨(zhK P "RoomsError"), (zsK "RoomsError" 213), (.ref 31)⟩, ⟨(zhK P "NoSwitch"), (zsK "NoSwitch" 240), (.ref 53)⟩, ⟨(zhK P "NoValue"), (zsK "NoValue" 267), (.ref 74)⟩, ⟨(zhK P "NoBook"), (zsK "NoBook" 294), (.ref 95)⟩, ⟨(zhK P "is_whole"), (zsK "is_whole" 303), (.ref 104)⟩, ⟨(zhK P "ORDERS"), (zsK "ORDERS" 350), (.ref 105)⟩, ⟨(zhK P "LEAST_EPOCHS"), (zsK "LEAST_EPOCHS" 352), (.int 2 351)⟩, ⟨(zhK P "MOST_EPOCHS"), (zsK "MOST_EPOCHS" 354), (.int 6 353)⟩, ⟨(zhK P "MOST_COUNTS"), (zsK "MOST_COUNTS" 356), (.int 4 355)⟩, ⟨(zhK P "values_at"), (zsK "values_at" 364), (.ref 123)⟩, ⟨(zhK P "is_same"), (zsK "is_same" 372), (.ref 130)⟩, ⟨(zhK P "is_value"), (zsK "is_value" 378), (.ref 135)⟩, ⟨(zhK P "care"), (zsK "care" 388), (.ref 142)⟩, ⟨(zhK P "Book"), (zsK "Book" 518), (.ref 243)⟩, ⟨(zhK P "EpochBook"), (zsK "EpochBook" 761), (.ref 431)⟩, ⟨(zhK P "LookBook"), (zsK "LookBook" 897), (.ref 532)⟩, ⟨(zhK P "StillBook"), (zsK "StillBook" 1054), (.ref 650)⟩] 27), #[]⟩
def F12 : Obj := zn [(zi 1), (zi 0), (.ref 20), (zi 5), (zi 0), (.ref 27), (zi 7), (zi 0), (.ref 41), (zi 12), (zi 0), (.ref 62), (zi 17), (zi 0), (.ref 83), (zi 23), (zi 0), (.ref 103), (zi 30), (zi 0), (.ref 122), (zi 36), (zi 0), (.ref 129), (zi 42), (zi 0), (.ref 134), (zi 44), (zi 0), (.ref 141), (zi 53), (zi 0), (.ref 148), (zi 118), (zi 0), (.ref 254), (zi 199), (zi 0), (.ref 440), (zi 240), (zi 0), (.ref 541)]
def F243 : Obj := ⟨(.type "type"), none, (.cls ⟨(zo "Book"), [(.type "object")], [(.ref 243), (.type "object")], 242, (zo "Book"), true, [], [(.ref 431), (.ref 532), (.ref 650)], false, none, false⟩), #[none, none, (some (zsK "Book" 389)), (some (zsK "Book" 397)), (some (.builtin "object.__new__")), (some (.bool true))]⟩
def F535 : Obj := zt [(.ref 243)]
def F536 : Obj := ⟨(.type "builtin_function_or_method"), none, (.fields #[(.builtin "type.__prepare__"), (.type "type")]), #[]⟩
def F537 (P : Params) : Obj := ⟨(.type "dict"), none, (.dict #[⟨(zhK P "__module__"), (zsK "__module__" 905), (zsK "epochrooms.books" 304)⟩, ⟨(zhK P "__qualname__"), (zsK "__qualname__" 907), (zsK "StillBook" 906)⟩, ⟨(zhK P "__firstlineno__"), (zsK "__firstlineno__" 909), (.int 240 908)⟩, ⟨(zhK P "WORDS"), (zsK "WORDS" 914), (.ref 543)⟩, ⟨(zhK P "WAY"), (zsK "WAY" 916), (zsK "still" 915)⟩, ⟨(zhK P "__init__"), (zsK "__init__" 934), (.ref 552)⟩, ⟨(zhK P "careful"), (zsK "careful" 952), (.ref 561)⟩, ⟨(zhK P "hasty"), (zsK "hasty" 970), (.ref 571)⟩, ⟨(zhK P "twin"), (zsK "twin" 977), (.ref 579)⟩, ⟨(zhK P "counts"), (zsK "counts" 985), (.ref 596)⟩, ⟨(zhK P "still"), (zsK "still" 1003), (.ref 613)⟩, ⟨(zhK P "read"), (zsK "read" 1021), (.ref 630)⟩, ⟨(zhK P "sleep"), (zsK "sleep" 1039), (.ref 647)⟩, ⟨(zhK P "__static_attributes__"), (zsK "__static_attributes__" 1050), (.ref 648)⟩, ⟨(zhK P "__classcell__"), (zsK "__classcell__" 1051), (.ref 538)⟩] 15), #[]⟩
def F538 : Obj := ⟨(.type "cell"), none, (.cell (some (.ref 650))), #[]⟩
def F539 : Obj := zt []
def F540 : Obj := zn [(zi 244), (zi 4), (.ref 551), (zi 248), (zi 4), (.ref 558), (zi 252), (zi 4), (.ref 568), (zi 255), (zi 4), (.ref 578), (zi 259), (zi 4), (.ref 585), (zi 263), (zi 4), (.ref 594), (zi 267), (zi 4), (.ref 602), (zi 271), (zi 4), (.ref 611), (zi 275), (zi 4), (.ref 619), (zi 279), (zi 4), (.ref 628), (zi 283), (zi 4), (.ref 636), (zi 287), (zi 4), (.ref 645)]
def F541 : Obj := zc [(zsK "StillBook" 900), (zsK "StillBook" 901), (zsK "/claim/cut.py" 902), (zi 240), (zi 0), (zi 0), (zi 0), (zi 0), (.ref 539), (.bool false), (zi 181), (.ref 540), .none, .none, .none, .none, (zi 903), (zi 240), (zsK "/claim/cut.py" 904)]
def F542 : Obj := ⟨(.type "frame"), none, .plain, #[(some (.ref 541)), (some (.ref 3)), (some (.ref 537)), none, (some (zsK "epochrooms.books" 304)), none, (some (.ref 0))]⟩
def F543 : Obj := zt [(zsK "counts" 910), (zsK "still" 911), (zsK "read" 912), (zsK "sleep" 913)]
def F544 (P : Params) : Obj := ⟨(.type "dict"), none, (.dict #[⟨(zhK P "still"), (zsK "still" 920), (zsK "outside" 917)⟩, ⟨(zhK P "read"), (zsK "read" 921), (zsK "behind" 918)⟩, ⟨(zhK P "sleep"), (zsK "sleep" 922), (zsK "none" 919)⟩] 3), #[]⟩
def F545 : Obj := zt [(.ref 538)]
def F546 : Obj := zt [(zsK "__class__" 926)]
def F547 : Obj := zn []
def F548 : Obj := zt [(zsK "self" 927), (zsK "counts" 928), (zsK "still" 929), (zsK "read" 930), (zsK "sleep" 931)]
def F549 : Obj := zt []
def F550 : Obj := ⟨.none, none, (.func ⟨(zo "__init__"), (zo "StillBook.__init__"), (zAC 20 2), (.stmts (zBC 20 2)), (zSC 20 2), 0, [], .none, .none, .none, .none, none, .none, .none, 0⟩), #[]⟩
def F551 : Obj := zc [(zsK "__init__" 923), (zsK "StillBook.__init__" 924), (zsK "/claim/cut.py" 925), (zi 244), (zi 2), (zi 0), (zi 3), (zi 3), (.ref 546), (.bool true), (zi 181), (.ref 547), .none, (.ref 548), (.ref 549), (.ref 550), (zi 932), (zi 244), (zsK "/claim/cut.py" 933)]
def F552 : Obj := zf ⟨(zo "__init__"), (zo "StillBook.__init__"), (zAC 20 2), (.stmts (zBC 20 2)), (zSC 20 2), 3, [((zo "__class__"), 538)], .none, (.ref 544), .none, (zsK "epochrooms.books" 304), none, (.ref 551), (.ref 545), 0⟩
def F553 : Obj := zt []
def F554 : Obj := zn []
def F555 : Obj := zt []
def F556 : Obj := zt []
def F557 : Obj := ⟨.none, none, (.func ⟨(zo "careful"), (zo "StillBook.careful"), (zA 25), (.stmts (zBC 20 3)), (zSC 20 3), 0, [], .none, .none, .none, .none, none, .none, .none, 0⟩), #[]⟩
def F558 : Obj := zc [(zsK "careful" 935), (zsK "StillBook.careful" 936), (zsK "/claim/cut.py" 937), (zi 247), (zi 0), (zi 0), (zi 0), (zi 3), (.ref 553), (.bool true), (zi 181), (.ref 554), .none, (.ref 555), (.ref 556), (.ref 557), (zi 938), (zi 247), (zsK "/claim/cut.py" 939)]
def F559 : Obj := zf ⟨(zo "careful"), (zo "StillBook.careful"), (zA 25), (.stmts (zBC 20 3)), (zSC 20 3), 3, [], .none, .none, .none, (zsK "epochrooms.books" 304), (some 562), (.ref 558), .none, 0⟩
def F560 (P : Params) : Obj := ⟨(.type "dict"), none, (.dict #[⟨(zhK P "__module__"), (zsK "__module__" 941), (zsK "epochrooms.books" 304)⟩, ⟨(zhK P "__name__"), (zsK "__name__" 944), (zsK "careful" 943)⟩, ⟨(zhK P "__qualname__"), (zsK "__qualname__" 947), (zsK "StillBook.careful" 946)⟩, ⟨(zhK P "__doc__"), (zsK "__doc__" 949), .none⟩, ⟨(zhK P "__annotations__"), (zsK "__annotations__" 951), (.ref 562)⟩] 5), #[]⟩
def F561 : Obj := ⟨(.type "staticmethod"), (some 560), (.fields #[(.ref 559), (.bool false)]), #[]⟩
def F562 : Obj := ⟨(.type "dict"), none, (.dict #[] 0), #[]⟩
def F563 : Obj := zt []
def F564 : Obj := zn []
def F565 : Obj := zt []
def F566 : Obj := zt []
def F567 : Obj := ⟨.none, none, (.func ⟨(zo "hasty"), (zo "StillBook.hasty"), (zA 25), (.stmts (zBC 20 4)), (zSC 20 4), 0, [], .none, .none, .none, .none, none, .none, .none, 0⟩), #[]⟩
def F568 : Obj := zc [(zsK "hasty" 953), (zsK "StillBook.hasty" 954), (zsK "/claim/cut.py" 955), (zi 251), (zi 0), (zi 0), (zi 0), (zi 3), (.ref 563), (.bool true), (zi 181), (.ref 564), .none, (.ref 565), (.ref 566), (.ref 567), (zi 956), (zi 251), (zsK "/claim/cut.py" 957)]
def F569 : Obj := zf ⟨(zo "hasty"), (zo "StillBook.hasty"), (zA 25), (.stmts (zBC 20 4)), (zSC 20 4), 3, [], .none, .none, .none, (zsK "epochrooms.books" 304), (some 572), (.ref 568), .none, 0⟩
def F570 (P : Params) : Obj := ⟨(.type "dict"), none, (.dict #[⟨(zhK P "__module__"), (zsK "__module__" 959), (zsK "epochrooms.books" 304)⟩, ⟨(zhK P "__name__"), (zsK "__name__" 962), (zsK "hasty" 961)⟩, ⟨(zhK P "__qualname__"), (zsK "__qualname__" 965), (zsK "StillBook.hasty" 964)⟩, ⟨(zhK P "__doc__"), (zsK "__doc__" 967), .none⟩, ⟨(zhK P "__annotations__"), (zsK "__annotations__" 969), (.ref 572)⟩] 5), #[]⟩
def F571 : Obj := ⟨(.type "staticmethod"), (some 570), (.fields #[(.ref 569), (.bool false)]), #[]⟩
def F572 : Obj := ⟨(.type "dict"), none, (.dict #[] 0), #[]⟩
def F573 : Obj := zt []
def F574 : Obj := zn []
def F575 : Obj := zt [(zsK "self" 974)]
def F576 : Obj := zt []
def F577 : Obj := ⟨.none, none, (.func ⟨(zo "twin"), (zo "StillBook.twin"), (zAC 20 5), (.stmts (zBC 20 5)), (zSC 20 5), 0, [], .none, .none, .none, .none, none, .none, .none, 0⟩), #[]⟩
def F578 : Obj := zc [(zsK "twin" 971), (zsK "StillBook.twin" 972), (zsK "/claim/cut.py" 973), (zi 255), (zi 1), (zi 0), (zi 0), (zi 3), (.ref 573), (.bool true), (zi 181), (.ref 574), .none, (.ref 575), (.ref 576), (.ref 577), (zi 975), (zi 255), (zsK "/claim/cut.py" 976)]
def F579 : Obj := zm "twin" "StillBook.twin" 20 5 20 5 20 5 "epochrooms.books" 304 578
def F580 : Obj := zt []
def F581 : Obj := zn []
def F582 : Obj := zt [(zsK "self" 981)]
def F583 : Obj := zt []
def F584 : Obj := ⟨.none, none, (.func ⟨(zo "counts"), (zo "StillBook.counts"), (zAC 20 6), (.stmts (zBC 20 6)), (zSC 20 12), 0, [], .none, .none, .none, .none, none, .none, .none, 0⟩), #[]⟩
def F585 : Obj := zc [(zsK "counts" 978), (zsK "StillBook.counts" 979), (zsK "/claim/cut.py" 980), (zi 258), (zi 1), (zi 0), (zi 0), (zi 3), (.ref 580), (.bool true), (zi 181), (.ref 581), .none, (.ref 582), (.ref 583), (.ref 584), (zi 982), (zi 258), (zsK "/claim/cut.py" 983)]
def F586 : Obj := zm "counts" "StillBook.counts" 20 6 20 6 20 12 "epochrooms.books" 304 585
def F587 : Obj := ⟨(.type "property"), none, (.fields #[(.ref 586), .none, .none, .none, (zi 0), (.bool false)]), #[]⟩
def F588 : Obj := ⟨(.type "builtin_function_or_method"), none, (.fields #[(.builtin "property.setter"), (.ref 587)]), #[]⟩
def F589 : Obj := zt []
def F590 : Obj := zn []
def F591 : Obj := zt [(zsK "self" 990), (zsK "value" 991)]
def F592 : Obj := zt []
def F593 : Obj := ⟨.none, none, (.func ⟨(zo "counts"), (zo "StillBook.counts"), (zAC 20 7), (.stmts (zBC 20 7)), (zSC 20 13), 0, [], .none, .none, .none, .none, none, .none, .none, 0⟩), #[]⟩
def F594 : Obj := zc [(zsK "counts" 987), (zsK "StillBook.counts" 988), (zsK "/claim/cut.py" 989), (zi 262), (zi 2), (zi 0), (zi 0), (zi 3), (.ref 589), (.bool true), (zi 181), (.ref 590), .none, (.ref 591), (.ref 592), (.ref 593), (zi 992), (zi 262), (zsK "/claim/cut.py" 993)]
def F595 : Obj := zm "counts" "StillBook.counts" 20 7 20 7 20 13 "epochrooms.books" 304 594
def F596 : Obj := ⟨(.type "property"), none, (.fields #[(.ref 586), (.ref 595), .none, .none, (zsK "counts" 985), (.bool false)]), #[]⟩
def F597 : Obj := zt []
def F598 : Obj := zn []
def F599 : Obj := zt [(zsK "self" 999)]
def F600 : Obj := zt []
def F601 : Obj := ⟨.none, none, (.func ⟨(zo "still"), (zo "StillBook.still"), (zAC 20 8), (.stmts (zBC 20 8)), (zSC 20 12), 0, [], .none, .none, .none, .none, none, .none, .none, 0⟩), #[]⟩
def F602 : Obj := zc [(zsK "still" 996), (zsK "StillBook.still" 997), (zsK "/claim/cut.py" 998), (zi 266), (zi 1), (zi 0), (zi 0), (zi 3), (.ref 597), (.bool true), (zi 181), (.ref 598), .none, (.ref 599), (.ref 600), (.ref 601), (zi 1000), (zi 266), (zsK "/claim/cut.py" 1001)]
def F603 : Obj := zm "still" "StillBook.still" 20 8 20 8 20 12 "epochrooms.books" 304 602
def F604 : Obj := ⟨(.type "property"), none, (.fields #[(.ref 603), .none, .none, .none, (zi 0), (.bool false)]), #[]⟩
def F605 : Obj := ⟨(.type "builtin_function_or_method"), none, (.fields #[(.builtin "property.setter"), (.ref 604)]), #[]⟩
def F606 : Obj := zt []
def F607 : Obj := zn []
def F608 : Obj := zt [(zsK "self" 1008), (zsK "value" 1009)]
def F609 : Obj := zt []
def F610 : Obj := ⟨.none, none, (.func ⟨(zo "still"), (zo "StillBook.still"), (zAC 20 9), (.stmts (zBC 20 9)), (zSC 20 13), 0, [], .none, .none, .none, .none, none, .none, .none, 0⟩), #[]⟩
def F611 : Obj := zc [(zsK "still" 1005), (zsK "StillBook.still" 1006), (zsK "/claim/cut.py" 1007), (zi 270), (zi 2), (zi 0), (zi 0), (zi 3), (.ref 606), (.bool true), (zi 181), (.ref 607), .none, (.ref 608), (.ref 609), (.ref 610), (zi 1010), (zi 270), (zsK "/claim/cut.py" 1011)]
def F612 : Obj := zm "still" "StillBook.still" 20 9 20 9 20 13 "epochrooms.books" 304 611
def F613 : Obj := ⟨(.type "property"), none, (.fields #[(.ref 603), (.ref 612), .none, .none, (zsK "still" 1003), (.bool false)]), #[]⟩
def F614 : Obj := zt []
def F615 : Obj := zn []
def F616 : Obj := zt [(zsK "self" 1017)]
def F617 : Obj := zt []
def F618 : Obj := ⟨.none, none, (.func ⟨(zo "read"), (zo "StillBook.read"), (zAC 20 10), (.stmts (zBC 20 10)), (zSC 20 12), 0, [], .none, .none, .none, .none, none, .none, .none, 0⟩), #[]⟩
def F619 : Obj := zc [(zsK "read" 1014), (zsK "StillBook.read" 1015), (zsK "/claim/cut.py" 1016), (zi 274), (zi 1), (zi 0), (zi 0), (zi 3), (.ref 614), (.bool true), (zi 181), (.ref 615), .none, (.ref 616), (.ref 617), (.ref 618), (zi 1018), (zi 274), (zsK "/claim/cut.py" 1019)]
def F620 : Obj := zm "read" "StillBook.read" 20 10 20 10 20 12 "epochrooms.books" 304 619
def F621 : Obj := ⟨(.type "property"), none, (.fields #[(.ref 620), .none, .none, .none, (zi 0), (.bool false)]), #[]⟩
def F622 : Obj := ⟨(.type "builtin_function_or_method"), none, (.fields #[(.builtin "property.setter"), (.ref 621)]), #[]⟩
def F623 : Obj := zt []
def F624 : Obj := zn []
def F625 : Obj := zt [(zsK "self" 1026), (zsK "value" 1027)]
def F626 : Obj := zt []
def F627 : Obj := ⟨.none, none, (.func ⟨(zo "read"), (zo "StillBook.read"), (zAC 20 11), (.stmts (zBC 20 11)), (zSC 20 13), 0, [], .none, .none, .none, .none, none, .none, .none, 0⟩), #[]⟩
def F628 : Obj := zc [(zsK "read" 1023), (zsK "StillBook.read" 1024), (zsK "/claim/cut.py" 1025), (zi 278), (zi 2), (zi 0), (zi 0), (zi 3), (.ref 623), (.bool true), (zi 181), (.ref 624), .none, (.ref 625), (.ref 626), (.ref 627), (zi 1028), (zi 278), (zsK "/claim/cut.py" 1029)]
def F629 : Obj := zm "read" "StillBook.read" 20 11 20 11 20 13 "epochrooms.books" 304 628
def F630 : Obj := ⟨(.type "property"), none, (.fields #[(.ref 620), (.ref 629), .none, .none, (zsK "read" 1021), (.bool false)]), #[]⟩
def F631 : Obj := zt []
def F632 : Obj := zn []
def F633 : Obj := zt [(zsK "self" 1035)]
def F634 : Obj := zt []
def F635 : Obj := ⟨.none, none, (.func ⟨(zo "sleep"), (zo "StillBook.sleep"), (zAC 20 12), (.stmts (zBC 20 12)), (zSC 20 12), 0, [], .none, .none, .none, .none, none, .none, .none, 0⟩), #[]⟩
def F636 : Obj := zc [(zsK "sleep" 1032), (zsK "StillBook.sleep" 1033), (zsK "/claim/cut.py" 1034), (zi 282), (zi 1), (zi 0), (zi 0), (zi 3), (.ref 631), (.bool true), (zi 181), (.ref 632), .none, (.ref 633), (.ref 634), (.ref 635), (zi 1036), (zi 282), (zsK "/claim/cut.py" 1037)]
def F637 : Obj := zm "sleep" "StillBook.sleep" 20 12 20 12 20 12 "epochrooms.books" 304 636
def F638 : Obj := ⟨(.type "property"), none, (.fields #[(.ref 637), .none, .none, .none, (zi 0), (.bool false)]), #[]⟩
def F639 : Obj := ⟨(.type "builtin_function_or_method"), none, (.fields #[(.builtin "property.setter"), (.ref 638)]), #[]⟩
def F640 : Obj := zt []
def F641 : Obj := zn []
def F642 : Obj := zt [(zsK "self" 1044), (zsK "value" 1045)]
def F643 : Obj := zt []
def F644 : Obj := ⟨.none, none, (.func ⟨(zo "sleep"), (zo "StillBook.sleep"), (zAC 20 13), (.stmts (zBC 20 13)), (zSC 20 13), 0, [], .none, .none, .none, .none, none, .none, .none, 0⟩), #[]⟩
def F645 : Obj := zc [(zsK "sleep" 1041), (zsK "StillBook.sleep" 1042), (zsK "/claim/cut.py" 1043), (zi 286), (zi 2), (zi 0), (zi 0), (zi 3), (.ref 640), (.bool true), (zi 181), (.ref 641), .none, (.ref 642), (.ref 643), (.ref 644), (zi 1046), (zi 286), (zsK "/claim/cut.py" 1047)]
def F646 : Obj := zm "sleep" "StillBook.sleep" 20 13 20 13 20 13 "epochrooms.books" 304 645
def F647 : Obj := ⟨(.type "property"), none, (.fields #[(.ref 637), (.ref 646), .none, .none, (zsK "sleep" 1039), (.bool false)]), #[]⟩
def F648 : Obj := zt []
def F649 (P : Params) : Obj := ⟨(.type "dict"), none, (.dict #[⟨(zhK P "__module__"), (zsK "__module__" 905), (zsK "epochrooms.books" 304)⟩, ⟨(zhK P "__firstlineno__"), (zsK "__firstlineno__" 909), (.int 240 908)⟩, ⟨(zhK P "WORDS"), (zsK "WORDS" 914), (.ref 543)⟩, ⟨(zhK P "WAY"), (zsK "WAY" 916), (zsK "still" 915)⟩, ⟨(zhK P "__init__"), (zsK "__init__" 934), (.ref 552)⟩, ⟨(zhK P "careful"), (zsK "careful" 952), (.ref 561)⟩, ⟨(zhK P "hasty"), (zsK "hasty" 970), (.ref 571)⟩, ⟨(zhK P "twin"), (zsK "twin" 977), (.ref 579)⟩, ⟨(zhK P "counts"), (zsK "counts" 985), (.ref 596)⟩, ⟨(zhK P "still"), (zsK "still" 1003), (.ref 613)⟩, ⟨(zhK P "read"), (zsK "read" 1021), (.ref 630)⟩, ⟨(zhK P "sleep"), (zsK "sleep" 1039), (.ref 647)⟩, ⟨(zhK P "__static_attributes__"), (zsK "__static_attributes__" 1050), (.ref 648)⟩, ⟨(zhK P "__doc__"), (zsK "__doc__" 1052), .none⟩] 3), #[]⟩
def F650 : Obj := ⟨(.type "type"), none, (.cls ⟨(zo "StillBook"), [(.ref 243)], [(.ref 650), (.ref 243), (.type "object")], 649, (zo "StillBook"), true, [], [], false, none, false⟩), #[(some (.ref 535)), none, (some (zsK "StillBook" 898)), (some (zsK "StillBook" 906)), (some (.builtin "object.__new__")), (some (.bool true))]⟩
def F651 : Obj := ⟨(.type "super"), none, (.fields #[(.ref 650), (.ref 650), (.ref 650)]), #[]⟩
def F652 : Obj := ⟨(.type "builtin_function_or_method"), none, (.fields #[(.builtin "object.__init_subclass__"), (.ref 650)]), #[]⟩
def G3 (P : Params) : Obj := ⟨(.type "dict"), none, (.dict #[⟨(zhK P "__name__"), (zsK "__name__" 165), (zsK "law_epochrooms_k05_books_refused" 1077)⟩, ⟨(zhK P "__doc__"), (zsK "__doc__" 166), .none⟩, ⟨(zhK P "__package__"), (zsK "__package__" 167), .none⟩, ⟨(zhK P "__loader__"), (zsK "__loader__" 168), (.builtin "__main__.__loader__#opaque")⟩, ⟨(zhK P "__spec__"), (zsK "__spec__" 169), .none⟩, ⟨(zhK P "__annotations__"), (zsK "__annotations__" 170), (.ref 6)⟩, ⟨(zhK P "__builtins__"), (zsK "__builtins__" 171), (.ref 4)⟩, ⟨(zhK P "__file__"), (zsK "__file__" 173), (zsK "/claim/cut.py" 172)⟩, ⟨(zhK P "__cached__"), (zsK "__cached__" 174), .none⟩, ⟨(zhK P "_wall"), (zsK "_wall" 193), (.ref 21)⟩, ⟨(zhK P "RoomsError"), (zsK "RoomsError" 213), (.ref 31)⟩, ⟨(zhK P "NoSwitch"), (zsK "NoSwitch" 240), (.ref 53)⟩, ⟨(zhK P "NoValue"), (zsK "NoValue" 267), (.ref 74)⟩, ⟨(zhK P "NoBook"), (zsK "NoBook" 294), (.ref 95)⟩, ⟨(zhK P "is_whole"), (zsK "is_whole" 303), (.ref 104)⟩, ⟨(zhK P "ORDERS"), (zsK "ORDERS" 350), (.ref 105)⟩, ⟨(zhK P "LEAST_EPOCHS"), (zsK "LEAST_EPOCHS" 352), (.int 2 351)⟩, ⟨(zhK P "MOST_EPOCHS"), (zsK "MOST_EPOCHS" 354), (.int 6 353)⟩, ⟨(zhK P "MOST_COUNTS"), (zsK "MOST_COUNTS" 356), (.int 4 355)⟩, ⟨(zhK P "values_at"), (zsK "values_at" 364), (.ref 123)⟩, ⟨(zhK P "is_same"), (zsK "is_same" 372), (.ref 130)⟩, ⟨(zhK P "is_value"), (zsK "is_value" 378), (.ref 135)⟩, ⟨(zhK P "care"), (zsK "care" 388), (.ref 142)⟩, ⟨(zhK P "Book"), (zsK "Book" 518), (.ref 243)⟩, ⟨(zhK P "EpochBook"), (zsK "EpochBook" 761), (.ref 431)⟩, ⟨(zhK P "LookBook"), (zsK "LookBook" 897), (.ref 532)⟩, ⟨(zhK P "StillBook"), (zsK "StillBook" 1054), (.ref 650)⟩, ⟨(zhK P "is_book"), (zsK "is_book" 1061), (.ref 659)⟩, ⟨(zhK P "look_at_book"), (zsK "look_at_book" 1068), (.ref 666)⟩, ⟨(zhK P "values_of"), (zsK "values_of" 1076), (.ref 673)⟩, ⟨(zhK P "_law_odd"), (zsK "_law_odd" 1084), (.ref 680)⟩, ⟨(zhK P "_law_epochs"), (zsK "_law_epochs" 1094), (.ref 687)⟩, ⟨(zhK P "_law_others"), (zsK "_law_others" 1104), (.ref 694)⟩, ⟨(zhK P "_law_word"), (zsK "_law_word" 1114), (.ref 701)⟩, ⟨(zhK P "law"), (zsK "law" 1120), (.ref 706)⟩] 35), #[]⟩
def G12 : Obj := zn [(zi 1), (zi 0), (.ref 20), (zi 5), (zi 0), (.ref 27), (zi 7), (zi 0), (.ref 41), (zi 12), (zi 0), (.ref 62), (zi 17), (zi 0), (.ref 83), (zi 23), (zi 0), (.ref 103), (zi 30), (zi 0), (.ref 122), (zi 36), (zi 0), (.ref 129), (zi 42), (zi 0), (.ref 134), (zi 44), (zi 0), (.ref 141), (zi 53), (zi 0), (.ref 148), (zi 118), (zi 0), (.ref 254), (zi 199), (zi 0), (.ref 440), (zi 240), (zi 0), (.ref 541), (zi 289), (zi 0), (.ref 658), (zi 291), (zi 0), (.ref 665), (zi 294), (zi 0), (.ref 672), (zi 299), (zi 0), (.ref 679), (zi 301), (zi 0), (.ref 686), (zi 316), (zi 0), (.ref 693), (zi 329), (zi 0), (.ref 700), (zi 341), (zi 0), (.ref 705)]
def G653 : Obj := zt []
def G654 : Obj := zn []
def G655 : Obj := zt [(zsK "value" 1058)]
def G656 : Obj := zt []
def G657 : Obj := ⟨.none, none, (.func ⟨(zo "is_book"), (zo "is_book"), (zA 21), (.stmts (zB 21)), (zS 21), 0, [], .none, .none, .none, .none, none, .none, .none, 0⟩), #[]⟩
def G658 : Obj := zc [(zsK "is_book" 1055), (zsK "is_book" 1056), (zsK "/claim/cut.py" 1057), (zi 289), (zi 1), (zi 0), (zi 0), (zi 3), (.ref 653), (.bool true), (zi 181), (.ref 654), .none, (.ref 655), (.ref 656), (.ref 657), (zi 1059), (zi 289), (zsK "/claim/cut.py" 1060)]
def G659 : Obj := zf ⟨(zo "is_book"), (zo "is_book"), (zA 21), (.stmts (zB 21)), (zS 21), 3, [], .none, .none, .none, (zsK "epochrooms.books" 304), none, (.ref 658), .none, 0⟩
def G660 : Obj := zt []
def G661 : Obj := zn []
def G662 : Obj := zt [(zsK "value" 1065)]
def G663 : Obj := zt []
def G664 : Obj := ⟨.none, none, (.func ⟨(zo "look_at_book"), (zo "look_at_book"), (zA 22), (.stmts (zB 22)), (zS 22), 0, [], .none, .none, .none, .none, none, .none, .none, 0⟩), #[]⟩
def G665 : Obj := zc [(zsK "look_at_book" 1062), (zsK "look_at_book" 1063), (zsK "/claim/cut.py" 1064), (zi 291), (zi 1), (zi 0), (zi 0), (zi 3), (.ref 660), (.bool true), (zi 181), (.ref 661), .none, (.ref 662), (.ref 663), (.ref 664), (zi 1066), (zi 291), (zsK "/claim/cut.py" 1067)]
def G666 : Obj := zf ⟨(zo "look_at_book"), (zo "look_at_book"), (zA 22), (.stmts (zB 22)), (zS 22), 3, [], .none, .none, .none, (zsK "epochrooms.books" 304), none, (.ref 665), .none, 0⟩
def G667 : Obj := zt []
def G668 : Obj := zn []
def G669 : Obj := zt [(zsK "book" 1072), (zsK "word" 1073)]
def G670 : Obj := zt []
def G671 : Obj := ⟨.none, none, (.func ⟨(zo "values_of"), (zo "values_of"), (zA 23), (.stmts (zB 23)), (zS 23), 0, [], .none, .none, .none, .none, none, .none, .none, 0⟩), #[]⟩
def G672 : Obj := zc [(zsK "values_of" 1069), (zsK "values_of" 1070), (zsK "/claim/cut.py" 1071), (zi 294), (zi 2), (zi 0), (zi 0), (zi 3), (.ref 667), (.bool true), (zi 181), (.ref 668), .none, (.ref 669), (.ref 670), (.ref 671), (zi 1074), (zi 294), (zsK "/claim/cut.py" 1075)]
def G673 : Obj := zf ⟨(zo "values_of"), (zo "values_of"), (zA 23), (.stmts (zB 23)), (zS 23), 3, [], .none, .none, .none, (zsK "epochrooms.books" 304), none, (.ref 672), .none, 0⟩
def G674 : Obj := zt []
def G675 : Obj := zn []
def G676 : Obj := zt []
def G677 : Obj := zt []
def G678 : Obj := ⟨.none, none, (.func ⟨(zo "_law_odd"), (zo "_law_odd"), (zA 25), (.stmts (zB 25)), (zS 25), 0, [], .none, .none, .none, .none, none, .none, .none, 0⟩), #[]⟩
def G679 : Obj := zc [(zsK "_law_odd" 1079), (zsK "_law_odd" 1080), (zsK "/claim/cut.py" 1081), (zi 299), (zi 0), (zi 0), (zi 0), (zi 3), (.ref 674), (.bool true), (zi 181), (.ref 675), .none, (.ref 676), (.ref 677), (.ref 678), (zi 1082), (zi 299), (zsK "/claim/cut.py" 1083)]
def G680 : Obj := zf ⟨(zo "_law_odd"), (zo "_law_odd"), (zA 25), (.stmts (zB 25)), (zS 25), 3, [], .none, .none, .none, (zsK "law_epochrooms_k05_books_refused" 1077), none, (.ref 679), .none, 0⟩
def G681 : Obj := zt []
def G682 : Obj := zn []
def G683 : Obj := zt [(zsK "_law_word_here" 1088), (zsK "_law_odd_here" 1089), (zsK "_law_second" 1090), (zsK "e" 1091)]
def G684 : Obj := zt []
def G685 : Obj := ⟨.none, none, (.func ⟨(zo "_law_epochs"), (zo "_law_epochs"), (zA 26), (.stmts (zB 26)), (zS 26), 0, [], .none, .none, .none, .none, none, .none, .none, 0⟩), #[]⟩
def G686 : Obj := zc [(zsK "_law_epochs" 1085), (zsK "_law_epochs" 1086), (zsK "/claim/cut.py" 1087), (zi 301), (zi 3), (zi 0), (zi 0), (zi 3), (.ref 681), (.bool true), (zi 181), (.ref 682), .none, (.ref 683), (.ref 684), (.ref 685), (zi 1092), (zi 301), (zsK "/claim/cut.py" 1093)]
def G687 : Obj := zf ⟨(zo "_law_epochs"), (zo "_law_epochs"), (zA 26), (.stmts (zB 26)), (zS 26), 3, [], .none, .none, .none, (zsK "law_epochrooms_k05_books_refused" 1077), none, (.ref 686), .none, 0⟩
def G688 : Obj := zt []
def G689 : Obj := zn []
def G690 : Obj := zt [(zsK "_law_word_here" 1098), (zsK "_law_odd_here" 1099), (zsK "_law_second" 1100), (zsK "e" 1101)]
def G691 : Obj := zt []
def G692 : Obj := ⟨.none, none, (.func ⟨(zo "_law_others"), (zo "_law_others"), (zA 27), (.stmts (zB 27)), (zS 27), 0, [], .none, .none, .none, .none, none, .none, .none, 0⟩), #[]⟩
def G693 : Obj := zc [(zsK "_law_others" 1095), (zsK "_law_others" 1096), (zsK "/claim/cut.py" 1097), (zi 316), (zi 3), (zi 0), (zi 0), (zi 3), (.ref 688), (.bool true), (zi 181), (.ref 689), .none, (.ref 690), (.ref 691), (.ref 692), (zi 1102), (zi 316), (zsK "/claim/cut.py" 1103)]
def G694 : Obj := zf ⟨(zo "_law_others"), (zo "_law_others"), (zA 27), (.stmts (zB 27)), (zS 27), 3, [], .none, .none, .none, (zsK "law_epochrooms_k05_books_refused" 1077), none, (.ref 693), .none, 0⟩
def G695 : Obj := zt []
def G696 : Obj := zn []
def G697 : Obj := zt [(zsK "_law_book" 1108), (zsK "_law_word_here" 1109), (zsK "_law_way" 1110), (zsK "e" 1111)]
def G698 : Obj := zt []
def G699 : Obj := ⟨.none, none, (.func ⟨(zo "_law_word"), (zo "_law_word"), (zA 28), (.stmts (zB 28)), (zS 28), 0, [], .none, .none, .none, .none, none, .none, .none, 0⟩), #[]⟩
def G700 : Obj := zc [(zsK "_law_word" 1105), (zsK "_law_word" 1106), (zsK "/claim/cut.py" 1107), (zi 329), (zi 3), (zi 0), (zi 0), (zi 3), (.ref 695), (.bool true), (zi 181), (.ref 696), .none, (.ref 697), (.ref 698), (.ref 699), (zi 1112), (zi 329), (zsK "/claim/cut.py" 1113)]
def G701 : Obj := zf ⟨(zo "_law_word"), (zo "_law_word"), (zA 28), (.stmts (zB 28)), (zS 28), 3, [], .none, .none, .none, (zsK "law_epochrooms_k05_books_refused" 1077), none, (.ref 700), .none, 0⟩
def G702 : Obj := zt []
def G703 : Obj := zn []
def G704 : Obj := ⟨.none, none, (.func ⟨(zo "law"), (zo "law"), (zA 29), (.stmts (zB 29)), (zS 29), 0, [], .none, .none, .none, .none, none, .none, .none, 0⟩), #[]⟩
def G705 : Obj := zc [(zsK "law" 1115), (zsK "law" 1116), (zsK "/claim/cut.py" 1117), (zi 341), (zi 1), (zi 0), (zi 0), (zi 3), (.ref 702), (.bool true), (zi 181), (.ref 703), .none, .none, .none, (.ref 704), (zi 1118), (zi 341), (zsK "/claim/cut.py" 1119)]
def G706 : Obj := zf ⟨(zo "law"), (zo "law"), (zA 29), (.stmts (zB 29)), (zS 29), 3, [], .none, .none, .none, (zsK "law_epochrooms_k05_books_refused" 1077), none, (.ref 705), .none, 0⟩
noncomputable def zTA (P : Params) : BT := (N (boot_o_0 P) (N (boot_o_1 P) (N (boot_o_3 P) (N (boot_o_7 P) Z Z) (N B11 Z Z)) (N (boot_o_5 P) (N (boot_o_9 P) Z Z) (N B13 Z Z))) (N (boot_o_2 P) (N (boot_o_4 P) (N (boot_o_8 P) Z Z) (N B12 Z Z)) (N (boot_o_6 P) (N (boot_o_10 P) Z Z) (N B14 Z Z))))
noncomputable def zStA (w : World) (os : OsState) : SharedT := ⟨zTA w.params, 15, ⟨[], [], [], 0, [], [], false, #[], [], 0, false, false, false, 0, [2000, 10, 10], false, 0, true, [], [], 0, false⟩, #[], ⟨0, 0, 0, 0⟩, 187, os⟩
noncomputable def zT17 (P : Params) : BT := (N (boot_o_0 P) (N (boot_o_1 P) (N (C3 P) (N (boot_o_7 P) (N C15 (N C31 (N C63 (N C127 Z Z) (N C191 Z Z)) (N C95 (N C159 Z Z) (N C223 Z Z))) (N C47 (N (C79 P) (N C143 Z Z) (N C207 Z Z)) (N C111 (N C175 Z Z) (N C239 Z Z)))) (N C23 (N C39 (N C71 (N C135 Z Z) (N C199 Z Z)) (N C103 (N C167 Z Z) (N C231 Z Z))) (N C55 (N C87 (N C151 Z Z) (N C215 Z Z)) (N C119 (N C183 Z Z) (N C247 Z Z))))) (N B11 (N C19 (N C35 (N C67 (N C131 Z Z) (N C195 Z Z)) (N C99 (N C163 Z Z) (N C227 Z Z))) (N C51 (N C83 (N C147 Z Z) (N C211 Z Z)) (N C115 (N C179 Z Z) (N C243 Z Z)))) (N C27 (N C43 (N C75 (N C139 Z Z) (N C203 Z Z)) (N C107 (N C171 Z Z) (N C235 Z Z))) (N C59 (N C91 (N C155 Z Z) (N C219 Z Z)) (N C123 (N C187 Z Z) Z))))) (N (boot_o_5 P) (N (boot_o_9 P) (N C17 (N C33 (N C65 (N C129 Z Z) (N C193 Z Z)) (N C97 (N C161 Z Z) (N C225 Z Z))) (N C49 (N C81 (N (C145 P) Z Z) (N C209 Z Z)) (N C113 (N C177 Z Z) (N C241 Z Z)))) (N C25 (N C41 (N (C73 P) (N C137 Z Z) (N C201 Z Z)) (N (C105 P) (N C169 Z Z) (N C233 Z Z))) (N C57 (N C89 (N C153 Z Z) (N C217 Z Z)) (N C121 (N C185 Z Z) Z)))) (N B13 (N C21 (N (C37 P) (N C69 (N C133 Z Z) (N C197 Z Z)) (N C101 (N C165 Z Z) (N C229 Z Z))) (N C53 (N C85 (N C149 Z Z) (N C213 Z Z)) (N C117 (N C181 Z Z) (N C245 Z Z)))) (N C29 (N C45 (N C77 (N C141 Z Z) (N C205 Z Z)) (N C109 (N C173 Z Z) (N C237 Z Z))) (N C61 (N C93 (N C157 Z Z) (N C221 Z Z)) (N C125 (N C189 Z Z) Z)))))) (N (boot_o_2 P) (N (boot_o_4 P) (N (boot_o_8 P) (N C16 (N C32 (N C64 (N C128 Z Z) (N C192 Z Z)) (N C96 (N C160 Z Z) (N C224 Z Z))) (N C48 (N C80 (N C144 Z Z) (N C208 Z Z)) (N C112 (N C176 Z Z) (N C240 Z Z)))) (N (C24 P) (N C40 (N C72 (N C136 Z Z) (N C200 Z Z)) (N C104 (N C168 Z Z) (N C232 Z Z))) (N C56 (N C88 (N C152 Z Z) (N C216 Z Z)) (N C120 (N C184 Z Z) Z)))) (N C12 (N C20 (N C36 (N C68 (N C132 Z Z) (N C196 Z Z)) (N C100 (N C164 Z Z) (N C228 Z Z))) (N (C52 P) (N C84 (N C148 Z Z) (N C212 Z Z)) (N C116 (N C180 Z Z) (N C244 Z Z)))) (N C28 (N C44 (N C76 (N C140 Z Z) (N C204 Z Z)) (N C108 (N C172 Z Z) (N C236 Z Z))) (N C60 (N C92 (N C156 Z Z) (N C220 Z Z)) (N C124 (N C188 Z Z) Z))))) (N (boot_o_6 P) (N (boot_o_10 P) (N C18 (N C34 (N C66 (N C130 Z Z) (N C194 Z Z)) (N C98 (N C162 Z Z) (N C226 Z Z))) (N C50 (N C82 (N C146 Z Z) (N C210 Z Z)) (N C114 (N C178 Z Z) (N (C242 P) Z Z)))) (N C26 (N C42 (N C74 (N C138 Z Z) (N C202 Z Z)) (N C106 (N C170 Z Z) (N C234 Z Z))) (N (C58 P) (N C90 (N C154 Z Z) (N C218 Z Z)) (N C122 (N C186 Z Z) Z)))) (N B14 (N C22 (N C38 (N C70 (N C134 Z Z) (N C198 Z Z)) (N C102 (N C166 Z Z) (N C230 Z Z))) (N C54 (N C86 (N C150 Z Z) (N C214 Z Z)) (N C118 (N C182 Z Z) (N C246 Z Z)))) (N (C30 P) (N C46 (N C78 (N C142 Z Z) (N C206 Z Z)) (N C110 (N C174 Z Z) (N C238 Z Z))) (N C62 (N (C94 P) (N C158 Z Z) (N C222 Z Z)) (N C126 (N C190 Z Z) Z)))))))
noncomputable def zSt17 (w : World) (os : OsState) : SharedT := ⟨zT17 w.params, 248, ⟨[], [], [], 0, [], [], false, #[], [], 0, false, false, false, 0, [2000, 10, 10], false, 0, true, [], [], 0, false⟩, #[], ⟨0, 0, 0, 0⟩, 519, os⟩
noncomputable def zT18 (P : Params) : BT := (N (boot_o_0 P) (N (boot_o_1 P) (N (D3 P) (N (boot_o_7 P) (N C15 (N C31 (N C63 (N C127 (N D255 Z Z) (N D383 Z Z)) (N C191 (N D319 Z Z) Z)) (N C95 (N C159 (N D287 Z Z) (N D415 Z Z)) (N C223 (N D351 Z Z) Z))) (N C47 (N (C79 P) (N C143 (N D271 Z Z) (N D399 Z Z)) (N C207 (N D335 Z Z) Z)) (N C111 (N C175 (N D303 Z Z) (N D431 Z Z)) (N C239 (N D367 Z Z) Z)))) (N C23 (N C39 (N C71 (N C135 (N D263 Z Z) (N D391 Z Z)) (N C199 (N D327 Z Z) Z)) (N C103 (N C167 (N D295 Z Z) (N D423 Z Z)) (N C231 (N D359 Z Z) Z))) (N C55 (N C87 (N C151 (N D279 Z Z) (N D407 Z Z)) (N C215 (N D343 Z Z) Z)) (N C119 (N C183 (N D311 Z Z) Z) (N C247 (N D375 Z Z) Z))))) (N B11 (N C19 (N C35 (N C67 (N C131 (N D259 Z Z) (N D387 Z Z)) (N C195 (N D323 Z Z) Z)) (N C99 (N C163 (N D291 Z Z) (N D419 Z Z)) (N C227 (N D355 Z Z) Z))) (N C51 (N C83 (N C147 (N D275 Z Z) (N D403 Z Z)) (N C211 (N D339 Z Z) Z)) (N C115 (N C179 (N D307 Z Z) Z) (N D243 (N D371 Z Z) Z)))) (N C27 (N C43 (N C75 (N C139 (N D267 Z Z) (N D395 Z Z)) (N C203 (N D331 Z Z) Z)) (N C107 (N C171 (N D299 Z Z) (N D427 Z Z)) (N C235 (N D363 Z Z) Z))) (N C59 (N C91 (N C155 (N (D283 P) Z Z) (N D411 Z Z)) (N C219 (N D347 Z Z) Z)) (N C123 (N C187 (N D315 Z Z) Z) (N D251 (N D379 Z Z) Z)))))) (N (boot_o_5 P) (N (boot_o_9 P) (N C17 (N C33 (N C65 (N C129 (N (D257 P) Z Z) (N D385 Z Z)) (N C193 (N D321 Z Z) Z)) (N C97 (N C161 (N D289 Z Z) (N D417 Z Z)) (N C225 (N D353 Z Z) Z))) (N C49 (N C81 (N (C145 P) (N (D273 P) Z Z) (N D401 Z Z)) (N C209 (N D337 Z Z) Z)) (N C113 (N C177 (N D305 Z Z) (N D433 Z Z)) (N C241 (N D369 Z Z) Z)))) (N C25 (N C41 (N (C73 P) (N C137 (N D265 Z Z) (N D393 Z Z)) (N C201 (N D329 Z Z) Z)) (N (C105 P) (N C169 (N D297 Z Z) (N D425 Z Z)) (N C233 (N D361 Z Z) Z))) (N C57 (N C89 (N C153 (N D281 Z Z) (N D409 Z Z)) (N C217 (N D345 Z Z) Z)) (N C121 (N C185 (N D313 Z Z) Z) (N D249 (N D377 Z Z) Z))))) (N B13 (N C21 (N (C37 P) (N C69 (N C133 (N D261 Z Z) (N D389 Z Z)) (N C197 (N D325 Z Z) Z)) (N C101 (N C165 (N D293 Z Z) (N D421 Z Z)) (N C229 (N D357 Z Z) Z))) (N C53 (N C85 (N C149 (N D277 Z Z) (N D405 Z Z)) (N C213 (N D341 Z Z) Z)) (N C117 (N C181 (N D309 Z Z) Z) (N C245 (N D373 Z Z) Z)))) (N C29 (N C45 (N C77 (N C141 (N D269 Z Z) (N D397 Z Z)) (N C205 (N D333 Z Z) Z)) (N C109 (N C173 (N D301 Z Z) (N D429 Z Z)) (N C237 (N D365 Z Z) Z))) (N C61 (N C93 (N C157 (N D285 Z Z) (N D413 Z Z)) (N C221 (N D349 Z Z) Z)) (N C125 (N C189 (N D317 Z Z) Z) (N D253 (N D381 Z Z) Z))))))) (N (boot_o_2 P) (N (boot_o_4 P) (N (boot_o_8 P) (N C16 (N C32 (N C64 (N C128 (N D256 Z Z) (N D384 Z Z)) (N C192 (N D320 Z Z) Z)) (N C96 (N C160 (N D288 Z Z) (N D416 Z Z)) (N C224 (N D352 Z Z) Z))) (N C48 (N C80 (N C144 (N D272 Z Z) (N D400 Z Z)) (N C208 (N D336 Z Z) Z)) (N C112 (N C176 (N D304 Z Z) (N D432 Z Z)) (N C240 (N D368 Z Z) Z)))) (N (C24 P) (N C40 (N C72 (N C136 (N D264 Z Z) (N D392 Z Z)) (N C200 (N D328 Z Z) Z)) (N C104 (N C168 (N D296 Z Z) (N D424 Z Z)) (N C232 (N D360 Z Z) Z))) (N C56 (N C88 (N C152 (N D280 Z Z) (N D408 Z Z)) (N C216 (N D344 Z Z) Z)) (N C120 (N C184 (N D312 Z Z) Z) (N D248 (N D376 Z Z) Z))))) (N D12 (N C20 (N C36 (N C68 (N C132 (N D260 Z Z) (N D388 Z Z)) (N C196 (N D324 Z Z) Z)) (N C100 (N C164 (N D292 Z Z) (N D420 Z Z)) (N C228 (N D356 Z Z) Z))) (N (C52 P) (N C84 (N C148 (N D276 Z Z) (N D404 Z Z)) (N C212 (N D340 Z Z) Z)) (N C116 (N C180 (N D308 Z Z) Z) (N C244 (N D372 Z Z) Z)))) (N C28 (N C44 (N C76 (N C140 (N D268 Z Z) (N D396 Z Z)) (N C204 (N D332 Z Z) Z)) (N C108 (N C172 (N D300 Z Z) (N D428 Z Z)) (N C236 (N D364 Z Z) Z))) (N C60 (N C92 (N C156 (N D284 Z Z) (N D412 Z Z)) (N C220 (N D348 Z Z) Z)) (N C124 (N C188 (N D316 Z Z) Z) (N D252 (N D380 Z Z) Z)))))) (N (boot_o_6 P) (N (boot_o_10 P) (N C18 (N C34 (N C66 (N C130 (N D258 Z Z) (N D386 Z Z)) (N C194 (N D322 Z Z) Z)) (N C98 (N C162 (N D290 Z Z) (N D418 Z Z)) (N C226 (N D354 Z Z) Z))) (N C50 (N C82 (N C146 (N D274 Z Z) (N D402 Z Z)) (N C210 (N D338 Z Z) Z)) (N C114 (N C178 (N D306 Z Z) Z) (N (C242 P) (N D370 Z Z) Z)))) (N C26 (N C42 (N C74 (N C138 (N D266 Z Z) (N D394 Z Z)) (N C202 (N D330 Z Z) Z)) (N C106 (N C170 (N D298 Z Z) (N D426 Z Z)) (N C234 (N D362 Z Z) Z))) (N (C58 P) (N C90 (N C154 (N D282 Z Z) (N D410 Z Z)) (N C218 (N D346 Z Z) Z)) (N C122 (N C186 (N D314 Z Z) Z) (N (D250 P) (N D378 Z Z) Z))))) (N B14 (N C22 (N C38 (N C70 (N C134 (N D262 Z Z) (N D390 Z Z)) (N C198 (N D326 Z Z) Z)) (N C102 (N C166 (N D294 Z Z) (N D422 Z Z)) (N C230 (N D358 Z Z) Z))) (N C54 (N C86 (N C150 (N D278 Z Z) (N D406 Z Z)) (N C214 (N D342 Z Z) Z)) (N C118 (N C182 (N D310 Z Z) Z) (N C246 (N D374 Z Z) Z)))) (N (C30 P) (N C46 (N C78 (N C142 (N D270 Z Z) (N D398 Z Z)) (N C206 (N D334 Z Z) Z)) (N C110 (N C174 (N D302 Z Z) (N (D430 P) Z Z)) (N C238 (N D366 Z Z) Z))) (N C62 (N (C94 P) (N C158 (N D286 Z Z) (N D414 Z Z)) (N C222 (N D350 Z Z) Z)) (N C126 (N C190 (N D318 Z Z) Z) (N D254 (N D382 Z Z) Z))))))))
noncomputable def zSt18 (w : World) (os : OsState) : SharedT := ⟨zT18 w.params, 434, ⟨[], [], [], 0, [], [], false, #[], [], 0, false, false, false, 0, [2000, 10, 10], false, 0, true, [], [], 0, false⟩, #[], ⟨0, 0, 0, 0⟩, 762, os⟩
noncomputable def zT19 (P : Params) : BT := (N (boot_o_0 P) (N (boot_o_1 P) (N (E3 P) (N (boot_o_7 P) (N C15 (N C31 (N C63 (N C127 (N D255 (N E511 Z Z) Z) (N D383 Z Z)) (N C191 (N D319 Z Z) (N E447 Z Z))) (N C95 (N C159 (N D287 Z Z) (N D415 Z Z)) (N C223 (N D351 Z Z) (N E479 Z Z)))) (N C47 (N (C79 P) (N C143 (N D271 (N E527 Z Z) Z) (N D399 Z Z)) (N C207 (N D335 Z Z) (N E463 Z Z))) (N C111 (N C175 (N D303 Z Z) (N D431 Z Z)) (N C239 (N D367 Z Z) (N E495 Z Z))))) (N C23 (N C39 (N C71 (N C135 (N D263 (N E519 Z Z) Z) (N D391 Z Z)) (N C199 (N D327 Z Z) (N E455 Z Z))) (N C103 (N C167 (N D295 Z Z) (N D423 Z Z)) (N C231 (N D359 Z Z) (N E487 Z Z)))) (N C55 (N C87 (N C151 (N D279 Z Z) (N D407 Z Z)) (N C215 (N D343 Z Z) (N E471 Z Z))) (N C119 (N C183 (N D311 Z Z) (N E439 Z Z)) (N C247 (N D375 Z Z) (N E503 Z Z)))))) (N B11 (N C19 (N C35 (N C67 (N C131 (N D259 (N E515 Z Z) Z) (N D387 Z Z)) (N C195 (N D323 Z Z) (N E451 Z Z))) (N C99 (N C163 (N D291 Z Z) (N D419 Z Z)) (N C227 (N D355 Z Z) (N E483 Z Z)))) (N C51 (N C83 (N C147 (N D275 (N (E531 P) Z Z) Z) (N D403 Z Z)) (N C211 (N D339 Z Z) (N E467 Z Z))) (N C115 (N C179 (N D307 Z Z) (N E435 Z Z)) (N E243 (N D371 Z Z) (N E499 Z Z))))) (N C27 (N C43 (N C75 (N C139 (N D267 (N E523 Z Z) Z) (N D395 Z Z)) (N C203 (N D331 Z Z) (N (E459 P) Z Z))) (N C107 (N C171 (N D299 Z Z) (N D427 Z Z)) (N C235 (N D363 Z Z) (N E491 Z Z)))) (N C59 (N C91 (N C155 (N (D283 P) Z Z) (N D411 Z Z)) (N C219 (N D347 Z Z) (N E475 Z Z))) (N C123 (N C187 (N D315 Z Z) (N (E443 P) Z Z)) (N D251 (N D379 Z Z) (N E507 Z Z))))))) (N (boot_o_5 P) (N (boot_o_9 P) (N C17 (N C33 (N C65 (N C129 (N (D257 P) (N E513 Z Z) Z) (N D385 Z Z)) (N C193 (N D321 Z Z) (N E449 Z Z))) (N C97 (N C161 (N D289 Z Z) (N D417 Z Z)) (N C225 (N D353 Z Z) (N E481 Z Z)))) (N C49 (N C81 (N (C145 P) (N (D273 P) (N E529 Z Z) Z) (N D401 Z Z)) (N C209 (N D337 Z Z) (N E465 Z Z))) (N C113 (N C177 (N D305 Z Z) (N D433 Z Z)) (N C241 (N D369 Z Z) (N E497 Z Z))))) (N C25 (N C41 (N (C73 P) (N C137 (N D265 (N E521 Z Z) Z) (N D393 Z Z)) (N C201 (N D329 Z Z) (N E457 Z Z))) (N (C105 P) (N C169 (N D297 Z Z) (N D425 Z Z)) (N C233 (N D361 Z Z) (N E489 Z Z)))) (N C57 (N C89 (N C153 (N D281 Z Z) (N D409 Z Z)) (N C217 (N D345 Z Z) (N E473 Z Z))) (N C121 (N C185 (N D313 Z Z) (N E441 Z Z)) (N D249 (N D377 Z Z) (N E505 Z Z)))))) (N B13 (N C21 (N (C37 P) (N C69 (N C133 (N D261 (N E517 Z Z) Z) (N D389 Z Z)) (N C197 (N D325 Z Z) (N E453 Z Z))) (N C101 (N C165 (N D293 Z Z) (N D421 Z Z)) (N C229 (N D357 Z Z) (N E485 Z Z)))) (N C53 (N C85 (N C149 (N D277 (N E533 Z Z) Z) (N D405 Z Z)) (N C213 (N D341 Z Z) (N (E469 P) Z Z))) (N C117 (N C181 (N D309 Z Z) (N E437 Z Z)) (N C245 (N D373 Z Z) (N E501 Z Z))))) (N C29 (N C45 (N C77 (N C141 (N D269 (N E525 Z Z) Z) (N D397 Z Z)) (N C205 (N D333 Z Z) (N E461 Z Z))) (N C109 (N C173 (N D301 Z Z) (N D429 Z Z)) (N C237 (N D365 Z Z) (N E493 Z Z)))) (N C61 (N C93 (N C157 (N D285 Z Z) (N D413 Z Z)) (N C221 (N D349 Z Z) (N E477 Z Z))) (N C125 (N C189 (N D317 Z Z) (N E445 Z Z)) (N D253 (N D381 Z Z) (N E509 Z Z)))))))) (N (boot_o_2 P) (N (boot_o_4 P) (N (boot_o_8 P) (N C16 (N C32 (N C64 (N C128 (N D256 (N E512 Z Z) Z) (N D384 Z Z)) (N C192 (N D320 Z Z) (N E448 Z Z))) (N C96 (N C160 (N D288 Z Z) (N D416 Z Z)) (N C224 (N D352 Z Z) (N E480 Z Z)))) (N C48 (N C80 (N C144 (N D272 (N E528 Z Z) Z) (N D400 Z Z)) (N C208 (N D336 Z Z) (N E464 Z Z))) (N C112 (N C176 (N D304 Z Z) (N D432 Z Z)) (N C240 (N D368 Z Z) (N E496 Z Z))))) (N (C24 P) (N C40 (N C72 (N C136 (N D264 (N E520 Z Z) Z) (N D392 Z Z)) (N C200 (N D328 Z Z) (N E456 Z Z))) (N C104 (N C168 (N D296 Z Z) (N D424 Z Z)) (N C232 (N D360 Z Z) (N E488 Z Z)))) (N C56 (N C88 (N C152 (N D280 Z Z) (N D408 Z Z)) (N C216 (N D344 Z Z) (N E472 Z Z))) (N C120 (N C184 (N D312 Z Z) (N E440 Z Z)) (N D248 (N D376 Z Z) (N E504 Z Z)))))) (N E12 (N C20 (N C36 (N C68 (N C132 (N D260 (N E516 Z Z) Z) (N D388 Z Z)) (N C196 (N D324 Z Z) (N E452 Z Z))) (N C100 (N C164 (N D292 Z Z) (N D420 Z Z)) (N C228 (N D356 Z Z) (N E484 Z Z)))) (N (C52 P) (N C84 (N C148 (N D276 (N E532 Z Z) Z) (N D404 Z Z)) (N C212 (N D340 Z Z) (N E468 Z Z))) (N C116 (N C180 (N D308 Z Z) (N (E436 P) Z Z)) (N C244 (N D372 Z Z) (N E500 Z Z))))) (N C28 (N C44 (N C76 (N C140 (N D268 (N E524 Z Z) Z) (N D396 Z Z)) (N C204 (N D332 Z Z) (N E460 Z Z))) (N C108 (N C172 (N D300 Z Z) (N D428 Z Z)) (N C236 (N D364 Z Z) (N E492 Z Z)))) (N C60 (N C92 (N C156 (N D284 Z Z) (N D412 Z Z)) (N C220 (N D348 Z Z) (N E476 Z Z))) (N C124 (N C188 (N D316 Z Z) (N E444 Z Z)) (N D252 (N D380 Z Z) (N E508 Z Z))))))) (N (boot_o_6 P) (N (boot_o_10 P) (N C18 (N C34 (N C66 (N C130 (N D258 (N E514 Z Z) Z) (N D386 Z Z)) (N C194 (N D322 Z Z) (N E450 Z Z))) (N C98 (N C162 (N D290 Z Z) (N D418 Z Z)) (N C226 (N D354 Z Z) (N E482 Z Z)))) (N C50 (N C82 (N C146 (N D274 (N E530 Z Z) Z) (N D402 Z Z)) (N C210 (N D338 Z Z) (N E466 Z Z))) (N C114 (N C178 (N D306 Z Z) (N E434 Z Z)) (N (C242 P) (N D370 Z Z) (N E498 Z Z))))) (N C26 (N C42 (N C74 (N C138 (N D266 (N E522 Z Z) Z) (N D394 Z Z)) (N C202 (N D330 Z Z) (N E458 Z Z))) (N C106 (N C170 (N D298 Z Z) (N D426 Z Z)) (N C234 (N D362 Z Z) (N E490 Z Z)))) (N (C58 P) (N C90 (N C154 (N D282 Z Z) (N D410 Z Z)) (N C218 (N D346 Z Z) (N E474 Z Z))) (N C122 (N C186 (N D314 Z Z) (N E442 Z Z)) (N (D250 P) (N D378 Z Z) (N E506 Z Z)))))) (N B14 (N C22 (N C38 (N C70 (N C134 (N D262 (N E518 Z Z) Z) (N D390 Z Z)) (N C198 (N D326 Z Z) (N E454 Z Z))) (N C102 (N C166 (N D294 Z Z) (N D422 Z Z)) (N C230 (N D358 Z Z) (N E486 Z Z)))) (N C54 (N C86 (N C150 (N D278 (N E534 Z Z) Z) (N D406 Z Z)) (N C214 (N D342 Z Z) (N E470 Z Z))) (N C118 (N C182 (N D310 Z Z) (N E438 Z Z)) (N C246 (N D374 Z Z) (N E502 Z Z))))) (N (C30 P) (N C46 (N C78 (N C142 (N D270 (N E526 Z Z) Z) (N D398 Z Z)) (N C206 (N D334 Z Z) (N E462 Z Z))) (N C110 (N C174 (N D302 Z Z) (N (D430 P) Z Z)) (N C238 (N D366 Z Z) (N E494 Z Z)))) (N C62 (N (C94 P) (N C158 (N D286 Z Z) (N D414 Z Z)) (N C222 (N D350 Z Z) (N E478 Z Z))) (N C126 (N C190 (N D318 Z Z) (N E446 Z Z)) (N D254 (N D382 Z Z) (N E510 Z Z)))))))))
noncomputable def zSt19 (w : World) (os : OsState) : SharedT := ⟨zT19 w.params, 535, ⟨[], [], [], 0, [], [], false, #[], [], 0, false, false, false, 0, [2000, 10, 10], false, 0, true, [], [], 0, false⟩, #[], ⟨0, 0, 0, 0⟩, 898, os⟩
noncomputable def zT20 (P : Params) : BT := (N (boot_o_0 P) (N (boot_o_1 P) (N (F3 P) (N (boot_o_7 P) (N C15 (N C31 (N C63 (N C127 (N D255 (N E511 Z Z) Z) (N D383 (N F639 Z Z) Z)) (N C191 (N D319 (N F575 Z Z) Z) (N E447 Z Z))) (N C95 (N C159 (N D287 (N F543 Z Z) Z) (N D415 Z Z)) (N C223 (N D351 (N F607 Z Z) Z) (N E479 Z Z)))) (N C47 (N (C79 P) (N C143 (N D271 (N E527 Z Z) Z) (N D399 Z Z)) (N C207 (N D335 (N F591 Z Z) Z) (N E463 Z Z))) (N C111 (N C175 (N D303 (N F559 Z Z) Z) (N D431 Z Z)) (N C239 (N D367 (N F623 Z Z) Z) (N E495 Z Z))))) (N C23 (N C39 (N C71 (N C135 (N D263 (N E519 Z Z) Z) (N D391 (N F647 Z Z) Z)) (N C199 (N D327 (N F583 Z Z) Z) (N E455 Z Z))) (N C103 (N C167 (N D295 (N F551 Z Z) Z) (N D423 Z Z)) (N C231 (N D359 (N F615 Z Z) Z) (N E487 Z Z)))) (N C55 (N C87 (N C151 (N D279 (N F535 Z Z) Z) (N D407 Z Z)) (N C215 (N D343 (N F599 Z Z) Z) (N E471 Z Z))) (N C119 (N C183 (N D311 (N F567 Z Z) Z) (N E439 Z Z)) (N C247 (N D375 (N F631 Z Z) Z) (N E503 Z Z)))))) (N B11 (N C19 (N C35 (N C67 (N C131 (N D259 (N E515 Z Z) Z) (N D387 (N F643 Z Z) Z)) (N C195 (N D323 (N F579 Z Z) Z) (N E451 Z Z))) (N C99 (N C163 (N D291 (N F547 Z Z) Z) (N D419 Z Z)) (N C227 (N D355 (N F611 Z Z) Z) (N E483 Z Z)))) (N C51 (N C83 (N C147 (N D275 (N (E531 P) Z Z) Z) (N D403 Z Z)) (N C211 (N D339 (N F595 Z Z) Z) (N E467 Z Z))) (N C115 (N C179 (N D307 (N F563 Z Z) Z) (N E435 Z Z)) (N F243 (N D371 (N F627 Z Z) Z) (N E499 Z Z))))) (N C27 (N C43 (N C75 (N C139 (N D267 (N E523 Z Z) Z) (N D395 (N F651 Z Z) Z)) (N C203 (N D331 (N F587 Z Z) Z) (N (E459 P) Z Z))) (N C107 (N C171 (N D299 (N F555 Z Z) Z) (N D427 Z Z)) (N C235 (N D363 (N F619 Z Z) Z) (N E491 Z Z)))) (N C59 (N C91 (N C155 (N (D283 P) (N F539 Z Z) Z) (N D411 Z Z)) (N C219 (N D347 (N F603 Z Z) Z) (N E475 Z Z))) (N C123 (N C187 (N D315 (N F571 Z Z) Z) (N (E443 P) Z Z)) (N D251 (N D379 (N F635 Z Z) Z) (N E507 Z Z))))))) (N (boot_o_5 P) (N (boot_o_9 P) (N C17 (N C33 (N C65 (N C129 (N (D257 P) (N E513 Z Z) Z) (N D385 (N F641 Z Z) Z)) (N C193 (N D321 (N F577 Z Z) Z) (N E449 Z Z))) (N C97 (N C161 (N D289 (N F545 Z Z) Z) (N D417 Z Z)) (N C225 (N D353 (N F609 Z Z) Z) (N E481 Z Z)))) (N C49 (N C81 (N (C145 P) (N (D273 P) (N E529 Z Z) Z) (N D401 Z Z)) (N C209 (N D337 (N F593 Z Z) Z) (N E465 Z Z))) (N C113 (N C177 (N D305 (N F561 Z Z) Z) (N D433 Z Z)) (N C241 (N D369 (N F625 Z Z) Z) (N E497 Z Z))))) (N C25 (N C41 (N (C73 P) (N C137 (N D265 (N E521 Z Z) Z) (N D393 (N (F649 P) Z Z) Z)) (N C201 (N D329 (N F585 Z Z) Z) (N E457 Z Z))) (N (C105 P) (N C169 (N D297 (N F553 Z Z) Z) (N D425 Z Z)) (N C233 (N D361 (N F617 Z Z) Z) (N E489 Z Z)))) (N C57 (N C89 (N C153 (N D281 (N (F537 P) Z Z) Z) (N D409 Z Z)) (N C217 (N D345 (N F601 Z Z) Z) (N E473 Z Z))) (N C121 (N C185 (N D313 (N F569 Z Z) Z) (N E441 Z Z)) (N D249 (N D377 (N F633 Z Z) Z) (N E505 Z Z)))))) (N B13 (N C21 (N (C37 P) (N C69 (N C133 (N D261 (N E517 Z Z) Z) (N D389 (N F645 Z Z) Z)) (N C197 (N D325 (N F581 Z Z) Z) (N E453 Z Z))) (N C101 (N C165 (N D293 (N F549 Z Z) Z) (N D421 Z Z)) (N C229 (N D357 (N F613 Z Z) Z) (N E485 Z Z)))) (N C53 (N C85 (N C149 (N D277 (N E533 Z Z) Z) (N D405 Z Z)) (N C213 (N D341 (N F597 Z Z) Z) (N (E469 P) Z Z))) (N C117 (N C181 (N D309 (N F565 Z Z) Z) (N E437 Z Z)) (N C245 (N D373 (N F629 Z Z) Z) (N E501 Z Z))))) (N C29 (N C45 (N C77 (N C141 (N D269 (N E525 Z Z) Z) (N D397 Z Z)) (N C205 (N D333 (N F589 Z Z) Z) (N E461 Z Z))) (N C109 (N C173 (N D301 (N F557 Z Z) Z) (N D429 Z Z)) (N C237 (N D365 (N F621 Z Z) Z) (N E493 Z Z)))) (N C61 (N C93 (N C157 (N D285 (N F541 Z Z) Z) (N D413 Z Z)) (N C221 (N D349 (N F605 Z Z) Z) (N E477 Z Z))) (N C125 (N C189 (N D317 (N F573 Z Z) Z) (N E445 Z Z)) (N D253 (N D381 (N F637 Z Z) Z) (N E509 Z Z)))))))) (N (boot_o_2 P) (N (boot_o_4 P) (N (boot_o_8 P) (N C16 (N C32 (N C64 (N C128 (N D256 (N E512 Z Z) Z) (N D384 (N F640 Z Z) Z)) (N C192 (N D320 (N F576 Z Z) Z) (N E448 Z Z))) (N C96 (N C160 (N D288 (N (F544 P) Z Z) Z) (N D416 Z Z)) (N C224 (N D352 (N F608 Z Z) Z) (N E480 Z Z)))) (N C48 (N C80 (N C144 (N D272 (N E528 Z Z) Z) (N D400 Z Z)) (N C208 (N D336 (N F592 Z Z) Z) (N E464 Z Z))) (N C112 (N C176 (N D304 (N (F560 P) Z Z) Z) (N D432 Z Z)) (N C240 (N D368 (N F624 Z Z) Z) (N E496 Z Z))))) (N (C24 P) (N C40 (N C72 (N C136 (N D264 (N E520 Z Z) Z) (N D392 (N F648 Z Z) Z)) (N C200 (N D328 (N F584 Z Z) Z) (N E456 Z Z))) (N C104 (N C168 (N D296 (N F552 Z Z) Z) (N D424 Z Z)) (N C232 (N D360 (N F616 Z Z) Z) (N E488 Z Z)))) (N C56 (N C88 (N C152 (N D280 (N F536 Z Z) Z) (N D408 Z Z)) (N C216 (N D344 (N F600 Z Z) Z) (N E472 Z Z))) (N C120 (N C184 (N D312 (N F568 Z Z) Z) (N E440 Z Z)) (N D248 (N D376 (N F632 Z Z) Z) (N E504 Z Z)))))) (N F12 (N C20 (N C36 (N C68 (N C132 (N D260 (N E516 Z Z) Z) (N D388 (N F644 Z Z) Z)) (N C196 (N D324 (N F580 Z Z) Z) (N E452 Z Z))) (N C100 (N C164 (N D292 (N F548 Z Z) Z) (N D420 Z Z)) (N C228 (N D356 (N F612 Z Z) Z) (N E484 Z Z)))) (N (C52 P) (N C84 (N C148 (N D276 (N E532 Z Z) Z) (N D404 Z Z)) (N C212 (N D340 (N F596 Z Z) Z) (N E468 Z Z))) (N C116 (N C180 (N D308 (N F564 Z Z) Z) (N (E436 P) Z Z)) (N C244 (N D372 (N F628 Z Z) Z) (N E500 Z Z))))) (N C28 (N C44 (N C76 (N C140 (N D268 (N E524 Z Z) Z) (N D396 (N F652 Z Z) Z)) (N C204 (N D332 (N F588 Z Z) Z) (N E460 Z Z))) (N C108 (N C172 (N D300 (N F556 Z Z) Z) (N D428 Z Z)) (N C236 (N D364 (N F620 Z Z) Z) (N E492 Z Z)))) (N C60 (N C92 (N C156 (N D284 (N F540 Z Z) Z) (N D412 Z Z)) (N C220 (N D348 (N F604 Z Z) Z) (N E476 Z Z))) (N C124 (N C188 (N D316 (N F572 Z Z) Z) (N E444 Z Z)) (N D252 (N D380 (N F636 Z Z) Z) (N E508 Z Z))))))) (N (boot_o_6 P) (N (boot_o_10 P) (N C18 (N C34 (N C66 (N C130 (N D258 (N E514 Z Z) Z) (N D386 (N F642 Z Z) Z)) (N C194 (N D322 (N F578 Z Z) Z) (N E450 Z Z))) (N C98 (N C162 (N D290 (N F546 Z Z) Z) (N D418 Z Z)) (N C226 (N D354 (N F610 Z Z) Z) (N E482 Z Z)))) (N C50 (N C82 (N C146 (N D274 (N E530 Z Z) Z) (N D402 Z Z)) (N C210 (N D338 (N F594 Z Z) Z) (N E466 Z Z))) (N C114 (N C178 (N D306 (N F562 Z Z) Z) (N E434 Z Z)) (N (C242 P) (N D370 (N F626 Z Z) Z) (N E498 Z Z))))) (N C26 (N C42 (N C74 (N C138 (N D266 (N E522 Z Z) Z) (N D394 (N F650 Z Z) Z)) (N C202 (N D330 (N F586 Z Z) Z) (N E458 Z Z))) (N C106 (N C170 (N D298 (N F554 Z Z) Z) (N D426 Z Z)) (N C234 (N D362 (N F618 Z Z) Z) (N E490 Z Z)))) (N (C58 P) (N C90 (N C154 (N D282 (N F538 Z Z) Z) (N D410 Z Z)) (N C218 (N D346 (N F602 Z Z) Z) (N E474 Z Z))) (N C122 (N C186 (N D314 (N (F570 P) Z Z) Z) (N E442 Z Z)) (N (D250 P) (N D378 (N F634 Z Z) Z) (N E506 Z Z)))))) (N B14 (N C22 (N C38 (N C70 (N C134 (N D262 (N E518 Z Z) Z) (N D390 (N F646 Z Z) Z)) (N C198 (N D326 (N F582 Z Z) Z) (N E454 Z Z))) (N C102 (N C166 (N D294 (N F550 Z Z) Z) (N D422 Z Z)) (N C230 (N D358 (N F614 Z Z) Z) (N E486 Z Z)))) (N C54 (N C86 (N C150 (N D278 (N E534 Z Z) Z) (N D406 Z Z)) (N C214 (N D342 (N F598 Z Z) Z) (N E470 Z Z))) (N C118 (N C182 (N D310 (N F566 Z Z) Z) (N E438 Z Z)) (N C246 (N D374 (N F630 Z Z) Z) (N E502 Z Z))))) (N (C30 P) (N C46 (N C78 (N C142 (N D270 (N E526 Z Z) Z) (N D398 Z Z)) (N C206 (N D334 (N F590 Z Z) Z) (N E462 Z Z))) (N C110 (N C174 (N D302 (N F558 Z Z) Z) (N (D430 P) Z Z)) (N C238 (N D366 (N F622 Z Z) Z) (N E494 Z Z)))) (N C62 (N (C94 P) (N C158 (N D286 (N F542 Z Z) Z) (N D414 Z Z)) (N C222 (N D350 (N F606 Z Z) Z) (N E478 Z Z))) (N C126 (N C190 (N D318 (N F574 Z Z) Z) (N E446 Z Z)) (N D254 (N D382 (N F638 Z Z) Z) (N E510 Z Z)))))))))
noncomputable def zSt20 (w : World) (os : OsState) : SharedT := ⟨zT20 w.params, 653, ⟨[], [], [], 0, [], [], false, #[], [], 0, false, false, false, 0, [2000, 10, 10], false, 0, true, [], [], 0, false⟩, #[], ⟨0, 0, 0, 0⟩, 1055, os⟩
noncomputable def zT29 (P : Params) : BT := (N (boot_o_0 P) (N (boot_o_1 P) (N (G3 P) (N (boot_o_7 P) (N C15 (N C31 (N C63 (N C127 (N D255 (N E511 Z Z) Z) (N D383 (N F639 Z Z) Z)) (N C191 (N D319 (N F575 Z Z) Z) (N E447 (N G703 Z Z) Z))) (N C95 (N C159 (N D287 (N F543 Z Z) Z) (N D415 (N G671 Z Z) Z)) (N C223 (N D351 (N F607 Z Z) Z) (N E479 Z Z)))) (N C47 (N (C79 P) (N C143 (N D271 (N E527 Z Z) Z) (N D399 (N G655 Z Z) Z)) (N C207 (N D335 (N F591 Z Z) Z) (N E463 Z Z))) (N C111 (N C175 (N D303 (N F559 Z Z) Z) (N D431 (N G687 Z Z) Z)) (N C239 (N D367 (N F623 Z Z) Z) (N E495 Z Z))))) (N C23 (N C39 (N C71 (N C135 (N D263 (N E519 Z Z) Z) (N D391 (N F647 Z Z) Z)) (N C199 (N D327 (N F583 Z Z) Z) (N E455 Z Z))) (N C103 (N C167 (N D295 (N F551 Z Z) Z) (N D423 (N G679 Z Z) Z)) (N C231 (N D359 (N F615 Z Z) Z) (N E487 Z Z)))) (N C55 (N C87 (N C151 (N D279 (N F535 Z Z) Z) (N D407 (N G663 Z Z) Z)) (N C215 (N D343 (N F599 Z Z) Z) (N E471 Z Z))) (N C119 (N C183 (N D311 (N F567 Z Z) Z) (N E439 (N G695 Z Z) Z)) (N C247 (N D375 (N F631 Z Z) Z) (N E503 Z Z)))))) (N B11 (N C19 (N C35 (N C67 (N C131 (N D259 (N E515 Z Z) Z) (N D387 (N F643 Z Z) Z)) (N C195 (N D323 (N F579 Z Z) Z) (N E451 Z Z))) (N C99 (N C163 (N D291 (N F547 Z Z) Z) (N D419 (N G675 Z Z) Z)) (N C227 (N D355 (N F611 Z Z) Z) (N E483 Z Z)))) (N C51 (N C83 (N C147 (N D275 (N (E531 P) Z Z) Z) (N D403 (N G659 Z Z) Z)) (N C211 (N D339 (N F595 Z Z) Z) (N E467 Z Z))) (N C115 (N C179 (N D307 (N F563 Z Z) Z) (N E435 (N G691 Z Z) Z)) (N F243 (N D371 (N F627 Z Z) Z) (N E499 Z Z))))) (N C27 (N C43 (N C75 (N C139 (N D267 (N E523 Z Z) Z) (N D395 (N F651 Z Z) Z)) (N C203 (N D331 (N F587 Z Z) Z) (N (E459 P) Z Z))) (N C107 (N C171 (N D299 (N F555 Z Z) Z) (N D427 (N G683 Z Z) Z)) (N C235 (N D363 (N F619 Z Z) Z) (N E491 Z Z)))) (N C59 (N C91 (N C155 (N (D283 P) (N F539 Z Z) Z) (N D411 (N G667 Z Z) Z)) (N C219 (N D347 (N F603 Z Z) Z) (N E475 Z Z))) (N C123 (N C187 (N D315 (N F571 Z Z) Z) (N (E443 P) (N G699 Z Z) Z)) (N D251 (N D379 (N F635 Z Z) Z) (N E507 Z Z))))))) (N (boot_o_5 P) (N (boot_o_9 P) (N C17 (N C33 (N C65 (N C129 (N (D257 P) (N E513 Z Z) Z) (N D385 (N F641 Z Z) Z)) (N C193 (N D321 (N F577 Z Z) Z) (N E449 (N G705 Z Z) Z))) (N C97 (N C161 (N D289 (N F545 Z Z) Z) (N D417 (N G673 Z Z) Z)) (N C225 (N D353 (N F609 Z Z) Z) (N E481 Z Z)))) (N C49 (N C81 (N (C145 P) (N (D273 P) (N E529 Z Z) Z) (N D401 (N G657 Z Z) Z)) (N C209 (N D337 (N F593 Z Z) Z) (N E465 Z Z))) (N C113 (N C177 (N D305 (N F561 Z Z) Z) (N D433 (N G689 Z Z) Z)) (N C241 (N D369 (N F625 Z Z) Z) (N E497 Z Z))))) (N C25 (N C41 (N (C73 P) (N C137 (N D265 (N E521 Z Z) Z) (N D393 (N (F649 P) Z Z) Z)) (N C201 (N D329 (N F585 Z Z) Z) (N E457 Z Z))) (N (C105 P) (N C169 (N D297 (N F553 Z Z) Z) (N D425 (N G681 Z Z) Z)) (N C233 (N D361 (N F617 Z Z) Z) (N E489 Z Z)))) (N C57 (N C89 (N C153 (N D281 (N (F537 P) Z Z) Z) (N D409 (N G665 Z Z) Z)) (N C217 (N D345 (N F601 Z Z) Z) (N E473 Z Z))) (N C121 (N C185 (N D313 (N F569 Z Z) Z) (N E441 (N G697 Z Z) Z)) (N D249 (N D377 (N F633 Z Z) Z) (N E505 Z Z)))))) (N B13 (N C21 (N (C37 P) (N C69 (N C133 (N D261 (N E517 Z Z) Z) (N D389 (N F645 Z Z) Z)) (N C197 (N D325 (N F581 Z Z) Z) (N E453 Z Z))) (N C101 (N C165 (N D293 (N F549 Z Z) Z) (N D421 (N G677 Z Z) Z)) (N C229 (N D357 (N F613 Z Z) Z) (N E485 Z Z)))) (N C53 (N C85 (N C149 (N D277 (N E533 Z Z) Z) (N D405 (N G661 Z Z) Z)) (N C213 (N D341 (N F597 Z Z) Z) (N (E469 P) Z Z))) (N C117 (N C181 (N D309 (N F565 Z Z) Z) (N E437 (N G693 Z Z) Z)) (N C245 (N D373 (N F629 Z Z) Z) (N E501 Z Z))))) (N C29 (N C45 (N C77 (N C141 (N D269 (N E525 Z Z) Z) (N D397 (N G653 Z Z) Z)) (N C205 (N D333 (N F589 Z Z) Z) (N E461 Z Z))) (N C109 (N C173 (N D301 (N F557 Z Z) Z) (N D429 (N G685 Z Z) Z)) (N C237 (N D365 (N F621 Z Z) Z) (N E493 Z Z)))) (N C61 (N C93 (N C157 (N D285 (N F541 Z Z) Z) (N D413 (N G669 Z Z) Z)) (N C221 (N D349 (N F605 Z Z) Z) (N E477 Z Z))) (N C125 (N C189 (N D317 (N F573 Z Z) Z) (N E445 (N G701 Z Z) Z)) (N D253 (N D381 (N F637 Z Z) Z) (N E509 Z Z)))))))) (N (boot_o_2 P) (N (boot_o_4 P) (N (boot_o_8 P) (N C16 (N C32 (N C64 (N C128 (N D256 (N E512 Z Z) Z) (N D384 (N F640 Z Z) Z)) (N C192 (N D320 (N F576 Z Z) Z) (N E448 (N G704 Z Z) Z))) (N C96 (N C160 (N D288 (N (F544 P) Z Z) Z) (N D416 (N G672 Z Z) Z)) (N C224 (N D352 (N F608 Z Z) Z) (N E480 Z Z)))) (N C48 (N C80 (N C144 (N D272 (N E528 Z Z) Z) (N D400 (N G656 Z Z) Z)) (N C208 (N D336 (N F592 Z Z) Z) (N E464 Z Z))) (N C112 (N C176 (N D304 (N (F560 P) Z Z) Z) (N D432 (N G688 Z Z) Z)) (N C240 (N D368 (N F624 Z Z) Z) (N E496 Z Z))))) (N (C24 P) (N C40 (N C72 (N C136 (N D264 (N E520 Z Z) Z) (N D392 (N F648 Z Z) Z)) (N C200 (N D328 (N F584 Z Z) Z) (N E456 Z Z))) (N C104 (N C168 (N D296 (N F552 Z Z) Z) (N D424 (N G680 Z Z) Z)) (N C232 (N D360 (N F616 Z Z) Z) (N E488 Z Z)))) (N C56 (N C88 (N C152 (N D280 (N F536 Z Z) Z) (N D408 (N G664 Z Z) Z)) (N C216 (N D344 (N F600 Z Z) Z) (N E472 Z Z))) (N C120 (N C184 (N D312 (N F568 Z Z) Z) (N E440 (N G696 Z Z) Z)) (N D248 (N D376 (N F632 Z Z) Z) (N E504 Z Z)))))) (N G12 (N C20 (N C36 (N C68 (N C132 (N D260 (N E516 Z Z) Z) (N D388 (N F644 Z Z) Z)) (N C196 (N D324 (N F580 Z Z) Z) (N E452 Z Z))) (N C100 (N C164 (N D292 (N F548 Z Z) Z) (N D420 (N G676 Z Z) Z)) (N C228 (N D356 (N F612 Z Z) Z) (N E484 Z Z)))) (N (C52 P) (N C84 (N C148 (N D276 (N E532 Z Z) Z) (N D404 (N G660 Z Z) Z)) (N C212 (N D340 (N F596 Z Z) Z) (N E468 Z Z))) (N C116 (N C180 (N D308 (N F564 Z Z) Z) (N (E436 P) (N G692 Z Z) Z)) (N C244 (N D372 (N F628 Z Z) Z) (N E500 Z Z))))) (N C28 (N C44 (N C76 (N C140 (N D268 (N E524 Z Z) Z) (N D396 (N F652 Z Z) Z)) (N C204 (N D332 (N F588 Z Z) Z) (N E460 Z Z))) (N C108 (N C172 (N D300 (N F556 Z Z) Z) (N D428 (N G684 Z Z) Z)) (N C236 (N D364 (N F620 Z Z) Z) (N E492 Z Z)))) (N C60 (N C92 (N C156 (N D284 (N F540 Z Z) Z) (N D412 (N G668 Z Z) Z)) (N C220 (N D348 (N F604 Z Z) Z) (N E476 Z Z))) (N C124 (N C188 (N D316 (N F572 Z Z) Z) (N E444 (N G700 Z Z) Z)) (N D252 (N D380 (N F636 Z Z) Z) (N E508 Z Z))))))) (N (boot_o_6 P) (N (boot_o_10 P) (N C18 (N C34 (N C66 (N C130 (N D258 (N E514 Z Z) Z) (N D386 (N F642 Z Z) Z)) (N C194 (N D322 (N F578 Z Z) Z) (N E450 (N G706 Z Z) Z))) (N C98 (N C162 (N D290 (N F546 Z Z) Z) (N D418 (N G674 Z Z) Z)) (N C226 (N D354 (N F610 Z Z) Z) (N E482 Z Z)))) (N C50 (N C82 (N C146 (N D274 (N E530 Z Z) Z) (N D402 (N G658 Z Z) Z)) (N C210 (N D338 (N F594 Z Z) Z) (N E466 Z Z))) (N C114 (N C178 (N D306 (N F562 Z Z) Z) (N E434 (N G690 Z Z) Z)) (N (C242 P) (N D370 (N F626 Z Z) Z) (N E498 Z Z))))) (N C26 (N C42 (N C74 (N C138 (N D266 (N E522 Z Z) Z) (N D394 (N F650 Z Z) Z)) (N C202 (N D330 (N F586 Z Z) Z) (N E458 Z Z))) (N C106 (N C170 (N D298 (N F554 Z Z) Z) (N D426 (N G682 Z Z) Z)) (N C234 (N D362 (N F618 Z Z) Z) (N E490 Z Z)))) (N (C58 P) (N C90 (N C154 (N D282 (N F538 Z Z) Z) (N D410 (N G666 Z Z) Z)) (N C218 (N D346 (N F602 Z Z) Z) (N E474 Z Z))) (N C122 (N C186 (N D314 (N (F570 P) Z Z) Z) (N E442 (N G698 Z Z) Z)) (N (D250 P) (N D378 (N F634 Z Z) Z) (N E506 Z Z)))))) (N B14 (N C22 (N C38 (N C70 (N C134 (N D262 (N E518 Z Z) Z) (N D390 (N F646 Z Z) Z)) (N C198 (N D326 (N F582 Z Z) Z) (N E454 Z Z))) (N C102 (N C166 (N D294 (N F550 Z Z) Z) (N D422 (N G678 Z Z) Z)) (N C230 (N D358 (N F614 Z Z) Z) (N E486 Z Z)))) (N C54 (N C86 (N C150 (N D278 (N E534 Z Z) Z) (N D406 (N G662 Z Z) Z)) (N C214 (N D342 (N F598 Z Z) Z) (N E470 Z Z))) (N C118 (N C182 (N D310 (N F566 Z Z) Z) (N E438 (N G694 Z Z) Z)) (N C246 (N D374 (N F630 Z Z) Z) (N E502 Z Z))))) (N (C30 P) (N C46 (N C78 (N C142 (N D270 (N E526 Z Z) Z) (N D398 (N G654 Z Z) Z)) (N C206 (N D334 (N F590 Z Z) Z) (N E462 Z Z))) (N C110 (N C174 (N D302 (N F558 Z Z) Z) (N (D430 P) (N G686 Z Z) Z)) (N C238 (N D366 (N F622 Z Z) Z) (N E494 Z Z)))) (N C62 (N (C94 P) (N C158 (N D286 (N F542 Z Z) Z) (N D414 (N G670 Z Z) Z)) (N C222 (N D350 (N F606 Z Z) Z) (N E478 Z Z))) (N C126 (N C190 (N D318 (N F574 Z Z) Z) (N E446 (N G702 Z Z) Z)) (N D254 (N D382 (N F638 Z Z) Z) (N E510 Z Z)))))))))
noncomputable def zSt29 (w : World) (os : OsState) : SharedT := ⟨zT29 w.params, 707, ⟨[], [], [], 0, [], [], false, #[], [], 0, false, false, false, 0, [2000, 10, 10], false, 0, true, [], [], 0, false⟩, #[], ⟨0, 0, 0, 0⟩, 1121, os⟩
def envT : Env := { scope := PP.main.scope, locals := mainNs, globals := mainNs, cells := [], code := (.ref 13), frame := some 14 }
def qT : Pos := ⟨0, 0, 0, 0⟩
def annT : Option Value := (some (.ref 6))
abbrev bodyT : List Stmt := behindTheImports PP
abbrev codeT : Code := .body bodyT envT
noncomputable def thT : Thread := ⟨denote treeTable codeT, codeT, ⟨0, 0, 0, 0⟩, [topFrame qT]⟩
noncomputable def thQ : Thread := ⟨denQ tabQ codeT, codeT, ⟨0, 0, 0, 0⟩, [topFrame qT]⟩
theorem th_eq : thQ = thT := by
  unfold thQ thT
  rw [← denQ_eq, ← tabQ_eq]
theorem preQ (w : World) (os : OsState) : preF (stepQ (denQ tabQ) PP w) 11 annT 12 PP w os = some (zStA w os, thQ) := by kernel_rfl
theorem preT (w : World) (os : OsState) : preF (stepQ (denQ tabQ) PP w) 11 annT 12 PP w os = some (zStA w os, thT) := by
  rw [← th_eq]
  exact preQ w os
theorem sizeT (w : World) : (boot_heap w.params).objs.size = 11 := by kernel_rfl
theorem annT_ok (w : World) : bootAnn w = annT := by kernel_rfl
theorem blockT (w : World) (os : OsState) : segRun treeTable PP w 11 annT 1 1 (zStA w os).abs (blockOf bodyT envT codeT ⟨0, 0, 0, 0⟩ [topFrame qT]) = some (.next, (zStA w os).abs, codeT, ⟨0, 0, 0, 0⟩) := by kernel_rfl
theorem seg17f (w : World) : ∀ os : OsState, segF (stepQ (denQ tabQ) PP (w.withFollow "special-get-raises" false)) 11 annT 1 2098 (zStA (w.withFollow "special-get-raises" false) os) (piecesOf (sub bodyT 0 18) envT codeT ⟨0, 0, 0, 0⟩ [topFrame qT]) = some (.next, zSt17 (w.withFollow "special-get-raises" false) os, codeT, ⟨53, 0, 117, 19⟩) := by
  intro os
  kernel_rfl
theorem seg17t (w : World) : ∀ os : OsState, segF (stepQ (denQ tabQ) PP (w.withFollow "special-get-raises" true)) 11 annT 1 2098 (zStA (w.withFollow "special-get-raises" true) os) (piecesOf (sub bodyT 0 18) envT codeT ⟨0, 0, 0, 0⟩ [topFrame qT]) = some (.next, zSt17 (w.withFollow "special-get-raises" true) os, codeT, ⟨53, 0, 117, 19⟩) := by
  intro os
  kernel_rfl
theorem seg17 (w : World) : ∀ os : OsState, segF (stepQ (denQ tabQ) PP (w)) 11 annT 1 2098 (zStA (w) os) (piecesOf (sub bodyT 0 18) envT codeT ⟨0, 0, 0, 0⟩ [topFrame qT]) = some (.next, zSt17 (w) os, codeT, ⟨53, 0, 117, 19⟩) := byRow2 "special-get-raises" (P := fun w => ∀ os : OsState, segF (stepQ (denQ tabQ) PP (w)) 11 annT 1 2098 (zStA (w) os) (piecesOf (sub bodyT 0 18) envT codeT ⟨0, 0, 0, 0⟩ [topFrame qT]) = some (.next, zSt17 (w) os, codeT, ⟨53, 0, 117, 19⟩)) seg17f seg17t w
theorem seg18 (w : World) : ∀ os : OsState, segF (stepQ (denQ tabQ) PP (w)) 11 annT 1 2300 (zSt17 (w) os) (piecesOf (sub bodyT 18 1) envT codeT ⟨53, 0, 117, 19⟩ [topFrame qT]) = some (.next, zSt18 (w) os, codeT, ⟨118, 0, 198, 28⟩) := by
  intro os
  kernel_rfl
theorem seg19 (w : World) : ∀ os : OsState, segF (stepQ (denQ tabQ) PP (w)) 11 annT 1 1264 (zSt18 (w) os) (piecesOf (sub bodyT 19 1) envT codeT ⟨118, 0, 198, 28⟩ [topFrame qT]) = some (.next, zSt19 (w) os, codeT, ⟨199, 0, 239, 29⟩) := by
  intro os
  kernel_rfl
theorem seg20 (w : World) : ∀ os : OsState, segF (stepQ (denQ tabQ) PP (w)) 11 annT 1 1469 (zSt19 (w) os) (piecesOf (sub bodyT 20 1) envT codeT ⟨199, 0, 239, 29⟩ [topFrame qT]) = some (.next, zSt20 (w) os, codeT, ⟨240, 0, 288, 29⟩) := by
  intro os
  kernel_rfl
theorem seg29 (w : World) : ∀ os : OsState, segF (stepQ (denQ tabQ) PP (w)) 11 annT 1 248 (zSt20 (w) os) (piecesOf (sub bodyT 21 9) envT codeT ⟨240, 0, 288, 29⟩ [topFrame qT]) = some (.next, zSt29 (w) os, codeT, ⟨341, 0, 366, 142⟩) := by
  intro os
  kernel_rfl
theorem finT (w : World) (os : OsState) : goF (stepQ (denQ tabQ) PP w) 11 annT 2 (zSt29 w os) (restOf [] envT codeT ⟨341, 0, 366, 142⟩ [topFrame qT]) = some (zSt29 w os) := by kernel_rfl
theorem bodyT_eq : bodyT = (sub bodyT 0 18 ++ (sub bodyT 18 1 ++ (sub bodyT 19 1 ++ (sub bodyT 20 1 ++ (sub bodyT 21 9 ++ []))))) := by kernel_rfl
theorem restT (w : World) (os : OsState) : topRun treeTable PP w 11 annT (1 + (2098 + (2300 + (1264 + (1469 + (248 + (2))))))) (zStA w os).abs thT = some (zSt29 w os).abs := by
  have z : topRun treeTable PP w 11 annT (2098 + (2300 + (1264 + (1469 + (248 + (2)))))) (zStA w os).abs (restOf (sub bodyT 0 18 ++ (sub bodyT 18 1 ++ (sub bodyT 19 1 ++ (sub bodyT 20 1 ++ (sub bodyT 21 9 ++ []))))) envT codeT ⟨0, 0, 0, 0⟩ [topFrame qT]) = some (zSt29 w os).abs := piece_app (seg_ok (seg17 w os)) (piece_app (seg_ok (seg18 w os)) (piece_app (seg_ok (seg19 w os)) (piece_app (seg_ok (seg20 w os)) (piece_app (seg_ok (seg29 w os)) (fin_ok (finT w os))))))
  rw [← bodyT_eq] at z
  exact piece_block (blockT w os) z
def lo0 : List Str := ["_wall", "RoomsError", "NoSwitch", "NoValue", "NoBook", "is_whole", "ORDERS", "LEAST_EPOCHS", "MOST_EPOCHS", "MOST_COUNTS", "values_at", "is_same", "is_value", "care", "Book", "EpochBook", "LookBook", "StillBook", "is_book", "look_at_book", "values_of", "_law_odd", "_law_epochs", "_law_others", "_law_word"]
def loA : List Str := lo0
def adL : List Addr := [2, 3, 6, 4, 21, 31, 53, 74, 95, 104, 105, 123, 130, 135, 142, 243, 431, 532, 650, 659, 666, 673, 680, 687, 694, 701, 706, 0, 20, 30, 52, 73, 94, 103, 106, 107, 108, 109, 110, 111, 112, 113, 114, 115, 116, 122, 129, 134, 141, 242, 430, 531, 649, 658, 665, 672, 679, 686, 693, 700, 705, 15, 16, 17, 18, 19, 29, 32, 50, 51, 71, 72, 92, 93, 98, 99, 100, 101, 102, 117, 118, 119, 120, 121, 124, 125, 126, 127, 128, 131, 132, 133, 136, 137, 138, 139, 140, 150, 157, 164, 172, 179, 184, 191, 198, 205, 212, 219, 226, 233, 240, 241, 244, 245, 256, 265, 274, 284, 292, 309, 326, 343, 360, 377, 394, 411, 428, 429, 442, 451, 460, 470, 478, 495, 512, 529, 530, 543, 552, 561, 571, 579, 596, 613, 630, 647, 648, 653, 654, 655, 656, 657, 660, 661, 662, 663, 664, 667, 668, 669, 670, 671, 674, 675, 676, 677, 678, 681, 682, 683, 684, 685, 688, 689, 690, 691, 692, 695, 696, 697, 698, 699, 702, 703, 704, 49, 38, 70, 59, 91, 80, 156, 163, 171, 178, 183, 190, 197, 204, 211, 218, 225, 232, 239, 264, 257, 251, 272, 273, 282, 283, 291, 299, 308, 316, 325, 333, 342, 350, 359, 367, 376, 384, 393, 401, 410, 418, 427, 450, 443, 437, 458, 459, 468, 469, 477, 485, 494, 502, 511, 519, 528, 551, 544, 538, 559, 560, 569, 570, 578, 586, 595, 603, 612, 620, 629, 637, 646, 44, 45, 46, 47, 48, 65, 66, 67, 68, 69, 86, 87, 88, 89, 90, 151, 152, 153, 154, 155, 158, 159, 160, 161, 162, 170, 173, 174, 175, 176, 177, 180, 181, 182, 185, 186, 187, 188, 189, 192, 193, 194, 195, 196, 199, 200, 201, 202, 203, 206, 207, 208, 209, 210, 213, 214, 215, 216, 217, 220, 221, 222, 223, 224, 227, 228, 229, 230, 231, 234, 235, 236, 237, 238, 259, 260, 261, 262, 263, 271, 275, 281, 285, 286, 287, 288, 289, 290, 298, 307, 315, 324, 332, 341, 349, 358, 366, 375, 383, 392, 400, 409, 417, 426, 445, 446, 447, 448, 449, 457, 461, 467, 471, 472, 473, 474, 475, 476, 484, 493, 501, 510, 518, 527, 546, 547, 548, 549, 550, 558, 562, 568, 572, 573, 574, 575, 576, 577, 585, 594, 602, 611, 619, 628, 636, 645, 165, 166, 167, 168, 169, 266, 267, 268, 269, 270, 276, 277, 278, 279, 280, 293, 294, 295, 296, 297, 302, 303, 304, 305, 306, 310, 311, 312, 313, 314, 319, 320, 321, 322, 323, 327, 328, 329, 330, 331, 336, 337, 338, 339, 340, 344, 345, 346, 347, 348, 353, 354, 355, 356, 357, 361, 362, 363, 364, 365, 370, 371, 372, 373, 374, 378, 379, 380, 381, 382, 387, 388, 389, 390, 391, 395, 396, 397, 398, 399, 404, 405, 406, 407, 408, 412, 413, 414, 415, 416, 421, 422, 423, 424, 425, 452, 453, 454, 455, 456, 462, 463, 464, 465, 466, 479, 480, 481, 482, 483, 488, 489, 490, 491, 492, 496, 497, 498, 499, 500, 505, 506, 507, 508, 509, 513, 514, 515, 516, 517, 522, 523, 524, 525, 526, 553, 554, 555, 556, 557, 563, 564, 565, 566, 567, 580, 581, 582, 583, 584, 589, 590, 591, 592, 593, 597, 598, 599, 600, 601, 606, 607, 608, 609, 610, 614, 615, 616, 617, 618, 623, 624, 625, 626, 627, 631, 632, 633, 634, 635, 640, 641, 642, 643, 644]
abbrev hk : Hook := hookL adL spec
def ob (s : SharedT) : AlM := obsLG adL spec (getT s)
theorem ob_eq (s : SharedT) : ob s = hk.obs s.abs := obsLG_eq (getT_eq s)
abbrev qV : Program := view PP [29]
theorem look1 (w : World) (os : OsState) : looksF PP (boot_heap w.params) (zSt29 w os).abs = true := by kernel_rfl
theorem look2 (w : World) (os : OsState) : seenQ qV loA (importedModules PP.main.body) (fun s => xlAt qV [] s && recOk Rr.toRowW.records s) (zSt29 w os).abs = openGood qV loA := by kernel_rfl
theorem look3a (w : World) (os : OsState) : ob (zSt29 w os) = hk.val w := by kernel_rfl
theorem leftT : LeftO PP qV loA (fun s => xlAt qV [] s && recOk Rr.toRowW.records s) hk.obs hk.val 8093 true :=
  left_pc (A := zStA) (Z := zSt29) (th := thT) (k0 := 12) (M1 := 1 + (2098 + (2300 + (1264 + (1469 + (248 + (2))))))) (by kernel_rfl) (by decide +kernel) (fun s => by kernel_rfl) (by decide +kernel) sizeT annT_ok preT restT look1 look2 fun w os => by rw [← ob_eq]; exact look3a w os
theorem facts {w : World} {K : PySem.W.Frag} {h : Heap} {mg : Str → Option Value} {f : Addr} (X : K.In h) (Gn : h.Ns mainGlobals mg) (hfa : mg ("law" : Str) = some (.ref f)) (c : SaysM spec w K) :
    ∃ fd : FuncData, (∀ (s : Shared) (v : Value), BindsTo s fd ⟨[v], []⟩ [("_law_script", v)]) ∧ ∀ base : Heap, K.In base → base.Ns mainGlobals mg → FnOkG P w K mg base 28 f fd ["_law_script"] (spM (GxOf K mg nm) 1 f_law) := by
  have E : Ev spec w K mg := ⟨c, h, X, Gn⟩
  have e := hfa.symm.trans (glo_ok X Gn (c.ex 101 (f := fun K => (Fa.glo "law").ok K) rfl))
  cases e
  have b := FunD.bindsA (ps := ["_law_script"]) (c.def_ 18 (d := gd_law) rfl) fun _ _ _ _ _ _ us hl => match us, hl with | [_], _ => rfl
  exact ⟨_, fun s v => b s [v] rfl, fun base _ _ => (ok_law (base := base) E).ok⟩
end Lw
open PySem PySem.W PySem.Calls PyProof.Rows
theorem PySem.Challenge.cw_epochrooms_k05_books_refused_holds : PySem.Challenge.rw_epochrooms_k05_books_refused.Holds := by
  w_on; o_law
  refine MHP.head_left (r := OpenLaw.row PySem.Challenge.rw_epochrooms_k05_books_refused) (q := view (OpenLaw.row PySem.Challenge.rw_epochrooms_k05_books_refused).prog [29]) (H := Lw.hk) (loose := Lw.loA) (d := HandSHeadRun.topDef (OpenLaw.row PySem.Challenge.rw_epochrooms_k05_books_refused).prog 29) (kwd := []) Lw.leftT
    (by kernel_rfl) (by kernel_rfl) (by kernel_rfl) (by rfl) (by first | assumption | decide +kernel) (by decide +kernel) ⟨rfl, rfl, rfl, rfl, rfl, by decide +kernel⟩ ?hw ?hc
  case hw => w_witness2
  case hc =>
    refine ML.walk_ofG (l := PySem.Challenge.rw_epochrooms_k05_books_refused) (n := 63) (k := 28) (x := "_law_script") rfl (by decide) (by kernel_rfl) ⟨rfl, by decide, by decide⟩ ?F
    intro w mg fa h Y G hmg0
    obtain ⟨K, KX, c⟩ := Y
    have hmg : mg ("law" : PySem.Str) = some (.ref fa) := by
      have e : (HandSHeadRun.topDef (OpenLaw.row PySem.Challenge.rw_epochrooms_k05_books_refused).prog 29).name = ("law" : PySem.Str) := by kernel_rfl
      rw [← e]
      exact hmg0
    obtain ⟨fd, hb, hF⟩ := Lw.facts (w := w) KX G hmg c
    exact ⟨K, fd, _, KX, hb, fun H a ns hl hO hS => by
      obtain ⟨h', e⟩ := Lw.pure_law ns hl
      exact ML.law_sp (c.ex 102 (f := ML.noLstB) rfl) hO hS e, hF⟩
